import PyProof.Rows.All
import Wide.All
import OpenK.AllK
import Wide.FinOn
import HandS.ForMost
import HandS.NoneIn
import HandS.Conv
import HandS.IsInst
import HandS.Wide
import HandS.SortInts
import HandS.Walk
import KE.DataMinMax
import HandS.Text
import HandS.Zip
import HandS.Exc
import PySem.Challenge.RW_tiehues_k78_nets_read
set_option Elab.async false
set_option linter.all false
set_option maxRecDepth 100000
set_option maxHeartbeats 4000000
set_option synthInstance.maxHeartbeats 0
set_option synthInstance.maxSize 1000000
namespace Cm
open PySem PySem.Spec PyProof.Rows L2

/-! ### named readings -/
def rLen (K : PySem.W.Frag) : List V → Hp → VK → Prop := fun xs H Q => ∃ p ys, xs = [.ref p] ∧ (SqL K H p ys ∨ SqT K H p ys) ∧ Q (.int ys.length) H
theorem q_len {X : Cx} : CallR X (.builtin "len") (rLen X.K) := call_len_seq
def rListOf (K : PySem.W.Frag) : List V → Hp → VK → Prop := fun xs H Q => ∃ p ys, xs = [.ref p] ∧ (SqL K H p ys ∨ SqT K H p ys) ∧ ∀ l, H l = none → Q (.ref l) (upd H l (.lst ys))
theorem q_listOf {X : Cx} : CallR X (.type "list") (rListOf X.K) := call_list_of
def rMax2 : List V → Hp → VK → Prop := fun xs H Q => ∃ i j, xs = [.int i, .int j] ∧ Q (.int (if j > i then j else i)) H
theorem q_max2 {X : Cx} (hc : X.calm = true) : CallR X (.builtin "max") rMax2 := call_max2 hc
def rMin2 : List V → Hp → VK → Prop := fun xs H Q => ∃ i j, xs = [.int i, .int j] ∧ Q (.int (if j < i then j else i)) H
theorem q_min2 {X : Cx} (hc : X.calm = true) : CallR X (.builtin "min") rMin2 := call_min2 hc
theorem q_isi {X : Cx} : CallR X (.builtin "isinstance") (rIsi X.K) := call_isi
def rIntOf : List V → Hp → VK → Prop := fun xs H Q => (∃ i, xs = [.int i] ∧ Q (.int i) H) ∨ ∃ k, xs = [.bl k] ∧ Q (.int (if k then 1 else 0)) H
theorem q_intB {X : Cx} : CallR X (.type "int") rIntOf := call_int1
theorem q_intI {X : Cx} : CallR X (.type "int") rIntOf := call_int1

/-! ### operators by names -/
def xAdd : R2 := rI0 fun i j => .int (i + j)
def xSub : R2 := rI0 fun i j => .int (i - j)
def xMul : R2 := rI CMul fun i j => .int (i * j)
def xMulW : R2 := rI CMulW fun i j => .int (i * j)
def xDiv : R2 := rI CDiv fun i j => .int (i / j)
def xDivW : R2 := rI CDivW fun i j => .int (i / j)
def xMod : R2 := rI (fun _ j => 0 < j) fun i j => .int (i % j)
def xPow : R2 := rI CPow fun i j => .int (i ^ j.toNat)
def xLt : R2 := rI0 fun i j => .bl (decide (i < j))
def xLe : R2 := rI0 fun i j => .bl (decide (i ≤ j))
def xGt : R2 := rI0 fun i j => .bl (decide (j < i))
def xGe : R2 := rI0 fun i j => .bl (decide (j ≤ i))
def xNeg : V → Hp → VK → Prop := rU fun i => .int (-i)
def xIsN : R2 := fun x y H Q => y = .non ∧ Q (.bl (decide (x = .non))) H
def xNotN : R2 := fun x y H Q => y = .non ∧ Q (.bl (!decide (x = .non))) H
def xTru (K : PySem.W.Frag) (ta : TE) : TT := fun σ H Q => ta σ H fun x H' => ∃ k, TruV K x H' k ∧ Q k H'

/-! ### xs[i] += e -/
def rGetL (K : PySem.W.Frag) : V → V → Hp → VK → Prop := fun x y H Q => ∃ p xs i v, x = .ref p ∧ y = .int i ∧ SqL K H p xs ∧ 0 ≤ i ∧ atI xs i = some v ∧ Q v H
theorem get_list {X : Cx} : PGet X (rGetL X.K) := by
  intro pins s σ H x y v u Q I rx ry h
  obtain ⟨p, xs, i, z, rfl, rfl, hq, h0, he, q⟩ := h
  cases rx
  obtain ⟨t, rfl⟩ := ry
  obtain ⟨its, r, pl, hz⟩ := I.list hq
  obtain ⟨j, h1, h2, h3, h4, h5⟩ := atI_get he
  obtain ⟨w, ew, rw'⟩ := r.get h2
  have hl := r.length
  have hn := line63
  have fin : EP X pins σ Q w s := ⟨z, H, I, rw', q⟩
  have hj : i.toNat = j := by
    rw [seqIndex_of h0 h5] at h1
    exact Option.some.inj h1
  exact wpAny_getItem_list pl.isList h0 (by omega) (by rw [hj]; simpa using ew) fin
def xAugL (K : PySem.W.Frag) (to ti te : TE) : TS := tAugS to ti te (rGetL K) (ipI fun i j => i + j) rSetL
theorem q_augL {X : Cx} {o i e : Expr} {to ti te : TE} {tpos pos : Pos} (ho : PE X o to) (hi : PE X i ti) (he : PE X e te)
    (ha : ∀ ov iv new, augStore i ov iv new = (do holding [new, ov, iv] (setItem ov iv new); release [new, ov, iv] []; pure .next) := by intros; rfl) : PS X (.AugAssign (.Subscript o i tpos) .Add e pos) (xAugL X.K to ti te) :=
  ps_augS ho hi get_list he ip_add set_list ha

/-! ### constants of the module -/
def g_tok (mg : Str → Option Value) (x : Str) : Tok := match mg x with
  | some (.int _ t) => t
  | _ => default
theorem tok_mk {mg : Str → Option Value} {x : Str} {n : Int} {t : Tok} (h : mg x = some (.int n t)) : mg x = some (.int n (g_tok mg x)) := by
  unfold g_tok
  rw [h]

/-! ### heaps -/
theorem same_new {H : Hp} {p : Addr} {o : HO} (h : H p = none) : Same H (upd H p o) := fun b x e => by
  rw [upd_ne (ne_of_none e h)]
  exact e
theorem same_mut {H H' : Hp} {p : Addr} {o : HO} (e : Same H H') (h : H p = none) : Same H (upd H' p o) := fun a u ha => by
  rw [upd_ne (ne_of_none ha h)]
  exact e a u ha
theorem same_seqT {K : PySem.W.Frag} {H H' : Hp} {a : Addr} {xs : List V} (e : Same H H') (h : SqT K H a xs) : SqT K H' a xs := by
  rcases h with (h | ⟨o, h⟩) | h
  · exact .inl (.inl (e _ _ h))
  · exact .inl (.inr ⟨o, e _ _ h⟩)
  · exact .inr h
theorem sl {K : PySem.W.Frag} {H : Hp} {a : Addr} {xs : List V} (h : H a = some (.lst xs)) : SqL K H a xs := .inl (.inl h)
theorem stp {K : PySem.W.Frag} {H : Hp} {a : Addr} {xs : List V} (h : H a = some (.tup xs)) : SqT K H a xs := .inl (.inl h)
theorem sz {n : Nat} (h : n ≤ 100000) : n ≤ sizeLine := Nat.le_trans h (by decide)
theorem szl {n : Nat} (h : n < 100000) : n < sizeLine := Nat.lt_of_lt_of_le h (by decide)

/-! ### data -/
mutual
theorem dp_same {K : PySem.W.Frag} {H H' : Hp} (e : Same H H') : ∀ {v : V} {d : PyData}, Dp K H v d → Dp K H' v d
  | _, _, .non => .non
  | _, _, .bl b => .bl b
  | _, _, .int i => .int i
  | _, _, .str x => .str x
  | _, _, .lst s r => .lst (e.seq s) (dpa_same e r)
  | _, _, .tup s r => .tup (same_seqT e s) (dpa_same e r)
theorem dpa_same {K : PySem.W.Frag} {H H' : Hp} (e : Same H H') : ∀ {vs : List V} {ds : List PyData}, DpAll K H vs ds → DpAll K H' vs ds
  | _, _, .nil => .nil
  | _, _, .cons h r => .cons (dp_same e h) (dpa_same e r)
end
section
variable {K : PySem.W.Frag} {H : Hp}
theorem dp_int {v : V} {i : Int} (h : Dp K H v (.int i)) : v = .int i := by cases h; rfl
theorem dp_bool {v : V} {b : Bool} (h : Dp K H v (.bool b)) : v = .bl b := by cases h; rfl
theorem dp_str {v : V} {s : Str} (h : Dp K H v (.str s)) : v = .str s := by cases h; rfl
theorem dp_list {v : V} {ds : List PyData} (h : Dp K H v (.list ds)) : ∃ a xs, v = .ref a ∧ SqL K H a xs ∧ DpAll K H xs ds := by
  cases h with | lst s r => exact ⟨_, _, rfl, s, r⟩
theorem dp_tup {v : V} {ds : List PyData} (h : Dp K H v (.tuple ds)) : ∃ a xs, v = .ref a ∧ SqT K H a xs ∧ DpAll K H xs ds := by
  cases h with | tup s r => exact ⟨_, _, rfl, s, r⟩
theorem dp_tup2 {v : V} {c d : PyData} (h : Dp K H v (.tuple [c, d])) : ∃ a x y, v = .ref a ∧ SqT K H a [x, y] ∧ Dp K H x c ∧ Dp K H y d := by
  cases h with | tup s r =>
    cases r with | cons h1 r =>
      cases r with | cons h2 r =>
        cases r
        exact ⟨_, _, _, rfl, s, h1, h2⟩
theorem dp_pair {v : V} {a b : Int} (h : Dp K H v (.tuple [.int a, .int b])) : ∃ p, v = .ref p ∧ SqT K H p [.int a, .int b] := by
  obtain ⟨p, x, y, rfl, s, h1, h2⟩ := dp_tup2 h
  rw [dp_int h1, dp_int h2] at s
  exact ⟨p, rfl, s⟩
theorem dpa_ints : ∀ {ns : List Int} {vs : List V}, DpAll K H vs (ns.map PyData.int) → vs = ns.map V.int
  | [], _, h => by cases h; rfl
  | n :: r, _, h => by
    cases h with | cons h1 h2 => rw [dp_int h1, dpa_ints h2]; rfl
theorem dpa_of_ints : ∀ ns : List Int, DpAll K H (ns.map V.int) (ns.map PyData.int)
  | [] => .nil
  | n :: r => .cons (.int n) (dpa_of_ints r)
theorem dpa_len : ∀ {vs : List V} {ds : List PyData}, DpAll K H vs ds → vs.length = ds.length
  | _, _, .nil => rfl
  | _, _, .cons _ r => by simp [dpa_len r]
theorem dpa_get : ∀ {vs : List V} {ds : List PyData} {i : Nat} {v : V}, DpAll K H vs ds → vs[i]? = some v → ∃ d, ds[i]? = some d ∧ Dp K H v d
  | _, _, _, _, .nil, e => by simp at e
  | _, _, 0, _, .cons h _, e => by simp at e; subst e; exact ⟨_, rfl, h⟩
  | _, _, i + 1, _, .cons _ r, e => by
    obtain ⟨d, h1, h2⟩ := dpa_get (i := i) r (by simpa using e)
    exact ⟨d, by simpa using h1, h2⟩
theorem dpa_get2 : ∀ {vs : List V} {ds : List PyData} {i : Nat} {d : PyData}, DpAll K H vs ds → ds[i]? = some d → ∃ v, vs[i]? = some v ∧ Dp K H v d
  | _, _, _, _, .nil, e => by simp at e
  | _, _, 0, _, .cons h _, e => by simp at e; subst e; exact ⟨_, rfl, h⟩
  | _, _, i + 1, _, .cons _ r, e => by
    obtain ⟨d, h1, h2⟩ := dpa_get2 (i := i) r (by simpa using e)
    exact ⟨d, by simpa using h1, h2⟩
theorem dpa_app {vs ws : List V} {ds es : List PyData} : DpAll K H vs ds → DpAll K H ws es → DpAll K H (vs ++ ws) (ds ++ es)
  | .nil, r => r
  | .cons h t, r => .cons h (dpa_app t r)
/-- a list of ints -/
abbrev dInts (ns : List Int) : PyData := .list (ns.map PyData.int)
theorem dp_ints {v : V} {ns : List Int} (h : Dp K H v (dInts ns)) : ∃ a, v = .ref a ∧ SqL K H a (ns.map V.int) := by
  obtain ⟨a, xs, rfl, s, r⟩ := dp_list h
  rw [dpa_ints r] at s
  exact ⟨a, rfl, s⟩
theorem dp_of_ints {a : Addr} {ns : List Int} (h : SqL K H a (ns.map V.int)) : Dp K H (.ref a) (dInts ns) := .lst h (dpa_of_ints ns)
/-- a pair of ints -/
abbrev dPair (p : Int × Int) : PyData := .tuple [.int p.1, .int p.2]
theorem dp_of_pair {a : Addr} {x y : Int} (h : SqT K H a [.int x, .int y]) : Dp K H (.ref a) (dPair (x, y)) := .tup h (.cons (.int x) (.cons (.int y) .nil))
abbrev dPairs (ps : List (Int × Int)) : PyData := .list (ps.map dPair)
end

theorem dpairs_get {K : PySem.W.Frag} {H : Hp} {xs : List V} {ps : List (Int × Int)} {i : Nat} {x : V} (hxs : DpAll K H xs (ps.map dPair)) (hx : xs[i]? = some x) : ∃ p c, ps[i]? = some p ∧ x = .ref c ∧ SqT K H c [.int p.1, .int p.2] := by
  obtain ⟨d, hd, hdx⟩ := dpa_get hxs hx
  rw [List.getElem?_map] at hd
  obtain ⟨p, hp, rfl⟩ := Option.map_eq_some_iff.mp hd
  obtain ⟨c, rfl, hcs⟩ := dp_pair hdx
  exact ⟨p, c, hp, rfl, hcs⟩
/-- data that may be compared: no dicts, at most n deep -/
def Sh (n : Nat) (d : PyData) : Prop := d.canLay0 = true ∧ d.depth ≤ n
theorem Sh.shaped {n : Nat} {d : PyData} (h : Sh n d) (hn : n ≤ 64) : SeqAt.shaped d = true := by
  unfold SeqAt.shaped
  rw [h.1, decide_eq_true (Nat.le_trans h.2 hn)]; rfl
theorem Sh.mono {n m : Nat} {d : PyData} (h : Sh n d) (hn : n ≤ m) : Sh m d := ⟨h.1, Nat.le_trans h.2 hn⟩
theorem sh_int {n : Nat} {i : Int} : Sh n (.int i) := ⟨rfl, Nat.zero_le _⟩
theorem sh_bool {n : Nat} {b : Bool} : Sh n (.bool b) := ⟨rfl, Nat.zero_le _⟩
theorem sh_none {n : Nat} : Sh n .none := ⟨rfl, Nat.zero_le _⟩
theorem sh_all {n : Nat} : ∀ {ds : List PyData}, (∀ d ∈ ds, Sh n d) → PyData.canLayAll0 ds = true ∧ PyData.depthAll ds ≤ n
  | [], _ => ⟨rfl, Nat.zero_le _⟩
  | d :: r, h => by
    obtain ⟨h1, h2⟩ := sh_all (ds := r) fun x hx => h x (List.mem_cons_of_mem _ hx)
    obtain ⟨h3, h4⟩ := h d List.mem_cons_self
    refine ⟨?_, ?_⟩
    · show (PyData.canLay0 d && PyData.canLayAll0 r) = true
      rw [h3, h1]; rfl
    · show max d.depth (PyData.depthAll r) ≤ n
      omega
theorem sh_list {n : Nat} {ds : List PyData} (h : ∀ d ∈ ds, Sh n d) : Sh (n + 1) (.list ds) := by
  obtain ⟨h1, h2⟩ := sh_all h
  exact ⟨h1, by show PyData.depthAll ds + 1 ≤ n + 1; omega⟩
theorem sh_tup {n : Nat} {ds : List PyData} (h : ∀ d ∈ ds, Sh n d) : Sh (n + 1) (.tuple ds) := by
  obtain ⟨h1, h2⟩ := sh_all h
  exact ⟨h1, by show PyData.depthAll ds + 1 ≤ n + 1; omega⟩
theorem sh_ints {n : Nat} (ns : List Int) : Sh (n + 1) (dInts ns) := sh_list fun d hd => by
  obtain ⟨i, _, rfl⟩ := List.mem_map.mp hd
  exact sh_int
theorem sh_pair {n : Nat} (p : Int × Int) : Sh (n + 1) (dPair p) := sh_tup fun d hd => by
  rcases List.mem_cons.mp hd with rfl | hd
  · exact sh_int
  · rcases List.mem_cons.mp hd with rfl | hd
    · exact sh_int
    · cases hd
theorem sh_pairs {n : Nat} (ps : List (Int × Int)) : Sh (n + 2) (dPairs ps) := sh_list fun d hd => by
  obtain ⟨p, _, rfl⟩ := List.mem_map.mp hd
  exact sh_pair p
theorem sh_two {n : Nat} {c d : PyData} (h1 : Sh n c) (h2 : Sh n d) : Sh (n + 1) (.tuple [c, d]) := sh_tup fun x hx => by
  rcases List.mem_cons.mp hx with rfl | hx
  · exact h1
  · rcases List.mem_cons.mp hx with rfl | hx
    · exact h2
    · cases hx
theorem Sh.refl {n : Nat} {d : PyData} (h : Sh n d) : PyData.eqv d d = true := SeqAt.eqv_refl d h.1
theorem ff_iff {P : Prop} (h : ¬ P) : false = true ↔ P := ⟨fun z => (nomatch z), fun z => (h z).elim⟩
theorem tt_iff {P : Prop} (h : P) : true = true ↔ P := ⟨fun _ => h, fun _ => rfl⟩

theorem ixN_of {n : Nat} {i : Int} (h0 : 0 ≤ i) (h1 : i < n) : ixN n i = some i.toNat := by unfold ixN; rw [if_pos h0, if_pos h1]
theorem map_erase (ns : List Int) (i : Nat) : (ns.map V.int).eraseIdx i = (ns.eraseIdx i).map V.int := by
  induction ns generalizing i with
  | nil => rfl
  | cons x r ih => cases i with
    | zero => rfl
    | succ i => show V.int x :: (r.map V.int).eraseIdx i = _; rw [ih]; rfl
theorem erase_perm {α : Type} (l : List α) (i : Nat) (h : i < l.length) : (l[i] :: l.eraseIdx i).Perm l := by
  induction l generalizing i with
  | nil => exact absurd h (by simp)
  | cons x r ih => cases i with
    | zero => exact List.Perm.refl _
    | succ i =>
      have h' : i < r.length := by simpa using h
      show (r[i] :: x :: r.eraseIdx i).Perm (x :: r)
      exact (List.Perm.swap _ _ _).trans ((ih i h').cons x)
theorem getD_memI {ns : List Int} {i : Int} (h0 : 0 ≤ i) (h1 : i < ns.length) : ns.getD i.toNat 0 ∈ ns := by
  have h : i.toNat < ns.length := by omega
  rw [List.getD_eq_getElem?_getD, List.getElem?_eq_getElem h]
  exact List.getElem_mem h
theorem not_in2 {p a b : Addr} (h1 : p ≠ a) (h2 : p ≠ b) : p ∉ [a, b] := by
  intro z
  rcases List.mem_cons.mp z with z | z
  · exact h1 z
  · rcases List.mem_cons.mp z with z | z
    · exact h2 z
    · cases z

/-! ### readings, step by step -/
section
variable {K : PySem.W.Frag} {σ : L2.St} {H : Hp} {D : Ends} {Q : VK} {ta tb te : TE} {t u : TT} {s1 s2 : TS} {QT : Bool → Hp → Prop} {QA : List V → Hp → Prop} {tr : TA} {QS : L2.St → Hp → Prop}
theorem k_seq {nx : L2.St → Hp → Prop} {rt : VK} {bk ct : L2.St → Hp → Prop} (h : s1 ⟨s2 ⟨nx, rt, bk, ct⟩, rt, bk, ct⟩ σ H) : tSeq s1 s2 ⟨nx, rt, bk, ct⟩ σ H := h
theorem k_nx {nx : L2.St → Hp → Prop} {rt : VK} {bk ct : L2.St → Hp → Prop} (h : nx σ H) : Ends.nx ⟨nx, rt, bk, ct⟩ σ H := h
theorem k_next {nx : L2.St → Hp → Prop} {rt : VK} {bk ct : L2.St → Hp → Prop} (h : nx σ H) : tNext ⟨nx, rt, bk, ct⟩ σ H := h
theorem k_cont {nx : L2.St → Hp → Prop} {rt : VK} {bk ct : L2.St → Hp → Prop} (h : ct σ H) : tCont ⟨nx, rt, bk, ct⟩ σ H := h
theorem k_brk {nx : L2.St → Hp → Prop} {rt : VK} {bk ct : L2.St → Hp → Prop} (h : bk σ H) : tBreak ⟨nx, rt, bk, ct⟩ σ H := h
theorem k_set {nx : L2.St → Hp → Prop} {rt : VK} {bk ct : L2.St → Hp → Prop} {i : Nat} (h : te σ H fun x H1 => nx (σ.set i (some x)) H1) : tAsg te (gName i) ⟨nx, rt, bk, ct⟩ σ H := h
theorem k_asg {nx : L2.St → Hp → Prop} {rt : VK} {bk ct : L2.St → Hp → Prop} {g : TG} (h : te σ H fun x H1 => g x σ H1 nx) : tAsg te g ⟨nx, rt, bk, ct⟩ σ H := h
theorem k_drop {nx : L2.St → Hp → Prop} {rt : VK} {bk ct : L2.St → Hp → Prop} (h : te σ H fun _ H1 => nx σ H1) : tDrop te ⟨nx, rt, bk, ct⟩ σ H := h
theorem k_ret {nx : L2.St → Hp → Prop} {rt : VK} {bk ct : L2.St → Hp → Prop} (h : te σ H rt) : tRet te ⟨nx, rt, bk, ct⟩ σ H := h
theorem k_retN {nx : L2.St → Hp → Prop} {rt : VK} {bk ct : L2.St → Hp → Prop} (h : rt .non H) : tRetN ⟨nx, rt, bk, ct⟩ σ H := h
theorem k_aug {nx : L2.St → Hp → Prop} {rt : VK} {bk ct : L2.St → Hp → Prop} {i : Nat} {f : Int → Int → Int} {a : Int} (e : σ[i]? = some (some (.int a))) (h : te σ H fun y H1 => ipI f (.int a) y H1 fun z H2 => nx (σ.set i (some z)) H2) : tAug i te (ipI f) ⟨nx, rt, bk, ct⟩ σ H := ⟨_, e, h⟩
theorem k_augL {nx : L2.St → Hp → Prop} {rt : VK} {bk ct : L2.St → Hp → Prop} {to ti : TE} (h : to σ H fun o H1 => ti σ H1 fun i H2 => rGetL K o i H2 fun x H3 => te σ H3 fun y H4 => ipI (fun i j => i + j) x y H4 fun z H5 => rSetL o i z H5 fun H6 => nx σ H6) : xAugL K to ti te ⟨nx, rt, bk, ct⟩ σ H := h
theorem k_ipI {f : Int → Int → Int} {a b : Int} (h : Q (.int (f a b)) H) : ipI f (.int a) (.int b) H Q := ⟨a, b, rfl, rfl, h⟩
theorem k_if (h : t σ H fun b H1 => if b = true then s1 D σ H1 else s2 D σ H1) : tIfS t s1 s2 D σ H := h
theorem k_var {i : Nat} {v : V} (e : σ[i]? = some (some v)) (h : Q v H) : tVar i σ H Q := ⟨v, e, h⟩
theorem k_c {v : V} (h : Q v H) : tC v σ H Q := h
theorem k_op {r : R2} (h : ta σ H fun x H1 => tb σ H1 fun y H2 => r x y H2 Q) : tOp r ta tb σ H Q := h
theorem k_un {r : V → Hp → VK → Prop} (h : ta σ H fun x H1 => r x H1 Q) : tUn r ta σ H Q := h
theorem k_I0 {g : Int → Int → V} {i j : Int} (h : Q (g i j) H) : rI0 g (.int i) (.int j) H Q := ⟨i, j, rfl, rfl, h⟩
theorem k_I {C : Int → Int → Prop} {g : Int → Int → V} {i j : Int} (hc : C i j) (h : Q (g i j) H) : rI C g (.int i) (.int j) H Q := ⟨i, j, rfl, rfl, hc, h⟩
theorem k_add {i j : Int} (h : Q (.int (i + j)) H) : xAdd (.int i) (.int j) H Q := ⟨i, j, rfl, rfl, h⟩
theorem k_sub {i j : Int} (h : Q (.int (i - j)) H) : xSub (.int i) (.int j) H Q := ⟨i, j, rfl, rfl, h⟩
theorem k_mul {i j : Int} (hc : CMul i j) (h : Q (.int (i * j)) H) : xMul (.int i) (.int j) H Q := ⟨i, j, rfl, rfl, hc, h⟩
theorem k_mulW {i j : Int} (hc : CMulW i j) (h : Q (.int (i * j)) H) : xMulW (.int i) (.int j) H Q := ⟨i, j, rfl, rfl, hc, h⟩
theorem k_div {i j : Int} (hc : CDiv i j) (h : Q (.int (i / j)) H) : xDiv (.int i) (.int j) H Q := ⟨i, j, rfl, rfl, hc, h⟩
theorem k_divW {i j : Int} (hc : CDivW i j) (h : Q (.int (i / j)) H) : xDivW (.int i) (.int j) H Q := ⟨i, j, rfl, rfl, hc, h⟩
theorem k_mod {i j : Int} (hc : 0 < j) (h : Q (.int (i % j)) H) : xMod (.int i) (.int j) H Q := ⟨i, j, rfl, rfl, hc, h⟩
theorem k_pow {i j : Int} (hc : CPow i j) (h : Q (.int (i ^ j.toNat)) H) : xPow (.int i) (.int j) H Q := ⟨i, j, rfl, rfl, hc, h⟩
theorem k_lt {i j : Int} (h : Q (.bl (decide (i < j))) H) : xLt (.int i) (.int j) H Q := ⟨i, j, rfl, rfl, h⟩
theorem k_le {i j : Int} (h : Q (.bl (decide (i ≤ j))) H) : xLe (.int i) (.int j) H Q := ⟨i, j, rfl, rfl, h⟩
theorem k_gt {i j : Int} (h : Q (.bl (decide (j < i))) H) : xGt (.int i) (.int j) H Q := ⟨i, j, rfl, rfl, h⟩
theorem k_ge {i j : Int} (h : Q (.bl (decide (j ≤ i))) H) : xGe (.int i) (.int j) H Q := ⟨i, j, rfl, rfl, h⟩
theorem k_neg {i : Int} (h : Q (.int (-i)) H) : xNeg (.int i) H Q := ⟨i, rfl, h⟩
theorem k_U {g : Int → V} {i : Int} (h : Q (g i) H) : rU g (.int i) H Q := ⟨i, rfl, h⟩
theorem k_eqI {i j : Int} (h : Q (.bl (decide (i = j))) H) : rEq (.int i) (.int j) H Q := ⟨rfl, by
  have e : decide (V.int i = V.int j) = decide (i = j) := by
    by_cases c : i = j
    · rw [decide_eq_true c, decide_eq_true (by rw [c])]
    · rw [decide_eq_false c, decide_eq_false (fun z => c (V.int.inj z))]
  rw [e]; exact h⟩
theorem k_neI {i j : Int} (h : Q (.bl (!decide (i = j))) H) : rNe (.int i) (.int j) H Q := ⟨rfl, by
  have e : decide (V.int i = V.int j) = decide (i = j) := by
    by_cases c : i = j
    · rw [decide_eq_true c, decide_eq_true (by rw [c])]
    · rw [decide_eq_false c, decide_eq_false (fun z => c (V.int.inj z))]
  rw [e]; exact h⟩
theorem k_test (h : te σ H fun x H1 => ∃ k, x = .bl k ∧ QT k H1) : tTest te σ H QT := h
theorem k_B (h : te σ H fun x H1 => ∃ k, x = .bl k ∧ QT k H1) : tB te σ H QT := h
theorem k_bl {b : Bool} {R : Bool → Prop} (h : R b) : ∃ k, V.bl b = .bl k ∧ R k := ⟨b, rfl, h⟩
theorem k_and (h : t σ H fun c H1 => if c = true then u σ H1 QT else QT false H1) : tAnd t u σ H QT := h
theorem k_or (h : t σ H fun c H1 => if c = true then QT true H1 else u σ H1 QT) : tOr t u σ H QT := h
theorem k_not (h : t σ H fun c H1 => QT (!c) H1) : tNot t σ H QT := h
theorem k_notV (h : ta σ H fun x H1 => ∃ c, x = .bl c ∧ Q (.bl (!c)) H1) : tNotV ta σ H Q := h
theorem k_andV (h : ta σ H fun x H1 => ∃ c, x = .bl c ∧ if c = true then tb σ H1 Q else Q (.bl false) H1) : tAndV ta tb σ H Q := h
theorem k_orV (h : ta σ H fun x H1 => ∃ c, x = .bl c ∧ if c = true then Q (.bl true) H1 else tb σ H1 Q) : tOrV ta tb σ H Q := h
theorem k_cb {r : List V → Hp → VK → Prop} (h : tr σ H fun vs H1 => r vs H1 Q) : tCB r tr σ H Q := h
theorem k_nil (h : QA [] H) : tNil σ H QA := h
theorem k_cons (h : ta σ H fun x H1 => tr σ H1 fun xs H2 => QA (x :: xs) H2) : tCons ta tr σ H QA := h
theorem k_call {sp : Sp} {dvs : List V} {E : XK} (h : tr σ H fun vs H1 => sp (vs ++ dvs) H1 Q E) : tCall sp dvs E tr σ H Q := h
theorem k_len {p : Addr} {ys : List V} (hs : SqL K H p ys) (h : Q (.int ys.length) H) : rLen K [.ref p] H Q := ⟨p, ys, rfl, .inl hs, h⟩
theorem k_len0 {p : Addr} (hs : H p = some (.lst [])) (h : Q (.int 0) H) : rLen K [.ref p] H Q := ⟨p, [], rfl, .inl (sl hs), h⟩
theorem k_lenT {p : Addr} {ys : List V} (hs : SqT K H p ys) (h : Q (.int ys.length) H) : rLen K [.ref p] H Q := ⟨p, ys, rfl, .inr hs, h⟩
theorem k_lenI {p : Addr} {ns : List Int} (hs : SqL K H p (ns.map V.int)) (h : Q (.int ns.length) H) : rLen K [.ref p] H Q := ⟨p, _, rfl, .inl hs, by rw [List.length_map]; exact h⟩
theorem k_list {p : Addr} {ys : List V} (hs : SqL K H p ys) (h : ∀ l, H l = none → Q (.ref l) (upd H l (.lst ys))) : rListOf K [.ref p] H Q := ⟨p, ys, rfl, .inl hs, h⟩
theorem k_lst (h : tr σ H fun xs H1 => xs.length ≤ sizeLine ∧ ∀ p, H1 p = none → Q (.ref p) (upd H1 p (.lst xs))) : tLst tr σ H Q := h
theorem k_tup (h : tr σ H fun xs H1 => xs.length ≤ sizeLine ∧ ∀ p, H1 p = none → Q (.ref p) (upd H1 p (.tup xs))) : tTup tr σ H Q := h
theorem k_new {xs : List V} {R : Addr → Prop} (hn : xs.length ≤ 100000) (h : ∀ p, H p = none → R p) : xs.length ≤ sizeLine ∧ ∀ p, H p = none → R p := ⟨sz hn, h⟩
theorem k_gtup {n : Nat} {g : TGs} {a : Addr} {xs : List V} (hs : SqT K H a xs) (hn : xs.length = n) (h : g xs σ H QS) : gTup K n g (.ref a) σ H QS := ⟨a, xs, rfl, hs, hn, h⟩
theorem k_gunl {n : Nat} {g : TGs} {a : Addr} {xs : List V} (hs : SqL K H a xs) (hn : xs.length = n) (h : g xs σ H QS) : gUnl K n g (.ref a) σ H QS := ⟨a, xs, rfl, hs, hn, h⟩
theorem k_gcons {g : TG} {gs : TGs} {v : V} {r : List V} (h : g v σ H fun σ' H' => gs r σ' H' QS) : gCons g gs (v :: r) σ H QS := ⟨v, r, rfl, h⟩
theorem k_gnil (h : QS σ H) : gNil [] σ H QS := ⟨rfl, h⟩
theorem k_gname {i : Nat} {v : V} (h : QS (σ.set i (some v)) H) : gName i v σ H QS := h
theorem k_gsub {to ti : TE} {ts : TSet} {v : V} (h : to σ H fun o H1 => ti σ H1 fun i H2 => ts o i v H2 fun H3 => QS σ H3) : gSub to ti ts v σ H QS := h
theorem k_setL {p : Addr} {xs : List V} {k : Int} {j : Nat} {v : V} {QH : Hp → Prop} (hp : H p = some (.lst xs)) (hj : ixN xs.length k = some j) (h : QH (upd H p (.lst (xs.set j v)))) : rSetL (.ref p) (.int k) v H QH := ⟨p, xs, k, j, rfl, rfl, hp, hj, h⟩
theorem k_ixL {p : Addr} {xs : List V} {i : Int} {v : V} (hs : SqL K H p xs) (ha : atI xs i = some v) (h : Q v H) : rIxL K (.ref p) (.int i) H Q := ⟨p, xs, i, v, rfl, rfl, hs, ha, h⟩
theorem k_ixT {p : Addr} {xs : List V} {i : Int} {v : V} (hs : SqT K H p xs) (ha : atI xs i = some v) (h : Q v H) : rIxT K (.ref p) (.int i) H Q := ⟨p, xs, i, v, rfl, rfl, hs, ha, h⟩
theorem k_min {p : Addr} {ns : List Int} (hs : SqL K H p (ns.map V.int)) (h0 : 0 < ns.length) (h : ∀ m, m ∈ ns → (∀ y, y ∈ ns → m ≤ y) → Q (.int m) H) : rMin K [.ref p] H Q := ⟨p, ns, rfl, hs, h0, h⟩
theorem k_max {p : Addr} {ns : List Int} (hs : SqL K H p (ns.map V.int)) (h0 : 0 < ns.length) (h : ∀ m, m ∈ ns → (∀ y, y ∈ ns → y ≤ m) → Q (.int m) H) : rMax K [.ref p] H Q := ⟨p, ns, rfl, hs, h0, h⟩
theorem k_popI {p : Addr} {ns : List Int} {i : Int} (hp : H p = some (.lst (ns.map V.int))) (h0 : 0 ≤ i) (h1 : i < ns.length) (h2 : i < 1000000) (h : Q (.int (ns.getD i.toNat 0)) (upd H p (.lst ((ns.eraseIdx i.toNat).map V.int)))) : rPopAt (.ref p) [.int i] H Q := by
  refine ⟨p, _, i, i.toNat, .int (ns.getD i.toNat 0), rfl, rfl, hp, by omega, by omega, ?_, ?_, ?_⟩
  · exact (ixN_seq (ixN_of h0 (by rw [List.length_map]; exact h1))).1
  · have hh : i.toNat < ns.length := by omega
    rw [List.getElem?_map, List.getElem?_eq_getElem hh]
    simp [List.getD_eq_getElem?_getD, List.getElem?_eq_getElem hh]
  · have e : (ns.map V.int).eraseIdx i.toNat = (ns.eraseIdx i.toNat).map V.int := map_erase ns _
    rw [e]; exact h
theorem k_sortedI {a : Addr} {ns : List Int} (hs : SqL K H a (ns.map V.int)) (h : ∀ (ns' : List Int) (p : Addr), ns'.Perm ns → ns'.Pairwise (· ≤ ·) → H p = none → Q (.ref p) (upd H p (.lst (ns'.map V.int)))) : rSortedI K [.ref a] H Q := ⟨a, ns, rfl, hs, h⟩
theorem k_max2 {i j : Int} (h : Q (.int (if j > i then j else i)) H) : rMax2 [.int i, .int j] H Q := ⟨i, j, rfl, h⟩
theorem k_min2 {i j : Int} (h : Q (.int (if j < i then j else i)) H) : rMin2 [.int i, .int j] H Q := ⟨i, j, rfl, h⟩
theorem k_bm {T : String} {r : V → List V → Hp → VK → Prop} (h : ta σ H fun x H1 => tyV K T x H1 ∧ tr σ H1 fun xs H2 => r x xs H2 Q) : tBM K T r ta tr σ H Q := h
theorem k_bm0 {T : String} {r : V → List V → Hp → VK → Prop} (h : ta σ H fun x H1 => tyV K T x H1 ∧ r x [] H1 Q) : tBM0 K T r ta σ H Q := h
theorem k_cat {p q : Addr} {xs ys : List V} (hp : H p = some (.lst xs)) (hq : H q = some (.lst ys)) (hz : xs.length + ys.length ≤ 100000) (h : ∀ l, H l = none → Q (.ref l) (upd H l (.lst (xs ++ ys)))) : rCat (.ref p) (.ref q) H Q := ⟨p, q, xs, ys, rfl, rfl, hp, hq, sz hz, h⟩
theorem k_tyL {p : Addr} {xs : List V} {R : Prop} (hp : SqL K H p xs) (h : R) : tyV K "list" (.ref p) H ∧ R := ⟨.inl ⟨rfl, _, hp⟩, h⟩
theorem k_append {p : Addr} {xs : List V} {y : V} (hp : H p = some (.lst xs)) (hn : xs.length < 100000) (h : Q .non (upd H p (.lst (xs ++ [y])))) : rAppend (.ref p) [y] H Q := ⟨p, xs, y, rfl, rfl, hp, szl hn, h⟩
theorem k_itT {b : Bool} {A B : Prop} (e : b = true) (h : A) : if b = true then A else B := by rw [if_pos e]; exact h
theorem k_itF {b : Bool} {A B : Prop} (e : b = false) (h : B) : if b = true then A else B := by rw [e]; exact h
theorem iteNT {A B : Prop} (h : B) : if (!true) = true then A else B := iteF h
theorem iteNF {A B : Prop} (h : A) : if (!false) = true then A else B := iteT h
theorem k_itDT {c A B : Prop} [Decidable c] (e : c) (h : A) : if decide c = true then A else B := by rw [if_pos (decide_eq_true e)]; exact h
theorem k_itDF {c A B : Prop} [Decidable c] (e : ¬ c) (h : B) : if decide c = true then A else B := by rw [decide_eq_false e]; exact h
theorem k_itNT {c A B : Prop} [Decidable c] (e : ¬ c) (h : A) : if (!decide c) = true then A else B := by rw [decide_eq_false e]; exact h
theorem k_itNF {c A B : Prop} [Decidable c] (e : c) (h : B) : if (!decide c) = true then A else B := by rw [decide_eq_true e]; exact h
theorem k_for {nx : L2.St → Hp → Prop} {rt : VK} {bk ct : L2.St → Hp → Prop} {wi : TI} {g : TG} {tb : TS} (h : wi σ H fun J H1 => ∃ W : Nat → Nat → L2.St → Hp → Prop, (∃ m, W 0 m σ H1) ∧ ∀ i m σ H, W i m σ H →
  (J.stop i H ∧ nx σ H) ∨ (J.go i H ∧ ∃ N : L2.St → Hp → Prop, (∀ σ' H', N σ' H' → ∃ m', m' < m ∧ W (i + 1) m' σ' H') ∧ ∀ x H', J.yld i H x H' → g x σ H' fun σ2 H2 => tb ⟨N, rt, nx, N⟩ σ2 H2)) : tFor wi g tb ⟨nx, rt, bk, ct⟩ σ H := h
theorem forL {nx : L2.St → Hp → Prop} {rt : VK} {b : Addr} {xs : List V} {g : TG} {tb : TS} (hs0 : SqL K H b xs) (Pv : Nat → L2.St → Hp → Prop) (h0 : Pv 0 σ H) (hl : ∀ i σ H, i ≤ xs.length → Pv i σ H → SqL K H b xs)
    (hs : ∀ (i : Nat) x σ H, xs[i]? = some x → Pv i σ H → g x σ H fun σ2 H2 => tb ⟨Pv (i + 1), rt, nx, Pv (i + 1)⟩ σ2 H2) (hd : ∀ σ H, Pv xs.length σ H → nx σ H) :
    ∃ a, V.ref b = .ref a ∧ (∃ xs, SqL K H a xs) ∧ ∃ W : Nat → Nat → L2.St → Hp → Prop, (∃ m, W 0 m σ H) ∧ ∀ i m σ H, W i m σ H →
      ((Itl K a).stop i H ∧ nx σ H) ∨ ((Itl K a).go i H ∧ ∃ N : L2.St → Hp → Prop, (∀ σ' H', N σ' H' → ∃ m', m' < m ∧ W (i + 1) m' σ' H') ∧ ∀ x H', (Itl K a).yld i H x H' → g x σ H' fun σ2 H2 => tb ⟨N, rt, nx, N⟩ σ2 H2) :=
  ⟨b, rfl, ⟨xs, hs0⟩, for_list (D := ⟨nx, rt, fun _ _ => False, fun _ _ => False⟩) Pv h0 hl hs hd⟩
theorem forR {nx : L2.St → Hp → Prop} {rt : VK} {lo : Int} {n : Nat} {g : TG} {tb : TS} (Pv : Nat → L2.St → Hp → Prop) (h0 : Pv 0 σ H)
    (hs : ∀ (i : Nat) σ H, i < n → Pv i σ H → g (.int (lo + i)) σ H fun σ2 H2 => tb ⟨Pv (i + 1), rt, nx, Pv (i + 1)⟩ σ2 H2) (hd : ∀ σ H, Pv n σ H → nx σ H) :
    ∃ W : Nat → Nat → L2.St → Hp → Prop, (∃ m, W 0 m σ H) ∧ ∀ i m σ H, W i m σ H →
      ((Itr lo n).stop i H ∧ nx σ H) ∨ ((Itr lo n).go i H ∧ ∃ N : L2.St → Hp → Prop, (∀ σ' H', N σ' H' → ∃ m', m' < m ∧ W (i + 1) m' σ' H') ∧ ∀ x H', (Itr lo n).yld i H x H' → g x σ H' fun σ2 H2 => tb ⟨N, rt, nx, N⟩ σ2 H2) :=
  for_range (D := ⟨nx, rt, fun _ _ => False, fun _ _ => False⟩) Pv h0 hs hd
theorem k_while {nx : L2.St → Hp → Prop} {rt : VK} {bk ct : L2.St → Hp → Prop} {c : TT} {tb : TS} (h : ∃ W : Nat → L2.St → Hp → Prop, (∃ m, W m σ H) ∧ ∀ m σ H, W m σ H →
  c σ H fun b H1 => if b = true then ∃ N : L2.St → Hp → Prop, (∀ σ' H', N σ' H' → ∃ m', m' < m ∧ W m' σ' H') ∧ tb ⟨N, rt, nx, N⟩ σ H1 else nx σ H1) : tWhile c tb ⟨nx, rt, bk, ct⟩ σ H := h
theorem whileW {nx : L2.St → Hp → Prop} {rt : VK} {bk ct : L2.St → Hp → Prop} {c : TT} {tb : TS} (W : Nat → L2.St → Hp → Prop) {m0 : Nat} (h0 : W m0 σ H)
    (hs : ∀ m σ H, W m σ H → c σ H fun b H1 => if b = true then tb ⟨fun σ' H' => ∃ m', m' < m ∧ W m' σ' H', rt, nx, fun σ' H' => ∃ m', m' < m ∧ W m' σ' H'⟩ σ H1 else nx σ H1)
    (mono : ∀ σ H (Q Q' : Bool → Hp → Prop), (∀ b H1, Q b H1 → Q' b H1) → c σ H Q → c σ H Q') : tWhile c tb ⟨nx, rt, bk, ct⟩ σ H := by
  refine ⟨W, ⟨m0, h0⟩, fun m σ H w => mono σ H _ _ (fun b H1 q => ?_) (hs m σ H w)⟩
  cases b with
  | true => exact ⟨_, fun σ' H' h => h, q⟩
  | false => exact q
theorem k_iList {R : It → Hp → Prop} (h : te σ H fun x H1 => ∃ a, x = .ref a ∧ (∃ xs, SqL K H1 a xs) ∧ R (Itl K a) H1) : iList K te σ H R := h
theorem k_iTup {R : It → Hp → Prop} (h : te σ H fun x H1 => ∃ a, x = .ref a ∧ (∃ xs, SqT K H1 a xs) ∧ R (Itt K a) H1) : iTup K te σ H R := h
theorem k_iZip {R : It → Hp → Prop} (h : tr σ H fun vs H1 => ∃ a b xs ys, vs = [.ref a, .ref b] ∧ SqL K H1 a xs ∧ SqL K H1 b ys ∧ R (Itz K a b) H1) : iZip K tr σ H R := h
theorem k_iEnum {R : It → Hp → Prop} (h : tr σ H fun vs H1 => ∃ a xs, vs = [.ref a] ∧ SqL K H1 a xs ∧ R (Ite K a) H1) : iEnum K tr σ H R := h
theorem k_iRng1 {R : It → Hp → Prop} (h : tr σ H fun vs H1 => ∃ j : Int, vs = [.int j] ∧ -(2 ^ 62) ≤ j ∧ j < 2 ^ 62 ∧ R (Itr 0 j.toNat) H1) : iRng1 tr σ H R := h
theorem k_iRng2 {R : It → Hp → Prop} (h : tr σ H fun vs H1 => ∃ i j : Int, vs = [.int i, .int j] ∧ (-(2 ^ 62) ≤ i ∧ i < 2 ^ 62 ∧ -(2 ^ 62) ≤ j ∧ j < 2 ^ 62) ∧ R (Itr i (j - i).toNat) H1) : iRng2 tr σ H R := h
theorem k_rj1 {j : Int} {R : Int → Prop} (h1 : -(2 ^ 62) ≤ j) (h2 : j < 2 ^ 62) (h : R j) : ∃ j' : Int, [V.int j] = [.int j'] ∧ -(2 ^ 62) ≤ j' ∧ j' < 2 ^ 62 ∧ R j' := ⟨j, rfl, h1, h2, h⟩
theorem k_rj2 {i j : Int} {R : Int → Int → Prop} (h1 : -(2 ^ 62) ≤ i ∧ i < 2 ^ 62 ∧ -(2 ^ 62) ≤ j ∧ j < 2 ^ 62) (h : R i j) : ∃ i' j' : Int, [V.int i, V.int j] = [.int i', .int j'] ∧ (-(2 ^ 62) ≤ i' ∧ i' < 2 ^ 62 ∧ -(2 ^ 62) ≤ j' ∧ j' < 2 ^ 62) ∧ R i' j' := ⟨i, j, rfl, h1, h⟩
theorem k_it {c A B : Prop} [Decidable c] (h1 : c → A) (h2 : ¬ c → B) : if decide c = true then A else B := by
  by_cases h : c
  · rw [if_pos (decide_eq_true h)]; exact h1 h
  · rw [decide_eq_false h]; exact h2 h
theorem k_itn {c A B : Prop} [Decidable c] (h1 : ¬ c → A) (h2 : c → B) : if (!decide c) = true then A else B := by
  by_cases h : c
  · rw [decide_eq_true h]; exact h2 h
  · rw [decide_eq_false h]; exact h1 h
theorem k_itb {b : Bool} {A B : Prop} (h1 : b = true → A) (h2 : b = false → B) : if b = true then A else B := by
  cases b with
  | true => exact h1 rfl
  | false => exact h2 rfl
theorem k_isi {x : V} {c : String} {tx : String} {b : Bool} (ht : TyX K H x (.type tx)) (hb : kitB tx c = some b) (h : Q (.bl b) H) : rIsi K [x, .ty c] H Q := ⟨x, .ty c, .type tx, .type c, b, rfl, .ty c, ht, kit_ty hb, h⟩

theorem ty_list {p : Addr} {xs : List V} (h : SqL K H p xs) : TyX K H (.ref p) (.type "list") := by
  rcases h with (h | ⟨o, h⟩) | ⟨o, its, n, h, c, _⟩
  · exact .base (.lst h)
  · exact .base (.frz h)
  · exact .kList h c
theorem k_isiL {p : Addr} {xs : List V} (hs : SqL K H p xs) (h : Q (.bl true) H) : rIsi K [.ref p, .ty "list"] H Q := k_isi (ty_list hs) (by decide +kernel) h
theorem k_isiLI {i : Int} (h : Q (.bl false) H) : rIsi K [.int i, .ty "list"] H Q := k_isi (.base (.int i)) (by decide +kernel) h
theorem k_isiI {i : Int} (h : Q (.bl true) H) : rIsi K [.int i, .ty "int"] H Q := k_isi (.base (.int i)) (by decide +kernel) h
theorem k_isiB {i : Int} (h : Q (.bl false) H) : rIsi K [.int i, .ty "bool"] H Q := k_isi (.base (.int i)) (by decide +kernel) h
theorem inV_ints (x : Int) : ∀ ns : List Int, inV (.int x) (ns.map V.int) = decide (x ∈ ns)
  | [] => rfl
  | n :: r => by
    show (eqV (.int n) (.int x) || inV (.int x) (r.map V.int)) = decide (x ∈ n :: r)
    rw [inV_ints x r]
    show ((n == x) || decide (x ∈ r)) = decide (x ∈ n :: r)
    by_cases h : n = x
    · subst h; simp
    · have : (n == x) = false := by simp [h]
      rw [this, Bool.false_or]
      have h' : ¬ x = n := fun e => h e.symm
      simp [h']
theorem flat_ints : ∀ ns : List Int, (ns.map V.int).all flatV = true
  | [] => rfl
  | _ :: r => by show (true && (r.map V.int).all flatV) = true; rw [flat_ints r]; rfl
theorem k_inI {p : Addr} {ns : List Int} {x : Int} (hs : SqL K H p (ns.map V.int)) (h : Q (.bl (decide (x ∈ ns))) H) : rIn K false (.int x) (.ref p) H Q :=
  ⟨p, _, rfl, .inl hs, rfl, flat_ints ns, by rw [if_neg Bool.false_ne_true, inV_ints]; exact h⟩
theorem k_notInI {p : Addr} {ns : List Int} {x : Int} (hs : SqL K H p (ns.map V.int)) (h : Q (.bl (!decide (x ∈ ns))) H) : rIn K true (.int x) (.ref p) H Q :=
  ⟨p, _, rfl, .inl hs, rfl, flat_ints ns, by rw [if_pos rfl, inV_ints]; exact h⟩
theorem k_intB {b : Bool} (h : Q (.int (if b then 1 else 0)) H) : rIntOf [.bl b] H Q := .inr ⟨b, rfl, h⟩
theorem at_int {ns : List Int} {i : Int} (h0 : 0 ≤ i) (h1 : i < ns.length) : atI (ns.map V.int) i = some (.int (ns.getD i.toNat 0)) := by
  obtain ⟨k, rfl⟩ : ∃ k : Nat, i = k := ⟨i.toNat, by omega⟩
  have h : k < ns.length := by omega
  refine atI_nat ?_
  rw [List.getElem?_map]
  simp [List.getElem?_eq_getElem h, List.getD_eq_getElem?_getD]
theorem k_ixI {p : Addr} {ns : List Int} {i : Int} (hs : SqL K H p (ns.map V.int)) (h0 : 0 ≤ i) (h1 : i < ns.length) (h : Q (.int (ns.getD i.toNat 0)) H) : rIxL K (.ref p) (.int i) H Q := k_ixL hs (at_int h0 h1) h
theorem k_eqD {x y : V} {c d : PyData} {n : Nat} (hx : Dp K H x c) (hy : Dp K H y d) (h1 : Sh n c) (h2 : Sh n d) (hn : n ≤ 64) (h : Q (.bl (PyData.eqv c d)) H) : rEqD K x y H Q := ⟨c, d, hx, hy, h1.shaped hn, h2.shaped hn, h⟩
theorem k_neD {x y : V} {c d : PyData} {n : Nat} (hx : Dp K H x c) (hy : Dp K H y d) (h1 : Sh n c) (h2 : Sh n d) (hn : n ≤ 64) (h : Q (.bl (!PyData.eqv c d)) H) : rNeD K x y H Q := ⟨c, d, hx, hy, h1.shaped hn, h2.shaped hn, h⟩
theorem k_neD0 {x y : V} {c : PyData} {n : Nat} (hx : Dp K H x c) (hy : Dp K H y c) (h1 : Sh n c) (hn : n ≤ 64) (h : Q (.bl false) H) : rNeD K x y H Q := k_neD hx hy h1 h1 hn (by rw [h1.refl]; exact h)
theorem k_eqD1 {x y : V} {c : PyData} {n : Nat} (hx : Dp K H x c) (hy : Dp K H y c) (h1 : Sh n c) (hn : n ≤ 64) (h : Q (.bl true) H) : rEqD K x y H Q := k_eqD hx hy h1 h1 hn (by rw [h1.refl]; exact h)
theorem k_getI {p : Addr} {ns : List Int} {i : Int} (hs : SqL K H p (ns.map V.int)) (h0 : 0 ≤ i) (h1 : i < ns.length) (h : Q (.int (ns.getD i.toNat 0)) H) : rGetL K (.ref p) (.int i) H Q := ⟨p, _, i, _, rfl, rfl, hs, h0, at_int h0 h1, h⟩
theorem k_setI {p : Addr} {ns : List Int} {k v : Int} {QH : Hp → Prop} (hp : H p = some (.lst (ns.map V.int))) (h0 : 0 ≤ k) (h1 : k < ns.length) (h : QH (upd H p (.lst ((ns.set k.toNat v).map V.int)))) : rSetL (.ref p) (.int k) (.int v) H QH :=
  ⟨p, _, k, k.toNat, rfl, rfl, hp, ixN_of h0 (by rw [List.length_map]; exact h1), by rw [List.map_set] at h; exact h⟩
theorem k_rep {p : Addr} {xs : List V} {k : Int} (hp : H p = some (.lst xs)) (h0 : 0 ≤ k) (h1 : k < 100000) (h2 : xs.length * k.toNat ≤ 100000) (h : ∀ l, H l = none → Q (.ref l) (upd H l (.lst (List.replicate k.toNat xs).flatten))) : rRep (.ref p) (.int k) H Q := ⟨p, k, xs, rfl, rfl, hp, by omega, by omega, sz h2, h⟩
theorem k_eqB {a b : Bool} (h : Q (.bl (decide (a = b))) H) : rEq (.bl a) (.bl b) H Q := ⟨rfl, by
  have e : decide (V.bl a = V.bl b) = decide (a = b) := by cases a <;> cases b <;> decide
  rw [e]; exact h⟩
theorem k_neB {a b : Bool} (h : Q (.bl (!decide (a = b))) H) : rNe (.bl a) (.bl b) H Q := ⟨rfl, by
  have e : decide (V.bl a = V.bl b) = decide (a = b) := by cases a <;> cases b <;> decide
  rw [e]; exact h⟩
/-- new objects, the heap behind as a letter -/
theorem k_newL {xs : List V} (hn : xs.length ≤ 100000) (h : ∀ p H', H p = none → Same H H' → H' p = some (.lst xs) → Q (.ref p) H') : xs.length ≤ sizeLine ∧ ∀ p, H p = none → Q (.ref p) (upd H p (.lst xs)) :=
  ⟨sz hn, fun p np => h p _ np (same_new np) upd_same⟩
theorem k_newT {xs : List V} (hn : xs.length ≤ 100000) (h : ∀ p H', H p = none → Same H H' → H' p = some (.tup xs) → Q (.ref p) H') : xs.length ≤ sizeLine ∧ ∀ p, H p = none → Q (.ref p) (upd H p (.tup xs)) :=
  ⟨sz hn, fun p np => h p _ np (same_new np) upd_same⟩
theorem k_listN {p : Addr} {ys : List V} (hs : SqL K H p ys) (h : ∀ l H', H l = none → Same H H' → H' l = some (.lst ys) → Q (.ref l) H') : rListOf K [.ref p] H Q := k_list hs fun l nl => h l _ nl (same_new nl) upd_same
theorem k_slL {a : Addr} {xs : List V} {lo hi : Option Int} (hs : SqL K H a xs) (h : ∀ p H', H p = none → Same H H' → H' p = some (.lst (cutV xs lo hi)) → Q (.ref p) H') : rSlL K (.ref a) lo hi H Q := ⟨a, xs, rfl, hs, fun p np => h p _ np (same_new np) upd_same⟩
theorem k_sl {r : V → Option Int → Option Int → Hp → VK → Prop} {tl th : TO} (h : te σ H fun x H1 => tl σ H1 fun l H2 => th σ H2 fun u H3 => r x l u H3 Q) : tSl r te tl th σ H Q := h
theorem k_nopart {QO : Option Int → Hp → Prop} (h : QO none H) : tNoPart σ H QO := h
theorem k_part {QO : Option Int → Hp → Prop} (h : te σ H fun x H1 => ∃ i, x = .int i ∧ QO (some i) H1) : tPart te σ H QO := h
theorem k_int {i : Int} {R : Int → Prop} (h : R i) : ∃ j, V.int i = .int j ∧ R j := ⟨i, rfl, h⟩
theorem rg_ints (a b : Int) : rgV a b = ((List.range (b - a).toNat).map fun i => a + (i : Nat)).map V.int := by
  unfold rgV; rw [List.map_map]; rfl
theorem k_listRg {tg : L2.St → Hp → (Int → Int → Hp → Prop) → Prop} (h : tg σ H fun a b H1 => RgOk a b ∧ ∀ q, H1 q = none → Q (.ref q) (upd H1 q (.lst (rgV a b)))) : tLstRg tg σ H Q := h
theorem k_rg1 {QR : Int → Int → Hp → Prop} (h : ta σ H fun x H1 => ∃ n, x = .int n ∧ QR 0 n H1) : tRg1 ta σ H QR := h
theorem k_rg2 {QR : Int → Int → Hp → Prop} (h : ta σ H fun x H1 => tb σ H1 fun y H2 => ∃ i j, x = .int i ∧ y = .int j ∧ QR i j H2) : tRg2 ta tb σ H QR := h
theorem k_int2 {i j : Int} {R : Int → Int → Prop} (h : R i j) : ∃ i' j', V.int i = .int i' ∧ V.int j = .int j' ∧ R i' j' := ⟨i, j, rfl, rfl, h⟩
theorem k_rgN {a b : Int} (hr : RgOk a b) (h : ∀ p H', H p = none → Same H H' → H' p = some (.lst (rgV a b)) → Q (.ref p) H') : RgOk a b ∧ ∀ q, H q = none → Q (.ref q) (upd H q (.lst (rgV a b))) := ⟨hr, fun q nq => h q _ nq (same_new nq) upd_same⟩
theorem dp_of_int {i j : Int} (e : i = j) : Dp K H (.int i) (.int j) := e ▸ .int i
end
/-! ### heaps with some places out of sight -/
def hid (S : List Addr) (H : Hp) : Hp := fun b => if b ∈ S then none else H b
theorem hid_ne {S : List Addr} {H : Hp} {b : Addr} (h : b ∉ S) : hid S H b = H b := if_neg h
theorem hid_in {S : List Addr} {H : Hp} {b : Addr} (h : b ∈ S) : hid S H b = none := if_pos h
theorem hid_some {S : List Addr} {H : Hp} {b : Addr} {o : HO} (h : hid S H b = some o) : b ∉ S ∧ H b = some o := by
  unfold hid at h
  split at h
  · cases h
  · exact ⟨by assumption, h⟩
theorem hid_same (S : List Addr) (H : Hp) : Same (hid S H) H := fun b o h => (hid_some h).2
theorem hid_mono {S : List Addr} {H H' : Hp} (e : Same H H') : Same (hid S H) (hid S H') := fun b o h => by
  obtain ⟨n, h⟩ := hid_some h
  rw [hid_ne n]
  exact e b o h
theorem hid_sub {S S' : List Addr} {H : Hp} (h : ∀ a ∈ S, a ∈ S') : Same (hid S' H) (hid S H) := fun b o e => by
  obtain ⟨n, e⟩ := hid_some e
  rw [hid_ne fun z => n (h b z)]
  exact e
/-- a change at a hidden place -/
theorem hid_upd {S : List Addr} {H : Hp} {p : Addr} {o : HO} (h : p ∈ S) : hid S (upd H p o) = hid S H := by
  funext b
  unfold hid
  split
  · rfl
  · rename_i n
    rw [upd_ne fun e => n (by rw [e]; exact h)]
theorem same_hid_upd {S : List Addr} {H0 H : Hp} {p : Addr} {o : HO} (e : Same H0 (hid S H)) (h : p ∈ S) : Same H0 (hid S (upd H p o)) := by rw [hid_upd h]; exact e
/-- what the law's data says stays when a fresh object is changed -/
theorem same_hid_mut {S : List Addr} {H0 H : Hp} {p : Addr} {o : HO} (e : Same H0 (hid S H)) (h : H0 p = none) : Same H0 (hid S (upd H p o)) := fun b u hb => by
  have := e b u hb
  obtain ⟨n, q⟩ := hid_some this
  rw [hid_ne n, upd_ne (ne_of_none hb h)]
  exact q
theorem hid_more {S S' : List Addr} {H H' : Hp} (e : Same (hid S H) (hid S H')) (h : ∀ a ∈ S, a ∈ S') : Same (hid S' H) (hid S' H') := fun b o hb => by
  obtain ⟨n, q⟩ := hid_some hb
  have n' : b ∉ S := fun z => n (h b z)
  have := e b o (by rw [hid_ne n']; exact q)
  rw [hid_ne n'] at this
  rw [hid_ne n]
  exact this
theorem same_hid_new {S : List Addr} {H : Hp} {p : Addr} {o : HO} (h : H p = none) : Same (hid S H) (hid S (upd H p o)) := hid_mono (same_new h)

theorem same_of_hid {S : List Addr} {H0 H1 H2 : Hp} (h : Same H0 H1) (f : ∀ a ∈ S, H0 a = none) (e : Same (hid S H1) (hid S H2)) : Same H0 H2 := fun b o hb => by
  have n : b ∉ S := fun z => by rw [f b z] at hb; cases hb
  have := e b o (by rw [hid_ne n]; exact h b o hb)
  rw [hid_ne n] at this
  exact this
theorem free1 {H0 : Hp} {p : Addr} (h : H0 p = none) : ∀ a ∈ [p], H0 a = none := fun a z => by rw [List.mem_singleton.mp z]; exact h
theorem cutTo {ns : List Int} (k : Nat) : cutV (ns.map V.int) none (some (k : Int)) = (ns.take k).map V.int := by
  unfold cutV
  rw [HT.sIx_none, HT.sIx_nat, List.drop_zero, List.length_map, Nat.sub_zero, List.map_take]
  by_cases h : k ≤ ns.length
  · rw [Nat.min_eq_left h]
  · rw [Nat.min_eq_right (by omega), List.take_of_length_le (by simp), List.take_of_length_le (by simp; omega)]
/-! ### the law's purse: a list of the cells and the turn -/
structure Pu (H : Hp) (pu ce : Addr) (n : Nat) (t : Int) : Prop where
  hp : H pu = some (.lst [.ref ce, .int t])
  hc : ∃ cs : List Int, cs.length = n ∧ H ce = some (.lst (cs.map V.int))
  n0 : 0 < n
  n1 : n ≤ 63
  t0 : 0 ≤ t
theorem Pu.ne {H : Hp} {pu ce : Addr} {n : Nat} {t : Int} (h : Pu H pu ce n t) : pu ≠ ce := fun e => by
  obtain ⟨cs, hl, hc⟩ := h.hc
  have hp := h.hp
  rw [e, hc] at hp
  cases cs with
  | nil => injection hp with hp; injection hp with hp; cases hp
  | cons x r => injection hp with hp; injection hp with hp; injection hp with h1 h2; cases h1
theorem Pu.fresh {H : Hp} {pu ce : Addr} {n : Nat} {t : Int} (h : Pu H pu ce n t) {p : Addr} (np : H p = none) : p ∉ [pu, ce] := fun z => by
  obtain ⟨cs, hl, hc⟩ := h.hc
  rcases List.mem_cons.mp z with rfl | z
  · rw [h.hp] at np; cases np
  · rcases List.mem_cons.mp z with rfl | z
    · rw [hc] at np; cases np
    · cases z
theorem Pu.upd {H : Hp} {pu ce : Addr} {n : Nat} {t : Int} (h : Pu H pu ce n t) {p : Addr} {o : HO} (np : p ∉ [pu, ce]) : Pu (upd H p o) pu ce n t := by
  have h1 : pu ≠ p := fun e => np (by rw [e]; exact List.mem_cons_self)
  have h2 : ce ≠ p := fun e => np (by rw [e]; exact List.mem_cons_of_mem _ List.mem_cons_self)
  obtain ⟨cs, hl, hc⟩ := h.hc
  exact ⟨by rw [upd_ne h1]; exact h.hp, ⟨cs, hl, by rw [upd_ne h2]; exact hc⟩, h.n0, h.n1, h.t0⟩
theorem Pu.same {H H' : Hp} {pu ce : Addr} {n : Nat} {t : Int} (h : Pu H pu ce n t) (e : Same H H') : Pu H' pu ce n t := by
  obtain ⟨cs, hl, hc⟩ := h.hc
  exact ⟨e _ _ h.hp, ⟨cs, hl, e _ _ hc⟩, h.n0, h.n1, h.t0⟩
/-- an object that is none of the purse's stays as it is -/
theorem keeps {S : List Addr} {H H' : Hp} (e : Same (hid S H) (hid S H')) {b : Addr} {o : HO} (hb : H b = some o) (n : b ∉ S) : H' b = some o := by
  have := e b o (by rw [hid_ne n]; exact hb)
  rw [hid_ne n] at this
  exact this
theorem fresh_hid {S : List Addr} {H H' : Hp} (e : Same (hid S H) (hid S H')) {b : Addr} (hb : H' b = none) (n : b ∉ S) : H b = none := by
  have := e.free (l := b) (by rw [hid_ne n]; exact hb)
  rw [hid_ne n] at this
  exact this
theorem getD_set_len {α : Type} (l : List α) (i : Nat) (v : α) : (l.set i v).length = l.length := List.length_set
theorem map_set_int (cs : List Int) (i : Nat) (v : Int) : (cs.map V.int).set i (.int v) = (cs.set i v).map V.int := by rw [List.map_set]

/-! ### the law's other purse: [a number, a mark, how many were drawn] -/
structure Le (H : Hp) (pu : Addr) (k : Int) : Prop where
  hp : ∃ x f : Int, H pu = some (.lst [.int x, .int f, .int k]) ∧ (f = 0 → 0 ≤ x ∧ x < 2147483629)
  k0 : 0 ≤ k
theorem Le.fresh {H : Hp} {pu : Addr} {k : Int} (h : Le H pu k) {p : Addr} (np : H p = none) : p ∉ [pu] := fun z => by
  obtain ⟨x, f, hp, _⟩ := h.hp
  rw [List.mem_singleton.mp z, hp] at np
  cases np
theorem Le.upd {H : Hp} {pu : Addr} {k : Int} (h : Le H pu k) {p : Addr} {o : HO} (np : p ∉ [pu]) : Le (upd H p o) pu k := by
  obtain ⟨x, f, hp, hx⟩ := h.hp
  exact ⟨⟨x, f, by rw [upd_ne fun e => np (by rw [e]; exact List.mem_singleton.mpr rfl)]; exact hp, hx⟩, h.k0⟩
theorem Le.same {H H' : Hp} {pu : Addr} {k : Int} (h : Le H pu k) (e : Same H H') : Le H' pu k := by
  obtain ⟨x, f, hp, hx⟩ := h.hp
  exact ⟨⟨x, f, e _ _ hp, hx⟩, h.k0⟩

/-! ### comprehensions whose block leaves the heap as it is -/
section
variable {K : PySem.W.Frag} {σ : L2.St} {H1 : Hp} {Q : VK} {g : TG} {tt : TT} {te : TE} {vs : List Nat}
theorem k_lc {wi : TI} (h : wi σ H1 fun J H1 => ∀ D, H1 D = none → ∃ W : Nat → Nat → Hp → Prop, (∃ m, W 0 m (upd H1 D (.lst []))) ∧ ∀ i m H, W i m H →
  (J.stop i H ∧ Q (.ref D) H) ∨ (J.go i H ∧ ∃ Nx : Hp → Prop, (∀ H', Nx H' → ∃ m', m' < m ∧ W (i + 1) m' H') ∧ ∀ x H', J.yld i H x H' → g x (wipe σ vs) H' fun σ2 H2 => wipe σ2 vs = wipe σ vs ∧ tt σ2 H2 fun b H3 =>
    if b = true then te σ2 H3 fun y H4 => ∃ acc, H4 D = some (.lst acc) ∧ acc.length < sizeLine ∧ Nx (upd H4 D (.lst (acc ++ [y]))) else Nx H3)) : tLc wi g tt te vs σ H1 Q := h
theorem k_wipe {σ' : L2.St} {R : Prop} (e : wipe σ' vs = wipe σ vs) (h : R) : wipe σ' vs = wipe σ vs ∧ R := ⟨e, h⟩
theorem k_yes {QT : Bool → Hp → Prop} (h : QT true H1) : tYes σ H1 QT := h
theorem take_filterMap {α β : Type} {f : α → Option β} {ps : List α} {i : Nat} {p : α} (h : ps[i]? = some p) : (ps.take (i + 1)).filterMap f = (ps.take i).filterMap f ++ (f p).toList := by
  rw [List.take_add_one, h, List.filterMap_append]
  simp [List.filterMap_cons]
  cases f p <;> rfl
/-- over a list of which ps tells the items -/
theorem lc_pure {QD : Addr → Hp → Prop} {α : Type} {a : Addr} {xs : List V} (hs : SqL K H1 a xs) (ps : List α) (hl : xs.length = ps.length) (hz : ps.length ≤ 50000) (f : α → Option V)
    (step : ∀ (i : Nat) x p H', xs[i]? = some x → ps[i]? = some p → Same H1 H' → ∀ (R : V → Hp → Prop) (R0 : Hp → Prop), (∀ y, f p = some y → R y H') → (f p = none → R0 H') →
      g x (wipe σ vs) H' fun σ2 H2 => wipe σ2 vs = wipe σ vs ∧ tt σ2 H2 fun b H3 => if b = true then te σ2 H3 R else R0 H3)
    (h : ∀ D H', H1 D = none → Same H1 H' → H' D = some (.lst (ps.filterMap f)) → QD D H') :
    ∃ a', V.ref a = .ref a' ∧ (∃ xs, SqL K H1 a' xs) ∧ ∀ D, H1 D = none → ∃ W : Nat → Nat → Hp → Prop, (∃ m, W 0 m (upd H1 D (.lst []))) ∧ ∀ i m H, W i m H →
      ((Itl K a').stop i H ∧ QD D H) ∨ ((Itl K a').go i H ∧ ∃ Nx : Hp → Prop, (∀ H', Nx H' → ∃ m', m' < m ∧ W (i + 1) m' H') ∧ ∀ x H', (Itl K a').yld i H x H' → g x (wipe σ vs) H' fun σ2 H2 => wipe σ2 vs = wipe σ vs ∧ tt σ2 H2 fun b H3 =>
        if b = true then te σ2 H3 fun y H4 => ∃ acc, H4 D = some (.lst acc) ∧ acc.length < sizeLine ∧ Nx (upd H4 D (.lst (acc ++ [y]))) else Nx H3) := by
  refine ⟨a, rfl, ⟨xs, hs⟩, fun D nD => lc_list (xs := xs) (fun i H => Same H1 H ∧ H D = some (.lst ((ps.take i).filterMap f))) ⟨same_new nD, by rw [upd_same]; simp⟩ (fun i H _ e => e.1.seq hs) ?_ ?_⟩
  · rintro i x H hx ⟨sm, hD⟩
    have hi : i < xs.length := (List.getElem?_eq_some_iff.mp hx).1
    obtain ⟨p, hp⟩ : ∃ p, ps[i]? = some p := ⟨ps[i]'(by omega), List.getElem?_eq_getElem (by omega)⟩
    have tk := take_filterMap (f := f) hp
    refine step i x p H hx hp sm _ _ (fun y hy => ⟨_, hD, szl ?_, same_mut sm nD, ?_⟩) (fun hn => ⟨sm, ?_⟩)
    · have := List.length_filterMap_le f (ps.take i)
      rw [List.length_take] at this
      omega
    · rw [upd_same, tk, hy]; rfl
    · rw [tk, hn, hD]; simp
  · rintro H ⟨sm, hD⟩
    rw [hl, List.take_length] at hD
    exact h D H nD sm hD
/-- the same where a turn may make new objects -/
theorem lc_grow {QD : Addr → Hp → Prop} {α : Type} {a : Addr} {xs : List V} (hs : SqL K H1 a xs) (ps : List α) (hl : xs.length = ps.length) (hz : ps.length ≤ 50000) (f : α → Option V)
    (step : ∀ (i : Nat) x p H', xs[i]? = some x → ps[i]? = some p → Same H1 H' → ∀ (R : V → Hp → Prop) (R0 : Hp → Prop), (∀ y H'', f p = some y → Same H' H'' → R y H'') → (∀ H'', f p = none → Same H' H'' → R0 H'') →
      g x (wipe σ vs) H' fun σ2 H2 => wipe σ2 vs = wipe σ vs ∧ tt σ2 H2 fun b H3 => if b = true then te σ2 H3 R else R0 H3)
    (h : ∀ D H', H1 D = none → Same H1 H' → H' D = some (.lst (ps.filterMap f)) → QD D H') :
    ∃ a', V.ref a = .ref a' ∧ (∃ xs, SqL K H1 a' xs) ∧ ∀ D, H1 D = none → ∃ W : Nat → Nat → Hp → Prop, (∃ m, W 0 m (upd H1 D (.lst []))) ∧ ∀ i m H, W i m H →
      ((Itl K a').stop i H ∧ QD D H) ∨ ((Itl K a').go i H ∧ ∃ Nx : Hp → Prop, (∀ H', Nx H' → ∃ m', m' < m ∧ W (i + 1) m' H') ∧ ∀ x H', (Itl K a').yld i H x H' → g x (wipe σ vs) H' fun σ2 H2 => wipe σ2 vs = wipe σ vs ∧ tt σ2 H2 fun b H3 =>
        if b = true then te σ2 H3 fun y H4 => ∃ acc, H4 D = some (.lst acc) ∧ acc.length < sizeLine ∧ Nx (upd H4 D (.lst (acc ++ [y]))) else Nx H3) := by
  refine ⟨a, rfl, ⟨xs, hs⟩, fun D nD => lc_list (xs := xs) (fun i H => Same H1 H ∧ H D = some (.lst ((ps.take i).filterMap f))) ⟨same_new nD, by rw [upd_same]; simp⟩ (fun i H _ e => e.1.seq hs) ?_ ?_⟩
  · rintro i x H hx ⟨sm, hD⟩
    have hi : i < xs.length := (List.getElem?_eq_some_iff.mp hx).1
    obtain ⟨p, hp⟩ : ∃ p, ps[i]? = some p := ⟨ps[i]'(by omega), List.getElem?_eq_getElem (by omega)⟩
    have tk := take_filterMap (f := f) hp
    refine step i x p H hx hp sm _ _ (fun y H'' hy s2 => ⟨_, s2 _ _ hD, szl ?_, same_mut (sm.trans s2) nD, ?_⟩) (fun H'' hn s2 => ⟨sm.trans s2, ?_⟩)
    · have := List.length_filterMap_le f (ps.take i)
      rw [List.length_take] at this
      omega
    · rw [upd_same, tk, hy]; rfl
    · rw [tk, hn, s2 _ _ hD]; simp
  · rintro H ⟨sm, hD⟩
    rw [hl, List.take_length] at hD
    exact h D H nD sm hD
theorem range_take {n i : Nat} (h : i < n) : (List.range n)[i]? = some i := by simp [h]
/-- over a range -/
theorem lc_pureR {QD : Addr → Hp → Prop} {lo : Int} {n : Nat} (hz : n ≤ 50000) (f : Nat → Option V)
    (step : ∀ (i : Nat) H', i < n → Same H1 H' → ∀ (R : V → Hp → Prop) (R0 : Hp → Prop), (∀ y, f i = some y → R y H') → (f i = none → R0 H') →
      g (.int (lo + (i : Nat))) (wipe σ vs) H' fun σ2 H2 => wipe σ2 vs = wipe σ vs ∧ tt σ2 H2 fun b H3 => if b = true then te σ2 H3 R else R0 H3)
    (h : ∀ D H', H1 D = none → Same H1 H' → H' D = some (.lst ((List.range n).filterMap f)) → QD D H') :
    ∀ D, H1 D = none → ∃ W : Nat → Nat → Hp → Prop, (∃ m, W 0 m (upd H1 D (.lst []))) ∧ ∀ i m H, W i m H →
      ((Itr lo n).stop i H ∧ QD D H) ∨ ((Itr lo n).go i H ∧ ∃ Nx : Hp → Prop, (∀ H', Nx H' → ∃ m', m' < m ∧ W (i + 1) m' H') ∧ ∀ x H', (Itr lo n).yld i H x H' → g x (wipe σ vs) H' fun σ2 H2 => wipe σ2 vs = wipe σ vs ∧ tt σ2 H2 fun b H3 =>
        if b = true then te σ2 H3 fun y H4 => ∃ acc, H4 D = some (.lst acc) ∧ acc.length < sizeLine ∧ Nx (upd H4 D (.lst (acc ++ [y]))) else Nx H3) := by
  refine fun D nD => lc_range (fun i H => Same H1 H ∧ H D = some (.lst (((List.range n).take i).filterMap f))) ⟨same_new nD, by rw [upd_same]; simp⟩ ?_ ?_
  · rintro i H hi ⟨sm, hD⟩
    have tk := take_filterMap (f := f) (range_take hi)
    refine step i H hi sm _ _ (fun y hy => ⟨_, hD, szl ?_, same_mut sm nD, ?_⟩) (fun hn => ⟨sm, ?_⟩)
    · have := List.length_filterMap_le f ((List.range n).take i)
      rw [List.length_take, List.length_range] at this
      omega
    · rw [upd_same, tk, hy]; rfl
    · rw [tk, hn, hD]; simp
  · rintro H ⟨sm, hD⟩
    rw [List.take_of_length_le (by simp)] at hD
    exact h D H nD sm hD
end
/-! ### min, max of a pair -/
def rMinT (K : PySem.W.Frag) : List V → Hp → VK → Prop := fun xs H Q => ∃ (p : Addr) (a b : Int), xs = [.ref p] ∧ SqT K H p [.int a, .int b] ∧ Q (.int (min a b)) H
def rMaxT (K : PySem.W.Frag) : List V → Hp → VK → Prop := fun xs H Q => ∃ (p : Addr) (a b : Int), xs = [.ref p] ∧ SqT K H p [.int a, .int b] ∧ Q (.int (max a b)) H
theorem reads_int {h : Heap} {v : Value} {n : Int} {as : List Addr} (r : Reads h v (.int n) as) : ∃ t, v = .int n t := by
  cases r; exact ⟨_, rfl⟩
theorem alike2 (a b : Int) : PySem.W.AlikeAll [.int a, .int b] := by
  refine ⟨fun x hx y hy => ?_, fun x hx => ?_⟩
  · simp only [List.mem_cons, List.not_mem_nil, or_false] at hx hy
    rcases hx with rfl | rfl <;> rcases hy with rfl | rfl <;> rfl
  · simp only [List.mem_cons, List.not_mem_nil, or_false] at hx
    rcases hx with rfl | rfl <;> (intro z; cases z)
theorem q_minT {X : Cx} (hc : X.calm = true) (hu : X.A.units + 64 < cLine) : CallR X (.builtin "min") (rMinT X.K) := by
  intro pins s σ H vs us Q I r h
  obtain ⟨p, a, b, rfl, hs, q⟩ := h
  obtain ⟨its, rv, hl, _⟩ := I.tuple hs
  rw [Vals.ref1 r]
  have ri : IntsAre its [a, b] := Vals.ints (ns := [a, b]) rv
  refine PySem.W.min_tuple_data (x := .int a) (xs := [.int b]) (as := []) (I.ok.hd hc) hl (ri.reads _) (alike2 a b) ?_ fun i v h' tk bs hi rd hk => ?_
  · have : PyData.depthAll [.int a, .int b] = 0 := rfl
    omega
  · rw [show PySem.W.minD (.int a) [.int b] = .int (min a b) from PySem.W.minD_ints a [b]] at rd
    obtain ⟨t, rfl⟩ := reads_int rd
    exact ⟨.int _, H, I.kept hk, ⟨_, rfl⟩, q⟩
theorem q_maxT {X : Cx} (hc : X.calm = true) (hu : X.A.units + 64 < cLine) : CallR X (.builtin "max") (rMaxT X.K) := by
  intro pins s σ H vs us Q I r h
  obtain ⟨p, a, b, rfl, hs, q⟩ := h
  obtain ⟨its, rv, hl, _⟩ := I.tuple hs
  rw [Vals.ref1 r]
  have ri : IntsAre its [a, b] := Vals.ints (ns := [a, b]) rv
  refine PySem.W.max_tuple_data (x := .int a) (xs := [.int b]) (as := []) (I.ok.hd hc) hl (ri.reads _) (alike2 a b) ?_ fun i v h' tk bs hi rd hk => ?_
  · have : PyData.depthAll [.int a, .int b] = 0 := rfl
    omega
  · rw [show PySem.W.maxD (.int a) [.int b] = .int (max a b) from PySem.W.maxD_ints a [b]] at rd
    obtain ⟨t, rfl⟩ := reads_int rd
    exact ⟨.int _, H, I.kept hk, ⟨_, rfl⟩, q⟩
theorem k_minT {K : PySem.W.Frag} {H : Hp} {Q : VK} {p : Addr} {a b : Int} (hs : SqT K H p [.int a, .int b]) (h : Q (.int (min a b)) H) : rMinT K [.ref p] H Q := ⟨p, a, b, rfl, hs, h⟩
theorem k_maxT {K : PySem.W.Frag} {H : Hp} {Q : VK} {p : Addr} {a b : Int} (hs : SqT K H p [.int a, .int b]) (h : Q (.int (max a b)) H) : rMaxT K [.ref p] H Q := ⟨p, a, b, rfl, hs, h⟩
end Cm

namespace Cm
open PySem PySem.Spec PyProof.Rows L2
/-! ### steps of a reading, found by instances -/
class Stp (p : Prop) (q : outParam Prop) : Prop where
  run : q → p
class Stps (p : Prop) (q : outParam Prop) : Prop where
  run : q → p
class Stps1 (p : Prop) (q : outParam Prop) : Prop where
  run : q → p
instance (priority := low) stps_nil {p : Prop} : Stps p p := ⟨id⟩
instance (priority := high) stps_cons {p q r : Prop} [a : Stp p q] [b : Stps q r] : Stps p r := ⟨fun h => a.run (b.run h)⟩
instance stps_one {p q r : Prop} [a : Stp p q] [b : Stps q r] : Stps1 p r := ⟨fun h => a.run (b.run h)⟩
theorem go {p q : Prop} [a : Stps1 p q] (h : q) : p := a.run h
class Slot (σ : L2.St) (i : Nat) (v : outParam V) : Prop where
  get : σ[i]? = some (some v)
instance {v : V} {r : L2.St} : Slot (some v :: r) 0 v := ⟨rfl⟩
instance {x : Option V} {v : V} {r : L2.St} {i : Nat} [a : Slot r i v] : Slot (x :: r) (i + 1) v := ⟨a.get⟩
class Put (σ : L2.St) (i : Nat) (v : Option V) (σ' : outParam L2.St) : Prop where
  eq : σ.set i v = σ'
instance {x v : Option V} {r : L2.St} : Put (x :: r) 0 v (v :: r) := ⟨rfl⟩
instance {x v : Option V} {r r' : L2.St} {i : Nat} [a : Put r i v r'] : Put (x :: r) (i + 1) v (x :: r') := ⟨by rw [List.set_cons_succ, a.eq]⟩
instance {σ σ0 σ' : L2.St} {j : Nat} {w : Option V} {i : Nat} {v : Option V} [a : Put σ j w σ0] [b : Put σ0 i v σ'] : Put (List.set σ j w) i v σ' := ⟨by rw [a.eq, b.eq]⟩
instance {σ σ0 : L2.St} {j : Nat} {w : Option V} {i : Nat} {v : V} [a : Put σ j w σ0] [b : Slot σ0 i v] : Slot (List.set σ j w) i v := ⟨by rw [a.eq, b.get]⟩
class Wip (σ : L2.St) (vs : List Nat) (σ' : outParam L2.St) : Prop where
  eq : wipe σ vs = σ'
instance {σ : L2.St} : Wip σ [] σ := ⟨rfl⟩
instance {σ σ' σ'' : L2.St} {i : Nat} {vs : List Nat} [b : Wip σ vs σ'] [a : Put σ' i none σ''] : Wip σ (i :: vs) σ'' := ⟨by
  show (wipe σ vs).set i none = σ''
  rw [b.eq, a.eq]⟩
instance {σ σ0 σ' : L2.St} {vs : List Nat} {i : Nat} {v : Option V} [a : Wip σ vs σ0] [b : Put σ0 i v σ'] : Put (wipe σ vs) i v σ' := ⟨by rw [a.eq, b.eq]⟩
/-- a new list, a new tuple -/
def newL (xs : List V) (H : Hp) (Q : VK) : Prop := xs.length ≤ sizeLine ∧ ∀ p, H p = none → Q (.ref p) (upd H p (.lst xs))
def newT (xs : List V) (H : Hp) (Q : VK) : Prop := xs.length ≤ sizeLine ∧ ∀ p, H p = none → Q (.ref p) (upd H p (.tup xs))
def newR (a b : Int) (H : Hp) (Q : VK) : Prop := RgOk a b ∧ ∀ q, H q = none → Q (.ref q) (upd H q (.lst (rgV a b)))
theorem kL {xs : List V} {H : Hp} {Q : VK} (hn : xs.length ≤ 100000) (h : ∀ p H', H p = none → Same H H' → H' p = some (.lst xs) → Q (.ref p) H') : newL xs H Q := ⟨sz hn, fun p np => h p _ np (same_new np) upd_same⟩
theorem kT {xs : List V} {H : Hp} {Q : VK} (hn : xs.length ≤ 100000) (h : ∀ p H', H p = none → Same H H' → H' p = some (.tup xs) → Q (.ref p) H') : newT xs H Q := ⟨sz hn, fun p np => h p _ np (same_new np) upd_same⟩
theorem kR {a b : Int} {H : Hp} {Q : VK} (hr : RgOk a b) (h : ∀ p H', H p = none → Same H H' → H' p = some (.lst (rgV a b)) → Q (.ref p) H') : newR a b H Q := ⟨hr, fun q nq => h q _ nq (same_new nq) upd_same⟩
section
variable {K : PySem.W.Frag} {σ σ' : L2.St} {H : Hp} {D : Ends} {Q : VK} {ta tb tc te to ti : TE} {t u : TT} {s1 s2 : TS} {QT : Bool → Hp → Prop} {QA : List V → Hp → Prop} {tr : TA} {QS : L2.St → Hp → Prop} {nx bk ct : L2.St → Hp → Prop} {rt : VK} {g : TG} {gs : TGs} {i j : Nat} {v w : V} {a b : Int} {wi : TI} {tS : TS}
instance : Stp (tSeq s1 s2 ⟨nx, rt, bk, ct⟩ σ H) (s1 ⟨s2 ⟨nx, rt, bk, ct⟩, rt, bk, ct⟩ σ H) := ⟨k_seq⟩
instance : Stp (tNext ⟨nx, rt, bk, ct⟩ σ H) (nx σ H) := ⟨k_next⟩
instance : Stp (tCont ⟨nx, rt, bk, ct⟩ σ H) (ct σ H) := ⟨k_cont⟩
instance : Stp (tBreak ⟨nx, rt, bk, ct⟩ σ H) (bk σ H) := ⟨k_brk⟩
instance : Stp (tAsg te g ⟨nx, rt, bk, ct⟩ σ H) (te σ H fun x H1 => g x σ H1 nx) := ⟨k_asg⟩
instance : Stp (tDrop te ⟨nx, rt, bk, ct⟩ σ H) (te σ H fun _ H1 => nx σ H1) := ⟨k_drop⟩
instance : Stp (tRet te ⟨nx, rt, bk, ct⟩ σ H) (te σ H rt) := ⟨k_ret⟩
instance : Stp (tRetN ⟨nx, rt, bk, ct⟩ σ H) (rt .non H) := ⟨k_retN⟩
instance {f : Int → Int → Int} [e : Slot σ i (.int a)] : Stp (tAug i te (ipI f) ⟨nx, rt, bk, ct⟩ σ H) (te σ H fun y H1 => ipI f (.int a) y H1 fun z H2 => gName i z σ H2 nx) := ⟨fun h => k_aug e.get h⟩
instance {f : Int → Int → Int} : Stp (ipI f (.int a) (.int b) H Q) (Q (.int (f a b)) H) := ⟨k_ipI⟩
instance : Stp (xAugL K to ti te ⟨nx, rt, bk, ct⟩ σ H) (to σ H fun o H1 => ti σ H1 fun i H2 => rGetL K o i H2 fun x H3 => te σ H3 fun y H4 => ipI (fun i j => i + j) x y H4 fun z H5 => rSetL o i z H5 fun H6 => nx σ H6) := ⟨k_augL⟩
instance : Stp (tIfS t s1 s2 D σ H) (t σ H fun b H1 => if b = true then s1 D σ H1 else s2 D σ H1) := ⟨k_if⟩
instance [e : Slot σ i v] : Stp (tVar i σ H Q) (Q v H) := ⟨fun h => k_var e.get h⟩
instance : Stp (tC v σ H Q) (Q v H) := ⟨k_c⟩
instance {r : R2} : Stp (tOp r ta tb σ H Q) (ta σ H fun x H1 => tb σ H1 fun y H2 => r x y H2 Q) := ⟨k_op⟩
instance {r : V → Hp → VK → Prop} : Stp (tUn r ta σ H Q) (ta σ H fun x H1 => r x H1 Q) := ⟨k_un⟩
instance : Stp (xAdd (.int a) (.int b) H Q) (Q (.int (a + b)) H) := ⟨k_add⟩
instance : Stp (xSub (.int a) (.int b) H Q) (Q (.int (a - b)) H) := ⟨k_sub⟩
instance : Stp (xLt (.int a) (.int b) H Q) (Q (.bl (decide (a < b))) H) := ⟨k_lt⟩
instance : Stp (xLe (.int a) (.int b) H Q) (Q (.bl (decide (a ≤ b))) H) := ⟨k_le⟩
instance : Stp (xGt (.int a) (.int b) H Q) (Q (.bl (decide (b < a))) H) := ⟨k_gt⟩
instance : Stp (xGe (.int a) (.int b) H Q) (Q (.bl (decide (b ≤ a))) H) := ⟨k_ge⟩
instance : Stp (xNeg (.int a) H Q) (Q (.int (-a)) H) := ⟨k_neg⟩
instance : Stp (rEq (.int a) (.int b) H Q) (Q (.bl (decide (a = b))) H) := ⟨k_eqI⟩
instance : Stp (rNe (.int a) (.int b) H Q) (Q (.bl (!decide (a = b))) H) := ⟨k_neI⟩
instance {a b : Bool} : Stp (rEq (.bl a) (.bl b) H Q) (Q (.bl (decide (a = b))) H) := ⟨k_eqB⟩
instance {a b : Bool} : Stp (rNe (.bl a) (.bl b) H Q) (Q (.bl (!decide (a = b))) H) := ⟨k_neB⟩
theorem k_eqNN (h : Q (.bl true) H) : rEq .non .non H Q := ⟨rfl, h⟩
theorem k_isN0 (h : Q (.bl true) H) : xIsN .non .non H Q := ⟨rfl, h⟩
theorem k_isNr {p : Addr} (h : Q (.bl false) H) : xIsN (.ref p) .non H Q := ⟨rfl, by rw [decide_eq_false (by intro z; cases z)]; exact h⟩
theorem k_isNi (h : Q (.bl false) H) : xIsN (.int a) .non H Q := ⟨rfl, by rw [decide_eq_false (by intro z; cases z)]; exact h⟩
theorem k_notN0 (h : Q (.bl false) H) : xNotN .non .non H Q := ⟨rfl, h⟩
theorem k_notNr {p : Addr} (h : Q (.bl true) H) : xNotN (.ref p) .non H Q := ⟨rfl, by rw [decide_eq_false (by intro z; cases z)]; exact h⟩
theorem k_notNi (h : Q (.bl true) H) : xNotN (.int a) .non H Q := ⟨rfl, by rw [decide_eq_false (by intro z; cases z)]; exact h⟩
instance : Stp (xIsN .non .non H Q) (Q (.bl true) H) := ⟨k_isN0⟩
instance {p : Addr} : Stp (xIsN (.ref p) .non H Q) (Q (.bl false) H) := ⟨k_isNr⟩
instance : Stp (xIsN (.int a) .non H Q) (Q (.bl false) H) := ⟨k_isNi⟩
instance : Stp (xNotN .non .non H Q) (Q (.bl false) H) := ⟨k_notN0⟩
instance {p : Addr} : Stp (xNotN (.ref p) .non H Q) (Q (.bl true) H) := ⟨k_notNr⟩
instance : Stp (xNotN (.int a) .non H Q) (Q (.bl true) H) := ⟨k_notNi⟩
instance : Stp (tTest te σ H QT) (te σ H fun x H1 => ∃ k, x = .bl k ∧ QT k H1) := ⟨k_test⟩
instance : Stp (tB te σ H QT) (te σ H fun x H1 => ∃ k, x = .bl k ∧ QT k H1) := ⟨k_B⟩
instance {b : Bool} {R : Bool → Prop} : Stp (∃ k, V.bl b = .bl k ∧ R k) (R b) := ⟨k_bl⟩
instance {R : Int → Prop} : Stp (∃ j, V.int a = .int j ∧ R j) (R a) := ⟨k_int⟩
instance {R : Int → Int → Prop} : Stp (∃ i' j', V.int a = .int i' ∧ V.int b = .int j' ∧ R i' j') (R a b) := ⟨k_int2⟩
instance : Stp (tAnd t u σ H QT) (t σ H fun c H1 => if c = true then u σ H1 QT else QT false H1) := ⟨k_and⟩
instance : Stp (tOr t u σ H QT) (t σ H fun c H1 => if c = true then QT true H1 else u σ H1 QT) := ⟨k_or⟩
instance : Stp (tNot t σ H QT) (t σ H fun c H1 => QT (!c) H1) := ⟨k_not⟩
instance : Stp (tNotV ta σ H Q) (ta σ H fun x H1 => ∃ c, x = .bl c ∧ Q (.bl (!c)) H1) := ⟨k_notV⟩
instance : Stp (tAndV ta tb σ H Q) (ta σ H fun x H1 => ∃ c, x = .bl c ∧ if c = true then tb σ H1 Q else Q (.bl false) H1) := ⟨k_andV⟩
instance : Stp (tOrV ta tb σ H Q) (ta σ H fun x H1 => ∃ c, x = .bl c ∧ if c = true then Q (.bl true) H1 else tb σ H1 Q) := ⟨k_orV⟩
instance {r : List V → Hp → VK → Prop} : Stp (tCB r tr σ H Q) (tr σ H fun vs H1 => r vs H1 Q) := ⟨k_cb⟩
instance : Stp (tNil σ H QA) (QA [] H) := ⟨k_nil⟩
instance : Stp (tCons ta tr σ H QA) (ta σ H fun x H1 => tr σ H1 fun xs H2 => QA (x :: xs) H2) := ⟨k_cons⟩
instance {sp : Sp} {E : XK} : Stp (tCall sp [] E tr σ H Q) (tr σ H fun vs H1 => sp vs H1 Q E) := ⟨fun h => k_call (by simpa only [List.append_nil] using h)⟩
instance : Stp (tLst tr σ H Q) (tr σ H fun xs H1 => newL xs H1 Q) := ⟨k_lst⟩
instance : Stp (tTup tr σ H Q) (tr σ H fun xs H1 => newT xs H1 Q) := ⟨k_tup⟩
instance {r : List V} : Stp (gCons g gs (v :: r) σ H QS) (g v σ H fun σ' H' => gs r σ' H' QS) := ⟨k_gcons⟩
instance : Stp (gNil [] σ H QS) (QS σ H) := ⟨k_gnil⟩
instance [e : Put σ i (some v) σ'] : Stp (gName i v σ H QS) (QS σ' H) := ⟨fun h => k_gname (by rw [e.eq]; exact h)⟩
instance {ts : TSet} : Stp (gSub to ti ts v σ H QS) (to σ H fun o H1 => ti σ H1 fun i H2 => ts o i v H2 fun H3 => QS σ H3) := ⟨k_gsub⟩
instance : Stp (rMax2 [.int a, .int b] H Q) (Q (.int (if b > a then b else a)) H) := ⟨k_max2⟩
instance : Stp (rMin2 [.int a, .int b] H Q) (Q (.int (if b < a then b else a)) H) := ⟨k_min2⟩
instance {T : String} {r : V → List V → Hp → VK → Prop} : Stp (tBM K T r ta tr σ H Q) (ta σ H fun x H1 => tyV K T x H1 ∧ tr σ H1 fun xs H2 => r x xs H2 Q) := ⟨k_bm⟩
instance {T : String} {r : V → List V → Hp → VK → Prop} : Stp (tBM0 K T r ta σ H Q) (ta σ H fun x H1 => tyV K T x H1 ∧ r x [] H1 Q) := ⟨k_bm0⟩
instance {A B : Prop} {i : Decidable (true = true)} : Stp (@ite Prop (true = true) i A B) A := ⟨fun h => by rw [if_pos rfl]; exact h⟩
instance {A B : Prop} {i : Decidable (false = true)} : Stp (@ite Prop (false = true) i A B) B := ⟨fun h => by rw [if_neg (by simp)]; exact h⟩
instance {A B : Prop} {i : Decidable ((!true) = true)} : Stp (@ite Prop ((!true) = true) i A B) B := ⟨fun h => by rw [if_neg (by simp)]; exact h⟩
instance {A B : Prop} {i : Decidable ((!false) = true)} : Stp (@ite Prop ((!false) = true) i A B) A := ⟨fun h => by rw [if_pos (by simp)]; exact h⟩
instance : Stp (tFor wi g tS ⟨nx, rt, bk, ct⟩ σ H) (wi σ H fun J H1 => ∃ W : Nat → Nat → L2.St → Hp → Prop, (∃ m, W 0 m σ H1) ∧ ∀ i m σ H, W i m σ H →
  (J.stop i H ∧ nx σ H) ∨ (J.go i H ∧ ∃ N : L2.St → Hp → Prop, (∀ σ' H', N σ' H' → ∃ m', m' < m ∧ W (i + 1) m' σ' H') ∧ ∀ x H', J.yld i H x H' → g x σ H' fun σ2 H2 => tS ⟨N, rt, nx, N⟩ σ2 H2)) := ⟨k_for⟩
instance {R : It → Hp → Prop} : Stp (iList K te σ H R) (te σ H fun x H1 => ∃ a, x = .ref a ∧ (∃ xs, SqL K H1 a xs) ∧ R (Itl K a) H1) := ⟨k_iList⟩
instance {R : It → Hp → Prop} : Stp (iTup K te σ H R) (te σ H fun x H1 => ∃ a, x = .ref a ∧ (∃ xs, SqT K H1 a xs) ∧ R (Itt K a) H1) := ⟨k_iTup⟩
instance {R : It → Hp → Prop} : Stp (iZip K tr σ H R) (tr σ H fun vs H1 => ∃ a b xs ys, vs = [.ref a, .ref b] ∧ SqL K H1 a xs ∧ SqL K H1 b ys ∧ R (Itz K a b) H1) := ⟨k_iZip⟩
instance {R : It → Hp → Prop} : Stp (iEnum K tr σ H R) (tr σ H fun vs H1 => ∃ a xs, vs = [.ref a] ∧ SqL K H1 a xs ∧ R (Ite K a) H1) := ⟨k_iEnum⟩
instance {R : It → Hp → Prop} : Stp (iRng1 tr σ H R) (tr σ H fun vs H1 => ∃ j : Int, vs = [.int j] ∧ -(2 ^ 62) ≤ j ∧ j < 2 ^ 62 ∧ R (Itr 0 j.toNat) H1) := ⟨k_iRng1⟩
instance {R : It → Hp → Prop} : Stp (iRng2 tr σ H R) (tr σ H fun vs H1 => ∃ i j : Int, vs = [.int i, .int j] ∧ (-(2 ^ 62) ≤ i ∧ i < 2 ^ 62 ∧ -(2 ^ 62) ≤ j ∧ j < 2 ^ 62) ∧ R (Itr i (j - i).toNat) H1) := ⟨k_iRng2⟩
instance {vs : List Nat} : Stp (tLc wi g t te vs σ H Q) (wi σ H fun J H1 => ∀ D, H1 D = none → ∃ W : Nat → Nat → Hp → Prop, (∃ m, W 0 m (upd H1 D (.lst []))) ∧ ∀ i m H, W i m H →
  (J.stop i H ∧ Q (.ref D) H) ∨ (J.go i H ∧ ∃ Nx : Hp → Prop, (∀ H', Nx H' → ∃ m', m' < m ∧ W (i + 1) m' H') ∧ ∀ x H', J.yld i H x H' → g x (wipe σ vs) H' fun σ2 H2 => wipe σ2 vs = wipe σ vs ∧ t σ2 H2 fun b H3 =>
    if b = true then te σ2 H3 fun y H4 => ∃ acc, H4 D = some (.lst acc) ∧ acc.length < sizeLine ∧ Nx (upd H4 D (.lst (acc ++ [y]))) else Nx H3)) := ⟨k_lc⟩
instance : Stp (tYes σ H QT) (QT true H) := ⟨k_yes⟩
instance {r : V → Option Int → Option Int → Hp → VK → Prop} {tl th : TO} : Stp (tSl r te tl th σ H Q) (te σ H fun x H1 => tl σ H1 fun l H2 => th σ H2 fun u H3 => r x l u H3 Q) := ⟨k_sl⟩
instance {QO : Option Int → Hp → Prop} : Stp (tNoPart σ H QO) (QO none H) := ⟨k_nopart⟩
instance {QO : Option Int → Hp → Prop} : Stp (tPart te σ H QO) (te σ H fun x H1 => ∃ i, x = .int i ∧ QO (some i) H1) := ⟨k_part⟩
instance {tg : L2.St → Hp → (Int → Int → Hp → Prop) → Prop} : Stp (tLstRg tg σ H Q) (tg σ H fun a b H1 => newR a b H1 Q) := ⟨k_listRg⟩
instance {QR : Int → Int → Hp → Prop} : Stp (tRg1 ta σ H QR) (ta σ H fun x H1 => ∃ n, x = .int n ∧ QR 0 n H1) := ⟨k_rg1⟩
instance {QR : Int → Int → Hp → Prop} : Stp (tRg2 ta tb σ H QR) (ta σ H fun x H1 => tb σ H1 fun y H2 => ∃ i j, x = .int i ∧ y = .int j ∧ QR i j H2) := ⟨k_rg2⟩
instance : Stp (rIsi K [.int a, .ty "int"] H Q) (Q (.bl true) H) := ⟨k_isiI⟩
instance : Stp (rIsi K [.int a, .ty "bool"] H Q) (Q (.bl false) H) := ⟨k_isiB⟩
instance : Stp (rIsi K [.int a, .ty "list"] H Q) (Q (.bl false) H) := ⟨k_isiLI⟩
instance {b : Bool} : Stp (rIntOf [.bl b] H Q) (Q (.int (if b then 1 else 0)) H) := ⟨k_intB⟩
theorem k_chain {r r' : R2} (h : ta σ H fun x H1 => tb σ H1 fun y H2 => r x y H2 fun z H3 => ∃ k, z = .bl k ∧ if k = true then tc σ H3 fun z H4 => r' y z H4 Q else Q (.bl false) H3) : tChain r r' ta tb tc σ H Q := h
instance {r r' : R2} : Stp (tChain r r' ta tb tc σ H Q) (ta σ H fun x H1 => tb σ H1 fun y H2 => r x y H2 fun z H3 => ∃ k, z = .bl k ∧ if k = true then tc σ H3 fun z H4 => r' y z H4 Q else Q (.bl false) H3) := ⟨k_chain⟩
theorem k_ifE (h : t σ H fun c H1 => if c = true then ta σ H1 Q else tb σ H1 Q) : tIf t ta tb σ H Q := h
instance : Stp (tIf t ta tb σ H Q) (t σ H fun c H1 => if c = true then ta σ H1 Q else tb σ H1 Q) := ⟨k_ifE⟩
def par2 (i j : Nat) (vs : List V) (σ : L2.St) (H : Hp) (nx : L2.St → Hp → Prop) : Prop := ∃ v w, vs = [v, w] ∧ nx ((σ.set i (some v)).set j (some w)) H
instance : Stp (tPar i j tr ⟨nx, rt, bk, ct⟩ σ H) (tr σ H fun vs H1 => par2 i j vs σ H1 nx) := ⟨fun h => h⟩
instance {σ'' : L2.St} [e : Put σ i (some v) σ'] [e2 : Put σ' j (some w) σ''] : Stp (par2 i j [v, w] σ H nx) (nx σ'' H) := ⟨fun h => ⟨v, w, rfl, by rw [e.eq, e2.eq]; exact h⟩⟩
end
/-! ### bits -/
def xShl : R2 := rI CPow fun i j => .int (i * 2 ^ j.toNat)
def xAnd : R2 := rI0 fun i j => .int (Builtin.bitAnd i j)
theorem k_shl {H : Hp} {Q : VK} {i j : Int} (hc : CPow i j) (h : Q (.int (i * 2 ^ j.toNat)) H) : xShl (.int i) (.int j) H Q := ⟨i, j, rfl, rfl, hc, h⟩
instance {H : Hp} {Q : VK} {i j : Int} : Stp (xAnd (.int i) (.int j) H Q) (Q (.int (Builtin.bitAnd i j)) H) := ⟨fun h => ⟨i, j, rfl, rfl, h⟩⟩
/-! ### list.count of flat values -/
def cntV (y : V) (ys : List V) : Nat := ys.countP fun z => eqV z y
def rCntV (K : PySem.W.Frag) : V → List V → Hp → VK → Prop := fun x xs H Q => ∃ (a : Addr) (ys : List V) (y : V), x = V.ref a ∧ xs = [y] ∧ SqL K H a ys ∧ flatV y = true ∧ ys.all flatV = true ∧ Q (.int (cntV y ys : Nat)) H
theorem cntV_eq {y : V} : ∀ {ys : List V} {its : List Value}, Vals ys its → ys.all flatV = true → its.countP (eqU y) = cntV y ys
  | _, _, .nil, _ => rfl
  | a :: as, _ :: _, .cons r rs, f => by
    have f1 : flatV a = true ∧ as.all flatV = true := by simpa using f
    unfold cntV
    rw [List.countP_cons, List.countP_cons, eqU_of r f1.1, cntV_eq rs f1.2]
    rfl
theorem mt_lcountV {X : Cx} : MtR X "list.count" (rCntV X.K) := by
  intro pins s σ H x xs v us Q I rx rxs h
  obtain ⟨a, ys, y, rfl, rfl, hs, fy, fys, q⟩ := h
  cases rx
  cases rxs with
  | cons ry rt =>
    rename_i uy ut
    cases rt
    obtain ⟨its, rv, ⟨⟨cls, dd, data, sl⟩, n, ho, hc, hdn, hd⟩, hlen⟩ := I.list hs
    simp only at hc hd
    subst hc hd
    refine call_meets PySem.F.slot_list_count ⟨_, ho, rfl⟩ PySem.F.entry_list_count (PySem.F.args_list_count_2 _ _)
      (SeqAt.list_countAt a its.toArray n dd sl uy (eqU y)) ⟨ho, fun u' hu' => mem_eqAt ry fy rv fys u' (by simpa using hu'), ?_⟩
    have ec : its.toArray.toList.countP (eqU y) = cntV y ys := cntV_eq rv fys
    refine ⟨.int (cntV y ys : Nat), H, I.tok _, ⟨s.toks, ?_⟩, q⟩
    show Value.int ((its.toArray.toList.countP (eqU y) : Nat) : Int) s.toks = Value.int ((cntV y ys : Nat) : Int) s.toks
    rw [ec]
section
variable {K : PySem.W.Frag} {H : Hp} {Q : VK}
theorem k_catN {p q : Addr} {xs ys : List V} (hp : H p = some (.lst xs)) (hq : H q = some (.lst ys)) (hz : xs.length + ys.length ≤ 100000) (h : ∀ l H', H l = none → Same H H' → H' l = some (.lst (xs ++ ys)) → Q (.ref l) H') : rCat (.ref p) (.ref q) H Q := k_cat hp hq hz fun l nl => h l _ nl (same_new nl) upd_same
theorem k_cntV {p : Addr} {ys : List V} {y : V} (hs : SqL K H p ys) (fy : flatV y = true) (fys : ys.all flatV = true) (h : Q (.int (cntV y ys : Nat)) H) : rCntV K (.ref p) [y] H Q := ⟨p, ys, y, rfl, rfl, hs, fy, fys, h⟩
theorem k_indexV {p : Addr} {ys : List V} {y z : V} {j : Nat} (hs : SqL K H p ys) (fy : flatV y = true) (fys : ys.all flatV = true) (hj : ys[j]? = some z) (hz : eqV z y = true) (hn : ∀ (m : Nat) (z' : V), m < j → ys[m]? = some z' → eqV z' y = false) (h : Q (.int (j : Nat)) H) : rIndex K (.ref p) [y] H Q := ⟨p, ys, y, j, z, rfl, rfl, hs, fy, fys, hj, hz, hn, h⟩
theorem k_sortedN {a : Addr} {ns : List Int} (hs : SqL K H a (ns.map V.int)) (h : ∀ (ns' : List Int) (p : Addr) H', ns'.Perm ns → ns'.Pairwise (· ≤ ·) → H p = none → Same H H' → H' p = some (.lst (ns'.map V.int)) → Q (.ref p) H') : rSortedI K [.ref a] H Q := k_sortedI hs fun ns' p h1 h2 h3 => h ns' p _ h1 h2 h3 (same_new h3) upd_same
end
/-! ### facts of older heaps -/
theorem hid_back {S : List Addr} {X Y : Hp} (h : Same X (hid S Y)) : Same X Y := h.trans (hid_same S Y)
theorem at_same {X Y : Hp} {p : Addr} {o : HO} (h : X p = some o) (s : Same X Y) : Y p = some o := s _ _ h
theorem sl_at {K : PySem.W.Frag} {X Y : Hp} {p : Addr} {xs : List V} (h : X p = some (.lst xs)) (s : Same X Y) : SqL K Y p xs := sl (s _ _ h)
theorem st_at {K : PySem.W.Frag} {X Y : Hp} {p : Addr} {xs : List V} (h : X p = some (.tup xs)) (s : Same X Y) : SqT K Y p xs := stp (s _ _ h)
theorem dpI_at {K : PySem.W.Frag} {X Y : Hp} {p : Addr} {ns : List Int} (h : X p = some (.lst (ns.map V.int))) (s : Same X Y) : Dp K Y (.ref p) (dInts ns) := dp_of_ints (sl (s _ _ h))
theorem dpP_at {K : PySem.W.Frag} {X Y : Hp} {p : Addr} {a b : Int} (h : X p = some (.tup [.int a, .int b])) (s : Same X Y) : Dp K Y (.ref p) (dPair (a, b)) := dp_of_pair (stp (s _ _ h))
theorem hid_free {S : List Addr} {H : Hp} (f : ∀ a ∈ S, H a = none) : Same H (hid S H) := fun b o hb => by
  rw [hid_ne fun z => by rw [f b z] at hb; cases hb]; exact hb
theorem hid_free1 {p : Addr} {H : Hp} (f : H p = none) : Same H (hid [p] H) := hid_free (free1 f)
theorem cut_to (xs : List V) (k : Nat) : cutV xs none (some (k : Int)) = xs.take k := by
  unfold cutV
  rw [HT.sIx_none, HT.sIx_nat, List.drop_zero, Nat.sub_zero]
  by_cases h : k ≤ xs.length
  · rw [Nat.min_eq_left h]
  · rw [Nat.min_eq_right (by omega), List.take_of_length_le (by simp), List.take_of_length_le (by omega)]
theorem cut_from (xs : List V) (k : Nat) : cutV xs (some (k : Int)) none = xs.drop k := by
  unfold cutV
  rw [HT.sIx_none, HT.sIx_nat]
  by_cases h : k ≤ xs.length
  · rw [Nat.min_eq_left h]
    exact List.take_of_length_le (by simp)
  · rw [Nat.min_eq_right (by omega), List.drop_of_length_le (Nat.le_refl _), List.drop_of_length_le (by omega), List.take_nil]
theorem dpa_take {K : PySem.W.Frag} {H : Hp} : ∀ {vs : List V} {ds : List PyData} (n : Nat), DpAll K H vs ds → DpAll K H (vs.take n) (ds.take n)
  | _, _, 0, _ => by simp only [List.take_zero]; exact .nil
  | _, _, n + 1, .nil => by simp only [List.take_nil]; exact .nil
  | _, _, n + 1, .cons h r => .cons h (dpa_take n r)
theorem dpa_drop {K : PySem.W.Frag} {H : Hp} : ∀ {vs : List V} {ds : List PyData} (n : Nat), DpAll K H vs ds → DpAll K H (vs.drop n) (ds.drop n)
  | _, _, 0, h => h
  | _, _, n + 1, .nil => by simp only [List.drop_nil]; exact .nil
  | _, _, n + 1, .cons _ r => dpa_drop n r
theorem Le.at {H H' : Hp} {pu p : Addr} {k : Int} {o : HO} (L : Le H pu k) (np : H p = none) (e : H' p = some o) : hid [pu] H' p = some o := by rw [hid_ne (L.fresh np)]; exact e
theorem hat {H : Hp} {pu p : Addr} {o : HO} (np : p ∉ [pu]) (e : H p = some o) : hid [pu] H p = some o := by rw [hid_ne np]; exact e
theorem kLp {xs : List V} {H : Hp} {Q : VK} {pu : Addr} {k : Int} (L : Le H pu k) (hn : xs.length ≤ 100000) (h : ∀ p H', H p = none → Same H H' → hid [pu] H' p = some (.lst xs) → Q (.ref p) H') : newL xs H Q := ⟨sz hn, fun p np => h p _ np (same_new np) (L.at np upd_same)⟩
theorem kTp {xs : List V} {H : Hp} {Q : VK} {pu : Addr} {k : Int} (L : Le H pu k) (hn : xs.length ≤ 100000) (h : ∀ p H', H p = none → Same H H' → hid [pu] H' p = some (.tup xs) → Q (.ref p) H') : newT xs H Q := ⟨sz hn, fun p np => h p _ np (same_new np) (L.at np upd_same)⟩
theorem sh_l2 {n : Nat} {c d : PyData} (h1 : Sh n c) (h2 : Sh n d) : Sh (n + 1) (.list [c, d]) := sh_list fun x hx => by
  rcases List.mem_cons.mp hx with rfl | hx
  · exact h1
  · rcases List.mem_cons.mp hx with rfl | hx
    · exact h2
    · cases hx
section
variable {K : PySem.W.Frag} {σ : L2.St} {H1 : Hp} {Q : VK} {g : TG} {tt : TT} {te : TE} {vs : List Nat}
/-- over a range, new objects may be made -/
theorem lc_growR {QD : Addr → Hp → Prop} {lo : Int} {n : Nat} (hz : n ≤ 50000) (f : Nat → Option V)
    (step : ∀ (i : Nat) H', i < n → Same H1 H' → ∀ (R : V → Hp → Prop) (R0 : Hp → Prop), (∀ y H'', f i = some y → Same H' H'' → R y H'') → (∀ H'', f i = none → Same H' H'' → R0 H'') →
      g (.int (lo + (i : Nat))) (wipe σ vs) H' fun σ2 H2 => wipe σ2 vs = wipe σ vs ∧ tt σ2 H2 fun b H3 => if b = true then te σ2 H3 R else R0 H3)
    (h : ∀ D H', H1 D = none → Same H1 H' → H' D = some (.lst ((List.range n).filterMap f)) → QD D H') :
    ∀ D, H1 D = none → ∃ W : Nat → Nat → Hp → Prop, (∃ m, W 0 m (upd H1 D (.lst []))) ∧ ∀ i m H, W i m H →
      ((Itr lo n).stop i H ∧ QD D H) ∨ ((Itr lo n).go i H ∧ ∃ Nx : Hp → Prop, (∀ H', Nx H' → ∃ m', m' < m ∧ W (i + 1) m' H') ∧ ∀ x H', (Itr lo n).yld i H x H' → g x (wipe σ vs) H' fun σ2 H2 => wipe σ2 vs = wipe σ vs ∧ tt σ2 H2 fun b H3 =>
        if b = true then te σ2 H3 fun y H4 => ∃ acc, H4 D = some (.lst acc) ∧ acc.length < sizeLine ∧ Nx (upd H4 D (.lst (acc ++ [y]))) else Nx H3) := by
  refine fun D nD => lc_range (fun i H => Same H1 H ∧ H D = some (.lst (((List.range n).take i).filterMap f))) ⟨same_new nD, by rw [upd_same]; simp⟩ ?_ ?_
  · rintro i H hi ⟨sm, hD⟩
    have tk := take_filterMap (f := f) (range_take hi)
    refine step i H hi sm _ _ (fun y H'' hy s2 => ⟨_, s2 _ _ hD, szl ?_, same_mut (sm.trans s2) nD, ?_⟩) (fun H'' hn s2 => ⟨sm.trans s2, ?_⟩)
    · have := List.length_filterMap_le f ((List.range n).take i)
      rw [List.length_take, List.length_range] at this
      omega
    · rw [upd_same, tk, hy]; rfl
    · rw [tk, hn, s2 _ _ hD]; simp
  · rintro H ⟨sm, hD⟩
    rw [List.take_of_length_le (by simp)] at hD
    exact h D H nD sm hD
end
/-- behind an if: what follows is shown once -/
theorem ifjoin {c : Bool} {σ : L2.St} {H : Hp} {s1 s2 : TS} {nx bk ct : L2.St → Hp → Prop} {rt : VK} (G : L2.St → Hp → Prop) (main : ∀ σ H, G σ H → nx σ H) (h : (∀ σ H, G σ H → nx σ H) → if c = true then s1 ⟨nx, rt, bk, ct⟩ σ H else s2 ⟨nx, rt, bk, ct⟩ σ H) : if c = true then s1 ⟨nx, rt, bk, ct⟩ σ H else s2 ⟨nx, rt, bk, ct⟩ σ H := h main
theorem k_repN {H : Hp} {Q : VK} {p : Addr} {xs : List V} {k : Int} (hp : H p = some (.lst xs)) (h0 : 0 ≤ k) (h1 : k < 100000) (h2 : xs.length * k.toNat ≤ 100000) (h : ∀ l H', H l = none → Same H H' → H' l = some (.lst (List.replicate k.toNat xs).flatten) → Q (.ref l) H') : rRep (.ref p) (.int k) H Q := k_rep hp h0 h1 h2 fun l nl => h l _ nl (same_new nl) upd_same
theorem ixN_last {n : Nat} (h : 0 < n) : ixN n (-1) = some (n - 1) := by
  unfold ixN
  rw [if_neg (by omega)]
  split
  · simp; omega
  · omega
theorem ifsjoin {t : TT} {σ : L2.St} {H : Hp} {s1 s2 : TS} {nx bk ct : L2.St → Hp → Prop} {rt : VK} (G : L2.St → Hp → Prop) (main : ∀ σ H, G σ H → nx σ H) (h : (∀ σ H, G σ H → nx σ H) → tIfS t s1 s2 ⟨nx, rt, bk, ct⟩ σ H) : tIfS t s1 s2 ⟨nx, rt, bk, ct⟩ σ H := h main
/-- over a list or a tuple -/
def iAny (w1 w2 : TI) : TI := fun σ H R => w1 σ H R ∨ w2 σ H R
theorem pi_any {X : Cx} {tg it : Expr} {w1 w2 : TI} (h1 : PI X tg it w1) (h2 : PI X tg it w2) : PI X tg it (iAny w1 w2) := ⟨fun pins s σ H R I h => by
  rcases h with h | h
  · exact h1.run pins s σ H R I h
  · exact h2.run pins s σ H R I h⟩
theorem k_inT2 {K : PySem.W.Frag} {H : Hp} {Q : VK} {p : Addr} {x a b : Int} (hs : SqT K H p [.int a, .int b]) (h : Q (.bl (decide (x = a ∨ x = b))) H) : rIn K false (.int x) (.ref p) H Q :=
  ⟨p, _, rfl, .inr hs, rfl, flat_ints [a, b], by
    rw [if_neg Bool.false_ne_true, show ([V.int a, .int b] : List V) = List.map V.int [a, b] from rfl, inV_ints]
    have e : decide (x ∈ [a, b]) = decide (x = a ∨ x = b) := by simp
    rw [e]; exact h⟩
theorem Pu.at {H H' : Hp} {pu ce p : Addr} {n : Nat} {t : Int} {o : HO} (L : Pu H pu ce n t) (np : H p = none) (e : H' p = some o) : hid [pu, ce] H' p = some o := by rw [hid_ne (L.fresh np)]; exact e
theorem kLq {xs : List V} {H : Hp} {Q : VK} {pu ce : Addr} {n : Nat} {t : Int} (L : Pu H pu ce n t) (hn : xs.length ≤ 100000) (h : ∀ p H', H p = none → Same H H' → hid [pu, ce] H' p = some (.lst xs) → Q (.ref p) H') : newL xs H Q := ⟨sz hn, fun p np => h p _ np (same_new np) (L.at np upd_same)⟩
theorem kTq {xs : List V} {H : Hp} {Q : VK} {pu ce : Addr} {n : Nat} {t : Int} (L : Pu H pu ce n t) (hn : xs.length ≤ 100000) (h : ∀ p H', H p = none → Same H H' → hid [pu, ce] H' p = some (.tup xs) → Q (.ref p) H') : newT xs H Q := ⟨sz hn, fun p np => h p _ np (same_new np) (L.at np upd_same)⟩
end Cm

namespace Cm
open PySem PySem.Spec PyProof.Rows L2

/-! ### how many unlike ints -/
def unl (ns : List Int) : Nat := (PyProof.Rows.firstMet (fun i => ns.getD i 0) ns.length).length
theorem unl_le (ns : List Int) : unl ns ≤ ns.length := PyProof.Rows.firstMet_length_le _ _
def tLenU (K : PySem.W.Frag) (ta : TE) : TE := fun σ H Q => ta σ H fun x H1 => ∃ (l : Addr) (ns : List Int), x = .ref l ∧ SqL K H1 l (ns.map V.int) ∧ ns.length ≤ 4000 ∧ Q (.int (unl ns : Nat)) H1
theorem pe_lenU {X : Cx} {a : Expr} {ta : TE} {p p2 q pos : Pos} (cm : X.calm = true) (gl : Gl X "len") (ml : X.mg "len" = none) (gs : Gl X "set") (ms : X.mg "set" = none) (pa : PE X a ta)
    (se : starEach [a] X.env = (false, eval a X.env) :: starEach [] X.env := by rfl) : PE X (.Call (.Name "len" p) [.Call (.Name "set" p2) [a] [] q] [] pos) (tLenU X.K ta) := by
  constructor
  intro pins s σ H Q I h
  refine Call_ (ld_blt I gl ml boot_len (PyProof.Rows.callWith_builtin1 (PyProof.Rows.args_cons ?_ rfl) rfl rfl))
  refine Call_ (ld_blt I gs ms boot_set (PyProof.Rows.callWith_type1 (PyProof.Rows.args_cons (thn (pa.run pins s σ H _ I h) fun v s1 ⟨x, H1, J, rx, qx⟩ => PyProof.Rows.args_nil ?_) se) se rfl))
  obtain ⟨l, ns, rfl, hq, hl, qx⟩ := qx
  cases rx
  obtain ⟨its, rv, pl, hz⟩ := J.list hq
  have sz1 : its.toArray.size = ns.length := by rw [List.size_toArray, ← rv.length, List.length_map]
  refine call_set_list (J.ok.hd cm) pl.isList (by simpa using RZ.intsAre_vals rv) (by rw [sz1]; unfold scanBound; omega) fun h' tk hS hk => PyProof.Rows.args_nil ?_
  rw [sz1] at hS
  obtain ⟨o, es, ep, t, ho, hex, hd, _, _, _, hf, hn⟩ := hS
  have J2 : Inv X pins σ H1 { s1 with heap := h', toks := tk } := J.kept fun b o e => hk b o (Heap.lt_size e) e
  have hu := unl_le ns
  exact call_len_set ho hex hd hf (by rw [hn]; unfold unl at hu; omega) ⟨.int (unl ns : Nat), H1, J2.tok _, ⟨_, by rw [hn]; rfl⟩, qx⟩

section
variable {K : PySem.W.Frag} {σ : L2.St} {H1 : Hp} {g : TG} {tt : TT} {te : TE} {vs : List Nat}
/-- over a tuple, new objects may be made -/
theorem lc_growT {QD : Addr → Hp → Prop} {α : Type} {a : Addr} {xs : List V} (hs : SqT K H1 a xs) (ps : List α) (hl : xs.length = ps.length) (hz : ps.length ≤ 50000) (f : α → Option V)
    (step : ∀ (i : Nat) x p H', xs[i]? = some x → ps[i]? = some p → Same H1 H' → ∀ (R : V → Hp → Prop) (R0 : Hp → Prop), (∀ y H'', f p = some y → Same H' H'' → R y H'') → (∀ H'', f p = none → Same H' H'' → R0 H'') →
      g x (wipe σ vs) H' fun σ2 H2 => wipe σ2 vs = wipe σ vs ∧ tt σ2 H2 fun b H3 => if b = true then te σ2 H3 R else R0 H3)
    (h : ∀ D H', H1 D = none → Same H1 H' → H' D = some (.lst (ps.filterMap f)) → QD D H') :
    ∃ a', V.ref a = .ref a' ∧ (∃ xs, SqT K H1 a' xs) ∧ ∀ D, H1 D = none → ∃ W : Nat → Nat → Hp → Prop, (∃ m, W 0 m (upd H1 D (.lst []))) ∧ ∀ i m H, W i m H →
      ((Itt K a').stop i H ∧ QD D H) ∨ ((Itt K a').go i H ∧ ∃ Nx : Hp → Prop, (∀ H', Nx H' → ∃ m', m' < m ∧ W (i + 1) m' H') ∧ ∀ x H', (Itt K a').yld i H x H' → g x (wipe σ vs) H' fun σ2 H2 => wipe σ2 vs = wipe σ vs ∧ tt σ2 H2 fun b H3 =>
        if b = true then te σ2 H3 fun y H4 => ∃ acc, H4 D = some (.lst acc) ∧ acc.length < sizeLine ∧ Nx (upd H4 D (.lst (acc ++ [y]))) else Nx H3) := by
  refine ⟨a, rfl, ⟨xs, hs⟩, fun D nD => lc_tup (xs := xs) (fun i H => Same H1 H ∧ H D = some (.lst ((ps.take i).filterMap f))) ⟨same_new nD, by rw [upd_same]; simp⟩ (fun i H _ e => same_seqT e.1 hs) ?_ ?_⟩
  · rintro i x H hx ⟨sm, hD⟩
    have hi : i < xs.length := (List.getElem?_eq_some_iff.mp hx).1
    obtain ⟨p, hp⟩ : ∃ p, ps[i]? = some p := ⟨ps[i]'(by omega), List.getElem?_eq_getElem (by omega)⟩
    have tk := take_filterMap (f := f) hp
    refine step i x p H hx hp sm _ _ (fun y H'' hy s2 => ⟨_, s2 _ _ hD, szl ?_, same_mut (sm.trans s2) nD, ?_⟩) (fun H'' hn s2 => ⟨sm.trans s2, ?_⟩)
    · have := List.length_filterMap_le f (ps.take i)
      rw [List.length_take] at this
      omega
    · rw [upd_same, tk, hy]; rfl
    · rw [tk, hn, s2 _ _ hD]; simp
  · rintro H ⟨sm, hD⟩
    rw [hl, List.take_length] at hD
    exact h D H nD sm hD
end
theorem k_ixN {K : PySem.W.Frag} {H : Hp} {Q : VK} {p : Addr} {ns : List Int} {i : Nat} {x : Int} (hs : SqL K H p (ns.map V.int)) (hx : ns[i]? = some x) (h : Q (.int x) H) : rIxL K (.ref p) (.int i) H Q := k_ixL hs (atI_nat (by rw [List.getElem?_map, hx]; rfl)) h
theorem fm_map {α : Type} (f : α → V) (l : List α) : l.filterMap (fun x => some (f x)) = l.map f := by
  rw [show (fun x => some (f x)) = some ∘ f from rfl, List.filterMap_eq_map]

/-- what follows a statement is shown once, and lies out of sight meanwhile -/
theorem seqO {s1 s2 : TS} {σ : L2.St} {H : Hp} {nx bk ct : L2.St → Hp → Prop} {rt : VK} (G : L2.St → Hp → Prop) (main : ∀ σ H, G σ H → s2 ⟨nx, rt, bk, ct⟩ σ H) (h : ∀ nx' : L2.St → Hp → Prop, (∀ σ H, G σ H → nx' σ H) → s1 ⟨nx', rt, bk, ct⟩ σ H) : tSeq s1 s2 ⟨nx, rt, bk, ct⟩ σ H := h _ main
/-- the last statement of a block -/
theorem lastO {s1 : TS} {σ : L2.St} {H : Hp} {nx bk ct : L2.St → Hp → Prop} {rt : VK} (G : L2.St → Hp → Prop) (main : ∀ σ H, G σ H → nx σ H) (h : ∀ nx' : L2.St → Hp → Prop, (∀ σ H, G σ H → nx' σ H) → s1 ⟨nx', rt, bk, ct⟩ σ H) : s1 ⟨nx, rt, bk, ct⟩ σ H := h _ main

/-! ### texts -/
def rStrInt : List V → Hp → VK → Prop := fun xs H Q => ∃ i : Int, xs = [.int i] ∧ i.natAbs.log2 < 1920 ∧ Q (.str (toString i)) H
theorem q_strI {X : Cx} : CallR X (.type "str") rStrInt := call_str_int
def xAddS : R2 := fun x y H Q => ∃ i j, x = .str i ∧ y = .str j ∧ i.length + j.length ≤ sizeLine ∧ Q (.str (i ++ j)) H
def rJoin (K : PySem.W.Frag) : V → List V → Hp → VK → Prop := fun x xs H Q => ∃ a p, ∃ ys : List Str, x = .str a ∧ xs = [.ref p] ∧ (SqL K H p (ys.map V.str) ∨ SqT K H p (ys.map V.str)) ∧ (ys.map (·.length)).sum + ys.length * a.length ≤ 16777216 ∧ Q (.str (Txt.join a ys)) H
/-- the signs of a text -/
abbrev sg (s : Str) : List Nat := TL.tl s
def mkS (l : List Nat) : Str := ⟨l.toArray⟩
theorem sg_mkS (l : List Nat) : sg (mkS l) = l := rfl
theorem mkS_sg (s : Str) : mkS (sg s) = s := TL.ext_tl rfl
theorem mkS_inj {l m : List Nat} : mkS l = mkS m ↔ l = m := ⟨fun h => by have := congrArg sg h; rwa [sg_mkS, sg_mkS] at this, fun h => by rw [h]⟩
/-- the signs of a whole number -/
def nu (i : Int) : List Nat := sg (Str.ofString (toString i))
section
variable {K : PySem.W.Frag} {σ : L2.St} {H : Hp} {Q : VK} {to te : TE}
instance {r : V → List V → Hp → VK → Prop} : Stp (tM1 r to te σ H Q) (to σ H fun x H1 => (∃ a, x = .str a) ∧ te σ H1 fun y H2 => r x [y] H2 Q) := ⟨fun h => h⟩
instance {r : V → List V → Hp → VK → Prop} : Stp (tM0 r to σ H Q) (to σ H fun x H1 => (∃ a, x = .str a) ∧ r x [] H1 Q) := ⟨fun h => h⟩
instance {s : Str} {R : Prop} : Stp ((∃ a, V.str s = .str a) ∧ R) R := ⟨fun h => ⟨⟨s, rfl⟩, h⟩⟩
instance : Stp (tLenU K te σ H Q) (te σ H fun x H1 => ∃ (l : Addr) (ns : List Int), x = .ref l ∧ SqL K H1 l (ns.map V.int) ∧ ns.length ≤ 4000 ∧ Q (.int (unl ns : Nat)) H1) := ⟨fun h => h⟩
theorem k_lenU {l : Addr} {ns : List Int} (hs : SqL K H l (ns.map V.int)) (hl : ns.length ≤ 4000) (h : Q (.int (unl ns : Nat)) H) : ∃ (l' : Addr) (ns : List Int), V.ref l = .ref l' ∧ SqL K H l' (ns.map V.int) ∧ ns.length ≤ 4000 ∧ Q (.int (unl ns : Nat)) H := ⟨l, ns, rfl, hs, hl, h⟩
/-- a number of at most thirty figures -/
def Num30 (i : Int) : Prop := 0 ≤ i ∧ i < 10 ^ 30
theorem log_lt {n : Nat} (h : n < 2 ^ 1900) : n.log2 < 1920 := by
  by_cases c : n = 0
  · subst c; decide
  · have := (Nat.log2_lt c (k := 1900)).mpr h
    omega
theorem k_strI {i : Int} (h0 : i.natAbs < 2 ^ 1900) (h : Q (.str (mkS (nu i))) H) : rStrInt [.int i] H Q := ⟨i, rfl, log_lt h0, by unfold nu at h; rw [mkS_sg] at h; exact h⟩
theorem len_sg (s : Str) : s.length = (sg s).length := TL.len_tl s
theorem k_addS {s t : Str} (hz : (sg s).length + (sg t).length ≤ 100000) (h : Q (.str (mkS (sg s ++ sg t))) H) : xAddS (.str s) (.str t) H Q := ⟨s, t, rfl, rfl, by rw [len_sg, len_sg]; exact sz hz, by
  have e : s ++ t = mkS (sg s ++ sg t) := TL.ext_tl (TL.tl_append s t)
  rw [e]; exact h⟩
theorem k_join {s : Str} {p : Addr} {ys : List Str} (hp : SqL K H p (ys.map V.str)) (hz : (ys.map (·.length)).sum + ys.length * s.length ≤ 16777216) (h : Q (.str (mkS (TL.joinL (sg s) (ys.map sg)))) H) : rJoin K (.str s) [.ref p] H Q :=
  ⟨s, p, ys, rfl, rfl, .inl hp, hz, by
    have e : Txt.join s ys = mkS (TL.joinL (sg s) (ys.map sg)) := TL.ext_tl (by rw [TL.join_eq]; exact TL.tl_join s ys)
    rw [e]; exact h⟩
theorem k_isiS {s : Str} (h : Q (.bl true) H) : rIsi K [.str s, .ty "str"] H Q := k_isi (.base (.str s)) (by decide +kernel) h
end
/-! ### more of texts -/
def g_tokS (mg : Str → Option Value) (x : Str) : Tok := match mg x with
  | some (.str _ t) => t
  | _ => default
theorem tok_mkS {mg : Str → Option Value} {x n : Str} {t : Tok} (h : mg x = some (.str n t)) : mg x = some (.str n (g_tokS mg x)) := by
  unfold g_tokS
  rw [h]
theorem q_isiT {X : Cx} : CallR X (.builtin "isinstance") (rIsiT X.K) := call_isiT
def rLenStr : List V → Hp → VK → Prop := fun xs H Q => ∃ z : Str, xs = [.str z] ∧ z.length ≤ sizeLine ∧ Q (.int z.length) H
theorem q_lenS {X : Cx} : CallR X (.builtin "len") rLenStr := call_len_str
def xInS : R2 := fun x y H Q => ∃ i j, x = .str i ∧ y = .str j ∧ Q (.bl (!(Builtin.Str.occurrences j i 0 j.length 1).isEmpty)) H
def xNotInS : R2 := fun x y H Q => ∃ i j, x = .str i ∧ y = .str j ∧ Q (.bl (!(!(Builtin.Str.occurrences j i 0 j.length 1).isEmpty))) H
def rFind : V → List V → Hp → VK → Prop := fun x xs H Q => ∃ a b, x = .str a ∧ xs = [.str b] ∧ Q (.int (Txt.find a b)) H
def rSplit : V → List V → Hp → VK → Prop := fun x xs H Q => ∃ a b, x = .str a ∧ xs = [.str b] ∧ (b.length == 0) = false ∧ a.length + 2 ≤ sizeLine ∧ rNewStrs (Txt.split a b) H Q
section
variable {K : PySem.W.Frag} {σ : L2.St} {H : Hp} {Q : VK} {te : TE}
instance {R : It → Hp → Prop} : Stp (iStr te σ H R) (te σ H fun v H1 => ∃ x, v = .str x ∧ R (Its x) H1) := ⟨fun h => h⟩
theorem k_lenS {l : List Nat} (hl : l.length ≤ 100000) (h : Q (.int (l.length : Nat)) H) : rLenStr [.str (mkS l)] H Q := ⟨_, rfl, by rw [len_sg, sg_mkS]; exact sz hl, by rw [len_sg, sg_mkS]; exact h⟩
theorem k_notInS {l : List Nat} {c : Nat} (h : Q (.bl (!decide (c ∈ l))) H) : xNotInS (.str ⟨#[c]⟩) (.str (mkS l)) H Q := ⟨_, _, rfl, rfl, by
  rw [StrLaws.found_one]; exact h⟩
theorem k_inS {l : List Nat} {c : Nat} (h : Q (.bl (decide (c ∈ l))) H) : xInS (.str ⟨#[c]⟩) (.str (mkS l)) H Q := ⟨_, _, rfl, rfl, by
  rw [StrLaws.found_one]; exact h⟩
theorem k_split {l : List Nat} {s : Str} {ps : List (List Nat)} (hl : l.length ≤ 99000) (hs : s.length ≠ 0) (hp : Txt.split (mkS l) s = ps.map mkS) (h : ∀ p H', H p = none → Same H H' → H' p = some (.lst (ps.map fun q => V.str (mkS q))) → Q (.ref p) H') : rSplit (.str (mkS l)) [.str s] H Q :=
  ⟨_, _, rfl, rfl, by simpa using hs, by rw [len_sg, sg_mkS]; exact sz (by omega), fun p np => h p _ np (same_new np) (by rw [upd_same, hp, List.map_map]; rfl)⟩
theorem k_ixS {l : List Nat} {i : Nat} {c : Nat} (hl : l.length ≤ 100000) (hc : l[i]? = some c) (h : Q (.str ⟨#[c]⟩) H) : rIxS (.str (mkS l)) (.int i) H Q := ⟨_, _, c, rfl, rfl, by rw [len_sg, sg_mkS]; exact sz hl, atI_nat hc, h⟩
end
theorem split_one {s : Nat} {ps : List (List Nat)} (hs : s < 256) (hne : ps ≠ []) (hp : ∀ p ∈ ps, s ∉ p) : Txt.split (mkS (TL.joinL [s] ps)) ⟨#[s]⟩ = ps.map mkS := by
  have e : mkS (TL.joinL [s] ps) = Txt.join ⟨#[s]⟩ (ps.map mkS) := TL.ext_tl (by
    rw [TL.join_eq, TL.tl_join, List.map_map]
    show TL.joinL [s] ps = TL.joinL [s] (ps.map (TL.tl ∘ mkS))
    rw [show (TL.tl ∘ mkS) = id from rfl, List.map_id])
  rw [e]
  refine TL.split_join (s := s) (S := []) rfl (by simp [hs]) (by simpa using hne) fun p h => ?_
  obtain ⟨q, hq, rfl⟩ := List.mem_map.mp h
  exact hp q hq
/-- rows, each with its end, and what stands behind the last end -/
theorem rows_join (rs : List (List Nat)) (e : Nat) (z : List Nat) : (rs.map fun r => r ++ [e]).flatten ++ z = TL.joinL [e] (rs ++ [z]) := by
  induction rs with
  | nil => rfl
  | cons r t ih =>
    have : TL.joinL [e] (r :: (t ++ [z])) = r ++ ([e] ++ TL.joinL [e] (t ++ [z])) := by
      cases t <;> rfl
    rw [List.cons_append, this, ← ih]
    simp
theorem sg_str (s : String) : sg (Str.ofString s) = s.toList.map Char.toNat := TL.tl_ofString s
theorem nu_nat (n : Nat) : nu (n : Int) = TL.numL n := TL.tl_num n
theorem nu_len {i : Int} (h : 0 ≤ i) {k : Nat} (k0 : 0 < k) (h1 : i < 10 ^ k) : (nu i).length ≤ k := by
  obtain ⟨n, rfl⟩ := Int.eq_ofNat_of_zero_le h
  rw [nu_nat]
  unfold TL.numL
  rw [List.length_map]
  refine (Nat.length_toDigits_le_iff (by decide) k0).mpr ?_
  have : ((n : Nat) : Int) < ((10 ^ k : Nat) : Int) := by rw [Int.natCast_pow]; exact h1
  exact Int.ofNat_lt.mp this
/-- signs behind one another -/
theorem joinL_nil (ps : List (List Nat)) : TL.joinL [] ps = ps.flatten := by
  induction ps with
  | nil => rfl
  | cons p r ih => cases r with
    | nil => simp [TL.joinL]
    | cons q r => show p ++ ([] ++ TL.joinL [] (q :: r)) = _; rw [ih]; simp
theorem joinL_cons (S p : List Nat) (r : List (List Nat)) : TL.joinL S (p :: r) = p ++ (r.map fun q => S ++ q).flatten := by
  induction r generalizing p with
  | nil => simp [TL.joinL]
  | cons q r ih => show p ++ (S ++ TL.joinL S (q :: r)) = _; rw [ih]; simp
theorem sum_le {l : List Nat} {b : Nat} (h : ∀ x ∈ l, x ≤ b) : l.sum ≤ l.length * b := by
  induction l with
  | nil => simp
  | cons x r ih =>
    have h1 := ih fun y hy => h y (List.mem_cons_of_mem _ hy)
    have h2 := h x List.mem_cons_self
    rw [List.sum_cons, List.length_cons, Nat.add_mul]
    omega
theorem flat_le {l : List (List Nat)} {b : Nat} (h : ∀ x ∈ l, x.length ≤ b) : l.flatten.length ≤ l.length * b := by
  rw [List.length_flatten]
  have := sum_le (l := l.map List.length) (b := b) fun x hx => by
    obtain ⟨y, hy, rfl⟩ := List.mem_map.mp hx
    exact h y hy
  rw [List.length_map] at this
  exact this
end Cm

namespace Pf
open PySem PySem.Spec PyProof.Rows L2 Cm
local macro_rules | `(tactic| wtm_at "smh") => `(tactic| with_reducible first
  | assumption
  | (refine Same.trans ?_ (by assumption); wtm_at "smx")
  | (refine Same.trans ?_ (hid_mono (by assumption)); wtm_at "smx"))
local macro_rules | `(tactic| wtm_at "smx") => `(tactic| with_reducible first
  | exact Same.refl _
  | assumption
  | exact hid_same _ _
  | (refine Same.trans ?_ (by assumption); wtm_at "smx")
  | (refine Same.trans ?_ (hid_mono (by assumption)); wtm_at "smx")
  | (apply hid_back; wtm_at "smh"))
local macro_rules | `(tactic| wtm_at "sm") => `(tactic| wtm_at "smx")
local macro_rules | `(tactic| wtm_at "at") => `(tactic| with_reducible first
  | assumption
  | exact upd_same
  | (refine at_same (by assumption) ?_; wtm_at "smx"))
local macro_rules | `(tactic| wtm_at "le") => `(tactic| with_reducible first
  | assumption
  | (refine Le.same (by assumption) ?_; wtm_at "smx"))
local macro_rules | `(tactic| wtm_at "dp") => `(tactic| with_reducible first
  | assumption
  | exact .int _
  | exact .str _
  | exact .bl _
  | (refine dp_same ?_ (by assumption); wtm_at "smx")
  | (refine dpa_same ?_ (by assumption); wtm_at "smx")
  | (refine dpI_at (by assumption) ?_; wtm_at "smx")
  | (refine dpP_at (by assumption) ?_; wtm_at "smx"))
local macro_rules | `(tactic| wtm_at "sq") => `(tactic| with_reducible first
  | assumption
  | exact sl (by assumption)
  | exact stp (by assumption)
  | (refine sl_at (by assumption) ?_; wtm_at "smx")
  | (refine st_at (by assumption) ?_; wtm_at "smx")
  | (refine Same.seq ?_ (by assumption); wtm_at "smx")
  | (refine same_seqT ?_ (by assumption); wtm_at "smx")
  | ((show SqL _ (upd _ _ _) _ _); exact sl upd_same)
  | ((show SqT _ (upd _ _ _) _ _); exact stp upd_same))
local macro_rules | `(tactic| wtm_at "cI") => `(tactic| first
  | (refine Or.inl ⟨?_, ?_⟩ <;> omega)
  | (refine Or.inr ⟨?_, ?_⟩ <;> omega)
  | (refine ⟨?_, ?_⟩ <;> omega)
  | decide)
local macro_rules | `(tactic| wtm_at "pf") => `(tactic| first | omega | decide)
local macro_rules | `(tactic| wtm_at "s2") => `(tactic| with_reducible first
  | ((show ite _ _ _); first
    | refine k_itDT (by with_unfolding_all wtm_at "pf") ?_
    | refine k_itDF (by with_unfolding_all wtm_at "pf") ?_
    | refine k_itNT (by with_unfolding_all wtm_at "pf") ?_
    | refine k_itNF (by with_unfolding_all wtm_at "pf") ?_)
  | ((show rLen _ _ _ _); first
    | refine k_len0 (by assumption) ?_
    | refine k_lenI (by wtm_at "sq") ?_
    | refine k_len (by wtm_at "sq") ?_)
  | ((show gTup _ _ _ _ _ _ _); refine k_gtup (by wtm_at "sq") (by with_unfolding_all rfl) ?_)
  | ((show rIxT _ (V.ref _) (V.int _) _ _); refine k_ixT (by wtm_at "sq") (by with_unfolding_all rfl) ?_)
  | ((show wipe _ _ = wipe _ _ ∧ _); refine k_wipe (by with_unfolding_all rfl) ?_)
  | ((show rIn _ _ _ _ _ _); first
    | refine k_inI (by wtm_at "sq") ?_
    | refine k_notInI (by wtm_at "sq") ?_)
  | ((show rIsi _ _ _ _); refine k_isiL (by wtm_at "sq") ?_)
  | ((show xMod _ _ _ _); refine k_mod (by with_unfolding_all first | decide | omega) ?_)
  | ((show xMul _ _ _ _); refine k_mul (by with_unfolding_all wtm_at "cI") ?_)
  | ((show xDiv _ _ _ _); refine k_div (by with_unfolding_all wtm_at "cI") ?_)
  | ((show xPow _ _ _ _); refine k_pow (by with_unfolding_all exact ⟨by decide, by decide, by decide⟩) ?_)
  | ((show rMinT _ _ _ _); refine k_minT (by wtm_at "sq") ?_)
  | ((show rMaxT _ _ _ _); refine k_maxT (by wtm_at "sq") ?_)
  | ((show ∃ j' : Int, [V.int _] = [.int j'] ∧ _); refine k_rj1 (by with_unfolding_all omega) (by with_unfolding_all omega) ?_)
  | ((show ∃ i' j' : Int, [V.int _, V.int _] = [.int i', .int j'] ∧ _); refine k_rj2 (by with_unfolding_all omega) ?_))
local macro_rules | `(tactic| wtm_at "s1") => `(tactic| first
  | refine go ?_
  | wtm_at "s2")
local macro_rules | `(tactic| wtm_at "s") => `(tactic| repeat wtm_at "s1")
def topS (i : Nat) : Stmt := PySem.Challenge.pw_tiehues_k78_nets_read.main.body.getD i (.Pass ⟨0, 0, 0, 0⟩)
abbrev s_is_tree : Stmt := topS 7
theorem sc_is_tree : FnScope ["parents", "k"] ["parents"] (defScope s_is_tree) := ⟨rfl, rfl, rfl, by decide +kernel, rfl, by decide +kernel, by decide +kernel⟩
abbrev s_look_net : Stmt := topS 8
theorem sc_look_net : FnScope ["net", "kind", "size", "right"] ["net"] (defScope s_look_net) := ⟨rfl, rfl, rfl, by decide +kernel, rfl, by decide +kernel, by decide +kernel⟩
abbrev s_places_of : Stmt := topS 9
theorem sc_places_of : FnScope ["net"] ["net"] (defScope s_places_of) := ⟨rfl, rfl, rfl, by decide +kernel, rfl, by decide +kernel, by decide +kernel⟩
abbrev s_is_way : Stmt := topS 10
theorem sc_is_way : FnScope ["net", "way", "a", "b"] ["net", "way"] (defScope s_is_way) := ⟨rfl, rfl, rfl, by decide +kernel, rfl, by decide +kernel, by decide +kernel⟩
abbrev s_ties_on : Stmt := topS 11
theorem sc_ties_on : FnScope ["net", "way", "a", "b", "found"] ["net", "way"] (defScope s_ties_on) := ⟨rfl, rfl, rfl, by decide +kernel, rfl, by decide +kernel, by decide +kernel⟩
abbrev s_must_be_ways : Stmt := topS 12
theorem sc_must_be_ways : FnScope ["net", "ways", "k"] ["net", "ways"] (defScope s_must_be_ways) := ⟨rfl, rfl, rfl, by decide +kernel, rfl, by decide +kernel, by decide +kernel⟩
abbrev s_look_ways : Stmt := topS 13
theorem sc_look_ways : FnScope ["net", "ways"] ["net", "ways"] (defScope s_look_ways) := ⟨rfl, rfl, rfl, by decide +kernel, rfl, by decide +kernel, by decide +kernel⟩
abbrev s_first_clash : Stmt := topS 14
theorem sc_first_clash : FnScope ["lain", "hues", "i", "j", "tie"] ["lain", "hues"] (defScope s_first_clash) := ⟨rfl, rfl, rfl, by decide +kernel, rfl, by decide +kernel, by decide +kernel⟩
abbrev s_clash : Stmt := topS 15
theorem sc_clash : FnScope ["net", "ways", "hues", "way"] ["net", "ways", "hues"] (defScope s_clash) := ⟨rfl, rfl, rfl, by decide +kernel, rfl, by decide +kernel, by decide +kernel⟩
abbrev s_number_of : Stmt := topS 20
theorem sc_number_of : FnScope ["word", "number", "sign"] ["word"] (defScope s_number_of) := ⟨rfl, rfl, rfl, by decide +kernel, rfl, by decide +kernel, by decide +kernel⟩
abbrev s_numbers_of : Stmt := topS 21
theorem sc_numbers_of : FnScope ["words", "numbers", "word"] ["words"] (defScope s_numbers_of) := ⟨rfl, rfl, rfl, by decide +kernel, rfl, by decide +kernel, by decide +kernel⟩
abbrev s_net_of : Stmt := topS 22
theorem sc_net_of : FnScope ["words", "sizes", "net"] ["words"] (defScope s_net_of) := ⟨rfl, rfl, rfl, by decide +kernel, rfl, by decide +kernel, by decide +kernel⟩
abbrev s_way_of : Stmt := topS 23
theorem sc_way_of : FnScope ["net", "words", "ends"] ["net", "words"] (defScope s_way_of) := ⟨rfl, rfl, rfl, by decide +kernel, rfl, by decide +kernel, by decide +kernel⟩
abbrev s_hues_of : Stmt := topS 24
theorem sc_hues_of : FnScope ["net", "ways", "words", "hues"] ["net", "ways", "words"] (defScope s_hues_of) := ⟨rfl, rfl, rfl, by decide +kernel, rfl, by decide +kernel, by decide +kernel⟩
abbrev s_read_net : Stmt := topS 25
theorem sc_read_net : FnScope ["text", "rows", "net", "ways", "hues", "k", "words", "way"] ["text"] (defScope s_read_net) := ⟨rfl, rfl, rfl, by decide +kernel, rfl, by decide +kernel, by decide +kernel⟩
abbrev s_law_mix : Stmt := topS 27
theorem sc_law_mix : FnScope ["_law_number", "_law_k", "_law_mixed"] ["_law_number", "_law_k"] (defScope s_law_mix) := ⟨rfl, rfl, rfl, by decide +kernel, rfl, by decide +kernel, by decide +kernel⟩
abbrev s_law_left : Stmt := topS 28
theorem sc_law_left : FnScope ["_law_cell"] ["_law_cell"] (defScope s_law_left) := ⟨rfl, rfl, rfl, by decide +kernel, rfl, by decide +kernel, by decide +kernel⟩
abbrev s_law_draw : Stmt := topS 29
theorem sc_law_draw : FnScope ["_law_left_here", "_law_base", "_law_mixed", "_law_digit"] ["_law_left_here", "_law_base"] (defScope s_law_draw) := ⟨rfl, rfl, rfl, by decide +kernel, rfl, by decide +kernel, by decide +kernel⟩
abbrev s_law_whole : Stmt := topS 30
theorem sc_law_whole : FnScope ["_law_found"] ["_law_found"] (defScope s_law_whole) := ⟨rfl, rfl, rfl, by decide +kernel, rfl, by decide +kernel, by decide +kernel⟩
abbrev s_law_way : Stmt := topS 31
theorem sc_law_way : FnScope ["_law_left_here", "_law_many", "_law_a", "_law_b"] ["_law_left_here", "_law_many"] (defScope s_law_way) := ⟨rfl, rfl, rfl, by decide +kernel, rfl, by decide +kernel, by decide +kernel⟩
abbrev s_law_net : Stmt := topS 32
theorem sc_law_net : FnScope ["_law_left_here", "_law_kind", "_law_size_here", "_law_many", "_law_k"] ["_law_left_here"] (defScope s_law_net) := ⟨rfl, rfl, rfl, by decide +kernel, rfl, by decide +kernel, by decide +kernel⟩
abbrev s_law_size : Stmt := topS 33
theorem sc_law_size : FnScope ["_law_net_here"] ["_law_net_here"] (defScope s_law_size) := ⟨rfl, rfl, rfl, by decide +kernel, rfl, by decide +kernel, by decide +kernel⟩
abbrev s_law_ties : Stmt := topS 34
theorem sc_law_ties : FnScope ["_law_net_here", "_law_way_here", "_law_many", "_law_far", "_law_below", "_law_place", "_law_held", "_law_k"] ["_law_net_here", "_law_way_here"] (defScope s_law_ties) := ⟨rfl, rfl, rfl, by decide +kernel, rfl, by decide +kernel, by decide +kernel⟩
abbrev s_law_common : Stmt := topS 35
theorem sc_law_common : FnScope ["_law_one", "_law_other", "_law_tie"] ["_law_one", "_law_other"] (defScope s_law_common) := ⟨rfl, rfl, rfl, by decide +kernel, rfl, by decide +kernel, by decide +kernel⟩
abbrev s_law_hues : Stmt := topS 36
theorem sc_law_hues : FnScope ["_law_left_here", "_law_net_here", "_law_ways", "_law_lain", "_law_names", "_law_k", "_law_numbers", "_law_taken", "_law_way_here", "_law_j", "_law_number"] ["_law_left_here", "_law_net_here", "_law_ways"] (defScope s_law_hues) := ⟨rfl, rfl, rfl, by decide +kernel, rfl, by decide +kernel, by decide +kernel⟩
abbrev s_law_all : Stmt := topS 37
theorem sc_law_all : FnScope ["_law_left_here", "_law_net_here", "_law_many", "_law_ways", "_law_hues_here", "_law_k"] ["_law_left_here"] (defScope s_law_all) := ⟨rfl, rfl, rfl, by decide +kernel, rfl, by decide +kernel, by decide +kernel⟩
abbrev s_law_text : Stmt := topS 38
theorem sc_law_text : FnScope ["_law_net_here", "_law_ways", "_law_hues_here", "_law_size_here", "_law_text_here", "_law_a", "_law_b", "_law_number", "_law_hue"] ["_law_net_here", "_law_ways", "_law_hues_here"] (defScope s_law_text) := ⟨rfl, rfl, rfl, by decide +kernel, rfl, by decide +kernel, by decide +kernel⟩
abbrev s_law_wholes : Stmt := topS 39
theorem sc_law_wholes : FnScope ["_law_found", "_law_number"] ["_law_found"] (defScope s_law_wholes) := ⟨rfl, rfl, rfl, by decide +kernel, rfl, by decide +kernel, by decide +kernel⟩
abbrev s_law_right : Stmt := topS 40
theorem sc_law_right : FnScope ["_law_told", "_law_due", "_law_sizes", "_law_way_here"] ["_law_told", "_law_due"] (defScope s_law_right) := ⟨rfl, rfl, rfl, by decide +kernel, rfl, by decide +kernel, by decide +kernel⟩
abbrev s_law : Stmt := topS 41
theorem sc_law : FnScope ["_law_script", "_law_cell", "_law_due", "_law_text_here", "_law_again", "_law_told"] ["_law_script"] (defScope s_law) := ⟨rfl, rfl, rfl, by decide +kernel, rfl, by decide +kernel, by decide +kernel⟩
structure Ad where
  a_is_tree : Addr
  d_is_tree : FuncData
  a_look_net : Addr
  d_look_net : FuncData
  a_places_of : Addr
  d_places_of : FuncData
  a_is_way : Addr
  d_is_way : FuncData
  a_ties_on : Addr
  d_ties_on : FuncData
  a_must_be_ways : Addr
  d_must_be_ways : FuncData
  a_look_ways : Addr
  d_look_ways : FuncData
  a_first_clash : Addr
  d_first_clash : FuncData
  a_clash : Addr
  d_clash : FuncData
  a_number_of : Addr
  d_number_of : FuncData
  a_numbers_of : Addr
  d_numbers_of : FuncData
  a_net_of : Addr
  d_net_of : FuncData
  a_way_of : Addr
  d_way_of : FuncData
  a_hues_of : Addr
  d_hues_of : FuncData
  a_read_net : Addr
  d_read_net : FuncData
  a_law_mix : Addr
  d_law_mix : FuncData
  a_law_left : Addr
  d_law_left : FuncData
  a_law_draw : Addr
  d_law_draw : FuncData
  a_law_whole : Addr
  d_law_whole : FuncData
  a_law_way : Addr
  d_law_way : FuncData
  a_law_net : Addr
  d_law_net : FuncData
  a_law_size : Addr
  d_law_size : FuncData
  a_law_ties : Addr
  d_law_ties : FuncData
  a_law_common : Addr
  d_law_common : FuncData
  a_law_hues : Addr
  d_law_hues : FuncData
  a_law_all : Addr
  d_law_all : FuncData
  a_law_text : Addr
  d_law_text : FuncData
  a_law_wholes : Addr
  d_law_wholes : FuncData
  a_law_right : Addr
  d_law_right : FuncData
  a_law : Addr
  d_law : FuncData
structure Txt (K : PySem.W.Frag) (mg : Str → Option Value) (A : Ad) : Prop where
  g_is_tree : mg "is_tree" = some (.ref A.a_is_tree)
  F_is_tree : Fun K "is_tree" "is_tree" s_is_tree A.a_is_tree A.d_is_tree
  b_is_tree : Binds K A.d_is_tree ["parents"] []
  g_look_net : mg "look_net" = some (.ref A.a_look_net)
  F_look_net : Fun K "look_net" "look_net" s_look_net A.a_look_net A.d_look_net
  b_look_net : Binds K A.d_look_net ["net"] []
  g_places_of : mg "places_of" = some (.ref A.a_places_of)
  F_places_of : Fun K "places_of" "places_of" s_places_of A.a_places_of A.d_places_of
  b_places_of : Binds K A.d_places_of ["net"] []
  g_is_way : mg "is_way" = some (.ref A.a_is_way)
  F_is_way : Fun K "is_way" "is_way" s_is_way A.a_is_way A.d_is_way
  b_is_way : Binds K A.d_is_way ["net", "way"] []
  g_ties_on : mg "ties_on" = some (.ref A.a_ties_on)
  F_ties_on : Fun K "ties_on" "ties_on" s_ties_on A.a_ties_on A.d_ties_on
  b_ties_on : Binds K A.d_ties_on ["net", "way"] []
  g_must_be_ways : mg "must_be_ways" = some (.ref A.a_must_be_ways)
  F_must_be_ways : Fun K "must_be_ways" "must_be_ways" s_must_be_ways A.a_must_be_ways A.d_must_be_ways
  b_must_be_ways : Binds K A.d_must_be_ways ["net", "ways"] []
  g_look_ways : mg "look_ways" = some (.ref A.a_look_ways)
  F_look_ways : Fun K "look_ways" "look_ways" s_look_ways A.a_look_ways A.d_look_ways
  b_look_ways : Binds K A.d_look_ways ["net", "ways"] []
  g_first_clash : mg "first_clash" = some (.ref A.a_first_clash)
  F_first_clash : Fun K "first_clash" "first_clash" s_first_clash A.a_first_clash A.d_first_clash
  b_first_clash : Binds K A.d_first_clash ["lain", "hues"] []
  g_clash : mg "clash" = some (.ref A.a_clash)
  F_clash : Fun K "clash" "clash" s_clash A.a_clash A.d_clash
  b_clash : Binds K A.d_clash ["net", "ways", "hues"] []
  g_number_of : mg "number_of" = some (.ref A.a_number_of)
  F_number_of : Fun K "number_of" "number_of" s_number_of A.a_number_of A.d_number_of
  b_number_of : Binds K A.d_number_of ["word"] []
  g_numbers_of : mg "numbers_of" = some (.ref A.a_numbers_of)
  F_numbers_of : Fun K "numbers_of" "numbers_of" s_numbers_of A.a_numbers_of A.d_numbers_of
  b_numbers_of : Binds K A.d_numbers_of ["words"] []
  g_net_of : mg "net_of" = some (.ref A.a_net_of)
  F_net_of : Fun K "net_of" "net_of" s_net_of A.a_net_of A.d_net_of
  b_net_of : Binds K A.d_net_of ["words"] []
  g_way_of : mg "way_of" = some (.ref A.a_way_of)
  F_way_of : Fun K "way_of" "way_of" s_way_of A.a_way_of A.d_way_of
  b_way_of : Binds K A.d_way_of ["net", "words"] []
  g_hues_of : mg "hues_of" = some (.ref A.a_hues_of)
  F_hues_of : Fun K "hues_of" "hues_of" s_hues_of A.a_hues_of A.d_hues_of
  b_hues_of : Binds K A.d_hues_of ["net", "ways", "words"] []
  g_read_net : mg "read_net" = some (.ref A.a_read_net)
  F_read_net : Fun K "read_net" "read_net" s_read_net A.a_read_net A.d_read_net
  b_read_net : Binds K A.d_read_net ["text"] []
  g_law_mix : mg "_law_mix" = some (.ref A.a_law_mix)
  F_law_mix : Fun K "_law_mix" "_law_mix" s_law_mix A.a_law_mix A.d_law_mix
  b_law_mix : Binds K A.d_law_mix ["_law_number", "_law_k"] []
  g_law_left : mg "_law_left" = some (.ref A.a_law_left)
  F_law_left : Fun K "_law_left" "_law_left" s_law_left A.a_law_left A.d_law_left
  b_law_left : Binds K A.d_law_left ["_law_cell"] []
  g_law_draw : mg "_law_draw" = some (.ref A.a_law_draw)
  F_law_draw : Fun K "_law_draw" "_law_draw" s_law_draw A.a_law_draw A.d_law_draw
  b_law_draw : Binds K A.d_law_draw ["_law_left_here", "_law_base"] []
  g_law_whole : mg "_law_whole" = some (.ref A.a_law_whole)
  F_law_whole : Fun K "_law_whole" "_law_whole" s_law_whole A.a_law_whole A.d_law_whole
  b_law_whole : Binds K A.d_law_whole ["_law_found"] []
  g_law_way : mg "_law_way" = some (.ref A.a_law_way)
  F_law_way : Fun K "_law_way" "_law_way" s_law_way A.a_law_way A.d_law_way
  b_law_way : Binds K A.d_law_way ["_law_left_here", "_law_many"] []
  g_law_net : mg "_law_net" = some (.ref A.a_law_net)
  F_law_net : Fun K "_law_net" "_law_net" s_law_net A.a_law_net A.d_law_net
  b_law_net : Binds K A.d_law_net ["_law_left_here"] []
  g_law_size : mg "_law_size" = some (.ref A.a_law_size)
  F_law_size : Fun K "_law_size" "_law_size" s_law_size A.a_law_size A.d_law_size
  b_law_size : Binds K A.d_law_size ["_law_net_here"] []
  g_law_ties : mg "_law_ties" = some (.ref A.a_law_ties)
  F_law_ties : Fun K "_law_ties" "_law_ties" s_law_ties A.a_law_ties A.d_law_ties
  b_law_ties : Binds K A.d_law_ties ["_law_net_here", "_law_way_here"] []
  g_law_common : mg "_law_common" = some (.ref A.a_law_common)
  F_law_common : Fun K "_law_common" "_law_common" s_law_common A.a_law_common A.d_law_common
  b_law_common : Binds K A.d_law_common ["_law_one", "_law_other"] []
  g_law_hues : mg "_law_hues" = some (.ref A.a_law_hues)
  F_law_hues : Fun K "_law_hues" "_law_hues" s_law_hues A.a_law_hues A.d_law_hues
  b_law_hues : Binds K A.d_law_hues ["_law_left_here", "_law_net_here", "_law_ways"] []
  g_law_all : mg "_law_all" = some (.ref A.a_law_all)
  F_law_all : Fun K "_law_all" "_law_all" s_law_all A.a_law_all A.d_law_all
  b_law_all : Binds K A.d_law_all ["_law_left_here"] []
  g_law_text : mg "_law_text" = some (.ref A.a_law_text)
  F_law_text : Fun K "_law_text" "_law_text" s_law_text A.a_law_text A.d_law_text
  b_law_text : Binds K A.d_law_text ["_law_net_here", "_law_ways", "_law_hues_here"] []
  g_law_wholes : mg "_law_wholes" = some (.ref A.a_law_wholes)
  F_law_wholes : Fun K "_law_wholes" "_law_wholes" s_law_wholes A.a_law_wholes A.d_law_wholes
  b_law_wholes : Binds K A.d_law_wholes ["_law_found"] []
  g_law_right : mg "_law_right" = some (.ref A.a_law_right)
  F_law_right : Fun K "_law_right" "_law_right" s_law_right A.a_law_right A.d_law_right
  b_law_right : Binds K A.d_law_right ["_law_told", "_law_due"] []
  g_law : mg "law" = some (.ref A.a_law)
  F_law : Fun K "law" "law" s_law A.a_law A.d_law
  b_law : Binds K A.d_law ["_law_script"] []
  c_MOST_PLACES : mg "MOST_PLACES" = some (.int 60 (g_tok mg "MOST_PLACES"))
  c_FIGURES : mg "FIGURES" = some (.str (Str.ofString "0123456789") (g_tokS mg "FIGURES"))
  c_MOST_FIGURES : mg "MOST_FIGURES" = some (.int 30 (g_tok mg "MOST_FIGURES"))
  c_MOST_WAYS : mg "MOST_WAYS" = some (.int 40 (g_tok mg "MOST_WAYS"))
  z_bool : mg "bool" = none
  z_int : mg "int" = none
  z_isinstance : mg "isinstance" = none
  z_len : mg "len" = none
  z_list : mg "list" = none
  z_max : mg "max" = none
  z_min : mg "min" = none
  z_range : mg "range" = none
  z_sorted : mg "sorted" = none
  z_str : mg "str" = none
  z_tuple : mg "tuple" = none
/-! ### nets -/
inductive Net where
  | line (n : Int)
  | ring (n : Int)
  | tree (ps : List Int)
def Net.kind : Net → Str
  | .line _ => Str.ofString "line"
  | .ring _ => Str.ofString "ring"
  | .tree _ => Str.ofString "tree"
def Net.size : Net → PyData
  | .line n => .int n
  | .ring n => .int n
  | .tree ps => dInts ps
abbrev Net.d (N : Net) : PyData := .tuple [.str N.kind, N.size]
def TreeOk (ps : List Int) : Prop := 1 ≤ ps.length ∧ ps.length < 60 ∧ ∀ k : Nat, k < ps.length → 0 ≤ ps.getD k 0 ∧ ps.getD k 0 ≤ k
def Net.ok : Net → Prop
  | .line n => 2 ≤ n ∧ n ≤ 60
  | .ring n => 3 ≤ n ∧ n ≤ 60
  | .tree ps => TreeOk ps
def Net.places : Net → Int
  | .line n => n
  | .ring n => n
  | .tree ps => ps.length + 1
theorem net_str {s t : Str} (h : decide (V.str s = V.str t) = true) : s = t := V.str.inj (of_decide_eq_true h)
/-- a net's tuple -/
theorem dp_net {K : PySem.W.Frag} {H : Hp} {v : V} {N : Net} (h : Dp K H v N.d) : ∃ a y, v = .ref a ∧ SqT K H a [.str N.kind, y] ∧ Dp K H y N.size := by
  obtain ⟨a, x, y, rfl, hs, hx, hy⟩ := dp_tup2 h
  obtain rfl := dp_str hx
  exact ⟨a, y, rfl, hs, hy⟩
theorem k_eqS {s t : Str} {H : Hp} {Q : VK} (h : Q (.bl (decide (s = t))) H) : rEq (.str s) (.str t) H Q := ⟨rfl, by
  have e : decide (V.str s = V.str t) = decide (s = t) := by
    by_cases c : s = t
    · rw [decide_eq_true c, decide_eq_true (by rw [c])]
    · rw [decide_eq_false c, decide_eq_false (fun z => c (V.str.inj z))]
  rw [e]; exact h⟩
theorem k_neS {s t : Str} {H : Hp} {Q : VK} (h : Q (.bl (!decide (s = t))) H) : rNe (.str s) (.str t) H Q := ⟨rfl, by
  have e : decide (V.str s = V.str t) = decide (s = t) := by
    by_cases c : s = t
    · rw [decide_eq_true c, decide_eq_true (by rw [c])]
    · rw [decide_eq_false c, decide_eq_false (fun z => c (V.str.inj z))]
  rw [e]; exact h⟩
theorem s_lt : decide (Str.ofString "line" = Str.ofString "tree") = false := by decide +kernel
theorem s_rt : decide (Str.ofString "ring" = Str.ofString "tree") = false := by decide +kernel
theorem s_lr : decide (Str.ofString "line" = Str.ofString "ring") = false := by decide +kernel
theorem s_rl : decide (Str.ofString "ring" = Str.ofString "line") = false := by decide +kernel
theorem s_tl : decide (Str.ofString "tree" = Str.ofString "line") = false := by decide +kernel
theorem s_tr : decide (Str.ofString "tree" = Str.ofString "ring") = false := by decide +kernel
theorem s_same (s : Str) : decide (s = s) = true := decide_eq_true rfl
/-- how far t lies up from a on a ring of n -/
def up (n a t : Int) : Int := if a ≤ t then t - a else t - a + n
/-- x lies in the part of the tree that hangs by k -/
def below (ps : List Int) (k : Nat) : Nat → Bool
  | 0 => decide (k = 0)
  | x + 1 => decide (k = x + 1) || (decide (k < x + 1) && if h : (ps.getD x 0).toNat < x + 1 then below ps k (ps.getD x 0).toNat else false)
termination_by x => x
decreasing_by exact h
def OnTie : Net → Int → Int → Int → Prop
  | .line _, a, b, t => min a b ≤ t ∧ t < max a b
  | .ring n, a, b, t => 0 ≤ t ∧ t < n ∧ up n a t < up n a b
  | .tree ps, a, b, t => 0 ≤ t ∧ t < ps.length ∧ below ps (t.toNat + 1) a.toNat ≠ below ps (t.toNat + 1) b.toNat
def Net.far : Net → Int → Int → List Int → Prop
  | .line _, a, b, ns => (ns.length : Int) = max a b - min a b
  | .ring n, a, b, ns => (ns.length : Int) = up n a b
  | .tree _, _, _, ns => ns.length < 120
def isWay (N : Net) (a b : Int) : Prop := a ≠ b ∧ 0 ≤ a ∧ 0 ≤ b ∧ a < N.places ∧ b < N.places
instance (N : Net) (a b : Int) : Decidable (isWay N a b) := by unfold isWay; infer_instance
structure TiesOf (N : Net) (a b : Int) (ns : List Int) : Prop where
  srt : ns.Pairwise (· < ·)
  mem : ∀ t, t ∈ ns ↔ OnTie N a b t
  far : N.far a b ns

variable {P : Program} {w : World} {K : PySem.W.Frag} {mg : Str → Option Value} {base : Heap} {A : Ad}
def pr_is_tree (K : PySem.W.Frag) (v0 : V) (H : Hp) (Q : VK) (_ : XK) : Prop := ∃ ps, Dp K H v0 (dInts ps) ∧ ps.length ≤ 10000 ∧ ∀ b, (b = true ↔ TreeOk ps) → Q (.bl b) H
def t_is_tree (K : PySem.W.Frag) : TS :=
  (tSeq (tIfS (tOr (tTest (tOp xLt (tCB (rLen K) (tCons (tVar 0) tNil)) (tC (.int 1)))) (tTest (tOp xGe (tCB (rLen K) (tCons (tVar 0) tNil)) (tC (.int 60))))) (tRet (tC (.bl false))) tNext)
    (tSeq (tFor (iRng1 (tCons (tCB (rLen K) (tCons (tVar 0) tNil)) tNil)) (gName 1)
      (tIfS (tOr (tTest (tOp xLt (tOp (rIxL K) (tVar 0) (tVar 1)) (tC (.int 0)))) (tTest (tOp xGt (tOp (rIxL K) (tVar 0) (tVar 1)) (tVar 1)))) (tRet (tC (.bl false))) tNext))
    (tRet (tC (.bl true)))))
theorem pure_is_tree {v0 : V} {H : Hp} {Q : VK} {E : XK} (h : pr_is_tree K v0 H Q E) : t_is_tree K ⟨fun _ H' => Q .non H', Q, fun _ _ => False, fun _ _ => False⟩ [some v0, none] H := by
  obtain ⟨ps, hp, hz, q⟩ := h
  obtain ⟨a, rfl, ha⟩ := dp_ints hp
  unfold t_is_tree
  wtm_at "s"
  refine k_it (fun c1 => ?_) (fun c1 => ?_)
  · wtm_at "s"
    exact q _ (ff_iff fun z => absurd z.1 (by omega))
  wtm_at "s"
  refine k_it (fun c2 => ?_) (fun c2 => ?_)
  · wtm_at "s"
    exact q _ (ff_iff fun z => absurd z.2.1 (by omega))
  wtm_at "s"
  refine forR (fun i σ' H' => H' = H ∧ (∃ k, σ' = [some (.ref a), k]) ∧ ∀ k : Nat, k < i → 0 ≤ ps.getD k 0 ∧ ps.getD k 0 ≤ k) ⟨rfl, ⟨none, rfl⟩, fun k hk => absurd hk (by omega)⟩ ?_ ?_
  · rintro i σ' H' hi ⟨rfl, ⟨k, rfl⟩, hk⟩
    wtm_at "s"
    refine k_ixI ha (by omega) (by omega) ?_
    wtm_at "s"
    rw [show (0 + (i : Int)).toNat = i by omega]
    refine k_it (fun c3 => ?_) (fun c3 => ?_)
    · wtm_at "s"
      exact q _ (ff_iff fun z => absurd (z.2.2 i (by omega)).1 (by omega))
    wtm_at "s"
    refine k_ixI ha (by omega) (by omega) ?_
    wtm_at "s"
    rw [show (0 + (i : Int)).toNat = i by omega]
    refine k_it (fun c4 => ?_) (fun c4 => ?_)
    · wtm_at "s"
      exact q _ (ff_iff fun z => absurd (z.2.2 i (by omega)).2 (by omega))
    wtm_at "s"
    refine ⟨rfl, ⟨_, rfl⟩, fun k hk' => ?_⟩
    by_cases e : k = i
    · subst e; omega
    · exact hk k (by omega)
  · rintro σ' H' ⟨rfl, ⟨k, rfl⟩, hk⟩
    wtm_at "s"
    exact q _ (tt_iff ⟨by omega, by omega, fun k h => hk k (by omega)⟩)
abbrev sp_is_tree (K : PySem.W.Frag) : Sp := fun vs H Q E => ∃ v0, vs = [v0] ∧ pr_is_tree K v0 H Q E
theorem ok_is_tree (T : Txt K mg A) : FnOk P w K mg base CX0 1 A.a_is_tree A.d_is_tree ["parents"] (sp_is_tree K) := by
  refine T.F_is_tree.ok sc_is_tree (fun vs H Q E h => by obtain ⟨v0, rfl, _⟩ := h; rfl) (fun cdv A0 outer s H vs Q E hr h => ?_)
  obtain ⟨v0, rfl, h⟩ := h
  exact ⟨t_is_tree K, (pss_cons (ps_if (PW.pt (pw_or (pt_cmpR op_lt (pe_callB q_len (by rfl) T.z_len (by decide +kernel) (pa_cons (pv 0) pa_nil)) pe_int (nomark _)) (pw_or1 (pt_cmpR op_ge (pe_callB q_len (by rfl) T.z_len (by decide +kernel) (pa_cons (pv 0) pa_nil)) (pe_glob (v := .int 60) (by rfl) T.c_MOST_PLACES ⟨_, rfl⟩) (nomark _))))) (pss_one (ps_ret pe_bl)) pss_nil)
      (pss_cons (ps_for PassesOwn.never rfl (pi_range1 (by rfl) T.z_range (pa_cons (pe_callB q_len (by rfl) T.z_len (by decide +kernel) (pa_cons (pv 0) pa_nil)) pa_nil)) (pg_name (i := 1) sc_is_tree.nd rfl (Or.inl rfl))
      (pss_one (ps_if (PW.pt (pw_or (pt_cmpR op_lt (pe_ix ix_list (pv 0) (pv 1) (fun _ _ => rfl)) pe_int (nomark _)) (pw_or1 (pt_cmpR op_gt (pe_ix ix_list (pv 0) (pv 1) (fun _ _ => rfl)) (pv 1) (nomark _))))) (pss_one (ps_ret pe_bl)) pss_nil)))
      (pss_one (ps_ret pe_bl)))), pure_is_tree h⟩
def pr_look_net (K : PySem.W.Frag) (v0 : V) (H : Hp) (Q : VK) (_ : XK) : Prop := ∃ N : Net, Dp K H v0 N.d ∧ N.ok ∧ Q .non H
def t_look_net (K : PySem.W.Frag) : TS :=
  (tSeq (tAsg (tVar 0) (gTup K 2 (gCons (gName 1) (gCons (gName 2) gNil))))
    (tSeq (tIfS (tTest (tOp rEq (tVar 1) (tC (.str (Str.ofString "tree"))))) (tAsg (tAndV (tCB (rIsi K) (tCons (tVar 2) (tCons (tC (.ty "list")) tNil))) (tCall (sp_is_tree K) [] E0 (tCons (tVar 2) tNil))) (gName 3)) (tIfS (tOr (tTest (tOp rEq (tVar 1) (tC (.str (Str.ofString "line"))))) (tTest (tOp rEq (tVar 1) (tC (.str (Str.ofString "ring")))))) (tAsg (tAndV (tNotV (tCB (rIsi K) (tCons (tVar 2) (tCons (tC (.ty "list")) tNil)))) (tAndV (tOp xGe (tVar 2) (tOp xAdd (tC (.int 2)) (tCB rIntOf (tCons (tOp rEq (tVar 1) (tC (.str (Str.ofString "ring")))) tNil)))) (tOp xLe (tVar 2) (tC (.int 60))))) (gName 3)) (tAsg (tC (.bl false)) (gName 3))))
    (tIfS (tNot (tB (tVar 3))) tNever tNext)))
theorem pure_look_net {v0 : V} {H : Hp} {Q : VK} {E : XK} (h : pr_look_net K v0 H Q E) : t_look_net K ⟨fun _ H' => Q .non H', Q, fun _ _ => False, fun _ _ => False⟩ [some v0, none, none, none] H := by
  obtain ⟨N, hd, ok, q⟩ := h
  obtain ⟨a, y, rfl, hs, hy⟩ := dp_net hd
  unfold t_look_net
  cases N with
  | line n =>
    obtain rfl := dp_int hy
    obtain ⟨o1, o2⟩ := ok
    wtm_at "s"
    refine k_eqS ?_
    rw [show Net.kind (.line n) = Str.ofString "line" from rfl, s_lt]
    wtm_at "s"
    refine k_eqS ?_
    rw [s_same]
    wtm_at "s"
    refine k_eqS ?_
    rw [s_lr]
    wtm_at "s"
    have e1 : decide (2 + (if false = true then 1 else 0) ≤ n) = true := by simp; omega
    rw [e1]
    wtm_at "s"
    exact q
  | ring n =>
    obtain rfl := dp_int hy
    obtain ⟨o1, o2⟩ := ok
    wtm_at "s"
    refine k_eqS ?_
    rw [show Net.kind (.ring n) = Str.ofString "ring" from rfl, s_rt]
    wtm_at "s"
    refine k_eqS ?_
    rw [s_rl]
    wtm_at "s"
    refine k_eqS ?_
    rw [s_same]
    wtm_at "s"
    refine k_eqS ?_
    rw [s_same]
    wtm_at "s"
    exact q
  | tree ps =>
    obtain ⟨b, rfl, hb⟩ := dp_ints hy
    wtm_at "s"
    refine k_eqS ?_
    rw [show Net.kind (.tree ps) = Str.ofString "tree" from rfl, s_same]
    wtm_at "s"
    refine ⟨_, rfl, ps, hy, by have := ok.2.1; omega, fun r hr => ?_⟩
    obtain rfl := hr.mpr ok
    wtm_at "s"
    exact q
abbrev sp_look_net (K : PySem.W.Frag) : Sp := fun vs H Q E => ∃ v0, vs = [v0] ∧ pr_look_net K v0 H Q E
theorem ok_look_net (T : Txt K mg A) : FnOk P w K mg base CX0 2 A.a_look_net A.d_look_net ["net"] (sp_look_net K) := by
  refine T.F_look_net.ok sc_look_net (fun vs H Q E h => by obtain ⟨v0, rfl, _⟩ := h; rfl) (fun cdv A0 outer s H vs Q E hr h => ?_)
  obtain ⟨v0, rfl, h⟩ := h
  exact ⟨t_look_net K, (pss_cons (ps_asg (pv 0) (pg_tup (by rfl) (pgs_cons (pg_name (i := 1) sc_look_net.nd rfl (Or.inl rfl)) (pgs_cons (pg_name (i := 2) sc_look_net.nd rfl (Or.inl rfl)) pgs_nil))))
      (pss_cons (ps_if (pt_cmpR op_eq (pv 1) pe_str (nomark _)) (pss_one (ps_set (i := 3) sc_look_net.nd rfl (Or.inl rfl) (pe_and (pe_callB q_isi (by rfl) T.z_isinstance (by decide +kernel) (pa_cons (pv 2) (pa_cons (pe_bltn (v := .ty "list") (by rfl) T.z_list (by decide +kernel) rfl) pa_nil))) (pe_one (pe_call (ok_is_tree T) (hr.mono (by decide)) (by rfl) T.g_is_tree T.F_is_tree.kp T.b_is_tree .nil pass0 (pa_cons (pv 2) pa_nil)))))) (pss_one (ps_if (PW.pt (pw_or (pt_cmpR op_eq (pv 1) pe_str (nomark _)) (pw_or1 (pt_cmpR op_eq (pv 1) pe_str (nomark _))))) (pss_one (ps_set (i := 3) sc_look_net.nd rfl (Or.inl rfl) (pe_and (pe_not (pe_callB q_isi (by rfl) T.z_isinstance (by decide +kernel) (pa_cons (pv 2) (pa_cons (pe_bltn (v := .ty "list") (by rfl) T.z_list (by decide +kernel) rfl) pa_nil)))) (pe_and (pe_cmpR op_ge (pv 2) (pe_op op_add pe_int (pe_callTy q_intB (by rfl) T.z_int (by decide +kernel) (pa_cons (pe_cmpR op_eq (pv 1) pe_str (nomark _)) pa_nil))) (nomark _)) (pe_one (pe_cmpR op_le (pv 2) (pe_glob (v := .int 60) (by rfl) T.c_MOST_PLACES ⟨_, rfl⟩) (nomark _))))))) (pss_one (ps_set (i := 3) sc_look_net.nd rfl (Or.inl rfl) pe_bl)))))
      (pss_one (ps_if (pt_not (pt_val (pv 3))) (pss_one ps_never) pss_nil)))), pure_look_net h⟩


def pr_places_of (K : PySem.W.Frag) (v0 : V) (H : Hp) (Q : VK) (_ : XK) : Prop := ∃ N : Net, Dp K H v0 N.d ∧ Q (.int N.places) H
def t_places_of (K : PySem.W.Frag) : TS :=
  (tSeq (tIfS (tTest (tOp rEq (tOp (rIxT K) (tVar 0) (tC (.int 0))) (tC (.str (Str.ofString "tree"))))) (tRet (tOp xAdd (tCB (rLen K) (tCons (tOp (rIxT K) (tVar 0) (tC (.int 1))) tNil)) (tC (.int 1)))) tNext)
    (tRet (tOp (rIxT K) (tVar 0) (tC (.int 1)))))
theorem pure_places_of {v0 : V} {H : Hp} {Q : VK} {E : XK} (h : pr_places_of K v0 H Q E) : t_places_of K ⟨fun _ H' => Q .non H', Q, fun _ _ => False, fun _ _ => False⟩ [some v0] H := by
  obtain ⟨N, hd, q⟩ := h
  obtain ⟨a, y, rfl, hs, hy⟩ := dp_net hd
  unfold t_places_of
  wtm_at "s"
  refine k_eqS ?_
  cases N with
  | line n =>
    obtain rfl := dp_int hy
    rw [show Net.kind (.line n) = Str.ofString "line" from rfl, s_lt]
    wtm_at "s"
    exact q
  | ring n =>
    obtain rfl := dp_int hy
    rw [show Net.kind (.ring n) = Str.ofString "ring" from rfl, s_rt]
    wtm_at "s"
    exact q
  | tree ps =>
    obtain ⟨b, rfl, hb⟩ := dp_ints hy
    rw [show Net.kind (.tree ps) = Str.ofString "tree" from rfl, s_same]
    wtm_at "s"
    exact q
abbrev sp_places_of (K : PySem.W.Frag) : Sp := fun vs H Q E => ∃ v0, vs = [v0] ∧ pr_places_of K v0 H Q E
theorem ok_places_of (T : Txt K mg A) : FnOk P w K mg base CX0 1 A.a_places_of A.d_places_of ["net"] (sp_places_of K) := by
  refine T.F_places_of.ok sc_places_of (fun vs H Q E h => by obtain ⟨v0, rfl, _⟩ := h; rfl) (fun cdv A0 outer s H vs Q E hr h => ?_)
  obtain ⟨v0, rfl, h⟩ := h
  exact ⟨t_places_of K, (pss_cons (ps_if (pt_cmpR op_eq (pe_ix ix_tup (pv 0) pe_int (fun _ _ => rfl)) pe_str (nomark _)) (pss_one (ps_ret (pe_op op_add (pe_callB q_len (by rfl) T.z_len (by decide +kernel) (pa_cons (pe_ix ix_tup (pv 0) pe_int (fun _ _ => rfl)) pa_nil)) pe_int))) pss_nil)
      (pss_one (ps_ret (pe_ix ix_tup (pv 0) pe_int (fun _ _ => rfl))))), pure_places_of h⟩
def pr_is_way (K : PySem.W.Frag) (v0 v1 : V) (H : Hp) (Q : VK) (_ : XK) : Prop := ∃ (N : Net) (a b : Int), Dp K H v0 N.d ∧ Dp K H v1 (dPair (a, b)) ∧ Q (.bl (decide (isWay N a b))) H
def t_is_way (K : PySem.W.Frag) : TS :=
  (tSeq (tAsg (tVar 1) (gTup K 2 (gCons (gName 2) (gCons (gName 3) gNil))))
    (tRet (tAndV (tOp rNe (tVar 2) (tVar 3)) (tAndV (tOp xGe (tCB rMin2 (tCons (tVar 2) (tCons (tVar 3) tNil))) (tC (.int 0))) (tOp xLt (tCB rMax2 (tCons (tVar 2) (tCons (tVar 3) tNil))) (tCall (sp_places_of K) [] E0 (tCons (tVar 0) tNil)))))))
theorem pure_is_way {v0 v1 : V} {H : Hp} {Q : VK} {E : XK} (h : pr_is_way K v0 v1 H Q E) : t_is_way K ⟨fun _ H' => Q .non H', Q, fun _ _ => False, fun _ _ => False⟩ [some v0, some v1, none, none] H := by
  obtain ⟨N, a, b, hd, hw, q⟩ := h
  obtain ⟨p, rfl, hp⟩ := dp_pair hw
  have kk : ∀ r : Bool, (r = true ↔ isWay N a b) → Q (.bl r) H := fun r hr => by
    have : r = decide (isWay N a b) := by
      by_cases c : isWay N a b
      · rw [decide_eq_true c]; exact hr.mpr c
      · rw [decide_eq_false c]
        cases r with
        | false => rfl
        | true => exact absurd (hr.mp rfl) c
    rw [this]; exact q
  unfold t_is_way
  wtm_at "s"
  refine k_itn (fun c1 => ?_) (fun c1 => ?_)
  · wtm_at "s"
    refine k_it (fun c2 => ?_) (fun c2 => ?_)
    · wtm_at "s"
      refine ⟨_, rfl, N, hd, ?_⟩
      wtm_at "s"
      refine kk _ ?_
      simp only [decide_eq_true_eq, isWay]
      constructor
      · intro z
        split at z <;> split at c2 <;> omega
      · intro z
        split <;> omega
    · wtm_at "s"
      refine kk _ (ff_iff fun z => c2 ?_)
      obtain ⟨z1, z2, z3, z4, z5⟩ := z
      split <;> omega
  · wtm_at "s"
    exact kk _ (ff_iff fun z => z.1 c1)
abbrev sp_is_way (K : PySem.W.Frag) : Sp := fun vs H Q E => ∃ v0 v1, vs = [v0, v1] ∧ pr_is_way K v0 v1 H Q E
theorem ok_is_way (T : Txt K mg A) : FnOk P w K mg base CX0 2 A.a_is_way A.d_is_way ["net", "way"] (sp_is_way K) := by
  refine T.F_is_way.ok sc_is_way (fun vs H Q E h => by obtain ⟨v0, v1, rfl, _⟩ := h; rfl) (fun cdv A0 outer s H vs Q E hr h => ?_)
  obtain ⟨v0, v1, rfl, h⟩ := h
  exact ⟨t_is_way K, (pss_cons (ps_asg (pv 1) (pg_tup (by rfl) (pgs_cons (pg_name (i := 2) sc_is_way.nd rfl (Or.inl rfl)) (pgs_cons (pg_name (i := 3) sc_is_way.nd rfl (Or.inl rfl)) pgs_nil))))
      (pss_one (ps_ret (pe_and (pe_cmpR op_ne (pv 2) (pv 3) (nomark _)) (pe_and (pe_cmpR op_ge (pe_callB (q_min2 (by rfl)) (by rfl) T.z_min (by decide +kernel) (pa_cons (pv 2) (pa_cons (pv 3) pa_nil))) pe_int (nomark _)) (pe_one (pe_cmpR op_lt (pe_callB (q_max2 (by rfl)) (by rfl) T.z_max (by decide +kernel) (pa_cons (pv 2) (pa_cons (pv 3) pa_nil))) (pe_call (ok_places_of T) (hr.mono (by decide)) (by rfl) T.g_places_of T.F_places_of.kp T.b_places_of .nil pass0 (pa_cons (pv 0) pa_nil)) (nomark _)))))))), pure_is_way h⟩


theorem below_lt {ps : List Int} {k : Nat} : ∀ x, x < k → below ps k x = false
  | 0, h => by unfold below; exact decide_eq_false (by omega)
  | x + 1, h => by
    unfold below
    rw [decide_eq_false (show ¬ k = x + 1 by omega), decide_eq_false (show ¬ k < x + 1 by omega)]; rfl
theorem below_self {ps : List Int} (k : Nat) : below ps k k = true := by
  cases k with
  | zero => unfold below; rfl
  | succ x => unfold below; rw [decide_eq_true rfl]; rfl
theorem below_step {ps : List Int} (h : TreeOk ps) {k x : Nat} (hx : x < ps.length) (hk : k ≠ x + 1) : below ps k (x + 1) = below ps k (ps.getD x 0).toNat := by
  have hp := h.2.2 x hx
  have hlt : (ps.getD x 0).toNat < x + 1 := by omega
  rw [below, decide_eq_false hk, Bool.false_or, dif_pos hlt]
  by_cases c : k < x + 1
  · rw [decide_eq_true c, Bool.true_and]
  · rw [decide_eq_false c, Bool.false_and, below_lt _ (by omega)]
theorem ring_step {n a b t : Int} (a0 : 0 ≤ a) (a1 : a < n) (b0 : 0 ≤ b) (b1 : b < n) (ne : a ≠ b) (t0 : 0 ≤ t) (t1 : t < n) :
    (up n a t < up n a b ↔ t = a ∨ up n ((a + 1) % n) t < up n ((a + 1) % n) b) ∧ (t = a → ¬ up n ((a + 1) % n) t < up n ((a + 1) % n) b) := by
  have e : (a + 1) % n = if a + 1 = n then 0 else a + 1 := by
    split
    · rename_i h; rw [h]; exact Int.emod_self
    · exact Int.emod_eq_of_lt (by omega) (by omega)
  rw [e]
  unfold up
  constructor
  · constructor
    · intro h; repeat' split at h
      all_goals repeat' split
      all_goals omega
    · intro h; repeat' split at h
      all_goals repeat' split
      all_goals omega
  · intro h; subst h
    repeat' split
    all_goals omega
theorem ring_far {n a b : Int} (a0 : 0 ≤ a) (a1 : a < n) (b0 : 0 ≤ b) (b1 : b < n) (ne : a ≠ b) : up n ((a + 1) % n) b = up n a b - 1 ∧ 0 ≤ (a + 1) % n ∧ (a + 1) % n < n ∧ 0 < up n a b ∧ up n a b < n := by
  have e : (a + 1) % n = if a + 1 = n then 0 else a + 1 := by
    split
    · rename_i h; rw [h]; exact Int.emod_self
    · exact Int.emod_eq_of_lt (by omega) (by omega)
  rw [e]
  unfold up
  refine ⟨?_, ?_, ?_, ?_, ?_⟩ <;> repeat' split
  all_goals omega
theorem up_self (n a : Int) : up n a a = 0 := by unfold up; split <;> omega
theorem up_nonneg {n a b : Int} (a0 : 0 ≤ a) (a1 : a < n) (b0 : 0 ≤ b) (b1 : b < n) : 0 ≤ up n a b := by unfold up; split <;> omega
/-- the greater end climbs -/
theorem tree_step {ps : List Int} (h : TreeOk ps) {x y t : Int} (x0 : 0 ≤ x) (x1 : x < ps.length + 1) (y0 : 0 ≤ y) (yx : y < x) (t0 : 0 ≤ t) :
    (below ps (t.toNat + 1) x.toNat ≠ below ps (t.toNat + 1) y.toNat ↔ t = x - 1 ∨ below ps (t.toNat + 1) (ps.getD (x - 1).toNat 0).toNat ≠ below ps (t.toNat + 1) y.toNat) ∧
    (t = x - 1 → ¬ below ps (t.toNat + 1) (ps.getD (x - 1).toNat 0).toNat ≠ below ps (t.toNat + 1) y.toNat) := by
  have hp := h.2.2 (x - 1).toNat (by omega)
  by_cases c : t = x - 1
  · subst c
    have e1 : (x - 1).toNat + 1 = x.toNat := by omega
    rw [e1, below_self, below_lt y.toNat (by omega), below_lt (ps.getD (x - 1).toNat 0).toNat (by omega)]
    simp
  · have e1 : x.toNat = (x - 1).toNat + 1 := by omega
    have := below_step h (k := t.toNat + 1) (x := (x - 1).toNat) (by omega) (by omega)
    rw [e1, this]
    simp [c]
theorem srt_of {fs ns : List Int} (nd : fs.Nodup) (pm : ns.Perm fs) (srt : ns.Pairwise (· ≤ ·)) : ns.Pairwise (· < ·) := by
  have := srt.and (pm.nodup_iff.mpr nd)
  exact this.imp fun ⟨a, b⟩ => by omega
def pr_ties_on (K : PySem.W.Frag) (v0 v1 : V) (H : Hp) (Q : VK) (_ : XK) : Prop := ∃ (N : Net) (a b : Int), Dp K H v0 N.d ∧ Dp K H v1 (dPair (a, b)) ∧ N.ok ∧ isWay N a b ∧ ∀ p ns H', H p = none → Same H H' → H' p = some (.lst (List.map V.int ns)) → TiesOf N a b ns → Q (.ref p) H'
def t_ties_on (K : PySem.W.Frag) : TS :=
  (tSeq (tAsg (tVar 1) (gTup K 2 (gCons (gName 2) (gCons (gName 3) gNil))))
    (tSeq (tAsg (tLst tNil) (gName 4))
    (tSeq (tIfS (tTest (tOp rEq (tOp (rIxT K) (tVar 0) (tC (.int 0))) (tC (.str (Str.ofString "line"))))) (tRet (tLstRg (tRg2 (tCB rMin2 (tCons (tVar 2) (tCons (tVar 3) tNil))) (tCB rMax2 (tCons (tVar 2) (tCons (tVar 3) tNil)))))) tNext)
    (tSeq (tWhile (tTest (tOp rNe (tVar 2) (tVar 3)))
      (tIfS (tTest (tOp rEq (tOp (rIxT K) (tVar 0) (tC (.int 0))) (tC (.str (Str.ofString "ring"))))) (tSeq (tDrop (tBM K "list" rAppend (tVar 4) (tCons (tVar 2) tNil)))
    (tAsg (tOp xMod (tOp xAdd (tVar 2) (tC (.int 1))) (tOp (rIxT K) (tVar 0) (tC (.int 1)))) (gName 2))) (tIfS (tTest (tOp xGt (tVar 2) (tVar 3))) (tSeq (tDrop (tBM K "list" rAppend (tVar 4) (tCons (tOp xSub (tVar 2) (tC (.int 1))) tNil)))
    (tAsg (tOp (rIxL K) (tOp (rIxT K) (tVar 0) (tC (.int 1))) (tOp xSub (tVar 2) (tC (.int 1)))) (gName 2))) (tSeq (tDrop (tBM K "list" rAppend (tVar 4) (tCons (tOp xSub (tVar 3) (tC (.int 1))) tNil)))
    (tAsg (tOp (rIxL K) (tOp (rIxT K) (tVar 0) (tC (.int 1))) (tOp xSub (tVar 3) (tC (.int 1)))) (gName 3))))))
    (tRet (tCB (rSortedI K) (tCons (tVar 4) tNil)))))))
def Net.far2 (N : Net) (a b a' b' : Int) (fs : List Int) (m : Nat) : Prop := match N with
  | .line _ => True
  | .ring n => (m : Int) = up n a' b' ∧ (fs.length : Int) + m = up n a b
  | .tree _ => (m : Int) = a' + b' ∧ (fs.length : Int) + m ≤ a + b
theorem pure_ties_on {v0 v1 : V} {H : Hp} {Q : VK} {E : XK} (h : pr_ties_on K v0 v1 H Q E) : t_ties_on K ⟨fun _ H' => Q .non H', Q, fun _ _ => False, fun _ _ => False⟩ [some v0, some v1, none, none, none] H := by
  obtain ⟨N, a, b, hd, hw, ok, ⟨w1, w2, w3, w4, w5⟩, q⟩ := h
  obtain ⟨c, y, rfl, hs, hy⟩ := dp_net hd
  obtain ⟨p, rfl, hp⟩ := dp_pair hw
  unfold t_ties_on
  wtm_at "s"
  refine ⟨sz (by simp), fun fo nfo => ?_⟩
  have s1 := same_new (o := .lst []) nfo
  have e1 : upd H fo (.lst []) fo = some (.lst (List.map V.int [])) := upd_same
  generalize upd H fo (.lst []) = H1 at s1 e1 ⊢
  wtm_at "s"
  refine k_eqS ?_
  have loop : ∀ (nx : L2.St → Hp → Prop) (bk ct : L2.St → Hp → Prop), (match N with | .line _ => False | _ => True) → ∀ (W : Nat → L2.St → Hp → Prop), True := fun _ _ _ _ _ => trivial
  cases N with
  | line n =>
    obtain rfl := dp_int hy
    rw [show Net.kind (.line n) = Str.ofString "line" from rfl, s_same]
    obtain ⟨o1, o2⟩ := ok
    have w4' : a < n := w4
    have w5' : b < n := w5
    wtm_at "s"
    have hmn : (if b < a then b else a) = min a b := by split <;> omega
    have hmx : (if b > a then b else a) = max a b := by split <;> omega
    rw [hmn, hmx]
    refine ⟨.of_le (by omega) (by omega) (by omega) (by omega), fun l nl => ?_⟩
    refine q l ((List.range (max a b - min a b).toNat).map fun i => min a b + (i : Nat)) _ (s1.free nl) (s1.trans (same_new nl)) (by rw [upd_same, rg_ints]) ⟨?_, fun t => ?_, ?_⟩
    · exact List.pairwise_map.mpr (List.pairwise_lt_range.imp fun h => by omega)
    · show _ ↔ min a b ≤ t ∧ t < max a b
      rw [List.mem_map]
      constructor
      · rintro ⟨i, hi, rfl⟩
        have := List.mem_range.mp hi
        omega
      · intro h
        exact ⟨(t - min a b).toNat, List.mem_range.mpr (by omega), by omega⟩
    · show ((List.map _ _).length : Int) = max a b - min a b
      rw [List.length_map, List.length_range]
      omega
  | ring n =>
    obtain rfl := dp_int hy
    rw [show Net.kind (.ring n) = Str.ofString "ring" from rfl] at hs ⊢
    rw [s_rl]
    obtain ⟨o1, o2⟩ := ok
    have w4' : a < n := w4
    have w5' : b < n := w5
    have u0 := up_nonneg w2 w4' w3 w5'
    wtm_at "s"
    refine ⟨fun m σ' H' => ∃ a' fs, σ' = [some (.ref c), some (.ref p), some (.int a'), some (.int b), some (.ref fo)] ∧ Same H H' ∧ H' fo = some (.lst (List.map V.int fs)) ∧ 0 ≤ a' ∧ a' < n ∧ fs.Nodup ∧ (m : Int) = up n a' b ∧ (fs.length : Int) + m = up n a b ∧
      (∀ t, OnTie (.ring n) a b t ↔ t ∈ fs ∨ OnTie (.ring n) a' b t) ∧ (∀ t, t ∈ fs → ¬ OnTie (.ring n) a' b t),
      ⟨(up n a b).toNat, a, [], rfl, s1, e1, w2, w4', List.nodup_nil, by omega, by simp; omega, fun t => by simp, fun t z => by cases z⟩, ?_⟩
    rintro m σ' H' ⟨a', fs, rfl, sm, hf, a0, a1, nd, hm, hfl, ht, hn⟩
    wtm_at "s"
    refine k_itn (fun c1 => ?_) (fun c1 => ?_)
    · obtain ⟨f1, f2, f3, f4, f5⟩ := ring_far a0 a1 w3 w5' c1
      have uab : up n a b < n := by unfold up; split <;> omega
      refine ⟨fun σ' H' => ∃ fs', σ' = [some (.ref c), some (.ref p), some (.int ((a' + 1) % n)), some (.int b), some (.ref fo)] ∧ Same H H' ∧ H' fo = some (.lst (List.map V.int fs')) ∧ fs'.Nodup ∧ (fs'.length : Int) + (m - 1 : Nat) = up n a b ∧
        (∀ t, OnTie (.ring n) a b t ↔ t ∈ fs' ∨ OnTie (.ring n) ((a' + 1) % n) b t) ∧ (∀ t, t ∈ fs' → ¬ OnTie (.ring n) ((a' + 1) % n) b t), fun σ' H' ⟨fs', e, g1, g2, g3, g4, g5, g6⟩ => ⟨m - 1, by omega, _, fs', e, g1, g2, f2, f3, g3, by omega, g4, g5, g6⟩, ?_⟩
      have hs' : SqT K H' c [.str (Str.ofString "ring"), .int n] := same_seqT sm hs
      wtm_at "s"
      refine k_eqS ?_
      rw [s_same]
      wtm_at "s"
      refine k_tyL (sl hf) ?_
      wtm_at "s"
      refine k_append hf (by rw [List.length_map]; omega) ?_
      have hs2 : SqT K (upd H' fo (.lst (List.map V.int fs ++ [.int a']))) c [.str (Str.ofString "ring"), .int n] := same_seqT (same_mut sm nfo) hs
      wtm_at "s"
      refine ⟨fs ++ [a'], rfl, same_mut sm nfo, by rw [upd_same, List.map_append]; rfl, ?_, ?_, fun t => ?_, fun t z => ?_⟩
      · refine List.nodup_append.mpr ⟨nd, by simp, fun x hx y hy e => ?_⟩
        have : y = a' := by simpa using hy
        subst this; subst e
        exact hn x hx ⟨a0, a1, by rw [up_self]; exact f4⟩
      · rw [List.length_append]; show ((fs.length + 1 : Nat) : Int) + _ = _; omega
      · rw [ht t, List.mem_append]
        show t ∈ fs ∨ (0 ≤ t ∧ t < n ∧ up n a' t < up n a' b) ↔ (t ∈ fs ∨ t ∈ [a']) ∨ (0 ≤ t ∧ t < n ∧ _)
        by_cases r : 0 ≤ t ∧ t < n
        · have st := (ring_step a0 a1 w3 w5' c1 r.1 r.2).1
          simp only [r.1, r.2, true_and, List.mem_singleton, st, or_assoc]
        · have : t ≠ a' := fun e => r (by omega)
          constructor
          · rintro (h | h)
            · exact .inl (.inl h)
            · exact absurd ⟨h.1, h.2.1⟩ r
          · rintro ((h | h) | h)
            · exact .inl h
            · exact absurd (by simpa using h) this
            · exact absurd ⟨h.1, h.2.1⟩ r
      · rcases List.mem_append.mp z with z | z
        · intro o
          obtain ⟨o1, o2, o3⟩ := o
          exact hn t z ⟨o1, o2, (ring_step a0 a1 w3 w5' c1 o1 o2).1.mpr (.inr o3)⟩
        · have e : t = a' := by simpa using z
          intro o
          obtain ⟨o1, o2, o3⟩ := o
          exact (ring_step a0 a1 w3 w5' c1 o1 o2).2 e o3
    · subst c1
      rw [up_self] at hm
      wtm_at "s"
      refine k_sortedI (sl hf) (fun ns l pm srt nl => ?_)
      refine q l ns _ (sm.free nl) (sm.trans (same_new nl)) upd_same ⟨srt_of nd pm srt, fun t => ?_, ?_⟩
      · rw [pm.mem_iff, ht t]
        constructor
        · exact .inl
        · rintro (h | h)
          · exact h
          · obtain ⟨_, _, h⟩ := h
            rw [up_self] at h
            have := up_nonneg a0 a1 (b := t) (by assumption) (by assumption)
            omega
      · show (ns.length : Int) = up n a a'
        rw [pm.length_eq]; omega
  | tree ps =>
    obtain ⟨d, rfl, hdl⟩ := dp_ints hy
    rw [show Net.kind (.tree ps) = Str.ofString "tree" from rfl] at hs ⊢
    rw [s_tl]
    have w4' : a < ps.length + 1 := w4
    have w5' : b < ps.length + 1 := w5
    have l60 := ok.2.1
    wtm_at "s"
    refine ⟨fun m σ' H' => ∃ a' b' fs, σ' = [some (.ref c), some (.ref p), some (.int a'), some (.int b'), some (.ref fo)] ∧ Same H H' ∧ H' fo = some (.lst (List.map V.int fs)) ∧ 0 ≤ a' ∧ a' < ps.length + 1 ∧ 0 ≤ b' ∧ b' < ps.length + 1 ∧ fs.Nodup ∧ (m : Int) = a' + b' ∧ (fs.length : Int) + m ≤ a + b ∧
      (∀ t, OnTie (.tree ps) a b t ↔ t ∈ fs ∨ OnTie (.tree ps) a' b' t) ∧ (∀ t, t ∈ fs → ¬ OnTie (.tree ps) a' b' t),
      ⟨(a + b).toNat, a, b, [], rfl, s1, e1, w2, w4', w3, w5', List.nodup_nil, by omega, by simp; omega, fun t => by simp, fun t z => by cases z⟩, ?_⟩
    rintro m σ' H' ⟨a', b', fs, rfl, sm, hf, a0, a1, b0, b1, nd, hm, hfl, ht, hn⟩
    wtm_at "s"
    refine k_itn (fun c1 => ?_) (fun c1 => ?_)
    · refine ⟨fun σ' H' => ∃ m' a2 b2 fs', m' < m ∧ σ' = [some (.ref c), some (.ref p), some (.int a2), some (.int b2), some (.ref fo)] ∧ Same H H' ∧ H' fo = some (.lst (List.map V.int fs')) ∧ 0 ≤ a2 ∧ a2 < ps.length + 1 ∧ 0 ≤ b2 ∧ b2 < ps.length + 1 ∧ fs'.Nodup ∧ (m' : Int) = a2 + b2 ∧ (fs'.length : Int) + m' ≤ a + b ∧
        (∀ t, OnTie (.tree ps) a b t ↔ t ∈ fs' ∨ OnTie (.tree ps) a2 b2 t) ∧ (∀ t, t ∈ fs' → ¬ OnTie (.tree ps) a2 b2 t), fun σ' H' ⟨m', a2, b2, fs', l, r⟩ => ⟨m', l, a2, b2, fs', r⟩, ?_⟩
      have hs' : SqT K H' c [.str (Str.ofString "tree"), .ref d] := same_seqT sm hs
      wtm_at "s"
      refine k_eqS ?_
      rw [s_tr]
      wtm_at "s"
      refine k_it (fun c2 => ?_) (fun c2 => ?_)
      · have hpa := ok.2.2 (a' - 1).toNat (by omega)
        wtm_at "s"
        refine k_tyL (sl hf) ?_
        wtm_at "s"
        refine k_append hf (by rw [List.length_map]; omega) ?_
        have sm2 : Same H (upd H' fo (.lst (List.map V.int fs ++ [.int (a' - 1)]))) := same_mut sm nfo
        have hs2 : SqT K (upd H' fo (.lst (List.map V.int fs ++ [.int (a' - 1)]))) c [.str (Str.ofString "tree"), .ref d] := same_seqT sm2 hs
        wtm_at "s"
        refine k_ixI (sm2.seq hdl) (by omega) (by omega) ?_
        wtm_at "s"
        refine ⟨(ps.getD (a' - 1).toNat 0 + b').toNat, _, _, fs ++ [a' - 1], by omega, rfl, sm2, by rw [upd_same, List.map_append]; rfl, by omega, by omega, b0, b1, ?_, by omega, ?_, fun t => ?_, fun t z => ?_⟩
        · refine List.nodup_append.mpr ⟨nd, by simp, fun x hx y hy e => ?_⟩
          have : y = a' - 1 := by simpa using hy
          subst this; subst e
          exact hn _ hx ⟨by omega, by omega, (tree_step ok a0 a1 b0 c2 (by omega)).1.mpr (.inl rfl)⟩
        · rw [List.length_append]; show ((fs.length + 1 : Nat) : Int) + _ ≤ _; omega
        · rw [ht t, List.mem_append]
          show t ∈ fs ∨ (0 ≤ t ∧ t < ps.length ∧ _) ↔ (t ∈ fs ∨ t ∈ [a' - 1]) ∨ (0 ≤ t ∧ t < ps.length ∧ _)
          by_cases r : 0 ≤ t ∧ t < ps.length
          · have st := (tree_step ok a0 a1 b0 c2 r.1).1
            simp only [r.1, r.2, true_and, List.mem_singleton, st, or_assoc]
          · have : t ≠ a' - 1 := fun e => r (by omega)
            constructor
            · rintro (h | h)
              · exact .inl (.inl h)
              · exact absurd ⟨h.1, h.2.1⟩ r
            · rintro ((h | h) | h)
              · exact .inl h
              · exact absurd (by simpa using h) this
              · exact absurd ⟨h.1, h.2.1⟩ r
        · rcases List.mem_append.mp z with z | z
          · rintro ⟨o1, o2, o3⟩
            exact hn t z ⟨o1, o2, (tree_step ok a0 a1 b0 c2 o1).1.mpr (.inr o3)⟩
          · have e : t = a' - 1 := by simpa using z
            rintro ⟨o1, o2, o3⟩
            exact (tree_step ok a0 a1 b0 c2 o1).2 e o3
      · have c3 : a' < b' := by omega
        have hpb := ok.2.2 (b' - 1).toNat (by omega)
        have sym : ∀ u v t, OnTie (.tree ps) u v t ↔ OnTie (.tree ps) v u t := fun u v t => by
          show (_ ∧ _ ∧ _ ≠ _) ↔ (_ ∧ _ ∧ _ ≠ _)
          constructor
          · rintro ⟨x1, x2, x3⟩; exact ⟨x1, x2, x3.symm⟩
          · rintro ⟨x1, x2, x3⟩; exact ⟨x1, x2, x3.symm⟩
        wtm_at "s"
        refine k_tyL (sl hf) ?_
        wtm_at "s"
        refine k_append hf (by rw [List.length_map]; omega) ?_
        have sm2 : Same H (upd H' fo (.lst (List.map V.int fs ++ [.int (b' - 1)]))) := same_mut sm nfo
        have hs2 : SqT K (upd H' fo (.lst (List.map V.int fs ++ [.int (b' - 1)]))) c [.str (Str.ofString "tree"), .ref d] := same_seqT sm2 hs
        wtm_at "s"
        refine k_ixI (sm2.seq hdl) (by omega) (by omega) ?_
        wtm_at "s"
        refine ⟨(a' + ps.getD (b' - 1).toNat 0).toNat, _, _, fs ++ [b' - 1], by omega, rfl, sm2, by rw [upd_same, List.map_append]; rfl, a0, a1, by omega, by omega, ?_, by omega, ?_, fun t => ?_, fun t z => ?_⟩
        · refine List.nodup_append.mpr ⟨nd, by simp, fun x hx y hy e => ?_⟩
          have : y = b' - 1 := by simpa using hy
          subst this; subst e
          exact hn _ hx ((sym _ _ _).mpr ⟨by omega, by omega, (tree_step ok b0 b1 a0 c3 (by omega)).1.mpr (.inl rfl)⟩)
        · rw [List.length_append]; show ((fs.length + 1 : Nat) : Int) + _ ≤ _; omega
        · rw [ht t, List.mem_append, sym a' b', sym a' (ps.getD (b' - 1).toNat 0)]
          show t ∈ fs ∨ (0 ≤ t ∧ t < ps.length ∧ _) ↔ (t ∈ fs ∨ t ∈ [b' - 1]) ∨ (0 ≤ t ∧ t < ps.length ∧ _)
          by_cases r : 0 ≤ t ∧ t < ps.length
          · have st := (tree_step ok b0 b1 a0 c3 r.1).1
            simp only [r.1, r.2, true_and, List.mem_singleton, st, or_assoc]
          · have : t ≠ b' - 1 := fun e => r (by omega)
            constructor
            · rintro (h | h)
              · exact .inl (.inl h)
              · exact absurd ⟨h.1, h.2.1⟩ r
            · rintro ((h | h) | h)
              · exact .inl h
              · exact absurd (by simpa using h) this
              · exact absurd ⟨h.1, h.2.1⟩ r
        · rw [sym]
          rcases List.mem_append.mp z with z | z
          · rintro ⟨o1, o2, o3⟩
            exact hn t z ((sym _ _ _).mpr ⟨o1, o2, (tree_step ok b0 b1 a0 c3 o1).1.mpr (.inr o3)⟩)
          · have e : t = b' - 1 := by simpa using z
            rintro ⟨o1, o2, o3⟩
            exact (tree_step ok b0 b1 a0 c3 o1).2 e o3
    · subst c1
      wtm_at "s"
      refine k_sortedI (sl hf) (fun ns l pm srt nl => ?_)
      refine q l ns _ (sm.free nl) (sm.trans (same_new nl)) upd_same ⟨srt_of nd pm srt, fun t => ?_, ?_⟩
      · rw [pm.mem_iff, ht t]
        constructor
        · exact .inl
        · rintro (h | h)
          · exact h
          · exact absurd rfl h.2.2
      · show ns.length < 120
        rw [pm.length_eq]; omega
abbrev sp_ties_on (K : PySem.W.Frag) : Sp := fun vs H Q E => ∃ v0 v1, vs = [v0, v1] ∧ pr_ties_on K v0 v1 H Q E
theorem ok_ties_on (T : Txt K mg A) : FnOk P w K mg base CX0 1 A.a_ties_on A.d_ties_on ["net", "way"] (sp_ties_on K) := by
  refine T.F_ties_on.ok sc_ties_on (fun vs H Q E h => by obtain ⟨v0, v1, rfl, _⟩ := h; rfl) (fun cdv A0 outer s H vs Q E hr h => ?_)
  obtain ⟨v0, v1, rfl, h⟩ := h
  exact ⟨t_ties_on K, (pss_cons (ps_asg (pv 1) (pg_tup (by rfl) (pgs_cons (pg_name (i := 2) sc_ties_on.nd rfl (Or.inl rfl)) (pgs_cons (pg_name (i := 3) sc_ties_on.nd rfl (Or.inl rfl)) pgs_nil))))
      (pss_cons (ps_set (i := 4) sc_ties_on.nd rfl (Or.inl rfl) (pe_lst pa_nil))
      (pss_cons (ps_if (pt_cmpR op_eq (pe_ix ix_tup (pv 0) pe_int (fun _ _ => rfl)) pe_str (nomark _)) (pss_one (ps_ret (pe_listRg (by rfl) (by rfl) T.z_list (prg_2 (by rfl) T.z_range (pe_callB (q_min2 (by rfl)) (by rfl) T.z_min (by decide +kernel) (pa_cons (pv 2) (pa_cons (pv 3) pa_nil))) (pe_callB (q_max2 (by rfl)) (by rfl) T.z_max (by decide +kernel) (pa_cons (pv 2) (pa_cons (pv 3) pa_nil))))))) pss_nil)
      (pss_cons (ps_while PassesOwn.never (pt_cmpR op_ne (pv 2) (pv 3) (nomark _))
      (pss_one (ps_if (pt_cmpR op_eq (pe_ix ix_tup (pv 0) pe_int (fun _ _ => rfl)) pe_str (nomark _)) (pss_cons (ps_expr (pe_bm PySem.F.plainAttrs_list PySem.F.slot_list_append PySem.F.type_list_append mt_append (pv 4) (pa_cons (pv 2) pa_nil)))
      (pss_one (ps_set (i := 2) sc_ties_on.nd rfl (Or.inl rfl) (pe_op op_mod (pe_op op_add (pv 2) pe_int) (pe_ix ix_tup (pv 0) pe_int (fun _ _ => rfl)))))) (pss_one (ps_if (pt_cmpR op_gt (pv 2) (pv 3) (nomark _)) (pss_cons (ps_expr (pe_bm PySem.F.plainAttrs_list PySem.F.slot_list_append PySem.F.type_list_append mt_append (pv 4) (pa_cons (pe_op op_sub (pv 2) pe_int) pa_nil)))
      (pss_one (ps_set (i := 2) sc_ties_on.nd rfl (Or.inl rfl) (pe_ix ix_list (pe_ix ix_tup (pv 0) pe_int (fun _ _ => rfl)) (pe_op op_sub (pv 2) pe_int) (fun _ _ => rfl))))) (pss_cons (ps_expr (pe_bm PySem.F.plainAttrs_list PySem.F.slot_list_append PySem.F.type_list_append mt_append (pv 4) (pa_cons (pe_op op_sub (pv 3) pe_int) pa_nil)))
      (pss_one (ps_set (i := 3) sc_ties_on.nd rfl (Or.inl rfl) (pe_ix ix_list (pe_ix ix_tup (pv 0) pe_int (fun _ _ => rfl)) (pe_op op_sub (pv 3) pe_int) (fun _ _ => rfl))))))))))
      (pss_one (ps_ret (pe_callB cr_sortedI (by rfl) T.z_sorted (by decide +kernel) (pa_cons (pv 4) pa_nil)))))))), pure_ties_on h⟩


def pr_must_be_ways (K : PySem.W.Frag) (v0 v1 : V) (H : Hp) (Q : VK) (_ : XK) : Prop := ∃ (N : Net) (ws : List (Int × Int)), Dp K H v0 N.d ∧ Dp K H v1 (dPairs ws) ∧ ws.length ≤ 10000 ∧ (∀ w ∈ ws, isWay N w.1 w.2) ∧ Q .non H
def t_must_be_ways (K : PySem.W.Frag) : TS :=
  (tFor (iRng1 (tCons (tCB (rLen K) (tCons (tVar 1) tNil)) tNil)) (gName 2)
      (tIfS (tNot (tB (tCall (sp_is_way K) [] E0 (tCons (tVar 0) (tCons (tOp (rIxL K) (tVar 1) (tVar 2)) tNil))))) tNever tNext))
theorem pure_must_be_ways {v0 v1 : V} {H : Hp} {Q : VK} {E : XK} (h : pr_must_be_ways K v0 v1 H Q E) : t_must_be_ways K ⟨fun _ H' => Q .non H', Q, fun _ _ => False, fun _ _ => False⟩ [some v0, some v1, none] H := by
  obtain ⟨N, ws, hd, hw, hz, hok, q⟩ := h
  obtain ⟨b, xs, rfl, hb, hxs⟩ := dp_list hw
  have hl := dpa_len hxs
  rw [List.length_map] at hl
  unfold t_must_be_ways
  wtm_at "s"
  rw [hl]
  refine forR (fun i σ' H' => H' = H ∧ ∃ k, σ' = [some v0, some (.ref b), k]) ⟨rfl, none, rfl⟩ ?_ (fun σ' H' ⟨e, _⟩ => e ▸ q)
  rintro i σ' H' hi ⟨rfl, k, rfl⟩
  have hi' : i < xs.length := by omega
  obtain ⟨x, hx⟩ : ∃ x, xs[i]? = some x := ⟨xs[i], List.getElem?_eq_getElem hi'⟩
  obtain ⟨d, hd1, hd2⟩ := dpa_get hxs hx
  rw [List.getElem?_map] at hd1
  obtain ⟨w, hw1, rfl⟩ := Option.map_eq_some_iff.mp hd1
  have wok := hok w (List.mem_of_getElem? hw1)
  wtm_at "s"
  refine k_ixL hb (by rw [Int.zero_add]; exact atI_nat hx) ?_
  wtm_at "s"
  refine ⟨_, _, rfl, N, w.1, w.2, hd, hd2, ?_⟩
  rw [decide_eq_true wok]
  wtm_at "s"
  exact ⟨rfl, _, rfl⟩
abbrev sp_must_be_ways (K : PySem.W.Frag) : Sp := fun vs H Q E => ∃ v0 v1, vs = [v0, v1] ∧ pr_must_be_ways K v0 v1 H Q E
theorem ok_must_be_ways (T : Txt K mg A) : FnOk P w K mg base CX0 3 A.a_must_be_ways A.d_must_be_ways ["net", "ways"] (sp_must_be_ways K) := by
  refine T.F_must_be_ways.ok sc_must_be_ways (fun vs H Q E h => by obtain ⟨v0, v1, rfl, _⟩ := h; rfl) (fun cdv A0 outer s H vs Q E hr h => ?_)
  obtain ⟨v0, v1, rfl, h⟩ := h
  exact ⟨t_must_be_ways K, (pss_one (ps_for PassesOwn.never rfl (pi_range1 (by rfl) T.z_range (pa_cons (pe_callB q_len (by rfl) T.z_len (by decide +kernel) (pa_cons (pv 1) pa_nil)) pa_nil)) (pg_name (i := 2) sc_must_be_ways.nd rfl (Or.inl rfl))
      (pss_one (ps_if (pt_not (pt_val (pe_call (ok_is_way T) (hr.mono (by decide)) (by rfl) T.g_is_way T.F_is_way.kp T.b_is_way .nil pass0 (pa_cons (pv 0) (pa_cons (pe_ix ix_list (pv 1) (pv 2) (fun _ _ => rfl)) pa_nil))))) (pss_one ps_never) pss_nil)))), pure_must_be_ways h⟩
def pr_look_ways (K : PySem.W.Frag) (v0 v1 : V) (H : Hp) (Q : VK) (_ : XK) : Prop := ∃ (N : Net) (ws : List (Int × Int)), Dp K H v0 N.d ∧ N.ok ∧ Dp K H v1 (dPairs ws) ∧ ws.length ≤ 10000 ∧ (∀ w ∈ ws, isWay N w.1 w.2) ∧ Q .non H
def t_look_ways (K : PySem.W.Frag) : TS :=
  (tSeq (tDrop (tCall (sp_look_net K) [] E0 (tCons (tVar 0) tNil)))
    (tDrop (tCall (sp_must_be_ways K) [] E0 (tCons (tVar 0) (tCons (tVar 1) tNil)))))
theorem pure_look_ways {v0 v1 : V} {H : Hp} {Q : VK} {E : XK} (h : pr_look_ways K v0 v1 H Q E) : t_look_ways K ⟨fun _ H' => Q .non H', Q, fun _ _ => False, fun _ _ => False⟩ [some v0, some v1] H := by
  obtain ⟨N, ws, hd, ok, hw, hz, hok, q⟩ := h
  unfold t_look_ways
  wtm_at "s"
  refine ⟨_, rfl, N, hd, ok, ?_⟩
  wtm_at "s"
  exact ⟨_, _, rfl, N, ws, hd, hw, hz, hok, q⟩
abbrev sp_look_ways (K : PySem.W.Frag) : Sp := fun vs H Q E => ∃ v0 v1, vs = [v0, v1] ∧ pr_look_ways K v0 v1 H Q E
theorem ok_look_ways (T : Txt K mg A) : FnOk P w K mg base CX0 4 A.a_look_ways A.d_look_ways ["net", "ways"] (sp_look_ways K) := by
  refine T.F_look_ways.ok sc_look_ways (fun vs H Q E h => by obtain ⟨v0, v1, rfl, _⟩ := h; rfl) (fun cdv A0 outer s H vs Q E hr h => ?_)
  obtain ⟨v0, v1, rfl, h⟩ := h
  exact ⟨t_look_ways K, (pss_cons (ps_expr (pe_call (ok_look_net T) (hr.mono (by decide)) (by rfl) T.g_look_net T.F_look_net.kp T.b_look_net .nil pass0 (pa_cons (pv 0) pa_nil)))
      (pss_one (ps_expr (pe_call (ok_must_be_ways T) (hr.mono (by decide)) (by rfl) T.g_must_be_ways T.F_must_be_ways.kp T.b_must_be_ways .nil pass0 (pa_cons (pv 0) (pa_cons (pv 1) pa_nil)))))), pure_look_ways h⟩


/-- two ways of one hue that meet, or a hue below 0 -/
def BadM (M : Nat → Nat → Prop) (n : Nat) (hs : List Int) (i j : Nat) : Prop := i ≤ j ∧ j < n ∧ if i = j then hs.getD i 0 < 0 else hs.getD i 0 = hs.getD j 0 ∧ M i j
def FirstM (M : Nat → Nat → Prop) (n : Nat) (hs : List Int) (i j : Nat) : Prop := BadM M n hs i j ∧ ∀ i' j', i' < i ∨ i' = i ∧ j' < j → ¬ BadM M n hs i' j'
def meetL (lain : List (List Int)) (i j : Nat) : Prop := ∃ t, t ∈ lain.getD i [] ∧ t ∈ lain.getD j []
def OutM (M : Nat → Nat → Prop) (n : Nat) (hs : List Int) (H : Hp) (Q : VK) : Prop := (hs.length ≠ n → ∀ p H', H p = none → Same H H' → H' p = some (.tup [.int (-1), .int (-1)]) → Q (.ref p) H') ∧
  (hs.length = n → (∀ i j, ¬ BadM M n hs i j) → ∀ H', Same H H' → Q .non H') ∧ (∀ i j, hs.length = n → FirstM M n hs i j → ∀ p H', H p = none → Same H H' → H' p = some (.tup [.int (i : Nat), .int (j : Nat)]) → Q (.ref p) H')
def pr_first_clash (K : PySem.W.Frag) (v0 v1 : V) (H : Hp) (Q : VK) (_ : XK) : Prop := ∃ (lain : List (List Int)) (hs : List Int) (M : Nat → Nat → Prop), Dp K H v0 (.list (lain.map dInts)) ∧ Dp K H v1 (dInts hs) ∧ lain.length ≤ 1000 ∧ (∀ l ∈ lain, l.length ≤ 1000) ∧
  (∀ i j, i < lain.length → j < lain.length → (meetL lain i j ↔ M i j)) ∧ OutM M lain.length hs H Q
def t_first_clash (K : PySem.W.Frag) : TS :=
  (tSeq (tIfS (tTest (tOp rNe (tCB (rLen K) (tCons (tVar 1) tNil)) (tCB (rLen K) (tCons (tVar 0) tNil)))) (tRet (tTup (tCons (tUn xNeg (tC (.int 1))) (tCons (tUn xNeg (tC (.int 1))) tNil)))) tNext)
    (tSeq (tFor (iRng1 (tCons (tCB (rLen K) (tCons (tVar 0) tNil)) tNil)) (gName 2)
      (tSeq (tIfS (tTest (tOp xLt (tOp (rIxL K) (tVar 1) (tVar 2)) (tC (.int 0)))) (tRet (tTup (tCons (tVar 2) (tCons (tVar 2) tNil)))) tNext)
    (tFor (iRng2 (tCons (tOp xAdd (tVar 2) (tC (.int 1))) (tCons (tCB (rLen K) (tCons (tVar 0) tNil)) tNil))) (gName 3)
      (tIfS (tAnd (tTest (tOp rEq (tOp (rIxL K) (tVar 1) (tVar 2)) (tOp (rIxL K) (tVar 1) (tVar 3)))) (tTest (tOp xGt (tCB (rLen K) (tCons (tLc (iList K (tOp (rIxL K) (tVar 0) (tVar 2))) (gName 4) (tTest (tOp (rIn K false) (tVar 4) (tOp (rIxL K) (tVar 0) (tVar 3)))) (tVar 4) [4]) tNil)) (tC (.int 0))))) (tRet (tTup (tCons (tVar 2) (tCons (tVar 3) tNil)))) tNext))))
    (tRet (tC .non))))
theorem dlists_get {K : PySem.W.Frag} {H : Hp} {xs : List V} {ls : List (List Int)} {i : Nat} (hxs : DpAll K H xs (ls.map dInts)) (hi : i < ls.length) : ∃ c l, xs[i]? = some (.ref c) ∧ ls[i]? = some l ∧ SqL K H c (l.map V.int) := by
  have hl := dpa_len hxs
  rw [List.length_map] at hl
  have hx : xs[i]? = some (xs[i]'(by omega)) := List.getElem?_eq_getElem (by omega)
  obtain ⟨d, hd1, hd2⟩ := dpa_get hxs hx
  rw [List.getElem?_map] at hd1
  obtain ⟨l, h1, rfl⟩ := Option.map_eq_some_iff.mp hd1
  obtain ⟨c, e, h2⟩ := dp_ints hd2
  exact ⟨c, l, by rw [hx, e], h1, h2⟩
theorem getD_of {α : Type} {l : List α} {i : Nat} {x d : α} (h : l[i]? = some x) : l.getD i d = x := by rw [List.getD_eq_getElem?_getD, h]; rfl
theorem meet_fm (xs ys : List Int) : 0 < (xs.filterMap fun t => if t ∈ ys then some (V.int t) else none).length ↔ ∃ t, t ∈ xs ∧ t ∈ ys := by
  rw [List.length_pos_iff_exists_mem]
  constructor
  · rintro ⟨v, hv⟩
    obtain ⟨t, h1, h2⟩ := List.mem_filterMap.mp hv
    by_cases c : t ∈ ys
    · exact ⟨t, h1, c⟩
    · rw [if_neg c] at h2; cases h2
  · rintro ⟨t, h1, h2⟩
    exact ⟨.int t, List.mem_filterMap.mpr ⟨t, h1, by rw [if_pos h2]⟩⟩
theorem pure_first_clash {v0 v1 : V} {H : Hp} {Q : VK} {E : XK} (h : pr_first_clash K v0 v1 H Q E) : t_first_clash K ⟨fun _ H' => Q .non H', Q, fun _ _ => False, fun _ _ => False⟩ [some v0, some v1, none, none, none] H := by
  obtain ⟨lain, hs, M, hd, hh, n1, n2, hM, q0, q1, q2⟩ := h
  obtain ⟨b, xs, rfl, hb, hxs⟩ := dp_list hd
  obtain ⟨c, rfl, hc⟩ := dp_ints hh
  have hl := dpa_len hxs
  rw [List.length_map] at hl
  unfold t_first_clash
  wtm_at "s"
  refine k_itn (fun ne => ?_) (fun eq => ?_)
  · wtm_at "s"
    exact kT (by simp) (fun p H1 np s1 e1 => q0 (by omega) p H1 np s1 e1)
  have eq' : hs.length = lain.length := by omega
  clear eq q0 hh hd
  wtm_at "s"
  refine forR (fun i σ' H' => Same H H' ∧ (∃ k2 k3, σ' = [some (.ref b), some (.ref c), k2, k3, none]) ∧ ∀ i' j', i' < i → ¬ BadM M lain.length hs i' j') ⟨Same.refl _, ⟨none, none, rfl⟩, fun i' j' z => by omega⟩ ?_ ?_
  · rintro i σ' H1 hi ⟨s1, ⟨k2, k3, rfl⟩, no⟩
    rw [Int.zero_add]
    have hi' : i < lain.length := by omega
    obtain ⟨x, hx⟩ : ∃ x, hs[i]? = some x := ⟨hs[i], List.getElem?_eq_getElem (by omega)⟩
    obtain ⟨ci, li, hxi, hli, hci⟩ := dlists_get hxs hi'
    wtm_at "s"
    refine k_ixN (s1.seq hc) hx ?_
    wtm_at "s"
    refine k_it (fun neg => ?_) (fun pos => ?_)
    · wtm_at "s"
      refine kT (by simp) (fun p H2 np s2 e2 => q2 i i eq' ⟨⟨Nat.le_refl _, hi', by rw [if_pos rfl, getD_of hx]; exact neg⟩, fun i' j' z => ?_⟩ p H2 (s1.free np) (s1.trans s2) e2)
      rcases z with z | ⟨rfl, z⟩
      · exact no i' j' z
      · exact fun w => by have := w.1; omega
    · wtm_at "s"
      refine forR (fun t σ' H' => Same H H' ∧ (∃ k3, σ' = [some (.ref b), some (.ref c), some (.int (i : Nat)), k3, none]) ∧ ∀ j', j' < i + 1 + t → ¬ BadM M lain.length hs i j') ⟨s1, ⟨k3, rfl⟩, fun j' z w => ?_⟩ ?_ ?_
      · have e : i = j' := by have := w.1; omega
        subst e
        have := w.2.2
        rw [if_pos rfl, getD_of hx] at this
        exact pos this
      · rintro t σ' H2 ht ⟨s2, ⟨k3, rfl⟩, no2⟩
        rw [show (i : Int) + 1 + ((t : Nat) : Int) = ((i + 1 + t : Nat) : Int) by omega]
        have hj' : i + 1 + t < lain.length := by omega
        have step : ¬ BadM M lain.length hs i (i + 1 + t) → ∀ j', j' < i + 1 + (t + 1) → ¬ BadM M lain.length hs i j' := fun nb j' z => by
          by_cases e : j' = i + 1 + t
          · rw [e]; exact nb
          · exact no2 j' (by omega)
        obtain ⟨y, hy⟩ : ∃ y, hs[i + 1 + t]? = some y := ⟨hs[i + 1 + t], List.getElem?_eq_getElem (by omega)⟩
        obtain ⟨cj, lj, hxj, hlj, hcj⟩ := dlists_get hxs hj'
        have bad : BadM M lain.length hs i (i + 1 + t) ↔ x = y ∧ ∃ t, t ∈ li ∧ t ∈ lj := by
          unfold BadM
          rw [if_neg (by omega), getD_of hx, getD_of hy, ← hM i _ hi' hj']
          unfold meetL
          rw [getD_of hli, getD_of hlj]
          constructor
          · exact fun z => z.2.2
          · exact fun z => ⟨by omega, hj', z⟩
        generalize hje : i + 1 + t = j at hy hxj hlj bad step hj'
        wtm_at "s"
        refine k_ixN (s2.seq hc) hx ?_
        wtm_at "s"
        refine k_ixN (s2.seq hc) hy ?_
        wtm_at "s"
        refine k_it (fun e1 => ?_) (fun e1 => ?_)
        · wtm_at "s"
          refine k_ixL (s2.seq hb) (atI_nat hxi) ?_
          refine lc_pure (s2.seq hci) li (by simp) (by have := n2 li (List.mem_of_getElem? hli); omega) (fun t => if t ∈ lj then some (V.int t) else none) ?_ (fun D H3 nD s3 eD => ?_)
          · intro k z p H' hz hp sm R R0 h1 h2
            rw [List.getElem?_map, hp] at hz
            cases hz
            wtm_at "s"
            refine k_ixL (sm.seq (s2.seq hb)) (atI_nat hxj) ?_
            have hcj' := sm.seq (s2.seq hcj)
            wtm_at "s"
            refine k_it (fun w => ?_) (fun w => ?_)
            · wtm_at "s"
              exact h1 _ (by rw [if_pos w])
            · exact h2 (by rw [if_neg w])
          · wtm_at "s"
            refine k_it (fun w => ?_) (fun w => ?_)
            · wtm_at "s"
              have mt := (meet_fm li lj).mp (by omega)
              refine kT (by simp) (fun p H4 np s4 e4 => q2 i j eq' ⟨bad.mpr ⟨e1, mt⟩, fun i' j' z => ?_⟩ p H4 ((s2.trans s3).free np) (s2.trans (s3.trans s4)) e4)
              rcases z with z | ⟨rfl, z⟩
              · exact no i' j' z
              · exact no2 j' (by omega)
            · wtm_at "s"
              exact ⟨s2.trans s3, ⟨_, rfl⟩, step fun z => w (by have := (meet_fm li lj).mpr (bad.mp z).2; omega)⟩
        · wtm_at "s"
          exact ⟨s2, ⟨_, rfl⟩, step fun z => e1 (bad.mp z).1⟩
      · rintro σ' H2 ⟨s2, ⟨k3, rfl⟩, no2⟩
        refine ⟨s2, ⟨_, _, rfl⟩, fun i' j' z => ?_⟩
        by_cases e : i' = i
        · subst e
          by_cases hj : j' < lain.length
          · exact no2 j' (by omega)
          · exact fun w => hj w.2.1
        · exact no i' j' (by omega)
  · rintro σ' H1 ⟨s1, ⟨k2, k3, rfl⟩, no⟩
    wtm_at "s"
    exact q1 eq' (fun i j z => no i j (by have := z.1; have := z.2.1; omega) z) H1 s1
abbrev sp_first_clash (K : PySem.W.Frag) : Sp := fun vs H Q E => ∃ v0 v1, vs = [v0, v1] ∧ pr_first_clash K v0 v1 H Q E
theorem ok_first_clash (T : Txt K mg A) : FnOk P w K mg base CX0 1 A.a_first_clash A.d_first_clash ["lain", "hues"] (sp_first_clash K) := by
  refine T.F_first_clash.ok sc_first_clash (fun vs H Q E h => by obtain ⟨v0, v1, rfl, _⟩ := h; rfl) (fun cdv A0 outer s H vs Q E hr h => ?_)
  obtain ⟨v0, v1, rfl, h⟩ := h
  exact ⟨t_first_clash K, (pss_cons (ps_if (pt_cmpR op_ne (pe_callB q_len (by rfl) T.z_len (by decide +kernel) (pa_cons (pv 1) pa_nil)) (pe_callB q_len (by rfl) T.z_len (by decide +kernel) (pa_cons (pv 0) pa_nil)) (nomark _)) (pss_one (ps_ret (pe_tup (pa_cons (pe_un un_neg pe_int) (pa_cons (pe_un un_neg pe_int) pa_nil))))) pss_nil)
      (pss_cons (ps_for PassesOwn.never rfl (pi_range1 (by rfl) T.z_range (pa_cons (pe_callB q_len (by rfl) T.z_len (by decide +kernel) (pa_cons (pv 0) pa_nil)) pa_nil)) (pg_name (i := 2) sc_first_clash.nd rfl (Or.inl rfl))
      (pss_cons (ps_if (pt_cmpR op_lt (pe_ix ix_list (pv 1) (pv 2) (fun _ _ => rfl)) pe_int (nomark _)) (pss_one (ps_ret (pe_tup (pa_cons (pv 2) (pa_cons (pv 2) pa_nil))))) pss_nil)
      (pss_one (ps_for PassesOwn.never rfl (pi_range2 (by rfl) T.z_range (pa_cons (pe_op op_add (pv 2) pe_int) (pa_cons (pe_callB q_len (by rfl) T.z_len (by decide +kernel) (pa_cons (pv 0) pa_nil)) pa_nil))) (pg_name (i := 3) sc_first_clash.nd rfl (Or.inr rfl))
      (pss_one (ps_if (PW.pt (pw_and (pt_cmpR op_eq (pe_ix ix_list (pv 1) (pv 2) (fun _ _ => rfl)) (pe_ix ix_list (pv 1) (pv 3) (fun _ _ => rfl)) (nomark _)) (pw_and1 (pt_cmpR op_gt (pe_callB q_len (by rfl) T.z_len (by decide +kernel) (pa_cons (pe_lc (own := [("tie", 4)]) (by rfl) sc_first_clash.nd (pi_list (pe_ix ix_list (pv 0) (pv 2) (fun _ _ => rfl))) (blkOk_by (own := [("tie", 4)]) (N := ["lain", "hues", "i", "j", "tie"]) (sc := defScope s_first_clash) (by decide +kernel)) (fun _ _ _ _ _ => (pg_name (i := 4) sc_first_clash.nd rfl (Or.inl rfl))) (fun _ _ _ _ _ => (pts_one (pt_cmpR op_in_seq (pv 4) (pe_ix ix_list (pv 0) (pv 3) (fun _ _ => rfl)) (by rfl)))) (fun _ _ _ _ _ => (pv 4))) pa_nil)) pe_int (nomark _))))) (pss_one (ps_ret (pe_tup (pa_cons (pv 2) (pa_cons (pv 3) pa_nil))))) pss_nil))))))
      (pss_one (ps_ret pe_non)))), pure_first_clash h⟩


def meetW (N : Net) (ws : List (Int × Int)) (i j : Nat) : Prop := ∃ w v t, ws[i]? = some w ∧ ws[j]? = some v ∧ OnTie N w.1 w.2 t ∧ OnTie N v.1 v.2 t
def LainOf (N : Net) (ws : List (Int × Int)) (lain : List (List Int)) : Prop := lain.length = ws.length ∧ ∀ (i : Nat) w l, ws[i]? = some w → lain[i]? = some l → l.Pairwise (· < ·) ∧ ∀ t, t ∈ l ↔ OnTie N w.1 w.2 t
theorem LainOf.meet {N : Net} {ws : List (Int × Int)} {lain : List (List Int)} (h : LainOf N ws lain) {i j : Nat} (hi : i < lain.length) (hj : j < lain.length) : meetL lain i j ↔ meetW N ws i j := by
  obtain ⟨hl, h⟩ := h
  have e1 : ws[i]? = some (ws[i]'(by omega)) := List.getElem?_eq_getElem (by omega)
  have e2 : ws[j]? = some (ws[j]'(by omega)) := List.getElem?_eq_getElem (by omega)
  have e3 : lain[i]? = some lain[i] := List.getElem?_eq_getElem hi
  have e4 : lain[j]? = some lain[j] := List.getElem?_eq_getElem hj
  unfold meetL meetW
  rw [getD_of e3, getD_of e4]
  constructor
  · rintro ⟨t, h1, h2⟩
    exact ⟨_, _, t, e1, e2, ((h i _ _ e1 e3).2 t).mp h1, ((h j _ _ e2 e4).2 t).mp h2⟩
  · rintro ⟨w, v, t, f1, f2, h1, h2⟩
    rw [e1] at f1; rw [e2] at f2
    cases f1; cases f2
    exact ⟨t, ((h i _ _ e1 e3).2 t).mpr h1, ((h j _ _ e2 e4).2 t).mpr h2⟩
theorem ok_places {N : Net} (h : N.ok) : N.places ≤ 60 := by
  cases N with
  | line n => exact h.2
  | ring n => exact h.2
  | tree ps => show (ps.length : Int) + 1 ≤ 60; have := h.2.1; omega
/-- the ties of each way, one list for each -/
theorem lc_lainG {σ : L2.St} {vs : List Nat} {j : Nat} {te : TE} {a : Addr} {xs : List V} {N : Net} {ws : List (Int × Int)} {H1 : Hp} {QD : Addr → Hp → Prop} (S0 : List Addr) (hS : ∀ b ∈ S0, H1 b ≠ none) (hs : SqL K H1 a xs) (hxs : DpAll K H1 xs (ws.map dPair)) (hz : ws.length ≤ 1000)
    (step : ∀ c w H' (R : V → Hp → Prop), w ∈ ws → Same H1 H' → SqT K H' c [.int w.1, .int w.2] → (∀ p ns H'', H' p = none → Same H' H'' → H'' p = some (.lst (List.map V.int ns)) → ns.Pairwise (· < ·) → (∀ t, t ∈ ns ↔ OnTie N w.1 w.2 t) → R (.ref p) H'') → te ((wipe σ vs).set j (some (.ref c))) H' R)
    (hwp : ∀ x, wipe ((wipe σ vs).set j (some x)) vs = wipe σ vs)
    (h : ∀ D lain H', H1 D = none → Same H1 H' → Dp K (hid S0 H') (.ref D) (.list (lain.map dInts)) → LainOf N ws lain → QD D H') :
    ∃ a', V.ref a = .ref a' ∧ (∃ xs, SqL K H1 a' xs) ∧ ∀ D, H1 D = none → ∃ W : Nat → Nat → Hp → Prop, (∃ m, W 0 m (upd H1 D (.lst []))) ∧ ∀ t m H, W t m H →
      ((Itl K a').stop t H ∧ QD D H) ∨ ((Itl K a').go t H ∧ ∃ Nx : Hp → Prop, (∀ H', Nx H' → ∃ m', m' < m ∧ W (t + 1) m' H') ∧ ∀ x H', (Itl K a').yld t H x H' → gName j x (wipe σ vs) H' fun σ2 H2 => wipe σ2 vs = wipe σ vs ∧ tYes σ2 H2 fun b H3 =>
        if b = true then te σ2 H3 fun y H4 => ∃ acc, H4 D = some (.lst acc) ∧ acc.length < sizeLine ∧ Nx (upd H4 D (.lst (acc ++ [y]))) else Nx H3) := by
  have hl := dpa_len hxs
  rw [List.length_map] at hl
  refine ⟨a, rfl, ⟨xs, hs⟩, fun D nD => lc_list (xs := xs) (fun t H => Same H1 H ∧ ∃ ys lain, H D = some (.lst ys) ∧ DpAll K (hid (D :: S0) H) ys (lain.map dInts) ∧ LainOf N (ws.take t) lain) ⟨same_new nD, [], [], upd_same, .nil, ⟨by simp, fun i w l z => by simp at z⟩⟩ (fun t H _ e => e.1.seq hs) ?_ ?_⟩
  · rintro t x H hx ⟨sm, ys, lain, hD, hys, ⟨ll, hla⟩⟩
    have ht : t < ws.length := by rw [← hl]; exact (List.getElem?_eq_some_iff.mp hx).1
    obtain ⟨w, c, hw, rfl, hc⟩ := dpairs_get hxs hx
    refine k_gname (k_wipe (hwp _) ?_)
    refine k_yes (iteT (step c w H _ (List.mem_of_getElem? hw) sm (same_seqT sm hc) fun p ns H' np s' hp srt mem => ?_))
    have pD : p ∉ D :: S0 := fun z => by
      rcases List.mem_cons.mp z with z | z
      · rw [z, hD] at np; cases np
      · exact hS p z (sm.free np)
    have ly := dpa_len hys
    rw [List.length_map] at ly
    have lt : (ws.take t).length = t := by rw [List.length_take]; omega
    refine ⟨ys, s' _ _ hD, szl (by omega), same_mut (sm.trans s') nD, ys ++ [.ref p], lain ++ [ns], upd_same, ?_, ⟨?_, fun k w' l hk hkl => ?_⟩⟩
    · rw [hid_upd (by simp), List.map_append]
      exact dpa_app (dpa_same (hid_mono s') hys) (.cons (dp_of_ints (sl (by rw [hid_ne pD]; exact hp))) .nil)
    · rw [List.length_append, ll, List.take_add_one, hw]; simp
    · rw [List.take_add_one, hw] at hk
      by_cases ck : k < t
      · rw [List.getElem?_append_left (by omega)] at hk hkl
        exact hla k w' l hk hkl
      · have e : k = t := by
          have := (List.getElem?_eq_some_iff.mp hk).1
          rw [List.length_append, lt] at this
          simp at this; omega
        subst e
        rw [List.getElem?_append_right (by omega), lt] at hk
        rw [List.getElem?_append_right (by omega), ll, lt] at hkl
        simp at hk hkl
        subst hk; subst hkl
        exact ⟨srt, mem⟩
  · rintro H ⟨sm, ys, lain, hD, hys, hla⟩
    rw [hl, List.take_length] at hla
    refine h D lain H nD sm (.lst (sl (xs := ys) ?_) (dpa_same (hid_sub fun x hx => List.mem_cons_of_mem _ hx) hys)) hla
    rw [hid_ne fun z => hS D z nD]; exact hD
theorem ss_len60 : ∀ {xs : List Int} {lo hi : Int}, xs.Pairwise (· < ·) → (∀ t ∈ xs, lo ≤ t ∧ t < hi) → xs.length ≤ (hi - lo).toNat
  | [], _, _, _, _ => Nat.zero_le _
  | x :: xs, lo, hi, h, hb => by
    obtain ⟨a1, a2⟩ := List.pairwise_cons.mp h
    have := ss_len60 (lo := x + 1) (hi := hi) a2 fun t ht => ⟨by have := a1 t ht; omega, (hb t (List.mem_cons_of_mem _ ht)).2⟩
    have := hb x List.mem_cons_self
    rw [List.length_cons]; omega
theorem tie_in {N : Net} (ok : N.ok) {a b t : Int} (h : isWay N a b) (ht : OnTie N a b t) : 0 ≤ t ∧ t < 60 := by
  obtain ⟨w1, w2, w3, w4, w5⟩ := h
  cases N with
  | line n => have h1 : a < n := w4; have h2 : b < n := w5; have h3 : n ≤ 60 := ok.2; have h4 : min a b ≤ t ∧ t < max a b := ht; omega
  | ring n => have h3 : n ≤ 60 := ok.2; have h4 : 0 ≤ t ∧ t < n ∧ _ := ht; omega
  | tree ps => have h3 : ps.length < 60 := ok.2.1; have h4 : 0 ≤ t ∧ t < (ps.length : Int) ∧ _ := ht; omega
theorem LainOf.small {N : Net} {ws : List (Int × Int)} {lain : List (List Int)} (h : LainOf N ws lain) (ok : N.ok) (hok : ∀ w ∈ ws, isWay N w.1 w.2) : ∀ l ∈ lain, l.length ≤ 60 := fun l hl => by
  obtain ⟨i, hi, e⟩ := List.getElem_of_mem hl
  obtain ⟨h1, h2⟩ := h
  have e1 : ws[i]? = some (ws[i]'(by omega)) := List.getElem?_eq_getElem (by omega)
  obtain ⟨s, m⟩ := h2 i _ l e1 (by rw [List.getElem?_eq_getElem hi, e])
  exact ss_len60 (lo := 0) (hi := 60) s fun t ht => tie_in ok (hok _ (List.mem_of_getElem? e1)) ((m t).mp ht)
def pr_clash (K : PySem.W.Frag) (v0 v1 v2 : V) (H : Hp) (Q : VK) (_ : XK) : Prop := ∃ (N : Net) (ws : List (Int × Int)) (hs : List Int), Dp K H v0 N.d ∧ N.ok ∧ Dp K H v1 (dPairs ws) ∧ ws.length ≤ 1000 ∧ (∀ w ∈ ws, isWay N w.1 w.2) ∧ Dp K H v2 (dInts hs) ∧ OutM (meetW N ws) ws.length hs H Q
def t_clash (K : PySem.W.Frag) : TS :=
  (tSeq (tDrop (tCall (sp_look_ways K) [] E0 (tCons (tVar 0) (tCons (tVar 1) tNil))))
    (tRet (tCall (sp_first_clash K) [] E0 (tCons (tLc (iList K (tVar 1)) (gName 3) tYes (tCall (sp_ties_on K) [] E0 (tCons (tVar 0) (tCons (tVar 3) tNil))) [3]) (tCons (tVar 2) tNil)))))
theorem pure_clash {v0 v1 v2 : V} {H : Hp} {Q : VK} {E : XK} (h : pr_clash K v0 v1 v2 H Q E) : t_clash K ⟨fun _ H' => Q .non H', Q, fun _ _ => False, fun _ _ => False⟩ [some v0, some v1, some v2, none] H := by
  obtain ⟨N, ws, hs, hd, ok, hw, hz, hok, hh, q0, q1, q2⟩ := h
  unfold t_clash
  wtm_at "s"
  refine ⟨_, _, rfl, N, ws, hd, ok, hw, by omega, hok, ?_⟩
  obtain ⟨b, xs, rfl, hb, hxs⟩ := dp_list hw
  wtm_at "s"
  refine lc_lainG (N := N) [] (fun _ z => by cases z) hb hxs hz (fun c w H' R hw' sm hc' hR => ?_) (fun _ => rfl) (fun D lain H1 nD s1 dD la => ?_)
  · wtm_at "s"
    exact ⟨_, _, rfl, N, w.1, w.2, dp_same sm hd, dp_of_pair hc', ok, hok w hw', fun p ns H'' np s' hp ti => hR p ns H'' np s' hp ti.srt ti.mem⟩
  wtm_at "s"
  refine ⟨_, _, rfl, lain, hs, meetW N ws, dp_same (hid_same _ _) dD, dp_same s1 hh, by rw [la.1]; omega, fun l hl => by have := la.small ok hok l hl; omega, fun i j hi hj => la.meet hi hj, ?_⟩
  rw [la.1]
  exact ⟨fun z p H' np sm e => q0 z p H' (s1.free np) (s1.trans sm) e, fun z1 z2 H' sm => q1 z1 z2 H' (s1.trans sm), fun i j z1 z2 p H' np sm e => q2 i j z1 z2 p H' (s1.free np) (s1.trans sm) e⟩
abbrev sp_clash (K : PySem.W.Frag) : Sp := fun vs H Q E => ∃ v0 v1 v2, vs = [v0, v1, v2] ∧ pr_clash K v0 v1 v2 H Q E
theorem ok_clash (T : Txt K mg A) : FnOk P w K mg base CX0 5 A.a_clash A.d_clash ["net", "ways", "hues"] (sp_clash K) := by
  refine T.F_clash.ok sc_clash (fun vs H Q E h => by obtain ⟨v0, v1, v2, rfl, _⟩ := h; rfl) (fun cdv A0 outer s H vs Q E hr h => ?_)
  obtain ⟨v0, v1, v2, rfl, h⟩ := h
  exact ⟨t_clash K, (pss_cons (ps_expr (pe_call (ok_look_ways T) (hr.mono (by decide)) (by rfl) T.g_look_ways T.F_look_ways.kp T.b_look_ways .nil pass0 (pa_cons (pv 0) (pa_cons (pv 1) pa_nil))))
      (pss_one (ps_ret (pe_call (ok_first_clash T) (hr.mono (by decide)) (by rfl) T.g_first_clash T.F_first_clash.kp T.b_first_clash .nil pass0 (pa_cons (pe_lc (own := [("way", 3)]) (by rfl) sc_clash.nd (pi_list (pv 1)) (blkOk_by (own := [("way", 3)]) (N := ["net", "ways", "hues", "way"]) (sc := defScope s_clash) (by decide +kernel)) (fun _ _ _ _ _ => (pg_name (i := 3) sc_clash.nd rfl (Or.inl rfl))) (fun _ _ _ _ _ => pts_nil) (fun _ _ _ _ _ => (pe_call (ok_ties_on T) (hr.mono (by decide)) (by rfl) T.g_ties_on T.F_ties_on.kp T.b_ties_on .nil pass0 (pa_cons (pv 0) (pa_cons (pv 3) pa_nil))))) (pa_cons (pv 2) pa_nil)))))), pure_clash h⟩


/-- the signs of a row: a word, numbers -/
def rowL (w : List Nat) (ns : List Int) : List Nat := w ++ (ns.map fun n => 32 :: nu n).flatten
theorem num_small {n : Int} (h : Num30 n) : n.natAbs < 2 ^ 1900 ∧ (nu n).length ≤ 30 := by
  have h1 := h.1
  have h2 := h.2
  have h3 : (10 : Int) ^ 30 ≤ 2 ^ 200 := by decide +kernel
  have h4 : (2 : Nat) ^ 200 ≤ 2 ^ 1900 := Nat.pow_le_pow_right (by decide) (by decide)
  have h5 : ((2 ^ 200 : Nat) : Int) = 2 ^ 200 := by rw [Int.natCast_pow]; rfl
  have h6 : (n.natAbs : Int) = n := Int.natAbs_of_nonneg h1
  refine ⟨Nat.lt_of_lt_of_le ?_ h4, nu_len h1 (by decide) h2⟩
  have : (n.natAbs : Int) < ((2 ^ 200 : Nat) : Int) := by rw [h5, h6]; omega
  exact Int.ofNat_lt.mp this
theorem rowL_len {w : List Nat} {ns : List Int} (h : ∀ n ∈ ns, Num30 n) : (rowL w ns).length ≤ w.length + ns.length * 31 := by
  unfold rowL
  rw [List.length_append]
  have := flat_le (l := ns.map fun n => 32 :: nu n) (b := 31) fun x hx => by
    obtain ⟨n, hn, rfl⟩ := List.mem_map.mp hx
    have := (num_small (h n hn)).2
    rw [List.length_cons]; omega
  rw [List.length_map] at this
  omega
theorem sg_blank : sg (Str.ofString " ") = [32] := by rw [sg_str]; rfl
def Net.nums : Net → List Int
  | .line n => [n]
  | .ring n => [n]
  | .tree ps => ps
def wayL (w : Int × Int) : List Nat := rowL (sg (Str.ofString "way")) [w.1, w.2]
def rowsL (N : Net) (ws : List (Int × Int)) : List (List Nat) := rowL (sg N.kind) N.nums :: ws.map wayL
theorem num60 {n : Int} (h0 : 0 ≤ n) (h1 : n ≤ 100) : Num30 n := ⟨h0, Int.lt_of_le_of_lt h1 (by decide +kernel)⟩
theorem nums_ok {N : Net} (h : N.ok) : (∀ n ∈ N.nums, Num30 n) ∧ N.nums.length ≤ 60 := by
  cases N with
  | line n => exact ⟨fun m hm => by rw [List.mem_singleton.mp hm]; exact num60 (by have := h.1; omega) (by have := h.2; omega), by show 1 ≤ 60; decide⟩
  | ring n => exact ⟨fun m hm => by rw [List.mem_singleton.mp hm]; exact num60 (by have := h.1; omega) (by have := h.2; omega), by show 1 ≤ 60; decide⟩
  | tree ps =>
    refine ⟨fun m hm => ?_, by show ps.length ≤ 60; have := h.2.1; omega⟩
    obtain ⟨i, hi, e⟩ := List.getElem_of_mem hm
    have hi' : i < ps.length := hi
    have := h.2.2 i hi'
    rw [getD_of (List.getElem?_eq_getElem hi')] at this
    have e' : ps[i] = m := e
    have := h.2.1
    exact num60 (by omega) (by omega)
theorem way_num {N : Net} (ok : N.ok) {w : Int × Int} (h : isWay N w.1 w.2) : ∀ n ∈ [w.1, w.2], Num30 n := fun n hn => by
  obtain ⟨h1, h2, h3, h4, h5⟩ := h
  have := ok_places ok
  simp only [List.mem_cons, List.not_mem_nil, or_false] at hn
  rcases hn with rfl | rfl
  · exact num60 h2 (by omega)
  · exact num60 h3 (by omega)
theorem kind_len (N : Net) : (sg N.kind).length = 4 := by
  cases N <;> (show (sg (Str.ofString _)).length = 4; rw [sg_str]; rfl)
theorem way_len3 : (sg (Str.ofString "way")).length = 3 := by rw [sg_str]; rfl
/-- the signs of a net's text -/
def netL (N : Net) (ws : List (Int × Int)) (ho : Option (List Int)) : List Nat := ((rowsL N ws ++ ho.toList.map (rowL (sg (Str.ofString "hues")))).map fun r => r ++ [10]).flatten
def dHues : Option (List Int) → PyData
  | none => .none
  | some hs => dInts hs
def RightH (N : Net) (ws : List (Int × Int)) (hs : List Int) : Prop := hs.length = ws.length ∧ (∀ i j, ¬ BadM (meetW N ws) ws.length hs i j) ∧ ∀ h ∈ hs, Num30 h
theorem hues_len4 : (sg (Str.ofString "hues")).length = 4 := by rw [sg_str]; rfl
theorem sg_nl : sg (Str.ofString "\n") = [10] := by rw [sg_str]; rfl
theorem sg_none : sg (Str.ofString "") = [] := by rw [sg_str]; rfl
theorem rows_len {N : Net} {ws : List (Int × Int)} (ok : N.ok) (hok : ∀ w ∈ ws, isWay N w.1 w.2) : ∀ r ∈ rowsL N ws, r.length ≤ 4000 := fun r hr => by
  obtain ⟨nm, nl⟩ := nums_ok ok
  rcases List.mem_cons.mp hr with rfl | hr
  · have := rowL_len (w := sg N.kind) nm
    rw [kind_len] at this
    omega
  · obtain ⟨w, hw, rfl⟩ := List.mem_map.mp hr
    have := rowL_len (w := sg (Str.ofString "way")) (way_num ok (hok w hw))
    rw [way_len3] at this
    unfold wayL
    simp only [List.length_cons, List.length_nil] at this
    omega


/-! ### numbers from words -/
def isDig (c : Nat) : Bool := decide (c ∈ [48, 49, 50, 51, 52, 53, 54, 55, 56, 57])
def valL (l : List Nat) : Int := l.foldl (fun (t : Int) (c : Nat) => t * 10 + ((c : Int) - 48)) 0
def numOf (l : List Nat) : Option Int := if l = [] ∨ 30 < l.length ∨ (l.head? = some 48 ∧ l ≠ [48]) then none else if l.all isDig = true then some (valL l) else none
def optV : Option Int → V
  | none => .non
  | some n => .int n
theorem sg_fig : sg (Str.ofString "0123456789") = [48, 49, 50, 51, 52, 53, 54, 55, 56, 57] := by rw [sg_str]; rfl
theorem sg_zero : sg (Str.ofString "0") = [48] := by rw [sg_str]; rfl
theorem sg_emp : sg (Str.ofString "") = [] := by rw [sg_str]; rfl
theorem mk_eq {l : List Nat} {s : Str} : mkS l = s ↔ l = sg s := ⟨fun h => by rw [← h, sg_mkS], fun h => by rw [h, mkS_sg]⟩
theorem find_fig {c : Nat} (h : c ∈ [48, 49, 50, 51, 52, 53, 54, 55, 56, 57]) : Txt.find (Str.ofString "0123456789") ⟨#[c]⟩ = (c : Int) - 48 := by
  simp only [List.mem_cons, List.not_mem_nil, or_false] at h
  rcases h with rfl | rfl | rfl | rfl | rfl | rfl | rfl | rfl | rfl | rfl <;> decide +kernel
theorem forS {K : PySem.W.Frag} {σ : L2.St} {H : Hp} {nx : L2.St → Hp → Prop} {rt : VK} {l : List Nat} {g : TG} {tb : TS} (Pv : Nat → L2.St → Hp → Prop) (h0 : Pv 0 σ H)
    (hs : ∀ (i : Nat) c σ H, l[i]? = some c → Pv i σ H → g (.str ⟨#[c]⟩) σ H fun σ2 H2 => tb ⟨Pv (i + 1), rt, nx, Pv (i + 1)⟩ σ2 H2) (hd : ∀ σ H, Pv l.length σ H → nx σ H) :
    ∃ x, V.str (mkS l) = .str x ∧ ∃ W : Nat → Nat → L2.St → Hp → Prop, (∃ m, W 0 m σ H) ∧ ∀ i m σ H, W i m σ H →
      ((Its x).stop i H ∧ nx σ H) ∨ ((Its x).go i H ∧ ∃ N : L2.St → Hp → Prop, (∀ σ' H', N σ' H' → ∃ m', m' < m ∧ W (i + 1) m' σ' H') ∧ ∀ x' H', (Its x).yld i H x' H' → g x' σ H' fun σ2 H2 => tb ⟨N, rt, nx, N⟩ σ2 H2) := by
  have e : (mkS l).cps.size = l.length := by simp [mkS]
  refine ⟨mkS l, rfl, for_it (D := ⟨nx, rt, fun _ _ => False, fun _ _ => False⟩) (walk_str (z := mkS l)) Pv h0 (fun _ _ _ _ _ => trivial) (fun i x σ H H' hi p y => ?_) (fun σ H p => hd σ H (e ▸ p))⟩
  obtain ⟨rfl, c, hc, rfl⟩ := y
  exact hs i c σ _ (by simpa [mkS] using hc) p
def pr_number_of (K : PySem.W.Frag) (v0 : V) (H : Hp) (Q : VK) (_ : XK) : Prop := ∃ l : List Nat, v0 = .str (mkS l) ∧ l.length ≤ 90000 ∧ Q (optV (numOf l)) H
def t_number_of (K : PySem.W.Frag) : TS :=
  (tSeq (tIfS (tOr (tTest (tOp rEq (tVar 0) (tC (.str (Str.ofString ""))))) (tOr (tTest (tOp xGt (tCB rLenStr (tCons (tVar 0) tNil)) (tC (.int 30)))) (tAnd (tTest (tOp rEq (tOp rIxS (tVar 0) (tC (.int 0))) (tC (.str (Str.ofString "0"))))) (tTest (tOp rNe (tVar 0) (tC (.str (Str.ofString "0")))))))) (tRet (tC .non)) tNext)
    (tSeq (tAsg (tC (.int 0)) (gName 1))
    (tSeq (tFor (iStr (tVar 0)) (gName 2)
      (tSeq (tIfS (tTest (tOp xNotInS (tVar 2) (tC (.str (Str.ofString "0123456789"))))) (tRet (tC .non)) tNext)
    (tAsg (tOp xAdd (tOp xMul (tC (.int 10)) (tVar 1)) (tM1 rFind (tC (.str (Str.ofString "0123456789"))) (tVar 2))) (gName 1))))
    (tRet (tVar 1)))))
theorem all_take {l : List Nat} {i : Nat} {c : Nat} (h : l[i]? = some c) : (l.take (i + 1)).all isDig = ((l.take i).all isDig && isDig c) := by
  rw [List.take_add_one, h, List.all_append]
  simp
theorem val_take {l : List Nat} {i : Nat} {c : Nat} (h : l[i]? = some c) : valL (l.take (i + 1)) = valL (l.take i) * 10 + ((c : Int) - 48) := by
  unfold valL
  rw [List.take_add_one, h, List.foldl_append]
  rfl
theorem pure_number_of {v0 : V} {H : Hp} {Q : VK} {E : XK} (h : pr_number_of K v0 H Q E) : t_number_of K ⟨fun _ H' => Q .non H', Q, fun _ _ => False, fun _ _ => False⟩ [some v0, none, none] H := by
  obtain ⟨l, rfl, hl, q⟩ := h
  unfold t_number_of
  wtm_at "s"
  refine k_eqS ?_
  have bad : (l = [] ∨ 30 < l.length ∨ (l.head? = some 48 ∧ l ≠ [48])) → Q .non H := fun z => by
    unfold numOf at q
    rw [if_pos z] at q
    exact q
  by_cases c0 : l = []
  · rw [decide_eq_true (mk_eq.mpr (by rw [c0, sg_emp]))]
    wtm_at "s"
    exact bad (.inl c0)
  rw [decide_eq_false fun z => c0 (by have := mk_eq.mp z; rwa [sg_emp] at this)]
  obtain ⟨c, hc⟩ : ∃ c, l[0]? = some c := ⟨l[0]'(List.length_pos_iff.mpr c0), List.getElem?_eq_getElem _⟩
  wtm_at "s"
  refine k_lenS (by omega) ?_
  wtm_at "s"
  refine k_it (fun c1 => ?_) (fun c1 => ?_)
  · wtm_at "s"
    exact bad (.inr (.inl (by omega)))
  wtm_at "s"
  refine k_ixS (i := 0) (by omega) hc ?_
  wtm_at "s"
  refine k_eqS ?_
  have hd0 : l.head? = some c := by rw [List.head?_eq_getElem?]; exact hc
  have go : ¬ (l = [] ∨ 30 < l.length ∨ (l.head? = some 48 ∧ l ≠ [48])) → tSeq (tAsg (tC (.int 0)) (gName 1))
    (tSeq (tFor (iStr (tVar 0)) (gName 2)
      (tSeq (tIfS (tTest (tOp xNotInS (tVar 2) (tC (.str (Str.ofString "0123456789"))))) (tRet (tC .non)) tNext)
    (tAsg (tOp xAdd (tOp xMul (tC (.int 10)) (tVar 1)) (tM1 rFind (tC (.str (Str.ofString "0123456789"))) (tVar 2))) (gName 1))))
    (tRet (tVar 1))) ⟨fun _ H' => Q .non H', Q, fun _ _ => False, fun _ _ => False⟩ [some (.str (mkS l)), none, none] H := fun nb => by
    unfold numOf at q
    rw [if_neg nb] at q
    wtm_at "s"
    refine forS (K := K) (fun i σ' H' => H' = H ∧ (∃ k2, σ' = [some (.str (mkS l)), some (.int (valL (l.take i))), k2]) ∧ (l.take i).all isDig = true) ⟨rfl, ⟨none, rfl⟩, by simp⟩ ?_ ?_
    · rintro i c' σ' H' hc' ⟨rfl, ⟨k2, rfl⟩, al⟩
      have hi := (List.getElem?_eq_some_iff.mp hc').1
      wtm_at "s"
      rw [← mkS_sg (Str.ofString "0123456789"), sg_fig]
      refine k_notInS ?_
      wtm_at "s"
      refine k_itn (fun w => ?_) (fun w => ?_)
      · wtm_at "s"
        have nall : l.all isDig = false := by
          cases hb : l.all isDig with
          | false => rfl
          | true => exact absurd (of_decide_eq_true (List.all_eq_true.mp hb c' (List.mem_of_getElem? hc'))) w
        rw [nall] at q
        exact q
      · wtm_at "s"
        refine ⟨_, _, rfl, rfl, ?_⟩
        rw [← sg_fig, mkS_sg, find_fig w]
        wtm_at "s"
        refine ⟨rfl, ⟨some (.str ⟨#[c']⟩), ?_⟩, by rw [all_take hc', al]; exact decide_eq_true w⟩
        rw [val_take hc', Int.mul_comm]
    · rintro σ' H' ⟨rfl, ⟨k2, rfl⟩, al⟩
      rw [List.take_length] at al ⊢
      wtm_at "s"
      rw [if_pos al] at q
      exact q
  by_cases c2 : c = 48
  · subst c2
    rw [decide_eq_true (show (⟨#[48]⟩ : Str) = Str.ofString "0" from (mk_eq (l := [48])).mpr (by rw [sg_zero]))]
    wtm_at "s"
    refine k_neS ?_
    by_cases c3 : l = [48]
    · rw [decide_eq_true (mk_eq.mpr (by rw [c3, sg_zero]))]
      refine ⟨_, rfl, ?_⟩
      have := go (fun z => by
        rcases z with z | z | ⟨_, z⟩
        · exact c0 z
        · omega
        · exact z c3)
      exact this
    · rw [decide_eq_false fun z => c3 (by have := mk_eq.mp z; rwa [sg_zero] at this)]
      wtm_at "s"
      exact bad (.inr (.inr ⟨hd0, c3⟩))
  · rw [decide_eq_false fun z => c2 (by have := (mk_eq (l := [c])).mp z; rw [sg_zero] at this; cases this; rfl)]
    refine ⟨_, rfl, ?_⟩
    have := go (fun z => by
      rcases z with z | z | ⟨z, _⟩
      · exact c0 z
      · omega
      · rw [hd0] at z; exact c2 (Option.some.inj z))
    exact this
abbrev sp_number_of (K : PySem.W.Frag) : Sp := fun vs H Q E => ∃ v0, vs = [v0] ∧ pr_number_of K v0 H Q E
theorem ok_number_of (T : Txt K mg A) : FnOk P w K mg base CX0 1 A.a_number_of A.d_number_of ["word"] (sp_number_of K) := by
  refine T.F_number_of.ok sc_number_of (fun vs H Q E h => by obtain ⟨v0, rfl, _⟩ := h; rfl) (fun cdv A0 outer s H vs Q E hr h => ?_)
  obtain ⟨v0, rfl, h⟩ := h
  exact ⟨t_number_of K, (pss_cons (ps_if (PW.pt (pw_or (pt_cmpR op_eq (pv 0) pe_str (nomark _)) (pw_or (pt_cmpR op_gt (pe_callB q_lenS (by rfl) T.z_len (by decide +kernel) (pa_cons (pv 0) pa_nil)) (pe_glob (v := .int 30) (by rfl) T.c_MOST_FIGURES ⟨_, rfl⟩) (nomark _)) (pw_or1 (PW.pt (pw_and (pt_cmpR op_eq (pe_ix ix_str (pv 0) pe_int (fun _ _ => rfl)) pe_str (nomark _)) (pw_and1 (pt_cmpR op_ne (pv 0) pe_str (nomark _))))))))) (pss_one (ps_ret pe_non)) pss_nil)
      (pss_cons (ps_set (i := 1) sc_number_of.nd rfl (Or.inl rfl) pe_int)
      (pss_cons (ps_for PassesOwn.never rfl (pi_str (pv 0)) (pg_name (i := 2) sc_number_of.nd rfl (Or.inl rfl))
      (pss_cons (ps_if (pt_cmpR op_notin_str (pv 2) (pe_glob (v := .str (Str.ofString "0123456789")) (by rfl) T.c_FIGURES ⟨_, rfl⟩) (by rfl)) (pss_one (ps_ret pe_non)) pss_nil)
      (pss_one (ps_set (i := 1) sc_number_of.nd rfl (Or.inl rfl) (pe_op op_add (pe_op op_mul pe_int (pv 1)) (pe_m1 PySem.F.slot_str_find PySem.F.type_str_find mt_find (pe_glob (v := .str (Str.ofString "0123456789")) (by rfl) T.c_FIGURES ⟨_, rfl⟩) (pv 2)))))))
      (pss_one (ps_ret (pv 1)))))), pure_number_of h⟩
theorem numL_head : ∀ n : Nat, n ≠ 0 → (TL.numL n).head? ≠ some 48 := by
  intro n
  induction n using Nat.strongRecOn with
  | ind n ih =>
    intro h0
    by_cases c : n < 10
    · rw [TL.numL_lt c]; simp; omega
    · rw [TL.numL_step (by omega)]
      have ne := TL.numL_ne (n / 10)
      rw [List.head?_append]
      cases hx : (TL.numL (n / 10)).head? with
      | none => exact absurd (List.head?_eq_none_iff.mp hx) ne
      | some x =>
        have := ih (n / 10) (by omega) (by omega)
        rw [hx] at this
        simpa using this
theorem num_back {n : Int} (h : Num30 n) : numOf (nu n) = some n := by
  obtain ⟨h0, h1⟩ := h
  have hl := nu_len h0 (k := 30) (by decide) h1
  obtain ⟨m, rfl⟩ := Int.eq_ofNat_of_zero_le h0
  rw [nu_nat] at hl ⊢
  unfold numOf
  rw [if_neg, if_pos]
  · unfold valL; rw [TL.fold_num]
  · rw [List.all_eq_true]
    intro c hc
    have := TL.numL_digits m c hc
    refine decide_eq_true ?_
    simp only [List.mem_cons, List.not_mem_nil, or_false]
    omega
  · rintro (z | z | ⟨z1, z2⟩)
    · exact TL.numL_ne m z
    · omega
    · by_cases c : m = 0
      · subst c; exact z2 (by rw [TL.numL_lt (by decide)])
      · exact numL_head m c z1
def numsOf : List (List Nat) → Option (List Int)
  | [] => some []
  | l :: r => match numOf l, numsOf r with
    | some n, some ns => some (n :: ns)
    | _, _ => none
theorem numsOf_some : ∀ {ls : List (List Nat)} {ns : List Int}, numsOf ls = some ns → ls.map (fun l => optV (numOf l)) = ns.map V.int
  | [], ns, h => by cases h; rfl
  | l :: r, ns, h => by
    unfold numsOf at h
    cases h1 : numOf l with
    | none => rw [h1] at h; cases h
    | some n =>
      cases h2 : numsOf r with
      | none => rw [h1, h2] at h; cases h
      | some ms =>
        rw [h1, h2] at h
        cases h
        rw [List.map_cons, List.map_cons, numsOf_some h2, h1]; rfl
theorem numsOf_none : ∀ {ls : List (List Nat)}, numsOf ls = none → ∃ l ∈ ls, numOf l = none
  | [], h => by cases h
  | l :: r, h => by
    unfold numsOf at h
    cases h1 : numOf l with
    | none => exact ⟨l, List.mem_cons_self, h1⟩
    | some n =>
      cases h2 : numsOf r with
      | none =>
        obtain ⟨x, hx, e⟩ := numsOf_none h2
        exact ⟨x, List.mem_cons_of_mem _ hx, e⟩
      | some ms => rw [h1, h2] at h; cases h
theorem nums_back : ∀ {ns : List Int}, (∀ n ∈ ns, Num30 n) → numsOf (ns.map nu) = some ns
  | [], _ => rfl
  | n :: r, h => by
    show (match numOf (nu n), numsOf (r.map nu) with | some n, some ns => some (n :: ns) | _, _ => none) = _
    rw [num_back (h n List.mem_cons_self), nums_back fun m hm => h m (List.mem_cons_of_mem _ hm)]
theorem flat_opt (ls : List (List Nat)) : (ls.map fun l => optV (numOf l)).all flatV = true := by
  rw [List.all_eq_true]
  intro v hv
  obtain ⟨l, _, rfl⟩ := List.mem_map.mp hv
  cases numOf l <;> rfl
theorem in_opt (ls : List (List Nat)) : inV .non (ls.map fun l => optV (numOf l)) = decide (numsOf ls = none) := by
  induction ls with
  | nil => rfl
  | cons l r ih =>
    show (eqV (optV (numOf l)) .non || inV .non (r.map fun l => optV (numOf l))) = _
    rw [ih]
    cases h1 : numOf l with
    | none =>
      have : numsOf (l :: r) = none := by unfold numsOf; rw [h1]
      rw [decide_eq_true this]; rfl
    | some n =>
      cases h2 : numsOf r with
      | none =>
        have : numsOf (l :: r) = none := by unfold numsOf; rw [h1, h2]
        rw [decide_eq_true this]; rfl
      | some ms =>
        have : ¬ numsOf (l :: r) = none := by unfold numsOf; rw [h1, h2]; exact fun z => nomatch z
        rw [decide_eq_false this]; rfl
def strsV (ls : List (List Nat)) : List V := ls.map fun l => V.str (mkS l)
def pr_numbers_of (K : PySem.W.Frag) (v0 : V) (H : Hp) (Q : VK) (_ : XK) : Prop := ∃ (a : Addr) (ls : List (List Nat)), v0 = .ref a ∧ SqL K H a (strsV ls) ∧ ls.length ≤ 10000 ∧ (∀ l ∈ ls, l.length ≤ 90000) ∧ (numsOf ls = none → ∀ H', Same H H' → Q .non H') ∧
  (∀ ns, numsOf ls = some ns → ∀ p H', H p = none → Same H H' → H' p = some (.lst (List.map V.int ns)) → Q (.ref p) H')
def t_numbers_of (K : PySem.W.Frag) : TS :=
  (tSeq (tAsg (tLc (iList K (tVar 0)) (gName 2) tYes (tCall (sp_number_of K) [] E0 (tCons (tVar 2) tNil)) [2]) (gName 1))
    (tSeq (tIfS (tTest (tOp (rIn K false) (tC .non) (tVar 1))) (tRet (tC .non)) tNext)
    (tRet (tVar 1))))
theorem pure_numbers_of {v0 : V} {H : Hp} {Q : VK} {E : XK} (h : pr_numbers_of K v0 H Q E) : t_numbers_of K ⟨fun _ H' => Q .non H', Q, fun _ _ => False, fun _ _ => False⟩ [some v0, none, none] H := by
  obtain ⟨a, ls, rfl, ha, hz, hl, q0, q1⟩ := h
  unfold t_numbers_of
  wtm_at "s"
  refine lc_pure ha ls (by simp [strsV]) (by omega) (fun l => some (optV (numOf l))) ?_ (fun D H1 nD s1 eD => ?_)
  · intro k z l H' hz hp sm R R0 h1 h2
    unfold strsV at hz
    rw [List.getElem?_map, hp] at hz
    cases hz
    wtm_at "s"
    exact ⟨_, rfl, l, rfl, hl l (List.mem_of_getElem? hp), h1 _ rfl⟩
  · rw [fm_map] at eD
    wtm_at "s"
    refine ⟨D, _, rfl, .inl (sl eD), rfl, flat_opt ls, ?_⟩
    rw [if_neg Bool.false_ne_true, in_opt]
    wtm_at "s"
    refine k_it (fun c => ?_) (fun c => ?_)
    · wtm_at "s"
      exact q0 c H1 s1
    · wtm_at "s"
      cases hn : numsOf ls with
      | none => exact absurd hn c
      | some ns => exact q1 ns hn D H1 nD s1 (by rw [eD, numsOf_some hn])
abbrev sp_numbers_of (K : PySem.W.Frag) : Sp := fun vs H Q E => ∃ v0, vs = [v0] ∧ pr_numbers_of K v0 H Q E
theorem ok_numbers_of (T : Txt K mg A) : FnOk P w K mg base CX0 2 A.a_numbers_of A.d_numbers_of ["words"] (sp_numbers_of K) := by
  refine T.F_numbers_of.ok sc_numbers_of (fun vs H Q E h => by obtain ⟨v0, rfl, _⟩ := h; rfl) (fun cdv A0 outer s H vs Q E hr h => ?_)
  obtain ⟨v0, rfl, h⟩ := h
  exact ⟨t_numbers_of K, (pss_cons (ps_setLc (i := 1) (own := [("word", 2)]) (by rfl) sc_numbers_of.nd rfl rfl (sw_true rfl rfl rfl (by decide +kernel)) (pi_list (pv 0)) (blkOk_by (own := [("word", 2)]) (N := ["words", "numbers", "word"]) (sc := defScope s_numbers_of) (by decide +kernel)) (fun _ _ _ _ _ => (pg_name (i := 2) sc_numbers_of.nd rfl (Or.inl rfl))) (fun _ _ _ _ _ => pts_nil) (fun _ _ _ _ _ => (pe_call (ok_number_of T) (hr.mono (by decide)) (by rfl) T.g_number_of T.F_number_of.kp T.b_number_of .nil pass0 (pa_cons (pv 2) pa_nil))))
      (pss_cons (ps_if (pt_cmpR op_in_seq pe_non (pv 1) (by rfl)) (pss_one (ps_ret pe_non)) pss_nil)
      (pss_one (ps_ret (pv 1))))), pure_numbers_of h⟩


/-- a net that was just made -/
def NetNew (H H' : Hp) (v : V) : Net → Prop
  | .line n => ∃ p, v = .ref p ∧ H' p = some (.tup [.str (Str.ofString "line"), .int n])
  | .ring n => ∃ p, v = .ref p ∧ H' p = some (.tup [.str (Str.ofString "ring"), .int n])
  | .tree ps => ∃ p s, v = .ref p ∧ H' p = some (.tup [.str (Str.ofString "tree"), .ref s]) ∧ H s = none ∧ H' s = some (.lst (List.map V.int ps))
theorem NetNew.dp {K : PySem.W.Frag} {H H' : Hp} {v : V} {N : Net} (h : NetNew H H' v N) : Dp K H' v N.d := by
  cases N with
  | line n => obtain ⟨p, rfl, e⟩ := h; exact .tup (stp e) (.cons (.str _) (.cons (.int _) .nil))
  | ring n => obtain ⟨p, rfl, e⟩ := h; exact .tup (stp e) (.cons (.str _) (.cons (.int _) .nil))
  | tree ps => obtain ⟨p, s, rfl, e, _, e2⟩ := h; exact .tup (stp e) (.cons (.str _) (.cons (dp_of_ints (sl e2)) .nil))
theorem NetNew.same {H H1 H2 : Hp} {v : V} {N : Net} (h : NetNew H H1 v N) (s : Same H1 H2) : NetNew H H2 v N := by
  cases N with
  | line n => obtain ⟨p, rfl, e⟩ := h; exact ⟨p, rfl, s _ _ e⟩
  | ring n => obtain ⟨p, rfl, e⟩ := h; exact ⟨p, rfl, s _ _ e⟩
  | tree ps => obtain ⟨p, q, rfl, e, n, e2⟩ := h; exact ⟨p, q, rfl, s _ _ e, n, s _ _ e2⟩
theorem NetNew.old {H0 H H' : Hp} {v : V} {N : Net} (h : NetNew H H' v N) (s : Same H0 H) : NetNew H0 H' v N := by
  cases N with
  | line n => exact h
  | ring n => exact h
  | tree ps => obtain ⟨p, q, rfl, e, n, e2⟩ := h; exact ⟨p, q, rfl, e, s.free n, e2⟩
def pr_net_of (K : PySem.W.Frag) (v0 : V) (H : Hp) (Q : VK) (_ : XK) : Prop := ∃ (a : Addr) (N : Net), v0 = .ref a ∧ SqL K H a (strsV (sg N.kind :: N.nums.map nu)) ∧ N.ok ∧ ∀ v H', Same H H' → NetNew H H' v N → Q v H'
def t_net_of (K : PySem.W.Frag) : TS :=
  (tSeq (tAsg (tCall (sp_numbers_of K) [] E0 (tCons (tSl (rSlL K) (tVar 0) (tPart (tC (.int 1))) tNoPart) tNil)) (gName 1))
    (tSeq (tIfS (tOr (tTest (tOp xIsN (tVar 1) (tC .non))) (tTest (tOp (rEqD K) (tVar 1) (tLst tNil)))) (tRet (tC .non)) tNext)
    (tSeq (tAsg (tTup (tCons (tC (.str (Str.ofString "tree"))) (tCons (tVar 1) tNil))) (gName 2))
    (tSeq (tIfS (tTest (tOp rNe (tOp (rIxL K) (tVar 0) (tC (.int 0))) (tC (.str (Str.ofString "tree"))))) (tSeq (tAsg (tTup (tCons (tOp (rIxL K) (tVar 0) (tC (.int 0))) (tCons (tOp (rIxL K) (tVar 1) (tC (.int 0))) tNil))) (gName 2))
    (tIfS (tTest (tOp xGt (tCB (rLen K) (tCons (tVar 1) tNil)) (tC (.int 1)))) (tRet (tC .non)) tNext)) tNext)
    (tSeq (tDrop (tCall (sp_look_net K) [] E0 (tCons (tVar 2) tNil)))
    (tRet (tVar 2)))))))
theorem nums_len30 {ns : List Int} (h : ∀ n ∈ ns, Num30 n) : ∀ l ∈ ns.map nu, l.length ≤ 90000 := fun l hl => by
  obtain ⟨n, hn, rfl⟩ := List.mem_map.mp hl
  have := (num_small (h n hn)).2
  omega
theorem strs_drop (w : List Nat) (ls : List (List Nat)) : cutV (strsV (w :: ls)) (some 1) none = strsV ls := by
  rw [show (1 : Int) = ((1 : Nat) : Int) from rfl, cut_from]; rfl
theorem strs_at0 (w : List Nat) (ls : List (List Nat)) : atI (strsV (w :: ls)) 0 = some (V.str (mkS w)) := atI_nat (j := 0) rfl
theorem eqv_ne {n : Int} {ns : List Int} : PyData.eqv (dInts (n :: ns)) (.list []) = false := rfl
theorem pure_net_of {v0 : V} {H : Hp} {Q : VK} {E : XK} (h : pr_net_of K v0 H Q E) : t_net_of K ⟨fun _ H' => Q .non H', Q, fun _ _ => False, fun _ _ => False⟩ [some v0, none, none] H := by
  obtain ⟨a, N, rfl, ha, ok, q⟩ := h
  obtain ⟨nm, nl⟩ := nums_ok ok
  unfold t_net_of
  wtm_at "s"
  refine k_slL ha (fun w1 H1 nw1 s1 e1 => ?_)
  rw [strs_drop] at e1
  wtm_at "s"
  refine ⟨_, rfl, w1, N.nums.map nu, rfl, sl e1, by simp; omega, nums_len30 nm, fun z => ?_, fun ns hn sz H2 nsz s2 esz => ?_⟩
  · rw [nums_back nm] at z; cases z
  rw [nums_back nm] at hn
  cases hn
  wtm_at "s"
  refine kL (by simp) (fun em H3 nem s3 eem => ?_)
  have nz : ∃ n r, N.nums = n :: r := by
    cases N with
    | line n => exact ⟨n, [], rfl⟩
    | ring n => exact ⟨n, [], rfl⟩
    | tree ps =>
      cases ps with
      | nil => have := ok.1; simp at this
      | cons n r => exact ⟨n, r, rfl⟩
  obtain ⟨n0, r0, hn0⟩ := nz
  refine k_eqD (n := 4) (c := dInts N.nums) (d := .list []) (dpI_at esz s3) (.lst (sl eem) .nil) (sh_ints _) (sh_list fun d hd => by cases hd) (by decide) ?_
  rw [hn0, eqv_ne]
  wtm_at "s"
  refine kT (by simp) (fun t H4 nt s4 et => ?_)
  wtm_at "s"
  refine k_ixL (by wtm_at "sq") (strs_at0 _ _) ?_
  rw [mkS_sg]
  wtm_at "s"
  refine k_neS ?_
  have ez : H4 sz = some (.lst (List.map V.int N.nums)) := at_same esz (s3.trans s4)
  have sH : Same H H4 := by wtm_at "sm"
  have nz0 : H sz = none := s1.free nsz
  clear e1 esz eem
  cases N with
  | line n =>
    rw [show Net.kind (.line n) = Str.ofString "line" from rfl, s_lt]
    wtm_at "s"
    refine k_ixL (sH.seq ha) (strs_at0 _ _) ?_
    rw [mkS_sg]
    wtm_at "s"
    refine k_ixL (sl ez) (v := .int n) (atI_nat (j := 0) rfl) ?_
    wtm_at "s"
    refine kT (by simp) (fun t2 H5 nt2 s5 et2 => ?_)
    wtm_at "s"
    refine k_itDF (by show ¬ (1 : Int) < ((1 : Nat) : Int); decide) ?_
    wtm_at "s"
    refine ⟨_, rfl, .line n, .tup (stp et2) (.cons (.str _) (.cons (.int _) .nil)), ok, ?_⟩
    wtm_at "s"
    exact q _ H5 (sH.trans s5) ⟨t2, rfl, et2⟩
  | ring n =>
    rw [show Net.kind (.ring n) = Str.ofString "ring" from rfl, s_rt]
    wtm_at "s"
    refine k_ixL (sH.seq ha) (strs_at0 _ _) ?_
    rw [mkS_sg]
    wtm_at "s"
    refine k_ixL (sl ez) (v := .int n) (atI_nat (j := 0) rfl) ?_
    wtm_at "s"
    refine kT (by simp) (fun t2 H5 nt2 s5 et2 => ?_)
    wtm_at "s"
    refine k_itDF (by show ¬ (1 : Int) < ((1 : Nat) : Int); decide) ?_
    wtm_at "s"
    refine ⟨_, rfl, .ring n, .tup (stp et2) (.cons (.str _) (.cons (.int _) .nil)), ok, ?_⟩
    wtm_at "s"
    exact q _ H5 (sH.trans s5) ⟨t2, rfl, et2⟩
  | tree ps =>
    rw [show Net.kind (.tree ps) = Str.ofString "tree" from rfl, s_same]
    wtm_at "s"
    refine ⟨_, rfl, .tree ps, .tup (stp et) (.cons (.str _) (.cons (dp_of_ints (sl ez)) .nil)), ok, ?_⟩
    wtm_at "s"
    exact q _ H4 sH ⟨t, sz, rfl, et, nz0, ez⟩
abbrev sp_net_of (K : PySem.W.Frag) : Sp := fun vs H Q E => ∃ v0, vs = [v0] ∧ pr_net_of K v0 H Q E
theorem ok_net_of (T : Txt K mg A) : FnOk P w K mg base CX0 3 A.a_net_of A.d_net_of ["words"] (sp_net_of K) := by
  refine T.F_net_of.ok sc_net_of (fun vs H Q E h => by obtain ⟨v0, rfl, _⟩ := h; rfl) (fun cdv A0 outer s H vs Q E hr h => ?_)
  obtain ⟨v0, rfl, h⟩ := h
  exact ⟨t_net_of K, (pss_cons (ps_set (i := 1) sc_net_of.nd rfl (Or.inl rfl) (pe_call (ok_numbers_of T) (hr.mono (by decide)) (by rfl) T.g_numbers_of T.F_numbers_of.kp T.b_numbers_of .nil pass0 (pa_cons (pe_slice sl_list (pv 0) (po_some pe_int) po_none) pa_nil)))
      (pss_cons (ps_if (PW.pt (pw_or (pt_cmpR op_isN (pv 1) pe_non (nomark _)) (pw_or1 (pt_cmpR (op_eqD hr.units) (pv 1) (pe_lst pa_nil) (nomark _))))) (pss_one (ps_ret pe_non)) pss_nil)
      (pss_cons (ps_set (i := 2) sc_net_of.nd rfl (Or.inl rfl) (pe_tup (pa_cons pe_str (pa_cons (pv 1) pa_nil))))
      (pss_cons (ps_if (pt_cmpR op_ne (pe_ix ix_list (pv 0) pe_int (fun _ _ => rfl)) pe_str (nomark _)) (pss_cons (ps_set (i := 2) sc_net_of.nd rfl (Or.inl rfl) (pe_tup (pa_cons (pe_ix ix_list (pv 0) pe_int (fun _ _ => rfl)) (pa_cons (pe_ix ix_list (pv 1) pe_int (fun _ _ => rfl)) pa_nil))))
      (pss_one (ps_if (pt_cmpR op_gt (pe_callB q_len (by rfl) T.z_len (by decide +kernel) (pa_cons (pv 1) pa_nil)) pe_int (nomark _)) (pss_one (ps_ret pe_non)) pss_nil))) pss_nil)
      (pss_cons (ps_try_thru0 (pss_one (ps_expr (pe_call (ok_look_net T) (hr.mono (by decide)) (by rfl) T.g_look_net T.F_look_net.kp T.b_look_net .nil pass0 (pa_cons (pv 2) pa_nil)))))
      (pss_one (ps_ret (pv 2)))))))), pure_net_of h⟩
def wayOf (N : Net) (w : List Nat) (ls : List (List Nat)) : Option (Int × Int) := if w = sg (Str.ofString "way") then match numsOf ls with
    | some [a, b] => if isWay N a b then some (a, b) else none
    | _ => none
  else none
def pr_way_of (K : PySem.W.Frag) (v0 v1 : V) (H : Hp) (Q : VK) (_ : XK) : Prop := ∃ (a : Addr) (N : Net) (w : List Nat) (ls : List (List Nat)), v1 = .ref a ∧ Dp K H v0 N.d ∧ SqL K H a (strsV (w :: ls)) ∧ ls.length ≤ 10000 ∧ (∀ l ∈ ls, l.length ≤ 90000) ∧ (wayOf N w ls = none → ∀ H', Same H H' → Q .non H') ∧
  (∀ x y, wayOf N w ls = some (x, y) → ∀ p H', H p = none → Same H H' → H' p = some (.tup [.int x, .int y]) → Q (.ref p) H')
def t_way_of (K : PySem.W.Frag) : TS :=
  (tSeq (tAsg (tCall (sp_numbers_of K) [] E0 (tCons (tSl (rSlL K) (tVar 1) (tPart (tC (.int 1))) tNoPart) tNil)) (gName 2))
    (tSeq (tIfS (tOr (tTest (tOp rNe (tOp (rIxL K) (tVar 1) (tC (.int 0))) (tC (.str (Str.ofString "way"))))) (tOr (tTest (tOp xIsN (tVar 2) (tC .non))) (tOr (tTest (tOp rNe (tCB (rLen K) (tCons (tVar 2) tNil)) (tC (.int 2)))) (tNot (tB (tCall (sp_is_way K) [] E0 (tCons (tVar 0) (tCons (tTup (tCons (tOp (rIxL K) (tVar 2) (tC (.int 0))) (tCons (tOp (rIxL K) (tVar 2) (tC (.int 1))) tNil))) tNil)))))))) (tRet (tC .non)) tNext)
    (tRet (tTup (tCons (tOp (rIxL K) (tVar 2) (tC (.int 0))) (tCons (tOp (rIxL K) (tVar 2) (tC (.int 1))) tNil))))))
theorem pure_way_of {v0 v1 : V} {H : Hp} {Q : VK} {E : XK} (h : pr_way_of K v0 v1 H Q E) : t_way_of K ⟨fun _ H' => Q .non H', Q, fun _ _ => False, fun _ _ => False⟩ [some v0, some v1, none] H := by
  obtain ⟨a, N, w, ls, rfl, hd, ha, hz, hl, q0, q1⟩ := h
  unfold wayOf at q0 q1
  unfold t_way_of
  wtm_at "s"
  refine k_slL ha (fun w1 H1 nw1 s1 e1 => ?_)
  rw [strs_drop] at e1
  wtm_at "s"
  refine ⟨_, rfl, w1, ls, rfl, sl e1, hz, hl, fun hn H2 s2 => ?_, fun ns hn sz H2 nsz s2 esz => ?_⟩
  · have s12 := s1.trans s2
    wtm_at "s"
    refine k_ixL (s12.seq ha) (strs_at0 _ _) ?_
    wtm_at "s"
    refine k_neS ?_
    rw [hn] at q0
    by_cases c : w = sg (Str.ofString "way")
    · rw [decide_eq_true (mk_eq.mpr c)]
      wtm_at "s"
      exact q0 (by rw [if_pos c]) H2 s12
    · rw [decide_eq_false fun z => c (mk_eq.mp z)]
      wtm_at "s"
      exact q0 (by rw [if_neg c]) H2 s12
  · have s12 := s1.trans s2
    have nsz0 := s1.free nsz
    wtm_at "s"
    refine k_ixL (s12.seq ha) (strs_at0 _ _) ?_
    wtm_at "s"
    refine k_neS ?_
    rw [hn] at q0 q1
    by_cases c : w = sg (Str.ofString "way")
    · rw [decide_eq_true (mk_eq.mpr c)]
      rw [if_pos c] at q0 q1
      refine ⟨_, rfl, iteNT ?_⟩
      wtm_at "s"
      match ns, esz, q0, q1 with
      | [], esz, q0, q1 => wtm_at "s"; exact q0 rfl H2 s12
      | [x], esz, q0, q1 => wtm_at "s"; exact q0 rfl H2 s12
      | x :: y :: z :: r, esz, q0, q1 =>
        refine k_itNT (by simp; omega) ?_
        wtm_at "s"
        exact q0 rfl H2 s12
      | [x, y], esz, q0, q1 =>
        refine k_itNF rfl ?_
        wtm_at "s"
        refine k_ixL (sl esz) (v := .int x) rfl ?_
        wtm_at "s"
        refine k_ixL (sl esz) (v := .int y) rfl ?_
        wtm_at "s"
        refine kT (by simp) (fun t H3 nt s3 et => ?_)
        wtm_at "s"
        refine ⟨_, _, rfl, N, x, y, dp_same (s12.trans s3) hd, dp_of_pair (stp et), ?_⟩
        wtm_at "s"
        refine k_itn (fun d => ?_) (fun d => ?_)
        · wtm_at "s"
          exact q0 (by show (if isWay N x y then some (x, y) else none) = none; rw [if_neg d]) H3 (s12.trans s3)
        · wtm_at "s"
          refine k_ixL (sl (s3 _ _ esz)) (v := .int x) rfl ?_
          wtm_at "s"
          refine k_ixL (sl (s3 _ _ esz)) (v := .int y) rfl ?_
          wtm_at "s"
          exact kT (by simp) (fun p H4 np s4 e4 => q1 x y (by show (if isWay N x y then some (x, y) else none) = some (x, y); rw [if_pos d]) p H4 ((s12.trans s3).free np) (s12.trans (s3.trans s4)) e4)
    · rw [decide_eq_false fun z => c (mk_eq.mp z)]
      wtm_at "s"
      exact q0 (by rw [if_neg c]) H2 s12
abbrev sp_way_of (K : PySem.W.Frag) : Sp := fun vs H Q E => ∃ v0 v1, vs = [v0, v1] ∧ pr_way_of K v0 v1 H Q E
theorem ok_way_of (T : Txt K mg A) : FnOk P w K mg base CX0 3 A.a_way_of A.d_way_of ["net", "words"] (sp_way_of K) := by
  refine T.F_way_of.ok sc_way_of (fun vs H Q E h => by obtain ⟨v0, v1, rfl, _⟩ := h; rfl) (fun cdv A0 outer s H vs Q E hr h => ?_)
  obtain ⟨v0, v1, rfl, h⟩ := h
  exact ⟨t_way_of K, (pss_cons (ps_set (i := 2) sc_way_of.nd rfl (Or.inl rfl) (pe_call (ok_numbers_of T) (hr.mono (by decide)) (by rfl) T.g_numbers_of T.F_numbers_of.kp T.b_numbers_of .nil pass0 (pa_cons (pe_slice sl_list (pv 1) (po_some pe_int) po_none) pa_nil)))
      (pss_cons (ps_if (PW.pt (pw_or (pt_cmpR op_ne (pe_ix ix_list (pv 1) pe_int (fun _ _ => rfl)) pe_str (nomark _)) (pw_or (pt_cmpR op_isN (pv 2) pe_non (nomark _)) (pw_or (pt_cmpR op_ne (pe_callB q_len (by rfl) T.z_len (by decide +kernel) (pa_cons (pv 2) pa_nil)) pe_int (nomark _)) (pw_or1 (pt_not (pt_val (pe_call (ok_is_way T) (hr.mono (by decide)) (by rfl) T.g_is_way T.F_is_way.kp T.b_is_way .nil pass0 (pa_cons (pv 0) (pa_cons (pe_tup (pa_cons (pe_ix ix_list (pv 2) pe_int (fun _ _ => rfl)) (pa_cons (pe_ix ix_list (pv 2) pe_int (fun _ _ => rfl)) pa_nil))) pa_nil)))))))))) (pss_one (ps_ret pe_non)) pss_nil)
      (pss_one (ps_ret (pe_tup (pa_cons (pe_ix ix_list (pv 2) pe_int (fun _ _ => rfl)) (pa_cons (pe_ix ix_list (pv 2) pe_int (fun _ _ => rfl)) pa_nil))))))), pure_way_of h⟩
def pr_hues_of (K : PySem.W.Frag) (v0 v1 v2 : V) (H : Hp) (Q : VK) (_ : XK) : Prop := ∃ (a : Addr) (N : Net) (ws : List (Int × Int)) (hs : List Int), v2 = .ref a ∧ Dp K H v0 N.d ∧ N.ok ∧ Dp K H v1 (dPairs ws) ∧ ws.length ≤ 1000 ∧ (∀ w ∈ ws, isWay N w.1 w.2) ∧ SqL K H a (strsV (sg (Str.ofString "hues") :: hs.map nu)) ∧ RightH N ws hs ∧
  ∀ p H', H p = none → Same H H' → H' p = some (.lst (List.map V.int hs)) → Q (.ref p) H'
def t_hues_of (K : PySem.W.Frag) : TS :=
  (tSeq (tAsg (tCall (sp_numbers_of K) [] E0 (tCons (tSl (rSlL K) (tVar 2) (tPart (tC (.int 1))) tNoPart) tNil)) (gName 3))
    (tSeq (tIfS (tOr (tTest (tOp rNe (tOp (rIxL K) (tVar 2) (tC (.int 0))) (tC (.str (Str.ofString "hues"))))) (tOr (tTest (tOp xIsN (tVar 3) (tC .non))) (tTest (tOp xNotN (tCall (sp_clash K) [] E0 (tCons (tVar 0) (tCons (tVar 1) (tCons (tVar 3) tNil)))) (tC .non))))) (tRet (tC .non)) tNext)
    (tRet (tVar 3))))
theorem pure_hues_of {v0 v1 v2 : V} {H : Hp} {Q : VK} {E : XK} (h : pr_hues_of K v0 v1 v2 H Q E) : t_hues_of K ⟨fun _ H' => Q .non H', Q, fun _ _ => False, fun _ _ => False⟩ [some v0, some v1, some v2, none] H := by
  obtain ⟨a, N, ws, hs, rfl, hd, ok, hw, hz, hok, ha, ⟨r1, r2, r3⟩, q⟩ := h
  unfold t_hues_of
  wtm_at "s"
  refine k_slL ha (fun w1 H1 nw1 s1 e1 => ?_)
  rw [strs_drop] at e1
  wtm_at "s"
  refine ⟨_, rfl, w1, hs.map nu, rfl, sl e1, by simp; omega, nums_len30 r3, fun z => ?_, fun ns hn sz H2 nsz s2 esz => ?_⟩
  · rw [nums_back r3] at z; cases z
  rw [nums_back r3] at hn
  cases hn
  have s12 := s1.trans s2
  wtm_at "s"
  refine k_ixL (s12.seq ha) (strs_at0 _ _) ?_
  rw [mkS_sg]
  wtm_at "s"
  refine k_neS ?_
  rw [s_same]
  wtm_at "s"
  refine ⟨_, _, _, rfl, N, ws, hs, dp_same s12 hd, ok, dp_same s12 hw, by omega, hok, dp_of_ints (sl esz), fun z => absurd r1 z, fun _ _ H3 s3 => ?_, fun i j _ z => absurd z.1 (r2 i j)⟩
  wtm_at "s"
  exact q sz H3 (s1.free nsz) (s12.trans s3) (s3 _ _ esz)
abbrev sp_hues_of (K : PySem.W.Frag) : Sp := fun vs H Q E => ∃ v0 v1 v2, vs = [v0, v1, v2] ∧ pr_hues_of K v0 v1 v2 H Q E
theorem ok_hues_of (T : Txt K mg A) : FnOk P w K mg base CX0 6 A.a_hues_of A.d_hues_of ["net", "ways", "words"] (sp_hues_of K) := by
  refine T.F_hues_of.ok sc_hues_of (fun vs H Q E h => by obtain ⟨v0, v1, v2, rfl, _⟩ := h; rfl) (fun cdv A0 outer s H vs Q E hr h => ?_)
  obtain ⟨v0, v1, v2, rfl, h⟩ := h
  exact ⟨t_hues_of K, (pss_cons (ps_set (i := 3) sc_hues_of.nd rfl (Or.inl rfl) (pe_call (ok_numbers_of T) (hr.mono (by decide)) (by rfl) T.g_numbers_of T.F_numbers_of.kp T.b_numbers_of .nil pass0 (pa_cons (pe_slice sl_list (pv 2) (po_some pe_int) po_none) pa_nil)))
      (pss_cons (ps_if (PW.pt (pw_or (pt_cmpR op_ne (pe_ix ix_list (pv 2) pe_int (fun _ _ => rfl)) pe_str (nomark _)) (pw_or (pt_cmpR op_isN (pv 3) pe_non (nomark _)) (pw_or1 (pt_cmpR op_notN (pe_call (ok_clash T) (hr.mono (by decide)) (by rfl) T.g_clash T.F_clash.kp T.b_clash .nil pass0 (pa_cons (pv 0) (pa_cons (pv 1) (pa_cons (pv 3) pa_nil)))) pe_non (nomark _)))))) (pss_one (ps_ret pe_non)) pss_nil)
      (pss_one (ps_ret (pv 3))))), pure_hues_of h⟩


theorem sg_hues : sg (Str.ofString "hues") = [104, 117, 101, 115] := by rw [sg_str]; rfl
theorem sg_way : sg (Str.ofString "way") = [119, 97, 121] := by rw [sg_str]; rfl
theorem sg_kind (N : Net) : ∀ c ∈ sg N.kind, 97 ≤ c := by
  cases N with
  | line n => show ∀ c ∈ sg (Str.ofString "line"), 97 ≤ c; rw [sg_str]; decide
  | ring n => show ∀ c ∈ sg (Str.ofString "ring"), 97 ≤ c; rw [sg_str]; decide
  | tree ps => show ∀ c ∈ sg (Str.ofString "tree"), 97 ≤ c; rw [sg_str]; decide
theorem nu_free {n : Int} (h : Num30 n) {c : Nat} (hc : c < 48) : c ∉ nu n := by
  obtain ⟨m, rfl⟩ := Int.eq_ofNat_of_zero_le h.1
  rw [nu_nat]; exact TL.numL_free (.inl hc)
theorem row_free {w : List Nat} {ns : List Int} (hw : ∀ c ∈ w, 97 ≤ c) (h : ∀ n ∈ ns, Num30 n) : 10 ∉ rowL w ns := fun z => by
  unfold rowL at z
  rcases List.mem_append.mp z with z | z
  · have := hw 10 z; omega
  · obtain ⟨l, hl, hz⟩ := List.mem_flatten.mp z
    obtain ⟨n, hn, rfl⟩ := List.mem_map.mp hl
    rcases List.mem_cons.mp hz with hz | hz
    · omega
    · exact nu_free (h n hn) (by decide) hz
theorem split_row {w : List Nat} {ns : List Int} (hw : ∀ c ∈ w, 97 ≤ c) (h : ∀ n ∈ ns, Num30 n) : Txt.split (mkS (rowL w ns)) (Str.ofString " ") = (w :: ns.map nu).map mkS := by
  have e : rowL w ns = TL.joinL [32] (w :: ns.map nu) := by rw [joinL_cons, List.map_map]; rfl
  have e2 : Str.ofString " " = ⟨#[32]⟩ := (mk_eq (l := [32])).mpr (by rw [sg_blank]) |>.symm
  rw [e, e2]
  refine split_one (by decide) (by simp) fun p hp => ?_
  rcases List.mem_cons.mp hp with rfl | hp
  · exact fun z => by have := hw 32 z; omega
  · obtain ⟨n, hn, rfl⟩ := List.mem_map.mp hp
    exact nu_free (h n hn) (by decide)
def rowsAll (N : Net) (ws : List (Int × Int)) (ho : Option (List Int)) : List (List Nat) := rowsL N ws ++ ho.toList.map (rowL (sg (Str.ofString "hues")))
theorem hues97 : ∀ c ∈ sg (Str.ofString "hues"), 97 ≤ c := by rw [sg_hues]; decide
theorem way97 : ∀ c ∈ sg (Str.ofString "way"), 97 ≤ c := by rw [sg_way]; decide
theorem split_text {N : Net} {ws : List (Int × Int)} {ho : Option (List Int)} (ok : N.ok) (hok : ∀ w ∈ ws, isWay N w.1 w.2) (hh : ∀ hs, ho = some hs → RightH N ws hs) : Txt.split (mkS (netL N ws ho)) (Str.ofString "\n") = (rowsAll N ws ho ++ [[]]).map mkS := by
  have e : netL N ws ho = TL.joinL [10] (rowsAll N ws ho ++ [[]]) := by
    rw [← rows_join, List.append_nil]; rfl
  have e2 : Str.ofString "\n" = ⟨#[10]⟩ := (mk_eq (l := [10])).mpr (by rw [sg_nl]) |>.symm
  rw [e, e2]
  refine split_one (by decide) (by simp) fun p hp => ?_
  rcases List.mem_append.mp hp with hp | hp
  · rcases List.mem_append.mp hp with hp | hp
    · rcases List.mem_cons.mp hp with rfl | hp
      · exact row_free (sg_kind N) (nums_ok ok).1
      · obtain ⟨w, hw, rfl⟩ := List.mem_map.mp hp
        exact row_free way97 (way_num ok (hok w hw))
    · obtain ⟨hs, hz, rfl⟩ := List.mem_map.mp hp
      exact row_free hues97 (hh hs (by simpa using hz)).2.2
  · rw [List.mem_singleton.mp hp]; simp
def HueNew (H H' : Hp) (v : V) : Option (List Int) → Prop
  | none => v = .non
  | some hs => ∃ p, v = .ref p ∧ H p = none ∧ H' p = some (.lst (List.map V.int hs))
theorem HueNew.dp {K : PySem.W.Frag} {H H' : Hp} {v : V} {ho : Option (List Int)} (h : HueNew H H' v ho) : Dp K H' v (dHues ho) := by
  cases ho with
  | none => rw [show v = .non from h]; exact .non
  | some hs => obtain ⟨p, rfl, _, e⟩ := h; exact dp_of_ints (sl e)
theorem HueNew.same {H H1 H2 : Hp} {v : V} {ho : Option (List Int)} (h : HueNew H H1 v ho) (s : Same H1 H2) : HueNew H H2 v ho := by
  cases ho with
  | none => exact h
  | some hs => obtain ⟨p, rfl, n, e⟩ := h; exact ⟨p, rfl, n, s _ _ e⟩
def pr_read_net (K : PySem.W.Frag) (v0 : V) (H : Hp) (Q : VK) (_ : XK) : Prop := ∃ (N : Net) (ws : List (Int × Int)) (ho : Option (List Int)), v0 = .str (mkS (netL N ws ho)) ∧ N.ok ∧ ws.length ≤ 40 ∧ (∀ w ∈ ws, isWay N w.1 w.2) ∧ (∀ hs, ho = some hs → RightH N ws hs) ∧
  ∀ t nv wl ys hv H', Same H H' → H' t = some (.tup [nv, .ref wl, hv]) → NetNew H H' nv N → H wl = none → H' wl = some (.lst ys) → DpAll K (hid [wl] H') ys (List.map dPair ws) → HueNew H H' hv ho → Q (.ref t) H'
def t_read_net (K : PySem.W.Frag) : TS :=
  (tSeq (tAsg (tM1 rSplit (tVar 0) (tC (.str (Str.ofString "\n")))) (gName 1))
    (tSeq (tIfS (tTest (tOp rEq (tCB (rLen K) (tCons (tVar 1) tNil)) (tC (.int 1)))) tNever tNext)
    (tSeq (tAsg (tCall (sp_net_of K) [] E0 (tCons (tM1 rSplit (tOp (rIxL K) (tVar 1) (tC (.int 0))) (tC (.str (Str.ofString " ")))) tNil)) (gName 2))
    (tSeq (tIfS (tTest (tOp xIsN (tVar 2) (tC .non))) tNever tNext)
    (tSeq (tAsg (tLst tNil) (gName 3))
    (tSeq (tAsg (tC .non) (gName 4))
    (tSeq (tFor (iRng2 (tCons (tC (.int 1)) (tCons (tOp xSub (tCB (rLen K) (tCons (tVar 1) tNil)) (tC (.int 1))) tNil))) (gName 5)
      (tSeq (tAsg (tM1 rSplit (tOp (rIxL K) (tVar 1) (tVar 5)) (tC (.str (Str.ofString " ")))) (gName 6))
    (tSeq (tAsg (tCall (sp_way_of K) [] E0 (tCons (tVar 2) (tCons (tVar 6) tNil))) (gName 7))
    (tIfS (tAnd (tTest (tOp xIsN (tVar 4) (tC .non))) (tAnd (tTest (tOp xNotN (tVar 7) (tC .non))) (tTest (tOp xLt (tCB (rLen K) (tCons (tVar 3) tNil)) (tC (.int 40)))))) (tDrop (tBM K "list" rAppend (tVar 3) (tCons (tVar 7) tNil))) (tIfS (tAnd (tTest (tOp xIsN (tVar 4) (tC .non))) (tTest (tOp xIsN (tVar 7) (tC .non)))) (tSeq (tAsg (tCall (sp_hues_of K) [] E0 (tCons (tVar 2) (tCons (tVar 3) (tCons (tVar 6) tNil)))) (gName 4))
    (tIfS (tTest (tOp xIsN (tVar 4) (tC .non))) tNever tNext)) tNever)))))
    (tSeq (tIfS (tTest (tOp rNe (tOp (rIxL K) (tVar 1) (tUn xNeg (tC (.int 1)))) (tC (.str (Str.ofString ""))))) tNever tNext)
    (tRet (tTup (tCons (tVar 2) (tCons (tVar 3) (tCons (tVar 4) tNil)))))))))))))
theorem netL_len {N : Net} {ws : List (Int × Int)} {ho : Option (List Int)} (ok : N.ok) (hok : ∀ w ∈ ws, isWay N w.1 w.2) (hz : ws.length ≤ 40) (hh : ∀ hs, ho = some hs → RightH N ws hs) : (netL N ws ho).length ≤ 90000 ∧ ∀ r ∈ rowsAll N ws ho, r.length ≤ 2000 := by
  obtain ⟨nm, nl⟩ := nums_ok ok
  have all : ∀ r ∈ rowsAll N ws ho, r.length ≤ 2000 := fun r hr => by
    rcases List.mem_append.mp hr with hr | hr
    · rcases List.mem_cons.mp hr with rfl | hr
      · have := rowL_len (w := sg N.kind) nm
        rw [kind_len] at this
        omega
      · obtain ⟨w, hw, rfl⟩ := List.mem_map.mp hr
        have := rowL_len (w := sg (Str.ofString "way")) (way_num ok (hok w hw))
        rw [way_len3] at this
        unfold wayL
        simp only [List.length_cons, List.length_nil] at this
        omega
    · obtain ⟨hs, hz1, rfl⟩ := List.mem_map.mp hr
      obtain ⟨r1, _, r3⟩ := hh hs (by simpa using hz1)
      have := rowL_len (w := sg (Str.ofString "hues")) r3
      rw [hues_len4] at this
      omega
  refine ⟨?_, all⟩
  have := flat_le (l := (rowsAll N ws ho).map fun r => r ++ [10]) (b := 2001) fun x hx => by
    obtain ⟨r, hr, rfl⟩ := List.mem_map.mp hx
    have := all r hr
    simp; omega
  rw [List.length_map] at this
  have l2 : (rowsAll N ws ho).length ≤ 42 := by
    unfold rowsAll rowsL
    cases ho <;> simp <;> omega
  show ((rowsAll N ws ho).map fun r => r ++ [10]).flatten.length ≤ 90000
  have : (rowsAll N ws ho).length * 2001 ≤ 42 * 2001 := Nat.mul_le_mul_right _ l2
  omega
theorem wayOf_way {N : Net} (ok : N.ok) {w : Int × Int} (h : isWay N w.1 w.2) : wayOf N (sg (Str.ofString "way")) ([w.1, w.2].map nu) = some (w.1, w.2) := by
  unfold wayOf
  rw [if_pos rfl, nums_back (way_num ok h)]
  show (if isWay N w.1 w.2 then some (w.1, w.2) else none) = _
  rw [if_pos h]
theorem wayOf_hues {N : Net} {ls : List (List Nat)} : wayOf N (sg (Str.ofString "hues")) ls = none := by
  unfold wayOf
  rw [if_neg]
  rw [sg_hues, sg_way]; decide
theorem pure_read_net {v0 : V} {H : Hp} {Q : VK} {E : XK} (h : pr_read_net K v0 H Q E) : t_read_net K ⟨fun _ H' => Q .non H', Q, fun _ _ => False, fun _ _ => False⟩ [some v0, none, none, none, none, none, none, none] H := by
  obtain ⟨N, ws, ho, rfl, ok, hz, hok, hh, q⟩ := h
  obtain ⟨nlen, rlen⟩ := netL_len ok hok hz hh
  obtain ⟨nm, nl⟩ := nums_ok ok
  have ra : (rowsAll N ws ho).length = 1 + ws.length + ho.toList.length := by unfold rowsAll rowsL; simp; omega
  have ho1 : ho.toList.length ≤ 1 := by cases ho <;> simp
  unfold t_read_net
  wtm_at "s"
  refine k_split (by omega) (by rw [len_sg, sg_nl]; decide) (split_text ok hok hh) (fun rp H1 nrp s1 e1 => ?_)
  wtm_at "s"
  have lr : (List.map (fun q => V.str (mkS q)) (rowsAll N ws ho ++ [[]])).length = (rowsAll N ws ho).length + 1 := by simp
  rw [lr]
  refine k_itDF (by omega) ?_
  have rowAt : ∀ i r, (rowsAll N ws ho)[i]? = some r → (List.map (fun q => V.str (mkS q)) (rowsAll N ws ho ++ [[]]))[i]? = some (V.str (mkS r)) := fun i r hr => by
    rw [List.getElem?_map, List.getElem?_append_left (List.getElem?_eq_some_iff.mp hr).1, hr]; rfl
  have row0 : (rowsAll N ws ho)[0]? = some (rowL (sg N.kind) N.nums) := rfl
  wtm_at "s"
  refine k_ixL (sl e1) (atI_nat (j := 0) (rowAt 0 _ row0)) ?_
  wtm_at "s"
  refine k_split (by have := rlen _ (List.mem_of_getElem? row0); omega) (by rw [len_sg, sg_blank]; decide) (split_row (sg_kind N) nm) (fun w0 H2 nw0 s2 e2 => ?_)
  wtm_at "s"
  refine ⟨_, rfl, w0, N, rfl, sl e2, ok, fun nv H3 s3 nn => ?_⟩
  have nvr : ∃ p, nv = .ref p := by
    cases N with
    | line n => obtain ⟨p, rfl, _⟩ := nn; exact ⟨p, rfl⟩
    | ring n => obtain ⟨p, rfl, _⟩ := nn; exact ⟨p, rfl⟩
    | tree ps => obtain ⟨p, s, rfl, _⟩ := nn; exact ⟨p, rfl⟩
  obtain ⟨np, rfl⟩ := nvr
  have nn0 := nn.old (s1.trans s2)
  wtm_at "s"
  refine kL (by simp) (fun wl H4 nwl s4 e4 => ?_)
  have s04 : Same H H3 := s1.trans (s2.trans s3)
  have e1' : H3 rp = _ := at_same e1 (s2.trans s3)
  clear s1 s2 s3 e1 e2
  wtm_at "s"
  rw [lr]
  refine forR (fun i σ' H' => Same H3 H' ∧ ∃ ys hv k5 k6 k7, H' wl = some (.lst ys) ∧ DpAll K (hid [wl] H') ys (List.map dPair (ws.take i)) ∧ (i ≤ ws.length → hv = .non) ∧ (ws.length < i → HueNew H3 H' hv ho) ∧ σ' = [some (.str (mkS (netL N ws ho))), some (.ref rp), some (.ref np), some (.ref wl), some hv, k5, k6, k7])
    ⟨s4, [], .non, none, none, none, e4, .nil, fun _ => rfl, fun z => by omega, rfl⟩ ?_ ?_
  · rintro i σ' H5 hi ⟨s5, ys, hv, k5, k6, k7, e5, d5, hv0, hv1, rfl⟩
    have hi' : i ≤ ws.length := by omega
    rw [hv0 hi', show (1 : Int) + ((i : Nat) : Int) = ((1 + i : Nat) : Int) by omega]
    have ly := dpa_len d5
    rw [List.length_map, List.length_take] at ly
    have nn5 : NetNew H H5 (.ref np) N := nn0.same s5
    by_cases c : i < ws.length
    · have hw : ws[i]? = some ws[i] := List.getElem?_eq_getElem c
      have wok := hok _ (List.mem_of_getElem? hw)
      have rowi : (rowsAll N ws ho)[1 + i]? = some (wayL ws[i]) := by
        unfold rowsAll rowsL
        rw [Nat.add_comm, List.cons_append, List.getElem?_cons_succ, List.getElem?_append_left (by simpa using c), List.getElem?_map, hw]; rfl
      wtm_at "s"
      refine k_ixL (sl (s5 _ _ e1')) (atI_nat (rowAt _ _ rowi)) ?_
      wtm_at "s"
      refine k_split (by have := rlen _ (List.mem_of_getElem? rowi); omega) (by rw [len_sg, sg_blank]; decide) (split_row way97 (way_num ok wok)) (fun w1 H6 nw1 s6 e6 => ?_)
      wtm_at "s"
      refine ⟨_, _, rfl, w1, N, _, _, rfl, (nn5.same s6).dp, sl e6, by simp, nums_len30 (way_num ok wok), fun z => ?_, fun x y hxy tp H7 ntp s7 e7 => ?_⟩
      · rw [wayOf_way ok wok] at z; cases z
      · rw [wayOf_way ok wok] at hxy
        cases hxy
        have e57 := (s6.trans s7) _ _ e5
        wtm_at "s"
        refine k_tyL (sl e57) ?_
        wtm_at "s"
        refine k_append e57 (by omega) ?_
        have nwl5 : tp ≠ wl := fun e => by rw [e, s6 _ _ e5] at ntp; cases ntp
        refine ⟨same_mut (s5.trans (s6.trans s7)) nwl, ys ++ [.ref tp], .non, _, _, _, upd_same, ?_, fun _ => rfl, fun z => by omega, rfl⟩
        rw [hid_upd (by simp), List.take_add_one, hw, List.map_append]
        refine dpa_app (dpa_same (hid_mono (s6.trans s7)) d5) (.cons (dp_of_pair (stp ?_)) .nil)
        rw [hid_ne (by simpa using nwl5)]; exact e7
    · have ei : i = ws.length := by omega
      cases ho with
      | none => simp at ra hi; omega
      | some hs =>
        have rt := hh hs rfl
        have rowi : (rowsAll N ws (some hs))[1 + i]? = some (rowL (sg (Str.ofString "hues")) hs) := by
          unfold rowsAll rowsL
          rw [Nat.add_comm, List.cons_append, List.getElem?_cons_succ, List.getElem?_append_right (by simp; omega)]
          simp [ei]
        wtm_at "s"
        refine k_ixL (sl (s5 _ _ e1')) (atI_nat (rowAt _ _ rowi)) ?_
        wtm_at "s"
        refine k_split (by have := rlen _ (List.mem_of_getElem? rowi); omega) (by rw [len_sg, sg_blank]; decide) (split_row hues97 rt.2.2) (fun w1 H6 nw1 s6 e6 => ?_)
        wtm_at "s"
        refine ⟨_, _, rfl, w1, N, _, _, rfl, (nn5.same s6).dp, sl e6, by simp; have := rt.1; omega, nums_len30 rt.2.2, fun _ H7 s7 => ?_, fun x y hxy => by rw [wayOf_hues] at hxy; cases hxy⟩
        have e57 := (s6.trans s7) _ _ e5
        rw [ei, List.take_length] at d5
        have dW : Dp K H7 (.ref wl) (dPairs ws) := .lst (sl e57) (dpa_same ((hid_same _ _).trans (s6.trans s7)) d5)
        wtm_at "s"
        refine ⟨_, _, _, rfl, w1, N, ws, hs, rfl, (nn5.same (s6.trans s7)).dp, ok, dW, by omega, hok, sl (s7 _ _ e6), rt, fun hp H8 nhp s8 e8 => ?_⟩
        wtm_at "s"
        have s58 := s6.trans (s7.trans s8)
        refine ⟨s5.trans s58, ys, .ref hp, _, _, _, s58 _ _ e5, ?_, fun z => by omega, fun _ => ⟨hp, rfl, (s5.trans (s6.trans s7)).free nhp, e8⟩, rfl⟩
        rw [List.take_of_length_le (by omega)]
        exact dpa_same (hid_mono s58) d5
  · rintro σ' H5 ⟨s5, ys, hv, k5, k6, k7, e5, d5, hv0, hv1, rfl⟩
    have hn : HueNew H3 H5 hv ho := by
      cases ho with
      | none => exact hv0 (by simp at ra; omega)
      | some hs => exact hv1 (by simp at ra; omega)
    wtm_at "s"
    refine k_ixL (sl (s5 _ _ e1')) (v := .str (mkS [])) (by rw [List.map_append]; exact atI_last _ _) ?_
    wtm_at "s"
    refine k_neS ?_
    rw [decide_eq_true (mk_eq.mpr (by rw [sg_emp]))]
    wtm_at "s"
    refine kT (by simp) (fun t H6 nt s6 e6 => ?_)
    refine q t _ wl ys hv H6 (s04.trans (s5.trans s6)) e6 (nn0.same (s5.trans s6)) (s04.free nwl) (s6 _ _ e5) ?_ ?_
    · rw [List.take_of_length_le (by omega)] at d5
      exact dpa_same (hid_mono s6) d5
    · have := hn.same s6
      cases ho with
      | none => exact this
      | some hs => obtain ⟨p, rfl, n, e⟩ := this; exact ⟨p, rfl, s04.free n, e⟩
abbrev sp_read_net (K : PySem.W.Frag) : Sp := fun vs H Q E => ∃ v0, vs = [v0] ∧ pr_read_net K v0 H Q E
theorem ok_read_net (T : Txt K mg A) : FnOk P w K mg base CX0 7 A.a_read_net A.d_read_net ["text"] (sp_read_net K) := by
  refine T.F_read_net.ok sc_read_net (fun vs H Q E h => by obtain ⟨v0, rfl, _⟩ := h; rfl) (fun cdv A0 outer s H vs Q E hr h => ?_)
  obtain ⟨v0, rfl, h⟩ := h
  exact ⟨t_read_net K, (pss_cons (ps_set (i := 1) sc_read_net.nd rfl (Or.inl rfl) (pe_split (pv 0) pe_str))
      (pss_cons (ps_if (pt_cmpR op_eq (pe_callB q_len (by rfl) T.z_len (by decide +kernel) (pa_cons (pv 1) pa_nil)) pe_int (nomark _)) (pss_one ps_never) pss_nil)
      (pss_cons (ps_set (i := 2) sc_read_net.nd rfl (Or.inl rfl) (pe_call (ok_net_of T) (hr.mono (by decide)) (by rfl) T.g_net_of T.F_net_of.kp T.b_net_of .nil pass0 (pa_cons (pe_split (pe_ix ix_list (pv 1) pe_int (fun _ _ => rfl)) pe_str) pa_nil)))
      (pss_cons (ps_if (pt_cmpR op_isN (pv 2) pe_non (nomark _)) (pss_one ps_never) pss_nil)
      (pss_cons (ps_set (i := 3) sc_read_net.nd rfl (Or.inl rfl) (pe_lst pa_nil))
      (pss_cons (ps_set (i := 4) sc_read_net.nd rfl (Or.inl rfl) pe_non)
      (pss_cons (ps_for PassesOwn.never rfl (pi_range2 (by rfl) T.z_range (pa_cons pe_int (pa_cons (pe_op op_sub (pe_callB q_len (by rfl) T.z_len (by decide +kernel) (pa_cons (pv 1) pa_nil)) pe_int) pa_nil))) (pg_name (i := 5) sc_read_net.nd rfl (Or.inl rfl))
      (pss_cons (ps_set (i := 6) sc_read_net.nd rfl (Or.inl rfl) (pe_split (pe_ix ix_list (pv 1) (pv 5) (fun _ _ => rfl)) pe_str))
      (pss_cons (ps_set (i := 7) sc_read_net.nd rfl (Or.inl rfl) (pe_call (ok_way_of T) (hr.mono (by decide)) (by rfl) T.g_way_of T.F_way_of.kp T.b_way_of .nil pass0 (pa_cons (pv 2) (pa_cons (pv 6) pa_nil))))
      (pss_one (ps_if (PW.pt (pw_and (pt_cmpR op_isN (pv 4) pe_non (nomark _)) (pw_and (pt_cmpR op_notN (pv 7) pe_non (nomark _)) (pw_and1 (pt_cmpR op_lt (pe_callB q_len (by rfl) T.z_len (by decide +kernel) (pa_cons (pv 3) pa_nil)) (pe_glob (v := .int 40) (by rfl) T.c_MOST_WAYS ⟨_, rfl⟩) (nomark _)))))) (pss_one (ps_expr (pe_bm PySem.F.plainAttrs_list PySem.F.slot_list_append PySem.F.type_list_append mt_append (pv 3) (pa_cons (pv 7) pa_nil)))) (pss_one (ps_if (PW.pt (pw_and (pt_cmpR op_isN (pv 4) pe_non (nomark _)) (pw_and1 (pt_cmpR op_isN (pv 7) pe_non (nomark _))))) (pss_cons (ps_set (i := 4) sc_read_net.nd rfl (Or.inl rfl) (pe_call (ok_hues_of T) (hr.mono (by decide)) (by rfl) T.g_hues_of T.F_hues_of.kp T.b_hues_of .nil pass0 (pa_cons (pv 2) (pa_cons (pv 3) (pa_cons (pv 6) pa_nil)))))
      (pss_one (ps_if (pt_cmpR op_isN (pv 4) pe_non (nomark _)) (pss_one ps_never) pss_nil))) (pss_one ps_never))))))))
      (pss_cons (ps_if (pt_cmpR op_ne (pe_ix ix_list (pv 1) (pe_un un_neg pe_int) (fun _ _ => rfl)) pe_str (nomark _)) (pss_one ps_never) pss_nil)
      (pss_one (ps_ret (pe_tup (pa_cons (pv 2) (pa_cons (pv 3) (pa_cons (pv 4) pa_nil)))))))))))))), pure_read_net h⟩


def pr_law_mix (K : PySem.W.Frag) (v0 v1 : V) (H : Hp) (Q : VK) (_ : XK) : Prop := ∃ x k : Int, v0 = .int x ∧ v1 = .int k ∧ 0 ≤ x ∧ x < 2147483629 ∧ 0 ≤ k ∧ k < 10000000 ∧ ∀ r, 0 ≤ r → r < 2147483587 → Q (.int r) H
def t_law_mix (K : PySem.W.Frag) : TS :=
  (tSeq (tAsg (tOp xMod (tOp xMul (tOp xAdd (tOp xAdd (tOp xMul (tVar 0) (tVar 0)) (tOp xMul (tVar 1) (tVar 0))) (tOp xMul (tOp xMul (tC (.int 7)) (tVar 1)) (tVar 1))) (tC (.int 1103515245))) (tC (.int 2147483629))) (gName 2))
    (tRet (tOp xMod (tOp xMul (tVar 2) (tVar 2)) (tC (.int 2147483587)))))
theorem pure_law_mix {v0 v1 : V} {H : Hp} {Q : VK} {E : XK} (h : pr_law_mix K v0 v1 H Q E) : t_law_mix K ⟨fun _ H' => Q .non H', Q, fun _ _ => False, fun _ _ => False⟩ [some v0, some v1, none] H := by
  obtain ⟨x, k, rfl, rfl, x0, x1, k0, k1, q⟩ := h
  unfold t_law_mix
  wtm_at "s"
  exact q _ (Int.emod_nonneg _ (by decide)) (Int.emod_lt_of_pos _ (by decide))
abbrev sp_law_mix (K : PySem.W.Frag) : Sp := fun vs H Q E => ∃ v0 v1, vs = [v0, v1] ∧ pr_law_mix K v0 v1 H Q E
theorem ok_law_mix (T : Txt K mg A) : FnOk P w K mg base CX0 1 A.a_law_mix A.d_law_mix ["_law_number", "_law_k"] (sp_law_mix K) := by
  refine T.F_law_mix.ok sc_law_mix (fun vs H Q E h => by obtain ⟨v0, v1, rfl, _⟩ := h; rfl) (fun cdv A0 outer s H vs Q E hr h => ?_)
  obtain ⟨v0, v1, rfl, h⟩ := h
  exact ⟨t_law_mix K, (pss_cons (ps_set (i := 2) sc_law_mix.nd rfl (Or.inl rfl) (pe_op op_mod (pe_op op_mul (pe_op op_add (pe_op op_add (pe_op op_mul (pv 0) (pv 0)) (pe_op op_mul (pv 1) (pv 0))) (pe_op op_mul (pe_op op_mul pe_int (pv 1)) (pv 1))) pe_int) pe_int))
      (pss_one (ps_ret (pe_op op_mod (pe_op op_mul (pv 2) (pv 2)) pe_int)))), pure_law_mix h⟩
def pr_law_left (K : PySem.W.Frag) (v0 : V) (H : Hp) (Q : VK) (_ : XK) : Prop := ∃ x : Int, v0 = .int x ∧ ∀ p H', H p = none → Same H H' → Le H' p 0 → Q (.ref p) H'
def t_law_left (K : PySem.W.Frag) : TS :=
  (tSeq (tIfS (tTest (tOp xLt (tVar 0) (tOp xPow (tC (.int 10)) (tC (.int 18))))) (tRet (tLst (tCons (tOp xMod (tVar 0) (tC (.int 2147483629))) (tCons (tC (.int 0)) (tCons (tC (.int 0)) tNil))))) tNext)
    (tRet (tLst (tCons (tOp xSub (tVar 0) (tOp xPow (tC (.int 10)) (tC (.int 18)))) (tCons (tC (.int 1)) (tCons (tC (.int 0)) tNil))))))
theorem pure_law_left {v0 : V} {H : Hp} {Q : VK} {E : XK} (h : pr_law_left K v0 H Q E) : t_law_left K ⟨fun _ H' => Q .non H', Q, fun _ _ => False, fun _ _ => False⟩ [some v0] H := by
  obtain ⟨x, rfl, q⟩ := h
  unfold t_law_left
  wtm_at "s"
  refine k_it (fun c => ?_) (fun c => ?_)
  · wtm_at "s"
    refine ⟨sz (by simp), fun p np => ?_⟩
    exact q p _ np (same_new np) ⟨⟨_, _, upd_same, fun _ => ⟨Int.emod_nonneg _ (by decide), Int.emod_lt_of_pos _ (by decide)⟩⟩, by decide⟩
  · wtm_at "s"
    refine ⟨sz (by simp), fun p np => ?_⟩
    exact q p _ np (same_new np) ⟨⟨_, _, upd_same, fun z => absurd z (by decide)⟩, by decide⟩
abbrev sp_law_left (K : PySem.W.Frag) : Sp := fun vs H Q E => ∃ v0, vs = [v0] ∧ pr_law_left K v0 H Q E
theorem ok_law_left (T : Txt K mg A) : FnOk P w K mg base CX0 1 A.a_law_left A.d_law_left ["_law_cell"] (sp_law_left K) := by
  refine T.F_law_left.ok sc_law_left (fun vs H Q E h => by obtain ⟨v0, rfl, _⟩ := h; rfl) (fun cdv A0 outer s H vs Q E hr h => ?_)
  obtain ⟨v0, rfl, h⟩ := h
  exact ⟨t_law_left K, (pss_cons (ps_if (pt_cmpR op_lt (pv 0) (pe_op op_pow pe_int pe_int) (nomark _)) (pss_one (ps_ret (pe_lst (pa_cons (pe_op op_mod (pv 0) pe_int) (pa_cons pe_int (pa_cons pe_int pa_nil)))))) pss_nil)
      (pss_one (ps_ret (pe_lst (pa_cons (pe_op op_sub (pv 0) (pe_op op_pow pe_int pe_int)) (pa_cons pe_int (pa_cons pe_int pa_nil))))))), pure_law_left h⟩
def pr_law_draw (K : PySem.W.Frag) (v0 v1 : V) (H : Hp) (Q : VK) (_ : XK) : Prop := ∃ (pu : Addr) (k m : Int), v0 = .ref pu ∧ v1 = .int m ∧ Le H pu k ∧ k < 1000000 ∧ 0 < m ∧ m < 2 ^ 200 ∧ ∀ r H', 0 ≤ r → r < m → Le H' pu (k + 1) → Same (hid [pu] H) (hid [pu] H') → Q (.int r) H'
def t_law_draw (K : PySem.W.Frag) : TS :=
  (tSeq (tAsg (tOp xAdd (tOp (rIxL K) (tVar 0) (tC (.int 2))) (tC (.int 1))) (gSub (tVar 0) (tC (.int 2)) rSetL))
    (tSeq (tIfS (tTest (tOp rEq (tOp (rIxL K) (tVar 0) (tC (.int 1))) (tC (.int 0)))) (tSeq (tAsg (tCall (sp_law_mix K) [] E0 (tCons (tOp (rIxL K) (tVar 0) (tC (.int 0))) (tCons (tOp (rIxL K) (tVar 0) (tC (.int 2))) tNil))) (gName 2))
    (tSeq (tIfS (tTest (tOp xGt (tVar 1) (tOp xPow (tC (.int 10)) (tC (.int 9))))) (tRet (tOp xMod (tOp xMul (tVar 2) (tOp xAdd (tOp xPow (tCall (sp_law_mix K) [] E0 (tCons (tOp (rIxL K) (tVar 0) (tC (.int 0))) (tCons (tOp xAdd (tOp (rIxL K) (tVar 0) (tC (.int 2))) (tC (.int 500))) tNil))) (tC (.int 3))) (tC (.int 1)))) (tVar 1))) tNext)
    (tRet (tOp xMod (tOp xMod (tOp xMul (tVar 2) (tOp xAdd (tVar 2) (tC (.int 2)))) (tC (.int 2147483579))) (tVar 1))))) tNext)
    (tSeq (tAsg (tOp xMod (tOp (rIxL K) (tVar 0) (tC (.int 0))) (tVar 1)) (gName 3))
    (tSeq (tAsg (tOp xDivW (tOp (rIxL K) (tVar 0) (tC (.int 0))) (tVar 1)) (gSub (tVar 0) (tC (.int 0)) rSetL))
    (tRet (tVar 3))))))
theorem pure_law_draw {v0 v1 : V} {H : Hp} {Q : VK} {E : XK} (h : pr_law_draw K v0 v1 H Q E) : t_law_draw K ⟨fun _ H' => Q .non H', Q, fun _ _ => False, fun _ _ => False⟩ [some v0, some v1, none, none] H := by
  obtain ⟨pu, k, m, rfl, rfl, hL, k1, m0, m1, q⟩ := h
  obtain ⟨⟨x, f, hp, hx⟩, k0⟩ := hL
  unfold t_law_draw
  wtm_at "s"
  refine k_ixL (sl hp) rfl ?_
  wtm_at "s"
  refine k_setL hp (j := 2) rfl ?_
  have e1 : upd H pu (.lst [.int x, .int f, .int (k + 1)]) pu = some (.lst [.int x, .int f, .int (k + 1)]) := upd_same
  have S1 : Same (hid [pu] H) (hid [pu] (upd H pu (.lst [.int x, .int f, .int (k + 1)]))) := same_hid_upd (Same.refl _) (by simp)
  rw [show [V.int x, V.int f, V.int k].set 2 (V.int (k + 1)) = [.int x, .int f, .int (k + 1)] from rfl]
  generalize upd H pu (.lst [.int x, .int f, .int (k + 1)]) = H1 at e1 S1 ⊢
  wtm_at "s"
  refine k_ixL (sl e1) rfl ?_
  wtm_at "s"
  refine k_it (fun c => ?_) (fun c => ?_)
  · obtain ⟨x0, x1⟩ := hx c
    have L1 : Le H1 pu (k + 1) := ⟨⟨x, f, e1, hx⟩, by omega⟩
    wtm_at "s"
    refine k_ixL (sl e1) rfl ?_
    wtm_at "s"
    refine k_ixL (sl e1) rfl ?_
    wtm_at "s"
    refine ⟨_, _, rfl, x, k + 1, rfl, rfl, x0, x1, by omega, by omega, fun r r0 r1 => ?_⟩
    wtm_at "s"
    refine k_it (fun c2 => ?_) (fun c2 => ?_)
    · wtm_at "s"
      refine k_ixL (sl e1) rfl ?_
      wtm_at "s"
      refine k_ixL (sl e1) rfl ?_
      wtm_at "s"
      refine ⟨_, _, rfl, x, k + 1 + 500, rfl, rfl, x0, x1, by omega, by omega, fun r2 r20 r21 => ?_⟩
      wtm_at "s"
      refine k_pow ⟨by decide, by decide, by omega⟩ ?_
      wtm_at "s"
      exact q _ _ (Int.emod_nonneg _ (by omega)) (Int.emod_lt_of_pos _ m0) L1 S1
    · wtm_at "s"
      exact q _ _ (Int.emod_nonneg _ (by omega)) (Int.emod_lt_of_pos _ m0) L1 S1
  · wtm_at "s"
    refine k_ixL (sl e1) rfl ?_
    wtm_at "s"
    refine k_ixL (sl e1) rfl ?_
    wtm_at "s"
    refine k_divW (wide_div m0 (b := 201) (by omega) (by decide) (by decide)) ?_
    wtm_at "s"
    refine k_setL e1 (j := 0) rfl ?_
    wtm_at "s"
    exact q _ _ (Int.emod_nonneg _ (by omega)) (Int.emod_lt_of_pos _ m0) ⟨⟨x / m, f, upd_same, fun z => absurd z c⟩, by omega⟩ (same_hid_upd S1 (by simp))
abbrev sp_law_draw (K : PySem.W.Frag) : Sp := fun vs H Q E => ∃ v0 v1, vs = [v0, v1] ∧ pr_law_draw K v0 v1 H Q E
theorem ok_law_draw (T : Txt K mg A) : FnOk P w K mg base CX0 2 A.a_law_draw A.d_law_draw ["_law_left_here", "_law_base"] (sp_law_draw K) := by
  refine T.F_law_draw.ok sc_law_draw (fun vs H Q E h => by obtain ⟨v0, v1, rfl, _⟩ := h; rfl) (fun cdv A0 outer s H vs Q E hr h => ?_)
  obtain ⟨v0, v1, rfl, h⟩ := h
  exact ⟨t_law_draw K, (pss_cons (ps_asg (pe_op op_add (pe_ix ix_list (pv 0) pe_int (fun _ _ => rfl)) pe_int) (pg_sub (pv 0) pe_int set_list))
      (pss_cons (ps_if (pt_cmpR op_eq (pe_ix ix_list (pv 0) pe_int (fun _ _ => rfl)) pe_int (nomark _)) (pss_cons (ps_set (i := 2) sc_law_draw.nd rfl (Or.inl rfl) (pe_call (ok_law_mix T) (hr.mono (by decide)) (by rfl) T.g_law_mix T.F_law_mix.kp T.b_law_mix .nil pass0 (pa_cons (pe_ix ix_list (pv 0) pe_int (fun _ _ => rfl)) (pa_cons (pe_ix ix_list (pv 0) pe_int (fun _ _ => rfl)) pa_nil))))
      (pss_cons (ps_if (pt_cmpR op_gt (pv 1) (pe_op op_pow pe_int pe_int) (nomark _)) (pss_one (ps_ret (pe_op op_mod (pe_op op_mul (pv 2) (pe_op op_add (pe_op op_pow (pe_call (ok_law_mix T) (hr.mono (by decide)) (by rfl) T.g_law_mix T.F_law_mix.kp T.b_law_mix .nil pass0 (pa_cons (pe_ix ix_list (pv 0) pe_int (fun _ _ => rfl)) (pa_cons (pe_op op_add (pe_ix ix_list (pv 0) pe_int (fun _ _ => rfl)) pe_int) pa_nil))) pe_int) pe_int)) (pv 1)))) pss_nil)
      (pss_one (ps_ret (pe_op op_mod (pe_op op_mod (pe_op op_mul (pv 2) (pe_op op_add (pv 2) pe_int)) pe_int) (pv 1)))))) pss_nil)
      (pss_cons (ps_set (i := 3) sc_law_draw.nd rfl (Or.inl rfl) (pe_op op_mod (pe_ix ix_list (pv 0) pe_int (fun _ _ => rfl)) (pv 1)))
      (pss_cons (ps_asg (pe_op op_fdivW (pe_ix ix_list (pv 0) pe_int (fun _ _ => rfl)) (pv 1)) (pg_sub (pv 0) pe_int set_list))
      (pss_one (ps_ret (pv 3))))))), pure_law_draw h⟩
def pr_law_way (K : PySem.W.Frag) (v0 v1 : V) (H : Hp) (Q : VK) (_ : XK) : Prop := ∃ (pu : Addr) (k m : Int), v0 = .ref pu ∧ v1 = .int m ∧ Le H pu k ∧ k < 900000 ∧ 2 ≤ m ∧ m < 2 ^ 100 ∧
  ∀ p a b H', H p = none → p ∉ [pu] → Le H' pu (k + 2) → Same (hid [pu] H) (hid [pu] H') → H' p = some (.tup [.int a, .int b]) → a ≠ b → 0 ≤ a → a < m → 0 ≤ b → b < m → Q (.ref p) H'
def t_law_way (K : PySem.W.Frag) : TS :=
  (tSeq (tAsg (tCall (sp_law_draw K) [] E0 (tCons (tVar 0) (tCons (tVar 1) tNil))) (gName 2))
    (tSeq (tAsg (tCall (sp_law_draw K) [] E0 (tCons (tVar 0) (tCons (tOp xSub (tVar 1) (tC (.int 1))) tNil))) (gName 3))
    (tRet (tTup (tCons (tVar 2) (tCons (tOp xAdd (tVar 3) (tCB rIntOf (tCons (tOp xGe (tVar 3) (tVar 2)) tNil))) tNil))))))
theorem pure_law_way {v0 v1 : V} {H : Hp} {Q : VK} {E : XK} (h : pr_law_way K v0 v1 H Q E) : t_law_way K ⟨fun _ H' => Q .non H', Q, fun _ _ => False, fun _ _ => False⟩ [some v0, some v1, none, none] H := by
  obtain ⟨pu, k, m, rfl, rfl, hL, k1, m0, m1, q⟩ := h
  unfold t_law_way
  wtm_at "s"
  refine ⟨_, _, rfl, pu, k, m, rfl, rfl, hL, by omega, by omega, by omega, fun r H1 r0 r1 L1 S1 => ?_⟩
  wtm_at "s"
  refine ⟨_, _, rfl, pu, k + 1, m - 1, rfl, rfl, L1, by omega, by omega, by omega, fun r2 H2 r20 r21 L2 S2 => ?_⟩
  wtm_at "s"
  refine ⟨sz (by simp), fun p np => ?_⟩
  have np' := L2.fresh np
  have S3 := S1.trans S2
  have e : (if decide (r ≤ r2) = true then (1 : Int) else 0) = if r ≤ r2 then 1 else 0 := by simp
  refine q p r _ _ (fresh_hid S3 np np') np' (show Le _ pu (k + 2) from (show k + 1 + 1 = k + 2 by omega) ▸ L2.upd np') (S3.trans (same_hid_new np)) upd_same ?_ r0 r1 ?_ ?_
  all_goals rw [e]; split <;> omega
abbrev sp_law_way (K : PySem.W.Frag) : Sp := fun vs H Q E => ∃ v0 v1, vs = [v0, v1] ∧ pr_law_way K v0 v1 H Q E
theorem ok_law_way (T : Txt K mg A) : FnOk P w K mg base CX0 3 A.a_law_way A.d_law_way ["_law_left_here", "_law_many"] (sp_law_way K) := by
  refine T.F_law_way.ok sc_law_way (fun vs H Q E h => by obtain ⟨v0, v1, rfl, _⟩ := h; rfl) (fun cdv A0 outer s H vs Q E hr h => ?_)
  obtain ⟨v0, v1, rfl, h⟩ := h
  exact ⟨t_law_way K, (pss_cons (ps_set (i := 2) sc_law_way.nd rfl (Or.inl rfl) (pe_call (ok_law_draw T) (hr.mono (by decide)) (by rfl) T.g_law_draw T.F_law_draw.kp T.b_law_draw .nil pass0 (pa_cons (pv 0) (pa_cons (pv 1) pa_nil))))
      (pss_cons (ps_set (i := 3) sc_law_way.nd rfl (Or.inl rfl) (pe_call (ok_law_draw T) (hr.mono (by decide)) (by rfl) T.g_law_draw T.F_law_draw.kp T.b_law_draw .nil pass0 (pa_cons (pv 0) (pa_cons (pe_op op_sub (pv 1) pe_int) pa_nil))))
      (pss_one (ps_ret (pe_tup (pa_cons (pv 2) (pa_cons (pe_op op_add (pv 3) (pe_callTy q_intB (by rfl) T.z_int (by decide +kernel) (pa_cons (pe_cmpR op_ge (pv 3) (pv 2) (nomark _)) pa_nil))) pa_nil))))))), pure_law_way h⟩


def pr_law_net (K : PySem.W.Frag) (v0 : V) (H : Hp) (Q : VK) (_ : XK) : Prop := ∃ (pu : Addr) (k : Int), v0 = .ref pu ∧ Le H pu k ∧ k < 900000 ∧
  ∀ v (N : Net) k' H', Le H' pu k' → k' ≤ k + 100 → Same (hid [pu] H) (hid [pu] H') → Dp K (hid [pu] H') v N.d → N.ok → Q v H'
def t_law_net (K : PySem.W.Frag) : TS :=
  (tSeq (tAsg (tOp (rIxL K) (tLst (tCons (tC (.str (Str.ofString "line"))) (tCons (tC (.str (Str.ofString "ring"))) (tCons (tC (.str (Str.ofString "tree"))) tNil)))) (tCall (sp_law_draw K) [] E0 (tCons (tVar 0) (tCons (tC (.int 3)) tNil)))) (gName 1))
    (tSeq (tAsg (tOp (rIxL K) (tLst (tCons (tC (.int 4)) (tCons (tC (.int 9)) (tCons (tC (.int 58)) tNil)))) (tCall (sp_law_draw K) [] E0 (tCons (tVar 0) (tCons (tC (.int 3)) tNil)))) (gName 2))
    (tSeq (tAsg (tCall (sp_law_draw K) [] E0 (tCons (tVar 0) (tCons (tVar 2) tNil))) (gName 3))
    (tSeq (tIfS (tTest (tOp rEq (tVar 1) (tC (.str (Str.ofString "line"))))) (tRet (tTup (tCons (tC (.str (Str.ofString "line"))) (tCons (tOp xAdd (tC (.int 2)) (tVar 3)) tNil)))) tNext)
    (tSeq (tIfS (tTest (tOp rEq (tVar 1) (tC (.str (Str.ofString "ring"))))) (tRet (tTup (tCons (tC (.str (Str.ofString "ring"))) (tCons (tOp xAdd (tC (.int 3)) (tVar 3)) tNil)))) tNext)
    (tRet (tTup (tCons (tC (.str (Str.ofString "tree"))) (tCons (tLc (iRng1 (tCons (tOp xAdd (tC (.int 1)) (tVar 3)) tNil)) (gName 4) tYes (tCall (sp_law_draw K) [] E0 (tCons (tVar 0) (tCons (tOp xAdd (tVar 4) (tC (.int 1))) tNil))) [4]) tNil)))))))))
theorem tree_more {us : List Int} {i : Nat} {r : Int} (h : ∀ j : Nat, j < us.length → 0 ≤ us.getD j 0 ∧ us.getD j 0 ≤ j) (hl : us.length = i) (r0 : 0 ≤ r) (r1 : r < i + 1) : ∀ j : Nat, j < (us ++ [r]).length → 0 ≤ (us ++ [r]).getD j 0 ∧ (us ++ [r]).getD j 0 ≤ j := by
  intro j hj
  by_cases c : j < us.length
  · have e : (us ++ [r]).getD j 0 = us.getD j 0 := by rw [List.getD_eq_getElem?_getD, List.getD_eq_getElem?_getD, List.getElem?_append_left c]
    rw [e]; exact h j c
  · have hj' : j = us.length := by simp at hj; omega
    subst hj'
    have e : (us ++ [r]).getD us.length 0 = r := by rw [List.getD_eq_getElem?_getD, List.getElem?_append_right (Nat.le_refl _)]; simp
    rw [e]; omega
theorem pure_law_net {v0 : V} {H : Hp} {Q : VK} {E : XK} (h : pr_law_net K v0 H Q E) : t_law_net K ⟨fun _ H' => Q .non H', Q, fun _ _ => False, fun _ _ => False⟩ [some v0, none, none, none, none] H := by
  obtain ⟨pu, k, rfl, hL, hk, q⟩ := h
  unfold t_law_net
  wtm_at "s"
  refine ⟨sz (by simp), fun dl ndl => ?_⟩
  have ndl' := hL.fresh ndl
  wtm_at "s"
  refine ⟨_, _, rfl, pu, k, 3, rfl, rfl, hL.upd ndl', by omega, by decide, by decide, fun r H1 r0 r1 L1 S1 => ?_⟩
  have e1 := keeps S1 upd_same ndl'
  have S1' : Same (hid [pu] H) (hid [pu] H1) := (same_hid_new ndl).trans S1
  obtain ⟨s, hat, hs⟩ : ∃ s, atI [V.str (Str.ofString "line"), .str (Str.ofString "ring"), .str (Str.ofString "tree")] r = some (.str s) ∧ (s = Str.ofString "line" ∨ s = Str.ofString "ring" ∨ s = Str.ofString "tree") := by
    have c : r = 0 ∨ r = 1 ∨ r = 2 := by omega
    rcases c with rfl | rfl | rfl
    · exact ⟨_, rfl, .inl rfl⟩
    · exact ⟨_, rfl, .inr (.inl rfl)⟩
    · exact ⟨_, rfl, .inr (.inr rfl)⟩
  refine k_ixL (sl e1) hat ?_
  clear e1 hat S1 r0 r1 r
  wtm_at "s"
  refine ⟨sz (by simp), fun d2 nd2 => ?_⟩
  have nd2' := L1.fresh nd2
  wtm_at "s"
  refine ⟨_, _, rfl, pu, k + 1, 3, rfl, rfl, L1.upd nd2', by omega, by decide, by decide, fun r2 H2 r20 r21 L2 S2 => ?_⟩
  have e2 : H2 d2 = some (.lst (List.map V.int [4, 9, 58])) := keeps S2 upd_same nd2'
  have S2' : Same (hid [pu] H) (hid [pu] H2) := S1'.trans ((same_hid_new nd2).trans S2)
  refine k_ixI (sl e2) r20 (by simpa using r21) ?_
  have hv := getD_memI (ns := [4, 9, 58]) r20 (by simpa using r21)
  generalize ([4, 9, 58] : List Int).getD r2.toNat 0 = b at hv ⊢
  have hb : 1 ≤ b ∧ b ≤ 58 := by
    simp only [List.mem_cons, List.not_mem_nil, or_false] at hv
    rcases hv with rfl | rfl | rfl <;> omega
  clear hv e2 S2 r20 r21 S1'
  wtm_at "s"
  refine ⟨_, _, rfl, pu, k + 1 + 1, b, rfl, rfl, L2, by omega, by omega, by omega, fun m H3 m0 m1 L3 S3 => ?_⟩
  have S3' := S2'.trans S3
  clear S3 S2' L2 L1
  wtm_at "s"
  refine k_eqS ?_
  rcases hs with rfl | rfl | rfl
  · rw [s_same]
    wtm_at "s"
    refine ⟨sz (by simp), fun p np => ?_⟩
    have np' := L3.fresh np
    exact q (.ref p) (.line (2 + m)) (k + 1 + 1 + 1) _ (L3.upd np') (by omega) (S3'.trans (same_hid_new np)) (.tup (stp (by rw [hid_ne np', upd_same]; rfl)) (.cons (.str _) (.cons (.int _) .nil))) ⟨by omega, by omega⟩
  · rw [s_rl]
    wtm_at "s"
    refine k_eqS ?_
    rw [s_same]
    wtm_at "s"
    refine ⟨sz (by simp), fun p np => ?_⟩
    have np' := L3.fresh np
    exact q (.ref p) (.ring (3 + m)) (k + 1 + 1 + 1) _ (L3.upd np') (by omega) (S3'.trans (same_hid_new np)) (.tup (stp (by rw [hid_ne np', upd_same]; rfl)) (.cons (.str _) (.cons (.int _) .nil))) ⟨by omega, by omega⟩
  · rw [s_tl]
    wtm_at "s"
    refine k_eqS ?_
    rw [s_tr]
    wtm_at "s"
    intro D nD
    have nD' := L3.fresh nD
    have fr : hid [pu] H3 D = none := by rw [hid_ne nD']; exact nD
    refine lc_range (fun t H => Le H pu (k + 3 + t) ∧ Same (hid [pu] H3) (hid [pu] H) ∧ ∃ us, H D = some (.lst (List.map V.int us)) ∧ us.length = t ∧ ∀ j : Nat, j < us.length → 0 ≤ us.getD j 0 ∧ us.getD j 0 ≤ j) ⟨by
      have := L3.upd (o := .lst []) nD'
      rw [show k + 3 + ((0 : Nat) : Int) = k + 1 + 1 + 1 by omega]; exact this, same_hid_new nD, [], upd_same, rfl, fun j hj => by simp at hj⟩ ?_ ?_
    · rintro t H5 ht ⟨Lt, St, us, hD, hl, hok⟩
      wtm_at "s"
      refine ⟨_, _, rfl, pu, k + 3 + t, 0 + (t : Int) + 1, rfl, rfl, Lt, by omega, by omega, by omega, fun r H6 r0 r1 L6 S6 => ?_⟩
      refine ⟨_, keeps S6 hD nD', szl (by rw [List.length_map]; omega), ?_, ?_, us ++ [r], ?_, by simp [hl], tree_more hok hl r0 (by omega)⟩
      · rw [show k + 3 + ((t + 1 : Nat) : Int) = k + 3 + t + 1 by omega]; exact L6.upd nD'
      · exact same_hid_mut (St.trans S6) fr
      · rw [upd_same, List.map_append]; rfl
    · rintro H5 ⟨Lt, St, us, hD, hl, hok⟩
      wtm_at "s"
      refine ⟨sz (by simp), fun p np => ?_⟩
      have np' := Lt.fresh np
      have pd : D ≠ p := ne_of_none hD np
      refine q (.ref p) (.tree us) _ _ (Lt.upd np') (by omega) (S3'.trans (St.trans (same_hid_new np))) (.tup (xs := [.str (Str.ofString "tree"), .ref D]) (stp (by rw [hid_ne np', upd_same])) (.cons (.str _) (.cons (dp_of_ints (sl ?_)) .nil))) ⟨by omega, by omega, hok⟩
      rw [hid_ne nD', upd_ne pd]; exact hD
abbrev sp_law_net (K : PySem.W.Frag) : Sp := fun vs H Q E => ∃ v0, vs = [v0] ∧ pr_law_net K v0 H Q E
theorem ok_law_net (T : Txt K mg A) : FnOk P w K mg base CX0 3 A.a_law_net A.d_law_net ["_law_left_here"] (sp_law_net K) := by
  refine T.F_law_net.ok sc_law_net (fun vs H Q E h => by obtain ⟨v0, rfl, _⟩ := h; rfl) (fun cdv A0 outer s H vs Q E hr h => ?_)
  obtain ⟨v0, rfl, h⟩ := h
  exact ⟨t_law_net K, (pss_cons (ps_set (i := 1) sc_law_net.nd rfl (Or.inl rfl) (pe_ix ix_list (pe_lst (pa_cons pe_str (pa_cons pe_str (pa_cons pe_str pa_nil)))) (pe_call (ok_law_draw T) (hr.mono (by decide)) (by rfl) T.g_law_draw T.F_law_draw.kp T.b_law_draw .nil pass0 (pa_cons (pv 0) (pa_cons pe_int pa_nil))) (fun _ _ => rfl)))
      (pss_cons (ps_set (i := 2) sc_law_net.nd rfl (Or.inl rfl) (pe_ix ix_list (pe_lst (pa_cons pe_int (pa_cons pe_int (pa_cons pe_int pa_nil)))) (pe_call (ok_law_draw T) (hr.mono (by decide)) (by rfl) T.g_law_draw T.F_law_draw.kp T.b_law_draw .nil pass0 (pa_cons (pv 0) (pa_cons pe_int pa_nil))) (fun _ _ => rfl)))
      (pss_cons (ps_set (i := 3) sc_law_net.nd rfl (Or.inl rfl) (pe_call (ok_law_draw T) (hr.mono (by decide)) (by rfl) T.g_law_draw T.F_law_draw.kp T.b_law_draw .nil pass0 (pa_cons (pv 0) (pa_cons (pv 2) pa_nil))))
      (pss_cons (ps_if (pt_cmpR op_eq (pv 1) pe_str (nomark _)) (pss_one (ps_ret (pe_tup (pa_cons pe_str (pa_cons (pe_op op_add pe_int (pv 3)) pa_nil))))) pss_nil)
      (pss_cons (ps_if (pt_cmpR op_eq (pv 1) pe_str (nomark _)) (pss_one (ps_ret (pe_tup (pa_cons pe_str (pa_cons (pe_op op_add pe_int (pv 3)) pa_nil))))) pss_nil)
      (pss_one (ps_ret (pe_tup (pa_cons pe_str (pa_cons (pe_lc (own := [("_law_k", 4)]) (by rfl) sc_law_net.nd (pi_range1 (by rfl) T.z_range (pa_cons (pe_op op_add pe_int (pv 3)) pa_nil)) (blkOk_by (own := [("_law_k", 4)]) (N := ["_law_left_here", "_law_kind", "_law_size_here", "_law_many", "_law_k"]) (sc := defScope s_law_net) (by decide +kernel)) (fun _ _ _ _ _ => (pg_name (i := 4) sc_law_net.nd rfl (Or.inl rfl))) (fun _ _ _ _ _ => pts_nil) (fun _ _ _ _ _ => (pe_call (ok_law_draw T) (hr.mono (by decide)) (by rfl) T.g_law_draw T.F_law_draw.kp T.b_law_draw .nil pass0 (pa_cons (pv 0) (pa_cons (pe_op op_add (pv 4) pe_int) pa_nil))))) pa_nil)))))))))), pure_law_net h⟩
def pr_law_size (K : PySem.W.Frag) (v0 : V) (H : Hp) (Q : VK) (_ : XK) : Prop := ∃ N : Net, Dp K H v0 N.d ∧ Q (.int N.places) H
def t_law_size (K : PySem.W.Frag) : TS :=
  (tSeq (tIfS (tTest (tOp rEq (tOp (rIxT K) (tVar 0) (tC (.int 0))) (tC (.str (Str.ofString "tree"))))) (tRet (tOp xAdd (tCB (rLen K) (tCons (tOp (rIxT K) (tVar 0) (tC (.int 1))) tNil)) (tC (.int 1)))) tNext)
    (tRet (tOp (rIxT K) (tVar 0) (tC (.int 1)))))
theorem pure_law_size {v0 : V} {H : Hp} {Q : VK} {E : XK} (h : pr_law_size K v0 H Q E) : t_law_size K ⟨fun _ H' => Q .non H', Q, fun _ _ => False, fun _ _ => False⟩ [some v0] H := by
  obtain ⟨N, hd, q⟩ := h
  obtain ⟨a, y, rfl, hs, hy⟩ := dp_net hd
  unfold t_law_size
  wtm_at "s"
  refine k_eqS ?_
  cases N with
  | line n =>
    obtain rfl := dp_int hy
    rw [show Net.kind (.line n) = Str.ofString "line" from rfl, s_lt]
    wtm_at "s"
    exact q
  | ring n =>
    obtain rfl := dp_int hy
    rw [show Net.kind (.ring n) = Str.ofString "ring" from rfl, s_rt]
    wtm_at "s"
    exact q
  | tree ps =>
    obtain ⟨b, rfl, hb⟩ := dp_ints hy
    rw [show Net.kind (.tree ps) = Str.ofString "tree" from rfl, s_same]
    wtm_at "s"
    exact q
abbrev sp_law_size (K : PySem.W.Frag) : Sp := fun vs H Q E => ∃ v0, vs = [v0] ∧ pr_law_size K v0 H Q E
theorem ok_law_size (T : Txt K mg A) : FnOk P w K mg base CX0 1 A.a_law_size A.d_law_size ["_law_net_here"] (sp_law_size K) := by
  refine T.F_law_size.ok sc_law_size (fun vs H Q E h => by obtain ⟨v0, rfl, _⟩ := h; rfl) (fun cdv A0 outer s H vs Q E hr h => ?_)
  obtain ⟨v0, rfl, h⟩ := h
  exact ⟨t_law_size K, (pss_cons (ps_if (pt_cmpR op_eq (pe_ix ix_tup (pv 0) pe_int (fun _ _ => rfl)) pe_str (nomark _)) (pss_one (ps_ret (pe_op op_add (pe_callB q_len (by rfl) T.z_len (by decide +kernel) (pa_cons (pe_ix ix_tup (pv 0) pe_int (fun _ _ => rfl)) pa_nil)) pe_int))) pss_nil)
      (pss_one (ps_ret (pe_ix ix_tup (pv 0) pe_int (fun _ _ => rfl))))), pure_law_size h⟩
def WayIn (m : Int) (w : Int × Int) : Prop := w.1 ≠ w.2 ∧ 0 ≤ w.1 ∧ w.1 < m ∧ 0 ≤ w.2 ∧ w.2 < m
/-- a list of drawn ways -/
theorem lc_ways {σ : L2.St} {vs : List Nat} {i j l : Nat} {pu : Addr} {m kk lo : Int} {n : Nat} {H1 : Hp} {QD : Addr → Hp → Prop}
    (hi : ∀ x, ((wipe σ vs).set l (some x))[i]? = some (some (.ref pu))) (hj : ∀ x, ((wipe σ vs).set l (some x))[j]? = some (some (.int m))) (hwp : ∀ x, wipe ((wipe σ vs).set l (some x)) vs = wipe σ vs)
    (L : Le H1 pu kk) (hk : kk + 2 * n < 900000) (m0 : 2 ≤ m) (m1 : m < 2 ^ 100) (hn : n ≤ 10000)
    (h : ∀ D ys ws H', H1 D = none → D ∉ [pu] → Le H' pu (kk + 2 * n) → Same (hid [pu] H1) (hid [pu] H') → H' D = some (.lst ys) → DpAll K (hid [pu, D] H') ys (List.map dPair ws) → ws.length = n → (∀ w ∈ ws, WayIn m w) → QD D H') :
    ∀ D, H1 D = none → ∃ W : Nat → Nat → Hp → Prop, (∃ m, W 0 m (upd H1 D (.lst []))) ∧ ∀ t m' H, W t m' H →
      ((Itr lo n).stop t H ∧ QD D H) ∨ ((Itr lo n).go t H ∧ ∃ Nx : Hp → Prop, (∀ H', Nx H' → ∃ m'', m'' < m' ∧ W (t + 1) m'' H') ∧ ∀ x H', (Itr lo n).yld t H x H' → gName l x (wipe σ vs) H' fun σ2 H2 => wipe σ2 vs = wipe σ vs ∧ tYes σ2 H2 fun b H3 =>
        if b = true then tCall (sp_law_way K) [] E0 (tCons (tVar i) (tCons (tVar j) tNil)) σ2 H3 fun y H4 => ∃ acc, H4 D = some (.lst acc) ∧ acc.length < sizeLine ∧ Nx (upd H4 D (.lst (acc ++ [y]))) else Nx H3) := by
  intro D nD
  have nD' := L.fresh nD
  have fr : hid [pu] H1 D = none := by rw [hid_ne nD']; exact nD
  refine lc_range (fun t H => Le H pu (kk + 2 * t) ∧ Same (hid [pu] H1) (hid [pu] H) ∧ ∃ ys ws, H D = some (.lst ys) ∧ DpAll K (hid [pu, D] H) ys (List.map dPair ws) ∧ ws.length = t ∧ ∀ w ∈ ws, WayIn m w) ⟨by simpa using L.upd nD', same_hid_new nD, [], [], upd_same, .nil, rfl, fun _ z => by cases z⟩ ?_ ?_
  · rintro t H ht ⟨Lt, St, ys, ws, hD, hys, hl, hok⟩
    have ly := dpa_len hys
    rw [List.length_map] at ly
    refine ⟨hwp _, ?_⟩
    refine k_yes (iteT (k_call (k_cons (k_var (hi _) (k_cons (k_var (hj _) (k_nil ?_)))))))
    refine ⟨_, _, rfl, pu, kk + 2 * t, m, rfl, rfl, Lt, by omega, m0, m1, fun p a b H' np np' L' S' hp ne a0 a1 b0 b1 => ?_⟩
    have pd : p ≠ D := fun e => by rw [e, hD] at np; cases np
    refine ⟨ys, keeps S' hD nD', szl (by omega), ?_, ?_, ys ++ [.ref p], ws ++ [(a, b)], upd_same, ?_, by simp [hl], fun w hw => ?_⟩
    · have e : kk + 2 * ((t + 1 : Nat) : Int) = kk + 2 * t + 2 := by omega
      rw [e]; exact L'.upd nD'
    · exact same_hid_mut (St.trans S') fr
    · rw [hid_upd (by simp), List.map_append]
      refine dpa_app (dpa_same (hid_more S' (by simp)) hys) (.cons (dp_of_pair (stp ?_)) .nil)
      rw [hid_ne (not_in2 (fun e => np' (by rw [e]; simp)) pd)]; exact hp
    · rcases List.mem_append.mp hw with hw | hw
      · exact hok w hw
      · have e : w = (a, b) := by simpa using hw
        subst e
        exact ⟨ne, a0, a1, b0, b1⟩
  · rintro H ⟨Lt, St, ys, ws, hD, hys, hl, hok⟩
    exact h D ys ws H nD nD' Lt St hD hys hl hok
/-- draw(left, [..][draw(left, n)]) -/
theorem rd_pick {σ : L2.St} {i : Nat} {pu : Addr} {kk : Int} {cs : List Int} {ta : TA} {hi : Int} {H : Hp} {Q : VK} (hv : σ[i]? = some (some (.ref pu))) (L : Le H pu kk) (hk : kk < 900000)
    (hta : ∀ (H : Hp) (R : List V → Hp → Prop), R (cs.map V.int) H → ta σ H R) (hc : cs.length ≤ 100) (c0 : 0 < cs.length) (hb : ∀ c ∈ cs, 1 ≤ c ∧ c ≤ hi) (hh : hi < 2 ^ 100)
    (q : ∀ d H', 0 ≤ d → d < hi → Le H' pu (kk + 2) → Same (hid [pu] H) (hid [pu] H') → Q (.int d) H') :
    tCall (sp_law_draw K) [] E0 (tCons (tVar i) (tCons (tOp (rIxL K) (tLst ta) (tCall (sp_law_draw K) [] E0 (tCons (tVar i) (tCons (tC (.int cs.length)) tNil)))) tNil)) σ H Q := by
  refine k_call (k_cons (k_var hv (k_cons (k_op (k_lst (hta _ _ ⟨sz (by rw [List.length_map]; omega), fun dl ndl => ?_⟩))))))
  refine k_call (k_cons (k_var hv (k_cons (k_c (k_nil ?_)))))
  have ndl' := L.fresh ndl
  refine ⟨_, _, rfl, pu, kk, cs.length, rfl, rfl, L.upd ndl', by omega, by omega, by omega, fun r H2 r0 r1 L2 S2 => ?_⟩
  refine k_ixI (sl (keeps S2 upd_same ndl')) r0 r1 ?_
  have hm := hb _ (getD_memI r0 r1)
  refine k_nil ?_
  refine ⟨_, _, rfl, pu, kk + 1, _, rfl, rfl, L2, by omega, by omega, by omega, fun d H3 d0 d1 L3 S3 => ?_⟩
  refine q d H3 d0 (by omega) ?_ ((same_hid_new ndl).trans (S2.trans S3))
  rw [show kk + 2 = kk + 1 + 1 by omega]; exact L3


def pr_law_ties (K : PySem.W.Frag) (v0 v1 : V) (H : Hp) (Q : VK) (_ : XK) : Prop := ∃ (N : Net) (a b : Int), Dp K H v0 N.d ∧ N.ok ∧ Dp K H v1 (dPair (a, b)) ∧ isWay N a b ∧ ∀ p ns H', H p = none → Same H H' → H' p = some (.lst (List.map V.int ns)) → ns.Pairwise (· < ·) → (∀ t, t ∈ ns ↔ OnTie N a b t) → Q (.ref p) H'
def t_law_ties (K : PySem.W.Frag) : TS :=
  (tSeq (tAsg (tCall (sp_law_size K) [] E0 (tCons (tVar 0) tNil)) (gName 2))
    (tSeq (tIfS (tTest (tOp rEq (tOp (rIxT K) (tVar 0) (tC (.int 0))) (tC (.str (Str.ofString "line"))))) (tRet (tLc (iRng1 (tCons (tOp xSub (tVar 2) (tC (.int 1))) tNil)) (gName 7) (tAnd (tTest (tOp xLe (tCB (rMinT K) (tCons (tVar 1) tNil)) (tVar 7))) (tTest (tOp xLt (tVar 7) (tCB (rMaxT K) (tCons (tVar 1) tNil))))) (tVar 7) [7])) tNext)
    (tSeq (tIfS (tTest (tOp rEq (tOp (rIxT K) (tVar 0) (tC (.int 0))) (tC (.str (Str.ofString "ring"))))) (tSeq (tAsg (tOp xMod (tOp xSub (tOp (rIxT K) (tVar 1) (tC (.int 1))) (tOp (rIxT K) (tVar 1) (tC (.int 0)))) (tVar 2)) (gName 3))
    (tRet (tLc (iRng1 (tCons (tVar 2) tNil)) (gName 7) (tTest (tOp xLt (tOp xMod (tOp xSub (tVar 7) (tOp (rIxT K) (tVar 1) (tC (.int 0)))) (tVar 2)) (tVar 3))) (tVar 7) [7]))) tNext)
    (tSeq (tAsg (tLst tNil) (gName 4))
    (tSeq (tFor (iTup K (tVar 1)) (gName 5)
      (tSeq (tAsg (tLst (tCons (tVar 5) tNil)) (gName 6))
    (tSeq (tWhile (tTest (tOp xGt (tOp (rIxL K) (tVar 6) (tUn xNeg (tC (.int 1)))) (tC (.int 0))))
      (tDrop (tBM K "list" rAppend (tVar 6) (tCons (tOp (rIxL K) (tOp (rIxT K) (tVar 0) (tC (.int 1))) (tOp xSub (tOp (rIxL K) (tVar 6) (tUn xNeg (tC (.int 1)))) (tC (.int 1)))) tNil))))
    (tDrop (tBM K "list" rAppend (tVar 4) (tCons (tVar 6) tNil))))))
    (tRet (tLc (iRng1 (tCons (tOp xSub (tVar 2) (tC (.int 1))) tNil)) (gName 7) (tTest (tOp rNe (tOp (rIn K false) (tOp xAdd (tVar 7) (tC (.int 1))) (tOp (rIxL K) (tVar 4) (tC (.int 0)))) (tOp (rIn K false) (tOp xAdd (tVar 7) (tC (.int 1))) (tOp (rIxL K) (tVar 4) (tC (.int 1)))))) (tVar 7) [7])))))))
theorem forT {K : PySem.W.Frag} {σ : L2.St} {H : Hp} {nx : L2.St → Hp → Prop} {rt : VK} {b : Addr} {xs : List V} {g : TG} {tb : TS} (hs0 : SqT K H b xs) (Pv : Nat → L2.St → Hp → Prop) (h0 : Pv 0 σ H) (hl : ∀ i σ H, i ≤ xs.length → Pv i σ H → SqT K H b xs)
    (hs : ∀ (i : Nat) x σ H, xs[i]? = some x → Pv i σ H → g x σ H fun σ2 H2 => tb ⟨Pv (i + 1), rt, nx, Pv (i + 1)⟩ σ2 H2) (hd : ∀ σ H, Pv xs.length σ H → nx σ H) :
    ∃ a, V.ref b = .ref a ∧ (∃ xs, SqT K H a xs) ∧ ∃ W : Nat → Nat → L2.St → Hp → Prop, (∃ m, W 0 m σ H) ∧ ∀ i m σ H, W i m σ H →
      ((Itt K a).stop i H ∧ nx σ H) ∨ ((Itt K a).go i H ∧ ∃ N : L2.St → Hp → Prop, (∀ σ' H', N σ' H' → ∃ m', m' < m ∧ W (i + 1) m' σ' H') ∧ ∀ x H', (Itt K a).yld i H x H' → g x σ H' fun σ2 H2 => tb ⟨N, rt, nx, N⟩ σ2 H2) :=
  ⟨b, rfl, ⟨xs, hs0⟩, for_tup (D := ⟨nx, rt, fun _ _ => False, fun _ _ => False⟩) Pv h0 hl hs hd⟩
/-- the numbers below n that P takes -/
def keepI (n : Nat) (P : Nat → Bool) : List Int := ((List.range n).filter P).map fun (i : Nat) => (i : Int)
theorem keepI_fm (n : Nat) (P : Nat → Bool) : (List.range n).filterMap (fun i => if P i = true then some (V.int (0 + (i : Nat))) else none) = List.map V.int (keepI n P) := by
  unfold keepI
  rw [List.map_map]
  induction (List.range n) with
  | nil => rfl
  | cons x r ih =>
    by_cases c : P x = true
    · rw [List.filterMap_cons, if_pos c, List.filter_cons, if_pos c]
      simp only [List.map_cons]
      rw [ih]
      simp
    · rw [List.filterMap_cons, if_neg c, List.filter_cons, if_neg c]
      exact ih
theorem keepI_srt (n : Nat) (P : Nat → Bool) : (keepI n P).Pairwise (· < ·) := by
  unfold keepI
  exact List.pairwise_map.mpr ((List.pairwise_lt_range.filter P).imp fun h => by omega)
theorem keepI_mem {n : Nat} {P : Nat → Bool} {t : Int} : t ∈ keepI n P ↔ 0 ≤ t ∧ t < n ∧ P t.toNat = true := by
  unfold keepI
  rw [List.mem_map]
  constructor
  · rintro ⟨i, hi, rfl⟩
    obtain ⟨h1, h2⟩ := List.mem_filter.mp hi
    have := List.mem_range.mp h1
    exact ⟨by omega, by omega, by rw [Int.toNat_natCast]; exact h2⟩
  · rintro ⟨h0, h1, h2⟩
    exact ⟨t.toNat, List.mem_filter.mpr ⟨List.mem_range.mpr (by omega), h2⟩, by omega⟩
/-- hs: the places from x up to the root -/
def Chain (ps : List Int) (x : Int) (hs : List Int) : Prop := ∀ k : Nat, 1 ≤ k → ((k : Int) ∈ hs ↔ below ps k x.toNat = true)
theorem up_mod {n a t : Int} (a0 : 0 ≤ a) (a1 : a < n) (t0 : 0 ≤ t) (t1 : t < n) : (t - a) % n = up n a t := by
  unfold up
  split
  · exact Int.emod_eq_of_lt (by omega) (by omega)
  · rw [← Int.add_emod_right]
    exact Int.emod_eq_of_lt (by omega) (by omega)
theorem pure_law_ties {v0 v1 : V} {H : Hp} {Q : VK} {E : XK} (h : pr_law_ties K v0 v1 H Q E) : t_law_ties K ⟨fun _ H' => Q .non H', Q, fun _ _ => False, fun _ _ => False⟩ [some v0, some v1, none, none, none, none, none, none] H := by
  obtain ⟨N, a, b, hd, ok, hw, ⟨w1, w2, w3, w4, w5⟩, q⟩ := h
  unfold t_law_ties
  wtm_at "s"
  refine ⟨_, rfl, N, hd, ?_⟩
  obtain ⟨c, y, rfl, hs, hy⟩ := dp_net hd
  obtain ⟨p, rfl, hp⟩ := dp_pair hw
  wtm_at "s"
  refine k_eqS ?_
  cases N with
  | line n =>
    obtain rfl := dp_int hy
    obtain ⟨o1, o2⟩ := ok
    have w4' : a < n := w4
    have w5' : b < n := w5
    rw [show Net.kind (.line n) = Str.ofString "line" from rfl, show Net.places (.line n) = n from rfl, s_same]
    wtm_at "s"
    refine lc_pureR (by omega) (fun i => if decide (min a b ≤ (i : Int) ∧ (i : Int) < max a b) = true then some (V.int (0 + (i : Nat))) else none) ?_ (fun D H' nD sm hD => ?_)
    · intro i H' hi sm R R0 h1 h2
      have hp' := same_seqT sm hp
      have e0 : (0 + (i : Int)) = i := by omega
      refine k_gname (k_wipe (by with_unfolding_all rfl) ?_)
      wtm_at "s"
      rw [e0]
      by_cases c1 : min a b ≤ (i : Int)
      · rw [if_pos (decide_eq_true c1)]
        wtm_at "s"
        by_cases c2 : (i : Int) < max a b
        · rw [if_pos (decide_eq_true c2)]
          wtm_at "s"
          exact h1 _ (by rw [if_pos (decide_eq_true ⟨c1, c2⟩), e0])
        · rw [decide_eq_false c2]
          exact iteF (h2 (by rw [if_neg]; simp only [decide_eq_true_eq]; exact fun z => c2 z.2))
      · rw [decide_eq_false c1]
        exact iteF (iteF (h2 (by rw [if_neg]; simp only [decide_eq_true_eq]; exact fun z => c1 z.1)))
    · rw [keepI_fm _ (fun i => decide (min a b ≤ (i : Int) ∧ (i : Int) < max a b))] at hD
      refine q D _ H' nD sm hD (keepI_srt _ _) fun t => ?_
      rw [keepI_mem]
      show 0 ≤ t ∧ t < _ ∧ _ ↔ min a b ≤ t ∧ t < max a b
      simp only [decide_eq_true_eq]
      omega
  | ring n =>
    obtain rfl := dp_int hy
    obtain ⟨o1, o2⟩ := ok
    have w4' : a < n := w4
    have w5' : b < n := w5
    rw [show Net.kind (.ring n) = Str.ofString "ring" from rfl] at hs ⊢
    rw [show Net.places (.ring n) = n from rfl, s_rl]
    wtm_at "s"
    refine k_eqS ?_
    rw [s_same]
    wtm_at "s"
    rw [up_mod w2 w4' w3 w5']
    refine lc_pureR (by omega) (fun i => if decide (up n a (i : Int) < up n a b) = true then some (V.int (0 + (i : Nat))) else none) ?_ (fun D H' nD sm hD => ?_)
    · intro i H' hi sm R R0 h1 h2
      have hp' := same_seqT sm hp
      refine k_gname (k_wipe (by with_unfolding_all rfl) ?_)
      wtm_at "s"
      rw [show (0 + (i : Int)) - a = i - a by omega, up_mod w2 w4' (by omega) (by omega)]
      by_cases c1 : up n a (i : Int) < up n a b
      · rw [if_pos (decide_eq_true c1)]
        wtm_at "s"
        exact h1 _ (by rw [if_pos (decide_eq_true c1)])
      · rw [decide_eq_false c1]
        exact iteF (h2 (by rw [if_neg]; simp only [decide_eq_true_eq]; exact c1))
    · rw [keepI_fm _ (fun i => decide (up n a (i : Int) < up n a b))] at hD
      refine q D _ H' nD sm hD (keepI_srt _ _) fun t => ?_
      rw [keepI_mem]
      show 0 ≤ t ∧ t < _ ∧ _ ↔ 0 ≤ t ∧ t < n ∧ up n a t < up n a b
      constructor
      · rintro ⟨h0, h1, h2⟩
        refine ⟨h0, by omega, ?_⟩
        have := of_decide_eq_true h2
        rw [show ((t.toNat : Nat) : Int) = t by omega] at this
        exact this
      · rintro ⟨h0, h1, h2⟩
        refine ⟨h0, by omega, decide_eq_true ?_⟩
        rw [show ((t.toNat : Nat) : Int) = t by omega]
        exact h2
  | tree ps =>
    obtain ⟨d, rfl, hdl⟩ := dp_ints hy
    rw [show Net.kind (.tree ps) = Str.ofString "tree" from rfl] at hs ⊢
    rw [s_tl]
    have w4' : a < ps.length + 1 := w4
    have w5' : b < ps.length + 1 := w5
    have l60 := ok.2.1
    wtm_at "s"
    refine k_eqS ?_
    rw [s_tr]
    wtm_at "s"
    refine ⟨sz (by simp), fun fo nfo => ?_⟩
    have s1 := same_new (o := .lst []) nfo
    have e1 : upd H fo (.lst []) fo = some (.lst (List.map V.ref [])) := upd_same
    generalize upd H fo (.lst []) = H1 at s1 e1 ⊢
    wtm_at "s"
    have pl : ∀ (i : Nat) x, [V.int a, V.int b][i]? = some x → ∃ z, x = .int z ∧ z = [a, b].getD i 0 ∧ 0 ≤ z ∧ z < ps.length + 1 := by
      intro i x hx
      match i, hx with
      | 0, hx => exact ⟨a, by simpa using hx.symm, rfl, w2, w4'⟩
      | 1, hx => exact ⟨b, by simpa using hx.symm, rfl, w3, w5'⟩
    refine forT (same_seqT s1 hp) (fun i σ' H' => ∃ k5 k6 ds, σ' = [some (.ref c), some (.ref p), some (.int (Net.tree ps).places), none, some (.ref fo), k5, k6, none] ∧ Same H H' ∧ H' fo = some (.lst (List.map V.ref ds)) ∧ ds.length = i ∧
      ∀ (j : Nat) (e : Addr), ds[j]? = some e → H e = none ∧ e ≠ fo ∧ ∃ hs, H' e = some (.lst (List.map V.int hs)) ∧ Chain ps ([a, b].getD j 0) hs) ⟨_, _, [], rfl, s1, e1, rfl, fun j e he => by simp at he⟩ (fun i σ' H' _ ⟨_, _, _, _, sm, _⟩ => same_seqT sm hp) ?_ ?_
    · rintro i x σ' H2 hx ⟨k5, k6, ds, rfl, sm, hfo, hl, hds⟩
      have hi : i < 2 := (List.getElem?_eq_some_iff.mp hx).1
      obtain ⟨z, rfl, hz, z0, z1⟩ := pl i x hx
      wtm_at "s"
      refine ⟨sz (by simp), fun he nhe => ?_⟩
      have s2 := same_new (o := .lst [.int z]) nhe
      have e2 : upd H2 he (.lst [.int z]) he = some (.lst (List.map V.int ([] ++ [z]))) := upd_same
      have nhe0 := sm.free nhe
      have foN : fo ≠ he := ne_of_none hfo nhe
      have s2' : ∀ b o, H2 b = some o → b ≠ he := fun b o h => ne_of_none h nhe
      generalize upd H2 he (.lst [.int z]) = H3 at s2 e2 ⊢
      wtm_at "s"
      refine ⟨fun m σ' H' => ∃ (x : Int) (l : List Int), σ' = [some (.ref c), some (.ref p), some (.int (Net.tree ps).places), none, some (.ref fo), some (.int z), some (.ref he), none] ∧ Same H2 H' ∧ H' he = some (.lst (List.map V.int (l ++ [x]))) ∧ (m : Int) = x ∧ x ≤ z ∧ (l.length : Int) + x ≤ z ∧
        ∀ k : Nat, 1 ≤ k → (below ps k z.toNat = true ↔ (k : Int) ∈ l ++ [x] ∨ below ps k x.toNat = true), ⟨z.toNat, z, [], rfl, s2, e2, by omega, by omega, by simp, fun k hk => by
          constructor
          · exact .inr
          · rintro (h | h)
            · have : (k : Int) = z := by simpa using h
              rw [show z.toNat = k by omega]; exact below_self k
            · exact h⟩, ?_⟩
      rintro m σ' H4 ⟨x, l, rfl, s4, e4, hm, hxz, hlx, hc⟩
      have at4 : atI (List.map V.int (l ++ [x])) (-1) = some (.int x) := by rw [List.map_append]; exact atI_last _ _
      wtm_at "s"
      refine k_ixL (sl e4) at4 ?_
      wtm_at "s"
      refine k_it (fun c1 => ?_) (fun c1 => ?_)
      · have hpx := ok.2.2 (x - 1).toNat (by omega)
        refine ⟨fun σ' H' => ∃ m', m' < m ∧ ∃ (x : Int) (l : List Int), σ' = [some (.ref c), some (.ref p), some (.int (Net.tree ps).places), none, some (.ref fo), some (.int z), some (.ref he), none] ∧ Same H2 H' ∧ H' he = some (.lst (List.map V.int (l ++ [x]))) ∧ (m' : Int) = x ∧ x ≤ z ∧ (l.length : Int) + x ≤ z ∧
          ∀ k : Nat, 1 ≤ k → (below ps k z.toNat = true ↔ (k : Int) ∈ l ++ [x] ∨ below ps k x.toNat = true), fun σ' H' h => h, ?_⟩
        have s04 := sm.trans s4
        have hs4 := same_seqT s04 hs
        wtm_at "s"
        refine k_tyL (sl e4) ?_
        wtm_at "s"
        refine k_ixL (sl e4) at4 ?_
        wtm_at "s"
        refine k_ixI (s04.seq hdl) (by omega) (by omega) ?_
        wtm_at "s"
        refine k_append e4 (by simp; omega) ?_
        wtm_at "s"
        generalize hx' : ps.getD (x - 1).toNat 0 = x' at hpx ⊢
        refine ⟨x'.toNat, by omega, x', l ++ [x], rfl, same_mut s4 nhe, by rw [upd_same, List.map_append (l₂ := [x'])]; rfl, by omega, by omega, by simp; omega, fun k hk => ?_⟩
        rw [hc k hk]
        have ex : x.toNat = (x - 1).toNat + 1 := by omega
        constructor
        · rintro (h | h)
          · exact .inl (List.mem_append_left _ h)
          · by_cases ck : k = x.toNat
            · exact .inl (List.mem_append_left _ (List.mem_append_right _ (by simp; omega)))
            · rw [ex, below_step ok (by omega) (by omega), hx'] at h
              exact .inr h
        · rintro (h | h)
          · rcases List.mem_append.mp h with h | h
            · exact .inl h
            · have : (k : Int) = x' := by simpa using h
              refine .inr ?_
              rw [ex, below_step ok (by omega) (by omega), hx', show x'.toNat = k by omega]
              exact below_self k
          · by_cases ck : k = x.toNat
            · exact .inl (List.mem_append_right _ (by simp; omega))
            · refine .inr ?_
              rw [ex, below_step ok (by omega) (by omega), hx']
              exact h
      · have x0 : x = 0 := by omega
        subst x0
        have fo4 := s4 _ _ hfo
        wtm_at "s"
        refine k_tyL (sl fo4) ?_
        wtm_at "s"
        refine k_append fo4 (by rw [List.length_map]; omega) ?_
        wtm_at "s"
        refine ⟨_, _, ds ++ [he], rfl, same_mut (sm.trans s4) nfo, by rw [upd_same, List.map_append]; rfl, by simp [hl], fun j e hj => ?_⟩
        by_cases cj : j < ds.length
        · rw [List.getElem?_append_left cj] at hj
          obtain ⟨g1, g2, hs', g3, g4⟩ := hds j e hj
          exact ⟨g1, g2, hs', by rw [upd_ne g2]; exact s4 _ _ g3, g4⟩
        · have hj' : j = ds.length := by
            have := (List.getElem?_eq_some_iff.mp hj).1
            simp at this; omega
          subst hj'
          have he' : e = he := by simpa using hj.symm
          subst he'
          refine ⟨nhe0, foN.symm, l ++ [0], by rw [upd_ne foN.symm]; exact e4, ?_⟩
          rw [hl, ← hz]
          intro k hk
          rw [hc k hk]
          constructor
          · exact .inl
          · rintro (h | h)
            · exact h
            · rw [show (0 : Int).toNat = 0 from rfl, below_lt 0 (by omega)] at h; cases h
    · rintro σ' H2 ⟨k5, k6, ds, rfl, sm, hfo, hl, hds⟩
      match ds, hl with
      | [d1, d2], _ =>
      obtain ⟨_, _, h1, e1, c1⟩ := hds 0 d1 rfl
      obtain ⟨_, _, h2, e2, c2⟩ := hds 1 d2 rfl
      have hfo' : H2 fo = some (.lst [.ref d1, .ref d2]) := hfo
      have hpl : (Net.tree ps).places = ps.length + 1 := rfl
      wtm_at "s"
      rw [hpl]
      refine lc_pureR (by omega) (fun i => if decide (¬ (((i : Int) + 1 ∈ h1) ↔ ((i : Int) + 1 ∈ h2))) = true then some (V.int (0 + (i : Nat))) else none) ?_ (fun D H' nD sm2 hD => ?_)
      · intro i H' hi sm2 R R0 g1 g2
        have e0 : (0 + (i : Int)) = i := by omega
        have hfo2 := sm2 _ _ hfo'
        have e1' := sm2 _ _ e1
        have e2' := sm2 _ _ e2
        refine k_gname (k_wipe (by with_unfolding_all rfl) ?_)
        wtm_at "s"
        refine k_ixL (sl hfo2) (v := .ref d1) rfl ?_
        wtm_at "s"
        refine k_ixL (sl hfo2) (v := .ref d2) rfl ?_
        wtm_at "s"
        rw [e0]
        by_cases c : ((i : Int) + 1 ∈ h1) ↔ ((i : Int) + 1 ∈ h2)
        · refine k_itNF (decide_eq_decide.mpr c) ?_
          exact g2 (by rw [if_neg]; simp only [decide_eq_true_eq]; exact fun z => z c)
        · refine k_itNT (fun z => c (decide_eq_decide.mp z)) ?_
          wtm_at "s"
          exact g1 _ (by rw [if_pos (decide_eq_true c), e0])
      · rw [keepI_fm _ (fun i => decide (¬ (((i : Int) + 1 ∈ h1) ↔ ((i : Int) + 1 ∈ h2))))] at hD
        refine q D _ H' (sm.free nD) (sm.trans sm2) hD (keepI_srt _ _) fun t => ?_
        rw [keepI_mem]
        show 0 ≤ t ∧ t < _ ∧ _ ↔ 0 ≤ t ∧ t < ps.length ∧ below ps (t.toNat + 1) a.toNat ≠ below ps (t.toNat + 1) b.toNat
        have c1' := c1 (t.toNat + 1) (by omega)
        have c2' := c2 (t.toNat + 1) (by omega)
        rw [show ((t.toNat + 1 : Nat) : Int) = (t.toNat : Int) + 1 by omega] at c1' c2'
        rw [decide_eq_true_eq, c1', c2']
        show 0 ≤ t ∧ t < _ ∧ ¬ (below ps (t.toNat + 1) a.toNat = true ↔ below ps (t.toNat + 1) b.toNat = true) ↔ _
        rw [← Bool.eq_iff_iff]
        constructor
        · rintro ⟨x1, x2, x3⟩; exact ⟨x1, by omega, x3⟩
        · rintro ⟨x1, x2, x3⟩; exact ⟨x1, by omega, x3⟩
abbrev sp_law_ties (K : PySem.W.Frag) : Sp := fun vs H Q E => ∃ v0 v1, vs = [v0, v1] ∧ pr_law_ties K v0 v1 H Q E
theorem ok_law_ties (T : Txt K mg A) : FnOk P w K mg base CX0 2 A.a_law_ties A.d_law_ties ["_law_net_here", "_law_way_here"] (sp_law_ties K) := by
  refine T.F_law_ties.ok sc_law_ties (fun vs H Q E h => by obtain ⟨v0, v1, rfl, _⟩ := h; rfl) (fun cdv A0 outer s H vs Q E hr h => ?_)
  obtain ⟨v0, v1, rfl, h⟩ := h
  exact ⟨t_law_ties K, (pss_cons (ps_set (i := 2) sc_law_ties.nd rfl (Or.inr rfl) (pe_call (ok_law_size T) (hr.mono (by decide)) (by rfl) T.g_law_size T.F_law_size.kp T.b_law_size .nil pass0 (pa_cons (pv 0) pa_nil)))
      (pss_cons (ps_if (pt_cmpR op_eq (pe_ix ix_tup (pv 0) pe_int (fun _ _ => rfl)) pe_str (nomark _)) (pss_one (ps_ret (pe_lc (own := [("_law_k", 7)]) (by rfl) sc_law_ties.nd (pi_range1 (by rfl) T.z_range (pa_cons (pe_op op_sub (pv 2) pe_int) pa_nil)) (blkOk_by (own := [("_law_k", 7)]) (N := ["_law_net_here", "_law_way_here", "_law_many", "_law_far", "_law_below", "_law_place", "_law_held", "_law_k"]) (sc := defScope s_law_ties) (by decide +kernel)) (fun _ _ _ _ _ => (pg_name (i := 7) sc_law_ties.nd rfl (Or.inl rfl))) (fun _ _ _ _ _ => (pts_one (PW.pt (pw_and (pt_cmpR op_le (pe_callB (q_minT (by rfl) hr.units) (by rfl) T.z_min (by decide +kernel) (pa_cons (pv 1) pa_nil)) (pv 7) (nomark _)) (pw_and1 (pt_cmpR op_lt (pv 7) (pe_callB (q_maxT (by rfl) hr.units) (by rfl) T.z_max (by decide +kernel) (pa_cons (pv 1) pa_nil)) (nomark _))))))) (fun _ _ _ _ _ => (pv 7))))) pss_nil)
      (pss_cons (ps_if (pt_cmpR op_eq (pe_ix ix_tup (pv 0) pe_int (fun _ _ => rfl)) pe_str (nomark _)) (pss_cons (ps_set (i := 3) sc_law_ties.nd rfl (Or.inr rfl) (pe_op op_mod (pe_op op_sub (pe_ix ix_tup (pv 1) pe_int (fun _ _ => rfl)) (pe_ix ix_tup (pv 1) pe_int (fun _ _ => rfl))) (pv 2)))
      (pss_one (ps_ret (pe_lc (own := [("_law_k", 7)]) (by rfl) sc_law_ties.nd (pi_range1 (by rfl) T.z_range (pa_cons (pv 2) pa_nil)) (blkOk_by (own := [("_law_k", 7)]) (N := ["_law_net_here", "_law_way_here", "_law_many", "_law_far", "_law_below", "_law_place", "_law_held", "_law_k"]) (sc := defScope s_law_ties) (by decide +kernel)) (fun _ _ _ _ _ => (pg_name (i := 7) sc_law_ties.nd rfl (Or.inl rfl))) (fun _ _ _ _ _ => (pts_one (pt_cmpR op_lt (pe_op op_mod (pe_op op_sub (pv 7) (pe_ix ix_tup (pv 1) pe_int (fun _ _ => rfl))) (pv 2)) (pv 3) (nomark _)))) (fun _ _ _ _ _ => (pv 7)))))) pss_nil)
      (pss_cons (ps_set (i := 4) sc_law_ties.nd rfl (Or.inr rfl) (pe_lst pa_nil))
      (pss_cons (ps_for PassesOwn.never rfl (pi_tup (pv 1)) (pg_name (i := 5) sc_law_ties.nd rfl (Or.inl rfl))
      (pss_cons (ps_set (i := 6) sc_law_ties.nd rfl (Or.inl rfl) (pe_lst (pa_cons (pv 5) pa_nil)))
      (pss_cons (ps_while PassesOwn.never (pt_cmpR op_gt (pe_ix ix_list (pv 6) (pe_un un_neg pe_int) (fun _ _ => rfl)) pe_int (nomark _))
      (pss_one (ps_expr (pe_bm PySem.F.plainAttrs_list PySem.F.slot_list_append PySem.F.type_list_append mt_append (pv 6) (pa_cons (pe_ix ix_list (pe_ix ix_tup (pv 0) pe_int (fun _ _ => rfl)) (pe_op op_sub (pe_ix ix_list (pv 6) (pe_un un_neg pe_int) (fun _ _ => rfl)) pe_int) (fun _ _ => rfl)) pa_nil)))))
      (pss_one (ps_expr (pe_bm PySem.F.plainAttrs_list PySem.F.slot_list_append PySem.F.type_list_append mt_append (pv 4) (pa_cons (pv 6) pa_nil)))))))
      (pss_one (ps_ret (pe_lc (own := [("_law_k", 7)]) (by rfl) sc_law_ties.nd (pi_range1 (by rfl) T.z_range (pa_cons (pe_op op_sub (pv 2) pe_int) pa_nil)) (blkOk_by (own := [("_law_k", 7)]) (N := ["_law_net_here", "_law_way_here", "_law_many", "_law_far", "_law_below", "_law_place", "_law_held", "_law_k"]) (sc := defScope s_law_ties) (by decide +kernel)) (fun _ _ _ _ _ => (pg_name (i := 7) sc_law_ties.nd rfl (Or.inl rfl))) (fun _ _ _ _ _ => (pts_one (pt_cmpR op_ne (pe_cmpR op_in_seq (pe_op op_add (pv 7) pe_int) (pe_ix ix_list (pv 4) pe_int (fun _ _ => rfl)) (by rfl)) (pe_cmpR op_in_seq (pe_op op_add (pv 7) pe_int) (pe_ix ix_list (pv 4) pe_int (fun _ _ => rfl)) (by rfl)) (nomark _)))) (fun _ _ _ _ _ => (pv 7)))))))))), pure_law_ties h⟩
def commonB (xs ys : List Int) : Bool := xs.any fun t => decide (t ∈ ys)
theorem common_iff {xs ys : List Int} : commonB xs ys = true ↔ ∃ t, t ∈ xs ∧ t ∈ ys := by
  unfold commonB
  rw [List.any_eq_true]
  constructor
  · rintro ⟨t, h1, h2⟩; exact ⟨t, h1, of_decide_eq_true h2⟩
  · rintro ⟨t, h1, h2⟩; exact ⟨t, h1, decide_eq_true h2⟩
def pr_law_common (K : PySem.W.Frag) (v0 v1 : V) (H : Hp) (Q : VK) (_ : XK) : Prop := ∃ (a b : Addr) (xs ys : List Int), v0 = .ref a ∧ v1 = .ref b ∧ SqL K H a (xs.map V.int) ∧ SqL K H b (ys.map V.int) ∧ xs.length ≤ 1000 ∧ ∀ H', Same H H' → Q (.bl (commonB xs ys)) H'
def t_law_common (K : PySem.W.Frag) : TS :=
  (tRet (tOp xGt (tCB (rLen K) (tCons (tLc (iList K (tVar 0)) (gName 2) (tTest (tOp (rIn K false) (tVar 2) (tVar 1))) (tVar 2) [2]) tNil)) (tC (.int 0))))
theorem pure_law_common {v0 v1 : V} {H : Hp} {Q : VK} {E : XK} (h : pr_law_common K v0 v1 H Q E) : t_law_common K ⟨fun _ H' => Q .non H', Q, fun _ _ => False, fun _ _ => False⟩ [some v0, some v1, none] H := by
  obtain ⟨a, b, xs, ys, rfl, rfl, ha, hb, hz, q⟩ := h
  unfold t_law_common
  wtm_at "s"
  refine lc_pure ha xs (by simp) (by omega) (fun t => if t ∈ ys then some (V.int t) else none) ?_ (fun D H1 nD s1 eD => ?_)
  · intro k z p H' hz hp sm R R0 h1 h2
    rw [List.getElem?_map, hp] at hz
    cases hz
    have hb' := sm.seq hb
    wtm_at "s"
    refine k_it (fun w => ?_) (fun w => ?_)
    · wtm_at "s"
      exact h1 _ (by rw [if_pos w])
    · exact h2 (by rw [if_neg w])
  · wtm_at "s"
    have e : decide ((0 : Int) < ((xs.filterMap fun t => if t ∈ ys then some (V.int t) else none).length : Nat)) = commonB xs ys := by
      cases hc : commonB xs ys with
      | true => exact decide_eq_true (by have := (meet_fm xs ys).mpr (common_iff.mp hc); omega)
      | false => exact decide_eq_false fun z => by
                   have := common_iff.mpr ((meet_fm xs ys).mp (by omega))
                   rw [hc] at this; cases this
    rw [e]
    exact q H1 s1
abbrev sp_law_common (K : PySem.W.Frag) : Sp := fun vs H Q E => ∃ v0 v1, vs = [v0, v1] ∧ pr_law_common K v0 v1 H Q E
theorem ok_law_common (T : Txt K mg A) : FnOk P w K mg base CX0 1 A.a_law_common A.d_law_common ["_law_one", "_law_other"] (sp_law_common K) := by
  refine T.F_law_common.ok sc_law_common (fun vs H Q E h => by obtain ⟨v0, v1, rfl, _⟩ := h; rfl) (fun cdv A0 outer s H vs Q E hr h => ?_)
  obtain ⟨v0, v1, rfl, h⟩ := h
  exact ⟨t_law_common K, (pss_one (ps_ret (pe_cmpR op_gt (pe_callB q_len (by rfl) T.z_len (by decide +kernel) (pa_cons (pe_lc (own := [("_law_tie", 2)]) (by rfl) sc_law_common.nd (pi_list (pv 0)) (blkOk_by (own := [("_law_tie", 2)]) (N := ["_law_one", "_law_other", "_law_tie"]) (sc := defScope s_law_common) (by decide +kernel)) (fun _ _ _ _ _ => (pg_name (i := 2) sc_law_common.nd rfl (Or.inl rfl))) (fun _ _ _ _ _ => (pts_one (pt_cmpR op_in_seq (pv 2) (pv 1) (by rfl)))) (fun _ _ _ _ _ => (pv 2))) pa_nil)) pe_int (nomark _)))), pure_law_common h⟩


/-- a number that is not there -/
theorem missing : ∀ (n : Nat) (l : List Int), l.length < n → ∃ j : Nat, j < n ∧ (j : Int) ∉ l
  | 0, _, h => by omega
  | n + 1, l, h => by
    by_cases c : (n : Int) ∈ l
    · obtain ⟨j, h1, h2⟩ := missing n (l.erase n) (by rw [List.length_erase_of_mem c]; have := List.length_pos_of_mem c; omega)
      exact ⟨j, by omega, fun z => h2 ((List.mem_erase_of_ne (by omega)).mpr z)⟩
    · exact ⟨n, by omega, c⟩
theorem rise_get {ms : List Int} (h : ms.Pairwise (· < ·)) {i j : Nat} (hij : i < j) (hj : j < ms.length) : ms.getD i 0 < ms.getD j 0 := by
  rw [getD_of (List.getElem?_eq_getElem (show i < ms.length by omega)), getD_of (List.getElem?_eq_getElem hj)]
  exact List.pairwise_iff_getElem.mp h i j _ _ hij
/-- the law's greedy numbers -/
def Greedy (N : Net) (ws : List (Int × Int)) (us : List Int) : Prop := (∀ j : Nat, j < us.length → 0 ≤ us.getD j 0 ∧ us.getD j 0 ≤ j) ∧ ∀ j' j : Nat, j' < j → j < us.length → meetW N ws j' j → us.getD j' 0 ≠ us.getD j 0
theorem getD_app {us : List Int} {x : Int} {j : Nat} (h : j < us.length) : (us ++ [x]).getD j 0 = us.getD j 0 := by rw [List.getD_eq_getElem?_getD, List.getD_eq_getElem?_getD, List.getElem?_append_left h]
theorem getD_app_last {us : List Int} {x : Int} : (us ++ [x]).getD us.length 0 = x := by rw [List.getD_eq_getElem?_getD, List.getElem?_append_right (Nat.le_refl _)]; simp
theorem Greedy.more {N : Net} {ws : List (Int × Int)} {us : List Int} {x : Int} (g : Greedy N ws us) (h0 : 0 ≤ x) (h1 : x ≤ us.length) (hm : ∀ j' : Nat, j' < us.length → meetW N ws j' us.length → us.getD j' 0 ≠ x) : Greedy N ws (us ++ [x]) := by
  refine ⟨fun j hj => ?_, fun j' j hlt hj mt => ?_⟩
  · by_cases c : j < us.length
    · rw [getD_app c]; exact g.1 j c
    · have e : j = us.length := by simp at hj; omega
      subst e
      rw [getD_app_last]; omega
  · by_cases c : j < us.length
    · rw [getD_app c, getD_app (by omega)]; exact g.2 j' j hlt c mt
    · have e : j = us.length := by simp at hj; omega
      subst e
      rw [getD_app_last, getD_app hlt]; exact hm j' hlt mt
def Names (ms : List Int) : Prop := ms.Pairwise (· < ·) ∧ ∀ m ∈ ms, 0 ≤ m ∧ m ≤ (ms.length - 1 : Nat) * (10 ^ 27 + 1)
theorem Names.more {l : List Int} {x d : Int} (h : Names (l ++ [x])) (d0 : 0 ≤ d) (d1 : d < 10 ^ 27) : Names (l ++ [x] ++ [x + 1 + d]) := by
  obtain ⟨h1, h2⟩ := h
  have hx := h2 x (by simp)
  refine ⟨List.pairwise_append.mpr ⟨h1, by simp, fun a ha b hb => ?_⟩, fun m hm => ?_⟩
  · have e : b = x + 1 + d := by simpa using hb
    subst e
    have : a ≤ x := by
      rcases List.mem_append.mp ha with ha | ha
      · have := (List.pairwise_append.mp h1).2.2 a ha x (by simp); omega
      · have : a = x := by simpa using ha
        omega
    omega
  · have e1 : (l ++ [x]).length - 1 = l.length := by simp
    have e2 : (l ++ [x] ++ [x + 1 + d]).length - 1 = l.length + 1 := by simp
    rw [e1] at h2 hx
    rw [e2, show ((l.length + 1 : Nat) : Int) = (l.length : Int) + 1 by omega, Int.add_mul]
    rcases List.mem_append.mp hm with hm | hm
    · have := h2 m hm; omega
    · have : m = x + 1 + d := by simpa using hm
      omega
def pr_law_hues (K : PySem.W.Frag) (v0 v1 v2 : V) (H : Hp) (Q : VK) (_ : XK) : Prop := ∃ (pu : Addr) (k : Int) (N : Net) (ws : List (Int × Int)), v0 = .ref pu ∧ Le H pu k ∧ k < 800000 ∧ Dp K (hid [pu] H) v1 N.d ∧ N.ok ∧ Dp K (hid [pu] H) v2 (dPairs ws) ∧ ws.length ≤ 100 ∧ (∀ w ∈ ws, isWay N w.1 w.2) ∧
  ∀ p hs k' H', H p = none → p ∉ [pu] → Le H' pu k' → k' ≤ k + 300 → Same (hid [pu] H) (hid [pu] H') → H' p = some (.lst (List.map V.int hs)) → RightH N ws hs → Q (.ref p) H'
theorem right_of {N : Net} {ws : List (Int × Int)} {ms us : List Int} (hn : Names ms) (hl : ms.length = ws.length + 1) (hu : us.length = ws.length) (hz : ws.length ≤ 100) (g : Greedy N ws us) : RightH N ws (us.map fun u => ms.getD u.toNat 0) := by
  obtain ⟨n1, n2⟩ := hn
  have get : ∀ j, j < ws.length → (us.map fun u => ms.getD u.toNat 0).getD j 0 = ms.getD (us.getD j 0).toNat 0 := fun j hj => by
    have e : us[j]? = some (us[j]'(by omega)) := List.getElem?_eq_getElem (by omega)
    rw [getD_of e, List.getD_eq_getElem?_getD, List.getElem?_map, e]; rfl
  have mem : ∀ j, j < ms.length → 0 ≤ ms.getD j 0 ∧ ms.getD j 0 < 10 ^ 30 := fun j hj => by
    have e : ms[j]? = some ms[j] := List.getElem?_eq_getElem hj
    rw [getD_of e]
    have := n2 _ (List.mem_of_getElem? e)
    have e3 : ((ms.length - 1 : Nat) : Int) * (10 ^ 27 + 1) ≤ 100 * (10 ^ 27 + 1) := Int.mul_le_mul_of_nonneg_right (by omega) (by decide)
    have e4 : (100 : Int) * (10 ^ 27 + 1) < 10 ^ 30 := by decide +kernel
    omega
  refine ⟨by simp [hu], fun i j z => ?_, fun h hh => ?_⟩
  · obtain ⟨z1, z2, z3⟩ := z
    have gi := g.1 i (by omega)
    have gj := g.1 j (by omega)
    by_cases c : i = j
    · subst c
      rw [if_pos rfl, get i z2] at z3
      have := mem (us.getD i 0).toNat (by omega)
      omega
    · rw [if_neg c, get i (by omega), get j z2] at z3
      have ne := g.2 i j (by omega) (by omega) z3.2
      have : (us.getD i 0).toNat < (us.getD j 0).toNat ∨ (us.getD j 0).toNat < (us.getD i 0).toNat := by omega
      rcases this with y | y
      · have := rise_get n1 y (by omega); omega
      · have := rise_get n1 y (by omega); omega
  · obtain ⟨u, hu', rfl⟩ := List.mem_map.mp hh
    obtain ⟨j, hj, e⟩ := List.getElem_of_mem hu'
    have gj := g.1 j hj
    rw [getD_of (List.getElem?_eq_getElem hj), e] at gj
    exact mem u.toNat (by omega)
def t_law_hues (K : PySem.W.Frag) : TS :=
  (tSeq (tAsg (tLc (iList K (tVar 2)) (gName 8) tYes (tCall (sp_law_ties K) [] E0 (tCons (tVar 1) (tCons (tVar 8) tNil))) [8]) (gName 3))
    (tSeq (tAsg (tLst (tCons (tC (.int 0)) tNil)) (gName 4))
    (tSeq (tFor (iRng1 (tCons (tCB (rLen K) (tCons (tVar 2) tNil)) tNil)) (gName 5)
      (tDrop (tBM K "list" rAppend (tVar 4) (tCons (tOp xAdd (tOp xAdd (tOp (rIxL K) (tVar 4) (tUn xNeg (tC (.int 1)))) (tC (.int 1))) (tCall (sp_law_draw K) [] E0 (tCons (tVar 0) (tCons (tOp (rIxL K) (tLst (tCons (tC (.int 1)) (tCons (tC (.int 3)) (tCons (tOp xPow (tC (.int 10)) (tC (.int 27))) tNil)))) (tCall (sp_law_draw K) [] E0 (tCons (tVar 0) (tCons (tC (.int 3)) tNil)))) tNil)))) tNil))))
    (tSeq (tAsg (tLst tNil) (gName 6))
    (tSeq (tFor (iRng1 (tCons (tCB (rLen K) (tCons (tVar 2) tNil)) tNil)) (gName 5)
      (tSeq (tAsg (tLc (iRng1 (tCons (tVar 5) tNil)) (gName 9) (tB (tCall (sp_law_common K) [] E0 (tCons (tOp (rIxL K) (tVar 3) (tVar 5)) (tCons (tOp (rIxL K) (tVar 3) (tVar 9)) tNil)))) (tOp (rIxL K) (tVar 6) (tVar 9)) [9]) (gName 7))
    (tDrop (tBM K "list" rAppend (tVar 6) (tCons (tOp (rIxL K) (tLc (iRng1 (tCons (tOp xAdd (tVar 5) (tC (.int 1))) tNil)) (gName 10) (tTest (tOp (rIn K true) (tVar 10) (tVar 7))) (tVar 10) [10]) (tC (.int 0))) tNil)))))
    (tRet (tLc (iList K (tVar 6)) (gName 10) tYes (tOp (rIxL K) (tVar 4) (tVar 10)) [10])))))))
theorem pure_law_hues {v0 v1 v2 : V} {H : Hp} {Q : VK} {E : XK} (h : pr_law_hues K v0 v1 v2 H Q E) : t_law_hues K ⟨fun _ H' => Q .non H', Q, fun _ _ => False, fun _ _ => False⟩ [some v0, some v1, some v2, none, none, none, none, none, none, none, none] H := by
  obtain ⟨pu, k, N, ws, rfl, L, hk, hd, ok, hw, hz, hok, q⟩ := h
  obtain ⟨b, xs, rfl, hb, hxs⟩ := dp_list hw
  have hl := dpa_len hxs
  rw [List.length_map] at hl
  have pe : ∀ x ∈ [pu], H x ≠ none := fun x hx => by
    obtain ⟨x1, f, hp, _⟩ := L.hp
    rw [List.mem_singleton.mp hx, hp]; exact fun z => nomatch z
  unfold t_law_hues
  wtm_at "s"
  refine lc_lainG (N := N) [pu] pe ((hid_same _ _).seq hb) (dpa_same (hid_same _ _) hxs) (by omega) (fun c w H' R hw' sm hc' hR => ?_) (fun _ => rfl) (fun D lain H1 nD s1 dD la => ?_)
  · wtm_at "s"
    exact ⟨_, _, rfl, N, w.1, w.2, dp_same ((hid_same _ _).trans sm) hd, ok, dp_of_pair hc', hok w hw', fun p ns H'' np s' hp srt mem => hR p ns H'' np s' hp srt mem⟩
  have lsm := la.small ok hok
  have L1 := L.same s1
  have S1 : Same (hid [pu] H) (hid [pu] H1) := hid_mono s1
  wtm_at "s"
  refine kL (by simp) (fun nm H2 nnm s2 e2 => ?_)
  have nnm' := L1.fresh nnm
  have frn : hid [pu] H1 nm = none := by rw [hid_ne nnm']; exact nnm
  have L2 := L1.same s2
  wtm_at "s"
  refine forR (fun i σ' H' => Le H' pu (k + 2 * (i : Nat)) ∧ Same (hid [pu] H1) (hid [pu] H') ∧ (∃ ms, H' nm = some (.lst (List.map V.int ms)) ∧ ms.length = i + 1 ∧ Names ms) ∧ ∃ k5, σ' = [some (.ref pu), some v1, some (.ref b), some (.ref D), some (.ref nm), k5, none, none, none, none, none])
    ⟨by simpa using L2, hid_mono s2, ⟨[0], e2, rfl, by simp, fun m hm => by rw [List.mem_singleton.mp hm]; decide⟩, none, rfl⟩ ?_ ?_
  · rintro i σ' H3 hi ⟨L3, S3, ⟨ms, e3, lm, nam⟩, k5, rfl⟩
    obtain ⟨l0, x, rfl⟩ : ∃ l x, ms = l ++ [x] := by
      rcases List.eq_nil_or_concat ms with e | ⟨l, x, e⟩
      · rw [e] at lm; simp at lm
      · exact ⟨l, x, by simpa using e⟩
    wtm_at "s"
    refine k_tyL (sl e3) ?_
    wtm_at "s"
    refine k_ixL (sl e3) (v := .int x) (by rw [List.map_append]; exact atI_last _ _) ?_
    wtm_at "s"
    refine kL (by simp) (fun dl H4 ndl s4 e4 => ?_)
    have ndl' := L3.fresh ndl
    have L4 := L3.same s4
    wtm_at "s"
    refine ⟨_, _, rfl, pu, _, 3, rfl, rfl, L4, by omega, by decide, by decide, fun r H5 r0 r1 L5 S5 => ?_⟩
    have e5 : H5 dl = some (.lst (List.map V.int [1, 3, 10 ^ (27 : Int).toNat])) := keeps S5 e4 ndl'
    refine k_ixI (sl e5) r0 (by simpa using r1) ?_
    have hv := getD_memI (ns := [1, 3, 10 ^ (27 : Int).toNat]) r0 (by simpa using r1)
    generalize ([1, 3, 10 ^ (27 : Int).toNat] : List Int).getD r.toNat 0 = bs at hv ⊢
    have hbs : 1 ≤ bs ∧ bs ≤ 10 ^ 27 := by
      simp only [List.mem_cons, List.not_mem_nil, or_false] at hv
      rcases hv with rfl | rfl | rfl <;> decide +kernel
    have p27 : (10 : Int) ^ 27 < 2 ^ 200 := by decide +kernel
    wtm_at "s"
    refine ⟨_, _, rfl, pu, _, bs, rfl, rfl, L5, by omega, by omega, by omega, fun d H6 d0 d1 L6 S6 => ?_⟩
    wtm_at "s"
    have e6 := keeps S6 (keeps S5 (s4 _ _ e3) nnm') nnm'
    refine k_append e6 (by simp at lm ⊢; omega) ?_
    refine ⟨?_, ?_, ⟨l0 ++ [x] ++ [x + 1 + d], ?_, by simp at lm ⊢; omega, nam.more d0 (by omega)⟩, _, rfl⟩
    · rw [show k + 2 * ((i + 1 : Nat) : Int) = k + 2 * (i : Nat) + 1 + 1 by omega]; exact L6.upd nnm'
    · exact same_hid_mut (S3.trans ((hid_mono s4).trans (S5.trans S6))) frn
    · rw [upd_same, List.map_append (l₂ := [x + 1 + d])]; rfl
  · rintro σ' H3 ⟨L3, S3, ⟨ms, e3, lm, nam⟩, k5, rfl⟩
    have dD3 := dp_same S3 dD
    have hb3 := (S1.trans S3).seq hb
    clear S1 dD e2 L1 L2
    obtain ⟨D', ys, eD', hD, hys⟩ := dp_list (dp_same (hid_same _ _) dD3)
    cases eD'
    wtm_at "s"
    refine kL (by simp) (fun nb H4 nnb s4 e4 => ?_)
    have hb4 : SqL K H4 b xs := ((hid_same _ _).trans s4).seq hb3
    wtm_at "s"
    refine forR (fun i σ' H' => Same H3 H' ∧ (∃ us, H' nb = some (.lst (List.map V.int us)) ∧ us.length = i ∧ Greedy N ws us) ∧ ∃ k5 k7, σ' = [some (.ref pu), some v1, some (.ref b), some (.ref D), some (.ref nm), k5, some (.ref nb), k7, none, none, none])
      ⟨s4, ⟨[], e4, rfl, fun j hj => by simp at hj, fun j' j _ hj => by simp at hj⟩, _, _, rfl⟩ ?_ ?_
    · rintro i σ' H5 hi ⟨s5, ⟨us, e5, lu, gr⟩, k5', k7, rfl⟩
      rw [Int.zero_add]
      have hiw : i < lain.length := by rw [la.1]; omega
      have lainAt : ∀ j, j < lain.length → ∀ H', Same H5 H' → ∃ c l, ys[j]? = some (.ref c) ∧ lain[j]? = some l ∧ SqL K H' c (l.map V.int) := fun j hj H' s' => by
        obtain ⟨c, l, h1, h2, h3⟩ := dlists_get hys hj
        exact ⟨c, l, h1, h2, (s5.trans s').seq h3⟩
      have DAt : ∀ H', Same H5 H' → SqL K H' D ys := fun H' s' => (s5.trans s').seq hD
      wtm_at "s"
      refine lc_growR (by omega) (fun j => (if commonB (lain.getD i []) (lain.getD j []) = true then some (us.getD j 0) else none).map V.int) ?_ (fun tk H6 ntk s6 e6 => ?_)
      · intro j H' hj sm R R0 h1 h2
        rw [Int.zero_add]
        have hj' : j < lain.length := by omega
        obtain ⟨ci, li, f1, f2, f3⟩ := lainAt i hiw H' sm
        obtain ⟨cj, lj, g1, g2, g3⟩ := lainAt j hj' H' sm
        wtm_at "s"
        refine k_ixL (DAt H' sm) (atI_nat f1) ?_
        wtm_at "s"
        refine k_ixL (DAt H' sm) (atI_nat g1) ?_
        wtm_at "s"
        refine ⟨_, _, rfl, ci, cj, li, lj, rfl, rfl, f3, g3, by have := lsm li (List.mem_of_getElem? f2); omega, fun H'' s'' => ?_⟩
        rw [getD_of f2, getD_of g2] at h1 h2
        obtain ⟨u, hu⟩ : ∃ u, us[j]? = some u := ⟨us[j]'(by omega), List.getElem?_eq_getElem (by omega)⟩
        wtm_at "s"
        refine k_itb (fun c => ?_) (fun c => ?_)
        · wtm_at "s"
          refine k_ixN (sl ((sm.trans s'') _ _ e5)) hu ?_
          exact h1 _ _ (by rw [if_pos c, getD_of hu]; rfl) s''
        · exact h2 _ (by rw [if_neg (by rw [c]; decide)]; rfl) s''
      · rw [← List.map_filterMap] at e6
        have lt : ((List.range ((i : Nat) : Int).toNat).filterMap fun j => if commonB (lain.getD i []) (lain.getD j []) = true then some (us.getD j 0) else none).length ≤ i := by
          refine Nat.le_trans (List.length_filterMap_le _ _) ?_
          simp
        have tkm : ∀ j : Nat, j < us.length → meetW N ws j us.length → us.getD j 0 ∈ ((List.range ((i : Nat) : Int).toNat).filterMap fun j => if commonB (lain.getD i []) (lain.getD j []) = true then some (us.getD j 0) else none) := fun j hj mt => by
          refine List.mem_filterMap.mpr ⟨j, List.mem_range.mpr (by omega), ?_⟩
          rw [lu] at mt
          obtain ⟨t, t1, t2⟩ := (la.meet (i := j) (j := i) (by omega) hiw).mpr mt
          rw [if_pos (common_iff.mpr ⟨t, t2, t1⟩)]
        generalize ((List.range ((i : Nat) : Int).toNat).filterMap fun j => if commonB (lain.getD i []) (lain.getD j []) = true then some (us.getD j 0) else none) = ts at e6 lt tkm
        wtm_at "s"
        refine k_tyL (sl (at_same e5 s6)) ?_
        wtm_at "s"
        refine lc_pureR (by omega) (fun j => if (fun j : Nat => !decide ((j : Int) ∈ ts)) j = true then some (V.int (0 + (j : Nat))) else none) ?_ (fun fr H7 nfr s7 e7 => ?_)
        · intro j H' hj sm R R0 h1 h2
          have e6' := sm _ _ e6
          wtm_at "s"
          rw [Int.zero_add] at h1 ⊢
          refine k_itn (fun c => ?_) (fun c => ?_)
          · wtm_at "s"
            exact h1 _ (by rw [if_pos (by simp [c])])
          · exact h2 (by rw [if_neg (by simp [c])])
        · rw [keepI_fm] at e7
          obtain ⟨j0, j1, j2⟩ := missing (i + 1) ts (by omega)
          have hmem : (j0 : Int) ∈ keepI (((i : Nat) : Int) + 1).toNat (fun j : Nat => !decide ((j : Int) ∈ ts)) := keepI_mem.mpr ⟨by omega, by omega, by simp [j2]⟩
          cases hk0 : keepI (((i : Nat) : Int) + 1).toNat (fun j : Nat => !decide ((j : Int) ∈ ts)) with
          | nil => rw [hk0] at hmem; cases hmem
          | cons x r =>
            have hx : x ∈ keepI (((i : Nat) : Int) + 1).toNat (fun j : Nat => !decide ((j : Int) ∈ ts)) := by rw [hk0]; simp
            obtain ⟨x0, x1, x2⟩ := keepI_mem.mp hx
            rw [hk0] at e7
            wtm_at "s"
            refine k_ixL (sl e7) (v := .int x) (atI_nat (j := 0) rfl) ?_
            wtm_at "s"
            refine k_append (at_same e5 (s6.trans s7)) (by simp; omega) ?_
            have xn : x ∉ ts := fun z => by
              rw [show ((x.toNat : Nat) : Int) = x by omega] at x2
              simp [z] at x2
            exact ⟨same_mut (s5.trans (s6.trans s7)) nnb, ⟨us ++ [x], by rw [upd_same, List.map_append]; rfl, by simp [lu], gr.more x0 (by omega) fun j hj mt e => xn (e ▸ tkm j hj mt)⟩, _, _, rfl⟩
    · rintro σ' H5 ⟨s5, ⟨us, e5, lu, gr⟩, k5', k7, rfl⟩
      wtm_at "s"
      refine lc_pure (sl e5) us (by simp) (by omega) (fun u => some (V.int (ms.getD u.toNat 0))) ?_ (fun p H6 np s6 e6 => ?_)
      · intro j x u H' hx hp sm R R0 h1 h2
        rw [List.getElem?_map, hp] at hx
        cases hx
        have g1 := gr.1 j (List.getElem?_eq_some_iff.mp hp).1
        rw [getD_of hp] at g1
        have hj := (List.getElem?_eq_some_iff.mp hp).1
        have e3' := sm _ _ (s5 _ _ e3)
        wtm_at "s"
        refine k_ixI (sl e3') g1.1 (by omega) ?_
        exact h1 _ rfl
      · rw [fm_map] at e6
        have e6' : H6 p = some (.lst (List.map V.int (us.map fun u => ms.getD u.toNat 0))) := by rw [e6, List.map_map]; rfl
        have L6 := L3.same (s5.trans s6)
        have np5 := s5.free np
        have np' := L3.fresh np5
        have St : Same (hid [pu] H) (hid [pu] H6) := (hid_mono s1).trans (S3.trans (hid_mono (s5.trans s6)))
        refine q p _ _ H6 (fresh_hid ((hid_mono s1).trans S3) np5 np') np' L6 (by omega) St e6' (right_of nam (by omega) (by omega) hz gr)
abbrev sp_law_hues (K : PySem.W.Frag) : Sp := fun vs H Q E => ∃ v0 v1 v2, vs = [v0, v1, v2] ∧ pr_law_hues K v0 v1 v2 H Q E
theorem ok_law_hues (T : Txt K mg A) : FnOk P w K mg base CX0 3 A.a_law_hues A.d_law_hues ["_law_left_here", "_law_net_here", "_law_ways"] (sp_law_hues K) := by
  refine T.F_law_hues.ok sc_law_hues (fun vs H Q E h => by obtain ⟨v0, v1, v2, rfl, _⟩ := h; rfl) (fun cdv A0 outer s H vs Q E hr h => ?_)
  obtain ⟨v0, v1, v2, rfl, h⟩ := h
  exact ⟨t_law_hues K, (pss_cons (ps_set (i := 3) sc_law_hues.nd rfl (Or.inr rfl) (pe_lc (own := [("_law_way_here", 8)]) (by rfl) sc_law_hues.nd (pi_list (pv 2)) (blkOk_by (own := [("_law_way_here", 8)]) (N := ["_law_left_here", "_law_net_here", "_law_ways", "_law_lain", "_law_names", "_law_k", "_law_numbers", "_law_taken", "_law_way_here", "_law_j", "_law_number"]) (sc := defScope s_law_hues) (by decide +kernel)) (fun _ _ _ _ _ => (pg_name (i := 8) sc_law_hues.nd rfl (Or.inl rfl))) (fun _ _ _ _ _ => pts_nil) (fun _ _ _ _ _ => (pe_call (ok_law_ties T) (hr.mono (by decide)) (by rfl) T.g_law_ties T.F_law_ties.kp T.b_law_ties .nil pass0 (pa_cons (pv 1) (pa_cons (pv 8) pa_nil))))))
      (pss_cons (ps_set (i := 4) sc_law_hues.nd rfl (Or.inr rfl) (pe_lst (pa_cons pe_int pa_nil)))
      (pss_cons (ps_for PassesOwn.never rfl (pi_range1 (by rfl) T.z_range (pa_cons (pe_callB q_len (by rfl) T.z_len (by decide +kernel) (pa_cons (pv 2) pa_nil)) pa_nil)) (pg_name (i := 5) sc_law_hues.nd rfl (Or.inr rfl))
      (pss_one (ps_expr (pe_bm PySem.F.plainAttrs_list PySem.F.slot_list_append PySem.F.type_list_append mt_append (pv 4) (pa_cons (pe_op op_add (pe_op op_add (pe_ix ix_list (pv 4) (pe_un un_neg pe_int) (fun _ _ => rfl)) pe_int) (pe_call (ok_law_draw T) (hr.mono (by decide)) (by rfl) T.g_law_draw T.F_law_draw.kp T.b_law_draw .nil pass0 (pa_cons (pv 0) (pa_cons (pe_ix ix_list (pe_lst (pa_cons pe_int (pa_cons pe_int (pa_cons (pe_op op_pow pe_int pe_int) pa_nil)))) (pe_call (ok_law_draw T) (hr.mono (by decide)) (by rfl) T.g_law_draw T.F_law_draw.kp T.b_law_draw .nil pass0 (pa_cons (pv 0) (pa_cons pe_int pa_nil))) (fun _ _ => rfl)) pa_nil)))) pa_nil)))))
      (pss_cons (ps_set (i := 6) sc_law_hues.nd rfl (Or.inr rfl) (pe_lst pa_nil))
      (pss_cons (ps_for PassesOwn.never rfl (pi_range1 (by rfl) T.z_range (pa_cons (pe_callB q_len (by rfl) T.z_len (by decide +kernel) (pa_cons (pv 2) pa_nil)) pa_nil)) (pg_name (i := 5) sc_law_hues.nd rfl (Or.inr rfl))
      (pss_cons (ps_set (i := 7) sc_law_hues.nd rfl (Or.inr rfl) (pe_lc (own := [("_law_j", 9)]) (by rfl) sc_law_hues.nd (pi_range1 (by rfl) T.z_range (pa_cons (pv 5) pa_nil)) (blkOk_by (own := [("_law_j", 9)]) (N := ["_law_left_here", "_law_net_here", "_law_ways", "_law_lain", "_law_names", "_law_k", "_law_numbers", "_law_taken", "_law_way_here", "_law_j", "_law_number"]) (sc := defScope s_law_hues) (by decide +kernel)) (fun _ _ _ _ _ => (pg_name (i := 9) sc_law_hues.nd rfl (Or.inl rfl))) (fun _ _ _ _ _ => (pts_one (pt_val (pe_call (ok_law_common T) (hr.mono (by decide)) (by rfl) T.g_law_common T.F_law_common.kp T.b_law_common .nil pass0 (pa_cons (pe_ix ix_list (pv 3) (pv 5) (fun _ _ => rfl)) (pa_cons (pe_ix ix_list (pv 3) (pv 9) (fun _ _ => rfl)) pa_nil)))))) (fun _ _ _ _ _ => (pe_ix ix_list (pv 6) (pv 9) (fun _ _ => rfl)))))
      (pss_one (ps_expr (pe_bm PySem.F.plainAttrs_list PySem.F.slot_list_append PySem.F.type_list_append mt_append (pv 6) (pa_cons (pe_ix ix_list (pe_lc (own := [("_law_number", 10)]) (by rfl) sc_law_hues.nd (pi_range1 (by rfl) T.z_range (pa_cons (pe_op op_add (pv 5) pe_int) pa_nil)) (blkOk_by (own := [("_law_number", 10)]) (N := ["_law_left_here", "_law_net_here", "_law_ways", "_law_lain", "_law_names", "_law_k", "_law_numbers", "_law_taken", "_law_way_here", "_law_j", "_law_number"]) (sc := defScope s_law_hues) (by decide +kernel)) (fun _ _ _ _ _ => (pg_name (i := 10) sc_law_hues.nd rfl (Or.inl rfl))) (fun _ _ _ _ _ => (pts_one (pt_cmpR op_notIn_seq (pv 10) (pv 7) (by rfl)))) (fun _ _ _ _ _ => (pv 10))) pe_int (fun _ _ => rfl)) pa_nil))))))
      (pss_one (ps_ret (pe_lc (own := [("_law_number", 10)]) (by rfl) sc_law_hues.nd (pi_list (pv 6)) (blkOk_by (own := [("_law_number", 10)]) (N := ["_law_left_here", "_law_net_here", "_law_ways", "_law_lain", "_law_names", "_law_k", "_law_numbers", "_law_taken", "_law_way_here", "_law_j", "_law_number"]) (sc := defScope s_law_hues) (by decide +kernel)) (fun _ _ _ _ _ => (pg_name (i := 10) sc_law_hues.nd rfl (Or.inl rfl))) (fun _ _ _ _ _ => pts_nil) (fun _ _ _ _ _ => (pe_ix ix_list (pv 4) (pv 10) (fun _ _ => rfl))))))))))), pure_law_hues h⟩


def pr_law_all (K : PySem.W.Frag) (v0 : V) (H : Hp) (Q : VK) (_ : XK) : Prop := ∃ (pu : Addr) (k : Int), v0 = .ref pu ∧ Le H pu k ∧ k < 700000 ∧
  ∀ t v1 v2 v3 N ws ho k' H', Le H' pu k' → k' ≤ k + 1000 → Same (hid [pu] H) (hid [pu] H') → hid [pu] H' t = some (.tup [v1, v2, v3]) → Dp K (hid [pu] H') v1 (Net.d N) → N.ok → Dp K (hid [pu] H') v2 (dPairs ws) → ws.length ≤ 40 → (∀ w ∈ ws, isWay N w.1 w.2) →
    Dp K (hid [pu] H') v3 (dHues ho) → (∀ hs, ho = some hs → RightH N ws hs) → Q (.ref t) H'
def t_law_all (K : PySem.W.Frag) : TS :=
  (tSeq (tAsg (tCall (sp_law_net K) [] E0 (tCons (tVar 0) tNil)) (gName 1))
    (tSeq (tAsg (tCall (sp_law_size K) [] E0 (tCons (tVar 1) tNil)) (gName 2))
    (tSeq (tAsg (tLc (iRng1 (tCons (tCall (sp_law_draw K) [] E0 (tCons (tVar 0) (tCons (tOp (rIxL K) (tLst (tCons (tC (.int 6)) (tCons (tC (.int 41)) tNil))) (tCall (sp_law_draw K) [] E0 (tCons (tVar 0) (tCons (tC (.int 2)) tNil)))) tNil))) tNil)) (gName 5) tYes (tCall (sp_law_way K) [] E0 (tCons (tVar 0) (tCons (tVar 2) tNil))) [5]) (gName 3))
    (tSeq (tAsg (tC .non) (gName 4))
    (tSeq (tIfS (tTest (tOp xGt (tCall (sp_law_draw K) [] E0 (tCons (tVar 0) (tCons (tC (.int 3)) tNil))) (tC (.int 0)))) (tAsg (tCall (sp_law_hues K) [] E0 (tCons (tVar 0) (tCons (tVar 1) (tCons (tVar 3) tNil)))) (gName 4)) tNext)
    (tRet (tTup (tCons (tVar 1) (tCons (tVar 3) (tCons (tVar 4) tNil))))))))))
theorem places_lo {N : Net} (h : N.ok) : 2 ≤ N.places := by
  cases N with
  | line n => exact h.1
  | ring n => have : 3 ≤ n := h.1; show 2 ≤ n; omega
  | tree ps => show 2 ≤ (ps.length : Int) + 1; have := h.1; omega
theorem pure_law_all {v0 : V} {H : Hp} {Q : VK} {E : XK} (h : pr_law_all K v0 H Q E) : t_law_all K ⟨fun _ H' => Q .non H', Q, fun _ _ => False, fun _ _ => False⟩ [some v0, none, none, none, none, none] H := by
  obtain ⟨pu, k, rfl, L, hk, q⟩ := h
  unfold t_law_all
  wtm_at "s"
  refine ⟨_, rfl, pu, k, rfl, L, by omega, fun v N k1 H1 L1 hk1 S1 dN ok => ?_⟩
  wtm_at "s"
  refine ⟨_, rfl, N, dp_same (hid_same _ _) dN, ?_⟩
  have p2 := places_lo ok
  have p60 := ok_places ok
  wtm_at "s"
  refine kL (by simp) (fun dl H2 ndl s2 e2 => ?_)
  have ndl' := L1.fresh ndl
  have L2 := L1.same s2
  wtm_at "s"
  refine ⟨_, _, rfl, pu, _, 2, rfl, rfl, L2, by omega, by decide, by decide, fun r H3 r0 r1 L3 S3 => ?_⟩
  have e3 : H3 dl = some (.lst (List.map V.int [6, 41])) := keeps S3 e2 ndl'
  refine k_ixI (sl e3) r0 (by simpa using r1) ?_
  have hv := getD_memI (ns := [6, 41]) r0 (by simpa using r1)
  generalize ([6, 41] : List Int).getD r.toNat 0 = bs at hv ⊢
  have hbs : 1 ≤ bs ∧ bs ≤ 41 := by
    simp only [List.mem_cons, List.not_mem_nil, or_false] at hv
    rcases hv with rfl | rfl <;> omega
  wtm_at "s"
  refine ⟨_, _, rfl, pu, _, bs, rfl, rfl, L3, by omega, by omega, by omega, fun d H4 d0 d1 L4 S4 => ?_⟩
  have S4' : Same (hid [pu] H1) (hid [pu] H4) := (hid_mono s2).trans (S3.trans S4)
  wtm_at "s"
  refine lc_ways (i := 0) (j := 2) (l := 5) (pu := pu) (m := N.places) (fun _ => rfl) (fun _ => rfl) (fun _ => rfl) L4 (by omega) p2 (by omega) (by omega) (fun D ys ws H5 nD nD' L5 S5 eD hys lw hok => ?_)
  have okw : ∀ w ∈ ws, isWay N w.1 w.2 := fun w hw => by
    obtain ⟨z1, z2, z3, z4, z5⟩ := hok w hw
    exact ⟨z1, z2, z4, z3, z5⟩
  have S5' : Same (hid [pu] H) (hid [pu] H5) := S1.trans (S4'.trans S5)
  have dN5 := dp_same (S4'.trans S5) dN
  have dW5 : Dp K (hid [pu] H5) (.ref D) (dPairs ws) := .lst (sl (hat nD' eD)) (dpa_same (hid_sub (by simp)) hys)
  refine k_gname (k_seq (k_set (k_c (k_seq (ifsjoin (fun σ' H6 => ∃ x ho kk, σ' = [some (.ref pu), some v, some (.int N.places), some (.ref D), some x, none] ∧ Same (hid [pu] H5) (hid [pu] H6) ∧ Le H6 pu kk ∧ kk ≤ k + 1000 ∧ Dp K (hid [pu] H6) x (dHues ho) ∧ ∀ hs, ho = some hs → RightH N ws hs) ?_ (fun main => ?_))))))
  · rintro σ' H6 ⟨x, ho, kk, rfl, S6, L6, hkk, dx, hr⟩
    wtm_at "s"
    refine kTp L6 (by simp) (fun t H7 nt s7 e7 => ?_)
    exact q t _ _ _ N ws ho _ H7 (L6.same s7) hkk (S5'.trans (S6.trans (hid_mono s7))) e7 (dp_same (S6.trans (hid_mono s7)) dN5) ok (dp_same (S6.trans (hid_mono s7)) dW5) (by omega) okw (dp_same (hid_mono s7) dx) hr
  · wtm_at "s"
    refine ⟨_, _, rfl, pu, _, 3, rfl, rfl, L5, by omega, by decide, by decide, fun c H6 c0 c1 L6 S6 => ?_⟩
    refine ⟨_, _, rfl, rfl, _, rfl, ?_⟩
    refine k_it (fun z => ?_) (fun z => ?_)
    · wtm_at "s"
      refine ⟨_, _, _, rfl, pu, _, N, ws, rfl, L6, by omega, dp_same S6 dN5, ok, dp_same S6 dW5, by omega, okw, fun p hs k' H7 np np' L7 hk7 S7 e7 hr => ?_⟩
      exact main _ _ ⟨.ref p, some hs, _, rfl, S6.trans S7, L7, by omega, dp_of_ints (sl (hat np' e7)), fun hs' e => by cases e; exact hr⟩
    · exact k_next (main _ _ ⟨.non, none, _, rfl, S6, L6, by omega, .non, fun hs' e => by cases e⟩)
abbrev sp_law_all (K : PySem.W.Frag) : Sp := fun vs H Q E => ∃ v0, vs = [v0] ∧ pr_law_all K v0 H Q E
theorem ok_law_all (T : Txt K mg A) : FnOk P w K mg base CX0 4 A.a_law_all A.d_law_all ["_law_left_here"] (sp_law_all K) := by
  refine T.F_law_all.ok sc_law_all (fun vs H Q E h => by obtain ⟨v0, rfl, _⟩ := h; rfl) (fun cdv A0 outer s H vs Q E hr h => ?_)
  obtain ⟨v0, rfl, h⟩ := h
  exact ⟨t_law_all K, (pss_cons (ps_set (i := 1) sc_law_all.nd rfl (Or.inl rfl) (pe_call (ok_law_net T) (hr.mono (by decide)) (by rfl) T.g_law_net T.F_law_net.kp T.b_law_net .nil pass0 (pa_cons (pv 0) pa_nil)))
      (pss_cons (ps_set (i := 2) sc_law_all.nd rfl (Or.inr rfl) (pe_call (ok_law_size T) (hr.mono (by decide)) (by rfl) T.g_law_size T.F_law_size.kp T.b_law_size .nil pass0 (pa_cons (pv 1) pa_nil)))
      (pss_cons (ps_setLc (i := 3) (own := [("_law_k", 5)]) (by rfl) sc_law_all.nd rfl rfl (sw_true rfl rfl rfl (by decide +kernel)) (pi_range1 (by rfl) T.z_range (pa_cons (pe_call (ok_law_draw T) (hr.mono (by decide)) (by rfl) T.g_law_draw T.F_law_draw.kp T.b_law_draw .nil pass0 (pa_cons (pv 0) (pa_cons (pe_ix ix_list (pe_lst (pa_cons pe_int (pa_cons pe_int pa_nil))) (pe_call (ok_law_draw T) (hr.mono (by decide)) (by rfl) T.g_law_draw T.F_law_draw.kp T.b_law_draw .nil pass0 (pa_cons (pv 0) (pa_cons pe_int pa_nil))) (fun _ _ => rfl)) pa_nil))) pa_nil)) (blkOk_by (own := [("_law_k", 5)]) (N := ["_law_left_here", "_law_net_here", "_law_many", "_law_ways", "_law_hues_here", "_law_k"]) (sc := defScope s_law_all) (by decide +kernel)) (fun _ _ _ _ _ => (pg_name (i := 5) sc_law_all.nd rfl (Or.inl rfl))) (fun _ _ _ _ _ => pts_nil) (fun _ _ _ _ _ => (pe_call (ok_law_way T) (hr.mono (by decide)) (by rfl) T.g_law_way T.F_law_way.kp T.b_law_way .nil pass0 (pa_cons (pv 0) (pa_cons (pv 2) pa_nil)))))
      (pss_cons (ps_set (i := 4) sc_law_all.nd rfl (Or.inl rfl) pe_non)
      (pss_cons (ps_if (pt_cmpR op_gt (pe_call (ok_law_draw T) (hr.mono (by decide)) (by rfl) T.g_law_draw T.F_law_draw.kp T.b_law_draw .nil pass0 (pa_cons (pv 0) (pa_cons pe_int pa_nil))) pe_int (nomark _)) (pss_one (ps_set (i := 4) sc_law_all.nd rfl (Or.inl rfl) (pe_call (ok_law_hues T) (hr.mono (by decide)) (by rfl) T.g_law_hues T.F_law_hues.kp T.b_law_hues .nil pass0 (pa_cons (pv 0) (pa_cons (pv 1) (pa_cons (pv 3) pa_nil)))))) pss_nil)
      (pss_one (ps_ret (pe_tup (pa_cons (pv 1) (pa_cons (pv 3) (pa_cons (pv 4) pa_nil))))))))))), pure_law_all h⟩


theorem sg_way4 : sg (Str.ofString "way ") = sg (Str.ofString "way") ++ [32] := by rw [sg_str, sg_str]; rfl
theorem netL_eq (N : Net) (ws : List (Int × Int)) (ho : Option (List Int)) : netL N ws ho = rowL (sg N.kind) N.nums ++ [10] ++ (ws.map fun w => wayL w ++ [10]).flatten ++ (ho.toList.map fun hs => rowL (sg (Str.ofString "hues")) hs ++ [10]).flatten := by
  unfold netL rowsL
  simp [List.map_append, List.flatten_append, List.map_map, Function.comp_def]
def HuesOk (ho : Option (List Int)) : Prop := ∀ hs, ho = some hs → hs.length ≤ 100 ∧ ∀ h ∈ hs, Num30 h
def pr_law_text (K : PySem.W.Frag) (v0 v1 v2 : V) (H : Hp) (Q : VK) (_ : XK) : Prop := ∃ (N : Net) (ws : List (Int × Int)) (ho : Option (List Int)), Dp K H v0 N.d ∧ N.ok ∧ Dp K H v1 (dPairs ws) ∧ ws.length ≤ 100 ∧ (∀ w ∈ ws, isWay N w.1 w.2) ∧ Dp K H v2 (dHues ho) ∧ HuesOk ho ∧ ∀ H', Same H H' → Q (.str (mkS (netL N ws ho))) H'
def t_law_text (K : PySem.W.Frag) : TS :=
  (tSeq (tAsg (tLst (tCons (tOp (rIxT K) (tVar 0) (tC (.int 1))) tNil)) (gName 3))
    (tSeq (tIfS (tTest (tOp rEq (tOp (rIxT K) (tVar 0) (tC (.int 0))) (tC (.str (Str.ofString "tree"))))) (tAsg (tOp (rIxT K) (tVar 0) (tC (.int 1))) (gName 3)) tNext)
    (tSeq (tAsg (tOp xAddS (tOp xAddS (tOp (rIxT K) (tVar 0) (tC (.int 0))) (tM1 (rJoin K) (tC (.str (Str.ofString ""))) (tLc (iList K (tVar 3)) (gName 7) tYes (tOp xAddS (tC (.str (Str.ofString " "))) (tCB rStrInt (tCons (tVar 7) tNil))) [7]))) (tC (.str (Str.ofString "\n")))) (gName 4))
    (tSeq (tFor (iList K (tVar 1)) (gTup K 2 (gCons (gName 5) (gCons (gName 6) gNil)))
      (tAsg (tOp xAddS (tOp xAddS (tOp xAddS (tOp xAddS (tOp xAddS (tVar 4) (tC (.str (Str.ofString "way ")))) (tCB rStrInt (tCons (tVar 5) tNil))) (tC (.str (Str.ofString " ")))) (tCB rStrInt (tCons (tVar 6) tNil))) (tC (.str (Str.ofString "\n")))) (gName 4)))
    (tSeq (tIfS (tTest (tOp xNotN (tVar 2) (tC .non))) (tAsg (tOp xAddS (tOp xAddS (tOp xAddS (tVar 4) (tC (.str (Str.ofString "hues")))) (tM1 (rJoin K) (tC (.str (Str.ofString ""))) (tLc (iList K (tVar 2)) (gName 8) tYes (tOp xAddS (tC (.str (Str.ofString " "))) (tCB rStrInt (tCons (tVar 8) tNil))) [8]))) (tC (.str (Str.ofString "\n")))) (gName 4)) tNext)
    (tRet (tVar 4)))))))
/-- the signs of numbers, a blank ahead of each -/
theorem lc_blanks {σ : L2.St} {vs : List Nat} {j : Nat} {H1 : Hp} {QD : Addr → Hp → Prop} {a : Addr} {ns : List Int} (hs : SqL K H1 a (ns.map V.int)) (hz : ns.length ≤ 100) (hok : ∀ n ∈ ns, Num30 n)
    (hj : ∀ x, ((wipe σ vs).set j (some x))[j]? = some (some x)) (hwp : ∀ x, wipe ((wipe σ vs).set j (some x)) vs = wipe σ vs)
    (h : ∀ D H', H1 D = none → Same H1 H' → (∀ Q : VK, Q (.str (mkS (ns.map fun n => 32 :: nu n).flatten)) H' → rJoin K (.str (Str.ofString "")) [.ref D] H' Q) → QD D H') :
    ∃ a', V.ref a = .ref a' ∧ (∃ xs, SqL K H1 a' xs) ∧ ∀ D, H1 D = none → ∃ W : Nat → Nat → Hp → Prop, (∃ m, W 0 m (upd H1 D (.lst []))) ∧ ∀ t m H, W t m H →
      ((Itl K a').stop t H ∧ QD D H) ∨ ((Itl K a').go t H ∧ ∃ Nx : Hp → Prop, (∀ H', Nx H' → ∃ m', m' < m ∧ W (t + 1) m' H') ∧ ∀ x H', (Itl K a').yld t H x H' → gName j x (wipe σ vs) H' fun σ2 H2 => wipe σ2 vs = wipe σ vs ∧ tYes σ2 H2 fun b H3 =>
        if b = true then tOp xAddS (tC (.str (Str.ofString " "))) (tCB rStrInt (tCons (tVar j) tNil)) σ2 H3 fun y H4 => ∃ acc, H4 D = some (.lst acc) ∧ acc.length < sizeLine ∧ Nx (upd H4 D (.lst (acc ++ [y]))) else Nx H3) := by
  refine lc_grow hs ns (by simp) (by omega) (fun n => some (V.str (mkS (32 :: nu n)))) ?_ (fun D H2 nD s2 eD => ?_)
  · intro i x n H' hx hp sm R R0 h1 h2
    rw [List.getElem?_map, hp] at hx
    cases hx
    obtain ⟨n1, n2⟩ := num_small (hok n (List.mem_of_getElem? hp))
    refine k_gname (k_wipe (hwp _) ?_)
    refine k_yes (iteT ?_)
    refine k_op (k_c (k_cb (k_cons (k_var (hj _) ?_))))
    refine k_nil (k_strI n1 ?_)
    refine k_addS (by rw [sg_blank, sg_mkS]; simp; omega) ?_
    rw [sg_blank, sg_mkS]
    exact h1 _ _ rfl (Same.refl _)
  · rw [fm_map] at eD
    have e4 : H2 D = some (.lst ((ns.map fun n => mkS (32 :: nu n)).map V.str)) := by rw [eD, List.map_map]; rfl
    refine h D H2 nD s2 fun Q q => k_join (sl e4) ?_ ?_
    · have := sum_le (l := (ns.map fun n => mkS (32 :: nu n)).map (·.length)) (b := 100) fun x hx => by
        obtain ⟨y, hy, rfl⟩ := List.mem_map.mp hx
        obtain ⟨n, hn', rfl⟩ := List.mem_map.mp hy
        have := (num_small (hok n hn')).2
        rw [len_sg, sg_mkS]; simp; omega
      rw [List.length_map, List.length_map] at this
      rw [len_sg, sg_none]
      simp only [List.length_map, List.length_nil] at this ⊢
      omega
    · rw [sg_none, joinL_nil, List.map_map]
      exact q
theorem blanks_len {ns : List Int} (h : ∀ n ∈ ns, Num30 n) : ((ns.map fun n => 32 :: nu n).flatten).length ≤ ns.length * 31 := by
  have := rowL_len (w := []) h
  simpa [rowL] using this
theorem pure_law_text {v0 v1 v2 : V} {H : Hp} {Q : VK} {E : XK} (h : pr_law_text K v0 v1 v2 H Q E) : t_law_text K ⟨fun _ H' => Q .non H', Q, fun _ _ => False, fun _ _ => False⟩ [some v0, some v1, some v2, none, none, none, none, none, none] H := by
  obtain ⟨N, ws, ho, hd, ok, hw, hz, hok, hh, hho, q⟩ := h
  rw [netL_eq] at q
  obtain ⟨c, y, rfl, hs, hy⟩ := dp_net hd
  obtain ⟨b, xs, rfl, hb, hxs⟩ := dp_list hw
  have hl := dpa_len hxs
  rw [List.length_map] at hl
  obtain ⟨nm, nl⟩ := nums_ok ok
  have kl := kind_len N
  have bl := blanks_len nm
  unfold t_law_text
  wtm_at "s"
  refine kL (by simp) (fun s0 H1 ns0 s1 e1 => ?_)
  refine k_gname (k_seq (ifsjoin (fun σ' H2 => H2 = H1 ∧ ∃ a, SqL K H1 a (N.nums.map V.int) ∧ σ' = [some (.ref c), some (.ref b), some v2, some (.ref a), none, none, none, none, none]) ?_ (fun main => ?_)))
  · rintro σ' H2 ⟨rfl, a, ha, rfl⟩
    have hs1 := same_seqT s1 hs
    wtm_at "s"
    refine lc_blanks ha (by omega) nm (fun _ => rfl) (fun _ => rfl) (fun D H3 nD s3 jn => ?_)
    wtm_at "s"
    refine jn _ ?_
    refine k_addS (by rw [sg_mkS]; omega) ?_
    wtm_at "s"
    rw [sg_mkS]
    refine k_addS (by simp only [sg_mkS, sg_nl, List.length_append, List.length_cons, List.length_nil]; omega) ?_
    rw [sg_mkS, sg_nl]
    wtm_at "s"
    refine forL (by wtm_at "sq") (fun i σ' H' => Same H3 H' ∧ ∃ k5 k6, σ' = [some (.ref c), some (.ref b), some v2, some (.ref a), some (.str (mkS (rowL (sg N.kind) N.nums ++ [10] ++ ((ws.take i).map fun w => wayL w ++ [10]).flatten))), k5, k6, none, none]) ⟨Same.refl _, none, none, by simp [rowL]⟩ (fun i σ' H' _ e => by have := e.1; wtm_at "sq") ?_ ?_
    · rintro i x σ' H4 hx ⟨s4, k5, k6, rfl⟩
      obtain ⟨w, cw, hw', rfl, hcw⟩ := dpairs_get hxs hx
      have hi : i < ws.length := (List.getElem?_eq_some_iff.mp hw').1
      have wn := way_num ok (hok w (List.mem_of_getElem? hw'))
      obtain ⟨a1, a2⟩ := num_small (wn w.1 (by simp))
      obtain ⟨b1, b2⟩ := num_small (wn w.2 (by simp))
      have len : (rowL (sg N.kind) N.nums ++ [10] ++ ((ws.take i).map fun w => wayL w ++ [10]).flatten).length ≤ 2000 + 100 * i := by
        have h1 := rowL_len (w := sg N.kind) nm
        have h2 := flat_le (l := (ws.take i).map fun w => wayL w ++ [10]) (b := 100) fun r hr => by
          obtain ⟨w', hw2, rfl⟩ := List.mem_map.mp hr
          have := rowL_len (w := sg (Str.ofString "way")) (way_num ok (hok w' (List.mem_of_mem_take hw2)))
          rw [way_len3] at this
          unfold wayL
          simp only [List.length_cons, List.length_nil, List.length_append] at this ⊢
          omega
        rw [List.length_map, List.length_take] at h2
        rw [List.length_append, List.length_append]
        simp only [List.length_cons, List.length_nil]
        have : min i ws.length = i := by omega
        rw [this] at h2
        omega
      have nx : rowL (sg N.kind) N.nums ++ [10] ++ ((ws.take (i + 1)).map fun w => wayL w ++ [10]).flatten = (rowL (sg N.kind) N.nums ++ [10] ++ ((ws.take i).map fun w => wayL w ++ [10]).flatten) ++ (wayL w ++ [10]) := by
        rw [List.take_add_one, hw']; simp
      rw [nx]
      generalize (rowL (sg N.kind) N.nums ++ [10] ++ ((ws.take i).map fun w => wayL w ++ [10]).flatten) = tx at len ⊢
      have hcw4 : SqT K H4 cw [.int w.1, .int w.2] := by wtm_at "sq"
      have w4 : (sg (Str.ofString "way ")).length = 4 := by rw [sg_way4, List.length_append, way_len3]; rfl
      wtm_at "s"
      refine k_addS (by simp only [sg_mkS, sg_blank, sg_nl, List.length_append, w4, List.length_cons, List.length_nil]; omega) ?_
      wtm_at "s"
      refine k_strI a1 ?_
      refine k_addS (by simp only [sg_mkS, sg_blank, sg_nl, List.length_append, w4, List.length_cons, List.length_nil]; omega) ?_
      wtm_at "s"
      refine k_addS (by simp only [sg_mkS, sg_blank, sg_nl, List.length_append, w4, List.length_cons, List.length_nil]; omega) ?_
      wtm_at "s"
      refine k_strI b1 ?_
      refine k_addS (by simp only [sg_mkS, sg_blank, List.length_append, w4, List.length_cons, List.length_nil]; omega) ?_
      wtm_at "s"
      refine k_addS (by simp only [sg_mkS, sg_blank, sg_nl, List.length_append, w4, List.length_cons, List.length_nil]; omega) ?_
      wtm_at "s"
      refine ⟨s4, some (.int w.1), some (.int w.2), ?_⟩
      simp only [sg_mkS, sg_blank, sg_nl, sg_way4, wayL, rowL]
      simp
    · rintro σ' H4 ⟨s4, k5, k6, rfl⟩
      rw [hl, List.take_length]
      have len : (rowL (sg N.kind) N.nums ++ [10] ++ ((ws).map fun w => wayL w ++ [10]).flatten).length ≤ 20000 := by
        have h1 := rowL_len (w := sg N.kind) nm
        have h2 := flat_le (l := (ws).map fun w => wayL w ++ [10]) (b := 100) fun r hr => by
          obtain ⟨w', hw2, rfl⟩ := List.mem_map.mp hr
          have := rowL_len (w := sg (Str.ofString "way")) (way_num ok (hok w' hw2))
          rw [way_len3] at this
          unfold wayL
          simp only [List.length_cons, List.length_nil, List.length_append] at this ⊢
          omega
        rw [List.length_map] at h2
        rw [List.length_append, List.length_append]
        simp only [List.length_cons, List.length_nil]
        omega
      generalize (rowL (sg N.kind) N.nums ++ [10] ++ ((ws).map fun w => wayL w ++ [10]).flatten) = tx at len q ⊢
      have sm : Same H H4 := s1.trans (s3.trans s4)
      cases ho with
      | none =>
        cases hh
        wtm_at "s"
        simpa using q H4 sm
      | some hs' =>
        obtain ⟨e, rfl, he⟩ := dp_ints hh
        obtain ⟨l1, l2⟩ := hho hs' rfl
        have bl2 := blanks_len l2
        wtm_at "s"
        refine k_addS (by rw [sg_mkS, hues_len4]; omega) ?_
        wtm_at "s"
        refine lc_blanks (sm.seq he) l1 l2 (fun _ => rfl) (fun _ => rfl) (fun D2 H5 nD2 s5 jn2 => ?_)
        wtm_at "s"
        refine jn2 _ ?_
        refine k_addS (by simp only [sg_mkS, List.length_append, hues_len4]; omega) ?_
        wtm_at "s"
        refine k_addS (by simp only [sg_mkS, sg_nl, List.length_append, hues_len4, List.length_cons, List.length_nil]; omega) ?_
        wtm_at "s"
        simp only [sg_mkS, sg_nl]
        have := q H5 (sm.trans s5)
        simpa [rowL] using this
  · wtm_at "s"
    refine k_eqS ?_
    cases N with
    | line n =>
      obtain rfl := dp_int hy
      rw [show Net.kind (.line n) = Str.ofString "line" from rfl, s_lt]
      exact ⟨_, rfl, iteF (k_next (main _ _ ⟨rfl, s0, sl e1, rfl⟩))⟩
    | ring n =>
      obtain rfl := dp_int hy
      rw [show Net.kind (.ring n) = Str.ofString "ring" from rfl, s_rt]
      exact ⟨_, rfl, iteF (k_next (main _ _ ⟨rfl, s0, sl e1, rfl⟩))⟩
    | tree ps =>
      obtain ⟨a, rfl, ha⟩ := dp_ints hy
      rw [show Net.kind (.tree ps) = Str.ofString "tree" from rfl, s_same]
      have hs1 := same_seqT s1 hs
      refine ⟨_, rfl, iteT (k_set (k_op (k_var rfl (k_c (k_ixT hs1 rfl ?_)))))⟩
      exact main _ _ ⟨rfl, a, s1.seq ha, rfl⟩
abbrev sp_law_text (K : PySem.W.Frag) : Sp := fun vs H Q E => ∃ v0 v1 v2, vs = [v0, v1, v2] ∧ pr_law_text K v0 v1 v2 H Q E
theorem ok_law_text (T : Txt K mg A) : FnOk P w K mg base CX0 1 A.a_law_text A.d_law_text ["_law_net_here", "_law_ways", "_law_hues_here"] (sp_law_text K) := by
  refine T.F_law_text.ok sc_law_text (fun vs H Q E h => by obtain ⟨v0, v1, v2, rfl, _⟩ := h; rfl) (fun cdv A0 outer s H vs Q E hr h => ?_)
  obtain ⟨v0, v1, v2, rfl, h⟩ := h
  exact ⟨t_law_text K, (pss_cons (ps_set (i := 3) sc_law_text.nd rfl (Or.inl rfl) (pe_lst (pa_cons (pe_ix ix_tup (pv 0) pe_int (fun _ _ => rfl)) pa_nil)))
      (pss_cons (ps_if (pt_cmpR op_eq (pe_ix ix_tup (pv 0) pe_int (fun _ _ => rfl)) pe_str (nomark _)) (pss_one (ps_set (i := 3) sc_law_text.nd rfl (Or.inl rfl) (pe_ix ix_tup (pv 0) pe_int (fun _ _ => rfl)))) pss_nil)
      (pss_cons (ps_set (i := 4) sc_law_text.nd rfl (Or.inl rfl) (pe_op op_add_str (pe_op op_add_str (pe_ix ix_tup (pv 0) pe_int (fun _ _ => rfl)) (pe_join pe_str (pe_lc (own := [("_law_number", 7)]) (by rfl) sc_law_text.nd (pi_list (pv 3)) (blkOk_by (own := [("_law_number", 7)]) (N := ["_law_net_here", "_law_ways", "_law_hues_here", "_law_size_here", "_law_text_here", "_law_a", "_law_b", "_law_number", "_law_hue"]) (sc := defScope s_law_text) (by decide +kernel)) (fun _ _ _ _ _ => (pg_name (i := 7) sc_law_text.nd rfl (Or.inl rfl))) (fun _ _ _ _ _ => pts_nil) (fun _ _ _ _ _ => (pe_op op_add_str pe_str (pe_callTy q_strI (by rfl) T.z_str (by decide +kernel) (pa_cons (pv 7) pa_nil))))))) pe_str))
      (pss_cons (ps_for PassesOwn.never rfl (pi_list (pv 1)) (pg_tup (by rfl) (pgs_cons (pg_name (i := 5) sc_law_text.nd rfl (Or.inl rfl)) (pgs_cons (pg_name (i := 6) sc_law_text.nd rfl (Or.inl rfl)) pgs_nil)))
      (pss_one (ps_set (i := 4) sc_law_text.nd rfl (Or.inl rfl) (pe_op op_add_str (pe_op op_add_str (pe_op op_add_str (pe_op op_add_str (pe_op op_add_str (pv 4) pe_str) (pe_callTy q_strI (by rfl) T.z_str (by decide +kernel) (pa_cons (pv 5) pa_nil))) pe_str) (pe_callTy q_strI (by rfl) T.z_str (by decide +kernel) (pa_cons (pv 6) pa_nil))) pe_str))))
      (pss_cons (ps_if (pt_cmpR op_notN (pv 2) pe_non (nomark _)) (pss_one (ps_set (i := 4) sc_law_text.nd rfl (Or.inl rfl) (pe_op op_add_str (pe_op op_add_str (pe_op op_add_str (pv 4) pe_str) (pe_join pe_str (pe_lc (own := [("_law_hue", 8)]) (by rfl) sc_law_text.nd (pi_list (pv 2)) (blkOk_by (own := [("_law_hue", 8)]) (N := ["_law_net_here", "_law_ways", "_law_hues_here", "_law_size_here", "_law_text_here", "_law_a", "_law_b", "_law_number", "_law_hue"]) (sc := defScope s_law_text) (by decide +kernel)) (fun _ _ _ _ _ => (pg_name (i := 8) sc_law_text.nd rfl (Or.inl rfl))) (fun _ _ _ _ _ => pts_nil) (fun _ _ _ _ _ => (pe_op op_add_str pe_str (pe_callTy q_strI (by rfl) T.z_str (by decide +kernel) (pa_cons (pv 8) pa_nil))))))) pe_str))) pss_nil)
      (pss_one (ps_ret (pv 4)))))))), pure_law_text h⟩


def pr_law_whole (K : PySem.W.Frag) (v0 : V) (H : Hp) (Q : VK) (_ : XK) : Prop := ∃ x : Int, v0 = .int x ∧ Q (.bl true) H
def t_law_whole (K : PySem.W.Frag) : TS :=
  (tRet (tAndV (tCB (rIsi K) (tCons (tVar 0) (tCons (tC (.ty "int")) tNil))) (tNotV (tCB (rIsi K) (tCons (tVar 0) (tCons (tC (.ty "bool")) tNil))))))
theorem pure_law_whole {v0 : V} {H : Hp} {Q : VK} {E : XK} (h : pr_law_whole K v0 H Q E) : t_law_whole K ⟨fun _ H' => Q .non H', Q, fun _ _ => False, fun _ _ => False⟩ [some v0] H := by
  obtain ⟨x, rfl, q⟩ := h
  unfold t_law_whole
  wtm_at "s"
  exact q
abbrev sp_law_whole (K : PySem.W.Frag) : Sp := fun vs H Q E => ∃ v0, vs = [v0] ∧ pr_law_whole K v0 H Q E
theorem ok_law_whole (T : Txt K mg A) : FnOk P w K mg base CX0 1 A.a_law_whole A.d_law_whole ["_law_found"] (sp_law_whole K) := by
  refine T.F_law_whole.ok sc_law_whole (fun vs H Q E h => by obtain ⟨v0, rfl, _⟩ := h; rfl) (fun cdv A0 outer s H vs Q E hr h => ?_)
  obtain ⟨v0, rfl, h⟩ := h
  exact ⟨t_law_whole K, (pss_one (ps_ret (pe_and (pe_callB q_isi (by rfl) T.z_isinstance (by decide +kernel) (pa_cons (pv 0) (pa_cons (pe_bltn (v := .ty "int") (by rfl) T.z_int (by decide +kernel) rfl) pa_nil))) (pe_one (pe_not (pe_callB q_isi (by rfl) T.z_isinstance (by decide +kernel) (pa_cons (pv 0) (pa_cons (pe_bltn (v := .ty "bool") (by rfl) T.z_bool (by decide +kernel) rfl) pa_nil)))))))), pure_law_whole h⟩
theorem ty_tup {K : PySem.W.Frag} {H : Hp} {p : Addr} {xs : List V} (h : SqT K H p xs) : TyX K H (.ref p) (.type "tuple") := by
  rcases h with (h | ⟨o, h⟩) | ⟨o, its, n, h, c, _⟩
  · exact .base (.tup h)
  · exact .fTuple h
  · exact .kTuple h c
theorem k_isiTp {K : PySem.W.Frag} {H : Hp} {Q : VK} {p : Addr} {xs : List V} (hs : SqT K H p xs) (h : Q (.bl true) H) : rIsi K [.ref p, .ty "tuple"] H Q := k_isi (ty_tup hs) (by decide +kernel) h
def pr_law_wholes (K : PySem.W.Frag) (v0 : V) (H : Hp) (Q : VK) (_ : XK) : Prop := ∃ (a : Addr) (ns : List Int), v0 = .ref a ∧ (SqL K H a (ns.map V.int) ∨ SqT K H a (ns.map V.int)) ∧ ns.length ≤ 1000 ∧ ∀ H', Same H H' → Q (.bl true) H'
def t_law_wholes (K : PySem.W.Frag) : TS :=
  (tSeq (tIfS (tNot (tB (tCB (rIsiT K) (tCons (tVar 0) (tCons (tTup (tCons (tC (.ty "list")) (tCons (tC (.ty "tuple")) tNil))) tNil))))) (tRet (tC (.bl false))) tNext)
    (tRet (tOp rEq (tCB (rLen K) (tCons (tLc (iAny (iList K (tVar 0)) (iTup K (tVar 0))) (gName 1) (tNot (tB (tCall (sp_law_whole K) [] E0 (tCons (tVar 1) tNil)))) (tVar 1) [1]) tNil)) (tC (.int 0)))))
theorem fm_nothing {α : Type} (l : List α) : l.filterMap (fun _ => (none : Option V)) = [] := by
  induction l with
  | nil => rfl
  | cons x r ih => exact ih
theorem kit_lt {K : PySem.W.Frag} : PySem.W.kitAny K (.type "list") [.type "list", .type "tuple"] = some true := by
  rw [show PySem.W.kitAny K (.type "list") [.type "list", .type "tuple"] = (match PySem.W.kitOne K (.type "list") (.type "list") with | some true => some true | some false => PySem.W.kitAny K (.type "list") [.type "tuple"] | none => none) from rfl]
  rw [show PySem.W.kitOne K (.type "list") (.type "list") = some true from if_pos (beq_self_eq_true _)]
theorem pure_law_wholes {v0 : V} {H : Hp} {Q : VK} {E : XK} (h : pr_law_wholes K v0 H Q E) : t_law_wholes K ⟨fun _ H' => Q .non H', Q, fun _ _ => False, fun _ _ => False⟩ [some v0, none] H := by
  obtain ⟨a, ns, rfl, hs, hz, q⟩ := h
  unfold t_law_wholes
  wtm_at "s"
  refine kT (by simp) (fun tp H1 ntp s1 e1 => ?_)
  have fin : ∀ D H2, Same H1 H2 → H2 D = some (.lst []) → Q (.bl true) H2 := fun D H2 s2 _ => q H2 (s1.trans s2)
  rcases hs with hs | hs
  · refine ⟨.ref a, tp, _, .type "list", [.type "list", .type "tuple"], true, rfl, e1, .cons (.ty _) (.cons (.ty _) .nil), ty_list (s1.seq hs), by simp [PySem.W.kitAny, kit_ty (show kitB "list" "list" = some true by decide +kernel)], ?_⟩
    wtm_at "s"
    refine .inl ?_
    wtm_at "s"
    refine lc_pure (s1.seq hs) ns (by simp) (by omega) (fun _ => none) ?_ (fun D H2 nD s2 eD => ?_)
    · intro k z p H' hz hp sm R R0 h1 h2
      rw [List.getElem?_map, hp] at hz
      cases hz
      wtm_at "s"
      refine ⟨_, rfl, p, rfl, ?_⟩
      wtm_at "s"
      exact h2 rfl
    · rw [fm_nothing] at eD
      wtm_at "s"
      exact fin D H2 s2 eD
  · refine ⟨.ref a, tp, _, .type "tuple", [.type "list", .type "tuple"], true, rfl, e1, .cons (.ty _) (.cons (.ty _) .nil), ty_tup (same_seqT s1 hs), by simp [PySem.W.kitAny, kit_ty (show kitB "tuple" "list" = some false by decide +kernel), kit_ty (show kitB "tuple" "tuple" = some true by decide +kernel)], ?_⟩
    wtm_at "s"
    refine .inr ?_
    wtm_at "s"
    refine lc_growT (same_seqT s1 hs) ns (by simp) (by omega) (fun _ => none) ?_ (fun D H2 nD s2 eD => ?_)
    · intro k z p H' hz hp sm R R0 h1 h2
      rw [List.getElem?_map, hp] at hz
      cases hz
      wtm_at "s"
      refine ⟨_, rfl, p, rfl, ?_⟩
      wtm_at "s"
      exact h2 _ rfl (Same.refl _)
    · rw [fm_nothing] at eD
      wtm_at "s"
      exact fin D H2 s2 eD
abbrev sp_law_wholes (K : PySem.W.Frag) : Sp := fun vs H Q E => ∃ v0, vs = [v0] ∧ pr_law_wholes K v0 H Q E
theorem ok_law_wholes (T : Txt K mg A) : FnOk P w K mg base CX0 2 A.a_law_wholes A.d_law_wholes ["_law_found"] (sp_law_wholes K) := by
  refine T.F_law_wholes.ok sc_law_wholes (fun vs H Q E h => by obtain ⟨v0, rfl, _⟩ := h; rfl) (fun cdv A0 outer s H vs Q E hr h => ?_)
  obtain ⟨v0, rfl, h⟩ := h
  exact ⟨t_law_wholes K, (pss_cons (ps_if (pt_not (pt_val (pe_callB q_isiT (by rfl) T.z_isinstance (by decide +kernel) (pa_cons (pv 0) (pa_cons (pe_tup (pa_cons (pe_bltn (v := .ty "list") (by rfl) T.z_list (by decide +kernel) rfl) (pa_cons (pe_bltn (v := .ty "tuple") (by rfl) T.z_tuple (by decide +kernel) rfl) pa_nil))) pa_nil))))) (pss_one (ps_ret pe_bl)) pss_nil)
      (pss_one (ps_ret (pe_cmpR op_eq (pe_callB q_len (by rfl) T.z_len (by decide +kernel) (pa_cons (pe_lc (own := [("_law_number", 1)]) (by rfl) sc_law_wholes.nd (pi_any (pi_list (pv 0)) (pi_tup (pv 0))) (blkOk_by (own := [("_law_number", 1)]) (N := ["_law_found", "_law_number"]) (sc := defScope s_law_wholes) (by decide +kernel)) (fun _ _ _ _ _ => (pg_name (i := 1) sc_law_wholes.nd rfl (Or.inl rfl))) (fun _ _ _ _ _ => (pts_one (pt_not (pt_val (pe_call (ok_law_whole T) (hr.mono (by decide)) (by rfl) T.g_law_whole T.F_law_whole.kp T.b_law_whole .nil pass0 (pa_cons (pv 1) pa_nil)))))) (fun _ _ _ _ _ => (pv 1))) pa_nil)) pe_int (nomark _))))), pure_law_wholes h⟩
abbrev dTold (N : Net) (ws : List (Int × Int)) (ho : Option (List Int)) : PyData := .tuple [N.d, dPairs ws, dHues ho]
theorem dp_tup3 {K : PySem.W.Frag} {H : Hp} {v : V} {c d e : PyData} (h : Dp K H v (.tuple [c, d, e])) : ∃ a x y z, v = .ref a ∧ SqT K H a [x, y, z] ∧ Dp K H x c ∧ Dp K H y d ∧ Dp K H z e := by
  cases h with | tup s r =>
    cases r with | cons h1 r =>
      cases r with | cons h2 r =>
        cases r with | cons h3 r =>
          cases r
          exact ⟨_, _, _, _, rfl, s, h1, h2, h3⟩
theorem str_ok (s : Str) (h : PyData.strOk s = true) {n : Nat} : Sh n (.str s) := ⟨h, Nat.zero_le _⟩
theorem sh_net (N : Net) : Sh 4 N.d := by
  cases N with
  | line n => exact sh_two (str_ok _ (by show PyData.strOk (Str.ofString "line") = true; decide +kernel)) sh_int
  | ring n => exact sh_two (str_ok _ (by show PyData.strOk (Str.ofString "ring") = true; decide +kernel)) sh_int
  | tree ps => exact sh_two (str_ok _ (by show PyData.strOk (Str.ofString "tree") = true; decide +kernel)) (sh_ints ps)
theorem sh_hues (ho : Option (List Int)) : Sh 4 (dHues ho) := by
  cases ho with
  | none => exact sh_none
  | some hs => exact sh_ints hs
theorem sh_t3 {n : Nat} {c d e : PyData} (h1 : Sh n c) (h2 : Sh n d) (h3 : Sh n e) : Sh (n + 1) (.tuple [c, d, e]) := sh_tup fun x hx => by
  simp only [List.mem_cons, List.not_mem_nil, or_false] at hx
  rcases hx with rfl | rfl | rfl
  · exact h1
  · exact h2
  · exact h3
def pr_law_right (K : PySem.W.Frag) (v0 v1 : V) (H : Hp) (Q : VK) (_ : XK) : Prop := ∃ N ws ho, Dp K H v0 (dTold N ws ho) ∧ Dp K H v1 (dTold N ws ho) ∧ N.ok ∧ ws.length ≤ 100 ∧ (∀ hs, ho = some hs → hs.length ≤ 100) ∧ ∀ H', Same H H' → Q (.bl true) H'
def t_law_right (K : PySem.W.Frag) : TS :=
  (tSeq (tIfS (tOr (tNot (tB (tCB (rIsi K) (tCons (tVar 0) (tCons (tC (.ty "tuple")) tNil))))) (tOr (tTest (tOp rNe (tCB (rLen K) (tCons (tVar 0) tNil)) (tC (.int 3)))) (tOr (tTest (tOp (rNeD K) (tVar 0) (tVar 1))) (tNot (tB (tCB (rIsi K) (tCons (tOp (rIxT K) (tVar 0) (tC (.int 0))) (tCons (tC (.ty "tuple")) tNil)))))))) (tRet (tC (.bl false))) tNext)
    (tSeq (tAsg (tOp (rIxT K) (tOp (rIxT K) (tVar 0) (tC (.int 0))) (tC (.int 1))) (gName 2))
    (tSeq (tIfS (tNot (tB (tCB (rIsi K) (tCons (tVar 2) (tCons (tC (.ty "list")) tNil))))) (tAsg (tLst (tCons (tVar 2) tNil)) (gName 2)) tNext)
    (tSeq (tIfS (tOr (tNot (tB (tCall (sp_law_wholes K) [] E0 (tCons (tVar 2) tNil)))) (tTest (tOp rNe (tCB (rIsi K) (tCons (tOp (rIxT K) (tOp (rIxT K) (tVar 0) (tC (.int 0))) (tC (.int 1))) (tCons (tC (.ty "list")) tNil))) (tCB (rIsi K) (tCons (tOp (rIxT K) (tOp (rIxT K) (tVar 1) (tC (.int 0))) (tC (.int 1))) (tCons (tC (.ty "list")) tNil)))))) (tRet (tC (.bl false))) tNext)
    (tSeq (tIfS (tOr (tNot (tB (tCB (rIsi K) (tCons (tOp (rIxT K) (tVar 0) (tC (.int 1))) (tCons (tC (.ty "list")) tNil))))) (tTest (tOp xGt (tCB (rLen K) (tCons (tLc (iList K (tOp (rIxT K) (tVar 0) (tC (.int 1)))) (gName 3) (tNot (tB (tCall (sp_law_wholes K) [] E0 (tCons (tVar 3) tNil)))) (tVar 3) [3]) tNil)) (tC (.int 0))))) (tRet (tC (.bl false))) tNext)
    (tRet (tOrV (tOp xIsN (tOp (rIxT K) (tVar 0) (tC (.int 2))) (tC .non)) (tAndV (tCB (rIsi K) (tCons (tOp (rIxT K) (tVar 0) (tC (.int 2))) (tCons (tC (.ty "list")) tNil))) (tCall (sp_law_wholes K) [] E0 (tCons (tOp (rIxT K) (tVar 0) (tC (.int 2))) tNil))))))))))
theorem pure_law_right {v0 v1 : V} {H : Hp} {Q : VK} {E : XK} (h : pr_law_right K v0 v1 H Q E) : t_law_right K ⟨fun _ H' => Q .non H', Q, fun _ _ => False, fun _ _ => False⟩ [some v0, some v1, none, none] H := by
  obtain ⟨N, ws, ho, h0, h1, ok, hz, hhz, q⟩ := h
  obtain ⟨t, x, y, z, rfl, ht, hx, hy, hz3⟩ := dp_tup3 h0
  obtain ⟨t', x', y', z', rfl, ht', hx', _, _⟩ := dp_tup3 h1
  obtain ⟨a, u, rfl, ha, hu⟩ := dp_net hx
  obtain ⟨a', u', rfl, ha', hu'⟩ := dp_net hx'
  obtain ⟨b, xs, rfl, hb, hxs⟩ := dp_list hy
  have hl := dpa_len hxs
  rw [List.length_map] at hl
  obtain ⟨nm, nl⟩ := nums_ok ok
  unfold t_law_right
  wtm_at "s"
  refine k_isiTp ht ?_
  wtm_at "s"
  refine k_lenT ht ?_
  wtm_at "s"
  refine k_itNF rfl ?_
  wtm_at "s"
  refine k_neD0 (n := 5) h0 h1 (sh_t3 (sh_net N) (sh_pairs _) (sh_hues ho)) (by decide) ?_
  wtm_at "s"
  refine k_isiTp ha ?_
  refine ⟨_, rfl, iteNT (k_next ?_)⟩
  refine k_seq (k_set (k_op (k_op (k_var rfl (k_c (k_ixT ht rfl (k_c (k_ixT ha rfl ?_))))))))
  refine k_seq (ifsjoin (fun σ' H1 => ∃ w, Same H H1 ∧ SqL K H1 w (N.nums.map V.int) ∧ σ' = [some (.ref t), some (.ref t'), some (.ref w), none]) ?_ (fun main => ?_))
  · rintro σ' H1 ⟨w, s1, hw, rfl⟩
    refine seqO (fun σ' H2 => Same H H2 ∧ σ' = [some (.ref t), some (.ref t'), some (.ref w), none]) ?_ (fun nx' go => ?_)
    · rintro σ' H2 ⟨s2, rfl⟩
      have ht2 := same_seqT s2 ht
      have hb2 := s2.seq hb
      wtm_at "s"
      refine lc_grow hb2 ws hl (by omega) (fun _ => none) ?_ (fun D H3 nD s3 eD => ?_)
      · intro i x' w' H' hx' hp sm R R0 g1 g2
        obtain ⟨w'', c, hw', rfl, hc⟩ := dpairs_get hxs hx'
        rw [hp] at hw'; cases hw'
        have hc' : SqT K H' c [.int w'.1, .int w'.2] := same_seqT (s2.trans sm) hc
        wtm_at "s"
        refine ⟨_, rfl, c, [w'.1, w'.2], rfl, .inr hc', by simp, fun H'' s'' => ?_⟩
        wtm_at "s"
        exact g2 _ rfl s''
      · rw [fm_nothing] at eD
        have ht3 := same_seqT (s2.trans s3) ht
        wtm_at "s"
        cases ho with
        | none =>
          cases hz3
          wtm_at "s"
          exact q H3 (s2.trans s3)
        | some hs =>
          obtain ⟨c, rfl, hc⟩ := dp_ints hz3
          have hc3 := (s2.trans s3).seq hc
          wtm_at "s"
          exact ⟨_, rfl, c, hs, rfl, .inl hc3, by have := hhz hs rfl; omega, fun H4 s4 => q H4 (s2.trans (s3.trans s4))⟩
    have ht1 := same_seqT s1 ht
    have ha1 := same_seqT s1 ha
    have ht1' := same_seqT s1 ht'
    have ha1' := same_seqT s1 ha'
    wtm_at "s"
    refine ⟨_, rfl, w, N.nums, rfl, .inl hw, by omega, fun H2 s2 => ?_⟩
    have ht2 := same_seqT s2 ht1
    have ha2 := same_seqT s2 ha1
    have ht2' := same_seqT s2 ht1'
    have ha2' := same_seqT s2 ha1'
    have s12 := s1.trans s2
    cases N with
    | line n =>
      obtain rfl := dp_int hu
      obtain rfl := dp_int hu'
      wtm_at "s"
      exact go _ _ ⟨s12, rfl⟩
    | ring n =>
      obtain rfl := dp_int hu
      obtain rfl := dp_int hu'
      wtm_at "s"
      exact go _ _ ⟨s12, rfl⟩
    | tree ps =>
      obtain ⟨c, rfl, hc⟩ := dp_ints hu
      obtain ⟨c', rfl, hc'⟩ := dp_ints hu'
      have hc2 := s12.seq hc
      have hc2' := s12.seq hc'
      wtm_at "s"
      exact go _ _ ⟨s12, rfl⟩
  · cases N with
    | line n =>
      obtain rfl := dp_int hu
      wtm_at "s"
      exact kL (by simp) (fun w H1 nw s1 e1 => main _ _ ⟨w, s1, sl e1, rfl⟩)
    | ring n =>
      obtain rfl := dp_int hu
      wtm_at "s"
      exact kL (by simp) (fun w H1 nw s1 e1 => main _ _ ⟨w, s1, sl e1, rfl⟩)
    | tree ps =>
      obtain ⟨c, rfl, hc⟩ := dp_ints hu
      refine k_if (k_not (k_B (k_cb (k_cons (k_var rfl (k_cons (k_c (k_nil ?_))))))))
      exact k_isiL hc ⟨_, rfl, iteNT (k_next (main _ _ ⟨c, Same.refl _, hc, rfl⟩))⟩
abbrev sp_law_right (K : PySem.W.Frag) : Sp := fun vs H Q E => ∃ v0 v1, vs = [v0, v1] ∧ pr_law_right K v0 v1 H Q E
theorem ok_law_right (T : Txt K mg A) : FnOk P w K mg base CX0 3 A.a_law_right A.d_law_right ["_law_told", "_law_due"] (sp_law_right K) := by
  refine T.F_law_right.ok sc_law_right (fun vs H Q E h => by obtain ⟨v0, v1, rfl, _⟩ := h; rfl) (fun cdv A0 outer s H vs Q E hr h => ?_)
  obtain ⟨v0, v1, rfl, h⟩ := h
  exact ⟨t_law_right K, (pss_cons (ps_if (PW.pt (pw_or (pt_not (pt_val (pe_callB q_isi (by rfl) T.z_isinstance (by decide +kernel) (pa_cons (pv 0) (pa_cons (pe_bltn (v := .ty "tuple") (by rfl) T.z_tuple (by decide +kernel) rfl) pa_nil))))) (pw_or (pt_cmpR op_ne (pe_callB q_len (by rfl) T.z_len (by decide +kernel) (pa_cons (pv 0) pa_nil)) pe_int (nomark _)) (pw_or (pt_cmpR (op_neD hr.units) (pv 0) (pv 1) (nomark _)) (pw_or1 (pt_not (pt_val (pe_callB q_isi (by rfl) T.z_isinstance (by decide +kernel) (pa_cons (pe_ix ix_tup (pv 0) pe_int (fun _ _ => rfl)) (pa_cons (pe_bltn (v := .ty "tuple") (by rfl) T.z_tuple (by decide +kernel) rfl) pa_nil)))))))))) (pss_one (ps_ret pe_bl)) pss_nil)
      (pss_cons (ps_set (i := 2) sc_law_right.nd rfl (Or.inl rfl) (pe_ix ix_tup (pe_ix ix_tup (pv 0) pe_int (fun _ _ => rfl)) pe_int (fun _ _ => rfl)))
      (pss_cons (ps_if (pt_not (pt_val (pe_callB q_isi (by rfl) T.z_isinstance (by decide +kernel) (pa_cons (pv 2) (pa_cons (pe_bltn (v := .ty "list") (by rfl) T.z_list (by decide +kernel) rfl) pa_nil))))) (pss_one (ps_set (i := 2) sc_law_right.nd rfl (Or.inl rfl) (pe_lst (pa_cons (pv 2) pa_nil)))) pss_nil)
      (pss_cons (ps_if (PW.pt (pw_or (pt_not (pt_val (pe_call (ok_law_wholes T) (hr.mono (by decide)) (by rfl) T.g_law_wholes T.F_law_wholes.kp T.b_law_wholes .nil pass0 (pa_cons (pv 2) pa_nil)))) (pw_or1 (pt_cmpR op_ne (pe_callB q_isi (by rfl) T.z_isinstance (by decide +kernel) (pa_cons (pe_ix ix_tup (pe_ix ix_tup (pv 0) pe_int (fun _ _ => rfl)) pe_int (fun _ _ => rfl)) (pa_cons (pe_bltn (v := .ty "list") (by rfl) T.z_list (by decide +kernel) rfl) pa_nil))) (pe_callB q_isi (by rfl) T.z_isinstance (by decide +kernel) (pa_cons (pe_ix ix_tup (pe_ix ix_tup (pv 1) pe_int (fun _ _ => rfl)) pe_int (fun _ _ => rfl)) (pa_cons (pe_bltn (v := .ty "list") (by rfl) T.z_list (by decide +kernel) rfl) pa_nil))) (nomark _))))) (pss_one (ps_ret pe_bl)) pss_nil)
      (pss_cons (ps_if (PW.pt (pw_or (pt_not (pt_val (pe_callB q_isi (by rfl) T.z_isinstance (by decide +kernel) (pa_cons (pe_ix ix_tup (pv 0) pe_int (fun _ _ => rfl)) (pa_cons (pe_bltn (v := .ty "list") (by rfl) T.z_list (by decide +kernel) rfl) pa_nil))))) (pw_or1 (pt_cmpR op_gt (pe_callB q_len (by rfl) T.z_len (by decide +kernel) (pa_cons (pe_lc (own := [("_law_way_here", 3)]) (by rfl) sc_law_right.nd (pi_list (pe_ix ix_tup (pv 0) pe_int (fun _ _ => rfl))) (blkOk_by (own := [("_law_way_here", 3)]) (N := ["_law_told", "_law_due", "_law_sizes", "_law_way_here"]) (sc := defScope s_law_right) (by decide +kernel)) (fun _ _ _ _ _ => (pg_name (i := 3) sc_law_right.nd rfl (Or.inl rfl))) (fun _ _ _ _ _ => (pts_one (pt_not (pt_val (pe_call (ok_law_wholes T) (hr.mono (by decide)) (by rfl) T.g_law_wholes T.F_law_wholes.kp T.b_law_wholes .nil pass0 (pa_cons (pv 3) pa_nil)))))) (fun _ _ _ _ _ => (pv 3))) pa_nil)) pe_int (nomark _))))) (pss_one (ps_ret pe_bl)) pss_nil)
      (pss_one (ps_ret (pe_or (pe_cmpR op_isN (pe_ix ix_tup (pv 0) pe_int (fun _ _ => rfl)) pe_non (nomark _)) (pe_one (pe_and (pe_callB q_isi (by rfl) T.z_isinstance (by decide +kernel) (pa_cons (pe_ix ix_tup (pv 0) pe_int (fun _ _ => rfl)) (pa_cons (pe_bltn (v := .ty "list") (by rfl) T.z_list (by decide +kernel) rfl) pa_nil))) (pe_one (pe_call (ok_law_wholes T) (hr.mono (by decide)) (by rfl) T.g_law_wholes T.F_law_wholes.kp T.b_law_wholes .nil pass0 (pa_cons (pe_ix ix_tup (pv 0) pe_int (fun _ _ => rfl)) pa_nil))))))))))))), pure_law_right h⟩


/-- the law's outer loop: over [c] + script[:z] -/
theorem law_frameN {BODY : TS} {c z : Int} {N : Nat} {m : Nat} {a : Addr} {ns : List Int} {H : Hp} {Q : VK} {n0 : L2.St → Hp → Prop} {bk ct : L2.St → Hp → Prop} (hz : z = N) (hn : ns.length ≤ 63) (ha : SqL K H a (ns.map V.int)) (q : ∀ H', Q (.bl true) H')
    (body : ∀ (cell : Int) (l : List (Option V)) (H3 H4 : Hp) (nx : L2.St → Hp → Prop), l.length = m → Same H3 H4 →
      BODY ⟨fun σ' H' => Same H3 H' ∧ ∃ l' : List (Option V), l'.length = m + 1 ∧ σ' = some (.ref a) :: l', Q, nx, fun σ' H' => Same H3 H' ∧ ∃ l' : List (Option V), l'.length = m + 1 ∧ σ' = some (.ref a) :: l'⟩ (some (.ref a) :: some (.int cell) :: l) H4) :
    tSeq (tFor (iList K (tOp rCat (tLst (tCons (tC (.int c)) tNil)) (tSl (rSlL K) (tVar 0) tNoPart (tPart (tC (.int z)))))) (gName 1) BODY) (tRet (tC (.bl true))) ⟨n0, Q, bk, ct⟩ (some (.ref a) :: List.replicate (m + 1) none) H := by
  wtm_at "s"
  refine ⟨sz (by simp), fun l1 n1 => ?_⟩
  have s1 := same_new (o := .lst [.int c]) n1
  have e1 := upd_same (H := H) (a := l1) (o := .lst [.int c])
  generalize upd H l1 (.lst [.int c]) = H1 at s1 e1 ⊢
  wtm_at "s"
  refine ⟨a, _, rfl, s1.seq ha, fun l2 n2 => ?_⟩
  rw [hz, cutTo N]
  have s2 := same_new (o := .lst ((ns.take N).map V.int)) n2
  have e2 := upd_same (H := H1) (a := l2) (o := .lst ((ns.take N).map V.int))
  generalize upd H1 l2 (.lst ((ns.take N).map V.int)) = H2 at s2 e2 ⊢
  refine k_cat (s2 _ _ e1) e2 (by simp; omega) (fun l3 n3 => ?_)
  have e3 : upd H2 l3 (.lst ([.int c] ++ (ns.take N).map V.int)) l3 = some (.lst ((c :: ns.take N).map V.int)) := upd_same
  generalize upd H2 l3 (.lst ([.int c] ++ (ns.take N).map V.int)) = H3 at e3 ⊢
  wtm_at "s"
  refine forL (sl e3) (fun i σ' H' => Same H3 H' ∧ ∃ l' : List (Option V), l'.length = m + 1 ∧ σ' = some (.ref a) :: l') ⟨Same.refl _, List.replicate (m + 1) none, by simp, rfl⟩ (fun i σ' H' _ e => e.1.seq (sl e3)) ?_ ?_
  · rintro i x σ' H4 hx ⟨sm, l', hl', rfl⟩
    rw [List.getElem?_map] at hx
    obtain ⟨cell, _, rfl⟩ := Option.map_eq_some_iff.mp hx
    cases l' with
    | nil => simp at hl'
    | cons y l => exact body cell l H3 H4 _ (by simpa using hl') sm
  · rintro σ' H' ⟨sm, l', hl', rfl⟩
    wtm_at "s"
    exact q _


def sp_law (K : PySem.W.Frag) : Sp := fun vs H Q _ => ∃ (a : Addr) (ns : List Int), vs = [.ref a] ∧ SqL K H a (ns.map V.int) ∧ ns.length ≤ 63 ∧ ∀ H', Q (.bl true) H'
def t_law (K : PySem.W.Frag) : TS :=
  (tSeq (tFor (iList K (tOp rCat (tLst (tCons (tC (.int 13)) tNil)) (tSl (rSlL K) (tVar 0) tNoPart (tPart (tC (.int 20)))))) (gName 1)
      (tSeq (tAsg (tCall (sp_law_all K) [] E0 (tCons (tCall (sp_law_left K) [] E0 (tCons (tVar 1) tNil)) tNil)) (gName 2))
    (tSeq (tAsg (tCall (sp_law_text K) [] E0 (tCons (tOp (rIxT K) (tVar 2) (tC (.int 0))) (tCons (tOp (rIxT K) (tVar 2) (tC (.int 1))) (tCons (tOp (rIxT K) (tVar 2) (tC (.int 2))) tNil)))) (gName 3))
    (tFor (iRng1 (tCons (tC (.int 2)) tNil)) (gName 4)
      (tSeq (tAsg (tCall (sp_read_net K) [] E0 (tCons (tVar 3) tNil)) (gName 5))
    (tSeq (tIfS (tNot (tB (tCall (sp_law_right K) [] E0 (tCons (tVar 5) (tCons (tVar 2) tNil))))) (tRet (tC (.bl false))) tNext)
    (tSeq (tDrop (tBM K "list" rAppend (tOp (rIxT K) (tVar 5) (tC (.int 1))) (tCons (tTup (tCons (tC (.int 0)) (tCons (tC (.int 1)) tNil))) tNil)))
    (tSeq (tIfS (tB (tCB (rIsi K) (tCons (tOp (rIxT K) (tOp (rIxT K) (tVar 5) (tC (.int 0))) (tC (.int 1))) (tCons (tC (.ty "list")) tNil)))) (tDrop (tBM K "list" rAppend (tOp (rIxT K) (tOp (rIxT K) (tVar 5) (tC (.int 0))) (tC (.int 1))) (tCons (tC (.int 0)) tNil))) tNext)
    (tIfS (tTest (tOp xNotN (tOp (rIxT K) (tVar 5) (tC (.int 2))) (tC .non))) (tDrop (tBM0 K "list" rClear (tOp (rIxT K) (tVar 5) (tC (.int 2))))) tNext)))))))))
    (tRet (tC (.bl true))))
theorem still_lst {H : Hp} {p q : Addr} {xs ys : List V} (h : H p = some (.lst xs)) : ∃ zs, upd H q (.lst ys) p = some (.lst zs) := by
  by_cases e : p = q
  · exact ⟨ys, by rw [e, upd_same]⟩
  · exact ⟨xs, by rw [upd_ne e]; exact h⟩
theorem still_tup {H : Hp} {p q : Addr} {xs ys zs : List V} (h : H p = some (.tup xs)) (h2 : H q = some (.lst zs)) : upd H q (.lst ys) p = some (.tup xs) := by
  rw [upd_ne]
  · exact h
  · intro e; rw [e, h2] at h; cases h
theorem pure_law {v0 : V} {H : Hp} {Q : VK} (h : ∃ (a : Addr) (ns : List Int), v0 = .ref a ∧ SqL K H a (ns.map V.int) ∧ ns.length ≤ 63 ∧ ∀ H', Q (.bl true) H') : t_law K ⟨fun _ H' => Q .non H', Q, fun _ _ => False, fun _ _ => False⟩ [some v0, none, none, none, none, none] H := by
  obtain ⟨a, ns, rfl, ha, hz, q⟩ := h
  unfold t_law
  refine law_frameN (m := 4) (N := 20) rfl hz ha q ?_
  clear ha hz q H ns
  intro cell l H3 H4 nx hl sm
  match l, hl with
  | [k2, k3, k4, k5], _ =>
  wtm_at "s"
  refine ⟨_, rfl, cell, rfl, fun pu H5 npu s5 L5 => ?_⟩
  have h0 : Same H4 (hid [pu] H5) := (hid_free1 npu).trans (hid_mono s5)
  wtm_at "s"
  refine ⟨_, rfl, pu, 0, rfl, L5, by decide, fun t v1 v2 v3 N ws ho k' H6 L6 hk' S6 et d1 ok d2 lw okw d3 hr => ?_⟩
  have s6 : Same H3 H6 := sm.trans (h0.trans (S6.trans (hid_same _ _)))
  replace et := hid_same _ _ _ _ et
  replace d1 := dp_same (hid_same _ _) d1
  replace d2 := dp_same (hid_same _ _) d2
  replace d3 := dp_same (hid_same _ _) d3
  clear S6 h0 L6 L5 s5 sm
  have hok : HuesOk ho := fun hs e => by
    obtain ⟨r1, _, r3⟩ := hr hs e
    exact ⟨by omega, r3⟩
  have dD : Dp K H6 (.ref t) (dTold N ws ho) := .tup (stp et) (.cons d1 (.cons d2 (.cons d3 .nil)))
  wtm_at "s"
  refine ⟨_, _, _, rfl, N, ws, ho, d1, ok, d2, by omega, okw, d3, hok, fun H7 s7 => ?_⟩
  have dD7 := dp_same s7 dD
  have s67 := s6.trans s7
  clear d1 d2 d3 dD et s6 s7
  wtm_at "s"
  refine forR (fun i σ' H' => Same H7 H' ∧ ∃ k4 k5, σ' = [some (.ref a), some (.int cell), some (.ref t), some (.str (mkS (netL N ws ho))), k4, k5]) ⟨Same.refl _, _, _, rfl⟩ ?_ ?_
  · rintro i σ' H8 hi ⟨s8, k4, k5, rfl⟩
    wtm_at "s"
    refine ⟨_, rfl, N, ws, ho, rfl, ok, lw, okw, hr, fun to nv wl ys hv H9 s9 eto nn nwl ewl dys hn => ?_⟩
    wtm_at "s"
    refine ⟨_, _, rfl, N, ws, ho, .tup (stp eto) (.cons nn.dp (.cons (.lst (sl ewl) (dpa_same (hid_same _ _) dys)) (.cons hn.dp .nil))), dp_same (s8.trans s9) dD7, ok, by omega, fun hs e => (hok hs e).1, fun HA sA => ?_⟩
    have lys := dpa_len dys
    rw [List.length_map] at lys
    replace eto := sA _ _ eto
    replace ewl := sA _ _ ewl
    have nnA := nn.same sA
    have hnA := hn.same sA
    have s8A : Same H8 HA := s9.trans sA
    clear dys hn nn s9 sA
    wtm_at "s"
    refine k_tyL (sl ewl) ?_
    wtm_at "s"
    refine kT (by simp) (fun tp HB ntp sB etp => ?_)
    replace eto := sB _ _ eto
    replace ewl := sB _ _ ewl
    have nnB := nnA.same sB
    have hnB := hnA.same sB
    have s8B : Same H8 HB := s8A.trans sB
    clear nnA hnA s8A sB etp
    wtm_at "s"
    refine k_append ewl (by omega) ?_
    have etoC := still_tup (ys := ys ++ [.ref tp]) eto ewl
    have s8C : Same H8 (upd HB wl (.lst (ys ++ [.ref tp]))) := same_mut s8B nwl
    have hueAt : ∀ hp, hv = .ref hp → H8 hp = none ∧ ∃ zs, upd HB wl (.lst (ys ++ [.ref tp])) hp = some (.lst zs) := fun hp ehp => by
      cases ho with
      | none => have e2 : hv = .non := hnB; rw [e2] at ehp; cases ehp
      | some hs =>
        obtain ⟨hp', e3, n3, e4⟩ := hnB
        rw [e3] at ehp
        cases ehp
        exact ⟨n3, still_lst e4⟩
    refine seqO (fun σ' HD => Same H8 HD ∧ HD to = some (.tup [nv, .ref wl, hv]) ∧ (∀ hp, hv = .ref hp → H8 hp = none ∧ ∃ zs, HD hp = some (.lst zs)) ∧ σ' = [some (.ref a), some (.int cell), some (.ref t), some (.str (mkS (netL N ws ho))), some (.int (0 + (i : Nat))), some (.ref to)]) ?_ (fun nx' go => ?_)
    · rintro σ' HD ⟨sD, eD, hD, rfl⟩
      wtm_at "s"
      cases ho with
      | none =>
        have e : hv = .non := hnB
        subst e
        wtm_at "s"
        exact ⟨s8.trans sD, _, _, rfl⟩
      | some hs =>
        obtain ⟨hp, rfl, _, _⟩ := hnB
        obtain ⟨nhp, zs, ezs⟩ := hD hp rfl
        wtm_at "s"
        refine k_tyL (sl ezs) ?_
        refine ⟨hp, zs, rfl, rfl, ezs, ?_⟩
        exact ⟨same_mut (s8.trans sD) (s8.free nhp), _, _, rfl⟩
    wtm_at "s"
    cases N with
    | line n =>
      obtain ⟨np, rfl, enp⟩ := nnB
      have enpC := still_tup (ys := ys ++ [.ref tp]) enp ewl
      wtm_at "s"
      exact go _ _ ⟨s8C, etoC, hueAt, rfl⟩
    | ring n =>
      obtain ⟨np, rfl, enp⟩ := nnB
      have enpC := still_tup (ys := ys ++ [.ref tp]) enp ewl
      wtm_at "s"
      exact go _ _ ⟨s8C, etoC, hueAt, rfl⟩
    | tree ps =>
      obtain ⟨np, sp, rfl, enp, nsp, esp⟩ := nnB
      have enpC := still_tup (ys := ys ++ [.ref tp]) enp ewl
      obtain ⟨zs, ezs⟩ := still_lst (q := wl) (ys := ys ++ [.ref tp]) esp
      have lz : zs.length < 100000 := by
        by_cases e : sp = wl
        · rw [e, upd_same] at ezs; cases ezs; simp; omega
        · rw [upd_ne e, esp] at ezs; cases ezs; have := ok.2.1; simp; omega
      generalize upd HB wl (.lst (ys ++ [.ref tp])) = HC at etoC s8C hueAt enpC ezs ⊢
      wtm_at "s"
      refine k_tyL (sl ezs) ?_
      wtm_at "s"
      refine k_append ezs lz ?_
      exact go _ _ ⟨same_mut s8C nsp, still_tup etoC ezs, fun hp e => by
        obtain ⟨h1, ws', h2⟩ := hueAt hp e
        exact ⟨h1, still_lst h2⟩, rfl⟩
  · rintro σ' H8 ⟨s8, k4, k5, rfl⟩
    exact ⟨s67.trans s8, _, rfl, rfl⟩
theorem ok_law (T : Txt K mg A) : FnOk P w K mg base CX0 8 A.a_law A.d_law ["_law_script"] (sp_law K) := by
  refine T.F_law.ok sc_law (fun vs H Q E h => by obtain ⟨a, ns, rfl, _⟩ := h; rfl) (fun cdv A0 outer s H vs Q E hr h => ?_)
  obtain ⟨a, ns, rfl, h⟩ := h
  exact ⟨t_law K, (pss_cons (ps_for PassesOwn.never rfl (pi_list (pe_op op_cat (pe_lst (pa_cons pe_int pa_nil)) (pe_slice sl_list (pv 0) po_none (po_some pe_int)))) (pg_name (i := 1) sc_law.nd rfl (Or.inl rfl))
      (pss_cons (ps_set (i := 2) sc_law.nd rfl (Or.inl rfl) (pe_call (ok_law_all T) (hr.mono (by decide)) (by rfl) T.g_law_all T.F_law_all.kp T.b_law_all .nil pass0 (pa_cons (pe_call (ok_law_left T) (hr.mono (by decide)) (by rfl) T.g_law_left T.F_law_left.kp T.b_law_left .nil pass0 (pa_cons (pv 1) pa_nil)) pa_nil)))
      (pss_cons (ps_set (i := 3) sc_law.nd rfl (Or.inl rfl) (pe_call (ok_law_text T) (hr.mono (by decide)) (by rfl) T.g_law_text T.F_law_text.kp T.b_law_text .nil pass0 (pa_cons (pe_ix ix_tup (pv 2) pe_int (fun _ _ => rfl)) (pa_cons (pe_ix ix_tup (pv 2) pe_int (fun _ _ => rfl)) (pa_cons (pe_ix ix_tup (pv 2) pe_int (fun _ _ => rfl)) pa_nil)))))
      (pss_one (ps_for PassesOwn.never rfl (pi_range1 (by rfl) T.z_range (pa_cons pe_int pa_nil)) (pg_name (i := 4) sc_law.nd rfl (Or.inl rfl))
      (pss_cons (ps_set (i := 5) sc_law.nd rfl (Or.inl rfl) (pe_call (ok_read_net T) (hr.mono (by decide)) (by rfl) T.g_read_net T.F_read_net.kp T.b_read_net .nil pass0 (pa_cons (pv 3) pa_nil)))
      (pss_cons (ps_if (pt_not (pt_val (pe_call (ok_law_right T) (hr.mono (by decide)) (by rfl) T.g_law_right T.F_law_right.kp T.b_law_right .nil pass0 (pa_cons (pv 5) (pa_cons (pv 2) pa_nil))))) (pss_one (ps_ret pe_bl)) pss_nil)
      (pss_cons (ps_expr (pe_bm PySem.F.plainAttrs_list PySem.F.slot_list_append PySem.F.type_list_append mt_append (pe_ix ix_tup (pv 5) pe_int (fun _ _ => rfl)) (pa_cons (pe_tup (pa_cons pe_int (pa_cons pe_int pa_nil))) pa_nil)))
      (pss_cons (ps_if (pt_val (pe_callB q_isi (by rfl) T.z_isinstance (by decide +kernel) (pa_cons (pe_ix ix_tup (pe_ix ix_tup (pv 5) pe_int (fun _ _ => rfl)) pe_int (fun _ _ => rfl)) (pa_cons (pe_bltn (v := .ty "list") (by rfl) T.z_list (by decide +kernel) rfl) pa_nil)))) (pss_one (ps_expr (pe_bm PySem.F.plainAttrs_list PySem.F.slot_list_append PySem.F.type_list_append mt_append (pe_ix ix_tup (pe_ix ix_tup (pv 5) pe_int (fun _ _ => rfl)) pe_int (fun _ _ => rfl)) (pa_cons pe_int pa_nil)))) pss_nil)
      (pss_one (ps_if (pt_cmpR op_notN (pe_ix ix_tup (pv 5) pe_int (fun _ _ => rfl)) pe_non (nomark _)) (pss_one (ps_expr (pe_bm0 PySem.F.plainAttrs_list PySem.F.slot_list_clear PySem.F.type_list_clear mt_clear (pe_ix ix_tup (pv 5) pe_int (fun _ _ => rfl))))) pss_nil)))))))))))
      (pss_one (ps_ret pe_bl))), pure_law ⟨a, ns, rfl, h⟩⟩

theorem all_mk {l : PySem.W.OpenLaw} {w : World} {K : PySem.W.Frag} {h : Heap} {mg : Str → Option Value} {fa : Addr} {f0 f1 f2 f3 f4 f5 f6 f7 f8 f9 f10 f11 f12 f13 f14 f15 f16 f17 f18 f19 f20 f21 f22 f23 f24 f25 f26 f27 f28 f29 : Addr} (X : K.In h) (G : h.Ns mainGlobals mg) (hfa : mg "law" = some (.ref fa))
    {od0 an0 od1 an1 od2 an2 od3 an3 od4 an4 od5 an5 od6 an6 od7 an7 od8 an8 od9 an9 od10 an10 od11 an11 od12 an12 od13 an13 od14 an14 od15 an15 od16 an16 od17 an17 od18 an18 od19 an19 od20 an20 od21 an21 od22 an22 od23 an23 od24 an24 od25 an25 od26 an26 od27 an27 od28 an28 od29 an29 : Option Addr} {sl0 sl1 sl2 sl3 sl4 sl5 sl6 sl7 sl8 sl9 sl10 sl11 sl12 sl13 sl14 sl15 sl16 sl17 sl18 sl19 sl20 sl21 sl22 sl23 sl24 sl25 sl26 sl27 sl28 sl29 : Array (Option Value)} {oc0 kV0 dc0 pm0 cd0 ct0 oc1 kV1 dc1 pm1 cd1 ct1 oc2 kV2 dc2 pm2 cd2 ct2 oc3 kV3 dc3 pm3 cd3 ct3 oc4 kV4 dc4 pm4 cd4 ct4 oc5 kV5 dc5 pm5 cd5 ct5 oc6 kV6 dc6 pm6 cd6 ct6 oc7 kV7 dc7 pm7 cd7 ct7 oc8 kV8 dc8 pm8 cd8 ct8 oc9 kV9 dc9 pm9 cd9 ct9 oc10 kV10 dc10 pm10 cd10 ct10 oc11 kV11 dc11 pm11 cd11 ct11 oc12 kV12 dc12 pm12 cd12 ct12 oc13 kV13 dc13 pm13 cd13 ct13 oc14 kV14 dc14 pm14 cd14 ct14 oc15 kV15 dc15 pm15 cd15 ct15 oc16 kV16 dc16 pm16 cd16 ct16 oc17 kV17 dc17 pm17 cd17 ct17 oc18 kV18 dc18 pm18 cd18 ct18 oc19 kV19 dc19 pm19 cd19 ct19 oc20 kV20 dc20 pm20 cd20 ct20 oc21 kV21 dc21 pm21 cd21 ct21 oc22 kV22 dc22 pm22 cd22 ct22 oc23 kV23 dc23 pm23 cd23 ct23 oc24 kV24 dc24 pm24 cd24 ct24 oc25 kV25 dc25 pm25 cd25 ct25 oc26 kV26 dc26 pm26 cd26 ct26 oc27 kV27 dc27 pm27 cd27 ct27 oc28 kV28 dc28 pm28 cd28 ct28 oc29 kV29 dc29 pm29 cd29 ct29 : Value}
    {tk0 tk1 tk2 tk3 : Tok}
    (a0 : PySem.W.nsIn K mainGlobals "is_tree" = some (some (.ref f0))) (l0 : K.lookup f0 = some ⟨oc0, od0, .func (PySem.W.fnOf "is_tree" "is_tree" (defArgs s_is_tree) (defBody s_is_tree) (defScope s_is_tree) .none kV0 dc0 pm0 an0 cd0 ct0), sl0⟩) (c0 : PySem.W.codeIn K cd0 "is_tree" = true) (k0 : PySem.W.keepIn K (.ref f0) = true)
    (a1 : PySem.W.nsIn K mainGlobals "look_net" = some (some (.ref f1))) (l1 : K.lookup f1 = some ⟨oc1, od1, .func (PySem.W.fnOf "look_net" "look_net" (defArgs s_look_net) (defBody s_look_net) (defScope s_look_net) .none kV1 dc1 pm1 an1 cd1 ct1), sl1⟩) (c1 : PySem.W.codeIn K cd1 "look_net" = true) (k1 : PySem.W.keepIn K (.ref f1) = true)
    (a2 : PySem.W.nsIn K mainGlobals "places_of" = some (some (.ref f2))) (l2 : K.lookup f2 = some ⟨oc2, od2, .func (PySem.W.fnOf "places_of" "places_of" (defArgs s_places_of) (defBody s_places_of) (defScope s_places_of) .none kV2 dc2 pm2 an2 cd2 ct2), sl2⟩) (c2 : PySem.W.codeIn K cd2 "places_of" = true) (k2 : PySem.W.keepIn K (.ref f2) = true)
    (a3 : PySem.W.nsIn K mainGlobals "is_way" = some (some (.ref f3))) (l3 : K.lookup f3 = some ⟨oc3, od3, .func (PySem.W.fnOf "is_way" "is_way" (defArgs s_is_way) (defBody s_is_way) (defScope s_is_way) .none kV3 dc3 pm3 an3 cd3 ct3), sl3⟩) (c3 : PySem.W.codeIn K cd3 "is_way" = true) (k3 : PySem.W.keepIn K (.ref f3) = true)
    (a4 : PySem.W.nsIn K mainGlobals "ties_on" = some (some (.ref f4))) (l4 : K.lookup f4 = some ⟨oc4, od4, .func (PySem.W.fnOf "ties_on" "ties_on" (defArgs s_ties_on) (defBody s_ties_on) (defScope s_ties_on) .none kV4 dc4 pm4 an4 cd4 ct4), sl4⟩) (c4 : PySem.W.codeIn K cd4 "ties_on" = true) (k4 : PySem.W.keepIn K (.ref f4) = true)
    (a5 : PySem.W.nsIn K mainGlobals "must_be_ways" = some (some (.ref f5))) (l5 : K.lookup f5 = some ⟨oc5, od5, .func (PySem.W.fnOf "must_be_ways" "must_be_ways" (defArgs s_must_be_ways) (defBody s_must_be_ways) (defScope s_must_be_ways) .none kV5 dc5 pm5 an5 cd5 ct5), sl5⟩) (c5 : PySem.W.codeIn K cd5 "must_be_ways" = true) (k5 : PySem.W.keepIn K (.ref f5) = true)
    (a6 : PySem.W.nsIn K mainGlobals "look_ways" = some (some (.ref f6))) (l6 : K.lookup f6 = some ⟨oc6, od6, .func (PySem.W.fnOf "look_ways" "look_ways" (defArgs s_look_ways) (defBody s_look_ways) (defScope s_look_ways) .none kV6 dc6 pm6 an6 cd6 ct6), sl6⟩) (c6 : PySem.W.codeIn K cd6 "look_ways" = true) (k6 : PySem.W.keepIn K (.ref f6) = true)
    (a7 : PySem.W.nsIn K mainGlobals "first_clash" = some (some (.ref f7))) (l7 : K.lookup f7 = some ⟨oc7, od7, .func (PySem.W.fnOf "first_clash" "first_clash" (defArgs s_first_clash) (defBody s_first_clash) (defScope s_first_clash) .none kV7 dc7 pm7 an7 cd7 ct7), sl7⟩) (c7 : PySem.W.codeIn K cd7 "first_clash" = true) (k7 : PySem.W.keepIn K (.ref f7) = true)
    (a8 : PySem.W.nsIn K mainGlobals "clash" = some (some (.ref f8))) (l8 : K.lookup f8 = some ⟨oc8, od8, .func (PySem.W.fnOf "clash" "clash" (defArgs s_clash) (defBody s_clash) (defScope s_clash) .none kV8 dc8 pm8 an8 cd8 ct8), sl8⟩) (c8 : PySem.W.codeIn K cd8 "clash" = true) (k8 : PySem.W.keepIn K (.ref f8) = true)
    (a9 : PySem.W.nsIn K mainGlobals "number_of" = some (some (.ref f9))) (l9 : K.lookup f9 = some ⟨oc9, od9, .func (PySem.W.fnOf "number_of" "number_of" (defArgs s_number_of) (defBody s_number_of) (defScope s_number_of) .none kV9 dc9 pm9 an9 cd9 ct9), sl9⟩) (c9 : PySem.W.codeIn K cd9 "number_of" = true) (k9 : PySem.W.keepIn K (.ref f9) = true)
    (a10 : PySem.W.nsIn K mainGlobals "numbers_of" = some (some (.ref f10))) (l10 : K.lookup f10 = some ⟨oc10, od10, .func (PySem.W.fnOf "numbers_of" "numbers_of" (defArgs s_numbers_of) (defBody s_numbers_of) (defScope s_numbers_of) .none kV10 dc10 pm10 an10 cd10 ct10), sl10⟩) (c10 : PySem.W.codeIn K cd10 "numbers_of" = true) (k10 : PySem.W.keepIn K (.ref f10) = true)
    (a11 : PySem.W.nsIn K mainGlobals "net_of" = some (some (.ref f11))) (l11 : K.lookup f11 = some ⟨oc11, od11, .func (PySem.W.fnOf "net_of" "net_of" (defArgs s_net_of) (defBody s_net_of) (defScope s_net_of) .none kV11 dc11 pm11 an11 cd11 ct11), sl11⟩) (c11 : PySem.W.codeIn K cd11 "net_of" = true) (k11 : PySem.W.keepIn K (.ref f11) = true)
    (a12 : PySem.W.nsIn K mainGlobals "way_of" = some (some (.ref f12))) (l12 : K.lookup f12 = some ⟨oc12, od12, .func (PySem.W.fnOf "way_of" "way_of" (defArgs s_way_of) (defBody s_way_of) (defScope s_way_of) .none kV12 dc12 pm12 an12 cd12 ct12), sl12⟩) (c12 : PySem.W.codeIn K cd12 "way_of" = true) (k12 : PySem.W.keepIn K (.ref f12) = true)
    (a13 : PySem.W.nsIn K mainGlobals "hues_of" = some (some (.ref f13))) (l13 : K.lookup f13 = some ⟨oc13, od13, .func (PySem.W.fnOf "hues_of" "hues_of" (defArgs s_hues_of) (defBody s_hues_of) (defScope s_hues_of) .none kV13 dc13 pm13 an13 cd13 ct13), sl13⟩) (c13 : PySem.W.codeIn K cd13 "hues_of" = true) (k13 : PySem.W.keepIn K (.ref f13) = true)
    (a14 : PySem.W.nsIn K mainGlobals "read_net" = some (some (.ref f14))) (l14 : K.lookup f14 = some ⟨oc14, od14, .func (PySem.W.fnOf "read_net" "read_net" (defArgs s_read_net) (defBody s_read_net) (defScope s_read_net) .none kV14 dc14 pm14 an14 cd14 ct14), sl14⟩) (c14 : PySem.W.codeIn K cd14 "read_net" = true) (k14 : PySem.W.keepIn K (.ref f14) = true)
    (a15 : PySem.W.nsIn K mainGlobals "_law_mix" = some (some (.ref f15))) (l15 : K.lookup f15 = some ⟨oc15, od15, .func (PySem.W.fnOf "_law_mix" "_law_mix" (defArgs s_law_mix) (defBody s_law_mix) (defScope s_law_mix) .none kV15 dc15 pm15 an15 cd15 ct15), sl15⟩) (c15 : PySem.W.codeIn K cd15 "_law_mix" = true) (k15 : PySem.W.keepIn K (.ref f15) = true)
    (a16 : PySem.W.nsIn K mainGlobals "_law_left" = some (some (.ref f16))) (l16 : K.lookup f16 = some ⟨oc16, od16, .func (PySem.W.fnOf "_law_left" "_law_left" (defArgs s_law_left) (defBody s_law_left) (defScope s_law_left) .none kV16 dc16 pm16 an16 cd16 ct16), sl16⟩) (c16 : PySem.W.codeIn K cd16 "_law_left" = true) (k16 : PySem.W.keepIn K (.ref f16) = true)
    (a17 : PySem.W.nsIn K mainGlobals "_law_draw" = some (some (.ref f17))) (l17 : K.lookup f17 = some ⟨oc17, od17, .func (PySem.W.fnOf "_law_draw" "_law_draw" (defArgs s_law_draw) (defBody s_law_draw) (defScope s_law_draw) .none kV17 dc17 pm17 an17 cd17 ct17), sl17⟩) (c17 : PySem.W.codeIn K cd17 "_law_draw" = true) (k17 : PySem.W.keepIn K (.ref f17) = true)
    (a18 : PySem.W.nsIn K mainGlobals "_law_whole" = some (some (.ref f18))) (l18 : K.lookup f18 = some ⟨oc18, od18, .func (PySem.W.fnOf "_law_whole" "_law_whole" (defArgs s_law_whole) (defBody s_law_whole) (defScope s_law_whole) .none kV18 dc18 pm18 an18 cd18 ct18), sl18⟩) (c18 : PySem.W.codeIn K cd18 "_law_whole" = true) (k18 : PySem.W.keepIn K (.ref f18) = true)
    (a19 : PySem.W.nsIn K mainGlobals "_law_way" = some (some (.ref f19))) (l19 : K.lookup f19 = some ⟨oc19, od19, .func (PySem.W.fnOf "_law_way" "_law_way" (defArgs s_law_way) (defBody s_law_way) (defScope s_law_way) .none kV19 dc19 pm19 an19 cd19 ct19), sl19⟩) (c19 : PySem.W.codeIn K cd19 "_law_way" = true) (k19 : PySem.W.keepIn K (.ref f19) = true)
    (a20 : PySem.W.nsIn K mainGlobals "_law_net" = some (some (.ref f20))) (l20 : K.lookup f20 = some ⟨oc20, od20, .func (PySem.W.fnOf "_law_net" "_law_net" (defArgs s_law_net) (defBody s_law_net) (defScope s_law_net) .none kV20 dc20 pm20 an20 cd20 ct20), sl20⟩) (c20 : PySem.W.codeIn K cd20 "_law_net" = true) (k20 : PySem.W.keepIn K (.ref f20) = true)
    (a21 : PySem.W.nsIn K mainGlobals "_law_size" = some (some (.ref f21))) (l21 : K.lookup f21 = some ⟨oc21, od21, .func (PySem.W.fnOf "_law_size" "_law_size" (defArgs s_law_size) (defBody s_law_size) (defScope s_law_size) .none kV21 dc21 pm21 an21 cd21 ct21), sl21⟩) (c21 : PySem.W.codeIn K cd21 "_law_size" = true) (k21 : PySem.W.keepIn K (.ref f21) = true)
    (a22 : PySem.W.nsIn K mainGlobals "_law_ties" = some (some (.ref f22))) (l22 : K.lookup f22 = some ⟨oc22, od22, .func (PySem.W.fnOf "_law_ties" "_law_ties" (defArgs s_law_ties) (defBody s_law_ties) (defScope s_law_ties) .none kV22 dc22 pm22 an22 cd22 ct22), sl22⟩) (c22 : PySem.W.codeIn K cd22 "_law_ties" = true) (k22 : PySem.W.keepIn K (.ref f22) = true)
    (a23 : PySem.W.nsIn K mainGlobals "_law_common" = some (some (.ref f23))) (l23 : K.lookup f23 = some ⟨oc23, od23, .func (PySem.W.fnOf "_law_common" "_law_common" (defArgs s_law_common) (defBody s_law_common) (defScope s_law_common) .none kV23 dc23 pm23 an23 cd23 ct23), sl23⟩) (c23 : PySem.W.codeIn K cd23 "_law_common" = true) (k23 : PySem.W.keepIn K (.ref f23) = true)
    (a24 : PySem.W.nsIn K mainGlobals "_law_hues" = some (some (.ref f24))) (l24 : K.lookup f24 = some ⟨oc24, od24, .func (PySem.W.fnOf "_law_hues" "_law_hues" (defArgs s_law_hues) (defBody s_law_hues) (defScope s_law_hues) .none kV24 dc24 pm24 an24 cd24 ct24), sl24⟩) (c24 : PySem.W.codeIn K cd24 "_law_hues" = true) (k24 : PySem.W.keepIn K (.ref f24) = true)
    (a25 : PySem.W.nsIn K mainGlobals "_law_all" = some (some (.ref f25))) (l25 : K.lookup f25 = some ⟨oc25, od25, .func (PySem.W.fnOf "_law_all" "_law_all" (defArgs s_law_all) (defBody s_law_all) (defScope s_law_all) .none kV25 dc25 pm25 an25 cd25 ct25), sl25⟩) (c25 : PySem.W.codeIn K cd25 "_law_all" = true) (k25 : PySem.W.keepIn K (.ref f25) = true)
    (a26 : PySem.W.nsIn K mainGlobals "_law_text" = some (some (.ref f26))) (l26 : K.lookup f26 = some ⟨oc26, od26, .func (PySem.W.fnOf "_law_text" "_law_text" (defArgs s_law_text) (defBody s_law_text) (defScope s_law_text) .none kV26 dc26 pm26 an26 cd26 ct26), sl26⟩) (c26 : PySem.W.codeIn K cd26 "_law_text" = true) (k26 : PySem.W.keepIn K (.ref f26) = true)
    (a27 : PySem.W.nsIn K mainGlobals "_law_wholes" = some (some (.ref f27))) (l27 : K.lookup f27 = some ⟨oc27, od27, .func (PySem.W.fnOf "_law_wholes" "_law_wholes" (defArgs s_law_wholes) (defBody s_law_wholes) (defScope s_law_wholes) .none kV27 dc27 pm27 an27 cd27 ct27), sl27⟩) (c27 : PySem.W.codeIn K cd27 "_law_wholes" = true) (k27 : PySem.W.keepIn K (.ref f27) = true)
    (a28 : PySem.W.nsIn K mainGlobals "_law_right" = some (some (.ref f28))) (l28 : K.lookup f28 = some ⟨oc28, od28, .func (PySem.W.fnOf "_law_right" "_law_right" (defArgs s_law_right) (defBody s_law_right) (defScope s_law_right) .none kV28 dc28 pm28 an28 cd28 ct28), sl28⟩) (c28 : PySem.W.codeIn K cd28 "_law_right" = true) (k28 : PySem.W.keepIn K (.ref f28) = true)
    (a29 : PySem.W.nsIn K mainGlobals "law" = some (some (.ref f29))) (l29 : K.lookup f29 = some ⟨oc29, od29, .func (PySem.W.fnOf "law" "law" (defArgs s_law) (defBody s_law) (defScope s_law) .none kV29 dc29 pm29 an29 cd29 ct29), sl29⟩) (c29 : PySem.W.codeIn K cd29 "law" = true) (k29 : PySem.W.keepIn K (.ref f29) = true)
    (e0 : PySem.W.nsIn K mainGlobals "MOST_PLACES" = some (some (.int 60 tk0)))
    (e1 : PySem.W.nsIn K mainGlobals "FIGURES" = some (some (.str (Str.ofString "0123456789") tk1)))
    (e2 : PySem.W.nsIn K mainGlobals "MOST_FIGURES" = some (some (.int 30 tk2)))
    (e3 : PySem.W.nsIn K mainGlobals "MOST_WAYS" = some (some (.int 40 tk3)))
    (z0 : PySem.W.nsIn K mainGlobals "bool" = some none)
    (z1 : PySem.W.nsIn K mainGlobals "int" = some none)
    (z2 : PySem.W.nsIn K mainGlobals "isinstance" = some none)
    (z3 : PySem.W.nsIn K mainGlobals "len" = some none)
    (z4 : PySem.W.nsIn K mainGlobals "list" = some none)
    (z5 : PySem.W.nsIn K mainGlobals "max" = some none)
    (z6 : PySem.W.nsIn K mainGlobals "min" = some none)
    (z7 : PySem.W.nsIn K mainGlobals "range" = some none)
    (z8 : PySem.W.nsIn K mainGlobals "sorted" = some none)
    (z9 : PySem.W.nsIn K mainGlobals "str" = some none)
    (z10 : PySem.W.nsIn K mainGlobals "tuple" = some none)
    : ∃ fd : FuncData, (∀ (s : Shared) (v : Value), BindsTo s fd ⟨[v], []⟩ [("_law_script", v)]) ∧ ∀ base : Heap, K.In base → base.Ns mainGlobals mg → FnOk l.prog w K mg base CX0 8 fa fd ["_law_script"] (sp_law K) := by
  have e := hfa.symm.trans (PySem.W.mg_of X G a29)
  cases e
  have F0 := fun_mk (st := s_is_tree) l0 c0 k0
  have b0 := F0.binds (ps := ["parents"]) fun _ _ _ _ _ _ us hl => match us, hl with | [_], _ => rfl
  have F1 := fun_mk (st := s_look_net) l1 c1 k1
  have b1 := F1.binds (ps := ["net"]) fun _ _ _ _ _ _ us hl => match us, hl with | [_], _ => rfl
  have F2 := fun_mk (st := s_places_of) l2 c2 k2
  have b2 := F2.binds (ps := ["net"]) fun _ _ _ _ _ _ us hl => match us, hl with | [_], _ => rfl
  have F3 := fun_mk (st := s_is_way) l3 c3 k3
  have b3 := F3.binds (ps := ["net", "way"]) fun _ _ _ _ _ _ us hl => match us, hl with | [_, _], _ => rfl
  have F4 := fun_mk (st := s_ties_on) l4 c4 k4
  have b4 := F4.binds (ps := ["net", "way"]) fun _ _ _ _ _ _ us hl => match us, hl with | [_, _], _ => rfl
  have F5 := fun_mk (st := s_must_be_ways) l5 c5 k5
  have b5 := F5.binds (ps := ["net", "ways"]) fun _ _ _ _ _ _ us hl => match us, hl with | [_, _], _ => rfl
  have F6 := fun_mk (st := s_look_ways) l6 c6 k6
  have b6 := F6.binds (ps := ["net", "ways"]) fun _ _ _ _ _ _ us hl => match us, hl with | [_, _], _ => rfl
  have F7 := fun_mk (st := s_first_clash) l7 c7 k7
  have b7 := F7.binds (ps := ["lain", "hues"]) fun _ _ _ _ _ _ us hl => match us, hl with | [_, _], _ => rfl
  have F8 := fun_mk (st := s_clash) l8 c8 k8
  have b8 := F8.binds (ps := ["net", "ways", "hues"]) fun _ _ _ _ _ _ us hl => match us, hl with | [_, _, _], _ => rfl
  have F9 := fun_mk (st := s_number_of) l9 c9 k9
  have b9 := F9.binds (ps := ["word"]) fun _ _ _ _ _ _ us hl => match us, hl with | [_], _ => rfl
  have F10 := fun_mk (st := s_numbers_of) l10 c10 k10
  have b10 := F10.binds (ps := ["words"]) fun _ _ _ _ _ _ us hl => match us, hl with | [_], _ => rfl
  have F11 := fun_mk (st := s_net_of) l11 c11 k11
  have b11 := F11.binds (ps := ["words"]) fun _ _ _ _ _ _ us hl => match us, hl with | [_], _ => rfl
  have F12 := fun_mk (st := s_way_of) l12 c12 k12
  have b12 := F12.binds (ps := ["net", "words"]) fun _ _ _ _ _ _ us hl => match us, hl with | [_, _], _ => rfl
  have F13 := fun_mk (st := s_hues_of) l13 c13 k13
  have b13 := F13.binds (ps := ["net", "ways", "words"]) fun _ _ _ _ _ _ us hl => match us, hl with | [_, _, _], _ => rfl
  have F14 := fun_mk (st := s_read_net) l14 c14 k14
  have b14 := F14.binds (ps := ["text"]) fun _ _ _ _ _ _ us hl => match us, hl with | [_], _ => rfl
  have F15 := fun_mk (st := s_law_mix) l15 c15 k15
  have b15 := F15.binds (ps := ["_law_number", "_law_k"]) fun _ _ _ _ _ _ us hl => match us, hl with | [_, _], _ => rfl
  have F16 := fun_mk (st := s_law_left) l16 c16 k16
  have b16 := F16.binds (ps := ["_law_cell"]) fun _ _ _ _ _ _ us hl => match us, hl with | [_], _ => rfl
  have F17 := fun_mk (st := s_law_draw) l17 c17 k17
  have b17 := F17.binds (ps := ["_law_left_here", "_law_base"]) fun _ _ _ _ _ _ us hl => match us, hl with | [_, _], _ => rfl
  have F18 := fun_mk (st := s_law_whole) l18 c18 k18
  have b18 := F18.binds (ps := ["_law_found"]) fun _ _ _ _ _ _ us hl => match us, hl with | [_], _ => rfl
  have F19 := fun_mk (st := s_law_way) l19 c19 k19
  have b19 := F19.binds (ps := ["_law_left_here", "_law_many"]) fun _ _ _ _ _ _ us hl => match us, hl with | [_, _], _ => rfl
  have F20 := fun_mk (st := s_law_net) l20 c20 k20
  have b20 := F20.binds (ps := ["_law_left_here"]) fun _ _ _ _ _ _ us hl => match us, hl with | [_], _ => rfl
  have F21 := fun_mk (st := s_law_size) l21 c21 k21
  have b21 := F21.binds (ps := ["_law_net_here"]) fun _ _ _ _ _ _ us hl => match us, hl with | [_], _ => rfl
  have F22 := fun_mk (st := s_law_ties) l22 c22 k22
  have b22 := F22.binds (ps := ["_law_net_here", "_law_way_here"]) fun _ _ _ _ _ _ us hl => match us, hl with | [_, _], _ => rfl
  have F23 := fun_mk (st := s_law_common) l23 c23 k23
  have b23 := F23.binds (ps := ["_law_one", "_law_other"]) fun _ _ _ _ _ _ us hl => match us, hl with | [_, _], _ => rfl
  have F24 := fun_mk (st := s_law_hues) l24 c24 k24
  have b24 := F24.binds (ps := ["_law_left_here", "_law_net_here", "_law_ways"]) fun _ _ _ _ _ _ us hl => match us, hl with | [_, _, _], _ => rfl
  have F25 := fun_mk (st := s_law_all) l25 c25 k25
  have b25 := F25.binds (ps := ["_law_left_here"]) fun _ _ _ _ _ _ us hl => match us, hl with | [_], _ => rfl
  have F26 := fun_mk (st := s_law_text) l26 c26 k26
  have b26 := F26.binds (ps := ["_law_net_here", "_law_ways", "_law_hues_here"]) fun _ _ _ _ _ _ us hl => match us, hl with | [_, _, _], _ => rfl
  have F27 := fun_mk (st := s_law_wholes) l27 c27 k27
  have b27 := F27.binds (ps := ["_law_found"]) fun _ _ _ _ _ _ us hl => match us, hl with | [_], _ => rfl
  have F28 := fun_mk (st := s_law_right) l28 c28 k28
  have b28 := F28.binds (ps := ["_law_told", "_law_due"]) fun _ _ _ _ _ _ us hl => match us, hl with | [_, _], _ => rfl
  have F29 := fun_mk (st := s_law) l29 c29 k29
  have b29 := F29.binds (ps := ["_law_script"]) fun _ _ _ _ _ _ us hl => match us, hl with | [_], _ => rfl
  have T : Txt K mg ⟨f0, _, f1, _, f2, _, f3, _, f4, _, f5, _, f6, _, f7, _, f8, _, f9, _, f10, _, f11, _, f12, _, f13, _, f14, _, f15, _, f16, _, f17, _, f18, _, f19, _, f20, _, f21, _, f22, _, f23, _, f24, _, f25, _, f26, _, f27, _, f28, _, fa, _⟩ :=
    ⟨PySem.W.mg_of X G a0, F0, b0, PySem.W.mg_of X G a1, F1, b1, PySem.W.mg_of X G a2, F2, b2, PySem.W.mg_of X G a3, F3, b3, PySem.W.mg_of X G a4, F4, b4, PySem.W.mg_of X G a5, F5, b5, PySem.W.mg_of X G a6, F6, b6, PySem.W.mg_of X G a7, F7, b7, PySem.W.mg_of X G a8, F8, b8, PySem.W.mg_of X G a9, F9, b9, PySem.W.mg_of X G a10, F10, b10, PySem.W.mg_of X G a11, F11, b11, PySem.W.mg_of X G a12, F12, b12, PySem.W.mg_of X G a13, F13, b13, PySem.W.mg_of X G a14, F14, b14, PySem.W.mg_of X G a15, F15, b15, PySem.W.mg_of X G a16, F16, b16, PySem.W.mg_of X G a17, F17, b17, PySem.W.mg_of X G a18, F18, b18, PySem.W.mg_of X G a19, F19, b19, PySem.W.mg_of X G a20, F20, b20, PySem.W.mg_of X G a21, F21, b21, PySem.W.mg_of X G a22, F22, b22, PySem.W.mg_of X G a23, F23, b23, PySem.W.mg_of X G a24, F24, b24, PySem.W.mg_of X G a25, F25, b25, PySem.W.mg_of X G a26, F26, b26, PySem.W.mg_of X G a27, F27, b27, PySem.W.mg_of X G a28, F28, b28, PySem.W.mg_of X G a29, F29, b29, tok_mk (PySem.W.mg_of X G e0), tok_mkS (PySem.W.mg_of X G e1), tok_mk (PySem.W.mg_of X G e2), tok_mk (PySem.W.mg_of X G e3), PySem.W.mg_none_of X G z0, PySem.W.mg_none_of X G z1, PySem.W.mg_none_of X G z2, PySem.W.mg_none_of X G z3, PySem.W.mg_none_of X G z4, PySem.W.mg_none_of X G z5, PySem.W.mg_none_of X G z6, PySem.W.mg_none_of X G z7, PySem.W.mg_none_of X G z8, PySem.W.mg_none_of X G z9, PySem.W.mg_none_of X G z10⟩
  exact ⟨_, fun s v => .of_eq rfl, fun base _ _ => ok_law T⟩
end Pf
open PySem PySem.W PyProof.Rows
set_option maxHeartbeats 0 in
theorem PySem.Challenge.cw_tiehues_k78_nets_read_holds : PySem.Challenge.rw_tiehues_k78_nets_read.Holds := by
  w_on; o_law; k_head; (case hw => w_witness2)
  k_fill
  refine L2.walk_ofK (l := PySem.Challenge.rw_tiehues_k78_nets_read) (n := 63) (k := 8) (x := "_law_script") (CX := L2.CX0) (sp := Pf.sp_law) rfl (by decide) rfl ⟨rfl, by decide, by decide⟩ (fun w h Y => PySem.W.kIn_of Y) ?F (fun _ _ a ns hl _ hS => ⟨a, ns, rfl, hS, hl, fun _ => rfl⟩) (fun _ _ _ _ h => h)
  case F =>
    intro w mg fa h KX G hmg
    refine' Pf.all_mk KX G hmg ?a0 ?l0 ?c0 ?k0 ?a1 ?l1 ?c1 ?k1 ?a2 ?l2 ?c2 ?k2 ?a3 ?l3 ?c3 ?k3 ?a4 ?l4 ?c4 ?k4 ?a5 ?l5 ?c5 ?k5 ?a6 ?l6 ?c6 ?k6 ?a7 ?l7 ?c7 ?k7 ?a8 ?l8 ?c8 ?k8 ?a9 ?l9 ?c9 ?k9 ?a10 ?l10 ?c10 ?k10 ?a11 ?l11 ?c11 ?k11 ?a12 ?l12 ?c12 ?k12 ?a13 ?l13 ?c13 ?k13 ?a14 ?l14 ?c14 ?k14 ?a15 ?l15 ?c15 ?k15 ?a16 ?l16 ?c16 ?k16 ?a17 ?l17 ?c17 ?k17 ?a18 ?l18 ?c18 ?k18 ?a19 ?l19 ?c19 ?k19 ?a20 ?l20 ?c20 ?k20 ?a21 ?l21 ?c21 ?k21 ?a22 ?l22 ?c22 ?k22 ?a23 ?l23 ?c23 ?k23 ?a24 ?l24 ?c24 ?k24 ?a25 ?l25 ?c25 ?k25 ?a26 ?l26 ?c26 ?k26 ?a27 ?l27 ?c27 ?k27 ?a28 ?l28 ?c28 ?k28 ?a29 ?l29 ?c29 ?k29 ?e0 ?e1 ?e2 ?e3 ?z0 ?z1 ?z2 ?z3 ?z4 ?z5 ?z6 ?z7 ?z8 ?z9 ?z10
    (case a0 => k_is); (case l0 => k_is); (case c0 => k_is); (case k0 => k_is); (case a1 => k_is); (case l1 => k_is); (case c1 => k_is); (case k1 => k_is); (case a2 => k_is); (case l2 => k_is); (case c2 => k_is); (case k2 => k_is); (case a3 => k_is); (case l3 => k_is); (case c3 => k_is); (case k3 => k_is); (case a4 => k_is); (case l4 => k_is); (case c4 => k_is); (case k4 => k_is); (case a5 => k_is); (case l5 => k_is); (case c5 => k_is); (case k5 => k_is); (case a6 => k_is); (case l6 => k_is); (case c6 => k_is); (case k6 => k_is); (case a7 => k_is); (case l7 => k_is); (case c7 => k_is); (case k7 => k_is); (case a8 => k_is); (case l8 => k_is); (case c8 => k_is); (case k8 => k_is); (case a9 => k_is); (case l9 => k_is); (case c9 => k_is); (case k9 => k_is); (case a10 => k_is); (case l10 => k_is); (case c10 => k_is); (case k10 => k_is); (case a11 => k_is); (case l11 => k_is); (case c11 => k_is); (case k11 => k_is); (case a12 => k_is); (case l12 => k_is); (case c12 => k_is); (case k12 => k_is); (case a13 => k_is); (case l13 => k_is); (case c13 => k_is); (case k13 => k_is); (case a14 => k_is); (case l14 => k_is); (case c14 => k_is); (case k14 => k_is); (case a15 => k_is); (case l15 => k_is); (case c15 => k_is); (case k15 => k_is); (case a16 => k_is); (case l16 => k_is); (case c16 => k_is); (case k16 => k_is); (case a17 => k_is); (case l17 => k_is); (case c17 => k_is); (case k17 => k_is); (case a18 => k_is); (case l18 => k_is); (case c18 => k_is); (case k18 => k_is); (case a19 => k_is); (case l19 => k_is); (case c19 => k_is); (case k19 => k_is); (case a20 => k_is); (case l20 => k_is); (case c20 => k_is); (case k20 => k_is); (case a21 => k_is); (case l21 => k_is); (case c21 => k_is); (case k21 => k_is); (case a22 => k_is); (case l22 => k_is); (case c22 => k_is); (case k22 => k_is); (case a23 => k_is); (case l23 => k_is); (case c23 => k_is); (case k23 => k_is); (case a24 => k_is); (case l24 => k_is); (case c24 => k_is); (case k24 => k_is); (case a25 => k_is); (case l25 => k_is); (case c25 => k_is); (case k25 => k_is); (case a26 => k_is); (case l26 => k_is); (case c26 => k_is); (case k26 => k_is); (case a27 => k_is); (case l27 => k_is); (case c27 => k_is); (case k27 => k_is); (case a28 => k_is); (case l28 => k_is); (case c28 => k_is); (case k28 => k_is); (case a29 => k_is); (case l29 => k_is); (case c29 => k_is); (case k29 => k_is); (case e0 => k_is); (case e1 => k_is); (case e2 => k_is); (case e3 => k_is); (case z0 => k_is); (case z1 => k_is); (case z2 => k_is); (case z3 => k_is); (case z4 => k_is); (case z5 => k_is); (case z6 => k_is); (case z7 => k_is); (case z8 => k_is); (case z9 => k_is); (case z10 => k_is)
