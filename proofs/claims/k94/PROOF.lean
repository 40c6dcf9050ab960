import PyProof.Rows.All
import Wide.All
import OpenK.AllK
import Wide.FinOn
import HandS.ForMost
import HandS.NoneIn
import HandS.Conv
import HandS.IsInst
import HandS.Wide
import HandS.SortInts
import HandS.Walk
import KE.DataMinMax
import HandS.ForExc
import HandS.ExcInit
import KE.KExcIs
import HandS.ExcField
import HandS.ExcIs
import HandS.Text
import HandS.Zip
import HandS.Exc
import HandS.WordsDict
import HandS.Deep
import HandS.Iter
import HandS.Sort
import HandS.Dict
import HandS.ExcOwn
import HandS.More
import HandS.Style
import HandS.List
import HandS.Rev
import HandS.Set
import HandS.Strs
import KE.SortData
import HandS.ExcValue
import HandS.TryOnly
import HandS.Codes
import PyProof.StrOps2
import PySem.Challenge.RW_tiehues_k94_words_refused
set_option Elab.async false
set_option linter.all false
set_option maxRecDepth 100000
set_option maxHeartbeats 4000000
set_option synthInstance.maxHeartbeats 0
set_option synthInstance.maxSize 1000000
namespace Cm
open PySem PySem.Spec PyProof.Rows L2

/-! ### named readings -/
def rLenX (K : PySem.W.Frag) : List V → Hp → VK → Prop := fun xs H Q => ∃ p ys, xs = [.ref p] ∧ (SqL K H p ys ∨ SqT K H p ys) ∧ Q (.int ys.length) H
theorem q_len {X : Cx} : CallR X (.builtin "len") (rLenX X.K) := call_len_seq
def rListOf (K : PySem.W.Frag) : List V → Hp → VK → Prop := fun xs H Q => ∃ p ys, xs = [.ref p] ∧ (SqL K H p ys ∨ SqT K H p ys) ∧ ∀ l, H l = none → Q (.ref l) (upd H l (.lst ys))
theorem q_listOf {X : Cx} : CallR X (.type "list") (rListOf X.K) := call_list_of
def rMax2 : List V → Hp → VK → Prop := fun xs H Q => ∃ i j, xs = [.int i, .int j] ∧ Q (.int (if j > i then j else i)) H
theorem q_max2 {X : Cx} (hc : X.calm = true) : CallR X (.builtin "max") rMax2 := call_max2 hc
def rMin2 : List V → Hp → VK → Prop := fun xs H Q => ∃ i j, xs = [.int i, .int j] ∧ Q (.int (if j < i then j else i)) H
theorem q_min2 {X : Cx} (hc : X.calm = true) : CallR X (.builtin "min") rMin2 := call_min2 hc
theorem q_isi {X : Cx} : CallR X (.builtin "isinstance") (rIsi X.K) := call_isi
def rIntOf : List V → Hp → VK → Prop := fun xs H Q => (∃ i, xs = [.int i] ∧ Q (.int i) H) ∨ ∃ k, xs = [.bl k] ∧ Q (.int (if k then 1 else 0)) H
theorem q_intB {X : Cx} : CallR X (.type "int") rIntOf := call_int1
theorem q_intI {X : Cx} : CallR X (.type "int") rIntOf := call_int1

/-! ### operators by names -/
def xAdd : R2 := rI0 fun i j => .int (i + j)
def xSub : R2 := rI0 fun i j => .int (i - j)
def xMul : R2 := rI CMul fun i j => .int (i * j)
def xMulW : R2 := rI CMulW fun i j => .int (i * j)
def xDiv : R2 := rI CDiv fun i j => .int (i / j)
def xDivW : R2 := rI CDivW fun i j => .int (i / j)
def xMod : R2 := rI (fun _ j => 0 < j) fun i j => .int (i % j)
def xPow : R2 := rI CPow fun i j => .int (i ^ j.toNat)
def xLt : R2 := rI0 fun i j => .bl (decide (i < j))
def xLe : R2 := rI0 fun i j => .bl (decide (i ≤ j))
def xGt : R2 := rI0 fun i j => .bl (decide (j < i))
def xGe : R2 := rI0 fun i j => .bl (decide (j ≤ i))
def xNeg : V → Hp → VK → Prop := rU fun i => .int (-i)
def xIsN : R2 := fun x y H Q => y = .non ∧ Q (.bl (decide (x = .non))) H
def xNotN : R2 := fun x y H Q => y = .non ∧ Q (.bl (!decide (x = .non))) H
def xTru (K : PySem.W.Frag) (ta : TE) : TT := fun σ H Q => ta σ H fun x H' => ∃ k, TruV K x H' k ∧ Q k H'

/-! ### xs[i] += e -/
def rGetL (K : PySem.W.Frag) : V → V → Hp → VK → Prop := fun x y H Q => ∃ p xs i v, x = .ref p ∧ y = .int i ∧ SqL K H p xs ∧ 0 ≤ i ∧ atI xs i = some v ∧ Q v H
theorem get_list {X : Cx} : PGet X (rGetL X.K) := by
  intro pins s σ H x y v u Q I rx ry h
  obtain ⟨p, xs, i, z, rfl, rfl, hq, h0, he, q⟩ := h
  cases rx
  obtain ⟨t, rfl⟩ := ry
  obtain ⟨its, r, pl, hz⟩ := I.list hq
  obtain ⟨j, h1, h2, h3, h4, h5⟩ := atI_get he
  obtain ⟨w, ew, rw'⟩ := r.get h2
  have hl := r.length
  have hn := line63
  have fin : EP X pins σ Q w s := ⟨z, H, I, rw', q⟩
  have hj : i.toNat = j := by
    rw [seqIndex_of h0 h5] at h1
    exact Option.some.inj h1
  exact wpAny_getItem_list pl.isList h0 (by omega) (by rw [hj]; simpa using ew) fin
def xAugL (K : PySem.W.Frag) (to ti te : TE) : TS := tAugS to ti te (rGetL K) (ipI fun i j => i + j) rSetL
theorem q_augL {X : Cx} {o i e : Expr} {to ti te : TE} {tpos pos : Pos} (ho : PE X o to) (hi : PE X i ti) (he : PE X e te)
    (ha : ∀ ov iv new, augStore i ov iv new = (do holding [new, ov, iv] (setItem ov iv new); release [new, ov, iv] []; pure .next) := by intros; rfl) : PS X (.AugAssign (.Subscript o i tpos) .Add e pos) (xAugL X.K to ti te) :=
  ps_augS ho hi get_list he ip_add set_list ha

/-! ### constants of the module -/
def g_tok (mg : Str → Option Value) (x : Str) : Tok := match mg x with
  | some (.int _ t) => t
  | _ => default
theorem tok_mk {mg : Str → Option Value} {x : Str} {n : Int} {t : Tok} (h : mg x = some (.int n t)) : mg x = some (.int n (g_tok mg x)) := by
  unfold g_tok
  rw [h]

/-! ### heaps -/
theorem same_new {H : Hp} {p : Addr} {o : HO} (h : H p = none) : Same H (upd H p o) := fun b x e => by
  rw [upd_ne (ne_of_none e h)]
  exact e
theorem same_mut {H H' : Hp} {p : Addr} {o : HO} (e : Same H H') (h : H p = none) : Same H (upd H' p o) := fun a u ha => by
  rw [upd_ne (ne_of_none ha h)]
  exact e a u ha
theorem same_seqT {K : PySem.W.Frag} {H H' : Hp} {a : Addr} {xs : List V} (e : Same H H') (h : SqT K H a xs) : SqT K H' a xs := by
  rcases h with (h | ⟨o, h⟩) | h
  · exact .inl (.inl (e _ _ h))
  · exact .inl (.inr ⟨o, e _ _ h⟩)
  · exact .inr h
theorem sl {K : PySem.W.Frag} {H : Hp} {a : Addr} {xs : List V} (h : H a = some (.lst xs)) : SqL K H a xs := .inl (.inl h)
theorem stp {K : PySem.W.Frag} {H : Hp} {a : Addr} {xs : List V} (h : H a = some (.tup xs)) : SqT K H a xs := .inl (.inl h)
theorem sz {n : Nat} (h : n ≤ 100000) : n ≤ sizeLine := Nat.le_trans h (by decide)
theorem szl {n : Nat} (h : n < 100000) : n < sizeLine := Nat.lt_of_lt_of_le h (by decide)

/-! ### data -/
mutual
theorem dp_same {K : PySem.W.Frag} {H H' : Hp} (e : Same H H') : ∀ {v : V} {d : PyData}, Dp K H v d → Dp K H' v d
  | _, _, .non => .non
  | _, _, .bl b => .bl b
  | _, _, .int i => .int i
  | _, _, .str x => .str x
  | _, _, .lst s r => .lst (e.seq s) (dpa_same e r)
  | _, _, .tup s r => .tup (same_seqT e s) (dpa_same e r)
theorem dpa_same {K : PySem.W.Frag} {H H' : Hp} (e : Same H H') : ∀ {vs : List V} {ds : List PyData}, DpAll K H vs ds → DpAll K H' vs ds
  | _, _, .nil => .nil
  | _, _, .cons h r => .cons (dp_same e h) (dpa_same e r)
end
section
variable {K : PySem.W.Frag} {H : Hp}
theorem dp_int {v : V} {i : Int} (h : Dp K H v (.int i)) : v = .int i := by cases h; rfl
theorem dp_bool {v : V} {b : Bool} (h : Dp K H v (.bool b)) : v = .bl b := by cases h; rfl
theorem dp_str {v : V} {s : Str} (h : Dp K H v (.str s)) : v = .str s := by cases h; rfl
theorem dp_list {v : V} {ds : List PyData} (h : Dp K H v (.list ds)) : ∃ a xs, v = .ref a ∧ SqL K H a xs ∧ DpAll K H xs ds := by
  cases h with | lst s r => exact ⟨_, _, rfl, s, r⟩
theorem dp_tup {v : V} {ds : List PyData} (h : Dp K H v (.tuple ds)) : ∃ a xs, v = .ref a ∧ SqT K H a xs ∧ DpAll K H xs ds := by
  cases h with | tup s r => exact ⟨_, _, rfl, s, r⟩
theorem dp_tup2 {v : V} {c d : PyData} (h : Dp K H v (.tuple [c, d])) : ∃ a x y, v = .ref a ∧ SqT K H a [x, y] ∧ Dp K H x c ∧ Dp K H y d := by
  cases h with | tup s r =>
    cases r with | cons h1 r =>
      cases r with | cons h2 r =>
        cases r
        exact ⟨_, _, _, rfl, s, h1, h2⟩
theorem dp_pair {v : V} {a b : Int} (h : Dp K H v (.tuple [.int a, .int b])) : ∃ p, v = .ref p ∧ SqT K H p [.int a, .int b] := by
  obtain ⟨p, x, y, rfl, s, h1, h2⟩ := dp_tup2 h
  rw [dp_int h1, dp_int h2] at s
  exact ⟨p, rfl, s⟩
theorem dpa_ints : ∀ {ns : List Int} {vs : List V}, DpAll K H vs (ns.map PyData.int) → vs = ns.map V.int
  | [], _, h => by cases h; rfl
  | n :: r, _, h => by
    cases h with | cons h1 h2 => rw [dp_int h1, dpa_ints h2]; rfl
theorem dpa_of_ints : ∀ ns : List Int, DpAll K H (ns.map V.int) (ns.map PyData.int)
  | [] => .nil
  | n :: r => .cons (.int n) (dpa_of_ints r)
theorem dpa_len : ∀ {vs : List V} {ds : List PyData}, DpAll K H vs ds → vs.length = ds.length
  | _, _, .nil => rfl
  | _, _, .cons _ r => by simp [dpa_len r]
theorem dpa_get : ∀ {vs : List V} {ds : List PyData} {i : Nat} {v : V}, DpAll K H vs ds → vs[i]? = some v → ∃ d, ds[i]? = some d ∧ Dp K H v d
  | _, _, _, _, .nil, e => by simp at e
  | _, _, 0, _, .cons h _, e => by simp at e; subst e; exact ⟨_, rfl, h⟩
  | _, _, i + 1, _, .cons _ r, e => by
    obtain ⟨d, h1, h2⟩ := dpa_get (i := i) r (by simpa using e)
    exact ⟨d, by simpa using h1, h2⟩
theorem dpa_get2 : ∀ {vs : List V} {ds : List PyData} {i : Nat} {d : PyData}, DpAll K H vs ds → ds[i]? = some d → ∃ v, vs[i]? = some v ∧ Dp K H v d
  | _, _, _, _, .nil, e => by simp at e
  | _, _, 0, _, .cons h _, e => by simp at e; subst e; exact ⟨_, rfl, h⟩
  | _, _, i + 1, _, .cons _ r, e => by
    obtain ⟨d, h1, h2⟩ := dpa_get2 (i := i) r (by simpa using e)
    exact ⟨d, by simpa using h1, h2⟩
theorem dpa_app {vs ws : List V} {ds es : List PyData} : DpAll K H vs ds → DpAll K H ws es → DpAll K H (vs ++ ws) (ds ++ es)
  | .nil, r => r
  | .cons h t, r => .cons h (dpa_app t r)
/-- a list of ints -/
abbrev dInts (ns : List Int) : PyData := .list (ns.map PyData.int)
theorem dp_ints {v : V} {ns : List Int} (h : Dp K H v (dInts ns)) : ∃ a, v = .ref a ∧ SqL K H a (ns.map V.int) := by
  obtain ⟨a, xs, rfl, s, r⟩ := dp_list h
  rw [dpa_ints r] at s
  exact ⟨a, rfl, s⟩
theorem dp_of_ints {a : Addr} {ns : List Int} (h : SqL K H a (ns.map V.int)) : Dp K H (.ref a) (dInts ns) := .lst h (dpa_of_ints ns)
/-- a pair of ints -/
abbrev dPair (p : Int × Int) : PyData := .tuple [.int p.1, .int p.2]
theorem dp_of_pair {a : Addr} {x y : Int} (h : SqT K H a [.int x, .int y]) : Dp K H (.ref a) (dPair (x, y)) := .tup h (.cons (.int x) (.cons (.int y) .nil))
abbrev dPairs (ps : List (Int × Int)) : PyData := .list (ps.map dPair)
end

theorem dpairs_get {K : PySem.W.Frag} {H : Hp} {xs : List V} {ps : List (Int × Int)} {i : Nat} {x : V} (hxs : DpAll K H xs (ps.map dPair)) (hx : xs[i]? = some x) : ∃ p c, ps[i]? = some p ∧ x = .ref c ∧ SqT K H c [.int p.1, .int p.2] := by
  obtain ⟨d, hd, hdx⟩ := dpa_get hxs hx
  rw [List.getElem?_map] at hd
  obtain ⟨p, hp, rfl⟩ := Option.map_eq_some_iff.mp hd
  obtain ⟨c, rfl, hcs⟩ := dp_pair hdx
  exact ⟨p, c, hp, rfl, hcs⟩
/-- data that may be compared: no dicts, at most n deep -/
def Sh (n : Nat) (d : PyData) : Prop := d.canLay0 = true ∧ d.depth ≤ n
theorem Sh.shaped {n : Nat} {d : PyData} (h : Sh n d) (hn : n ≤ 64) : SeqAt.shaped d = true := by
  unfold SeqAt.shaped
  rw [h.1, decide_eq_true (Nat.le_trans h.2 hn)]; rfl
theorem Sh.mono {n m : Nat} {d : PyData} (h : Sh n d) (hn : n ≤ m) : Sh m d := ⟨h.1, Nat.le_trans h.2 hn⟩
theorem sh_int {n : Nat} {i : Int} : Sh n (.int i) := ⟨rfl, Nat.zero_le _⟩
theorem sh_bool {n : Nat} {b : Bool} : Sh n (.bool b) := ⟨rfl, Nat.zero_le _⟩
theorem sh_none {n : Nat} : Sh n .none := ⟨rfl, Nat.zero_le _⟩
theorem sh_all {n : Nat} : ∀ {ds : List PyData}, (∀ d ∈ ds, Sh n d) → PyData.canLayAll0 ds = true ∧ PyData.depthAll ds ≤ n
  | [], _ => ⟨rfl, Nat.zero_le _⟩
  | d :: r, h => by
    obtain ⟨h1, h2⟩ := sh_all (ds := r) fun x hx => h x (List.mem_cons_of_mem _ hx)
    obtain ⟨h3, h4⟩ := h d List.mem_cons_self
    refine ⟨?_, ?_⟩
    · show (PyData.canLay0 d && PyData.canLayAll0 r) = true
      rw [h3, h1]; rfl
    · show max d.depth (PyData.depthAll r) ≤ n
      omega
theorem sh_list {n : Nat} {ds : List PyData} (h : ∀ d ∈ ds, Sh n d) : Sh (n + 1) (.list ds) := by
  obtain ⟨h1, h2⟩ := sh_all h
  exact ⟨h1, by show PyData.depthAll ds + 1 ≤ n + 1; omega⟩
theorem sh_tup {n : Nat} {ds : List PyData} (h : ∀ d ∈ ds, Sh n d) : Sh (n + 1) (.tuple ds) := by
  obtain ⟨h1, h2⟩ := sh_all h
  exact ⟨h1, by show PyData.depthAll ds + 1 ≤ n + 1; omega⟩
theorem sh_ints {n : Nat} (ns : List Int) : Sh (n + 1) (dInts ns) := sh_list fun d hd => by
  obtain ⟨i, _, rfl⟩ := List.mem_map.mp hd
  exact sh_int
theorem sh_pair {n : Nat} (p : Int × Int) : Sh (n + 1) (dPair p) := sh_tup fun d hd => by
  rcases List.mem_cons.mp hd with rfl | hd
  · exact sh_int
  · rcases List.mem_cons.mp hd with rfl | hd
    · exact sh_int
    · cases hd
theorem sh_pairs {n : Nat} (ps : List (Int × Int)) : Sh (n + 2) (dPairs ps) := sh_list fun d hd => by
  obtain ⟨p, _, rfl⟩ := List.mem_map.mp hd
  exact sh_pair p
theorem sh_two {n : Nat} {c d : PyData} (h1 : Sh n c) (h2 : Sh n d) : Sh (n + 1) (.tuple [c, d]) := sh_tup fun x hx => by
  rcases List.mem_cons.mp hx with rfl | hx
  · exact h1
  · rcases List.mem_cons.mp hx with rfl | hx
    · exact h2
    · cases hx
theorem Sh.refl {n : Nat} {d : PyData} (h : Sh n d) : PyData.eqv d d = true := SeqAt.eqv_refl d h.1
theorem ff_iff {P : Prop} (h : ¬ P) : false = true ↔ P := ⟨fun z => (nomatch z), fun z => (h z).elim⟩
theorem tt_iff {P : Prop} (h : P) : true = true ↔ P := ⟨fun _ => h, fun _ => rfl⟩

theorem ixN_of {n : Nat} {i : Int} (h0 : 0 ≤ i) (h1 : i < n) : ixN n i = some i.toNat := by unfold ixN; rw [if_pos h0, if_pos h1]
theorem map_erase (ns : List Int) (i : Nat) : (ns.map V.int).eraseIdx i = (ns.eraseIdx i).map V.int := by
  induction ns generalizing i with
  | nil => rfl
  | cons x r ih => cases i with
    | zero => rfl
    | succ i => show V.int x :: (r.map V.int).eraseIdx i = _; rw [ih]; rfl
theorem erase_perm {α : Type} (l : List α) (i : Nat) (h : i < l.length) : (l[i] :: l.eraseIdx i).Perm l := by
  induction l generalizing i with
  | nil => exact absurd h (by simp)
  | cons x r ih => cases i with
    | zero => exact List.Perm.refl _
    | succ i =>
      have h' : i < r.length := by simpa using h
      show (r[i] :: x :: r.eraseIdx i).Perm (x :: r)
      exact (List.Perm.swap _ _ _).trans ((ih i h').cons x)
theorem getD_memI {ns : List Int} {i : Int} (h0 : 0 ≤ i) (h1 : i < ns.length) : ns.getD i.toNat 0 ∈ ns := by
  have h : i.toNat < ns.length := by omega
  rw [List.getD_eq_getElem?_getD, List.getElem?_eq_getElem h]
  exact List.getElem_mem h
theorem not_in2 {p a b : Addr} (h1 : p ≠ a) (h2 : p ≠ b) : p ∉ [a, b] := by
  intro z
  rcases List.mem_cons.mp z with z | z
  · exact h1 z
  · rcases List.mem_cons.mp z with z | z
    · exact h2 z
    · cases z

/-! ### readings, step by step -/
section
variable {K : PySem.W.Frag} {σ : L2.St} {H : Hp} {D : Ends} {Q : VK} {ta tb te : TE} {t u : TT} {s1 s2 : TS} {QT : Bool → Hp → Prop} {QA : List V → Hp → Prop} {tr : TA} {QS : L2.St → Hp → Prop}
theorem k_seq {nx : L2.St → Hp → Prop} {rt : VK} {bk ct : L2.St → Hp → Prop} (h : s1 ⟨s2 ⟨nx, rt, bk, ct⟩, rt, bk, ct⟩ σ H) : tSeq s1 s2 ⟨nx, rt, bk, ct⟩ σ H := h
theorem k_nx {nx : L2.St → Hp → Prop} {rt : VK} {bk ct : L2.St → Hp → Prop} (h : nx σ H) : Ends.nx ⟨nx, rt, bk, ct⟩ σ H := h
theorem k_next {nx : L2.St → Hp → Prop} {rt : VK} {bk ct : L2.St → Hp → Prop} (h : nx σ H) : tNext ⟨nx, rt, bk, ct⟩ σ H := h
theorem k_cont {nx : L2.St → Hp → Prop} {rt : VK} {bk ct : L2.St → Hp → Prop} (h : ct σ H) : tCont ⟨nx, rt, bk, ct⟩ σ H := h
theorem k_brk {nx : L2.St → Hp → Prop} {rt : VK} {bk ct : L2.St → Hp → Prop} (h : bk σ H) : tBreak ⟨nx, rt, bk, ct⟩ σ H := h
theorem k_set {nx : L2.St → Hp → Prop} {rt : VK} {bk ct : L2.St → Hp → Prop} {i : Nat} (h : te σ H fun x H1 => nx (σ.set i (some x)) H1) : tAsg te (gName i) ⟨nx, rt, bk, ct⟩ σ H := h
theorem k_asg {nx : L2.St → Hp → Prop} {rt : VK} {bk ct : L2.St → Hp → Prop} {g : TG} (h : te σ H fun x H1 => g x σ H1 nx) : tAsg te g ⟨nx, rt, bk, ct⟩ σ H := h
theorem k_drop {nx : L2.St → Hp → Prop} {rt : VK} {bk ct : L2.St → Hp → Prop} (h : te σ H fun _ H1 => nx σ H1) : tDrop te ⟨nx, rt, bk, ct⟩ σ H := h
theorem k_ret {nx : L2.St → Hp → Prop} {rt : VK} {bk ct : L2.St → Hp → Prop} (h : te σ H rt) : tRet te ⟨nx, rt, bk, ct⟩ σ H := h
theorem k_retN {nx : L2.St → Hp → Prop} {rt : VK} {bk ct : L2.St → Hp → Prop} (h : rt .non H) : tRetN ⟨nx, rt, bk, ct⟩ σ H := h
theorem k_aug {nx : L2.St → Hp → Prop} {rt : VK} {bk ct : L2.St → Hp → Prop} {i : Nat} {f : Int → Int → Int} {a : Int} (e : σ[i]? = some (some (.int a))) (h : te σ H fun y H1 => ipI f (.int a) y H1 fun z H2 => nx (σ.set i (some z)) H2) : tAug i te (ipI f) ⟨nx, rt, bk, ct⟩ σ H := ⟨_, e, h⟩
theorem k_augL {nx : L2.St → Hp → Prop} {rt : VK} {bk ct : L2.St → Hp → Prop} {to ti : TE} (h : to σ H fun o H1 => ti σ H1 fun i H2 => rGetL K o i H2 fun x H3 => te σ H3 fun y H4 => ipI (fun i j => i + j) x y H4 fun z H5 => rSetL o i z H5 fun H6 => nx σ H6) : xAugL K to ti te ⟨nx, rt, bk, ct⟩ σ H := h
theorem k_ipI {f : Int → Int → Int} {a b : Int} (h : Q (.int (f a b)) H) : ipI f (.int a) (.int b) H Q := ⟨a, b, rfl, rfl, h⟩
theorem k_if (h : t σ H fun b H1 => if b = true then s1 D σ H1 else s2 D σ H1) : tIfS t s1 s2 D σ H := h
theorem k_var {i : Nat} {v : V} (e : σ[i]? = some (some v)) (h : Q v H) : tVar i σ H Q := ⟨v, e, h⟩
theorem k_c {v : V} (h : Q v H) : tC v σ H Q := h
theorem k_op {r : R2} (h : ta σ H fun x H1 => tb σ H1 fun y H2 => r x y H2 Q) : tOp r ta tb σ H Q := h
theorem k_un {r : V → Hp → VK → Prop} (h : ta σ H fun x H1 => r x H1 Q) : tUn r ta σ H Q := h
theorem k_I0 {g : Int → Int → V} {i j : Int} (h : Q (g i j) H) : rI0 g (.int i) (.int j) H Q := ⟨i, j, rfl, rfl, h⟩
theorem k_I {C : Int → Int → Prop} {g : Int → Int → V} {i j : Int} (hc : C i j) (h : Q (g i j) H) : rI C g (.int i) (.int j) H Q := ⟨i, j, rfl, rfl, hc, h⟩
theorem k_add {i j : Int} (h : Q (.int (i + j)) H) : xAdd (.int i) (.int j) H Q := ⟨i, j, rfl, rfl, h⟩
theorem k_sub {i j : Int} (h : Q (.int (i - j)) H) : xSub (.int i) (.int j) H Q := ⟨i, j, rfl, rfl, h⟩
theorem k_mul {i j : Int} (hc : CMul i j) (h : Q (.int (i * j)) H) : xMul (.int i) (.int j) H Q := ⟨i, j, rfl, rfl, hc, h⟩
theorem k_mulW {i j : Int} (hc : CMulW i j) (h : Q (.int (i * j)) H) : xMulW (.int i) (.int j) H Q := ⟨i, j, rfl, rfl, hc, h⟩
theorem k_div {i j : Int} (hc : CDiv i j) (h : Q (.int (i / j)) H) : xDiv (.int i) (.int j) H Q := ⟨i, j, rfl, rfl, hc, h⟩
theorem k_divW {i j : Int} (hc : CDivW i j) (h : Q (.int (i / j)) H) : xDivW (.int i) (.int j) H Q := ⟨i, j, rfl, rfl, hc, h⟩
theorem k_mod {i j : Int} (hc : 0 < j) (h : Q (.int (i % j)) H) : xMod (.int i) (.int j) H Q := ⟨i, j, rfl, rfl, hc, h⟩
theorem k_pow {i j : Int} (hc : CPow i j) (h : Q (.int (i ^ j.toNat)) H) : xPow (.int i) (.int j) H Q := ⟨i, j, rfl, rfl, hc, h⟩
theorem k_lt {i j : Int} (h : Q (.bl (decide (i < j))) H) : xLt (.int i) (.int j) H Q := ⟨i, j, rfl, rfl, h⟩
theorem k_le {i j : Int} (h : Q (.bl (decide (i ≤ j))) H) : xLe (.int i) (.int j) H Q := ⟨i, j, rfl, rfl, h⟩
theorem k_gt {i j : Int} (h : Q (.bl (decide (j < i))) H) : xGt (.int i) (.int j) H Q := ⟨i, j, rfl, rfl, h⟩
theorem k_ge {i j : Int} (h : Q (.bl (decide (j ≤ i))) H) : xGe (.int i) (.int j) H Q := ⟨i, j, rfl, rfl, h⟩
theorem k_neg {i : Int} (h : Q (.int (-i)) H) : xNeg (.int i) H Q := ⟨i, rfl, h⟩
theorem k_U {g : Int → V} {i : Int} (h : Q (g i) H) : rU g (.int i) H Q := ⟨i, rfl, h⟩
theorem k_eqI {i j : Int} (h : Q (.bl (decide (i = j))) H) : rEq (.int i) (.int j) H Q := ⟨rfl, by
  have e : decide (V.int i = V.int j) = decide (i = j) := by
    by_cases c : i = j
    · rw [decide_eq_true c, decide_eq_true (by rw [c])]
    · rw [decide_eq_false c, decide_eq_false (fun z => c (V.int.inj z))]
  rw [e]; exact h⟩
theorem k_neI {i j : Int} (h : Q (.bl (!decide (i = j))) H) : rNe (.int i) (.int j) H Q := ⟨rfl, by
  have e : decide (V.int i = V.int j) = decide (i = j) := by
    by_cases c : i = j
    · rw [decide_eq_true c, decide_eq_true (by rw [c])]
    · rw [decide_eq_false c, decide_eq_false (fun z => c (V.int.inj z))]
  rw [e]; exact h⟩
theorem k_test (h : te σ H fun x H1 => ∃ k, x = .bl k ∧ QT k H1) : tTest te σ H QT := h
theorem k_B (h : te σ H fun x H1 => ∃ k, x = .bl k ∧ QT k H1) : tB te σ H QT := h
theorem k_bl {b : Bool} {R : Bool → Prop} (h : R b) : ∃ k, V.bl b = .bl k ∧ R k := ⟨b, rfl, h⟩
theorem k_and (h : t σ H fun c H1 => if c = true then u σ H1 QT else QT false H1) : tAnd t u σ H QT := h
theorem k_or (h : t σ H fun c H1 => if c = true then QT true H1 else u σ H1 QT) : tOr t u σ H QT := h
theorem k_not (h : t σ H fun c H1 => QT (!c) H1) : tNot t σ H QT := h
theorem k_notV (h : ta σ H fun x H1 => ∃ c, x = .bl c ∧ Q (.bl (!c)) H1) : tNotV ta σ H Q := h
theorem k_andV (h : ta σ H fun x H1 => ∃ c, x = .bl c ∧ if c = true then tb σ H1 Q else Q (.bl false) H1) : tAndV ta tb σ H Q := h
theorem k_orV (h : ta σ H fun x H1 => ∃ c, x = .bl c ∧ if c = true then Q (.bl true) H1 else tb σ H1 Q) : tOrV ta tb σ H Q := h
theorem k_cb {r : List V → Hp → VK → Prop} (h : tr σ H fun vs H1 => r vs H1 Q) : tCB r tr σ H Q := h
theorem k_nil (h : QA [] H) : tNil σ H QA := h
theorem k_cons (h : ta σ H fun x H1 => tr σ H1 fun xs H2 => QA (x :: xs) H2) : tCons ta tr σ H QA := h
theorem k_call {sp : Sp} {dvs : List V} {E : XK} (h : tr σ H fun vs H1 => sp (vs ++ dvs) H1 Q E) : tCall sp dvs E tr σ H Q := h
theorem k_len {p : Addr} {ys : List V} (hs : SqL K H p ys) (h : Q (.int ys.length) H) : rLenX K [.ref p] H Q := ⟨p, ys, rfl, .inl hs, h⟩
theorem k_len0 {p : Addr} (hs : H p = some (.lst [])) (h : Q (.int 0) H) : rLenX K [.ref p] H Q := ⟨p, [], rfl, .inl (sl hs), h⟩
theorem k_lenT {p : Addr} {ys : List V} (hs : SqT K H p ys) (h : Q (.int ys.length) H) : rLenX K [.ref p] H Q := ⟨p, ys, rfl, .inr hs, h⟩
theorem k_lenI {p : Addr} {ns : List Int} (hs : SqL K H p (ns.map V.int)) (h : Q (.int ns.length) H) : rLenX K [.ref p] H Q := ⟨p, _, rfl, .inl hs, by rw [List.length_map]; exact h⟩
theorem k_list {p : Addr} {ys : List V} (hs : SqL K H p ys) (h : ∀ l, H l = none → Q (.ref l) (upd H l (.lst ys))) : rListOf K [.ref p] H Q := ⟨p, ys, rfl, .inl hs, h⟩
theorem k_lst (h : tr σ H fun xs H1 => xs.length ≤ sizeLine ∧ ∀ p, H1 p = none → Q (.ref p) (upd H1 p (.lst xs))) : tLst tr σ H Q := h
theorem k_tup (h : tr σ H fun xs H1 => xs.length ≤ sizeLine ∧ ∀ p, H1 p = none → Q (.ref p) (upd H1 p (.tup xs))) : tTup tr σ H Q := h
theorem k_new {xs : List V} {R : Addr → Prop} (hn : xs.length ≤ 100000) (h : ∀ p, H p = none → R p) : xs.length ≤ sizeLine ∧ ∀ p, H p = none → R p := ⟨sz hn, h⟩
theorem k_gtup {n : Nat} {g : TGs} {a : Addr} {xs : List V} (hs : SqT K H a xs) (hn : xs.length = n) (h : g xs σ H QS) : gTup K n g (.ref a) σ H QS := ⟨a, xs, rfl, hs, hn, h⟩
theorem k_gunl {n : Nat} {g : TGs} {a : Addr} {xs : List V} (hs : SqL K H a xs) (hn : xs.length = n) (h : g xs σ H QS) : gUnl K n g (.ref a) σ H QS := ⟨a, xs, rfl, hs, hn, h⟩
theorem k_gcons {g : TG} {gs : TGs} {v : V} {r : List V} (h : g v σ H fun σ' H' => gs r σ' H' QS) : gCons g gs (v :: r) σ H QS := ⟨v, r, rfl, h⟩
theorem k_gnil (h : QS σ H) : gNil [] σ H QS := ⟨rfl, h⟩
theorem k_gname {i : Nat} {v : V} (h : QS (σ.set i (some v)) H) : gName i v σ H QS := h
theorem k_gsub {to ti : TE} {ts : TSet} {v : V} (h : to σ H fun o H1 => ti σ H1 fun i H2 => ts o i v H2 fun H3 => QS σ H3) : gSub to ti ts v σ H QS := h
theorem k_setL {p : Addr} {xs : List V} {k : Int} {j : Nat} {v : V} {QH : Hp → Prop} (hp : H p = some (.lst xs)) (hj : ixN xs.length k = some j) (h : QH (upd H p (.lst (xs.set j v)))) : rSetL (.ref p) (.int k) v H QH := ⟨p, xs, k, j, rfl, rfl, hp, hj, h⟩
theorem k_ixL {p : Addr} {xs : List V} {i : Int} {v : V} (hs : SqL K H p xs) (ha : atI xs i = some v) (h : Q v H) : rIxL K (.ref p) (.int i) H Q := ⟨p, xs, i, v, rfl, rfl, hs, ha, h⟩
theorem k_ixT {p : Addr} {xs : List V} {i : Int} {v : V} (hs : SqT K H p xs) (ha : atI xs i = some v) (h : Q v H) : rIxT K (.ref p) (.int i) H Q := ⟨p, xs, i, v, rfl, rfl, hs, ha, h⟩
theorem k_min {p : Addr} {ns : List Int} (hs : SqL K H p (ns.map V.int)) (h0 : 0 < ns.length) (h : ∀ m, m ∈ ns → (∀ y, y ∈ ns → m ≤ y) → Q (.int m) H) : rMin K [.ref p] H Q := ⟨p, ns, rfl, hs, h0, h⟩
theorem k_max {p : Addr} {ns : List Int} (hs : SqL K H p (ns.map V.int)) (h0 : 0 < ns.length) (h : ∀ m, m ∈ ns → (∀ y, y ∈ ns → y ≤ m) → Q (.int m) H) : rMax K [.ref p] H Q := ⟨p, ns, rfl, hs, h0, h⟩
theorem k_popI {p : Addr} {ns : List Int} {i : Int} (hp : H p = some (.lst (ns.map V.int))) (h0 : 0 ≤ i) (h1 : i < ns.length) (h2 : i < 1000000) (h : Q (.int (ns.getD i.toNat 0)) (upd H p (.lst ((ns.eraseIdx i.toNat).map V.int)))) : rPopAt (.ref p) [.int i] H Q := by
  refine ⟨p, _, i, i.toNat, .int (ns.getD i.toNat 0), rfl, rfl, hp, by omega, by omega, ?_, ?_, ?_⟩
  · exact (ixN_seq (ixN_of h0 (by rw [List.length_map]; exact h1))).1
  · have hh : i.toNat < ns.length := by omega
    rw [List.getElem?_map, List.getElem?_eq_getElem hh]
    simp [List.getD_eq_getElem?_getD, List.getElem?_eq_getElem hh]
  · have e : (ns.map V.int).eraseIdx i.toNat = (ns.eraseIdx i.toNat).map V.int := map_erase ns _
    rw [e]; exact h
theorem k_sortedI {a : Addr} {ns : List Int} (hs : SqL K H a (ns.map V.int)) (h : ∀ (ns' : List Int) (p : Addr), ns'.Perm ns → ns'.Pairwise (· ≤ ·) → H p = none → Q (.ref p) (upd H p (.lst (ns'.map V.int)))) : rSortedI K [.ref a] H Q := ⟨a, ns, rfl, hs, h⟩
theorem k_max2 {i j : Int} (h : Q (.int (if j > i then j else i)) H) : rMax2 [.int i, .int j] H Q := ⟨i, j, rfl, h⟩
theorem k_min2 {i j : Int} (h : Q (.int (if j < i then j else i)) H) : rMin2 [.int i, .int j] H Q := ⟨i, j, rfl, h⟩
theorem k_bm {T : String} {r : V → List V → Hp → VK → Prop} (h : ta σ H fun x H1 => tyV K T x H1 ∧ tr σ H1 fun xs H2 => r x xs H2 Q) : tBM K T r ta tr σ H Q := h
theorem k_bm0 {T : String} {r : V → List V → Hp → VK → Prop} (h : ta σ H fun x H1 => tyV K T x H1 ∧ r x [] H1 Q) : tBM0 K T r ta σ H Q := h
theorem k_cat {p q : Addr} {xs ys : List V} (hp : H p = some (.lst xs)) (hq : H q = some (.lst ys)) (hz : xs.length + ys.length ≤ 100000) (h : ∀ l, H l = none → Q (.ref l) (upd H l (.lst (xs ++ ys)))) : rCat (.ref p) (.ref q) H Q := ⟨p, q, xs, ys, rfl, rfl, hp, hq, sz hz, h⟩
theorem k_tyL {p : Addr} {xs : List V} {R : Prop} (hp : SqL K H p xs) (h : R) : tyV K "list" (.ref p) H ∧ R := ⟨.inl ⟨rfl, _, hp⟩, h⟩
theorem k_append {p : Addr} {xs : List V} {y : V} (hp : H p = some (.lst xs)) (hn : xs.length < 100000) (h : Q .non (upd H p (.lst (xs ++ [y])))) : rAppend (.ref p) [y] H Q := ⟨p, xs, y, rfl, rfl, hp, szl hn, h⟩
theorem k_itT {b : Bool} {A B : Prop} (e : b = true) (h : A) : if b = true then A else B := by rw [if_pos e]; exact h
theorem k_itF {b : Bool} {A B : Prop} (e : b = false) (h : B) : if b = true then A else B := by rw [e]; exact h
theorem iteNT {A B : Prop} (h : B) : if (!true) = true then A else B := iteF h
theorem iteNF {A B : Prop} (h : A) : if (!false) = true then A else B := iteT h
theorem k_itDT {c A B : Prop} [Decidable c] (e : c) (h : A) : if decide c = true then A else B := by rw [if_pos (decide_eq_true e)]; exact h
theorem k_itDF {c A B : Prop} [Decidable c] (e : ¬ c) (h : B) : if decide c = true then A else B := by rw [decide_eq_false e]; exact h
theorem k_itNT {c A B : Prop} [Decidable c] (e : ¬ c) (h : A) : if (!decide c) = true then A else B := by rw [decide_eq_false e]; exact h
theorem k_itNF {c A B : Prop} [Decidable c] (e : c) (h : B) : if (!decide c) = true then A else B := by rw [decide_eq_true e]; exact h
theorem k_for {nx : L2.St → Hp → Prop} {rt : VK} {bk ct : L2.St → Hp → Prop} {wi : TI} {g : TG} {tb : TS} (h : wi σ H fun J H1 => ∃ W : Nat → Nat → L2.St → Hp → Prop, (∃ m, W 0 m σ H1) ∧ ∀ i m σ H, W i m σ H →
  (J.stop i H ∧ nx σ H) ∨ (J.go i H ∧ ∃ N : L2.St → Hp → Prop, (∀ σ' H', N σ' H' → ∃ m', m' < m ∧ W (i + 1) m' σ' H') ∧ ∀ x H', J.yld i H x H' → g x σ H' fun σ2 H2 => tb ⟨N, rt, nx, N⟩ σ2 H2)) : tFor wi g tb ⟨nx, rt, bk, ct⟩ σ H := h
theorem forL {nx : L2.St → Hp → Prop} {rt : VK} {b : Addr} {xs : List V} {g : TG} {tb : TS} (hs0 : SqL K H b xs) (Pv : Nat → L2.St → Hp → Prop) (h0 : Pv 0 σ H) (hl : ∀ i σ H, i ≤ xs.length → Pv i σ H → SqL K H b xs)
    (hs : ∀ (i : Nat) x σ H, xs[i]? = some x → Pv i σ H → g x σ H fun σ2 H2 => tb ⟨Pv (i + 1), rt, nx, Pv (i + 1)⟩ σ2 H2) (hd : ∀ σ H, Pv xs.length σ H → nx σ H) :
    ∃ a, V.ref b = .ref a ∧ (∃ xs, SqL K H a xs) ∧ ∃ W : Nat → Nat → L2.St → Hp → Prop, (∃ m, W 0 m σ H) ∧ ∀ i m σ H, W i m σ H →
      ((Itl K a).stop i H ∧ nx σ H) ∨ ((Itl K a).go i H ∧ ∃ N : L2.St → Hp → Prop, (∀ σ' H', N σ' H' → ∃ m', m' < m ∧ W (i + 1) m' σ' H') ∧ ∀ x H', (Itl K a).yld i H x H' → g x σ H' fun σ2 H2 => tb ⟨N, rt, nx, N⟩ σ2 H2) :=
  ⟨b, rfl, ⟨xs, hs0⟩, for_list (D := ⟨nx, rt, fun _ _ => False, fun _ _ => False⟩) Pv h0 hl hs hd⟩
theorem forR {nx : L2.St → Hp → Prop} {rt : VK} {lo : Int} {n : Nat} {g : TG} {tb : TS} (Pv : Nat → L2.St → Hp → Prop) (h0 : Pv 0 σ H)
    (hs : ∀ (i : Nat) σ H, i < n → Pv i σ H → g (.int (lo + i)) σ H fun σ2 H2 => tb ⟨Pv (i + 1), rt, nx, Pv (i + 1)⟩ σ2 H2) (hd : ∀ σ H, Pv n σ H → nx σ H) :
    ∃ W : Nat → Nat → L2.St → Hp → Prop, (∃ m, W 0 m σ H) ∧ ∀ i m σ H, W i m σ H →
      ((Itr lo n).stop i H ∧ nx σ H) ∨ ((Itr lo n).go i H ∧ ∃ N : L2.St → Hp → Prop, (∀ σ' H', N σ' H' → ∃ m', m' < m ∧ W (i + 1) m' σ' H') ∧ ∀ x H', (Itr lo n).yld i H x H' → g x σ H' fun σ2 H2 => tb ⟨N, rt, nx, N⟩ σ2 H2) :=
  for_range (D := ⟨nx, rt, fun _ _ => False, fun _ _ => False⟩) Pv h0 hs hd
theorem k_while {nx : L2.St → Hp → Prop} {rt : VK} {bk ct : L2.St → Hp → Prop} {c : TT} {tb : TS} (h : ∃ W : Nat → L2.St → Hp → Prop, (∃ m, W m σ H) ∧ ∀ m σ H, W m σ H →
  c σ H fun b H1 => if b = true then ∃ N : L2.St → Hp → Prop, (∀ σ' H', N σ' H' → ∃ m', m' < m ∧ W m' σ' H') ∧ tb ⟨N, rt, nx, N⟩ σ H1 else nx σ H1) : tWhile c tb ⟨nx, rt, bk, ct⟩ σ H := h
theorem whileW {nx : L2.St → Hp → Prop} {rt : VK} {bk ct : L2.St → Hp → Prop} {c : TT} {tb : TS} (W : Nat → L2.St → Hp → Prop) {m0 : Nat} (h0 : W m0 σ H)
    (hs : ∀ m σ H, W m σ H → c σ H fun b H1 => if b = true then tb ⟨fun σ' H' => ∃ m', m' < m ∧ W m' σ' H', rt, nx, fun σ' H' => ∃ m', m' < m ∧ W m' σ' H'⟩ σ H1 else nx σ H1)
    (mono : ∀ σ H (Q Q' : Bool → Hp → Prop), (∀ b H1, Q b H1 → Q' b H1) → c σ H Q → c σ H Q') : tWhile c tb ⟨nx, rt, bk, ct⟩ σ H := by
  refine ⟨W, ⟨m0, h0⟩, fun m σ H w => mono σ H _ _ (fun b H1 q => ?_) (hs m σ H w)⟩
  cases b with
  | true => exact ⟨_, fun σ' H' h => h, q⟩
  | false => exact q
theorem k_iList {R : It → Hp → Prop} (h : te σ H fun x H1 => ∃ a, x = .ref a ∧ (∃ xs, SqL K H1 a xs) ∧ R (Itl K a) H1) : iList K te σ H R := h
theorem k_iTup {R : It → Hp → Prop} (h : te σ H fun x H1 => ∃ a, x = .ref a ∧ (∃ xs, SqT K H1 a xs) ∧ R (Itt K a) H1) : iTup K te σ H R := h
theorem k_iZip {R : It → Hp → Prop} (h : tr σ H fun vs H1 => ∃ a b xs ys, vs = [.ref a, .ref b] ∧ SqL K H1 a xs ∧ SqL K H1 b ys ∧ R (Itz K a b) H1) : iZip K tr σ H R := h
theorem k_iEnum {R : It → Hp → Prop} (h : tr σ H fun vs H1 => ∃ a xs, vs = [.ref a] ∧ SqL K H1 a xs ∧ R (Ite K a) H1) : iEnum K tr σ H R := h
theorem k_iRng1 {R : It → Hp → Prop} (h : tr σ H fun vs H1 => ∃ j : Int, vs = [.int j] ∧ -(2 ^ 62) ≤ j ∧ j < 2 ^ 62 ∧ R (Itr 0 j.toNat) H1) : iRng1 tr σ H R := h
theorem k_iRng2 {R : It → Hp → Prop} (h : tr σ H fun vs H1 => ∃ i j : Int, vs = [.int i, .int j] ∧ (-(2 ^ 62) ≤ i ∧ i < 2 ^ 62 ∧ -(2 ^ 62) ≤ j ∧ j < 2 ^ 62) ∧ R (Itr i (j - i).toNat) H1) : iRng2 tr σ H R := h
theorem k_rj1 {j : Int} {R : Int → Prop} (h1 : -(2 ^ 62) ≤ j) (h2 : j < 2 ^ 62) (h : R j) : ∃ j' : Int, [V.int j] = [.int j'] ∧ -(2 ^ 62) ≤ j' ∧ j' < 2 ^ 62 ∧ R j' := ⟨j, rfl, h1, h2, h⟩
theorem k_rj2 {i j : Int} {R : Int → Int → Prop} (h1 : -(2 ^ 62) ≤ i ∧ i < 2 ^ 62 ∧ -(2 ^ 62) ≤ j ∧ j < 2 ^ 62) (h : R i j) : ∃ i' j' : Int, [V.int i, V.int j] = [.int i', .int j'] ∧ (-(2 ^ 62) ≤ i' ∧ i' < 2 ^ 62 ∧ -(2 ^ 62) ≤ j' ∧ j' < 2 ^ 62) ∧ R i' j' := ⟨i, j, rfl, h1, h⟩
theorem k_it {c A B : Prop} [Decidable c] (h1 : c → A) (h2 : ¬ c → B) : if decide c = true then A else B := by
  by_cases h : c
  · rw [if_pos (decide_eq_true h)]; exact h1 h
  · rw [decide_eq_false h]; exact h2 h
theorem k_itn {c A B : Prop} [Decidable c] (h1 : ¬ c → A) (h2 : c → B) : if (!decide c) = true then A else B := by
  by_cases h : c
  · rw [decide_eq_true h]; exact h2 h
  · rw [decide_eq_false h]; exact h1 h
theorem k_itb {b : Bool} {A B : Prop} (h1 : b = true → A) (h2 : b = false → B) : if b = true then A else B := by
  cases b with
  | true => exact h1 rfl
  | false => exact h2 rfl
theorem k_isi {x : V} {c : String} {tx : String} {b : Bool} (ht : TyX K H x (.type tx)) (hb : kitB tx c = some b) (h : Q (.bl b) H) : rIsi K [x, .ty c] H Q := ⟨x, .ty c, .type tx, .type c, b, rfl, .ty c, ht, kit_ty hb, h⟩

theorem ty_list {p : Addr} {xs : List V} (h : SqL K H p xs) : TyX K H (.ref p) (.type "list") := by
  rcases h with (h | ⟨o, h⟩) | ⟨o, its, n, h, c, _⟩
  · exact .base (.lst h)
  · exact .base (.frz h)
  · exact .kList h c
theorem k_isiL {p : Addr} {xs : List V} (hs : SqL K H p xs) (h : Q (.bl true) H) : rIsi K [.ref p, .ty "list"] H Q := k_isi (ty_list hs) (by decide +kernel) h
theorem k_isiLI {i : Int} (h : Q (.bl false) H) : rIsi K [.int i, .ty "list"] H Q := k_isi (.base (.int i)) (by decide +kernel) h
theorem k_isiI {i : Int} (h : Q (.bl true) H) : rIsi K [.int i, .ty "int"] H Q := k_isi (.base (.int i)) (by decide +kernel) h
theorem k_isiB {i : Int} (h : Q (.bl false) H) : rIsi K [.int i, .ty "bool"] H Q := k_isi (.base (.int i)) (by decide +kernel) h
theorem inV_ints (x : Int) : ∀ ns : List Int, inV (.int x) (ns.map V.int) = decide (x ∈ ns)
  | [] => rfl
  | n :: r => by
    show (eqV (.int n) (.int x) || inV (.int x) (r.map V.int)) = decide (x ∈ n :: r)
    rw [inV_ints x r]
    show ((n == x) || decide (x ∈ r)) = decide (x ∈ n :: r)
    by_cases h : n = x
    · subst h; simp
    · have : (n == x) = false := by simp [h]
      rw [this, Bool.false_or]
      have h' : ¬ x = n := fun e => h e.symm
      simp [h']
theorem flat_ints : ∀ ns : List Int, (ns.map V.int).all flatV = true
  | [] => rfl
  | _ :: r => by show (true && (r.map V.int).all flatV) = true; rw [flat_ints r]; rfl
theorem k_inI {p : Addr} {ns : List Int} {x : Int} (hs : SqL K H p (ns.map V.int)) (h : Q (.bl (decide (x ∈ ns))) H) : rIn K false (.int x) (.ref p) H Q :=
  ⟨p, _, rfl, .inl hs, rfl, flat_ints ns, by rw [if_neg Bool.false_ne_true, inV_ints]; exact h⟩
theorem k_notInI {p : Addr} {ns : List Int} {x : Int} (hs : SqL K H p (ns.map V.int)) (h : Q (.bl (!decide (x ∈ ns))) H) : rIn K true (.int x) (.ref p) H Q :=
  ⟨p, _, rfl, .inl hs, rfl, flat_ints ns, by rw [if_pos rfl, inV_ints]; exact h⟩
theorem k_intB {b : Bool} (h : Q (.int (if b then 1 else 0)) H) : rIntOf [.bl b] H Q := .inr ⟨b, rfl, h⟩
theorem at_int {ns : List Int} {i : Int} (h0 : 0 ≤ i) (h1 : i < ns.length) : atI (ns.map V.int) i = some (.int (ns.getD i.toNat 0)) := by
  obtain ⟨k, rfl⟩ : ∃ k : Nat, i = k := ⟨i.toNat, by omega⟩
  have h : k < ns.length := by omega
  refine atI_nat ?_
  rw [List.getElem?_map]
  simp [List.getElem?_eq_getElem h, List.getD_eq_getElem?_getD]
theorem k_ixI {p : Addr} {ns : List Int} {i : Int} (hs : SqL K H p (ns.map V.int)) (h0 : 0 ≤ i) (h1 : i < ns.length) (h : Q (.int (ns.getD i.toNat 0)) H) : rIxL K (.ref p) (.int i) H Q := k_ixL hs (at_int h0 h1) h
theorem k_eqD {x y : V} {c d : PyData} {n : Nat} (hx : Dp K H x c) (hy : Dp K H y d) (h1 : Sh n c) (h2 : Sh n d) (hn : n ≤ 64) (h : Q (.bl (PyData.eqv c d)) H) : rEqD K x y H Q := ⟨c, d, hx, hy, h1.shaped hn, h2.shaped hn, h⟩
theorem k_neD {x y : V} {c d : PyData} {n : Nat} (hx : Dp K H x c) (hy : Dp K H y d) (h1 : Sh n c) (h2 : Sh n d) (hn : n ≤ 64) (h : Q (.bl (!PyData.eqv c d)) H) : rNeD K x y H Q := ⟨c, d, hx, hy, h1.shaped hn, h2.shaped hn, h⟩
theorem k_neD0 {x y : V} {c : PyData} {n : Nat} (hx : Dp K H x c) (hy : Dp K H y c) (h1 : Sh n c) (hn : n ≤ 64) (h : Q (.bl false) H) : rNeD K x y H Q := k_neD hx hy h1 h1 hn (by rw [h1.refl]; exact h)
theorem k_eqD1 {x y : V} {c : PyData} {n : Nat} (hx : Dp K H x c) (hy : Dp K H y c) (h1 : Sh n c) (hn : n ≤ 64) (h : Q (.bl true) H) : rEqD K x y H Q := k_eqD hx hy h1 h1 hn (by rw [h1.refl]; exact h)
theorem k_getI {p : Addr} {ns : List Int} {i : Int} (hs : SqL K H p (ns.map V.int)) (h0 : 0 ≤ i) (h1 : i < ns.length) (h : Q (.int (ns.getD i.toNat 0)) H) : rGetL K (.ref p) (.int i) H Q := ⟨p, _, i, _, rfl, rfl, hs, h0, at_int h0 h1, h⟩
theorem k_setI {p : Addr} {ns : List Int} {k v : Int} {QH : Hp → Prop} (hp : H p = some (.lst (ns.map V.int))) (h0 : 0 ≤ k) (h1 : k < ns.length) (h : QH (upd H p (.lst ((ns.set k.toNat v).map V.int)))) : rSetL (.ref p) (.int k) (.int v) H QH :=
  ⟨p, _, k, k.toNat, rfl, rfl, hp, ixN_of h0 (by rw [List.length_map]; exact h1), by rw [List.map_set] at h; exact h⟩
theorem k_rep {p : Addr} {xs : List V} {k : Int} (hp : H p = some (.lst xs)) (h0 : 0 ≤ k) (h1 : k < 100000) (h2 : xs.length * k.toNat ≤ 100000) (h : ∀ l, H l = none → Q (.ref l) (upd H l (.lst (List.replicate k.toNat xs).flatten))) : rRep (.ref p) (.int k) H Q := ⟨p, k, xs, rfl, rfl, hp, by omega, by omega, sz h2, h⟩
theorem k_eqB {a b : Bool} (h : Q (.bl (decide (a = b))) H) : rEq (.bl a) (.bl b) H Q := ⟨rfl, by
  have e : decide (V.bl a = V.bl b) = decide (a = b) := by cases a <;> cases b <;> decide
  rw [e]; exact h⟩
theorem k_neB {a b : Bool} (h : Q (.bl (!decide (a = b))) H) : rNe (.bl a) (.bl b) H Q := ⟨rfl, by
  have e : decide (V.bl a = V.bl b) = decide (a = b) := by cases a <;> cases b <;> decide
  rw [e]; exact h⟩
/-- new objects, the heap behind as a letter -/
theorem k_newL {xs : List V} (hn : xs.length ≤ 100000) (h : ∀ p H', H p = none → Same H H' → H' p = some (.lst xs) → Q (.ref p) H') : xs.length ≤ sizeLine ∧ ∀ p, H p = none → Q (.ref p) (upd H p (.lst xs)) :=
  ⟨sz hn, fun p np => h p _ np (same_new np) upd_same⟩
theorem k_newT {xs : List V} (hn : xs.length ≤ 100000) (h : ∀ p H', H p = none → Same H H' → H' p = some (.tup xs) → Q (.ref p) H') : xs.length ≤ sizeLine ∧ ∀ p, H p = none → Q (.ref p) (upd H p (.tup xs)) :=
  ⟨sz hn, fun p np => h p _ np (same_new np) upd_same⟩
theorem k_listN {p : Addr} {ys : List V} (hs : SqL K H p ys) (h : ∀ l H', H l = none → Same H H' → H' l = some (.lst ys) → Q (.ref l) H') : rListOf K [.ref p] H Q := k_list hs fun l nl => h l _ nl (same_new nl) upd_same
theorem k_slL {a : Addr} {xs : List V} {lo hi : Option Int} (hs : SqL K H a xs) (h : ∀ p H', H p = none → Same H H' → H' p = some (.lst (cutV xs lo hi)) → Q (.ref p) H') : rSlL K (.ref a) lo hi H Q := ⟨a, xs, rfl, hs, fun p np => h p _ np (same_new np) upd_same⟩
theorem k_sl {r : V → Option Int → Option Int → Hp → VK → Prop} {tl th : TO} (h : te σ H fun x H1 => tl σ H1 fun l H2 => th σ H2 fun u H3 => r x l u H3 Q) : tSl r te tl th σ H Q := h
theorem k_nopart {QO : Option Int → Hp → Prop} (h : QO none H) : tNoPart σ H QO := h
theorem k_part {QO : Option Int → Hp → Prop} (h : te σ H fun x H1 => ∃ i, x = .int i ∧ QO (some i) H1) : tPart te σ H QO := h
theorem k_int {i : Int} {R : Int → Prop} (h : R i) : ∃ j, V.int i = .int j ∧ R j := ⟨i, rfl, h⟩
theorem rg_ints (a b : Int) : rgV a b = ((List.range (b - a).toNat).map fun i => a + (i : Nat)).map V.int := by
  unfold rgV; rw [List.map_map]; rfl
theorem k_listRg {tg : L2.St → Hp → (Int → Int → Hp → Prop) → Prop} (h : tg σ H fun a b H1 => RgOk a b ∧ ∀ q, H1 q = none → Q (.ref q) (upd H1 q (.lst (rgV a b)))) : tLstRg tg σ H Q := h
theorem k_rg1 {QR : Int → Int → Hp → Prop} (h : ta σ H fun x H1 => ∃ n, x = .int n ∧ QR 0 n H1) : tRg1 ta σ H QR := h
theorem k_rg2 {QR : Int → Int → Hp → Prop} (h : ta σ H fun x H1 => tb σ H1 fun y H2 => ∃ i j, x = .int i ∧ y = .int j ∧ QR i j H2) : tRg2 ta tb σ H QR := h
theorem k_int2 {i j : Int} {R : Int → Int → Prop} (h : R i j) : ∃ i' j', V.int i = .int i' ∧ V.int j = .int j' ∧ R i' j' := ⟨i, j, rfl, rfl, h⟩
theorem k_rgN {a b : Int} (hr : RgOk a b) (h : ∀ p H', H p = none → Same H H' → H' p = some (.lst (rgV a b)) → Q (.ref p) H') : RgOk a b ∧ ∀ q, H q = none → Q (.ref q) (upd H q (.lst (rgV a b))) := ⟨hr, fun q nq => h q _ nq (same_new nq) upd_same⟩
theorem dp_of_int {i j : Int} (e : i = j) : Dp K H (.int i) (.int j) := e ▸ .int i
end
/-! ### heaps with some places out of sight -/
def hid (S : List Addr) (H : Hp) : Hp := fun b => if b ∈ S then none else H b
theorem hid_ne {S : List Addr} {H : Hp} {b : Addr} (h : b ∉ S) : hid S H b = H b := if_neg h
theorem hid_in {S : List Addr} {H : Hp} {b : Addr} (h : b ∈ S) : hid S H b = none := if_pos h
theorem hid_some {S : List Addr} {H : Hp} {b : Addr} {o : HO} (h : hid S H b = some o) : b ∉ S ∧ H b = some o := by
  unfold hid at h
  split at h
  · cases h
  · exact ⟨by assumption, h⟩
theorem hid_same (S : List Addr) (H : Hp) : Same (hid S H) H := fun b o h => (hid_some h).2
theorem hid_mono {S : List Addr} {H H' : Hp} (e : Same H H') : Same (hid S H) (hid S H') := fun b o h => by
  obtain ⟨n, h⟩ := hid_some h
  rw [hid_ne n]
  exact e b o h
theorem hid_sub {S S' : List Addr} {H : Hp} (h : ∀ a ∈ S, a ∈ S') : Same (hid S' H) (hid S H) := fun b o e => by
  obtain ⟨n, e⟩ := hid_some e
  rw [hid_ne fun z => n (h b z)]
  exact e
/-- a change at a hidden place -/
theorem hid_upd {S : List Addr} {H : Hp} {p : Addr} {o : HO} (h : p ∈ S) : hid S (upd H p o) = hid S H := by
  funext b
  unfold hid
  split
  · rfl
  · rename_i n
    rw [upd_ne fun e => n (by rw [e]; exact h)]
theorem same_hid_upd {S : List Addr} {H0 H : Hp} {p : Addr} {o : HO} (e : Same H0 (hid S H)) (h : p ∈ S) : Same H0 (hid S (upd H p o)) := by rw [hid_upd h]; exact e
/-- what the law's data says stays when a fresh object is changed -/
theorem same_hid_mut {S : List Addr} {H0 H : Hp} {p : Addr} {o : HO} (e : Same H0 (hid S H)) (h : H0 p = none) : Same H0 (hid S (upd H p o)) := fun b u hb => by
  have := e b u hb
  obtain ⟨n, q⟩ := hid_some this
  rw [hid_ne n, upd_ne (ne_of_none hb h)]
  exact q
theorem hid_more {S S' : List Addr} {H H' : Hp} (e : Same (hid S H) (hid S H')) (h : ∀ a ∈ S, a ∈ S') : Same (hid S' H) (hid S' H') := fun b o hb => by
  obtain ⟨n, q⟩ := hid_some hb
  have n' : b ∉ S := fun z => n (h b z)
  have := e b o (by rw [hid_ne n']; exact q)
  rw [hid_ne n'] at this
  rw [hid_ne n]
  exact this
theorem same_hid_new {S : List Addr} {H : Hp} {p : Addr} {o : HO} (h : H p = none) : Same (hid S H) (hid S (upd H p o)) := hid_mono (same_new h)

theorem same_of_hid {S : List Addr} {H0 H1 H2 : Hp} (h : Same H0 H1) (f : ∀ a ∈ S, H0 a = none) (e : Same (hid S H1) (hid S H2)) : Same H0 H2 := fun b o hb => by
  have n : b ∉ S := fun z => by rw [f b z] at hb; cases hb
  have := e b o (by rw [hid_ne n]; exact h b o hb)
  rw [hid_ne n] at this
  exact this
theorem free1 {H0 : Hp} {p : Addr} (h : H0 p = none) : ∀ a ∈ [p], H0 a = none := fun a z => by rw [List.mem_singleton.mp z]; exact h
theorem cutTo {ns : List Int} (k : Nat) : cutV (ns.map V.int) none (some (k : Int)) = (ns.take k).map V.int := by
  unfold cutV
  rw [HT.sIx_none, HT.sIx_nat, List.drop_zero, List.length_map, Nat.sub_zero, List.map_take]
  by_cases h : k ≤ ns.length
  · rw [Nat.min_eq_left h]
  · rw [Nat.min_eq_right (by omega), List.take_of_length_le (by simp), List.take_of_length_le (by simp; omega)]
/-! ### the law's purse: a list of the cells and the turn -/
structure Pu (H : Hp) (pu ce : Addr) (n : Nat) (t : Int) : Prop where
  hp : H pu = some (.lst [.ref ce, .int t])
  hc : ∃ cs : List Int, cs.length = n ∧ H ce = some (.lst (cs.map V.int))
  n0 : 0 < n
  n1 : n ≤ 63
  t0 : 0 ≤ t
theorem Pu.ne {H : Hp} {pu ce : Addr} {n : Nat} {t : Int} (h : Pu H pu ce n t) : pu ≠ ce := fun e => by
  obtain ⟨cs, hl, hc⟩ := h.hc
  have hp := h.hp
  rw [e, hc] at hp
  cases cs with
  | nil => injection hp with hp; injection hp with hp; cases hp
  | cons x r => injection hp with hp; injection hp with hp; injection hp with h1 h2; cases h1
theorem Pu.fresh {H : Hp} {pu ce : Addr} {n : Nat} {t : Int} (h : Pu H pu ce n t) {p : Addr} (np : H p = none) : p ∉ [pu, ce] := fun z => by
  obtain ⟨cs, hl, hc⟩ := h.hc
  rcases List.mem_cons.mp z with rfl | z
  · rw [h.hp] at np; cases np
  · rcases List.mem_cons.mp z with rfl | z
    · rw [hc] at np; cases np
    · cases z
theorem Pu.upd {H : Hp} {pu ce : Addr} {n : Nat} {t : Int} (h : Pu H pu ce n t) {p : Addr} {o : HO} (np : p ∉ [pu, ce]) : Pu (upd H p o) pu ce n t := by
  have h1 : pu ≠ p := fun e => np (by rw [e]; exact List.mem_cons_self)
  have h2 : ce ≠ p := fun e => np (by rw [e]; exact List.mem_cons_of_mem _ List.mem_cons_self)
  obtain ⟨cs, hl, hc⟩ := h.hc
  exact ⟨by rw [upd_ne h1]; exact h.hp, ⟨cs, hl, by rw [upd_ne h2]; exact hc⟩, h.n0, h.n1, h.t0⟩
theorem Pu.same {H H' : Hp} {pu ce : Addr} {n : Nat} {t : Int} (h : Pu H pu ce n t) (e : Same H H') : Pu H' pu ce n t := by
  obtain ⟨cs, hl, hc⟩ := h.hc
  exact ⟨e _ _ h.hp, ⟨cs, hl, e _ _ hc⟩, h.n0, h.n1, h.t0⟩
/-- an object that is none of the purse's stays as it is -/
theorem keeps {S : List Addr} {H H' : Hp} (e : Same (hid S H) (hid S H')) {b : Addr} {o : HO} (hb : H b = some o) (n : b ∉ S) : H' b = some o := by
  have := e b o (by rw [hid_ne n]; exact hb)
  rw [hid_ne n] at this
  exact this
theorem fresh_hid {S : List Addr} {H H' : Hp} (e : Same (hid S H) (hid S H')) {b : Addr} (hb : H' b = none) (n : b ∉ S) : H b = none := by
  have := e.free (l := b) (by rw [hid_ne n]; exact hb)
  rw [hid_ne n] at this
  exact this
theorem getD_set_len {α : Type} (l : List α) (i : Nat) (v : α) : (l.set i v).length = l.length := List.length_set
theorem map_set_int (cs : List Int) (i : Nat) (v : Int) : (cs.map V.int).set i (.int v) = (cs.set i v).map V.int := by rw [List.map_set]

/-! ### the law's other purse: [a number, a mark, how many were drawn] -/
structure Le (H : Hp) (pu : Addr) (k : Int) : Prop where
  hp : ∃ x f : Int, H pu = some (.lst [.int x, .int f, .int k]) ∧ (f = 0 → 0 ≤ x ∧ x < 2147483629)
  k0 : 0 ≤ k
theorem Le.fresh {H : Hp} {pu : Addr} {k : Int} (h : Le H pu k) {p : Addr} (np : H p = none) : p ∉ [pu] := fun z => by
  obtain ⟨x, f, hp, _⟩ := h.hp
  rw [List.mem_singleton.mp z, hp] at np
  cases np
theorem Le.upd {H : Hp} {pu : Addr} {k : Int} (h : Le H pu k) {p : Addr} {o : HO} (np : p ∉ [pu]) : Le (upd H p o) pu k := by
  obtain ⟨x, f, hp, hx⟩ := h.hp
  exact ⟨⟨x, f, by rw [upd_ne fun e => np (by rw [e]; exact List.mem_singleton.mpr rfl)]; exact hp, hx⟩, h.k0⟩
theorem Le.same {H H' : Hp} {pu : Addr} {k : Int} (h : Le H pu k) (e : Same H H') : Le H' pu k := by
  obtain ⟨x, f, hp, hx⟩ := h.hp
  exact ⟨⟨x, f, e _ _ hp, hx⟩, h.k0⟩

/-! ### comprehensions whose block leaves the heap as it is -/
section
variable {K : PySem.W.Frag} {σ : L2.St} {H1 : Hp} {Q : VK} {g : TG} {tt : TT} {te : TE} {vs : List Nat}
theorem k_lc {wi : TI} (h : wi σ H1 fun J H1 => ∀ D, H1 D = none → ∃ W : Nat → Nat → Hp → Prop, (∃ m, W 0 m (upd H1 D (.lst []))) ∧ ∀ i m H, W i m H →
  (J.stop i H ∧ Q (.ref D) H) ∨ (J.go i H ∧ ∃ Nx : Hp → Prop, (∀ H', Nx H' → ∃ m', m' < m ∧ W (i + 1) m' H') ∧ ∀ x H', J.yld i H x H' → g x (wipe σ vs) H' fun σ2 H2 => wipe σ2 vs = wipe σ vs ∧ tt σ2 H2 fun b H3 =>
    if b = true then te σ2 H3 fun y H4 => ∃ acc, H4 D = some (.lst acc) ∧ acc.length < sizeLine ∧ Nx (upd H4 D (.lst (acc ++ [y]))) else Nx H3)) : tLc wi g tt te vs σ H1 Q := h
theorem k_wipe {σ' : L2.St} {R : Prop} (e : wipe σ' vs = wipe σ vs) (h : R) : wipe σ' vs = wipe σ vs ∧ R := ⟨e, h⟩
theorem k_yes {QT : Bool → Hp → Prop} (h : QT true H1) : tYes σ H1 QT := h
theorem take_filterMap {α β : Type} {f : α → Option β} {ps : List α} {i : Nat} {p : α} (h : ps[i]? = some p) : (ps.take (i + 1)).filterMap f = (ps.take i).filterMap f ++ (f p).toList := by
  rw [List.take_add_one, h, List.filterMap_append]
  simp [List.filterMap_cons]
  cases f p <;> rfl
/-- over a list of which ps tells the items -/
theorem lc_pure {QD : Addr → Hp → Prop} {α : Type} {a : Addr} {xs : List V} (hs : SqL K H1 a xs) (ps : List α) (hl : xs.length = ps.length) (hz : ps.length ≤ 50000) (f : α → Option V)
    (step : ∀ (i : Nat) x p H', xs[i]? = some x → ps[i]? = some p → Same H1 H' → ∀ (R : V → Hp → Prop) (R0 : Hp → Prop), (∀ y, f p = some y → R y H') → (f p = none → R0 H') →
      g x (wipe σ vs) H' fun σ2 H2 => wipe σ2 vs = wipe σ vs ∧ tt σ2 H2 fun b H3 => if b = true then te σ2 H3 R else R0 H3)
    (h : ∀ D H', H1 D = none → Same H1 H' → H' D = some (.lst (ps.filterMap f)) → QD D H') :
    ∃ a', V.ref a = .ref a' ∧ (∃ xs, SqL K H1 a' xs) ∧ ∀ D, H1 D = none → ∃ W : Nat → Nat → Hp → Prop, (∃ m, W 0 m (upd H1 D (.lst []))) ∧ ∀ i m H, W i m H →
      ((Itl K a').stop i H ∧ QD D H) ∨ ((Itl K a').go i H ∧ ∃ Nx : Hp → Prop, (∀ H', Nx H' → ∃ m', m' < m ∧ W (i + 1) m' H') ∧ ∀ x H', (Itl K a').yld i H x H' → g x (wipe σ vs) H' fun σ2 H2 => wipe σ2 vs = wipe σ vs ∧ tt σ2 H2 fun b H3 =>
        if b = true then te σ2 H3 fun y H4 => ∃ acc, H4 D = some (.lst acc) ∧ acc.length < sizeLine ∧ Nx (upd H4 D (.lst (acc ++ [y]))) else Nx H3) := by
  refine ⟨a, rfl, ⟨xs, hs⟩, fun D nD => lc_list (xs := xs) (fun i H => Same H1 H ∧ H D = some (.lst ((ps.take i).filterMap f))) ⟨same_new nD, by rw [upd_same]; simp⟩ (fun i H _ e => e.1.seq hs) ?_ ?_⟩
  · rintro i x H hx ⟨sm, hD⟩
    have hi : i < xs.length := (List.getElem?_eq_some_iff.mp hx).1
    obtain ⟨p, hp⟩ : ∃ p, ps[i]? = some p := ⟨ps[i]'(by omega), List.getElem?_eq_getElem (by omega)⟩
    have tk := take_filterMap (f := f) hp
    refine step i x p H hx hp sm _ _ (fun y hy => ⟨_, hD, szl ?_, same_mut sm nD, ?_⟩) (fun hn => ⟨sm, ?_⟩)
    · have := List.length_filterMap_le f (ps.take i)
      rw [List.length_take] at this
      omega
    · rw [upd_same, tk, hy]; rfl
    · rw [tk, hn, hD]; simp
  · rintro H ⟨sm, hD⟩
    rw [hl, List.take_length] at hD
    exact h D H nD sm hD
/-- the same where a turn may make new objects -/
theorem lc_grow {QD : Addr → Hp → Prop} {α : Type} {a : Addr} {xs : List V} (hs : SqL K H1 a xs) (ps : List α) (hl : xs.length = ps.length) (hz : ps.length ≤ 50000) (f : α → Option V)
    (step : ∀ (i : Nat) x p H', xs[i]? = some x → ps[i]? = some p → Same H1 H' → ∀ (R : V → Hp → Prop) (R0 : Hp → Prop), (∀ y H'', f p = some y → Same H' H'' → R y H'') → (∀ H'', f p = none → Same H' H'' → R0 H'') →
      g x (wipe σ vs) H' fun σ2 H2 => wipe σ2 vs = wipe σ vs ∧ tt σ2 H2 fun b H3 => if b = true then te σ2 H3 R else R0 H3)
    (h : ∀ D H', H1 D = none → Same H1 H' → H' D = some (.lst (ps.filterMap f)) → QD D H') :
    ∃ a', V.ref a = .ref a' ∧ (∃ xs, SqL K H1 a' xs) ∧ ∀ D, H1 D = none → ∃ W : Nat → Nat → Hp → Prop, (∃ m, W 0 m (upd H1 D (.lst []))) ∧ ∀ i m H, W i m H →
      ((Itl K a').stop i H ∧ QD D H) ∨ ((Itl K a').go i H ∧ ∃ Nx : Hp → Prop, (∀ H', Nx H' → ∃ m', m' < m ∧ W (i + 1) m' H') ∧ ∀ x H', (Itl K a').yld i H x H' → g x (wipe σ vs) H' fun σ2 H2 => wipe σ2 vs = wipe σ vs ∧ tt σ2 H2 fun b H3 =>
        if b = true then te σ2 H3 fun y H4 => ∃ acc, H4 D = some (.lst acc) ∧ acc.length < sizeLine ∧ Nx (upd H4 D (.lst (acc ++ [y]))) else Nx H3) := by
  refine ⟨a, rfl, ⟨xs, hs⟩, fun D nD => lc_list (xs := xs) (fun i H => Same H1 H ∧ H D = some (.lst ((ps.take i).filterMap f))) ⟨same_new nD, by rw [upd_same]; simp⟩ (fun i H _ e => e.1.seq hs) ?_ ?_⟩
  · rintro i x H hx ⟨sm, hD⟩
    have hi : i < xs.length := (List.getElem?_eq_some_iff.mp hx).1
    obtain ⟨p, hp⟩ : ∃ p, ps[i]? = some p := ⟨ps[i]'(by omega), List.getElem?_eq_getElem (by omega)⟩
    have tk := take_filterMap (f := f) hp
    refine step i x p H hx hp sm _ _ (fun y H'' hy s2 => ⟨_, s2 _ _ hD, szl ?_, same_mut (sm.trans s2) nD, ?_⟩) (fun H'' hn s2 => ⟨sm.trans s2, ?_⟩)
    · have := List.length_filterMap_le f (ps.take i)
      rw [List.length_take] at this
      omega
    · rw [upd_same, tk, hy]; rfl
    · rw [tk, hn, s2 _ _ hD]; simp
  · rintro H ⟨sm, hD⟩
    rw [hl, List.take_length] at hD
    exact h D H nD sm hD
theorem range_take {n i : Nat} (h : i < n) : (List.range n)[i]? = some i := by simp [h]
/-- over a range -/
theorem lc_pureR {QD : Addr → Hp → Prop} {lo : Int} {n : Nat} (hz : n ≤ 50000) (f : Nat → Option V)
    (step : ∀ (i : Nat) H', i < n → Same H1 H' → ∀ (R : V → Hp → Prop) (R0 : Hp → Prop), (∀ y, f i = some y → R y H') → (f i = none → R0 H') →
      g (.int (lo + (i : Nat))) (wipe σ vs) H' fun σ2 H2 => wipe σ2 vs = wipe σ vs ∧ tt σ2 H2 fun b H3 => if b = true then te σ2 H3 R else R0 H3)
    (h : ∀ D H', H1 D = none → Same H1 H' → H' D = some (.lst ((List.range n).filterMap f)) → QD D H') :
    ∀ D, H1 D = none → ∃ W : Nat → Nat → Hp → Prop, (∃ m, W 0 m (upd H1 D (.lst []))) ∧ ∀ i m H, W i m H →
      ((Itr lo n).stop i H ∧ QD D H) ∨ ((Itr lo n).go i H ∧ ∃ Nx : Hp → Prop, (∀ H', Nx H' → ∃ m', m' < m ∧ W (i + 1) m' H') ∧ ∀ x H', (Itr lo n).yld i H x H' → g x (wipe σ vs) H' fun σ2 H2 => wipe σ2 vs = wipe σ vs ∧ tt σ2 H2 fun b H3 =>
        if b = true then te σ2 H3 fun y H4 => ∃ acc, H4 D = some (.lst acc) ∧ acc.length < sizeLine ∧ Nx (upd H4 D (.lst (acc ++ [y]))) else Nx H3) := by
  refine fun D nD => lc_range (fun i H => Same H1 H ∧ H D = some (.lst (((List.range n).take i).filterMap f))) ⟨same_new nD, by rw [upd_same]; simp⟩ ?_ ?_
  · rintro i H hi ⟨sm, hD⟩
    have tk := take_filterMap (f := f) (range_take hi)
    refine step i H hi sm _ _ (fun y hy => ⟨_, hD, szl ?_, same_mut sm nD, ?_⟩) (fun hn => ⟨sm, ?_⟩)
    · have := List.length_filterMap_le f ((List.range n).take i)
      rw [List.length_take, List.length_range] at this
      omega
    · rw [upd_same, tk, hy]; rfl
    · rw [tk, hn, hD]; simp
  · rintro H ⟨sm, hD⟩
    rw [List.take_of_length_le (by simp)] at hD
    exact h D H nD sm hD
end
/-! ### min, max of a pair -/
def rMinT (K : PySem.W.Frag) : List V → Hp → VK → Prop := fun xs H Q => ∃ (p : Addr) (a b : Int), xs = [.ref p] ∧ SqT K H p [.int a, .int b] ∧ Q (.int (min a b)) H
def rMaxT (K : PySem.W.Frag) : List V → Hp → VK → Prop := fun xs H Q => ∃ (p : Addr) (a b : Int), xs = [.ref p] ∧ SqT K H p [.int a, .int b] ∧ Q (.int (max a b)) H
theorem reads_int {h : Heap} {v : Value} {n : Int} {as : List Addr} (r : Reads h v (.int n) as) : ∃ t, v = .int n t := by
  cases r; exact ⟨_, rfl⟩
theorem alike2 (a b : Int) : PySem.W.AlikeAll [.int a, .int b] := by
  refine ⟨fun x hx y hy => ?_, fun x hx => ?_⟩
  · simp only [List.mem_cons, List.not_mem_nil, or_false] at hx hy
    rcases hx with rfl | rfl <;> rcases hy with rfl | rfl <;> rfl
  · simp only [List.mem_cons, List.not_mem_nil, or_false] at hx
    rcases hx with rfl | rfl <;> (intro z; cases z)
theorem q_minT {X : Cx} (hc : X.calm = true) (hu : X.A.units + 64 < cLine) : CallR X (.builtin "min") (rMinT X.K) := by
  intro pins s σ H vs us Q I r h
  obtain ⟨p, a, b, rfl, hs, q⟩ := h
  obtain ⟨its, rv, hl, _⟩ := I.tuple hs
  rw [Vals.ref1 r]
  have ri : IntsAre its [a, b] := Vals.ints (ns := [a, b]) rv
  refine PySem.W.min_tuple_data (x := .int a) (xs := [.int b]) (as := []) (I.ok.hd hc) hl (ri.reads _) (alike2 a b) ?_ fun i v h' tk bs hi rd hk => ?_
  · have : PyData.depthAll [.int a, .int b] = 0 := rfl
    omega
  · rw [show PySem.W.minD (.int a) [.int b] = .int (min a b) from PySem.W.minD_ints a [b]] at rd
    obtain ⟨t, rfl⟩ := reads_int rd
    exact ⟨.int _, H, I.kept hk, ⟨_, rfl⟩, q⟩
theorem q_maxT {X : Cx} (hc : X.calm = true) (hu : X.A.units + 64 < cLine) : CallR X (.builtin "max") (rMaxT X.K) := by
  intro pins s σ H vs us Q I r h
  obtain ⟨p, a, b, rfl, hs, q⟩ := h
  obtain ⟨its, rv, hl, _⟩ := I.tuple hs
  rw [Vals.ref1 r]
  have ri : IntsAre its [a, b] := Vals.ints (ns := [a, b]) rv
  refine PySem.W.max_tuple_data (x := .int a) (xs := [.int b]) (as := []) (I.ok.hd hc) hl (ri.reads _) (alike2 a b) ?_ fun i v h' tk bs hi rd hk => ?_
  · have : PyData.depthAll [.int a, .int b] = 0 := rfl
    omega
  · rw [show PySem.W.maxD (.int a) [.int b] = .int (max a b) from PySem.W.maxD_ints a [b]] at rd
    obtain ⟨t, rfl⟩ := reads_int rd
    exact ⟨.int _, H, I.kept hk, ⟨_, rfl⟩, q⟩
theorem k_minT {K : PySem.W.Frag} {H : Hp} {Q : VK} {p : Addr} {a b : Int} (hs : SqT K H p [.int a, .int b]) (h : Q (.int (min a b)) H) : rMinT K [.ref p] H Q := ⟨p, a, b, rfl, hs, h⟩
theorem k_maxT {K : PySem.W.Frag} {H : Hp} {Q : VK} {p : Addr} {a b : Int} (hs : SqT K H p [.int a, .int b]) (h : Q (.int (max a b)) H) : rMaxT K [.ref p] H Q := ⟨p, a, b, rfl, hs, h⟩
end Cm

namespace Cm
open PySem PySem.Spec PyProof.Rows L2
/-! ### steps of a reading, found by instances -/
class Stp (p : Prop) (q : outParam Prop) : Prop where
  run : q → p
class Stps (p : Prop) (q : outParam Prop) : Prop where
  run : q → p
class Stps1 (p : Prop) (q : outParam Prop) : Prop where
  run : q → p
instance (priority := low) stps_nil {p : Prop} : Stps p p := ⟨id⟩
instance (priority := high) stps_cons {p q r : Prop} [a : Stp p q] [b : Stps q r] : Stps p r := ⟨fun h => a.run (b.run h)⟩
instance stps_one {p q r : Prop} [a : Stp p q] [b : Stps q r] : Stps1 p r := ⟨fun h => a.run (b.run h)⟩
theorem go {p q : Prop} [a : Stps1 p q] (h : q) : p := a.run h
class Slot (σ : L2.St) (i : Nat) (v : outParam V) : Prop where
  get : σ[i]? = some (some v)
instance {v : V} {r : L2.St} : Slot (some v :: r) 0 v := ⟨rfl⟩
instance {x : Option V} {v : V} {r : L2.St} {i : Nat} [a : Slot r i v] : Slot (x :: r) (i + 1) v := ⟨a.get⟩
class Put (σ : L2.St) (i : Nat) (v : Option V) (σ' : outParam L2.St) : Prop where
  eq : σ.set i v = σ'
instance {x v : Option V} {r : L2.St} : Put (x :: r) 0 v (v :: r) := ⟨rfl⟩
instance {x v : Option V} {r r' : L2.St} {i : Nat} [a : Put r i v r'] : Put (x :: r) (i + 1) v (x :: r') := ⟨by rw [List.set_cons_succ, a.eq]⟩
instance {σ σ0 σ' : L2.St} {j : Nat} {w : Option V} {i : Nat} {v : Option V} [a : Put σ j w σ0] [b : Put σ0 i v σ'] : Put (List.set σ j w) i v σ' := ⟨by rw [a.eq, b.eq]⟩
instance {σ σ0 : L2.St} {j : Nat} {w : Option V} {i : Nat} {v : V} [a : Put σ j w σ0] [b : Slot σ0 i v] : Slot (List.set σ j w) i v := ⟨by rw [a.eq, b.get]⟩
class Wip (σ : L2.St) (vs : List Nat) (σ' : outParam L2.St) : Prop where
  eq : wipe σ vs = σ'
instance {σ : L2.St} : Wip σ [] σ := ⟨rfl⟩
instance {σ σ' σ'' : L2.St} {i : Nat} {vs : List Nat} [b : Wip σ vs σ'] [a : Put σ' i none σ''] : Wip σ (i :: vs) σ'' := ⟨by
  show (wipe σ vs).set i none = σ''
  rw [b.eq, a.eq]⟩
instance {σ σ0 σ' : L2.St} {vs : List Nat} {i : Nat} {v : Option V} [a : Wip σ vs σ0] [b : Put σ0 i v σ'] : Put (wipe σ vs) i v σ' := ⟨by rw [a.eq, b.eq]⟩
/-- a new list, a new tuple -/
def newL (xs : List V) (H : Hp) (Q : VK) : Prop := xs.length ≤ sizeLine ∧ ∀ p, H p = none → Q (.ref p) (upd H p (.lst xs))
def newT (xs : List V) (H : Hp) (Q : VK) : Prop := xs.length ≤ sizeLine ∧ ∀ p, H p = none → Q (.ref p) (upd H p (.tup xs))
def newR (a b : Int) (H : Hp) (Q : VK) : Prop := RgOk a b ∧ ∀ q, H q = none → Q (.ref q) (upd H q (.lst (rgV a b)))
theorem kL {xs : List V} {H : Hp} {Q : VK} (hn : xs.length ≤ 100000) (h : ∀ p H', H p = none → Same H H' → H' p = some (.lst xs) → Q (.ref p) H') : newL xs H Q := ⟨sz hn, fun p np => h p _ np (same_new np) upd_same⟩
theorem kT {xs : List V} {H : Hp} {Q : VK} (hn : xs.length ≤ 100000) (h : ∀ p H', H p = none → Same H H' → H' p = some (.tup xs) → Q (.ref p) H') : newT xs H Q := ⟨sz hn, fun p np => h p _ np (same_new np) upd_same⟩
theorem kR {a b : Int} {H : Hp} {Q : VK} (hr : RgOk a b) (h : ∀ p H', H p = none → Same H H' → H' p = some (.lst (rgV a b)) → Q (.ref p) H') : newR a b H Q := ⟨hr, fun q nq => h q _ nq (same_new nq) upd_same⟩
section
variable {K : PySem.W.Frag} {σ σ' : L2.St} {H : Hp} {D : Ends} {Q : VK} {ta tb tc te to ti : TE} {t u : TT} {s1 s2 : TS} {QT : Bool → Hp → Prop} {QA : List V → Hp → Prop} {tr : TA} {QS : L2.St → Hp → Prop} {nx bk ct : L2.St → Hp → Prop} {rt : VK} {g : TG} {gs : TGs} {i j : Nat} {v w : V} {a b : Int} {wi : TI} {tS : TS}
instance : Stp (tSeq s1 s2 ⟨nx, rt, bk, ct⟩ σ H) (s1 ⟨s2 ⟨nx, rt, bk, ct⟩, rt, bk, ct⟩ σ H) := ⟨k_seq⟩
instance : Stp (tNext ⟨nx, rt, bk, ct⟩ σ H) (nx σ H) := ⟨k_next⟩
instance : Stp (tCont ⟨nx, rt, bk, ct⟩ σ H) (ct σ H) := ⟨k_cont⟩
instance : Stp (tBreak ⟨nx, rt, bk, ct⟩ σ H) (bk σ H) := ⟨k_brk⟩
instance : Stp (tAsg te g ⟨nx, rt, bk, ct⟩ σ H) (te σ H fun x H1 => g x σ H1 nx) := ⟨k_asg⟩
instance : Stp (tDrop te ⟨nx, rt, bk, ct⟩ σ H) (te σ H fun _ H1 => nx σ H1) := ⟨k_drop⟩
instance : Stp (tRet te ⟨nx, rt, bk, ct⟩ σ H) (te σ H rt) := ⟨k_ret⟩
instance : Stp (tRetN ⟨nx, rt, bk, ct⟩ σ H) (rt .non H) := ⟨k_retN⟩
instance {f : Int → Int → Int} [e : Slot σ i (.int a)] : Stp (tAug i te (ipI f) ⟨nx, rt, bk, ct⟩ σ H) (te σ H fun y H1 => ipI f (.int a) y H1 fun z H2 => gName i z σ H2 nx) := ⟨fun h => k_aug e.get h⟩
instance {f : Int → Int → Int} : Stp (ipI f (.int a) (.int b) H Q) (Q (.int (f a b)) H) := ⟨k_ipI⟩
instance : Stp (xAugL K to ti te ⟨nx, rt, bk, ct⟩ σ H) (to σ H fun o H1 => ti σ H1 fun i H2 => rGetL K o i H2 fun x H3 => te σ H3 fun y H4 => ipI (fun i j => i + j) x y H4 fun z H5 => rSetL o i z H5 fun H6 => nx σ H6) := ⟨k_augL⟩
instance : Stp (tIfS t s1 s2 D σ H) (t σ H fun b H1 => if b = true then s1 D σ H1 else s2 D σ H1) := ⟨k_if⟩
instance [e : Slot σ i v] : Stp (tVar i σ H Q) (Q v H) := ⟨fun h => k_var e.get h⟩
instance : Stp (tC v σ H Q) (Q v H) := ⟨k_c⟩
instance {r : R2} : Stp (tOp r ta tb σ H Q) (ta σ H fun x H1 => tb σ H1 fun y H2 => r x y H2 Q) := ⟨k_op⟩
instance {r : V → Hp → VK → Prop} : Stp (tUn r ta σ H Q) (ta σ H fun x H1 => r x H1 Q) := ⟨k_un⟩
instance : Stp (xAdd (.int a) (.int b) H Q) (Q (.int (a + b)) H) := ⟨k_add⟩
instance : Stp (xSub (.int a) (.int b) H Q) (Q (.int (a - b)) H) := ⟨k_sub⟩
instance : Stp (xLt (.int a) (.int b) H Q) (Q (.bl (decide (a < b))) H) := ⟨k_lt⟩
instance : Stp (xLe (.int a) (.int b) H Q) (Q (.bl (decide (a ≤ b))) H) := ⟨k_le⟩
instance : Stp (xGt (.int a) (.int b) H Q) (Q (.bl (decide (b < a))) H) := ⟨k_gt⟩
instance : Stp (xGe (.int a) (.int b) H Q) (Q (.bl (decide (b ≤ a))) H) := ⟨k_ge⟩
instance : Stp (xNeg (.int a) H Q) (Q (.int (-a)) H) := ⟨k_neg⟩
instance : Stp (rEq (.int a) (.int b) H Q) (Q (.bl (decide (a = b))) H) := ⟨k_eqI⟩
instance : Stp (rNe (.int a) (.int b) H Q) (Q (.bl (!decide (a = b))) H) := ⟨k_neI⟩
instance {a b : Bool} : Stp (rEq (.bl a) (.bl b) H Q) (Q (.bl (decide (a = b))) H) := ⟨k_eqB⟩
instance {a b : Bool} : Stp (rNe (.bl a) (.bl b) H Q) (Q (.bl (!decide (a = b))) H) := ⟨k_neB⟩
theorem k_eqNN (h : Q (.bl true) H) : rEq .non .non H Q := ⟨rfl, h⟩
theorem k_isN0 (h : Q (.bl true) H) : xIsN .non .non H Q := ⟨rfl, h⟩
theorem k_isNr {p : Addr} (h : Q (.bl false) H) : xIsN (.ref p) .non H Q := ⟨rfl, by rw [decide_eq_false (by intro z; cases z)]; exact h⟩
theorem k_isNi (h : Q (.bl false) H) : xIsN (.int a) .non H Q := ⟨rfl, by rw [decide_eq_false (by intro z; cases z)]; exact h⟩
theorem k_notN0 (h : Q (.bl false) H) : xNotN .non .non H Q := ⟨rfl, h⟩
theorem k_notNr {p : Addr} (h : Q (.bl true) H) : xNotN (.ref p) .non H Q := ⟨rfl, by rw [decide_eq_false (by intro z; cases z)]; exact h⟩
theorem k_notNi (h : Q (.bl true) H) : xNotN (.int a) .non H Q := ⟨rfl, by rw [decide_eq_false (by intro z; cases z)]; exact h⟩
instance : Stp (xIsN .non .non H Q) (Q (.bl true) H) := ⟨k_isN0⟩
instance {p : Addr} : Stp (xIsN (.ref p) .non H Q) (Q (.bl false) H) := ⟨k_isNr⟩
instance : Stp (xIsN (.int a) .non H Q) (Q (.bl false) H) := ⟨k_isNi⟩
instance : Stp (xNotN .non .non H Q) (Q (.bl false) H) := ⟨k_notN0⟩
instance {p : Addr} : Stp (xNotN (.ref p) .non H Q) (Q (.bl true) H) := ⟨k_notNr⟩
instance : Stp (xNotN (.int a) .non H Q) (Q (.bl true) H) := ⟨k_notNi⟩
instance : Stp (tTest te σ H QT) (te σ H fun x H1 => ∃ k, x = .bl k ∧ QT k H1) := ⟨k_test⟩
instance : Stp (tB te σ H QT) (te σ H fun x H1 => ∃ k, x = .bl k ∧ QT k H1) := ⟨k_B⟩
instance {b : Bool} {R : Bool → Prop} : Stp (∃ k, V.bl b = .bl k ∧ R k) (R b) := ⟨k_bl⟩
instance {R : Int → Prop} : Stp (∃ j, V.int a = .int j ∧ R j) (R a) := ⟨k_int⟩
instance {R : Int → Int → Prop} : Stp (∃ i' j', V.int a = .int i' ∧ V.int b = .int j' ∧ R i' j') (R a b) := ⟨k_int2⟩
instance : Stp (tAnd t u σ H QT) (t σ H fun c H1 => if c = true then u σ H1 QT else QT false H1) := ⟨k_and⟩
instance : Stp (tOr t u σ H QT) (t σ H fun c H1 => if c = true then QT true H1 else u σ H1 QT) := ⟨k_or⟩
instance : Stp (tNot t σ H QT) (t σ H fun c H1 => QT (!c) H1) := ⟨k_not⟩
instance : Stp (tNotV ta σ H Q) (ta σ H fun x H1 => ∃ c, x = .bl c ∧ Q (.bl (!c)) H1) := ⟨k_notV⟩
instance : Stp (tAndV ta tb σ H Q) (ta σ H fun x H1 => ∃ c, x = .bl c ∧ if c = true then tb σ H1 Q else Q (.bl false) H1) := ⟨k_andV⟩
instance : Stp (tOrV ta tb σ H Q) (ta σ H fun x H1 => ∃ c, x = .bl c ∧ if c = true then Q (.bl true) H1 else tb σ H1 Q) := ⟨k_orV⟩
instance {r : List V → Hp → VK → Prop} : Stp (tCB r tr σ H Q) (tr σ H fun vs H1 => r vs H1 Q) := ⟨k_cb⟩
instance : Stp (tNil σ H QA) (QA [] H) := ⟨k_nil⟩
instance : Stp (tCons ta tr σ H QA) (ta σ H fun x H1 => tr σ H1 fun xs H2 => QA (x :: xs) H2) := ⟨k_cons⟩
instance {sp : Sp} {E : XK} : Stp (tCall sp [] E tr σ H Q) (tr σ H fun vs H1 => sp vs H1 Q E) := ⟨fun h => k_call (by simpa only [List.append_nil] using h)⟩
instance : Stp (tLst tr σ H Q) (tr σ H fun xs H1 => newL xs H1 Q) := ⟨k_lst⟩
instance : Stp (tTup tr σ H Q) (tr σ H fun xs H1 => newT xs H1 Q) := ⟨k_tup⟩
instance {r : List V} : Stp (gCons g gs (v :: r) σ H QS) (g v σ H fun σ' H' => gs r σ' H' QS) := ⟨k_gcons⟩
instance : Stp (gNil [] σ H QS) (QS σ H) := ⟨k_gnil⟩
instance [e : Put σ i (some v) σ'] : Stp (gName i v σ H QS) (QS σ' H) := ⟨fun h => k_gname (by rw [e.eq]; exact h)⟩
instance {ts : TSet} : Stp (gSub to ti ts v σ H QS) (to σ H fun o H1 => ti σ H1 fun i H2 => ts o i v H2 fun H3 => QS σ H3) := ⟨k_gsub⟩
instance : Stp (rMax2 [.int a, .int b] H Q) (Q (.int (if b > a then b else a)) H) := ⟨k_max2⟩
instance : Stp (rMin2 [.int a, .int b] H Q) (Q (.int (if b < a then b else a)) H) := ⟨k_min2⟩
instance {T : String} {r : V → List V → Hp → VK → Prop} : Stp (tBM K T r ta tr σ H Q) (ta σ H fun x H1 => tyV K T x H1 ∧ tr σ H1 fun xs H2 => r x xs H2 Q) := ⟨k_bm⟩
instance {T : String} {r : V → List V → Hp → VK → Prop} : Stp (tBM0 K T r ta σ H Q) (ta σ H fun x H1 => tyV K T x H1 ∧ r x [] H1 Q) := ⟨k_bm0⟩
instance {A B : Prop} {i : Decidable (true = true)} : Stp (@ite Prop (true = true) i A B) A := ⟨fun h => by rw [if_pos rfl]; exact h⟩
instance {A B : Prop} {i : Decidable (false = true)} : Stp (@ite Prop (false = true) i A B) B := ⟨fun h => by rw [if_neg (by simp)]; exact h⟩
instance {A B : Prop} {i : Decidable ((!true) = true)} : Stp (@ite Prop ((!true) = true) i A B) B := ⟨fun h => by rw [if_neg (by simp)]; exact h⟩
instance {A B : Prop} {i : Decidable ((!false) = true)} : Stp (@ite Prop ((!false) = true) i A B) A := ⟨fun h => by rw [if_pos (by simp)]; exact h⟩
instance : Stp (tFor wi g tS ⟨nx, rt, bk, ct⟩ σ H) (wi σ H fun J H1 => ∃ W : Nat → Nat → L2.St → Hp → Prop, (∃ m, W 0 m σ H1) ∧ ∀ i m σ H, W i m σ H →
  (J.stop i H ∧ nx σ H) ∨ (J.go i H ∧ ∃ N : L2.St → Hp → Prop, (∀ σ' H', N σ' H' → ∃ m', m' < m ∧ W (i + 1) m' σ' H') ∧ ∀ x H', J.yld i H x H' → g x σ H' fun σ2 H2 => tS ⟨N, rt, nx, N⟩ σ2 H2)) := ⟨k_for⟩
instance {R : It → Hp → Prop} : Stp (iList K te σ H R) (te σ H fun x H1 => ∃ a, x = .ref a ∧ (∃ xs, SqL K H1 a xs) ∧ R (Itl K a) H1) := ⟨k_iList⟩
instance {R : It → Hp → Prop} : Stp (iTup K te σ H R) (te σ H fun x H1 => ∃ a, x = .ref a ∧ (∃ xs, SqT K H1 a xs) ∧ R (Itt K a) H1) := ⟨k_iTup⟩
instance {R : It → Hp → Prop} : Stp (iZip K tr σ H R) (tr σ H fun vs H1 => ∃ a b xs ys, vs = [.ref a, .ref b] ∧ SqL K H1 a xs ∧ SqL K H1 b ys ∧ R (Itz K a b) H1) := ⟨k_iZip⟩
instance {R : It → Hp → Prop} : Stp (iEnum K tr σ H R) (tr σ H fun vs H1 => ∃ a xs, vs = [.ref a] ∧ SqL K H1 a xs ∧ R (Ite K a) H1) := ⟨k_iEnum⟩
instance {R : It → Hp → Prop} : Stp (iRng1 tr σ H R) (tr σ H fun vs H1 => ∃ j : Int, vs = [.int j] ∧ -(2 ^ 62) ≤ j ∧ j < 2 ^ 62 ∧ R (Itr 0 j.toNat) H1) := ⟨k_iRng1⟩
instance {R : It → Hp → Prop} : Stp (iRng2 tr σ H R) (tr σ H fun vs H1 => ∃ i j : Int, vs = [.int i, .int j] ∧ (-(2 ^ 62) ≤ i ∧ i < 2 ^ 62 ∧ -(2 ^ 62) ≤ j ∧ j < 2 ^ 62) ∧ R (Itr i (j - i).toNat) H1) := ⟨k_iRng2⟩
instance {vs : List Nat} : Stp (tLc wi g t te vs σ H Q) (wi σ H fun J H1 => ∀ D, H1 D = none → ∃ W : Nat → Nat → Hp → Prop, (∃ m, W 0 m (upd H1 D (.lst []))) ∧ ∀ i m H, W i m H →
  (J.stop i H ∧ Q (.ref D) H) ∨ (J.go i H ∧ ∃ Nx : Hp → Prop, (∀ H', Nx H' → ∃ m', m' < m ∧ W (i + 1) m' H') ∧ ∀ x H', J.yld i H x H' → g x (wipe σ vs) H' fun σ2 H2 => wipe σ2 vs = wipe σ vs ∧ t σ2 H2 fun b H3 =>
    if b = true then te σ2 H3 fun y H4 => ∃ acc, H4 D = some (.lst acc) ∧ acc.length < sizeLine ∧ Nx (upd H4 D (.lst (acc ++ [y]))) else Nx H3)) := ⟨k_lc⟩
instance : Stp (tYes σ H QT) (QT true H) := ⟨k_yes⟩
instance {r : V → Option Int → Option Int → Hp → VK → Prop} {tl th : TO} : Stp (tSl r te tl th σ H Q) (te σ H fun x H1 => tl σ H1 fun l H2 => th σ H2 fun u H3 => r x l u H3 Q) := ⟨k_sl⟩
instance {QO : Option Int → Hp → Prop} : Stp (tNoPart σ H QO) (QO none H) := ⟨k_nopart⟩
instance {QO : Option Int → Hp → Prop} : Stp (tPart te σ H QO) (te σ H fun x H1 => ∃ i, x = .int i ∧ QO (some i) H1) := ⟨k_part⟩
instance {tg : L2.St → Hp → (Int → Int → Hp → Prop) → Prop} : Stp (tLstRg tg σ H Q) (tg σ H fun a b H1 => newR a b H1 Q) := ⟨k_listRg⟩
instance {QR : Int → Int → Hp → Prop} : Stp (tRg1 ta σ H QR) (ta σ H fun x H1 => ∃ n, x = .int n ∧ QR 0 n H1) := ⟨k_rg1⟩
instance {QR : Int → Int → Hp → Prop} : Stp (tRg2 ta tb σ H QR) (ta σ H fun x H1 => tb σ H1 fun y H2 => ∃ i j, x = .int i ∧ y = .int j ∧ QR i j H2) := ⟨k_rg2⟩
instance : Stp (rIsi K [.int a, .ty "int"] H Q) (Q (.bl true) H) := ⟨k_isiI⟩
instance : Stp (rIsi K [.int a, .ty "bool"] H Q) (Q (.bl false) H) := ⟨k_isiB⟩
instance : Stp (rIsi K [.int a, .ty "list"] H Q) (Q (.bl false) H) := ⟨k_isiLI⟩
instance {b : Bool} : Stp (rIntOf [.bl b] H Q) (Q (.int (if b then 1 else 0)) H) := ⟨k_intB⟩
theorem k_chain {r r' : R2} (h : ta σ H fun x H1 => tb σ H1 fun y H2 => r x y H2 fun z H3 => ∃ k, z = .bl k ∧ if k = true then tc σ H3 fun z H4 => r' y z H4 Q else Q (.bl false) H3) : tChain r r' ta tb tc σ H Q := h
instance {r r' : R2} : Stp (tChain r r' ta tb tc σ H Q) (ta σ H fun x H1 => tb σ H1 fun y H2 => r x y H2 fun z H3 => ∃ k, z = .bl k ∧ if k = true then tc σ H3 fun z H4 => r' y z H4 Q else Q (.bl false) H3) := ⟨k_chain⟩
theorem k_ifE (h : t σ H fun c H1 => if c = true then ta σ H1 Q else tb σ H1 Q) : tIf t ta tb σ H Q := h
instance : Stp (tIf t ta tb σ H Q) (t σ H fun c H1 => if c = true then ta σ H1 Q else tb σ H1 Q) := ⟨k_ifE⟩
def par2 (i j : Nat) (vs : List V) (σ : L2.St) (H : Hp) (nx : L2.St → Hp → Prop) : Prop := ∃ v w, vs = [v, w] ∧ nx ((σ.set i (some v)).set j (some w)) H
instance : Stp (tPar i j tr ⟨nx, rt, bk, ct⟩ σ H) (tr σ H fun vs H1 => par2 i j vs σ H1 nx) := ⟨fun h => h⟩
instance {σ'' : L2.St} [e : Put σ i (some v) σ'] [e2 : Put σ' j (some w) σ''] : Stp (par2 i j [v, w] σ H nx) (nx σ'' H) := ⟨fun h => ⟨v, w, rfl, by rw [e.eq, e2.eq]; exact h⟩⟩
end
/-! ### bits -/
def xShl : R2 := rI CPow fun i j => .int (i * 2 ^ j.toNat)
def xAnd : R2 := rI0 fun i j => .int (Builtin.bitAnd i j)
theorem k_shl {H : Hp} {Q : VK} {i j : Int} (hc : CPow i j) (h : Q (.int (i * 2 ^ j.toNat)) H) : xShl (.int i) (.int j) H Q := ⟨i, j, rfl, rfl, hc, h⟩
instance {H : Hp} {Q : VK} {i j : Int} : Stp (xAnd (.int i) (.int j) H Q) (Q (.int (Builtin.bitAnd i j)) H) := ⟨fun h => ⟨i, j, rfl, rfl, h⟩⟩
/-! ### list.count of flat values -/
def cntV (y : V) (ys : List V) : Nat := ys.countP fun z => eqV z y
def rCntV (K : PySem.W.Frag) : V → List V → Hp → VK → Prop := fun x xs H Q => ∃ (a : Addr) (ys : List V) (y : V), x = V.ref a ∧ xs = [y] ∧ SqL K H a ys ∧ flatV y = true ∧ ys.all flatV = true ∧ Q (.int (cntV y ys : Nat)) H
theorem cntV_eq {y : V} : ∀ {ys : List V} {its : List Value}, Vals ys its → ys.all flatV = true → its.countP (eqU y) = cntV y ys
  | _, _, .nil, _ => rfl
  | a :: as, _ :: _, .cons r rs, f => by
    have f1 : flatV a = true ∧ as.all flatV = true := by simpa using f
    unfold cntV
    rw [List.countP_cons, List.countP_cons, eqU_of r f1.1, cntV_eq rs f1.2]
    rfl
theorem mt_lcountV {X : Cx} : MtR X "list.count" (rCntV X.K) := by
  intro pins s σ H x xs v us Q I rx rxs h
  obtain ⟨a, ys, y, rfl, rfl, hs, fy, fys, q⟩ := h
  cases rx
  cases rxs with
  | cons ry rt =>
    rename_i uy ut
    cases rt
    obtain ⟨its, rv, ⟨⟨cls, dd, data, sl⟩, n, ho, hc, hdn, hd⟩, hlen⟩ := I.list hs
    simp only at hc hd
    subst hc hd
    refine call_meets PySem.F.slot_list_count ⟨_, ho, rfl⟩ PySem.F.entry_list_count (PySem.F.args_list_count_2 _ _)
      (SeqAt.list_countAt a its.toArray n dd sl uy (eqU y)) ⟨ho, fun u' hu' => mem_eqAt ry fy rv fys u' (by simpa using hu'), ?_⟩
    have ec : its.toArray.toList.countP (eqU y) = cntV y ys := cntV_eq rv fys
    refine ⟨.int (cntV y ys : Nat), H, I.tok _, ⟨s.toks, ?_⟩, q⟩
    show Value.int ((its.toArray.toList.countP (eqU y) : Nat) : Int) s.toks = Value.int ((cntV y ys : Nat) : Int) s.toks
    rw [ec]
section
variable {K : PySem.W.Frag} {H : Hp} {Q : VK}
theorem k_catN {p q : Addr} {xs ys : List V} (hp : H p = some (.lst xs)) (hq : H q = some (.lst ys)) (hz : xs.length + ys.length ≤ 100000) (h : ∀ l H', H l = none → Same H H' → H' l = some (.lst (xs ++ ys)) → Q (.ref l) H') : rCat (.ref p) (.ref q) H Q := k_cat hp hq hz fun l nl => h l _ nl (same_new nl) upd_same
theorem k_cntV {p : Addr} {ys : List V} {y : V} (hs : SqL K H p ys) (fy : flatV y = true) (fys : ys.all flatV = true) (h : Q (.int (cntV y ys : Nat)) H) : rCntV K (.ref p) [y] H Q := ⟨p, ys, y, rfl, rfl, hs, fy, fys, h⟩
theorem k_indexV {p : Addr} {ys : List V} {y z : V} {j : Nat} (hs : SqL K H p ys) (fy : flatV y = true) (fys : ys.all flatV = true) (hj : ys[j]? = some z) (hz : eqV z y = true) (hn : ∀ (m : Nat) (z' : V), m < j → ys[m]? = some z' → eqV z' y = false) (h : Q (.int (j : Nat)) H) : rIndex K (.ref p) [y] H Q := ⟨p, ys, y, j, z, rfl, rfl, hs, fy, fys, hj, hz, hn, h⟩
theorem k_sortedN {a : Addr} {ns : List Int} (hs : SqL K H a (ns.map V.int)) (h : ∀ (ns' : List Int) (p : Addr) H', ns'.Perm ns → ns'.Pairwise (· ≤ ·) → H p = none → Same H H' → H' p = some (.lst (ns'.map V.int)) → Q (.ref p) H') : rSortedI K [.ref a] H Q := k_sortedI hs fun ns' p h1 h2 h3 => h ns' p _ h1 h2 h3 (same_new h3) upd_same
end
/-! ### facts of older heaps -/
theorem hid_back {S : List Addr} {X Y : Hp} (h : Same X (hid S Y)) : Same X Y := h.trans (hid_same S Y)
theorem at_same {X Y : Hp} {p : Addr} {o : HO} (h : X p = some o) (s : Same X Y) : Y p = some o := s _ _ h
theorem sl_at {K : PySem.W.Frag} {X Y : Hp} {p : Addr} {xs : List V} (h : X p = some (.lst xs)) (s : Same X Y) : SqL K Y p xs := sl (s _ _ h)
theorem st_at {K : PySem.W.Frag} {X Y : Hp} {p : Addr} {xs : List V} (h : X p = some (.tup xs)) (s : Same X Y) : SqT K Y p xs := stp (s _ _ h)
theorem dpI_at {K : PySem.W.Frag} {X Y : Hp} {p : Addr} {ns : List Int} (h : X p = some (.lst (ns.map V.int))) (s : Same X Y) : Dp K Y (.ref p) (dInts ns) := dp_of_ints (sl (s _ _ h))
theorem dpP_at {K : PySem.W.Frag} {X Y : Hp} {p : Addr} {a b : Int} (h : X p = some (.tup [.int a, .int b])) (s : Same X Y) : Dp K Y (.ref p) (dPair (a, b)) := dp_of_pair (stp (s _ _ h))
theorem hid_free {S : List Addr} {H : Hp} (f : ∀ a ∈ S, H a = none) : Same H (hid S H) := fun b o hb => by
  rw [hid_ne fun z => by rw [f b z] at hb; cases hb]; exact hb
theorem hid_free1 {p : Addr} {H : Hp} (f : H p = none) : Same H (hid [p] H) := hid_free (free1 f)
theorem cut_to (xs : List V) (k : Nat) : cutV xs none (some (k : Int)) = xs.take k := by
  unfold cutV
  rw [HT.sIx_none, HT.sIx_nat, List.drop_zero, Nat.sub_zero]
  by_cases h : k ≤ xs.length
  · rw [Nat.min_eq_left h]
  · rw [Nat.min_eq_right (by omega), List.take_of_length_le (by simp), List.take_of_length_le (by omega)]
theorem cut_from (xs : List V) (k : Nat) : cutV xs (some (k : Int)) none = xs.drop k := by
  unfold cutV
  rw [HT.sIx_none, HT.sIx_nat]
  by_cases h : k ≤ xs.length
  · rw [Nat.min_eq_left h]
    exact List.take_of_length_le (by simp)
  · rw [Nat.min_eq_right (by omega), List.drop_of_length_le (Nat.le_refl _), List.drop_of_length_le (by omega), List.take_nil]
theorem dpa_take {K : PySem.W.Frag} {H : Hp} : ∀ {vs : List V} {ds : List PyData} (n : Nat), DpAll K H vs ds → DpAll K H (vs.take n) (ds.take n)
  | _, _, 0, _ => by simp only [List.take_zero]; exact .nil
  | _, _, n + 1, .nil => by simp only [List.take_nil]; exact .nil
  | _, _, n + 1, .cons h r => .cons h (dpa_take n r)
theorem dpa_drop {K : PySem.W.Frag} {H : Hp} : ∀ {vs : List V} {ds : List PyData} (n : Nat), DpAll K H vs ds → DpAll K H (vs.drop n) (ds.drop n)
  | _, _, 0, h => h
  | _, _, n + 1, .nil => by simp only [List.drop_nil]; exact .nil
  | _, _, n + 1, .cons _ r => dpa_drop n r
theorem Le.at {H H' : Hp} {pu p : Addr} {k : Int} {o : HO} (L : Le H pu k) (np : H p = none) (e : H' p = some o) : hid [pu] H' p = some o := by rw [hid_ne (L.fresh np)]; exact e
theorem hat {H : Hp} {pu p : Addr} {o : HO} (np : p ∉ [pu]) (e : H p = some o) : hid [pu] H p = some o := by rw [hid_ne np]; exact e
theorem kLp {xs : List V} {H : Hp} {Q : VK} {pu : Addr} {k : Int} (L : Le H pu k) (hn : xs.length ≤ 100000) (h : ∀ p H', H p = none → Same H H' → hid [pu] H' p = some (.lst xs) → Q (.ref p) H') : newL xs H Q := ⟨sz hn, fun p np => h p _ np (same_new np) (L.at np upd_same)⟩
theorem kTp {xs : List V} {H : Hp} {Q : VK} {pu : Addr} {k : Int} (L : Le H pu k) (hn : xs.length ≤ 100000) (h : ∀ p H', H p = none → Same H H' → hid [pu] H' p = some (.tup xs) → Q (.ref p) H') : newT xs H Q := ⟨sz hn, fun p np => h p _ np (same_new np) (L.at np upd_same)⟩
theorem sh_l2 {n : Nat} {c d : PyData} (h1 : Sh n c) (h2 : Sh n d) : Sh (n + 1) (.list [c, d]) := sh_list fun x hx => by
  rcases List.mem_cons.mp hx with rfl | hx
  · exact h1
  · rcases List.mem_cons.mp hx with rfl | hx
    · exact h2
    · cases hx
section
variable {K : PySem.W.Frag} {σ : L2.St} {H1 : Hp} {Q : VK} {g : TG} {tt : TT} {te : TE} {vs : List Nat}
/-- over a range, new objects may be made -/
theorem lc_growR {QD : Addr → Hp → Prop} {lo : Int} {n : Nat} (hz : n ≤ 50000) (f : Nat → Option V)
    (step : ∀ (i : Nat) H', i < n → Same H1 H' → ∀ (R : V → Hp → Prop) (R0 : Hp → Prop), (∀ y H'', f i = some y → Same H' H'' → R y H'') → (∀ H'', f i = none → Same H' H'' → R0 H'') →
      g (.int (lo + (i : Nat))) (wipe σ vs) H' fun σ2 H2 => wipe σ2 vs = wipe σ vs ∧ tt σ2 H2 fun b H3 => if b = true then te σ2 H3 R else R0 H3)
    (h : ∀ D H', H1 D = none → Same H1 H' → H' D = some (.lst ((List.range n).filterMap f)) → QD D H') :
    ∀ D, H1 D = none → ∃ W : Nat → Nat → Hp → Prop, (∃ m, W 0 m (upd H1 D (.lst []))) ∧ ∀ i m H, W i m H →
      ((Itr lo n).stop i H ∧ QD D H) ∨ ((Itr lo n).go i H ∧ ∃ Nx : Hp → Prop, (∀ H', Nx H' → ∃ m', m' < m ∧ W (i + 1) m' H') ∧ ∀ x H', (Itr lo n).yld i H x H' → g x (wipe σ vs) H' fun σ2 H2 => wipe σ2 vs = wipe σ vs ∧ tt σ2 H2 fun b H3 =>
        if b = true then te σ2 H3 fun y H4 => ∃ acc, H4 D = some (.lst acc) ∧ acc.length < sizeLine ∧ Nx (upd H4 D (.lst (acc ++ [y]))) else Nx H3) := by
  refine fun D nD => lc_range (fun i H => Same H1 H ∧ H D = some (.lst (((List.range n).take i).filterMap f))) ⟨same_new nD, by rw [upd_same]; simp⟩ ?_ ?_
  · rintro i H hi ⟨sm, hD⟩
    have tk := take_filterMap (f := f) (range_take hi)
    refine step i H hi sm _ _ (fun y H'' hy s2 => ⟨_, s2 _ _ hD, szl ?_, same_mut (sm.trans s2) nD, ?_⟩) (fun H'' hn s2 => ⟨sm.trans s2, ?_⟩)
    · have := List.length_filterMap_le f ((List.range n).take i)
      rw [List.length_take, List.length_range] at this
      omega
    · rw [upd_same, tk, hy]; rfl
    · rw [tk, hn, s2 _ _ hD]; simp
  · rintro H ⟨sm, hD⟩
    rw [List.take_of_length_le (by simp)] at hD
    exact h D H nD sm hD
end
/-- behind an if: what follows is shown once -/
theorem ifjoin {c : Bool} {σ : L2.St} {H : Hp} {s1 s2 : TS} {nx bk ct : L2.St → Hp → Prop} {rt : VK} (G : L2.St → Hp → Prop) (main : ∀ σ H, G σ H → nx σ H) (h : (∀ σ H, G σ H → nx σ H) → if c = true then s1 ⟨nx, rt, bk, ct⟩ σ H else s2 ⟨nx, rt, bk, ct⟩ σ H) : if c = true then s1 ⟨nx, rt, bk, ct⟩ σ H else s2 ⟨nx, rt, bk, ct⟩ σ H := h main
theorem k_repN {H : Hp} {Q : VK} {p : Addr} {xs : List V} {k : Int} (hp : H p = some (.lst xs)) (h0 : 0 ≤ k) (h1 : k < 100000) (h2 : xs.length * k.toNat ≤ 100000) (h : ∀ l H', H l = none → Same H H' → H' l = some (.lst (List.replicate k.toNat xs).flatten) → Q (.ref l) H') : rRep (.ref p) (.int k) H Q := k_rep hp h0 h1 h2 fun l nl => h l _ nl (same_new nl) upd_same
theorem ixN_last {n : Nat} (h : 0 < n) : ixN n (-1) = some (n - 1) := by
  unfold ixN
  rw [if_neg (by omega)]
  split
  · simp; omega
  · omega
theorem ifsjoin {t : TT} {σ : L2.St} {H : Hp} {s1 s2 : TS} {nx bk ct : L2.St → Hp → Prop} {rt : VK} (G : L2.St → Hp → Prop) (main : ∀ σ H, G σ H → nx σ H) (h : (∀ σ H, G σ H → nx σ H) → tIfS t s1 s2 ⟨nx, rt, bk, ct⟩ σ H) : tIfS t s1 s2 ⟨nx, rt, bk, ct⟩ σ H := h main
/-- over a list or a tuple -/
def iAny (w1 w2 : TI) : TI := fun σ H R => w1 σ H R ∨ w2 σ H R
theorem pi_any {X : Cx} {tg it : Expr} {w1 w2 : TI} (h1 : PI X tg it w1) (h2 : PI X tg it w2) : PI X tg it (iAny w1 w2) := ⟨fun pins s σ H R I h => by
  rcases h with h | h
  · exact h1.run pins s σ H R I h
  · exact h2.run pins s σ H R I h⟩
theorem k_inT2 {K : PySem.W.Frag} {H : Hp} {Q : VK} {p : Addr} {x a b : Int} (hs : SqT K H p [.int a, .int b]) (h : Q (.bl (decide (x = a ∨ x = b))) H) : rIn K false (.int x) (.ref p) H Q :=
  ⟨p, _, rfl, .inr hs, rfl, flat_ints [a, b], by
    rw [if_neg Bool.false_ne_true, show ([V.int a, .int b] : List V) = List.map V.int [a, b] from rfl, inV_ints]
    have e : decide (x ∈ [a, b]) = decide (x = a ∨ x = b) := by simp
    rw [e]; exact h⟩
theorem Pu.at {H H' : Hp} {pu ce p : Addr} {n : Nat} {t : Int} {o : HO} (L : Pu H pu ce n t) (np : H p = none) (e : H' p = some o) : hid [pu, ce] H' p = some o := by rw [hid_ne (L.fresh np)]; exact e
theorem kLq {xs : List V} {H : Hp} {Q : VK} {pu ce : Addr} {n : Nat} {t : Int} (L : Pu H pu ce n t) (hn : xs.length ≤ 100000) (h : ∀ p H', H p = none → Same H H' → hid [pu, ce] H' p = some (.lst xs) → Q (.ref p) H') : newL xs H Q := ⟨sz hn, fun p np => h p _ np (same_new np) (L.at np upd_same)⟩
theorem kTq {xs : List V} {H : Hp} {Q : VK} {pu ce : Addr} {n : Nat} {t : Int} (L : Pu H pu ce n t) (hn : xs.length ≤ 100000) (h : ∀ p H', H p = none → Same H H' → hid [pu, ce] H' p = some (.tup xs) → Q (.ref p) H') : newT xs H Q := ⟨sz hn, fun p np => h p _ np (same_new np) (L.at np upd_same)⟩
end Cm

namespace Cm
open PySem PySem.Spec PyProof.Rows L2

/-! ### a caught exception that is kept as a value -/
def ExV (cls : Value) (d : Option Addr) (a : Addr) : HO := .ext fun h => ∃ (oe : Obj) (vs : Array Value), h.get? a = some oe ∧ Zc cls d oe ∧ oe.data = .fields vs
theorem exV_ok {P : Program} {w : World} {H : Hp} {h : Heap} {a : Addr} {cls : Value} {d : Option Addr} {oe : Obj} {vs : Array Value} (he : h.get? a = some oe) (hz : Zc cls d oe) (hd : oe.data = .fields vs) : ObjOk P w H h a (ExV cls d a) :=
  ⟨⟨oe, vs, he, hz, hd⟩, ⟨oe, he⟩, fun h1 h2 ⟨o1, v1, g1, g2, g3⟩ k => ⟨o1, v1, k _ g1, g2, g3⟩⟩
theorem exV_at {P : Program} {w : World} {H : Hp} {h : Heap} {a : Addr} {cls : Value} {d : Option Addr} (hok : HOk P w H h) (e : H a = some (ExV cls d a)) : ∃ (oe : Obj) (vs : Array Value), h.get? a = some oe ∧ Zc cls d oe ∧ oe.data = .fields vs :=
  (hok a _ e).1
section
variable {X : Cx} {pins : List (Addr × Obj)} {σ : L2.St} {H : Hp} {s : Shared}
/-- an object of this def's own time is taken into sight -/
theorem track {a : Addr} {cls : Value} {d : Option Addr} {oe : Obj} {vs : Array Value} (I : Inv X pins σ H s) (he : s.heap.get? a = some oe) (hz : Zc cls d oe) (hd : oe.data = .fields vs) (na : H a = none) (n0 : X.s_0.heap.get? a = none)
    (nL : a ≠ X.env.locals) (np : ∀ p ∈ X.pn ++ pins, p.1 ≠ a) : Inv X pins σ (upd H a (ExV cls d a)) s := by
  have ne : ∀ {b : Addr} {o : HO}, H b = some o → b ≠ a := fun q => ne_of_none q na
  have nb : ∀ b o, X.s_0.heap.get? b = some o → b ≠ a := fun b o q z => by rw [z, n0] at q; cases q
  refine { I with base := ?_, free := ?_, freeC := ?_, pin := ?_, hok := ?_ }
  · have B := I.base
    refine ⟨B.keep, B.slot, fun b o q n x => ?_, B.there, fun b xs q => ?_, fun b o u q => ?_, fun b ps q => ?_⟩
    · rw [upd_ne (nb b o q)]; exact B.free b o q n x
    · have z := B.tups b xs q; rw [upd_ne (ne z)]; exact z
    · have z := B.frzs b o u q; rw [upd_ne (ne z)]; exact z
    · obtain ⟨m, z⟩ := B.tbls b ps q; exact ⟨m, by rw [upd_ne (ne z)]; exact z⟩
  · rw [upd_ne nL.symm]; exact I.free
  · intro x c q
    have nc : c ≠ a := fun z => by
      obtain ⟨v, oc, g1, g2⟩ := I.cell x c q
      rw [z, he] at g1
      cases g1
      rw [hd] at g2
      cases g2
    rw [upd_ne nc]; exact I.freeC x c q
  · intro p hp
    obtain ⟨g1, g2, g3⟩ := I.pin p hp
    exact ⟨g1, by rw [upd_ne (np p hp)]; exact g2, g3⟩
  · intro b u q
    by_cases hb : b = a
    · rw [hb] at q ⊢
      rw [upd_same] at q
      cases q
      exact exV_ok he hz hd
    · rw [upd_ne hb] at q
      exact (I.hok b u q).stay (fun _ _ _ z => z) (fun c z => by rw [upd_ne (ne z)]; exact z) fun c xs z => by rw [upd_ne (ne z)]; exact z
end
/-- what «except x as n: suite» wishes, the exception kept behind it -/
def wKept (K : PySem.W.Frag) (c : Value) (i : Nat) (ts : Addr → Value → Option Addr → TS) (Wout : WX) (D : Ends) : WX := fun cls d σ H =>
  ∃ b, PySem.W.exmOne K cls c = some b ∧
    (b = true → ∀ a, H a = none → ts a cls d ⟨fun σ' H' => D.nx (σ'.set i none) (upd H' a (ExV cls d a)), fun _ _ => False, fun _ _ => False, fun _ _ => False⟩ (σ.set i (some (.ref a))) H) ∧ (b = false → Wout cls d σ H)
section
variable {X : Cx} {x n : Str} {c : Value} {i : Nat} {body suite : List Stmt} {b0 : Stmt} {np pos pos' : Pos} {tb : WX → TS} {ts : Addr → Value → Option Addr → TS} {Wout : WX}
theorem ps_try_kept (hst : X.stack = X.env :: X.outer) (hfm : X.env.frame = some X.env.locals) (hex : X.ex = []) (hN : X.N.Nodup) (hi : X.N[i]? = some n) (hln : X.env.kindOf n = some .local) (hc : Names X x c) (tk : Takes X Wout)
    (hb : ∀ (W : WX) (pn : List (Addr × Obj)) (xe : Value → Shared → Prop), Takes (X.tr pn xe) W → PassesOwn (model X.prog X.w) X.A X.env xe → PSs (X.tr pn xe) body (tb W))
    (hsu : ∀ (a : Addr) (oe : Obj) (cls : Value) (d : Option Addr) (pn : List (Addr × Obj)), Zc cls d oe → (∃ vs, oe.data = .fields vs) → PSs (X.suite a ((a, oe) :: pn)) (b0 :: suite) (ts a cls d)) :
    PS X (.Try body [.ExceptHandler (some (.Name x np)) (some n) (b0 :: suite) pos'] [] [] pos) (fun D σ H => tb (wKept X.K c i ts Wout D) D σ H) := by
  constructor
  intro pins s σ H D I h
  have ok := I.ok
  have frm : X.A.frames = some (X.env :: X.outer) := by rw [← hst]; exact ok.frames
  refine wpAny_Try_except (wpAny_mono ((hb (wKept X.K c i ts Wout D) (X.pn ++ pins) _ (fun u s1 air => ?caught) PassesOwn.looking).run [] s σ H D (I.toTry _) h) (fun f s1 q => ?through) (fun e s1 q => q))
  case through =>
    cases f with
    | next => obtain ⟨σ1, H1, J, q⟩ := q; exact wpAny_execs_nil ⟨σ1, H1, J.ofTry ok, q⟩
    | brk => obtain ⟨σ1, H1, J, q⟩ := q; exact ⟨σ1, H1, J.ofTry ok, q⟩
    | cont => obtain ⟨σ1, H1, J, q⟩ := q; exact ⟨σ1, H1, J.ofTry ok, q⟩
    | ret u => obtain ⟨v, σ1, H1, J, r, q⟩ := q; exact ⟨v, σ1, H1, J.ofTry ok, r, q⟩
  case caught =>
    obtain ⟨a, B, sI, pins1, σ1, H1, cls, d, rfl, J0, ground, up, sky, na, os, bare, b, hcls, yes, no⟩ := air
    have J : Inv X pins σ1 H1 sI := J0.ofTry ok
    rw [show (X.tr (X.pn ++ pins) _).stack = X.stack from rfl, hst] at sky
    have Ba : B.get? a = none := by
      rcases sky with z | z | z
      · exact z.2.1
      · exact z.2.1
      · exact z.2.1
    show wpAny (model X.prog X.w) X.A (noteFrame (.ref a) X.env) _ _ _
    refine Sky.land Zc.steady frm hfm sky fun h2 fly up2 => ?_
    obtain ⟨o2, v2, g2, z2, d2⟩ := fly.there
    have J2 : Inv X pins σ1 H1 { s1 with heap := h2 } := J.landed ground fly.1 (up.trans up2) os bare
    have out : a ∉ frs (X.env :: X.outer) := fun hm => by
      obtain ⟨_, o', e', hnf⟩ := fly.2.2.1.mem hm
      rw [g2] at e'
      cases e'
      exact hnf _ d2
    have nL : a ≠ X.env.locals := fun z => out (List.mem_filterMap.mpr ⟨X.env, List.mem_cons_self, by rw [hfm, z]⟩)
    have nF : a ∉ X.fs := fun hm => by
      obtain ⟨e, he, q⟩ := List.mem_filterMap.mp hm
      exact out (List.mem_filterMap.mpr ⟨e, List.mem_cons_of_mem _ he, q⟩)
    have sIa : sI.heap.get? a = none := by
      cases q : sI.heap.get? a with
      | none => rfl
      | some o =>
        have := ground a o q (by rw [show (X.tr (X.pn ++ pins) _).stack = X.stack from rfl, hst]; exact out)
        rw [Ba] at this; cases this
    have n0 : X.s_0.heap.get? a = none := by
      cases q : X.s_0.heap.get? a with
      | none => rfl
      | some o =>
        obtain ⟨o', q'⟩ := J.base.there a o q (by rw [hex]; simp)
        rw [sIa] at q'; cases q'
    have pinNe : ∀ p ∈ X.pn ++ pins, p.1 ≠ a := fun p hp z => by
      have := (J.pin p hp).1
      rw [z, sIa] at this; cases this
    refine wpAny_handleBy_cons (codeAny_handlers_test ?_) (fun q => by cases q)
    have T2 := J2.suite g2 d2 na nL nF
    have ty : PySem.W.Looks (model X.prog X.w) h2 (typeOf (.ref a)) cls := fun _ _ _ _ k q => wpAny_typeOf_ref (k _ _ g2) (by rw [z2.1]; exact q)
    have named : ∀ {Q : Value → Shared → Prop} {E : Value → Shared → Prop}, Q c { s1 with heap := h2 } → wpAny (model X.prog X.w) (X.A.mark (some (.ref a))) (eval (.Name x np) X.env) Q E { s1 with heap := h2 } := fun {Q E} q => by
      obtain ⟨gl, db, hm | ⟨hm, hv, hn⟩⟩ := hc
      · exact ld_glob (X := X.suite a ((a, o2) :: (X.pn ++ pins))) T2 gl hm q db
      · exact ld_blt (X := X.suite a ((a, o2) :: (X.pn ++ pins))) T2 gl hm hv q hn db
    refine named ((PySem.W.exm_one (M := model X.prog X.w) J2.kIn ty hcls).here ?_)
    cases b with
    | false =>
      show wpAny _ X.A (handleBy (.ref a) X.env []) _ _ _
      refine wpAny_handleBy_nil ?_
      obtain ⟨_, _, _, oe, vs, T, oT, ts', he, hz, hd, h1, hr⟩ := id fly
      unfold PySem.passOn
      refine wpAny_bind (wpAny_field he hd h1 ?_)
      rw [if_neg (show ¬ ((Value.ref T == Value.none) = true) by simp)]
      have on : wpAny (model X.prog X.w) X.A (setFlight (.ref a) X.env.frame) (fun _ s4 => wpAny (model X.prog X.w) X.A (throw (.ref a) : Sem Flow) (SP X pins D) X.xe s4) X.xe { s1 with heap := h2 } := by
        rw [hfm]
        refine HandSPX.setFlight_upZ fly fun h4 hh4 up4 => wpAny_throw (tk _ _ ⟨a, B, sI, pins, σ1, H1, cls, d, rfl, J, ground, (up.trans up2).trans up4, .inr (.inr (by rw [hst]; exact hh4)), na, os, bare, no rfl⟩)
      first
        | exact wpAny_bind (wpAny_pure (wpAny_bind on))
        | exact wpAny_bind on
    | true =>
      refine codeAny_handlers_suite_as (HandSPX.lands_againZ fly fun h3 fly3 up3 => ?_)
      obtain ⟨o3, v3, g3, z3, d3⟩ := fly3.there
      have J3 : Inv X pins σ1 H1 { s1 with heap := h3 } := J.landed ground fly3.1 ((up.trans up2).trans up3) os bare
      refine store_ok (X := X.suite a ((a, o3) :: (X.pn ++ pins))) (v := .ref a) (J3.suite g3 d3 na nL nF) hN hi (.inl hln) rfl (fun s4 S4 => ?_) (.inr hln)
      refine wpAny_mono ((hsu a o3 cls d (X.pn ++ pins) z3 ⟨_, d3⟩).run [] s4 _ H1 _ S4 (yes rfl a na)) (fun f s5 q => ?_) (fun _ _ z => z.elim)
      cases f with
      | brk => obtain ⟨_, _, _, q⟩ := q; exact q.elim
      | cont => obtain ⟨_, _, _, q⟩ := q; exact q.elim
      | ret u => obtain ⟨_, _, _, _, _, q⟩ := q; exact q.elim
      | next =>
        obtain ⟨σ5, H5, S5, q5⟩ := q
        have K5 : Inv X ((a, o3) :: pins) σ5 H5 s5 := ⟨ok, S5.os, S5.bare, S5.base, S5.loc, S5.cell, S5.free, S5.freeC, fun p hp => S5.pin p (by
          rw [List.append_nil]
          rcases List.mem_append.mp hp with hp | hp
          · exact List.mem_cons_of_mem _ (List.mem_append_left _ hp)
          · rcases List.mem_cons.mp hp with hp | hp
            · rw [hp]; exact List.mem_cons_self
            · exact List.mem_cons_of_mem _ (List.mem_append_right _ hp)), S5.hok, S5.len⟩
        refine gone_ok K5 hN hi hln fun s6 K6 => ?_
        obtain ⟨g6, na6, _⟩ := K6.pin (a, o3) (List.mem_append_right _ List.mem_cons_self)
        have K7 : Inv X pins (σ5.set i none) H5 s6 := { K6 with pin := fun p hp => K6.pin p (by
          rcases List.mem_append.mp hp with hp | hp
          · exact List.mem_append_left _ hp
          · exact List.mem_append_right _ (List.mem_cons_of_mem _ hp)) }
        exact ⟨_, _, track K7 g6 z3 d3 na6 n0 nL pinNe, q5⟩
end

/-! ### isinstance of a kept exception, of None and of the other values -/
/-- what an exception class of the program must say, so that its instances are asked rightly -/
structure ExK (K : PySem.W.Frag) (D : Addr) : Prop where
  hg : PySem.W.findIn K (.ref D) "__getattribute__" = some (some (.builtin "BaseException.__getattribute__"))
  hk : PySem.W.findIn K (.ref D) "__getattr__" = some none
  hs : PySem.W.subIn K (.ref D) (.type "BaseException") = some true
  hd : PySem.W.hasDictIn K D = true
  ha : PySem.W.findIn K (.ref D) "__class__" = some (some (.builtin "object.__class__"))
  hn : PySem.W.specialIn K (.builtin "object.__class__") "__get__" = some (some (.builtin "getset_descriptor.__get__"))
  ht : PySem.W.takesIn K (.builtin "object.__class__") = some true
  hm : PySem.W.mroIn K D (.type "object") = some true
def exkB (K : PySem.W.Frag) (D : Addr) : Bool :=
  (PySem.W.findIn K (.ref D) "__getattribute__" == some (some (.builtin "BaseException.__getattribute__"))) && ((PySem.W.findIn K (.ref D) "__getattr__" == some none) && ((PySem.W.subIn K (.ref D) (.type "BaseException") == some true) && (PySem.W.hasDictIn K D &&
  ((PySem.W.findIn K (.ref D) "__class__" == some (some (.builtin "object.__class__"))) && ((PySem.W.specialIn K (.builtin "object.__class__") "__get__" == some (some (.builtin "getset_descriptor.__get__"))) && ((PySem.W.takesIn K (.builtin "object.__class__") == some true) && (PySem.W.mroIn K D (.type "object") == some true)))))))
theorem exkB_ok {K : PySem.W.Frag} {D : Addr} (h : exkB K D = true) : ExK K D := by
  unfold exkB at h
  simp only [Bool.and_eq_true, beq_iff_eq] at h
  obtain ⟨h1, h2, h3, h4, h5, h6, h7, h8⟩ := h
  exact ⟨h1, h2, h3, h4, h5, h6, h7, h8⟩
theorem ExK.xf {K : PySem.W.Frag} {D : Addr} (h : ExK K D) : XfC K D := ⟨h.hg, h.hk, h.hs, h.hd⟩
/-- what is known of a kept exception at a: its class D, its dict's state -/
def KeptAt (H : Hp) (a D : Addr) : Prop := ∃ d : Option Addr, H a = some (ExV (.ref D) d a) ∧ (d = none ∨ ∃ dd fs, d = some dd ∧ H dd = some (.xd fs))
def rIsX (K : PySem.W.Frag) : List V → Hp → VK → Prop := fun xs H Q => ∃ (a D : Addr) (c : V) (cv : Value) (b : Bool), xs = [.ref a, c] ∧ KeptAt H a D ∧ ExK K D ∧ ClsV c cv ∧ PySem.W.kitOne K (.ref D) cv = some b ∧ Q (.bl b) H
def rIsXT (K : PySem.W.Frag) : List V → Hp → VK → Prop := fun xs H Q => ∃ (a D tp : Addr) (cs : List V) (us : List Value) (b : Bool), xs = [.ref a, .ref tp] ∧ KeptAt H a D ∧ ExK K D ∧ H tp = some (.tup cs) ∧ Paired ClsV cs us ∧ PySem.W.kitAny K (.ref D) us = some b ∧ Q (.bl b) H
section
variable {X : Cx} {pins : List (Addr × Obj)} {σ : L2.St} {H : Hp} {s : Shared}
theorem kept_inst {a D : Addr} (I : Inv X pins σ H s) (k : KeptAt H a D) : ∃ ox od, PySem.W.InstAt s.heap a ox D od := by
  obtain ⟨d, e, dd⟩ := k
  obtain ⟨oe, vs, g, z, hd⟩ := exV_at I.hok e
  obtain ⟨oc, od, oda, osl⟩ := oe
  obtain ⟨h1, h2⟩ := z
  dsimp only at h1 h2 hd
  subst h1 h2 hd
  rcases dd with rfl | ⟨dx, fs, rfl, hx⟩
  · exact ⟨_, none, g, rfl, rfl, trivial⟩
  · obtain ⟨mA, ⟨o, es, ep, g2, _⟩, _⟩ := (show ObjOk X.prog X.w H s.heap dx (.xd fs) from I.hok dx _ hx)
    exact ⟨_, some o, g, rfl, rfl, g2⟩
theorem kit_exc {K : PySem.W.Frag} {a D : Addr} {ox : Obj} {od : Option Obj} (C : ExK K D) : PySem.W.KitX K (.ref a) (.ref D) (fun h => PySem.W.InstAt h a ox D od) := by
  have hcl : (PySem.W.clsIn K D).isSome = true := by
    obtain ⟨cd, hc, _⟩ := PySem.W.any_some C.hd
    rw [hc]; rfl
  exact PySem.W.kitx_exc hcl C.hg C.hk C.hs C.ha C.hn C.ht C.hm
theorem call_isX : CallR X (.builtin "isinstance") (rIsX X.K) := by
  intro pins s σ H xs us Q I r h
  obtain ⟨a, D, c, cv, b, rfl, k, C, kc, e, q⟩ := h
  obtain ⟨u1, u2, rfl, r1, r2⟩ := vals2 r
  have e2 := kc.eq r2
  subst e2
  cases (show u1 = Value.ref a from r1)
  obtain ⟨ox, od, J⟩ := kept_inst I k
  exact PySem.W.kia_one (kit_exc C) I.kIn J e (fun z => nomatch z) fun tk => ⟨.bl b, H, I.tok tk, rfl, q⟩
theorem call_isXT : CallR X (.builtin "isinstance") (rIsXT X.K) := by
  intro pins s σ H xs us Q I r h
  obtain ⟨a, D, tp, cs, ws, b, rfl, k, C, hT, kc, e, q⟩ := h
  obtain ⟨u1, u2, rfl, r1, r2⟩ := vals2 r
  cases (show u1 = Value.ref a from r1)
  cases (show u2 = Value.ref tp from r2)
  obtain ⟨ox, od, J⟩ := kept_inst I k
  obtain ⟨_, its, rv, o, h1, h2, n, h3⟩ := (show ObjOk X.prog X.w H s.heap tp (.tup cs) from I.hok tp _ hT)
  have e3 := ClsV.all kc rv
  subst e3
  obtain ⟨oc, od', dt, sl⟩ := o
  simp only at h2 h3
  subst h2 h3
  exact PySem.W.kia_tup (kit_exc C) I.kIn J h1 e (fun z => nomatch z) fun tk => ⟨.bl b, H, I.tok tk, rfl, q⟩
/-- isinstance of anything, one class or a tuple of them -/
def rIsA (K : PySem.W.Frag) : List V → Hp → VK → Prop := fun xs H Q => rIsi K xs H Q ∨ rIsiT K xs H Q ∨ rIsX K xs H Q ∨ rIsXT K xs H Q
theorem q_isA : CallR X (.builtin "isinstance") (rIsA X.K) := by
  intro pins s σ H xs us Q I r h
  rcases h with h | h | h | h
  · exact call_isi pins s σ H xs us Q I r h
  · exact call_isiT pins s σ H xs us Q I r h
  · exact call_isX pins s σ H xs us Q I r h
  · exact call_isXT pins s σ H xs us Q I r h
end

/-! ### a kept exception's field -/
def tXat (K : PySem.W.Frag) (n : Str) (te : TE) : TE := fun σ H Q => te σ H fun x H1 => ∃ (a C dd : Addr) (fs : List (Str × V)) (v : V), x = .ref a ∧ H1 a = some (ExV (.ref C) (some dd) a) ∧ XfC K C ∧ PySem.W.findIn K (.ref C) n = some none ∧ H1 dd = some (.xd fs) ∧ fs.lookup n = some v ∧ Q v H1
theorem pe_xat {X : Cx} {e : Expr} {te : TE} {pos : Pos} {n : Str} (he : PE X e te) (hb : attributeBase e n X.env (eval e X.env) = eval e X.env := by rfl) : PE X (.Attribute e n pos) (tXat X.K n te) := by
  constructor
  intro pins s σ H Q I h
  refine attr_of hb (thn (he.run pins s σ H _ I h) fun u s1 hh => ?_)
  obtain ⟨x, H1, I1, rx, a, C, dd, fs, v, rfl, ea, T, hno, ed, l, q⟩ := hh
  cases (show u = Value.ref a from rx)
  obtain ⟨oe, vs, g, z, hd⟩ := exV_at I1.hok ea
  obtain ⟨mA, hns, hr⟩ := (show ObjOk X.prog X.w H1 s1.heap dd (.xd fs) from I1.hok dd _ ed)
  obtain ⟨od, ho, hl⟩ := lookIn_ns hns
  obtain ⟨u, hu, ru⟩ := RelO.some_of (v := v) (o := mA n) (by rw [← l]; exact hr n)
  have J : PySem.W.InstAt s1.heap a oe C (some od) := ⟨g, z.1, by unfold PySem.W.notCls; rw [hd] <;> rfl, by rw [z.2]; exact ho⟩
  exact HandSPX.exc_get I1.kIn J T.ga T.gg T.exC (PySem.W.findObj_own T.hdC hno rfl (by rw [hl, hu])) (handed_of ru) ⟨v, H1, I1.tok _, ru, q⟩

/-! ### Base.__init__(self, ..) in an own exception's __init__, Base an own class without an __init__ -/
structure BaseI (K : PySem.W.Frag) (mg : Str → Option Value) (B : Addr) (x : Str) : Prop where
  gB : mg x = some (.ref B)
  rd : PySem.W.readsIn K B (.type "type") = true
  ga : PySem.W.specialIn K (.ref B) "__getattribute__" = some (some (.builtin "type.__getattribute__"))
  at_ : PySem.W.findCls K (.ref B) (.type "type") "__init__" = some (.val (.builtin "ValueError.__init__"))
theorem pe_binit {X : Cx} {x : Str} {B : Addr} {e : Expr} {es : List Expr} {ta : TA} {p1 p2 pos : Pos} {pl : Sem Bool} (T : BaseI X.K X.mg B x) (hg : Gl X x) (ha : PA X (e :: es) ta) (hdb : (x == ("__debug__" : Str)) = false := by decide)
    (hc : eval (.Call (.Attribute (.Name x p1) "__init__" p2) (e :: es) [] pos) X.env = (do
      let ov ← eval (.Name x p1) X.env
      standAt p2.atName
      let (f, first) ← holding [ov] (getMethod ov "__init__" pl)
      callWith pos f first (backTo pos (starEach (e :: es) X.env)) (backToKw pos (keywordEach [] X.env))) := by rfl)
    (he : starEach (e :: es) X.env = (false, eval e X.env) :: starEach es X.env := by rfl) (hpl : (backTo pos (starEach es X.env)).any (·.1) = false := by rfl) :
    PE X (.Call (.Attribute (.Name x p1) "__init__" p2) (e :: es) [] pos) (tVeI X.K ta) := by
  constructor
  intro pins s σ H Q I h
  refine PySem.W.methodCall_KW (ld_glob I hg T.gB ?_ hdb) hc
  refine PySem.W.method_cls I.kIn T.ga (PySem.W.cls_value I.kIn T.rd T.at_ (by decide +kernel) ?_)
  show wpAny _ _ (callWith pos (Value.builtin "ValueError.__init__") [] (backTo pos (starEach (e :: es) X.env)) []) _ _ _
  refine PyProof.Rows.callWith_method1 (thn (ha.run pos pins _ σ H _ (I.tok _) h) fun us s1 hh => ?_) he hpl
  obtain ⟨vs, H1, I1, r1, a, C, ws, rfl, hl, O, ea, q⟩ := hh
  cases r1 with
  | @cons _ u0 _ ur ra rr =>
    cases (show u0 = Value.ref a from ra)
    have len : ur.length ≤ sizeLine := by
      have := Paired.length rr
      rw [sizeLine_eq]
      omega
    exact oinit_ok O I1 ea len fun s' J => ⟨.non, H1, J, rfl, q⟩

/-! ### readings of raise, of an exception's own __init__ and of try, step by step -/
/-- raise C('..'), C without an __init__ -/
def tRaiseP (C : Addr) (E : XK) : TS := fun _ _ H => E (.ref C) none H
/-- raise C(e), C with an __init__ that keeps sp -/
def tRaiseO (C : Addr) (sp : Sp) (ta : TA) (E : XK) : TS := fun _ σ H => tMkO C sp [] ta σ H fun cls d H' => E cls d H'
/-- the promise of such an __init__(self, f): the field f is stored -/
def prInit (C : Addr) (f : Str) (v0 v1 : V) (H : Hp) (Q : VK) : Prop := ∃ a, v0 = .ref a ∧ H a = some (exo a C none) ∧ ∀ dx, H dx = none → dx ≠ a → Q .non (upd (upd H dx (exd dx [(f, v1)])) a (exo a C (some dx)))
def spInit (C : Addr) (f : Str) : Sp := fun vs H Q _ => ∃ v0 v1, vs = [v0, v1] ∧ prInit C f v0 v1 H Q
/-- try: .. except c as n: m = n (n in slot i, m in slot j) -/
def tTryK (K : PySem.W.Frag) (c : Value) (i j : Nat) (tb : WX → TS) : TS := fun D σ H => tb (wKept K c i (fun _ _ _ => tAsg (tVar i) (gName j)) (fun _ _ _ _ => False) D) D σ H
section
variable {K : PySem.W.Frag} {σ : L2.St} {H : Hp} {D : Ends} {E : XK} {C : Addr} {f : Str}
theorem k_raiseP (h : E (.ref C) none H) : tRaiseP C E D σ H := h
theorem heap_made {H : Hp} {a d : Addr} {o1 o2 o3 o4 : HO} (na : H a = none) (ne : d ≠ a) : upd (L2.del (upd (upd (upd H a o1) d o2) a o3) a) d o4 = upd H d o4 := by
  funext b
  by_cases h1 : b = d
  · rw [h1, upd_same, upd_same]
  · rw [upd_ne h1, upd_ne h1]
    by_cases h2 : b = a
    · rw [h2, L2.del_same, na]
    · rw [L2.del_ne h2, upd_ne h2, upd_ne h1, upd_ne h2]
theorem exo_ne_exd {a d C : Addr} {fs : List (Str × V)} : True := trivial
theorem k_raiseO {ta : TA} {v : V} (hta : ∀ (R : List V → Hp → Prop), R [v] H → ta σ H R) (h : ∀ d, H d = none → E (.ref C) (some d) (upd H d (.xd [(f, v)]))) : tRaiseO C (spInit C f) ta E D σ H := by
  refine hta _ ⟨(by show 1 ≤ 1000; decide), fun a na => ?_⟩
  refine ⟨.ref a, v, rfl, a, rfl, upd_same, fun dx ndx ne => ⟨rfl, dx, [(f, v)], upd_same, ?_, ?_, ?_⟩⟩
  · rw [upd_ne ne, upd_same]
  · rw [upd_ne ne] at ndx; exact ndx
  · rw [heap_made na ne]
    rw [upd_ne ne] at ndx
    exact h dx ndx
theorem k_try {i j : Nat} {tb : WX → TS} (h : tb (wKept K (.ref C) i (fun _ _ _ => tAsg (tVar i) (gName j)) (fun _ _ _ _ => False) D) D σ H) : tTryK K (.ref C) i j tb D σ H := h
theorem k_callS {sp : Sp} {W : WX} {tr : TA} {Q : VK} (h : tr σ H fun vs H1 => sp vs H1 Q (WE W σ)) : tCallS sp (WE W) tr σ H Q := h
/-- the exception is one of the clause's -/
theorem k_caught {c : Value} {i j : Nat} {cls : Value} {d : Option Addr} {nx : L2.St → Hp → Prop} {rt : VK} {bk ct : L2.St → Hp → Prop} (hi : i < σ.length) (hc : PySem.W.exmOne K cls c = some true)
    (h : ∀ a, H a = none → nx (((σ.set i (some (.ref a))).set j (some (.ref a))).set i none) (upd H a (ExV cls d a))) : wKept K c i (fun _ _ _ => tAsg (tVar i) (gName j)) (fun _ _ _ _ => False) ⟨nx, rt, bk, ct⟩ cls d σ H :=
  ⟨true, hc, fun _ a na => ⟨.ref a, by rw [List.getElem?_set_self hi], h a na⟩, fun z => Bool.noConfusion z⟩
theorem k_isXone {xs : List V} {Q : VK} {a D : Addr} {c : V} {cv : Value} {b : Bool} (k : KeptAt H a D) (e : ExK K D) (kc : ClsV c cv) (h1 : PySem.W.kitOne K (.ref D) cv = some b) (h : Q (.bl b) H) : rIsA K [.ref a, c] H Q := .inr (.inr (.inl ⟨a, D, c, cv, b, rfl, k, e, kc, h1, h⟩))
theorem k_isXtup {Q : VK} {a D tp : Addr} {cs : List V} {us : List Value} {b : Bool} (k : KeptAt H a D) (e : ExK K D) (hT : H tp = some (.tup cs)) (kc : Paired ClsV cs us) (h1 : PySem.W.kitAny K (.ref D) us = some b) (h : Q (.bl b) H) : rIsA K [.ref a, .ref tp] H Q := .inr (.inr (.inr ⟨a, D, tp, cs, us, b, rfl, k, e, hT, kc, h1, h⟩))
theorem k_isNone {Q : VK} {c : V} {cv : Value} {b : Bool} (kc : ClsV c cv) (h1 : PySem.W.kitOne K (.type "NoneType") cv = some b) (h : Q (.bl b) H) : rIsA K [.non, c] H Q := .inl ⟨_, _, _, _, b, rfl, kc, .base .non, h1, h⟩
theorem k_isOne {Q : VK} {xs : List V} (h : rIsi K xs H Q) : rIsA K xs H Q := .inl h
theorem k_xat {n : Str} {te : TE} {Q : VK} (h : te σ H fun x H1 => ∃ (a C dd : Addr) (fs : List (Str × V)) (v : V), x = .ref a ∧ H1 a = some (ExV (.ref C) (some dd) a) ∧ XfC K C ∧ PySem.W.findIn K (.ref C) n = some none ∧ H1 dd = some (.xd fs) ∧ fs.lookup n = some v ∧ Q v H1) : tXat K n te σ H Q := h
theorem exV_kept {a : Addr} {D : Addr} {d : Option Addr} {H : Hp} (h : H a = some (ExV (.ref D) d a)) (hd : d = none ∨ ∃ dd fs, d = some dd ∧ H dd = some (.xd fs)) : KeptAt H a D := ⟨d, h, hd⟩
end
section
variable {K : PySem.W.Frag} {σ : L2.St} {H : Hp} {D : Ends} {E : XK} {C : Addr} {f : Str} {Q : VK} {te : TE} {tr : TA}
instance {i j : Nat} {tb : WX → TS} : Stp (tTryK K (.ref C) i j tb D σ H) (tb (wKept K (.ref C) i (fun _ _ _ => tAsg (tVar i) (gName j)) (fun _ _ _ _ => False) D) D σ H) := ⟨k_try⟩
instance {sp : Sp} {W : WX} : Stp (tCallS sp (WE W) tr σ H Q) (tr σ H fun vs H1 => sp vs H1 Q (WE W σ)) := ⟨k_callS⟩
instance {n : Str} : Stp (tXat K n te σ H Q) (te σ H fun x H1 => ∃ (a C dd : Addr) (fs : List (Str × V)) (v : V), x = .ref a ∧ H1 a = some (ExV (.ref C) (some dd) a) ∧ XfC K C ∧ PySem.W.findIn K (.ref C) n = some none ∧ H1 dd = some (.xd fs) ∧ fs.lookup n = some v ∧ Q v H1) := ⟨k_xat⟩
instance : Stp (tRaiseP C E D σ H) (E (.ref C) none H) := ⟨k_raiseP⟩
/-- what follows a caught exception is shown once -/
theorem tryjoin {i j : Nat} {tb : WX → TS} (G : Value → Option Addr → L2.St → Hp → Prop) (rest : ∀ cls d σ' H', G cls d σ' H' → wKept K (.ref C) i (fun _ _ _ => tAsg (tVar i) (gName j)) (fun _ _ _ _ => False) D cls d σ' H')
    (h : (∀ cls d σ' H', G cls d σ' H' → wKept K (.ref C) i (fun _ _ _ => tAsg (tVar i) (gName j)) (fun _ _ _ _ => False) D cls d σ' H') → tTryK K (.ref C) i j tb D σ H) : tTryK K (.ref C) i j tb D σ H := h rest
end
section
variable {P : Program} {w : World} {K : PySem.W.Frag} {mg : Str → Option Value} {base : Heap}
/-- such an __init__ keeps its promise; msg, f: its texts -/
theorem init_reads {C B : Addr} {f : Str} {msg : V} {v0 v1 : V} {H : Hp} {Q : VK} (O : OexC K C) (hno : PySem.W.findIn K (.ref C) f = some none) (h : prInit C f v0 v1 H Q) :
    tSeq (tDrop (tVeI K (tCons (tVar 0) (tCons (tC msg) tNil)))) (tOst K f (tVar 0) (tVar 1)) { nx := fun _ H' => Q .non H', rt := Q } [some v0, some v1] H := by
  obtain ⟨a, rfl, ea, q⟩ := h
  refine ⟨_, rfl, a, C, [msg], rfl, (by show 1 ≤ 1000; decide), O, ea, ?_⟩
  exact ⟨_, rfl, _, rfl, a, C, rfl, O, hno, .inl ⟨ea, fun dx nd ne => q dx nd ne⟩⟩
end
end Cm

namespace Cm
open PySem PySem.Spec PyProof.Rows L2

/-! ### how many unlike ints -/
def unl (ns : List Int) : Nat := (PyProof.Rows.firstMet (fun i => ns.getD i 0) ns.length).length
theorem unl_le (ns : List Int) : unl ns ≤ ns.length := PyProof.Rows.firstMet_length_le _ _
def tLenU (K : PySem.W.Frag) (ta : TE) : TE := fun σ H Q => ta σ H fun x H1 => ∃ (l : Addr) (ns : List Int), x = .ref l ∧ SqL K H1 l (ns.map V.int) ∧ ns.length ≤ 4000 ∧ Q (.int (unl ns : Nat)) H1
theorem pe_lenU {X : Cx} {a : Expr} {ta : TE} {p p2 q pos : Pos} (cm : X.calm = true) (gl : Gl X "len") (ml : X.mg "len" = none) (gs : Gl X "set") (ms : X.mg "set" = none) (pa : PE X a ta)
    (se : starEach [a] X.env = (false, eval a X.env) :: starEach [] X.env := by rfl) : PE X (.Call (.Name "len" p) [.Call (.Name "set" p2) [a] [] q] [] pos) (tLenU X.K ta) := by
  constructor
  intro pins s σ H Q I h
  refine Call_ (ld_blt I gl ml boot_len (PyProof.Rows.callWith_builtin1 (PyProof.Rows.args_cons ?_ rfl) rfl rfl))
  refine Call_ (ld_blt I gs ms boot_set (PyProof.Rows.callWith_type1 (PyProof.Rows.args_cons (thn (pa.run pins s σ H _ I h) fun v s1 ⟨x, H1, J, rx, qx⟩ => PyProof.Rows.args_nil ?_) se) se rfl))
  obtain ⟨l, ns, rfl, hq, hl, qx⟩ := qx
  cases rx
  obtain ⟨its, rv, pl, hz⟩ := J.list hq
  have sz1 : its.toArray.size = ns.length := by rw [List.size_toArray, ← rv.length, List.length_map]
  refine call_set_list (J.ok.hd cm) pl.isList (by simpa using RZ.intsAre_vals rv) (by rw [sz1]; unfold scanBound; omega) fun h' tk hS hk => PyProof.Rows.args_nil ?_
  rw [sz1] at hS
  obtain ⟨o, es, ep, t, ho, hex, hd, _, _, _, hf, hn⟩ := hS
  have J2 : Inv X pins σ H1 { s1 with heap := h', toks := tk } := J.kept fun b o e => hk b o (Heap.lt_size e) e
  have hu := unl_le ns
  exact call_len_set ho hex hd hf (by rw [hn]; unfold unl at hu; omega) ⟨.int (unl ns : Nat), H1, J2.tok _, ⟨_, by rw [hn]; rfl⟩, qx⟩

section
variable {K : PySem.W.Frag} {σ : L2.St} {H1 : Hp} {g : TG} {tt : TT} {te : TE} {vs : List Nat}
/-- over a tuple, new objects may be made -/
theorem lc_growT {QD : Addr → Hp → Prop} {α : Type} {a : Addr} {xs : List V} (hs : SqT K H1 a xs) (ps : List α) (hl : xs.length = ps.length) (hz : ps.length ≤ 50000) (f : α → Option V)
    (step : ∀ (i : Nat) x p H', xs[i]? = some x → ps[i]? = some p → Same H1 H' → ∀ (R : V → Hp → Prop) (R0 : Hp → Prop), (∀ y H'', f p = some y → Same H' H'' → R y H'') → (∀ H'', f p = none → Same H' H'' → R0 H'') →
      g x (wipe σ vs) H' fun σ2 H2 => wipe σ2 vs = wipe σ vs ∧ tt σ2 H2 fun b H3 => if b = true then te σ2 H3 R else R0 H3)
    (h : ∀ D H', H1 D = none → Same H1 H' → H' D = some (.lst (ps.filterMap f)) → QD D H') :
    ∃ a', V.ref a = .ref a' ∧ (∃ xs, SqT K H1 a' xs) ∧ ∀ D, H1 D = none → ∃ W : Nat → Nat → Hp → Prop, (∃ m, W 0 m (upd H1 D (.lst []))) ∧ ∀ i m H, W i m H →
      ((Itt K a').stop i H ∧ QD D H) ∨ ((Itt K a').go i H ∧ ∃ Nx : Hp → Prop, (∀ H', Nx H' → ∃ m', m' < m ∧ W (i + 1) m' H') ∧ ∀ x H', (Itt K a').yld i H x H' → g x (wipe σ vs) H' fun σ2 H2 => wipe σ2 vs = wipe σ vs ∧ tt σ2 H2 fun b H3 =>
        if b = true then te σ2 H3 fun y H4 => ∃ acc, H4 D = some (.lst acc) ∧ acc.length < sizeLine ∧ Nx (upd H4 D (.lst (acc ++ [y]))) else Nx H3) := by
  refine ⟨a, rfl, ⟨xs, hs⟩, fun D nD => lc_tup (xs := xs) (fun i H => Same H1 H ∧ H D = some (.lst ((ps.take i).filterMap f))) ⟨same_new nD, by rw [upd_same]; simp⟩ (fun i H _ e => same_seqT e.1 hs) ?_ ?_⟩
  · rintro i x H hx ⟨sm, hD⟩
    have hi : i < xs.length := (List.getElem?_eq_some_iff.mp hx).1
    obtain ⟨p, hp⟩ : ∃ p, ps[i]? = some p := ⟨ps[i]'(by omega), List.getElem?_eq_getElem (by omega)⟩
    have tk := take_filterMap (f := f) hp
    refine step i x p H hx hp sm _ _ (fun y H'' hy s2 => ⟨_, s2 _ _ hD, szl ?_, same_mut (sm.trans s2) nD, ?_⟩) (fun H'' hn s2 => ⟨sm.trans s2, ?_⟩)
    · have := List.length_filterMap_le f (ps.take i)
      rw [List.length_take] at this
      omega
    · rw [upd_same, tk, hy]; rfl
    · rw [tk, hn, s2 _ _ hD]; simp
  · rintro H ⟨sm, hD⟩
    rw [hl, List.take_length] at hD
    exact h D H nD sm hD
end
theorem k_ixN {K : PySem.W.Frag} {H : Hp} {Q : VK} {p : Addr} {ns : List Int} {i : Nat} {x : Int} (hs : SqL K H p (ns.map V.int)) (hx : ns[i]? = some x) (h : Q (.int x) H) : rIxL K (.ref p) (.int i) H Q := k_ixL hs (atI_nat (by rw [List.getElem?_map, hx]; rfl)) h
theorem fm_map {α : Type} (f : α → V) (l : List α) : l.filterMap (fun x => some (f x)) = l.map f := by
  rw [show (fun x => some (f x)) = some ∘ f from rfl, List.filterMap_eq_map]

/-- what follows a statement is shown once, and lies out of sight meanwhile -/
theorem seqO {s1 s2 : TS} {σ : L2.St} {H : Hp} {nx bk ct : L2.St → Hp → Prop} {rt : VK} (G : L2.St → Hp → Prop) (main : ∀ σ H, G σ H → s2 ⟨nx, rt, bk, ct⟩ σ H) (h : ∀ nx' : L2.St → Hp → Prop, (∀ σ H, G σ H → nx' σ H) → s1 ⟨nx', rt, bk, ct⟩ σ H) : tSeq s1 s2 ⟨nx, rt, bk, ct⟩ σ H := h _ main
/-- the last statement of a block -/
theorem lastO {s1 : TS} {σ : L2.St} {H : Hp} {nx bk ct : L2.St → Hp → Prop} {rt : VK} (G : L2.St → Hp → Prop) (main : ∀ σ H, G σ H → nx σ H) (h : ∀ nx' : L2.St → Hp → Prop, (∀ σ H, G σ H → nx' σ H) → s1 ⟨nx', rt, bk, ct⟩ σ H) : s1 ⟨nx, rt, bk, ct⟩ σ H := h _ main

/-! ### texts -/
def rStrInt : List V → Hp → VK → Prop := fun xs H Q => ∃ i : Int, xs = [.int i] ∧ i.natAbs.log2 < 1920 ∧ Q (.str (toString i)) H
theorem q_strI {X : Cx} : CallR X (.type "str") rStrInt := call_str_int
def xAddS : R2 := fun x y H Q => ∃ i j, x = .str i ∧ y = .str j ∧ i.length + j.length ≤ sizeLine ∧ Q (.str (i ++ j)) H
def rJoin (K : PySem.W.Frag) : V → List V → Hp → VK → Prop := fun x xs H Q => ∃ a p, ∃ ys : List Str, x = .str a ∧ xs = [.ref p] ∧ (SqL K H p (ys.map V.str) ∨ SqT K H p (ys.map V.str)) ∧ (ys.map (·.length)).sum + ys.length * a.length ≤ 16777216 ∧ Q (.str (Txt.join a ys)) H
/-- the signs of a text -/
abbrev sg (s : Str) : List Nat := TL.tl s
def mkS (l : List Nat) : Str := ⟨l.toArray⟩
theorem sg_mkS (l : List Nat) : sg (mkS l) = l := rfl
theorem mkS_sg (s : Str) : mkS (sg s) = s := TL.ext_tl rfl
theorem mkS_inj {l m : List Nat} : mkS l = mkS m ↔ l = m := ⟨fun h => by have := congrArg sg h; rwa [sg_mkS, sg_mkS] at this, fun h => by rw [h]⟩
/-- the signs of a whole number -/
def nu (i : Int) : List Nat := sg (Str.ofString (toString i))
section
variable {K : PySem.W.Frag} {σ : L2.St} {H : Hp} {Q : VK} {to te : TE}
instance {r : V → List V → Hp → VK → Prop} : Stp (tM1 r to te σ H Q) (to σ H fun x H1 => (∃ a, x = .str a) ∧ te σ H1 fun y H2 => r x [y] H2 Q) := ⟨fun h => h⟩
instance {r : V → List V → Hp → VK → Prop} : Stp (tM0 r to σ H Q) (to σ H fun x H1 => (∃ a, x = .str a) ∧ r x [] H1 Q) := ⟨fun h => h⟩
instance {s : Str} {R : Prop} : Stp ((∃ a, V.str s = .str a) ∧ R) R := ⟨fun h => ⟨⟨s, rfl⟩, h⟩⟩
instance : Stp (tLenU K te σ H Q) (te σ H fun x H1 => ∃ (l : Addr) (ns : List Int), x = .ref l ∧ SqL K H1 l (ns.map V.int) ∧ ns.length ≤ 4000 ∧ Q (.int (unl ns : Nat)) H1) := ⟨fun h => h⟩
theorem k_lenU {l : Addr} {ns : List Int} (hs : SqL K H l (ns.map V.int)) (hl : ns.length ≤ 4000) (h : Q (.int (unl ns : Nat)) H) : ∃ (l' : Addr) (ns : List Int), V.ref l = .ref l' ∧ SqL K H l' (ns.map V.int) ∧ ns.length ≤ 4000 ∧ Q (.int (unl ns : Nat)) H := ⟨l, ns, rfl, hs, hl, h⟩
/-- a number of at most thirty figures -/
def Num30 (i : Int) : Prop := 0 ≤ i ∧ i < 10 ^ 30
theorem log_lt {n : Nat} (h : n < 2 ^ 1900) : n.log2 < 1920 := by
  by_cases c : n = 0
  · subst c; decide
  · have := (Nat.log2_lt c (k := 1900)).mpr h
    omega
theorem k_strI {i : Int} (h0 : i.natAbs < 2 ^ 1900) (h : Q (.str (mkS (nu i))) H) : rStrInt [.int i] H Q := ⟨i, rfl, log_lt h0, by unfold nu at h; rw [mkS_sg] at h; exact h⟩
theorem len_sg (s : Str) : s.length = (sg s).length := TL.len_tl s
theorem k_addS {s t : Str} (hz : (sg s).length + (sg t).length ≤ 100000) (h : Q (.str (mkS (sg s ++ sg t))) H) : xAddS (.str s) (.str t) H Q := ⟨s, t, rfl, rfl, by rw [len_sg, len_sg]; exact sz hz, by
  have e : s ++ t = mkS (sg s ++ sg t) := TL.ext_tl (TL.tl_append s t)
  rw [e]; exact h⟩
theorem k_join {s : Str} {p : Addr} {ys : List Str} (hp : SqL K H p (ys.map V.str)) (hz : (ys.map (·.length)).sum + ys.length * s.length ≤ 16777216) (h : Q (.str (mkS (TL.joinL (sg s) (ys.map sg)))) H) : rJoin K (.str s) [.ref p] H Q :=
  ⟨s, p, ys, rfl, rfl, .inl hp, hz, by
    have e : Txt.join s ys = mkS (TL.joinL (sg s) (ys.map sg)) := TL.ext_tl (by rw [TL.join_eq]; exact TL.tl_join s ys)
    rw [e]; exact h⟩
theorem k_isiS {s : Str} (h : Q (.bl true) H) : rIsi K [.str s, .ty "str"] H Q := k_isi (.base (.str s)) (by decide +kernel) h
end
/-! ### more of texts -/
def g_tokS (mg : Str → Option Value) (x : Str) : Tok := match mg x with
  | some (.str _ t) => t
  | _ => default
theorem tok_mkS {mg : Str → Option Value} {x n : Str} {t : Tok} (h : mg x = some (.str n t)) : mg x = some (.str n (g_tokS mg x)) := by
  unfold g_tokS
  rw [h]
theorem q_isiT {X : Cx} : CallR X (.builtin "isinstance") (rIsiT X.K) := call_isiT
def rLenStr : List V → Hp → VK → Prop := fun xs H Q => ∃ z : Str, xs = [.str z] ∧ z.length ≤ sizeLine ∧ Q (.int z.length) H
theorem q_lenS {X : Cx} : CallR X (.builtin "len") rLenStr := call_len_str
def xInS : R2 := fun x y H Q => ∃ i j, x = .str i ∧ y = .str j ∧ Q (.bl (!(Builtin.Str.occurrences j i 0 j.length 1).isEmpty)) H
def xNotInS : R2 := fun x y H Q => ∃ i j, x = .str i ∧ y = .str j ∧ Q (.bl (!(!(Builtin.Str.occurrences j i 0 j.length 1).isEmpty))) H
def rFind : V → List V → Hp → VK → Prop := fun x xs H Q => ∃ a b, x = .str a ∧ xs = [.str b] ∧ Q (.int (Txt.find a b)) H
def rSplit : V → List V → Hp → VK → Prop := fun x xs H Q => ∃ a b, x = .str a ∧ xs = [.str b] ∧ (b.length == 0) = false ∧ a.length + 2 ≤ sizeLine ∧ rNewStrs (Txt.split a b) H Q
section
variable {K : PySem.W.Frag} {σ : L2.St} {H : Hp} {Q : VK} {te : TE}
instance {R : It → Hp → Prop} : Stp (iStr te σ H R) (te σ H fun v H1 => ∃ x, v = .str x ∧ R (Its x) H1) := ⟨fun h => h⟩
theorem k_lenS {l : List Nat} (hl : l.length ≤ 100000) (h : Q (.int (l.length : Nat)) H) : rLenStr [.str (mkS l)] H Q := ⟨_, rfl, by rw [len_sg, sg_mkS]; exact sz hl, by rw [len_sg, sg_mkS]; exact h⟩
theorem k_notInS {l : List Nat} {c : Nat} (h : Q (.bl (!decide (c ∈ l))) H) : xNotInS (.str ⟨#[c]⟩) (.str (mkS l)) H Q := ⟨_, _, rfl, rfl, by
  rw [StrLaws.found_one]; exact h⟩
theorem k_inS {l : List Nat} {c : Nat} (h : Q (.bl (decide (c ∈ l))) H) : xInS (.str ⟨#[c]⟩) (.str (mkS l)) H Q := ⟨_, _, rfl, rfl, by
  rw [StrLaws.found_one]; exact h⟩
theorem k_split {l : List Nat} {s : Str} {ps : List (List Nat)} (hl : l.length ≤ 99000) (hs : s.length ≠ 0) (hp : Txt.split (mkS l) s = ps.map mkS) (h : ∀ p H', H p = none → Same H H' → H' p = some (.lst (ps.map fun q => V.str (mkS q))) → Q (.ref p) H') : rSplit (.str (mkS l)) [.str s] H Q :=
  ⟨_, _, rfl, rfl, by simpa using hs, by rw [len_sg, sg_mkS]; exact sz (by omega), fun p np => h p _ np (same_new np) (by rw [upd_same, hp, List.map_map]; rfl)⟩
theorem k_ixS {l : List Nat} {i : Nat} {c : Nat} (hl : l.length ≤ 100000) (hc : l[i]? = some c) (h : Q (.str ⟨#[c]⟩) H) : rIxS (.str (mkS l)) (.int i) H Q := ⟨_, _, c, rfl, rfl, by rw [len_sg, sg_mkS]; exact sz hl, atI_nat hc, h⟩
end
theorem split_one {s : Nat} {ps : List (List Nat)} (hs : s < 256) (hne : ps ≠ []) (hp : ∀ p ∈ ps, s ∉ p) : Txt.split (mkS (TL.joinL [s] ps)) ⟨#[s]⟩ = ps.map mkS := by
  have e : mkS (TL.joinL [s] ps) = Txt.join ⟨#[s]⟩ (ps.map mkS) := TL.ext_tl (by
    rw [TL.join_eq, TL.tl_join, List.map_map]
    show TL.joinL [s] ps = TL.joinL [s] (ps.map (TL.tl ∘ mkS))
    rw [show (TL.tl ∘ mkS) = id from rfl, List.map_id])
  rw [e]
  refine TL.split_join (s := s) (S := []) rfl (by simp [hs]) (by simpa using hne) fun p h => ?_
  obtain ⟨q, hq, rfl⟩ := List.mem_map.mp h
  exact hp q hq
/-- rows, each with its end, and what stands behind the last end -/
theorem rows_join (rs : List (List Nat)) (e : Nat) (z : List Nat) : (rs.map fun r => r ++ [e]).flatten ++ z = TL.joinL [e] (rs ++ [z]) := by
  induction rs with
  | nil => rfl
  | cons r t ih =>
    have : TL.joinL [e] (r :: (t ++ [z])) = r ++ ([e] ++ TL.joinL [e] (t ++ [z])) := by
      cases t <;> rfl
    rw [List.cons_append, this, ← ih]
    simp
theorem sg_str (s : String) : sg (Str.ofString s) = s.toList.map Char.toNat := TL.tl_ofString s
theorem nu_nat (n : Nat) : nu (n : Int) = TL.numL n := TL.tl_num n
theorem nu_len {i : Int} (h : 0 ≤ i) {k : Nat} (k0 : 0 < k) (h1 : i < 10 ^ k) : (nu i).length ≤ k := by
  obtain ⟨n, rfl⟩ := Int.eq_ofNat_of_zero_le h
  rw [nu_nat]
  unfold TL.numL
  rw [List.length_map]
  refine (Nat.length_toDigits_le_iff (by decide) k0).mpr ?_
  have : ((n : Nat) : Int) < ((10 ^ k : Nat) : Int) := by rw [Int.natCast_pow]; exact h1
  exact Int.ofNat_lt.mp this
/-- signs behind one another -/
theorem joinL_nil (ps : List (List Nat)) : TL.joinL [] ps = ps.flatten := by
  induction ps with
  | nil => rfl
  | cons p r ih => cases r with
    | nil => simp [TL.joinL]
    | cons q r => show p ++ ([] ++ TL.joinL [] (q :: r)) = _; rw [ih]; simp
theorem joinL_cons (S p : List Nat) (r : List (List Nat)) : TL.joinL S (p :: r) = p ++ (r.map fun q => S ++ q).flatten := by
  induction r generalizing p with
  | nil => simp [TL.joinL]
  | cons q r ih => show p ++ (S ++ TL.joinL S (q :: r)) = _; rw [ih]; simp
theorem sum_le {l : List Nat} {b : Nat} (h : ∀ x ∈ l, x ≤ b) : l.sum ≤ l.length * b := by
  induction l with
  | nil => simp
  | cons x r ih =>
    have h1 := ih fun y hy => h y (List.mem_cons_of_mem _ hy)
    have h2 := h x List.mem_cons_self
    rw [List.sum_cons, List.length_cons, Nat.add_mul]
    omega
theorem flat_le {l : List (List Nat)} {b : Nat} (h : ∀ x ∈ l, x.length ≤ b) : l.flatten.length ≤ l.length * b := by
  rw [List.length_flatten]
  have := sum_le (l := l.map List.length) (b := b) fun x hx => by
    obtain ⟨y, hy, rfl⟩ := List.mem_map.mp hx
    exact h y hy
  rw [List.length_map] at this
  exact this
end Cm

namespace Cm
open PySem PySem.Spec PyProof.Rows L2

/-! ### max(d.values()) -/
def tMaxVals (td : TE) : TE := fun σ H Q => td σ H fun x H1 => ∃ (a : Addr) (kvs : List (Key × V)) (is : List Int), x = V.ref a ∧ H1 a = some (.dK kvs) ∧ kvs.map (·.2) = is.map V.int ∧ is ≠ [] ∧ ∀ m, m ∈ is → (∀ j ∈ is, j ≤ m) → Q (.int m) H1
theorem pe_maxVals {X : Cx} {o : Expr} {p pos apos mpos : Pos} {td : TE} (hc : X.calm = true) (hg : Gl X "max") (hm : X.mg "max" = none) (hd : PE X o td) (hbase : attributeBase o "values" X.env (eval o X.env) = eval o X.env := by rfl) (hline : (apos.endLine == mpos.line) = true := by rfl)
    (hse : starEach [Expr.Call (.Attribute o "values" apos) [] [] mpos] X.env = [(false, eval (Expr.Call (.Attribute o "values" apos) [] [] mpos) X.env)] := by rfl) :
    PE X (.Call (.Name "max" p) [.Call (.Attribute o "values" apos) [] [] mpos] [] pos) (tMaxVals td) := by
  constructor
  intro pins s σ H Q I h
  refine wpAny_Call_Name_kw (ld_blt I hg hm (u := .builtin "max") (by first | rfl | decide +kernel) ?_ (by first | decide +kernel | decide) (by first | decide +kernel | decide))
  rw [hse]
  refine PySem.callWith_builtin1 (wpAny_Call_method0_late hbase hline (thn (hd.run pins s σ H _ I h) ?_))
  rintro v s1 ⟨x, H1, I1, r1, a, kvs, is, rfl, ha, hv, hne, q⟩
  obtain rfl : v = Value.ref a := r1
  obtain ⟨_, hsys, vs, rel, dof⟩ := dk_of I1.hok ha
  obtain ⟨ep, dat⟩ := dof.dictAt
  obtain ⟨ob, es, ho, ex, hdat, hko, hpr, hnd⟩ := id dat
  have lv : vs.length = is.length := by
    have e1 : kvs.length = is.length := by simpa using congrArg List.length hv
    rw [← e1]; exact (KV.length rel).symm
  have l0 : 0 < is.length := List.length_pos_iff.mpr hne
  have vals : ∀ (i : Nat) (v : Value), (∃ k, vs[i]? = some (k, v)) → ∃ t, v = Value.int (is.getD i 0) t := by
    rintro i v ⟨k, hk⟩
    obtain ⟨x, h1, h2⟩ := KV.at' rel hk
    have e1 : (is.map V.int)[i]? = some x := by rw [← hv, List.getElem?_map, h1] <;> rfl
    rw [List.getElem?_map] at e1
    obtain ⟨j, hj, rfl⟩ := Option.map_eq_some_iff.mp e1
    obtain ⟨t, e3⟩ := h2
    exact ⟨t, by rw [e3, List.getD_eq_getElem?_getD, hj] <;> rfl⟩
  refine ⟨"dict", "dict.values", F.plainAttrs_dict, F.slot_dict_values, F.type_dict_values, ⟨ob, ho, ex.1⟩, fun b e => by cases e; exact ⟨ob, ho, ex.2.1⟩, Calls.callWith_builtin rfl (PySem.evalArgs_none ?_)⟩
  refine call_meetsIn F.slot_dict_values ⟨ob, ho, ex.1⟩ F.entry_dict_values (F.args_dict_values_1 _) (meets_dict_values (mixKind X.prog X.w) a hsys) ⟨⟨vs, dof⟩, ?_⟩
  have up : ∀ b u, s1.heap.get? b = some u → (s1.heap.push { cls := .type "dict_values", data := .fields #[.ref a] }).get? b = some u := fun b u e => Heap.get?_push_of_some _ e
  have dat1 := dat.keep up
  have alt : a < s1.heap.objs.size := Heap.lt_size ho
  have sz : (s1.heap.push { cls := .type "dict_values", data := .fields #[.ref a] }).objs.size = s1.heap.objs.size + 1 := Heap.size_push _ _
  refine call_max_walk (wpAny_pyIter_values (v := s1.heap.objs.size) (d := a) ⟨_, Heap.get?_push_size _ rfl, rfl, rfl⟩ dat1 ?_)
  refine ⟨_, _, _, _, _, _, _, rfl, Walks.dictValues (knd := mixKind X.prog X.w) (A := X.A.in1) (I.ok.hd hc) (s1.heap.push { cls := .type "dict_values", data := .fields #[.ref a] }).objs.size a (by rw [sz]; exact Nat.ne_of_lt (Nat.lt_succ_of_lt alt)) vs ep,
    ⟨⟨_, Heap.get?_push_size _ rfl, rfl, rfl⟩, dat1.keep fun b u e => Heap.get?_push_of_some _ e⟩, ?_, by omega, CmpOf.ints_gt (fun i => is.getD i 0) vals, ?_⟩
  · intro b hb
    show b < ((s1.heap.push _).push _).objs.size
    rw [Heap.size_push, Heap.size_push]
    rw [sz] at hb
    rcases List.mem_cons.mp hb with e | hb
    · rw [e]; exact Nat.lt_succ_self _
    · rw [show b = a from List.mem_singleton.mp hb]
      exact Nat.lt_succ_of_lt (Nat.lt_succ_of_lt alt)
  · intro v h' tk hP hk
    obtain ⟨t, rfl⟩ := vals _ v hP
    obtain ⟨b1, b2⟩ := argBest_gt (fun i => is.getD i 0) (vs.length - 1)
    refine ⟨.int _, H1, I1.kept (t' := tk) fun b u e => hk b u (fun hmem => ?_) (Heap.get?_push_of_some _ (up b u e)), ⟨t, rfl⟩, q _ ?_ ?_⟩
    · have e1 := List.mem_singleton.mp hmem
      have e2 := Heap.lt_size e
      rw [sz] at e1
      rw [e1] at e2
      exact Nat.lt_irrefl _ (Nat.lt_of_lt_of_le e2 (Nat.le_succ _))
    · have hb : argBest (fun i j => decide (is.getD i 0 > is.getD j 0)) (vs.length - 1) < is.length := by omega
      rw [List.getD_eq_getElem?_getD, List.getElem?_eq_getElem hb]
      exact List.getElem_mem hb
    · intro j hj
      obtain ⟨i, hi, rfl⟩ := List.mem_iff_getElem.mp hj
      have e2 : is.getD i 0 = is[i] := by rw [List.getD_eq_getElem?_getD, List.getElem?_eq_getElem hi] <;> rfl
      rw [← e2]
      exact b2 i (by omega)

/-! ### fields and methods of an instance -/
section
variable {K : PySem.W.Frag} {σ : L2.St} {H : Hp} {Q : VK} {ta tv : TE} {t : TA} {f m : Str} {a C dx : Addr} {fs : List (Str × V)}
/-- x.f is read -/
def gF (K : PySem.W.Frag) (f : Str) (x : V) (H : Hp) (Q : VK) : Prop := ∃ a C dx fs v, x = .ref a ∧ H a = some (.ins C dx fs) ∧ Cls K C ∧ NoAttr K C f ∧ fs.lookup f = some v ∧ Q v H
instance : Stp (tFld K ta f σ H Q) (ta σ H fun x H1 => gF K f x H1 Q) := ⟨id⟩
theorem k_gF {v : V} (e : H a = some (.ins C dx fs)) (c : Cls K C) (n : NoAttr K C f) (l : fs.lookup f = some v) (h : Q v H) : gF K f (.ref a) H Q := ⟨a, C, dx, fs, v, rfl, e, c, n, l, h⟩
/-- x.f = y is written -/
def pF (K : PySem.W.Frag) (f : Str) (x y : V) (H : Hp) (N : Hp → Prop) : Prop := ∃ a C dx fs, x = .ref a ∧ H a = some (.ins C dx fs) ∧ Cls K C ∧ NoAttr K C f ∧ fs.length < 1000 ∧ N (upd H a (.ins C dx (putF f y fs)))
instance {nx bk ct : L2.St → Hp → Prop} {rt : VK} : Stp (sFld K ta tv f ⟨nx, rt, bk, ct⟩ σ H) (tv σ H fun y H1 => ta σ H1 fun x H2 => pF K f x y H2 (nx σ)) := ⟨id⟩
theorem k_pF {y : V} {N : Hp → Prop} (e : H a = some (.ins C dx fs)) (c : Cls K C) (n : NoAttr K C f) (l : fs.length < 1000) (h : N (upd H a (.ins C dx (putF f y fs)))) : pF K f (.ref a) y H N := ⟨a, C, dx, fs, rfl, e, c, n, l, h⟩
/-- x.m is a method's call -/
def mF (C : Addr) (m : Str) (x : V) (H : Hp) (P : Prop) : Prop := ∃ a dx fs, x = .ref a ∧ H a = some (.ins C dx fs) ∧ fs.lookup m = none ∧ P
instance {sp : Sp} {E : XK} : Stp (tMeth C m sp [] E ta t σ H Q) (ta σ H fun x H1 => mF C m x H1 (t σ H1 fun vs H2 => sp (x :: vs) H2 Q E)) := ⟨fun h => by
  unfold tMeth
  simp only [List.append_nil]
  exact h⟩
theorem k_mF {P : Prop} (e : H a = some (.ins C dx fs)) (l : fs.lookup m = none) (h : P) : mF C m (.ref a) H P := ⟨a, dx, fs, rfl, e, l, h⟩
/-- a new instance -/
def newI (C : Addr) (sp : Sp) (E : XK) (vs : List V) (H : Hp) (Q : VK) : Prop := ∀ x dx, H x = none → H dx = none → dx ≠ x → sp (.ref x :: vs) (upd (upd H dx (.own x)) x (.ins C dx [])) (fun v H2 => v = .non ∧ Q (.ref x) H2) E
instance {sp : Sp} {E : XK} : Stp (tMake C sp [] E t σ H Q) (t σ H fun vs H1 => newI C sp E vs H1 Q) := ⟨fun h => by
  unfold tMake
  simp only [List.append_nil]
  exact h⟩
end

/-! ### methods and makings that may raise, in a try -/
section
variable {X : Cx} {CX : CXT} {k : Nat} {f C : Addr} {fd : FuncData} {ps : List Str} {sp : Sp} {E : L2.St → XK} {x m : Str} {p pos apos : Pos} {e o : Expr} {es : List Expr} {ta : TE} {t : TA}
def tMtS (C : Addr) (m : Str) (sp : Sp) (E : L2.St → XK) (ta : TE) (t : TA) : TE := fun σ H Q => ta σ H fun x H1 => ∃ a dx fs, x = .ref a ∧ H1 a = some (.ins C dx fs) ∧ fs.lookup m = none ∧ t σ H1 fun vs H2 => sp (x :: vs) H2 Q (E σ)
theorem pe_mtS {pl : Sem Bool} (he : PE X o ta) (c : Cls X.K C) (hm : Meth X.K C m f) (F : FnOk X.prog X.w X.K X.mg X.base CX k f fd ps sp) (hr : Room k X.A) (hb : Binds X.K fd ps []) (hx : ∀ σ, PassesAt CX X σ (E σ)) (ha : PA X (e :: es) t)
    (hst : starEach (e :: es) X.env = (false, eval e X.env) :: starEach es X.env := by rfl) (hpl : (backTo pos (starEach es X.env)).any (·.1) = false := by rfl)
    (ht : eval (.Call (.Attribute o m apos) (e :: es) [] pos) X.env = (do
      let ov ← eval o X.env
      standAt apos.atName
      let (f, first) ← holding [ov] (getMethod ov m pl)
      callWith pos f first (backTo pos (starEach (e :: es) X.env)) (backToKw pos (keywordEach [] X.env))) := by rfl) :
    PE X (.Call (.Attribute o m apos) (e :: es) [] pos) (tMtS C m sp E ta t) := by
  refine ⟨fun pins s σ H Q I h => ?_⟩
  refine PySem.W.methodCall_KW (pl := pl) (thn (he.run pins s σ H _ I h) fun u s1 ⟨x, H1, I1, rx, a, dx, fs, ex, ea, l, q⟩ => ?_) ht
  subst ex
  obtain rfl : u = Value.ref a := rx
  refine getmeth_ok I1 ea c hm l ?_
  refine PySem.W.callWith_K (first := [.ref a]) (h₀ := X.base) I.ok.mod.kin hm.kp (thn (ha.run pos pins s1 σ H1 _ I1 q) fun us s2 ⟨vs, H2, I2, r, q2⟩ => ⟨I2.kIn, ?_⟩) hst hpl
  exact run_fnS (us := .ref a :: us) (vs := .ref a :: vs) F hr hb (hx σ) I2 (.cons rfl r) q2
def tMakeS (C : Addr) (sp : Sp) (E : L2.St → XK) (t : TA) : TE := fun σ H Q => t σ H fun vs H1 => ∀ x dx, H1 x = none → H1 dx = none → dx ≠ x → sp (.ref x :: vs) (upd (upd H1 dx (.own x)) x (.ins C dx [])) (fun v H2 => v = .non ∧ Q (.ref x) H2) (E σ)
theorem pe_makeS (M : Mk X.K C f) (F : FnOk X.prog X.w X.K X.mg X.base CX k f fd ps sp) (hr : Room (k + 1) X.A) (hg : Gl X x) (hm : X.mg x = some (.ref C)) (hb : Binds X.K fd ps []) (hx : ∀ σ, PassesAt CX X σ (E σ))
    (ha : PA X (e :: es) t) (hdb : (x == ("__debug__" : Str)) = false := by decide) (he : starEach (e :: es) X.env = (false, eval e X.env) :: starEach es X.env := by rfl) (hpl : (backTo pos (starEach es X.env)).any (·.1) = false := by rfl) :
    PE X (.Call (.Name x p) (e :: es) [] pos) (tMakeS C sp E t) := by
  refine ⟨fun pins s σ H Q I h => ?_⟩
  refine wpAny_Call_Name_kw (ld_glob I hg hm ?_ hdb)
  refine PySem.W.callWith_K (h₀ := X.base) I.ok.mod.kin M.kp (thn (ha.run pos pins s σ H _ I h) fun us s1 ⟨vs, H1, I1, r, q⟩ => ⟨I1.kIn, ?_⟩) he hpl
  have hq := q (s1.heap.objs.size + 1) s1.heap.objs.size (I1.hok.fresh (Nat.le_succ _)) (I1.hok.fresh (Nat.le_refl _)) (Nat.ne_of_lt (Nat.lt_succ_self _))
  have I2 := Inv.made (C := C) I1
  have r2 : Vals (V.ref (s1.heap.objs.size + 1) :: vs) (Value.ref (s1.heap.objs.size + 1) :: us) := .cons rfl r
  have hl : (Value.ref (s1.heap.objs.size + 1) :: us ++ []).length = ps.length := by
    have e := r2.length
    rw [F.len _ _ _ _ hq] at e
    rw [List.append_nil]
    exact e.symm
  have b := hb _ (Value.ref (s1.heap.objs.size + 1) :: us) I2.kIn hl
  rw [List.append_nil] at b
  refine wpAny_call (make_map (f := f) I1.kIn M.makes M.init (beq_iff_eq.mp M.fn) (codeAny_mono (F.run _ X.stack _ _ ⟨Value.ref (s1.heap.objs.size + 1) :: us, []⟩ (Value.ref (s1.heap.objs.size + 1) :: us) _ _ (E σ) (hr.make C us [])
    (I2.env0.make C us []) b r2 hq) fun r s' hq' => ?_))
  cases r with
  | error e => exact hx σ pins _ _ e s' I2 hq'
  | ok fl =>
    cases fl with
    | ret u =>
      obtain ⟨v, H', I3, rv, ev, q3⟩ := I2.after hq'
      subst ev
      exact ⟨rv, ⟨V.ref (s1.heap.objs.size + 1), H', I3, rfl, q3⟩⟩
    | next => exact False.elim hq'
    | brk => exact False.elim hq'
    | cont => exact False.elim hq'
end
section
variable {σ : L2.St} {H : Hp} {Q : VK} {ta : TE} {t : TA} {m : Str} {C : Addr}
instance {sp : Sp} {E : L2.St → XK} : Stp (tMtS C m sp E ta t σ H Q) (ta σ H fun x H1 => mF C m x H1 (t σ H1 fun vs H2 => sp (x :: vs) H2 Q (E σ))) := ⟨id⟩
instance {sp : Sp} {E : L2.St → XK} : Stp (tMakeS C sp E t σ H Q) (t σ H fun vs H1 => newI C sp (E σ) vs H1 Q) := ⟨id⟩
end
/-! ### a comprehension over a range whose items are new things, each by itself -/
section
variable {K : PySem.W.Frag} {σ : L2.St} {H1 : Hp} {Q : VK} {g : TG} {tt : TT} {te : TE} {vs : List Nat}
theorem lc_rowsR {QD : Addr → Hp → Prop} {lo : Int} {n : Nat} (hz : n ≤ 50000) (F : Nat → HO)
    (step : ∀ (i : Nat) H', i < n → Same H1 H' → ∀ (R : V → Hp → Prop) (R0 : Hp → Prop), (∀ p H'', H' p = none → Same H' H'' → H'' p = some (F i) → R (.ref p) H'') →
      g (.int (lo + (i : Nat))) (wipe σ vs) H' fun σ2 H2 => wipe σ2 vs = wipe σ vs ∧ tt σ2 H2 fun b H3 => if b = true then te σ2 H3 R else R0 H3)
    (h : ∀ (D : Addr) (rs : List Addr) (H' : Hp), H1 D = none → Same H1 H' → H' D = some (.lst (rs.map V.ref)) → rs.length = n → rs.Nodup → D ∉ rs → (∀ r ∈ rs, H1 r = none) → (∀ (j : Nat) r, rs[j]? = some r → H' r = some (F j)) → QD D H') :
    ∀ D, H1 D = none → ∃ W : Nat → Nat → Hp → Prop, (∃ m, W 0 m (upd H1 D (.lst []))) ∧ ∀ i m H, W i m H →
      ((Itr lo n).stop i H ∧ QD D H) ∨ ((Itr lo n).go i H ∧ ∃ Nx : Hp → Prop, (∀ H', Nx H' → ∃ m', m' < m ∧ W (i + 1) m' H') ∧ ∀ x H', (Itr lo n).yld i H x H' → g x (wipe σ vs) H' fun σ2 H2 => wipe σ2 vs = wipe σ vs ∧ tt σ2 H2 fun b H3 =>
        if b = true then te σ2 H3 fun y H4 => ∃ acc, H4 D = some (.lst acc) ∧ acc.length < sizeLine ∧ Nx (upd H4 D (.lst (acc ++ [y]))) else Nx H3) := by
  refine fun D nD => lc_range (fun i H => Same H1 H ∧ ∃ rs : List Addr, H D = some (.lst (rs.map V.ref)) ∧ rs.length = i ∧ rs.Nodup ∧ D ∉ rs ∧ (∀ r ∈ rs, H1 r = none) ∧ ∀ (j : Nat) r, rs[j]? = some r → H r = some (F j))
    ⟨same_new nD, [], by rw [upd_same]; rfl, rfl, List.nodup_nil, by simp, (fun r z => by cases z), (fun j r z => by simp at z)⟩ ?_ ?_
  · rintro i H hi ⟨sm, rs, hD, lr, nd, dr, fr, at_⟩
    refine step i H hi sm _ _ (fun p H'' np s2 ep => ⟨_, s2 _ _ hD, szl (by simp; omega), same_mut (sm.trans s2) nD, rs ++ [p], ?_, by simp [lr], ?_, ?_, ?_, ?_⟩)
    · rw [upd_same, List.map_append]; rfl
    · rw [List.nodup_append]
      refine ⟨nd, by simp, fun r hr q hq e => ?_⟩
      rw [List.mem_singleton.mp hq] at e
      subst e
      obtain ⟨j, hj⟩ := List.mem_iff_getElem?.mp hr
      rw [at_ j _ hj] at np
      cases np
    · intro z
      rcases List.mem_append.mp z with z | z
      · exact dr z
      · rw [List.mem_singleton.mp z] at hD
        rw [hD] at np
        cases np
    · intro r hr
      rcases List.mem_append.mp hr with hr | hr
      · exact fr r hr
      · rw [List.mem_singleton.mp hr]; exact sm.free np
    · intro j r hr
      have rD : r ≠ D := fun e => by
        rcases List.mem_append.mp (List.mem_of_getElem? hr) with z | z
        · exact dr (e ▸ z)
        · rw [List.mem_singleton.mp z] at e
          rw [e, hD] at np
          cases np
      rw [upd_ne rD]
      by_cases c : j < rs.length
      · rw [List.getElem?_append_left c] at hr
        exact s2 _ _ (at_ j r hr)
      · have hj : j = i := by
          have := (List.getElem?_eq_some_iff.mp hr).1
          simp at this
          omega
        subst hj
        rw [List.getElem?_append_right (by omega), lr, Nat.sub_self] at hr
        cases hr
        exact ep
  · rintro H ⟨sm, rs, hD, lr, nd, dr, fr, at_⟩
    exact h D rs H nD sm hD lr nd dr fr at_
end
/-! ### dicts with whole numbers for keys -/
section
variable {σ : L2.St} {H : Hp} {Q : VK} {td ty tx tv : TE} {p : Addr} {kvs : List (Key × V)} {t : Int} {v z : V} {nx bk ct : L2.St → Hp → Prop} {rt : VK}
def newD (H : Hp) (Q : VK) : Prop := ∀ p, H p = none → Q (.ref p) (upd H p (.dK []))
instance : Stp (tDNewK σ H Q) (newD H Q) := ⟨id⟩
theorem kD (h : ∀ p H', H p = none → Same H H' → H' p = some (.dK []) → Q (.ref p) H') : newD H Q := fun p np => h p _ np (same_new np) upd_same
def aD (x : V) (H : Hp) (R : Addr → Prop) : Prop := ∃ a, x = .ref a ∧ IsD H a ∧ R a
def gD2 (a : Addr) (y z : V) (H : Hp) (Q : VK) : Prop := ∃ o, DGet H a y o ∧ Q (o.getD z) H
instance : Stp (tDGet2 td ty tx σ H Q) (td σ H fun x H1 => aD x H1 fun a => ty σ H1 fun y H2 => tx σ H2 fun z H3 => gD2 a y z H3 Q) := ⟨id⟩
theorem k_aD {R : Addr → Prop} (e : H p = some (.dK kvs)) (h : R p) : aD (.ref p) H R := ⟨p, rfl, .inl ⟨kvs, .inl e⟩, h⟩
theorem k_gD2 (e : H p = some (.dK kvs)) (h : Q ((valV kvs (.inl t)).getD z) H) : gD2 p (.int t) z H Q := ⟨_, DGet.k (k := .inl t) e, h⟩
def pD (x y v : V) (H : Hp) (N : Hp → Prop) : Prop := ∃ a H4, x = .ref a ∧ DPut H a y v H4 ∧ N H4
instance : Stp (sDPut td ty tv ⟨nx, rt, bk, ct⟩ σ H) (tv σ H fun v H1 => td σ H1 fun x H2 => ty σ H2 fun y H3 => pD x y v H3 (nx σ)) := ⟨id⟩
theorem k_pD {N : Hp → Prop} (e : H p = some (.dK kvs)) (l : kvs.length < 100000) (h : N (upd H p (.dK (putK kvs (.inl t) v)))) : pD (.ref p) (.int t) v H N := ⟨p, _, rfl, DPut.k (k := .inl t) e (szl l), h⟩
def gMx (x : V) (H : Hp) (Q : VK) : Prop := ∃ (a : Addr) (kvs : List (Key × V)) (is : List Int), x = V.ref a ∧ H a = some (.dK kvs) ∧ kvs.map (·.2) = is.map V.int ∧ is ≠ [] ∧ ∀ m, m ∈ is → (∀ j ∈ is, j ≤ m) → Q (.int m) H
instance : Stp (tMaxVals td σ H Q) (td σ H fun x H1 => gMx x H1 Q) := ⟨id⟩
theorem k_gMx {is : List Int} (e : H p = some (.dK kvs)) (hv : kvs.map (·.2) = is.map V.int) (ne : is ≠ []) (h : ∀ m, m ∈ is → (∀ j ∈ is, j ≤ m) → Q (.int m) H) : gMx (.ref p) H Q := ⟨p, kvs, is, rfl, e, hv, ne, h⟩
end
/-! ### list.insert -/
def rIns : V → List V → Hp → VK → Prop := fun x vs H Q => ∃ (l : Addr) (xs : List V) (i : Int) (y : V), x = .ref l ∧ vs = [.int i, y] ∧ H l = some (.lst xs) ∧ xs.length < sizeLine ∧ 0 ≤ i ∧ i < 2 ^ 63 ∧ Q .non (upd H l (.lst (xs.take i.toNat ++ [y] ++ xs.drop i.toNat)))
theorem k_ins {H : Hp} {Q : VK} {l : Addr} {xs : List V} {i : Int} {y : V} (e : H l = some (.lst xs)) (hl : xs.length < 100000) (h0 : 0 ≤ i) (h1 : i < 1000000) (h : Q .non (upd H l (.lst (xs.take i.toNat ++ [y] ++ xs.drop i.toNat)))) : rIns (.ref l) [.int i, y] H Q := ⟨l, xs, i, y, rfl, rfl, e, szl hl, h0, by omega, h⟩
/-! ### reads of a dict, loops over its keys -/
section
variable {σ : L2.St} {H : Hp} {Q : VK} {td ty : TE} {p : Addr} {kvs : List (Key × V)} {t : Int} {v : V} {nx bk ct : L2.St → Hp → Prop} {rt : VK}
def gD1 (x y : V) (H : Hp) (Q : VK) : Prop := ∃ a v, x = .ref a ∧ DGet H a y (some v) ∧ Q v H
instance : Stp (tDGet td ty σ H Q) (td σ H fun x H1 => ty σ H1 fun y H2 => gD1 x y H2 Q) := ⟨id⟩
theorem k_gD1 (e : Rd H p (.dK kvs)) (hv : valV kvs (.inl t) = some v) (h : Q v H) : gD1 (.ref p) (.int t) H Q := ⟨p, v, rfl, .inl ⟨kvs, .inl t, e, rfl, hv.symm⟩, h⟩
theorem upd_self {H : Hp} {d : Addr} {u : HO} (h : H d = some u) : upd H d u = H := by
  funext b
  unfold upd
  split
  · rename_i e; rw [e, h]
  · rfl
/-- a for over the keys of a dict of numbers; the heap stays -/
theorem forD {g : TG} {tb : TS} {D : Ends} (hd : H p = some (.dK kvs)) (Pv : Nat → L2.St → Prop) (h0 : Pv 0 σ)
    (htd : ∀ (R : V → Hp → Prop) od, R (.ref p) (upd H p (.frz od (.dK kvs))) → td σ (upd H p (.frz od (.dK kvs))) R)
    (hs : ∀ (od : Obj) (i : Nat) k v σ, kvs[i]? = some (k, v) → Pv i σ → ∀ (N B C : L2.St → Hp → Prop) (rt : VK), (∀ σ', Pv (i + 1) σ' → N σ' (upd H p (.frz od (.dK kvs)))) → (∀ v, D.rt v H → rt v (upd H p (.frz od (.dK kvs)))) →
      g (kV k) σ (upd H p (.frz od (.dK kvs))) fun σ2 H2 => tb ⟨N, rt, B, C⟩ σ2 H2)
    (fin : ∀ σ', Pv kvs.length σ' → D.nx σ' H) : tLock (tFor (iKeys td) g tb) D σ H := by
  refine ⟨p, .dK kvs, hd, trivial, fun od => ?_⟩
  refine htd _ od ⟨p, od, rfl, .inl ⟨kvs, upd_same, ?_⟩⟩
  have back : upd (upd H p (.frz od (.dK kvs))) p (.dK kvs) = H := by rw [upd_upd, upd_self hd]
  refine for_it walk_keys (fun i σ' H' => H' = upd H p (.frz od (.dK kvs)) ∧ Pv i σ') ⟨rfl, h0⟩ (fun i σ' H' _ e => by rw [e.1]; exact upd_same) ?_ ?_
  · rintro i x σ' H' H'' hi ⟨rfl, pv⟩ ⟨rfl, k, v, hkv, rfl⟩
    exact hs od i k v σ' hkv pv _ _ _ _ (fun σ' h => ⟨rfl, h⟩) (fun v h => ⟨upd_same, by rw [back]; exact h⟩)
  · rintro σ' H' ⟨rfl, pv⟩
    exact ⟨upd_same, by rw [back]; exact fin σ' pv⟩
end
/-- a dict of counts -/
structure Cnt (kvs : List (Key × V)) (c : Int → Nat) (m : Nat) : Prop where
  isI : ∃ is : List Int, kvs.map (·.2) = is.map V.int
  val : ∀ t, valV kvs (.inl t) = if c t = 0 then none else some (.int (c t : Nat))
  len : kvs.length ≤ m
theorem Cnt.nil : Cnt [] (fun _ => 0) 0 := ⟨⟨[], rfl⟩, fun t => by rw [valV_nil]; rfl, Nat.le_refl _⟩
theorem putK_lenN (c : List (Key × V)) (k : Key) (x : V) : (putK c k x).length ≤ c.length + 1 := by
  unfold putK
  split
  · rw [List.length_map]; omega
  · rw [List.length_append]; simp
theorem mapK_ints {k : Key} {x : Int} : ∀ (kvs : List (Key × V)) (is : List Int), kvs.map (·.2) = is.map V.int → ∃ is : List Int, (kvs.map fun kv => if kv.1 = k then (kv.1, V.int x) else kv).map (·.2) = is.map V.int
  | [], _, _ => ⟨[], rfl⟩
  | a :: r, [], h => by simp at h
  | a :: r, j :: js, h => by
    simp only [List.map_cons, List.cons.injEq] at h
    obtain ⟨is', h'⟩ := mapK_ints r js h.2
    by_cases c : a.1 = k
    · exact ⟨x :: is', by rw [List.map_cons, List.map_cons, if_pos c, h']; rfl⟩
    · exact ⟨j :: is', by rw [List.map_cons, List.map_cons, if_neg c, h', h.1]; rfl⟩
theorem putK_ints {kvs : List (Key × V)} {k : Key} {x : Int} (h : ∃ is : List Int, kvs.map (·.2) = is.map V.int) : ∃ is : List Int, (putK kvs k (.int x)).map (·.2) = is.map V.int := by
  obtain ⟨is, h⟩ := h
  unfold putK
  split
  · exact mapK_ints kvs is h
  · exact ⟨is ++ [x], by rw [List.map_append, List.map_append, h]; rfl⟩
theorem Cnt.put {kvs : List (Key × V)} {c : Int → Nat} {m : Nat} (h : Cnt kvs c m) (t : Int) {x : Int} (hx : x = ((c t + 1 : Nat) : Int)) : Cnt (putK kvs (.inl t) (.int x)) (fun s => if s = t then c s + 1 else c s) (m + 1) := by
  obtain ⟨h1, h2, h3⟩ := h
  refine ⟨putK_ints h1, fun s => ?_, Nat.le_trans (putK_lenN _ _ _) (by omega)⟩
  rw [valV_put]
  by_cases e : s = t
  · subst e
    rw [if_pos rfl, if_pos rfl, if_neg (by omega), hx]
  · rw [if_neg (fun z => e (by simpa using z)), if_neg e]
    exact h2 s
theorem Cnt.get {kvs : List (Key × V)} {c : Int → Nat} {m : Nat} (h : Cnt kvs c m) (t : Int) : (valV kvs (.inl t)).getD (.int 0) = .int (c t : Nat) := by
  rw [h.val t]
  split
  · rename_i e
    rw [e]; rfl
  · rfl
theorem Cnt.mem {kvs : List (Key × V)} {c : Int → Nat} {m : Nat} (h : Cnt kvs c m) {is : List Int} (hi : kvs.map (·.2) = is.map V.int) {t : Int} (ht : c t ≠ 0) : ((c t : Nat) : Int) ∈ is := by
  have hv := h.val t
  rw [if_neg ht] at hv
  unfold valV at hv
  obtain ⟨kv, hk, e⟩ := Option.map_eq_some_iff.mp hv
  have hm : V.int ((c t : Nat) : Int) ∈ is.map V.int := by
    rw [← hi, ← e]
    exact List.mem_map_of_mem (List.mem_of_find?_eq_some hk)
  obtain ⟨y, hy, e2⟩ := List.mem_map.mp hm
  cases e2
  exact hy
theorem Cnt.ext {kvs : List (Key × V)} {c c' : Int → Nat} {m m' : Nat} (h : Cnt kvs c m) (e : ∀ t, c t = c' t) (l : m ≤ m') : Cnt kvs c' m' := by
  obtain rfl : c = c' := funext e
  exact ⟨h.isI, h.val, Nat.le_trans h.len l⟩
/-! ### a list told by its places -/
theorem getR {n l : Nat} {f : Nat → Int} (h : l < n) : ((List.range n).map f)[l]? = some (f l) := by
  rw [List.getElem?_map, List.getElem?_range h]; rfl
theorem setR {n l : Nat} {f : Nat → Int} {v : Int} : ((List.range n).map f).set l v = (List.range n).map fun j => if j = l then v else f j := by
  refine List.ext_getElem? fun k => ?_
  rw [List.getElem?_set]
  by_cases c : l = k
  · subst c
    rw [if_pos rfl]
    by_cases d : l < n
    · rw [if_pos (by simpa using d), getR d, if_pos rfl]
    · rw [if_neg (by simpa using d), List.getElem?_eq_none (by simpa using d)]
  · rw [if_neg c]
    by_cases d : k < n
    · rw [getR d, getR d, if_neg (fun e => c e.symm)]
    · rw [List.getElem?_eq_none (by simpa using d), List.getElem?_eq_none (by simpa using d)]
/-! ### a range with a step; bits to the right -/
instance {σ : L2.St} {H : Hp} {ta : TA} {R : It → Hp → Prop} : Stp (iRng3 ta σ H R) (ta σ H fun vs H1 => ∃ (i j c : Int) (n : Nat), vs = [.int i, .int j, .int c] ∧ RgC i j c n ∧ R (Itc i c n) H1) := ⟨id⟩
theorem forC {σ : L2.St} {H : Hp} {nx : L2.St → Hp → Prop} {rt : VK} {lo c : Int} {n : Nat} {g : TG} {tb : TS} (Pv : Nat → L2.St → Hp → Prop) (h0 : Pv 0 σ H)
    (hs : ∀ (i : Nat) σ H, i < n → Pv i σ H → g (.int (lo + (i : Nat) * c)) σ H fun σ2 H2 => tb ⟨Pv (i + 1), rt, nx, Pv (i + 1)⟩ σ2 H2) (hd : ∀ σ H, Pv n σ H → nx σ H) :
    ∃ W : Nat → Nat → L2.St → Hp → Prop, (∃ m, W 0 m σ H) ∧ ∀ i m σ H, W i m σ H →
      ((Itc lo c n).stop i H ∧ nx σ H) ∨ ((Itc lo c n).go i H ∧ ∃ N : L2.St → Hp → Prop, (∀ σ' H', N σ' H' → ∃ m', m' < m ∧ W (i + 1) m' σ' H') ∧ ∀ x H', (Itc lo c n).yld i H x H' → g x σ H' fun σ2 H2 => tb ⟨N, rt, nx, N⟩ σ2 H2) :=
  for_rangeC (D := ⟨nx, rt, fun _ _ => False, fun _ _ => False⟩) Pv h0 hs hd
def xShr : R2 := rI (fun _ j => 0 ≤ j) fun i j => .int (i / 2 ^ j.toNat)
theorem k_shr {H : Hp} {Q : VK} {i j : Int} (hc : 0 ≤ j) (h : Q (.int (i / 2 ^ j.toNat)) H) : xShr (.int i) (.int j) H Q := ⟨i, j, rfl, rfl, hc, h⟩
/-! ### dict(d), len(d), k in d -/
def rDictD : List V → Hp → VK → Prop := fun xs H Q => ∃ (a : Addr) (kvs : List (Key × V)), xs = [.ref a] ∧ Rd H a (.dK kvs) ∧ ∀ p, H p = none → Q (.ref p) (upd H p (.dK kvs))
theorem q_dictD {X : Cx} : CallR X (.type "dict") rDictD := call_dictD
def rLenD : List V → Hp → VK → Prop := fun xs H Q => ∃ (a : Addr) (kvs : List (Key × V)), xs = [V.ref a] ∧ H a = some (.dK kvs) ∧ Q (.int kvs.length) H
theorem q_lenD {X : Cx} : CallR X (.builtin "len") rLenD := call_lenD
section
variable {σ : L2.St} {H : Hp} {Q : VK} {td ty : TE} {p : Addr} {kvs : List (Key × V)} {t : Int}
def iD (neg : Bool) (y x : V) (H : Hp) (Q : VK) : Prop := ∃ a o, x = .ref a ∧ DGet H a y o ∧ Q (.bl (if neg then !o.isSome else o.isSome)) H
instance : Stp (tDIn ty td σ H Q) (ty σ H fun y H1 => td σ H1 fun x H2 => iD false y x H2 Q) := ⟨id⟩
instance : Stp (tDNotIn ty td σ H Q) (ty σ H fun y H1 => td σ H1 fun x H2 => iD true y x H2 Q) := ⟨id⟩
theorem k_iD {neg : Bool} (e : H p = some (.dK kvs)) (h : Q (.bl (if neg then !(valV kvs (.inl t)).isSome else (valV kvs (.inl t)).isSome)) H) : iD neg (.int t) (.ref p) H Q := ⟨p, _, rfl, DGet.k (k := .inl t) e, h⟩
theorem k_dictD (e : H p = some (.dK kvs)) (h : ∀ q H', H q = none → Same H H' → H' q = some (.dK kvs) → Q (.ref q) H') : rDictD [.ref p] H Q := ⟨p, kvs, rfl, .inl e, fun q nq => h q _ nq (same_new nq) upd_same⟩
theorem k_lenD (e : H p = some (.dK kvs)) (h : Q (.int kvs.length) H) : rLenD [.ref p] H Q := ⟨p, kvs, rfl, e, h⟩
end
theorem u65 {k : Nat} {A : Around} (r : Room k A) : A.units + 65 < cLine := by have := r.un; omega
end Cm

namespace HT
open PySem PySem.Spec PyProof.Rows
section
variable {prog : Program} {w : World} {A : Around} {E : Value → Shared → Prop} {s : Shared}
/-! ### t[::-1] -/
theorem sliceApplied_rev {sl : Addr} {vs : Value} {n : Nat} {Q : Int × Int × Nat → Shared → Prop} (hs : s.heap.IsSliceOf sl .none .none vs) (ps : IsPart vs (some (-1)))
    (h : Q ((n : Int) - 1, -1, n) s) : wpAny (model prog w) A (Builtin.Slice.sliceApplied (.ref sl) (pure (n : Int))) Q E s := by
  obtain ⟨os, hos, hcs, hds⟩ := id hs
  unfold Builtin.Slice.sliceApplied Builtin.Slice.sliceFields
  refine wpAny_bind (wpAny_bind (wpAny_field hos hds (x := .none) rfl (wpAny_bind (wpAny_field hos hds (x := .none) rfl (wpAny_bind (wpAny_field hos hds (x := vs) rfl (wpAny_pure ?_)))))))
  refine wpAny_bind (slicePart_ ps ?_)
  show wpAny _ _ (if ((-1 : Int) == 0) = true then _ else _) _ _ s
  rw [if_neg (by decide)]
  refine wpAny_bind (slicePart_none (wpAny_bind (slicePart_none (wpAny_bind (wpAny_pure ?_)))))
  show wpAny _ _ (match Builtin.Slice.sliceAdjust none none (-1) (n : Int) with | (lo, hi) => pure (lo, (-1 : Int), Builtin.Slice.slicePlaces lo hi (-1))) _ _ s
  rw [show Builtin.Slice.sliceAdjust none none (-1) (n : Int) = ((n : Int) - 1, -1) by unfold Builtin.Slice.sliceAdjust; simp]
  show wpAny _ _ (pure ((n : Int) - 1, (-1 : Int), Builtin.Slice.slicePlaces ((n : Int) - 1) (-1) (-1))) _ _ s
  have e : Builtin.Slice.slicePlaces ((n : Int) - 1) (-1) (-1) = n := by
    unfold Builtin.Slice.slicePlaces
    rw [if_neg (by decide)]
    split
    · rw [show (- -1 : Int) = 1 by decide, Int.ediv_one]; omega
    · omega
  rw [e]
  exact wpAny_pure h
theorem fm_congr {α β : Type} {f g : α → Option β} : ∀ l : List α, (∀ x ∈ l, f x = g x) → l.filterMap f = l.filterMap g
  | [], _ => rfl
  | a :: r, h => by
    rw [List.filterMap_cons, List.filterMap_cons, h a List.mem_cons_self, fm_congr r fun x hx => h x (List.mem_cons_of_mem _ hx)]
theorem pick_rev (xs : Array Value) : ((List.range xs.size).filterMap fun (m : Nat) => xs[((xs.size : Int) - 1 + (m : Int) * -1).toNat]?).toArray = xs.toList.reverse.toArray := by
  congr 1
  refine List.ext_getElem? fun i => ?_
  have e : (List.range xs.size).filterMap (fun (m : Nat) => xs[((xs.size : Int) - 1 + (m : Int) * -1).toNat]?) = (List.range xs.size).map fun m => xs.toList.getD (xs.size - 1 - m) .none := by
    rw [← List.filterMap_eq_map]
    refine fm_congr _ fun m hm => ?_
    have hm' := List.mem_range.mp hm
    have : ((xs.size : Int) - 1 + (m : Int) * -1).toNat = xs.size - 1 - m := by omega
    rw [this]
    have hl : xs.size - 1 - m < xs.size := by omega
    simp [List.getD_eq_getElem?_getD, hl]
  rw [e, List.getElem?_map]
  by_cases c : i < xs.size
  · rw [List.getElem?_range c, List.getElem?_reverse (by simpa using c)]
    have hl : xs.size - 1 - i < xs.size := by omega
    simp [List.getD_eq_getElem?_getD, hl]
  · rw [List.getElem?_eq_none (by simpa using c), List.getElem?_eq_none (by simpa using c)]
    rfl
theorem getItem_tuple_rev {t sl : Addr} {items : Array Value} {vs : Value} {Q : Value → Shared → Prop} (ht : IsTup s.heap t items) (hs : s.heap.IsSliceOf sl .none .none vs) (ps : IsPart vs (some (-1)))
    (h : Q (.ref s.heap.objs.size) { s with heap := s.heap.push { cls := .type "tuple", data := .seq items.toList.reverse.toArray } })
    (hsz : items.size ≤ sizeLine) : wpAny (model prog w) A (getItem (.ref t) (.ref sl)) Q E s := by
  have htake : sizeOk (.seq items.toList.reverse.toArray) := by
    show items.toList.reverse.toArray.size ≤ sizeLine
    rw [List.size_toArray, List.length_reverse, Array.length_toList]
    exact hsz
  obtain ⟨os, hos, hcs, hds⟩ := id hs
  have hTs : s.TypeIs (.ref sl) "slice" := ⟨os, hos, hcs⟩
  unfold getItem
  try with_reducible refine wpAny_holding ?_
  first | refine wpAny_bind (wpAny_pure ?_) | skip
  refine wpAny_bind (wpAny_sequenceKey ht.typeIs (by decide) ?_)
  refine wpAny_bind (wpAny_callSpecial?_slot (name := Str.ofString "__getitem__") ht.typeIs PyProof.Rows.slot_tuple_getitem
    (wpAny_call_entry PyProof.Rows.slot_tuple_getitem ht.typeIs entry_tuple_getitem ?_ (args_tuple_getitem _ _)))
  show wpAny _ _ (Builtin.Tuple.tupleItemsOf (.ref t) >>= _) _ _ s
  refine wpAny_bind (tupleItemsOf_ ht ?_)
  refine wpAny_bind (wpAny_typeOf hTs ?_)
  rw [if_pos (by decide)]
  refine wpAny_bind (sliceApplied_rev hs ps ?_)
  have hno : ¬ ((((items.size : Int) - 1) == 0 && (-1 : Int) == 1 && items.size == items.size) = true) := by
    intro q
    rw [Bool.and_eq_true, Bool.and_eq_true] at q
    exact absurd q.1.2 (by decide)
  show wpAny _ _ (if (((items.size : Int) - 1) == 0 && (-1 : Int) == 1 && items.size == items.size) = true then _ else _) _ _ s
  rw [if_neg hno, pick_rev]
  first
    | exact wpAny_bind (m := Builtin.Tuple.tupleExact _) (wpAny_newObj_type (wpAny_pure ⟨_, rfl, wpAny_pure h⟩) htake)
    | exact wpAny_bind (m := Builtin.Tuple.tupleExact _) (wpAny_newObj_type (wpAny_bind (wpAny_pure (wpAny_pure ⟨_, rfl, wpAny_pure h⟩))) htake)
/-! ### list(reversed(list)) -/
end
end HT
namespace HT
open PySem PySem.Spec PyProof.Rows L2 RT
section
variable {prog : Program} {w : World} {A : Around} {E : Value → Shared → Prop} {s : Shared}
theorem extend_rev {R : Result → Shared → Prop} {it l S : Addr} {items : Array Value} {c0 : Nat} (hh : A.handled = none) (res : Value) (hit : s.heap.IsRevIter it l ((items.size : Int) - 1)) (hl : s.heap.IsList l items) (hne : l ≠ it) (hn : items.size ≤ sizeLine) (hSi : S ≠ it) (hSl : S ≠ l)
    (hS : s.heap.get? S = some { cls := .type "list", data := .seq #[] c0 })
    (hR : ∀ (h' : Heap) (tk : Nat) (acc : Array Value) (c' : Nat), (∀ b o, b ≠ it → b ≠ S → s.heap.get? b = some o → h'.get? b = some o) → h'.get? S = some { cls := .type "list", dict := none, data := .seq acc c', slots := #[] } → ItemsOf (fun i v => items[items.size - 1 - i]? = some v) acc items.size → R (.ok (.ret res)) { s with heap := h', toks := tk }) :
    wpAny (model prog w) A.in1 (Builtin.List.listExtendWith (.ref S) (.ref it) res)
      (fun fin s' => match fin with | .done f => R (.ok f) s' | .again c' => c'.quiet = true ∧ codeAny (model prog w) A c' R s') (fun e s' => R (.error e) s') s := by
  have W := (Walks.listRev (prog := prog) (w := w) (A := A.in1) hh it l hne items).toS
  have hSf : S ∉ [it, l] := by simp only [List.mem_cons, List.not_mem_nil, or_false, not_or]; exact ⟨hSi, hSl⟩
  have hT : s.TypeIs (.ref it) "list_reverseiterator" := hit.typeIs
  have h1 : Builtin.List.listSameRef (.ref S) (.ref it) = false := by simp [Builtin.List.listSameRef, hSi]
  unfold Builtin.List.listExtendWith
  refine wpAny_bind (wpAny_typeOf hT ?_)
  rw [if_neg (by rw [h1]; decide)]
  refine wpAny_bind (wpAny_pyIter_revIter hit ?_)
  refine wpAny_bind (wpAny_holding ?_)
  unfold Builtin.List.listLengthHint
  refine wpAny_bind (wpAny_specialOf hT nolen_lri ?_)
  show wpAny _ A.in1 (specialOf (Value.ref it) (Str.ofString "__length_hint__") >>= _) _ _ _
  refine wpAny_bind (wpAny_specialOf hT hint_lri ?_)
  generalize hid : ("list_reverseiterator.__length_hint__" : String) = id0
  wp_delta
  rw [show splitId id0 = some ("list_reverseiterator", "__length_hint__") from by subst hid; decide +kernel]
  subst hid
  refine wpAny_bind (wpAny_isInstance (b := true) hT (by rw [isSubtype_type]; kernel_rfl) ?_)
  refine wpAny_pure ?_
  rw [if_neg (by decide)]
  have e0 : ((items.size : Nat) : Int) - 1 - ((0 : Nat) : Int) = (items.size : Int) - 1 := by omega
  refine wpAny_pure ⟨plainId_quiet F.plain_extend_loop _, codeAny_extend_loopS W hn _ hSf res items.size 0 _ _ _ rfl (Nat.zero_le _) ⟨Nat.zero_le _, by rw [e0]; exact hit, hl⟩ hS (ItemsOf.nil _) fun s' acc' c' hm hS' hacc => ?_⟩
  rw [Moved.eq_with hm]
  refine hR s'.heap s'.toks acc' c' (fun b o hb hb2 e => hm.heap b o (fun hmem => ?_) e) hS' hacc
  rcases List.mem_cons.mp hmem with e' | hmem
  · exact hb2 e'
  · exact hb (List.mem_singleton.mp hmem)
theorem list_init_rev {R : Result → Shared → Prop} {it l S : Addr} {items : Array Value} (hh : A.handled = none) (hit : s.heap.IsRevIter it l ((items.size : Int) - 1)) (hl : s.heap.IsList l items) (hne : l ≠ it) (hn : items.size ≤ sizeLine) (hSi : S ≠ it) (hSl : S ≠ l)
    (hS : s.heap.get? S = some { cls := .type "list", data := .seq #[] })
    (hR : ∀ (h' : Heap) (tk : Nat) (acc : Array Value) (c' : Nat), (∀ b o, b ≠ it → b ≠ S → s.heap.get? b = some o → h'.get? b = some o) → h'.get? S = some { cls := .type "list", dict := none, data := .seq acc c', slots := #[] } → ItemsOf (fun i v => items[items.size - 1 - i]? = some v) acc items.size → R (.ok (.ret .none)) { s with heap := h', toks := tk }) :
    wpAny (model prog w) A.in1 (Builtin.«list.__init__» ⟨[.ref S, .ref it], []⟩)
      (fun fin s' => match fin with | .done f => R (.ok f) s' | .again c' => c'.quiet = true ∧ codeAny (model prog w) A c' R s') (fun e s' => R (.error e) s') s := by
  show wpAny _ A.in1 (do let old ← Builtin.List.listItems (.ref S); Builtin.List.listUpdate (.ref S) (fun _ => #[]); letGo old.toList.reverse; Builtin.List.listExtendWith (.ref S) (.ref it) .none) _ _ s
  refine wpAny_bind ?_
  unfold Builtin.List.listItems
  refine wpAny_bind (wpAny_seqItems hS rfl (wpAny_pure ?_))
  show wpAny _ A.in1 (updateSeq S (fun _ => #[]) >>= fun _ => letGo (#[] : Array Value).toList.reverse >>= fun _ => Builtin.List.listExtendWith (.ref S) (.ref it) .none) _ _ s
  refine wpAny_bind (wpAny_updateSeq hS rfl ?_)
  have hS2 := Heap.get?_update_self (Obj.mapSeq (fun _ => (#[] : Array Value))) hS rfl
  have oth : ∀ b o, b ≠ S → s.heap.get? b = some o → (s.heap.update S (Obj.mapSeq (fun _ => (#[] : Array Value)))).get? b = some o :=
    fun b o hb e => (Heap.get?_update_other _ _ (Ne.symm hb)).trans e
  refine wpAny_bind (wpAny_letGo ?_)
  have hl2 : (s.heap.update S (Obj.mapSeq (fun _ => (#[] : Array Value)))).IsList l items := by
    obtain ⟨o, e, r⟩ := hl
    exact ⟨o, oth _ _ (Ne.symm hSl) e, r⟩
  refine extend_rev hh .none (hit.at fun o e => oth _ _ (Ne.symm hSi) e) hl2 hne hn hSi hSl hS2 fun h' tk acc' c' hk hS' hacc => ?_
  exact hR h' tk acc' c' (fun b o hb hb2 e => hk b o hb hb2 (oth b o hb2 e)) hS' hacc
theorem call_list_rev {it l : Addr} {items : Array Value} {Q : Value → Shared → Prop} (hh : A.handled = none) (hit : s.heap.IsRevIter it l ((items.size : Int) - 1)) (hl : s.heap.IsList l items) (hne : l ≠ it) (hn : items.size ≤ sizeLine)
    (hQ : ∀ (h' : Heap) (tk : Nat) (acc : Array Value) (c' : Nat), (∀ b o, b ≠ it → s.heap.get? b = some o → h'.get? b = some o) → h'.get? s.heap.objs.size = some { cls := .type "list", dict := none, data := .seq acc c', slots := #[] } → ItemsOf (fun i v => items[items.size - 1 - i]? = some v) acc items.size →
      Q (.ref s.heap.objs.size) { s with heap := h', toks := tk }) :
    wpAny (model prog w) A (call (.type "list") [.ref it]) Q E s := by
  obtain ⟨oi, hoi, _⟩ := id hit
  obtain ⟨ol, hol, _⟩ := id hl
  have hSi : s.heap.objs.size ≠ it := Nat.ne_of_gt (Heap.lt_size hoi)
  have hSl : s.heap.objs.size ≠ l := Nat.ne_of_gt (Heap.lt_size hol)
  refine callType_codes (Q₁ := fun obj s₁ => obj = .ref s.heap.objs.size ∧ s₁ = { s with heap := s.heap.push { cls := .type "list", data := .seq #[] } }) F.called_list (F.typeCall_list_1 _) F.entry_list_init
    (code_list_new _ ⟨rfl, rfl⟩) fun obj s₁ h₁ => ?_
  obtain ⟨rfl, rfl⟩ := h₁
  have hS : (s.heap.push { cls := .type "list", data := .seq #[] }).get? s.heap.objs.size = some { cls := .type "list", data := .seq #[] } := Heap.get?_push_size _ rfl
  refine ⟨⟨_, hS, rfl⟩, F.args_list_init_2 _ _, list_init_rev (A := A.in1) hh (hit.at fun o e => Heap.get?_push_of_some _ e) (hl.push _) hne hn hSi hSl hS fun h' tk acc' c' hk hS' hacc => ?_⟩
  exact ⟨rfl, hQ h' tk acc' c' (fun b o hb e => hk b o hb (Nat.ne_of_lt (Heap.lt_size e)) (Heap.get?_push_of_some _ e)) hS' hacc⟩
end
end HT
namespace Cm
open PySem PySem.Spec PyProof.Rows L2 RT
section
variable {X : Cx}
def rRevT (K : PySem.W.Frag) (x : V) (H : Hp) (Q : VK) : Prop := ∃ a xs, x = .ref a ∧ SqT K H a xs ∧ ∀ p, H p = none → Q (.ref p) (upd H p (.tup xs.reverse))
def tRevT (K : PySem.W.Frag) (te : TE) : TE := fun σ H Q => te σ H fun x H1 => rRevT K x H1 Q
theorem pe_revT {e : Expr} {te : TE} {k : Nat} {p1 p2 p3 pos : Pos} (he : PE X e te) : PE X (.Subscript e (.Slice none none (some (.UnaryOp .USub (.Constant (.int 1) k p1) p2)) p3) pos) (tRevT X.K te) := by
  refine ⟨fun pins s σ H Q I h => ?_⟩
  refine Subscript_ (thn (he.run pins s σ H _ I h) fun v s1 ⟨x, H1, I1, r1, q1⟩ => ?_)
  obtain ⟨a, xs, ex, hx, q⟩ := q1
  subst ex
  cases r1
  have hst : PO X (some (.UnaryOp .USub (.Constant (.int 1) k p1) p2)) (tPart (tUn (rU fun i => .int (-i)) (tC (.int 1)))) := po_some (pe_un un_neg pe_int)
  refine wpAny_Slice (thn (po_none.run pins s1 σ H1 (fun o H2 => o = none ∧ H2 = H1) I1 ⟨rfl, rfl⟩) fun vl s2 ⟨l, H2, I2, pl, el, e2⟩ => ?_)
  subst el e2
  refine thn (po_none.run pins s2 σ H2 (fun o H3 => o = none ∧ H3 = H2) I2 ⟨rfl, rfl⟩) fun vu s3 ⟨u, H3, I3, pu, eu, e3⟩ => ?_
  subst eu e3
  refine thn (hst.run pins s3 σ H3 (fun o H4 => o = some (-1) ∧ H4 = H3) I3 ⟨1, rfl, -1, rfl, rfl, rfl⟩) fun vs s4 ⟨o, H4, I4, ps, eo, e4⟩ => ?_
  subst eo e4
  have I5 : Inv X pins σ H4 { s4 with heap := s4.heap.push { cls := .type "slice", data := .fields #[vl, vu, vs] } } := I4.kept (t' := s4.toks) fun b ob q => Heap.get?_push_of_some _ q
  obtain ⟨its, r, ht, hz⟩ := I5.tuple hx
  have hlen := r.length
  cases pl
  cases pu
  show wpAny (model X.prog X.w) X.A (subscriptTail e (.Slice none none (some (.UnaryOp .USub (.Constant (.int 1) k p1) p2)) p3) (.ref a) (.ref s4.heap.objs.size)) (EP X pins σ Q) X.xe { s4 with heap := s4.heap.push { cls := .type "slice", data := .fields #[.none, .none, vs] } }
  refine tail_any (ops := [.ref a, .ref s4.heap.objs.size]) ht.typeIs (PyProof.Rows.slot_tuple_getitem.lookup) ?_ (by with_unfolding_all rfl)
  refine HT.getItem_tuple_rev ht (Heap.IsSliceOf.new _ .none .none vs) ps ?_ (by rw [List.size_toArray]; omega)
  refine ⟨.ref _, _, I5.laid (t' := s4.toks) (o := .tup xs.reverse) (fun b ob q => Heap.get?_push_of_some _ q) (Nat.le_refl _) ?_, rfl, q _ (I5.hok.fresh (Nat.le_refl _))⟩
  exact ⟨by rw [List.length_reverse]; exact hz, _, r.reverse, IsTup.new _ _⟩
end
instance {K : PySem.W.Frag} {σ : L2.St} {H : Hp} {Q : VK} {te : TE} : Stp (tRevT K te σ H Q) (te σ H fun x H1 => rRevT K x H1 Q) := ⟨id⟩
theorem k_revT {K : PySem.W.Frag} {H : Hp} {Q : VK} {a : Addr} {xs : List V} (hs : SqT K H a xs) (h : ∀ p H', H p = none → Same H H' → H' p = some (.tup xs.reverse) → Q (.ref p) H') : rRevT K (.ref a) H Q := ⟨a, xs, rfl, hs, fun p np => h p _ np (same_new np) upd_same⟩
/-! ### is, is not of truths -/
def xIsB : R2 := rIsB
def xNotB : R2 := rNotB
instance {a b : Bool} {H : Hp} {Q : VK} : Stp (xIsB (.bl a) (.bl b) H Q) (Q (.bl (decide (a = b))) H) := ⟨fun h => ⟨a, b, rfl, rfl, h⟩⟩
instance {a b : Bool} {H : Hp} {Q : VK} : Stp (xNotB (.bl a) (.bl b) H Q) (Q (.bl (!decide (a = b))) H) := ⟨fun h => ⟨a, b, rfl, rfl, h⟩⟩
/-! ### tuple(xs) of a list -/
def rTupOf (K : PySem.W.Frag) : List V → Hp → VK → Prop := fun xs H Q => ∃ p ys, xs = [.ref p] ∧ ((SqL K H p ys ∧ ∀ l, H l = none → Q (.ref l) (upd H l (.tup ys))) ∨ (SqT K H p ys ∧ Q (.ref p) H))
theorem q_tupOf {X : Cx} : CallR X (.type "tuple") (rTupOf X.K) := call_tuple_of
theorem k_tupOf {K : PySem.W.Frag} {H : Hp} {Q : VK} {p : Addr} {ys : List V} (hs : SqL K H p ys) (h : ∀ l H', H l = none → Same H H' → H' l = some (.tup ys) → Q (.ref l) H') : rTupOf K [.ref p] H Q := ⟨p, ys, rfl, .inl ⟨hs, fun l nl => h l _ nl (same_new nl) upd_same⟩⟩
/-! ### [d[k] for k in d] -/
theorem lc_vals {σ : L2.St} {H : Hp} {Q : VK} {p : Addr} {kvs : List (Key × V)} {i l : Nat} (hd : H p = some (.dK kvs)) (hv0 : (wipe σ [l])[i]? = some (some (.ref p)) ∧ σ[i]? = some (some (.ref p))) (hv : ∀ x : V, ((wipe σ [l]).set l (some x))[i]? = some (some (.ref p))) (hl : ∀ x : V, ((wipe σ [l]).set l (some x))[l]? = some (some x)) (hwp : ∀ x : V, wipe ((wipe σ [l]).set l (some x)) [l] = wipe σ [l])
    (hn : kvs.length ≤ 50000) (nd : ∀ kv ∈ kvs, valV kvs kv.1 = some kv.2) (h : ∀ D H', H D = none → Same H H' → H' D = some (.lst (kvs.map (·.2))) → Q (.ref D) H') :
    tLockE (tLc (iKeys (tVar i)) (gName l) tYes (tDGet (tVar i) (tVar l)) [l]) σ H Q := by
  refine ⟨p, .dK kvs, hd, trivial, fun od => ?_⟩
  refine ⟨_, hv0.2, p, od, rfl, .inl ⟨kvs, upd_same, fun D nD => ?_⟩⟩
  have Dp : D ≠ p := fun z => by rw [z, upd_same] at nD; cases nD
  have nD' : H D = none := by rw [upd_ne Dp] at nD; exact nD
  refine lc_it walk_keys (fun j H' => H' = upd (upd H p (.frz od (.dK kvs))) D (.lst ((kvs.take j).map (·.2)))) (by simp) (fun j H' _ e => by rw [e, upd_ne (fun z => Dp z.symm), upd_same]) ?_ ?_
  · rintro j x H1 H2 hj rfl ⟨rfl, k, v, hk, rfl⟩
    refine ⟨hwp _, ?_⟩
    refine k_yes (iteT ?_)
    refine ⟨_, hv _, _, hl _, p, v, rfl, .inl ⟨kvs, k, .inr ⟨od, by rw [upd_ne (fun z => Dp z.symm), upd_same]⟩, rfl, (nd _ (List.mem_of_getElem? hk)).symm⟩, _, upd_same, szl (by rw [List.length_map, List.length_take]; omega), ?_⟩
    rw [upd_upd, List.take_add_one, hk, List.map_append]
    rfl
  · rintro H1 rfl
    refine ⟨by rw [upd_ne (fun z => Dp z.symm), upd_same], ?_⟩
    refine h D _ nD' (fun b o hb => ?_) ?_
    · by_cases c : b = p
      · rw [c, upd_same, ← hd, ← c, hb]
      · have bD : b ≠ D := fun z => by rw [z, nD'] at hb; cases hb
        rw [upd_ne c, upd_ne bD, upd_ne c]; exact hb
    · rw [upd_ne Dp, upd_same, List.take_length]
/-! ### d.get(k) -/
def gD1N (a : Addr) (y : V) (H : Hp) (Q : VK) : Prop := ∃ o, DGet H a y o ∧ Q (o.getD .non) H
instance {σ : L2.St} {H : Hp} {Q : VK} {td ty : TE} : Stp (tDGet1 td ty σ H Q) (td σ H fun x H1 => aD x H1 fun a => ty σ H1 fun y H2 => gD1N a y H2 Q) := ⟨id⟩
theorem k_gD1N {H : Hp} {Q : VK} {p : Addr} {kvs : List (Key × V)} {t : Int} (e : H p = some (.dK kvs)) (h : Q ((valV kvs (.inl t)).getD .non) H) : gD1N p (.int t) H Q := ⟨_, DGet.k (k := .inl t) e, h⟩
/-! ### list(reversed(xs)) of a list -/
section
variable {X : Cx}
def rLRv (K : PySem.W.Frag) (x : V) (H : Hp) (Q : VK) : Prop := ∃ a xs, x = .ref a ∧ SqL K H a xs ∧ ∀ p, H p = none → Q (.ref p) (upd H p (.lst xs.reverse))
def tLRv (K : PySem.W.Frag) (te : TE) : TE := fun σ H Q => te σ H fun x H1 => rLRv K x H1 Q
theorem pe_lRv {e : Expr} {te : TE} {p p2 pos pos2 : Pos} (hc : X.calm = true) (hg : Gl X "list") (hm : X.mg "list" = none) (hg2 : Gl X "reversed") (hm2 : X.mg "reversed" = none) (he : PE X e te)
    (hs : starEach [e] X.env = (false, eval e X.env) :: starEach [] X.env := by rfl)
    (hs2 : starEach [.Call (.Name "reversed" p2) [e] [] pos2] X.env = (false, eval (.Call (.Name "reversed" p2) [e] [] pos2) X.env) :: starEach [] X.env := by rfl) :
    PE X (.Call (.Name "list" p) [.Call (.Name "reversed" p2) [e] [] pos2] [] pos) (tLRv X.K te) := by
  refine ⟨fun pins s σ H Q I h => ?_⟩
  refine Call_ (ld_blt I hg hm boot_list (PyProof.Rows.callWith_type1 (args_cons (Call_ (ld_blt I hg2 hm2 PyProof.Rows.boot_reversed (PyProof.Rows.callWith_type1 (args_cons (thn (he.run pins s σ H _ I h) fun u s1 ⟨v, H1, I1, r1, q1⟩ => args_nil ?_) hs) hs rfl))) hs2) hs2 rfl))
  obtain ⟨a, xs, ev, hq, q⟩ := q1
  subst ev
  obtain rfl : u = Value.ref a := r1
  obtain ⟨its, rv, p', hz⟩ := I1.list hq
  refine call_reversed_list p'.isList (args_nil ?_)
  have k0 : ∀ b o, s1.heap.get? b = some o → (s1.heap.push (revObj a ((its.toArray.size : Int) - 1))).get? b = some o := fun b o e => Heap.get?_push_of_some _ e
  have I2 : Inv X pins σ H1 { s1 with heap := s1.heap.push (revObj a ((its.toArray.size : Int) - 1)) } := I1.kept (t' := s1.toks) k0
  obtain ⟨f0, f1, f2, f3, f4, f5⟩ := I1.fpOk (H' := H1) (b := s1.heap.objs.size) (Nat.le_refl _) (I1.hok.fresh (Nat.le_refl _))
  have hl := p'.isList
  obtain ⟨ol, hol, _⟩ := id hl
  have hne : a ≠ s1.heap.objs.size := Nat.ne_of_lt (Heap.lt_size hol)
  have hn : its.toArray.size ≤ sizeLine := by rw [List.size_toArray, ← rv.length]; exact hz
  refine HT.call_list_rev (s := { s1 with heap := s1.heap.push (revObj a ((its.toArray.size : Int) - 1)) }) (I1.ok.hd hc) ⟨_, Heap.get?_push_size _ rfl, rfl, rfl⟩ (hl.push _) hne hn fun h' tk acc c' hk hS' hi => ?_
  refine ⟨.ref _, upd H1 _ (.lst xs.reverse), I2.turnedNew (t' := tk) (ch := [s1.heap.objs.size]) (fun b o hb e => hk b o (fun z => hb (by rw [z]; exact List.mem_singleton.mpr rfl)) e) (fun b hb => by rw [List.mem_singleton.mp hb]; exact ⟨f0, f1, f2, f3, f4, f5⟩) (Nat.le_refl _) (show ObjOk X.prog X.w _ _ _ (.lst xs.reverse) from ⟨by rw [List.length_reverse]; exact hz, acc.toList, c', vals_rev rv hi, by rw [Array.toArray_toList]; exact hS'⟩), rfl, q _ (I2.hok.fresh (Nat.le_refl _))⟩
instance {K : PySem.W.Frag} {σ : L2.St} {H : Hp} {Q : VK} {te : TE} : Stp (tLRv K te σ H Q) (te σ H fun x H1 => rLRv K x H1 Q) := ⟨id⟩
theorem k_lRv {K : PySem.W.Frag} {H : Hp} {Q : VK} {a : Addr} {xs : List V} (hs : SqL K H a xs) (h : ∀ p H', H p = none → Same H H' → H' p = some (.lst xs.reverse) → Q (.ref p) H') : rLRv K (.ref a) H Q := ⟨a, xs, rfl, hs, fun p np => h p _ np (same_new np) upd_same⟩
end
/-! ### xs + ys of any two lists -/
section
variable {X : Cx}
def rCatS (K : PySem.W.Frag) : R2 := fun x y H Q => ∃ l b xs zs, x = .ref l ∧ y = .ref b ∧ SqL K H l xs ∧ SqL K H b zs ∧ xs.length + zs.length ≤ sizeLine ∧ ∀ p, H p = none → Q (.ref p) (upd H p (.lst (xs ++ zs)))
theorem op_catS : OpR X (binaryOp .Add) (rCatS X.K) := by
  intro pins s σ H x y v u Q I rx ry h
  obtain ⟨l, b, xs, zs, rfl, rfl, hH, hB, hz, q⟩ := h
  cases rx
  cases ry
  obtain ⟨its, r, p1, _⟩ := I.list hH
  obtain ⟨its2, r2, p2, _⟩ := I.list hB
  have l1 := r.length
  have l2 := r2.length
  obtain ⟨⟨cls, dd, data, sl⟩, ho, hc, n, hd⟩ := p1.isList
  obtain ⟨⟨cls2, dd2, data2, sl2⟩, ho2, hc2, n2, hd2⟩ := p2.isList
  simp only at hc hd hc2 hd2
  subst hc hd hc2 hd2
  have e : its.toArray ++ its2.toArray = (its ++ its2).toArray := by simp
  refine concat_meets ⟨_, ho, rfl⟩ ⟨_, ho2, rfl⟩ noFill_list_add seq_list_add PySem.F.slot_list_add PySem.F.entry_list_add (PySem.F.args_list_add_2 _ _) (list_addW l b its.toArray its2.toArray n n2 dd dd2 sl sl2 (by simp only [List.size_toArray]; omega)) ⟨ho, ho2, ?_⟩
  rw [e]
  exact ⟨.ref _, _, I.lnew (t' := s.toks) (r.append r2) (by rw [List.length_append]; exact hz), rfl, q _ I.fresh⟩
theorem k_catS {K : PySem.W.Frag} {H : Hp} {Q : VK} {l b : Addr} {xs zs : List V} (hl : SqL K H l xs) (hb : SqL K H b zs) (hz : xs.length + zs.length ≤ 100000) (h : ∀ p H', H p = none → Same H H' → H' p = some (.lst (xs ++ zs)) → Q (.ref p) H') : rCatS K (.ref l) (.ref b) H Q := ⟨l, b, xs, zs, rfl, rfl, hl, hb, sz hz, fun p np => h p _ np (same_new np) upd_same⟩
end
/-! ### xs.count(k) of a list of tuples and whole numbers -/
def isK (k : Int) : V → Bool
  | .int i => decide (i = k)
  | _ => false
def isKU (k : Int) : Value → Bool
  | .int i _ => decide (i = k)
  | _ => false
theorem isK_rel {k : Int} {v : V} {u : Value} (r : RelV v u) (h : (∃ p, v = .ref p) ∨ ∃ i, v = .int i) : isKU k u = isK k v := by
  rcases h with ⟨p, rfl⟩ | ⟨i, rfl⟩
  · cases r; rfl
  · obtain ⟨t, rfl⟩ := r; rfl
theorem isK_cnt {k : Int} : ∀ {vs : List V} {us : List Value}, Vals vs us → (∀ v ∈ vs, (∃ p, v = .ref p) ∨ ∃ i, v = .int i) → us.countP (isKU k) = vs.countP (isK k)
  | _, _, .nil, _ => rfl
  | v :: vs, u :: us, .cons r rs, h => by
    rw [List.countP_cons, List.countP_cons, isK_rel r (h v List.mem_cons_self), isK_cnt rs fun x hx => h x (List.mem_cons_of_mem _ hx)]
def rCntD (K : PySem.W.Frag) : V → List V → Hp → VK → Prop := fun x xs H Q => ∃ (a : Addr) (ys : List V) (ds : List PyData) (k : Int), x = V.ref a ∧ xs = [.int k] ∧ SqL K H a ys ∧ DpAll K H ys ds ∧ PyData.canLayAll0 ds = true ∧ (∀ d ∈ ds, (∃ es, d = .tuple es) ∨ ∃ i, d = .int i) ∧ Q (.int (ys.countP (isK k) : Nat)) H
theorem lay_mem : ∀ {ds : List PyData}, PyData.canLayAll0 ds = true → ∀ d ∈ ds, d.canLay0 = true
  | [], _, d, h => by cases h
  | a :: r, h, d, hd => by
    have h' : (a.canLay0 && PyData.canLayAll0 r) = true := h
    rw [Bool.and_eq_true] at h'
    rcases List.mem_cons.mp hd with rfl | hd
    · exact h'.1
    · exact lay_mem h'.2 d hd
theorem vals_data {K : PySem.W.Frag} {H : Hp} : ∀ {vs : List V} {us : List Value} {ds : List PyData}, Vals vs us → DpAll K H vs ds → ∀ u ∈ us, ∃ v d, RelV v u ∧ Dp K H v d ∧ d ∈ ds
  | _, _, _, .nil, _, u, hu => by cases hu
  | _, _, _, .cons r rs, .cons h hs, u, hu => by
    rcases List.mem_cons.mp hu with rfl | hu
    · exact ⟨_, _, r, h, List.mem_cons_self⟩
    · obtain ⟨v, d, h1, h2, h3⟩ := vals_data rs hs u hu
      exact ⟨v, d, h1, h2, List.mem_cons_of_mem _ h3⟩
theorem data_kind {K : PySem.W.Frag} {H : Hp} {v : V} {d : PyData} (h : Dp K H v d) (k : (∃ es, d = .tuple es) ∨ ∃ i, d = .int i) : (∃ p, v = .ref p) ∨ ∃ i, v = .int i := by
  rcases k with ⟨es, rfl⟩ | ⟨i, rfl⟩
  · obtain ⟨a, _, e, _⟩ := dp_tup h; exact .inl ⟨a, e⟩
  · exact .inr ⟨i, dp_int h⟩
theorem mt_lcountD {X : Cx} (hu : X.A.units + 64 < cLine) : MtR X "list.count" (rCntD X.K) := by
  intro pins s σ H x xs v us Q I rx rxs h
  obtain ⟨a, ys, ds, k, rfl, rfl, hs, dys, lay, kd, q⟩ := h
  cases rx
  cases rxs with
  | cons ry rt =>
    rename_i uy ut
    cases rt
    obtain ⟨t, rfl⟩ := ry
    obtain ⟨its, rv, ⟨⟨cls, dd, data, sl⟩, n, ho, hc, hdn, hd⟩, hlen⟩ := I.list hs
    simp only at hc hd
    subst hc hd
    refine call_meets PySem.F.slot_list_count ⟨_, ho, rfl⟩ PySem.F.entry_list_count (PySem.F.args_list_count_2 _ _)
      (SeqAt.list_countAt a its.toArray n dd sl (.int k t) (isKU k)) ⟨ho, fun u' hu' => ?_, ?_⟩
    · obtain ⟨w, d, r1, r2, r3⟩ := vals_data rv dys u' (by simpa using hu')
      obtain ⟨as, rd⟩ := Dp.reads I d w u' r2 r1
      have eq := SeqAt.eqAt_reads d (.int k) X.A.in1 s u' (.int k t) as _ rd (Reads.int k t) (lay_mem lay d r3) rfl (by
        have : min d.depth (PyData.int k).depth ≤ 0 := Nat.min_le_right _ _
        have e : X.A.in1.units = X.A.units + 1 := rfl
        rw [e]; omega)
      have e : PyData.eqv d (.int k) = isKU k u' := by
        rw [isK_rel r1 (data_kind r2 (kd d r3))]
        rcases kd d r3 with ⟨es, rfl⟩ | ⟨i, rfl⟩
        · obtain ⟨p, _, rfl, _⟩ := dp_tup r2; rfl
        · cases dp_int r2
          show (i == k) = decide (i = k)
          by_cases c : i = k
          · rw [c, decide_eq_true rfl]; simp
          · rw [decide_eq_false c]; simpa using c
      rw [e] at eq
      exact eq
    · have ec : its.toArray.toList.countP (isKU k) = ys.countP (isK k) := isK_cnt rv fun v hv => by
        obtain ⟨i, hi, e⟩ := List.mem_iff_getElem.mp hv
        obtain ⟨d, hd, dd⟩ := dpa_get dys (show ys[i]? = some v by rw [List.getElem?_eq_getElem hi, e])
        exact data_kind dd (kd d (List.mem_of_getElem? hd))
      refine ⟨.int (ys.countP (isK k) : Nat), H, I.tok _, ⟨s.toks, ?_⟩, q⟩
      show Value.int ((its.toArray.toList.countP (isKU k) : Nat) : Int) s.toks = Value.int ((ys.countP (isK k) : Nat) : Int) s.toks
      rw [ec]
end Cm
namespace HT
open PySem PySem.Spec PyProof.Rows L2
/-! ### a set of whole numbers made of a list, its table in order -/
/-- the set at S holds just the first i numbers -/
def Grown (w : World) (val : Nat → Int) (S : Addr) (i : Nat) (h : Heap) : Prop := SetR w h S (fun k => (firstMet val i).any (· == k)) (firstMet val i).length
section
variable {prog : Program} {w : World} {A : Around} {E : Value → Shared → Prop} {s : Shared}
theorem Grown.next {val : Nat → Int} {S : Addr} {i : Nat} {tk : Tok} {Q : Bool → Shared → Prop} (g : Grown w val S i s.heap) (room : i + 1 < scanBound) (h : ∀ b h', Heap.SameBut S s.heap h' → Grown w val S (i + 1) h' → Q b { s with heap := h' }) :
    wpAny (model prog w) A (setAddHashed S (.int (val i) tk) ((intKind prog w).hash (val i))) Q E s :=
  setR_add_hashed g (Nat.lt_of_le_of_lt (Nat.add_le_add_right (firstMet_length_le val i) 1) room) fun h' sb r => h _ h' sb (by
    unfold Grown
    rw [firstMet_succ, step_length]
    exact r.congr fun k => step_any _ _ k)
theorem grow_all {I : Addr} {fp wr : List Addr} {G : Array GenState → Array GenState → Prop} {n : Nat} {P : Nat → Value → Prop} {St : Nat → Shared → Prop} {R : Result → Shared → Prop} {S : Addr} {val : Nat → Int} {s0 : Shared}
    (W : WalksS prog w A.in1 I fp wr G n P St) (out : S ∉ fp) (hin : ∀ i v, P i v → ∃ t, v = .int (val i) t) (room : n + 1 < scanBound)
    (fin : ∀ z, Moved (S :: wr) G s0 z → Grown w val S n z.heap → R (.ok (.ret .none)) z) :
    ∀ (left i : Nat) (z : Shared), i + left = n → St i z → Moved (S :: wr) G s0 z → Grown w val S i z.heap → codeAny (model prog w) A (.builtin "set.update.loop" ⟨[.ref S, .ref I], []⟩) R z := by
  have away : S ∉ wr := fun y => out (W.sub _ y)
  have wider : ∀ b ∈ wr, b ∈ S :: wr := fun _ y => List.mem_cons_of_mem _ y
  intro left
  induction left with
  | zero =>
    rintro i z e st mv g
    obtain rfl : i = n := e
    refine codeAny_builtin F.entry_set_update_loop ?_
    rw [Around.under_plainId F.plain_set_update_loop _]
    exact wpAny_bind (W.done z _ _ st fun z' m => wpAny_pure (fin z' (Moved.trans W.gtrans mv (m.mono wider)) (g.at fun o y => m.heap S _ away y)))
  | succ left ih =>
    rintro i z e st mv g
    refine codeAny_builtin F.entry_set_update_loop ?_
    rw [Around.under_plainId F.plain_set_update_loop _]
    refine wpAny_bind (W.item i z _ _ (by omega) st fun v z' pv st' m => ?_)
    obtain ⟨t, rfl⟩ := hin i v pv
    have g' : Grown w val S i z'.heap := g.at fun o y => m.heap S _ away y
    refine wpAny_bind (wpAny_holding (m := setAdd S (.int (val i) t)) ?_)
    unfold setAdd
    refine wpAny_holding (wpAny_bind ((intKind prog w).pyHash (k := val i) (intKind_is _ _ _ _) ?_))
    refine Grown.next (s := { z' with toks := z'.toks + 1 }) g' (by omega) fun _ h' sb g2 => ?_
    have keep : ∀ b o, b ≠ S → z'.heap.get? b = some o → h'.get? b = some o := fun b o hb y => by rw [sb.2 b hb]; exact y
    refine wpAny_pure ⟨plainId_quiet F.plain_set_update_loop _, ih (i + 1) _ (by omega) (W.frame _ z' _ _ st' (Nat.le_succ _) fun b hb o y => keep b o (fun c => out (c ▸ hb)) y) ?_ g2⟩
    exact Moved.trans W.gtrans mv ((m.mono wider).then_heap (Nat.le_succ _) fun b o hb y => keep b o (fun c => hb (c ▸ List.mem_cons_self)) y)
/-- the new set, before anything is in it -/
def bareSet (w : World) : Obj := { cls := .type "set", dict := none, data := .set #[] 0 (.fresh 0 0 (!w.params.followText "set-order")) }
theorem new_bare (x : Value) {Q : Value → Shared → Prop} (h : Q (.ref s.heap.objs.size) { s with heap := s.heap.push (bareSet w) }) :
    codeAny (model prog w) A (.call (.builtin "set.__new__") ⟨[.type "set", x], []⟩) (wants Q E) s := by
  refine codeAny_of_tree ?_
  show wpAny _ A.in1 (checkBuiltinCall "set.__new__" ⟨[.type "set", x], []⟩ >>= fun _ => again (.builtin "set.__new__" ⟨[.type "set", x], []⟩)) _ _ s
  refine wpAny_bind (wpAny_of_eq (F.newCall_set_1 x) (wpAny_pure ⟨plainId_quiet F.plain_set_new _, codeAny_builtin F.entry_set_new ?_⟩))
  rw [Around.under_plainId F.plain_set_new _]
  have sub := sub_set_self
  unfold Builtin.«set.__new__» Builtin.Frozenset.newClass
  obtain ⟨hp, g, d, tk, os⟩ := s
  dsimp only
  wp_walk
  exact wpAny_askSetting (wpAny_pure (by dsimp only; simp only [newObj]; exact wpAny_bind (wpAny_alloc (wpAny_pure (wpAny_pure h)))))
/-- set.__init__ of a bare set and a list of whole numbers -/
theorem init_bare {l : Addr} {items : Array Value} {ns : List Int} {R : Result → Shared → Prop} {S : Addr} (hh : A.handled = none) (hS : s.heap.get? S = some (bareSet w)) (hl : s.heap.IsList l items) (hi : IntsAre items.toList ns) (room : items.size + 1 < scanBound)
    (fin : ∀ (h' : Heap) (tk : Nat), Grown w (fun i => ns.getD i 0) S items.size h' → (∀ b o, b ≠ S → s.heap.get? b = some o → h'.get? b = some o) → R (.ok (.ret .none)) { s with heap := h', toks := tk }) :
    wpAny (model prog w) A.in1 (Builtin.«set.__init__» ⟨[.ref S, .ref l], []⟩)
      (fun f s' => match f with | .done f => R (.ok f) s' | .again c => c.quiet = true ∧ codeAny (model prog w) A c R s') (fun e s' => R (.error e) s') s := by
  obtain ⟨⟨cl, dc, dt, so⟩, hol, hcl, nl, hdl⟩ := id hl
  simp only at hcl hdl
  subst hcl hdl
  have noSet := F.sub_list_set
  have noFrozen := F.sub_list_frozenset
  have noDict : (Value.type "list" == Value.type "dict") = false := by decide
  unfold bareSet at hS
  unfold Builtin.«set.__init__» noKeywords Builtin.Frozenset.updateFrom
  generalize eI : pyIter = walkIt
  wp_walk
  subst eI
  refine wpAny_pyIter_list hl ?_
  refine wpAny_bind (wpAny_runValue ?_)
  have lt1 : l < s.heap.objs.size := Heap.lt_size hol
  have ltS : S < s.heap.objs.size := Heap.lt_size hS
  have neS : l ≠ S := fun z => by
    rw [z, hS] at hol
    simp at hol
  have old : ∀ b o, s.heap.get? b = some o → (s.heap.push { cls := .type "list_iterator", data := .fields #[.ref l, .int 0 0] }).get? b = some o := fun b o y => Heap.get?_push_of_some _ y
  refine grow_all (s0 := { s with heap := s.heap.push { cls := .type "list_iterator", data := .fields #[.ref l, .int 0 0] } }) (val := fun i => ns.getD i 0) ((Walks.list (prog := prog) (w := w) (A := A.in1.in1) hh s.heap.objs.size l (Nat.ne_of_lt lt1) items).toS) ?_ (fun i v y => IntsAre.int_at hi i v (by rw [Array.getElem?_toList]; exact y)) room (fun z m g => ?_) items.size 0 _ (by omega) ⟨⟨_, Heap.get?_push_size _ rfl, rfl, rfl⟩, hl.push _⟩ (Moved.refl fun _ => rfl) ?_
  · simp only [List.mem_cons, List.not_mem_nil, or_false, not_or]
    exact ⟨Nat.ne_of_lt ltS, fun z => neS z.symm⟩
  · have ez := Moved.eq_with m
    rw [ez]
    refine wpAny_pure ?_
    show wpAny _ _ (ret Value.none) _ _ _
    refine wpAny_pure (fin z.heap z.toks g fun b o hb y => m.heap b o (fun hm => ?_) (old b o y))
    rcases List.mem_cons.mp hm with hm | hm
    · exact hb hm
    · have e : b = s.heap.objs.size := by simpa using hm
      exact Nat.lt_irrefl _ (e ▸ Heap.lt_size y)
  · have g0 : SetR w (s.heap.push { cls := .type "list_iterator", data := .fields #[.ref l, .int 0 0] }) S (fun _ => false) 0 :=
      ⟨_, #[], 0, _, old _ _ hS, ⟨rfl, rfl, rfl⟩, rfl, (fun e he => by simp at he), (by simp), (fun k => by simp), (by decide), (by rfl), rfl, List.Pairwise.nil, by
        show _ ∨ (!w.params.followText "set-order") = true
        cases w.params.followText "set-order"
        · exact .inr rfl
        · exact .inl rfl⟩
    exact g0
/-- set(xs) of whole numbers, with what sorted needs -/
theorem set_of_ints {l : Addr} {items : Array Value} {ns : List Int} {Q : Value → Shared → Prop} (hh : A.handled = none) (hl : s.heap.IsList l items) (hi : IntsAre items.toList ns) (room : items.size + 1 < scanBound)
    (fin : ∀ (h' : Heap) (tk : Nat), Grown w (fun i => ns.getD i 0) s.heap.objs.size items.size h' → (∀ b o, s.heap.get? b = some o → h'.get? b = some o) → Q (.ref s.heap.objs.size) { s with heap := h', toks := tk }) :
    wpAny (model prog w) A (call (.type "set") [.ref l]) Q E s := by
  have T := F.called_set
  obtain ⟨c, tl, mro⟩ := T.mro
  have made := T.made
  have sub := T.sub
  have known := T.init.lookup
  have nt := T.notType
  have cc := T.canCreate
  have tc := F.typeCall_set_1 (.ref l)
  refine wpAny_call (codeAny_of_tree ?_)
  show wpAny _ _ (callAny (.type "set") _) _ _ _
  refine wpAny_pure ⟨Code.quiet_builtin _ (by decide +kernel), codeAny_builtin F.entry_type_call ?_⟩
  rw [Around.under_plain (weight_type_call_type "set" [.ref l] []) rfl]
  repeat (any_goals (first | assumption | wp_step))
  refine codeAny_mono (new_bare (w := w) (.ref l) (E := E) (Q := fun v z => v = .ref s.heap.objs.size ∧ z = { s with heap := s.heap.push (bareSet w) }) ⟨rfl, rfl⟩) fun r z hr => ?_
  cases r with
  | error e => exact hr
  | ok f =>
    cases f with
    | ret v =>
      obtain ⟨rfl, rfl⟩ := hr
      have hS : (s.heap.push (bareSet w)).get? s.heap.objs.size = some (bareSet w) := Heap.get?_push_size _ rfl
      have bind := T.init.bind (.ref s.heap.objs.size)
      have sub2 : isSubtype (bareSet w).cls (Value.type "set") = pure true := sub
      have known2 := known
      have ty : Shared.TypeIs { s with heap := s.heap.push (bareSet w) } (.ref s.heap.objs.size) "set" := ⟨_, hS, rfl⟩
      repeat (any_goals (first | assumption | wp_step))
      refine codeAny_mono (codeAny_call_builtin (R := wants (fun r z => r = .none ∧ ∃ h' tk, z = { s with heap := h', toks := tk } ∧ Grown w (fun i => ns.getD i 0) s.heap.objs.size items.size h' ∧ ∀ b o, s.heap.get? b = some o → h'.get? b = some o) E) T.init.plain F.entry_set_init (check_set_init_1 ty ?_)) fun r2 z2 h2 => ?_
      · refine init_bare (s := { s with heap := s.heap.push (bareSet w) }) (R := _) (S := s.heap.objs.size) (by simp [hh]) hS (hl.push _) hi room fun h' tk g k => ⟨rfl, h', tk, rfl, g, fun b o y => k b o (Nat.ne_of_lt (Heap.lt_size y)) (Heap.get?_push_of_some _ y)⟩
      · cases r2 with
        | error e => exact h2
        | ok f2 =>
          cases f2 with
          | ret v2 =>
            obtain ⟨rfl, h', tk, rfl, g, k⟩ := h2
            repeat (any_goals (first | assumption | wp_step))
            exact fin h' tk g k
          | _ => exact h2.elim
    | _ => exact hr.elim
end
end HT
namespace Cm
open PySem PySem.Spec PyProof.Rows L2
/-! ### sorted(set(xs)) of whole numbers -/
def rSrtU (K : PySem.W.Frag) (x : V) (H1 : Hp) (Q : VK) : Prop := ∃ (l : Addr) (ns : List Int), x = .ref l ∧ SqL K H1 l (ns.map V.int) ∧ (ns.length ≤ 1000 ∧ unl ns ≤ 60) ∧ ∀ (ms : List Int) (p : Addr), ms.Pairwise (· < ·) → (∀ k, k ∈ ms ↔ k ∈ ns) → H1 p = none → Q (.ref p) (upd H1 p (.lst (ms.map V.int)))
def tSrtU (K : PySem.W.Frag) (ta : TE) : TE := fun σ H Q => ta σ H fun x H1 => rSrtU K x H1 Q
theorem met_mem {ns : List Int} (k : Int) : (PyProof.Rows.firstMet (fun i => ns.getD i 0) ns.length).any (· == k) = true ↔ k ∈ ns := by
  rw [firstMet_any]
  have e : (List.range ns.length).map (fun i => ns.getD i 0) = ns := by
    refine List.ext_getElem? fun i => ?_
    rw [List.getElem?_map]
    by_cases c : i < ns.length
    · rw [List.getElem?_range c, List.getElem?_eq_getElem c]
      simp [List.getD_eq_getElem?_getD, c]
    · rw [List.getElem?_eq_none (by simpa using c), List.getElem?_eq_none (by simpa using c)]; rfl
  rw [e, List.any_eq_true]
  constructor
  · rintro ⟨x, hx, h⟩; rw [← eq_of_beq h]; exact hx
  · intro h; exact ⟨k, h, beq_self_eq_true k⟩
theorem pe_srtU {X : Cx} {a : Expr} {ta : TE} {p p2 q pos : Pos} (cm : X.calm = true) (gl : Gl X "sorted") (ml : X.mg "sorted" = none) (gs : Gl X "set") (ms : X.mg "set" = none) (pa : PE X a ta)
    (se : starEach [a] X.env = (false, eval a X.env) :: starEach [] X.env := by rfl) : PE X (.Call (.Name "sorted" p) [.Call (.Name "set" p2) [a] [] q] [] pos) (tSrtU X.K ta) := by
  constructor
  intro pins s σ H Q I h
  refine Call_ (ld_blt I gl ml boot_sorted (PyProof.Rows.callWith_builtin1 (PyProof.Rows.args_cons ?_ rfl) rfl rfl))
  refine Call_ (ld_blt I gs ms boot_set (PyProof.Rows.callWith_type1 (PyProof.Rows.args_cons (thn (pa.run pins s σ H _ I h) fun v s1 ⟨x, H1, J, rx, qx⟩ => PyProof.Rows.args_nil ?_) se) se rfl))
  obtain ⟨l, ns, rfl, hq, ⟨hl, few⟩, qx⟩ := qx
  cases rx
  obtain ⟨its, rv, pl, hz⟩ := J.list hq
  have size : its.toArray.size = ns.length := by rw [List.size_toArray, ← rv.length, List.length_map]
  unfold unl at few
  refine HT.set_of_ints (J.ok.hd cm) pl.isList (by simpa using RZ.intsAre_vals rv) (by rw [size]; unfold scanBound; omega) fun h' tk g k => PyProof.Rows.args_nil ?_
  rw [size] at g
  have J2 : Inv X pins σ H1 { s1 with heap := h', toks := tk } := J.kept k
  have g2 : SetR X.w ({ s1 with heap := h', toks := tk } : Shared).heap s1.heap.objs.size _ _ := g
  generalize s1.heap.objs.size = sa at g2 ⊢
  generalize ({ s1 with heap := h', toks := tk } : Shared) = s2 at J2 g2 ⊢
  refine sorted_set g2 (J2.ok.hd cm) (by omega) fun s3 p out c ms keep gens os hp hg hin hs hm len => ?_
  have fresh : H1 p = none := J2.hok.fresh hp
  have es : s3 = { s2 with heap := s3.heap, gens := s3.gens, drawn := s3.drawn, toks := s3.toks } := by
    cases s3
    cases s2
    cases os
    rfl
  rw [es]
  have line : (ms.map V.int).length ≤ sizeLine := by
    rw [List.length_map, len]
    exact sz (by omega)
  have J3 : Inv X pins σ (upd H1 p (.lst (ms.map V.int))) { s2 with heap := s3.heap, gens := s3.gens, drawn := s3.drawn, toks := s3.toks } :=
    J2.call (ch := []) (Un.laid keep hp fresh) (J2.hok.laid keep hp ⟨line, out.toList, c, vals_of_ints hin, hg⟩) (by rw [gens]; exact J2.bare) (fun _ z => nomatch z)
  exact ⟨.ref p, _, J3, rfl, qx ms p hs (fun k => (hm k).trans (met_mem k)) fresh⟩
instance {K : PySem.W.Frag} {σ : L2.St} {H : Hp} {Q : VK} {te : TE} : Stp (tSrtU K te σ H Q) (te σ H fun x H1 => rSrtU K x H1 Q) := ⟨id⟩
theorem k_srtU {K : PySem.W.Frag} {H : Hp} {Q : VK} {l : Addr} {ns : List Int} (hs : SqL K H l (ns.map V.int)) (hl : ns.length ≤ 1000) (hu : unl ns ≤ 60) (h : ∀ (ms : List Int) (p : Addr) H', ms.Pairwise (· < ·) → (∀ k, k ∈ ms ↔ k ∈ ns) → H p = none → Same H H' → H' p = some (.lst (ms.map V.int)) → Q (.ref p) H') : rSrtU K (.ref l) H Q := ⟨l, ns, rfl, hs, ⟨hl, hu⟩, fun ms p a b c => h ms p _ a b c (same_new c) upd_same⟩
end Cm
namespace Cm
open PySem PySem.Spec PyProof.Rows L2
/-! ### x (not) in range(..) -/
theorem rg_has (o : Addr) (p q st x : Int) (k1 k2 k3 k4 : Tok) :
    Meets (Builtin.«range.__contains__» ⟨[.ref o, .int x k4], []⟩) (fun _ W z => z.heap.get? o = some { cls := .type "range", data := .fields #[.int p k1, .int q k2, .int st k3], dict := none, slots := #[] } ∧ W (.ok (.ret (.bool (Builtin.Range.rangePlace? p q st x).isSome))) z) :=
  .of_wp fun prog w A W z hz => by
    obtain ⟨hp, gg, dd, kk, ss⟩ := z
    obtain ⟨there, hz⟩ := hz
    wp_walk
    exact ⟨_, rfl, hz⟩
def RgV (vs : List V) (a b c : Int) : Prop := (vs = [.int b] ∧ a = 0 ∧ c = 1) ∨ (vs = [.int a, .int b, .int c] ∧ 0 < c ∧ c < 1073741824)
def inRgB (neg : Bool) (a b c i : Int) : Bool := if neg then !(Builtin.Range.rangePlace? a b c i).isSome else (Builtin.Range.rangePlace? a b c i).isSome
def tInRg (neg : Bool) (ta : TE) (tA : TA) : TE := fun σ H Q => ta σ H fun x H1 => tA σ H1 fun vs H2 => ∃ i a b c, x = .int i ∧ RgV vs a b c ∧ Q (.bl (inRgB neg a b c i)) H2
def rgOp : Bool → CmpOp
  | true => .NotIn
  | false => .In
theorem cmp_rg {X : Cx} {neg : Bool} {pins : List (Addr × Obj)} {s : Shared} {σ : L2.St} {H : Hp} {Q : VK} {o : Addr} {p q st x : Int} {k1 k2 k3 k4 : Tok} (J : Inv X pins σ H s) (ho : s.heap.get? o = some { cls := .type "range", data := .fields #[.int p k1, .int q k2, .int st k3] })
    (h : Q (.bl (inRgB neg p q st x)) H) : wpAny (model X.prog X.w) X.A (compareOp (rgOp neg) (.int x k4) (.ref o)) (EP X pins σ Q) X.xe s := by
  have go : ∀ {R : Bool → Shared → Prop}, R (Builtin.Range.rangePlace? p q st x).isSome s → wpAny (model X.prog X.w) X.A (contains (Value.ref o) (Value.int x k4)) R X.xe s := fun h =>
    wpAny_contains_slot (T := "range") ⟨_, ho, rfl⟩ F.slot_range_contains (call_meets F.slot_range_contains ⟨_, ho, rfl⟩ F.entry_range_contains (F.args_range_contains_2 _ _) (rg_has o p q st x k1 k2 k3 k4) ⟨ho, wpAny_truthy_bool h⟩)
  cases neg with
  | false =>
    show wpAny _ _ (do return Value.bool (← contains (Value.ref o) (Value.int x k4))) _ _ s
    exact wpAny_bind (go (wpAny_pure ⟨.bl _, H, J, rfl, h⟩))
  | true =>
    show wpAny _ _ (do return Value.bool (!(← contains (Value.ref o) (Value.int x k4)))) _ _ s
    exact wpAny_bind (go (wpAny_pure ⟨.bl _, H, J, rfl, h⟩))
theorem pc_inRg {X : Cx} {neg : Bool} {a b : Expr} {rest : List Expr} {ta : TE} {tA : TA} {p pos : Pos} (hg : Gl X "range") (hm : X.mg "range" = none) (pa : PE X a ta) (pA : PA X (b :: rest) tA)
    (he : starEach (b :: rest) X.env = (false, eval b X.env) :: starEach rest X.env) (hpl : (backTo pos (starEach rest X.env)).any (·.1) = false) : PC X (rgOp neg) a (.Call (.Name "range" p) (b :: rest) [] pos) (tInRg neg ta tA) := by
  refine ⟨fun pins s σ H Q I h => ?_⟩
  refine thn (pa.run pins s σ H _ I h) fun v s1 ⟨x, H1, I1, rx, q1⟩ => ?_
  refine Call_ (ld_blt I1 hg hm boot_range (PyProof.Rows.callWith_type1 (thn (pA.run pos pins s1 σ H1 _ I1 q1) fun us s2 ⟨vs, H2, I2, rs, q2⟩ => ?_) he hpl))
  obtain ⟨i, lo, hi, st, rfl, hv, q⟩ := q2
  obtain ⟨k, rfl⟩ := rx
  rcases hv with ⟨rfl, rfl, rfl⟩ | ⟨rfl, c0, c1⟩
  · cases rs with | cons r1 rr =>
    cases rr
    obtain ⟨t1, rfl⟩ := r1
    refine call_range_1 ?_
    exact cmp_rg (I2.kept fun b o e => Heap.get?_push_of_some _ e) (Heap.get?_push_size _ rfl) q
  · cases rs with | cons r1 rr =>
    cases rr with | cons r2 rr =>
    cases rr with | cons r3 rr =>
    cases rr
    obtain ⟨t1, rfl⟩ := r1
    obtain ⟨t2, rfl⟩ := r2
    obtain ⟨t3, rfl⟩ := r3
    refine call_range_3 (by omega) ?_ (.inl (PyProof.noPylong_small (by omega)))
    exact cmp_rg (I2.kept fun b o e => Heap.get?_push_of_some _ e) (Heap.get?_push_size _ rfl) q
def iRgIn (neg : Bool) (x : V) (vs : List V) (H : Hp) (Q : VK) : Prop := ∃ i a b c, x = .int i ∧ RgV vs a b c ∧ Q (.bl (inRgB neg a b c i)) H
instance {σ : L2.St} {H : Hp} {Q : VK} {neg : Bool} {ta : TE} {tA : TA} : Stp (tInRg neg ta tA σ H Q) (ta σ H fun x H1 => tA σ H1 fun vs H2 => iRgIn neg x vs H2 Q) := ⟨id⟩
theorem place_has (a b c i : Int) (hc : 0 < c) : (Builtin.Range.rangePlace? a b c i).isSome = decide (a ≤ i ∧ i < b ∧ (i - a) % c = 0) := by
  unfold Builtin.Range.rangePlace?
  rw [if_pos hc]
  by_cases h1 : a ≤ i <;> by_cases h2 : i < b <;> by_cases h3 : (i - a) % c = 0 <;> simp [h1, h2, h3]
theorem k_inRg1 {neg : Bool} {H : Hp} {Q : VK} {i n : Int} (h : Q (.bl (if neg then !decide (0 ≤ i ∧ i < n) else decide (0 ≤ i ∧ i < n))) H) : iRgIn neg (.int i) [.int n] H Q := ⟨i, 0, n, 1, rfl, .inl ⟨rfl, rfl, rfl⟩, by
  have e : decide (0 ≤ i ∧ i < n ∧ (i - 0) % 1 = 0) = decide (0 ≤ i ∧ i < n) := by rw [decide_eq_decide]; constructor <;> omega
  unfold inRgB
  rw [place_has 0 n 1 i (by decide), e]
  exact h⟩
theorem k_inRg3 {neg : Bool} {H : Hp} {Q : VK} {i a b c : Int} (hc : 0 < c) (hc2 : c < 1073741824) (h : Q (.bl (if neg then !decide (a ≤ i ∧ i < b ∧ (i - a) % c = 0) else decide (a ≤ i ∧ i < b ∧ (i - a) % c = 0))) H) : iRgIn neg (.int i) [.int a, .int b, .int c] H Q := ⟨i, a, b, c, rfl, .inr ⟨rfl, hc, hc2⟩, by
  unfold inRgB
  rw [place_has a b c i hc]
  exact h⟩
end Cm

namespace Cm
open PySem PySem.Spec PyProof.Rows L2
/-! ### sorted(xs), xs a list of data -/
def byD (z : V × PyData) : PyData := z.2
def srtD (xs : List V) (ds : List PyData) : List (V × PyData) := (xs.zip ds).mergeSort (PySem.W.dataLe false byD)
def rSortD (K : PySem.W.Frag) : List V → Hp → VK → Prop := fun vs H Q => ∃ (a : Addr) (xs : List V) (ds : List PyData), vs = [V.ref a] ∧ SqL K H a xs ∧ DpAll K H xs ds ∧ PySem.W.AllAlike ds ∧ PySem.W.Sortable ds ∧ (∀ d ∈ ds, d.depth ≤ 62) ∧
  ∀ p, H p = none → Q (.ref p) (upd H p (.lst ((srtD xs ds).map Prod.fst)))
section
variable {X : Cx} {pins : List (Addr × Obj)} {σ : L2.St} {H : Hp} {s : Shared}
theorem zip_snd : ∀ {xs : List V} {ds : List PyData}, DpAll X.K H xs ds → (xs.zip ds).map byD = ds
  | _, _, .nil => rfl
  | _, _, .cons _ t => by rw [List.zip_cons_cons, List.map_cons, zip_snd t]; rfl
theorem zip_is (I : Inv X pins σ H s) : ∀ {xs : List V} {ds : List PyData} {us : List Value}, DpAll X.K H xs ds → Vals xs us → PySem.W.EachIs (fun v (z : V × PyData) => RelV z.1 v) us (xs.zip ds) ∧ PySem.W.EachIs (fun v (z : V × PyData) => ∃ as, Reads s.heap v (byD z) as) us (xs.zip ds)
  | _, _, _, .nil, .nil => ⟨.nil, .nil⟩
  | _, _, _, .cons h t, .cons r rt => by
    obtain ⟨h1, h2⟩ := zip_is I t rt
    exact ⟨.cons r h1, .cons (Dp.reads I _ _ _ h r) h2⟩
theorem is_vals : ∀ {us : List Value} {zs : List (V × PyData)}, PySem.W.EachIs (fun v (z : V × PyData) => RelV z.1 v) us zs → Vals (zs.map Prod.fst) us
  | _, _, .nil => .nil
  | _, _, .cons r t => .cons r (is_vals t)
theorem cr_sortD (hu : X.A.units + 64 < cLine) : CallR X (.builtin "sorted") (rSortD X.K) := by
  intro pins s σ H vs us Q I r h
  obtain ⟨a, xs, ds, rfl, hs, hd, al, so, dep, q⟩ := h
  obtain ⟨its, rv, hl, hz⟩ := I.list hs
  rw [Vals.ref1 r]
  obtain ⟨e, er⟩ := zip_is I hd rv
  have zs := zip_snd hd
  have lz : (xs.zip ds).length = xs.length := by
    rw [List.length_zip, dpa_len hd, Nat.min_self]
  refine PySem.W.sorted_data hl.isList e er (by rw [zs]; exact al) (by rw [zs]; exact so) (by rw [lz]; exact hz) (fun z hz' => ?_) (fun out lo eo => ?_)
  · have : byD z ∈ ds := by rw [← zs]; exact List.mem_map_of_mem hz'
    have := dep _ this
    omega
  · obtain ⟨ep, at1⟩ := PyProof.Rows.sortedAll_at s.heap its out.toArray
    refine ⟨.ref _, upd H (s.heap.objs.size + 1) (.lst ((srtD xs ds).map Prod.fst)), I.laid (t' := s.toks) (fun _ _ => PyProof.Rows.sortedAll_old) (Nat.le_succ _) ⟨?_, out, ep, is_vals eo, at1⟩, rfl, q _ (I.hok.fresh (Nat.le_succ _))⟩
    rw [List.length_map, srtD, List.length_mergeSort, lz]
    exact hz
end
end Cm
namespace HT
open PySem PySem.Spec PyProof.Rows L2
/-! ### x in d.values() -/
theorem ent_ci : entryFor table "proto.contains_iter" = some Builtin.«proto.contains_iter» := entryFor_of_tree (by kernel_rfl)
theorem pl_ci : plainId "proto.contains_iter" = true := by decide +kernel
theorem lk_vals : typeLookup (.type "dict_values") "__contains__" = pure none := by rfl
section
variable {prog : Program} {w : World} {A : Around} {E : Value → Shared → Prop} {s : Shared}
theorem seek_all {I : Addr} {fp wr : List Addr} {n : Nat} {P : Nat → Value → Prop} {St : Nat → Heap → Prop} {R : Result → Shared → Prop} {val : Nat → Int} {x : Int} {tk : Tok}
    (W : Walks prog w A.in1 I fp wr n P St) (hin : ∀ i v, P i v → ∃ t, v = .int (val i) t) :
    ∀ (left i : Nat) (z : Shared), i + left = n → St i z.heap → (∀ b h' k, (b = true ↔ ∃ j, i ≤ j ∧ j < n ∧ val j = x) → (∀ c o, c ∉ wr → z.heap.get? c = some o → h'.get? c = some o) → R (.ok (.ret (.bool b))) { z with heap := h', toks := k }) →
      codeAny (model prog w) A (.builtin "proto.contains_iter" ⟨[.ref I, .int x tk], []⟩) R z := by
  intro left
  induction left with
  | zero =>
    intro i z e st fin
    obtain rfl : i = n := e
    refine codeAny_builtin ent_ci ?_
    rw [Around.under_plainId pl_ci _]
    refine wpAny_bind (W.done z _ _ st fun h' k kp => ?_)
    refine wpAny_bind (wpAny_rule (wpAny_pure ?_))
    exact fin false h' k ⟨(fun y => by cases y), fun ⟨j, h1, h2, _⟩ => by omega⟩ kp
  | succ left ih =>
    intro i z e st fin
    refine codeAny_builtin ent_ci ?_
    rw [Around.under_plainId pl_ci _]
    refine wpAny_bind (W.item i z _ _ (by omega) st fun v h' k pv st' kp => ?_)
    obtain ⟨t, rfl⟩ := hin i v pv
    refine wpAny_bind (wpAny_eqBool_int ?_)
    by_cases c : val i = x
    · rw [show (val i == x) = true by rw [c]; simp, if_pos rfl]
      refine wpAny_bind (wpAny_rule (wpAny_pure ?_))
      exact fin true h' k ⟨fun _ => ⟨i, Nat.le_refl _, by omega, c⟩, fun _ => rfl⟩ kp
    · rw [show (val i == x) = false by simpa using c, if_neg (by decide)]
      refine wpAny_pure ⟨plainId_quiet pl_ci _, ih (i + 1) { z with heap := h', toks := k } (by omega) st' fun b h2 k2 hb kp2 => ?_⟩
      refine fin b h2 k2 (hb.trans ⟨fun ⟨j, h1, h2, h3⟩ => ⟨j, by omega, h2, h3⟩, fun ⟨j, h1, h2, h3⟩ => ⟨j, ?_, h2, h3⟩⟩) fun c o hc y => kp2 c o hc (kp c o hc y)
      by_cases e : j = i
      · exact absurd (e ▸ h3) c
      · omega
theorem in_view {K : Type} [DecidableEq K] {knd : PySem.KeyKind prog w K} {v d : Addr} {kvs : List (K × Value)} {ep : Nat} {is : List Int} {x : Int} {tk : Tok} {Q : Bool → Shared → Prop} (hh : A.handled = none) (hv : s.heap.IsValuesView v d) (hm : s.heap.DictAt knd d kvs ep)
    (vals : ∀ (i : Nat) (u : Value), (∃ k, kvs[i]? = some (k, u)) → ∃ t, u = Value.int (is.getD i 0) t) (ln : kvs.length = is.length)
    (fin : ∀ b h' k, (b = true ↔ x ∈ is) → (∀ c o, s.heap.get? c = some o → h'.get? c = some o) → Q b { s with heap := h', toks := k }) : wpAny (model prog w) A (contains (.ref v) (.int x tk)) Q E s := by
  have ty : s.TypeIs (.ref v) "dict_values" := hv.typeIs
  unfold contains
  refine wpAny_holding ?_
  rw [stdlibNamesSay?_of_typeIs ty]
  refine wpAny_bind (wpAny_specialOf ty lk_vals ?_)
  rw [if_neg (by decide)]
  refine wpAny_bind (wpAny_callSpecialUnlessNone?_none ty lk_vals ?_)
  refine wpAny_bind (wpAny_rule ?_)
  refine wpAny_bind (wpAny_tryCatch (wpAny_pyIter_values hv hm ?_))
  have dlt : d < s.heap.objs.size := by
    obtain ⟨o, es, ho, _⟩ := hm
    exact Heap.lt_size ho
  have up : ∀ b u, s.heap.get? b = some u → (s.heap.push { cls := .type "dict_valueiterator", data := .fields #[.ref d, .int 0 0, .int kvs.length 0, .int ep 0] }).get? b = some u := fun b u e => Heap.get?_push_of_some _ e
  refine wpAny_bind (wpAny_runValue (seek_all (val := fun i => is.getD i 0) (Walks.dictValues (knd := knd) (A := A.in1) hh s.heap.objs.size d (Nat.ne_of_lt dlt) kvs ep) vals kvs.length 0 _ (by omega) ⟨⟨_, Heap.get?_push_size _ rfl, rfl, rfl⟩, hm.keep up⟩ (fun b h' k hb kp => ?_)))
  refine wpAny_pure (fin b h' k (hb.trans ?_) fun c o y => kp c o (fun hc => ?_) (up c o y))
  · rw [List.mem_iff_getElem]
    constructor
    · rintro ⟨j, _, h2, h3⟩
      have hj : j < is.length := by omega
      refine ⟨j, hj, ?_⟩
      rw [← h3, List.getD_eq_getElem?_getD, List.getElem?_eq_getElem hj]; rfl
    · rintro ⟨j, hj, e⟩
      refine ⟨j, Nat.zero_le _, by omega, ?_⟩
      show is.getD j 0 = x
      rw [← e, List.getD_eq_getElem?_getD, List.getElem?_eq_getElem hj]; rfl
  · have e1 : c = s.heap.objs.size := List.mem_singleton.mp hc
    exact Nat.lt_irrefl _ (e1 ▸ Heap.lt_size y)
end
end HT
namespace Cm
open PySem PySem.Spec PyProof.Rows L2
def iInV (neg : Bool) (x y : V) (H : Hp) (Q : VK) : Prop := ∃ (i : Int) (a : Addr) (kvs : List (Key × V)) (is : List Int), x = .int i ∧ y = .ref a ∧ H a = some (.dK kvs) ∧ kvs.map (·.2) = is.map V.int ∧ Q (.bl (if neg then !decide (i ∈ is) else decide (i ∈ is))) H
def tInV (neg : Bool) (ta td : TE) : TE := fun σ H Q => ta σ H fun x H1 => td σ H1 fun y H2 => iInV neg x y H2 Q
instance {σ : L2.St} {H : Hp} {Q : VK} {neg : Bool} {ta td : TE} : Stp (tInV neg ta td σ H Q) (ta σ H fun x H1 => td σ H1 fun y H2 => iInV neg x y H2 Q) := ⟨id⟩
theorem pc_inVals {X : Cx} {neg : Bool} {a o : Expr} {apos mpos : Pos} {ta td : TE} (hc : X.calm = true) (pa : PE X a ta) (hd : PE X o td) (hbase : attributeBase o "values" X.env (eval o X.env) = eval o X.env := by rfl) (hline : (apos.endLine == mpos.line) = true := by rfl) :
    PC X (rgOp neg) a (.Call (.Attribute o "values" apos) [] [] mpos) (tInV neg ta td) := by
  refine ⟨fun pins s σ H Q I h => ?_⟩
  refine thn (pa.run pins s σ H _ I h) fun w0 s0 ⟨x, H0, I0, r0, q0⟩ => ?_
  refine wpAny_Call_method0_late hbase hline (thn (hd.run pins s0 σ H0 _ I0 q0) ?_)
  rintro v s1 ⟨y, H1, I1, r1, i, d, kvs, is, rfl, rfl, ha, hv, q⟩
  obtain rfl : v = Value.ref d := r1
  obtain ⟨tk, rfl⟩ := r0
  obtain ⟨_, hsys, vs, rel, dof⟩ := dk_of I1.hok ha
  obtain ⟨ep, dat⟩ := dof.dictAt
  obtain ⟨ob, es, ho, ex, hdat, hko, hpr, hnd⟩ := id dat
  have lv : vs.length = is.length := by
    have e1 : kvs.length = is.length := by simpa using congrArg List.length hv
    rw [← e1]; exact (KV.length rel).symm
  have vals : ∀ (i : Nat) (v : Value), (∃ k, vs[i]? = some (k, v)) → ∃ t, v = Value.int (is.getD i 0) t := by
    rintro j v ⟨k, hk⟩
    obtain ⟨z, h1, h2⟩ := KV.at' rel hk
    have e1 : (is.map V.int)[j]? = some z := by rw [← hv, List.getElem?_map, h1] <;> rfl
    rw [List.getElem?_map] at e1
    obtain ⟨m, hm, rfl⟩ := Option.map_eq_some_iff.mp e1
    obtain ⟨t, e3⟩ := h2
    exact ⟨t, by rw [e3, List.getD_eq_getElem?_getD, hm] <;> rfl⟩
  refine ⟨"dict", "dict.values", F.plainAttrs_dict, F.slot_dict_values, F.type_dict_values, ⟨ob, ho, ex.1⟩, fun b e => by cases e; exact ⟨ob, ho, ex.2.1⟩, Calls.callWith_builtin rfl (PySem.evalArgs_none ?_)⟩
  refine call_meetsIn F.slot_dict_values ⟨ob, ho, ex.1⟩ F.entry_dict_values (F.args_dict_values_1 _) (meets_dict_values (mixKind X.prog X.w) d hsys) ⟨⟨vs, dof⟩, ?_⟩
  have up : ∀ b u, s1.heap.get? b = some u → (s1.heap.push { cls := .type "dict_values", data := .fields #[.ref d] }).get? b = some u := fun b u e => Heap.get?_push_of_some _ e
  have go : ∀ {R : Bool → Shared → Prop}, (∀ b h' k, (b = true ↔ i ∈ is) → (∀ c o, (s1.heap.push { cls := .type "dict_values", data := .fields #[.ref d] }).get? c = some o → h'.get? c = some o) → R b { s1 with heap := h', toks := k }) → wpAny (model X.prog X.w) X.A (contains (.ref s1.heap.objs.size) (.int i tk)) R X.xe { s1 with heap := s1.heap.push { cls := .type "dict_values", data := .fields #[.ref d] } } := fun fin =>
    HT.in_view (I.ok.hd hc) (v := s1.heap.objs.size) (d := d) ⟨_, Heap.get?_push_size _ rfl, rfl, rfl⟩ (dat.keep up) vals lv fin
  have keep : ∀ {h' : Heap} {k : Nat}, (∀ c o, (s1.heap.push { cls := .type "dict_values", data := .fields #[.ref d] }).get? c = some o → h'.get? c = some o) → Inv X pins σ H1 { s1 with heap := h', toks := k } := fun {h' k} kp => I1.kept (t' := k) fun b u e => kp b u (up b u e)
  cases neg with
  | false =>
    show wpAny _ _ (do return Value.bool (← contains (Value.ref s1.heap.objs.size) (Value.int i tk))) _ _ _
    refine wpAny_bind (go fun b h' k hb kp => wpAny_pure ⟨.bl b, H1, keep kp, rfl, ?_⟩)
    have e : b = decide (i ∈ is) := by rw [Bool.eq_iff_iff, hb, decide_eq_true_eq]
    rw [e]; exact q
  | true =>
    show wpAny _ _ (do return Value.bool (!(← contains (Value.ref s1.heap.objs.size) (Value.int i tk)))) _ _ _
    refine wpAny_bind (go fun b h' k hb kp => wpAny_pure ⟨.bl !b, H1, keep kp, rfl, ?_⟩)
    have e : b = decide (i ∈ is) := by rw [Bool.eq_iff_iff, hb, decide_eq_true_eq]
    rw [e]; exact q
theorem k_inV {neg : Bool} {H : Hp} {Q : VK} {i : Int} {a : Addr} {kvs : List (Key × V)} {is : List Int} (e : H a = some (.dK kvs)) (hv : kvs.map (·.2) = is.map V.int) (h : Q (.bl (if neg then !decide (i ∈ is) else decide (i ∈ is))) H) : iInV neg (.int i) (.ref a) H Q := ⟨i, a, kvs, is, rfl, rfl, e, hv, h⟩
theorem k_nInV {H : Hp} {Q : VK} {i : Int} {a : Addr} {kvs : List (Key × V)} {is : List Int} (e : H a = some (.dK kvs)) (hv : kvs.map (·.2) = is.map V.int) (h : Q (.bl (!decide (i ∈ is))) H) : iInV true (.int i) (.ref a) H Q := k_inV e hv h
end Cm
namespace HT
open PySem PySem.Spec PyProof.Rows L2
/-! ### sum(lists, start) -/
def lsO (vs : List Value) (e : Nat) : Obj := { cls := .type "list", data := .seq vs.toArray e }
/-- the first i rows behind a start -/
def rowsTo (start : List Value) (row : Nat → List Value) : Nat → List Value
  | 0 => start
  | i + 1 => rowsTo start row i ++ row i
theorem rowsTo_len {start : List Value} {row : Nat → List Value} : ∀ {i n : Nat}, i ≤ n → (rowsTo start row i).length ≤ (rowsTo start row n).length
  | i, 0, h => by
    obtain rfl : i = 0 := by omega
    exact Nat.le_refl _
  | i, n + 1, h => by
    by_cases c : i = n + 1
    · rw [c]; exact Nat.le_refl _
    · have := rowsTo_len (start := start) (row := row) (show i ≤ n by omega)
      rw [rowsTo, List.length_append]
      omega
theorem a2_sum (a b : Value) : argsOk "sum" ⟨[a, b], []⟩ := by unfold argsOk; kernel_rfl
section
variable {prog : Program} {w : World} {A : Around} {E : Value → Shared → Prop} {s : Shared}
theorem cat_all {I : Addr} {fp wr : List Addr} {n : Nat} {P : Nat → Value → Prop} {St : Nat → Heap → Prop} {R : Result → Shared → Prop} {cs : Nat → Addr} {start : List Value} {row : Nat → List Value} {S : Addr} {h0 : Heap}
    (W : Walks prog w A.in1 I fp wr n P St) (hin : ∀ i v, P i v → v = .ref (cs i)) (hS : S ∉ fp) (hw : ∀ i h, St i h → ∀ b ∈ wr, b < h.objs.size) (rows : ∀ i, i < n → cs i ∉ wr ∧ cs i ≠ S ∧ ∃ e, h0.get? (cs i) = some (lsO (row i) e)) (room : (rowsTo start row n).length ≤ sizeLine) :
    ∀ (left i : Nat) (z : Shared) (T : Addr) (c e : Nat), i + left = n → St i z.heap → (∀ b o, b ∉ wr → b ≠ S → h0.get? b = some o → z.heap.get? b = some o) → z.heap.get? S = some { cls := .type "list", dict := none, data := .seq #[.ref T] c, slots := #[] } → T ∉ wr → T ≠ S → z.heap.get? T = some (lsO (rowsTo start row i) e) →
      (∀ T' h' k e', (left = 0 → T' = T) → (0 < left → ∀ q ∈ wr, q < T') → (∀ b o, b ∉ wr → b ≠ S → z.heap.get? b = some o → h'.get? b = some o) → h'.get? T' = some (lsO (rowsTo start row n) e') → R (.ok (.ret (.ref T'))) { z with heap := h', toks := k }) →
      codeAny (model prog w) A (.builtin "sum.loop" ⟨[.ref I, .ref S, rawInt 2, rawInt 0], []⟩) R z := by
  have hSw : S ∉ wr := fun h => hS (W.sub _ h)
  intro left
  induction left with
  | zero =>
    intro i z T c e hi st kp0 hz Tw TS eT fin
    obtain rfl : i = n := hi
    refine codeAny_builtin F.entry_sum_loop ?_
    rw [Around.under_plainId F.plain_sum_loop _]
    show wpAny _ A.in1 (seqItems? (.ref S) >>= _) _ _ z
    refine wpAny_bind (wpAny_seqItems hz rfl ?_)
    show wpAny _ A.in1 (tryCatch (pyNext (.ref I)) _ >>= _) _ _ z
    refine wpAny_bind (wpAny_tryCatch (W.done z _ _ st fun h' k kp => ?_))
    exact wpAny_pure (fin T h' k e (fun _ => rfl) (fun y => by omega) (fun b o hb _ y => kp b o hb y) (kp T _ Tw eT))
  | succ left ih =>
    intro i z T c e hi st kp0 hz Tw TS eT fin
    obtain ⟨cw, cS, e1, ec⟩ := rows i (by omega)
    refine codeAny_builtin F.entry_sum_loop ?_
    rw [Around.under_plainId F.plain_sum_loop _]
    show wpAny _ A.in1 (seqItems? (.ref S) >>= _) _ _ z
    refine wpAny_bind (wpAny_seqItems hz rfl ?_)
    show wpAny _ A.in1 (tryCatch (pyNext (.ref I)) _ >>= _) _ _ z
    refine wpAny_bind (wpAny_tryCatch (W.item i z _ _ (by omega) st fun v h' k pv st' kp => ?_))
    obtain rfl := hin i v pv
    have eS := kp S _ hSw hz
    have eT' := kp T _ Tw eT
    have ecz := kp (cs i) _ cw (kp0 (cs i) _ cw cS ec)
    have big : (rowsTo start row i).length + (row i).length ≤ sizeLine := by
      have := rowsTo_len (start := start) (row := row) (show i + 1 ≤ n by omega)
      rw [rowsTo, List.length_append] at this
      omega
    show wpAny _ A.in1 ((holding [Value.ref (cs i)] (binaryOp .Add (.ref T) (.ref (cs i)))).attempt >>= _) _ _ _
    refine wpAny_bind (wpAny_attempt (wpAny_holding (PySem.P.add_list eT' ecz ?_ (by rw [List.size_toArray, List.size_toArray]; exact big))))
    have ep : (rowsTo start row i).toArray ++ (row i).toArray = (rowsTo start row (i + 1)).toArray := by simp [rowsTo]
    rw [ep]
    have nS : S ≠ h'.objs.size := Nat.ne_of_lt (Heap.lt_size eS)
    have up : ∀ b o, h'.get? b = some o → (h'.push (lsO (rowsTo start row (i + 1)) 0)).get? b = some o := fun b o y => Heap.get?_push_of_some _ y
    have ePS := up S _ eS
    show wpAny _ A.in1 (updateSeq S (fun _ => #[.ref h'.objs.size]) >>= _) _ _ _
    refine wpAny_bind (wpAny_updateSeq ePS rfl ?_)
    have eS2 := Heap.get?_update_self (Obj.mapSeq fun _ => #[Value.ref h'.objs.size]) ePS rfl
    refine wpAny_bind (wpAny_letGo ?_)
    have keep2 : ∀ b o, b ≠ S → h'.get? b = some o → (((h'.push (lsO (rowsTo start row (i + 1)) 0)).update S (Obj.mapSeq fun _ => #[Value.ref h'.objs.size])).update S (Obj.mapSeq fun _ => #[Value.ref h'.objs.size])).get? b = some o := fun b o hb y =>
      (Heap.get?_update_other _ _ (Ne.symm hb)).trans ((Heap.get?_update_other _ _ (Ne.symm hb)).trans (up b o y))
    have eT2 : (((h'.push (lsO (rowsTo start row (i + 1)) 0)).update S (Obj.mapSeq fun _ => #[Value.ref h'.objs.size])).update S (Obj.mapSeq fun _ => #[Value.ref h'.objs.size])).get? h'.objs.size = some (lsO (rowsTo start row (i + 1)) 0) :=
      (Heap.get?_update_other _ _ nS).trans ((Heap.get?_update_other _ _ nS).trans (Heap.get?_push_size _ rfl))
    have big2 : ∀ b, b < h'.objs.size → b < (((h'.push (lsO (rowsTo start row (i + 1)) 0)).update S (Obj.mapSeq fun _ => #[Value.ref h'.objs.size])).update S (Obj.mapSeq fun _ => #[Value.ref h'.objs.size])).objs.size := fun b hb => by
      rw [Heap.size_update, Heap.size_update, Heap.size_push]
      omega
    refine wpAny_bind (wpAny_updateSeq eS2 rfl (wpAny_pure ⟨plainId_quiet F.plain_sum_loop _, ih (i + 1) _ h'.objs.size _ 0 (by omega) (W.frame _ _ _ st' fun b hb o y => keep2 b o (fun c => hS (c ▸ hb)) y) (fun b o hb hb2 y => keep2 b o hb2 (kp b o hb (kp0 b o hb hb2 y))) (Heap.get?_update_self _ eS2 rfl) ?_ (Ne.symm nS) eT2 fun T' h2 k2 e' h3 h4 h5 h6 => ?_⟩))
    · exact fun y => Nat.lt_irrefl _ (hw _ _ st' _ y)
    · refine fin T' h2 k2 e' (fun y => by omega) (fun _ q hq => ?_) (fun b o hb hb2 y => h5 b o hb hb2 (keep2 b o hb2 (kp b o hb y))) h6
      by_cases c0 : left = 0
      · rw [h3 c0]
        exact hw _ _ st' q hq
      · exact h4 (by omega) q hq
theorem nl_str : isSubtype (.type "list") (.type "str") = pure false := by rw [isSubtype_type]; kernel_rfl
theorem nl_bytes : isSubtype (.type "list") (.type "bytes") = pure false := by rw [isSubtype_type]; kernel_rfl
theorem nl_barr : isSubtype (.type "list") (.type "bytearray") = pure false := by rw [isSubtype_type]; kernel_rfl
theorem call_sumL {l b : Addr} {items : Array Value} {cs : Nat → Addr} {start : List Value} {row : Nat → List Value} {Q : Value → Shared → Prop} (hh : A.handled = none) (hl : s.heap.IsList l items) (hb : ∃ e, s.heap.get? b = some (lsO start e)) (hin : ∀ (i : Nat) v, items[i]? = some v → v = .ref (cs i)) (rows : ∀ i, i < items.size → ∃ e, s.heap.get? (cs i) = some (lsO (row i) e)) (room : (rowsTo start row items.size).length ≤ sizeLine)
    (fin : ∀ T h' k e', (items.size = 0 → T = b) → (0 < items.size → s.heap.objs.size ≤ T) → (∀ c o, s.heap.get? c = some o → h'.get? c = some o) → h'.get? T = some (lsO (rowsTo start row items.size) e') → Q (.ref T) { s with heap := h', toks := k }) :
    wpAny (model prog w) A (call (.builtin "sum") [.ref l, .ref b]) Q E s := by
  obtain ⟨eb, hb⟩ := hb
  refine call_function_tree F.kind_sum F.plain_sum F.entry_sum (a2_sum _ _) ?_
  unfold Builtin.«sum»
  simp only [List.length_cons, List.length_nil]
  rw [if_neg (by decide)]
  refine wpAny_bind (wpAny_of_eq (show Builtin.Builtins.bindParams "sum" ["start"] 0 ⟨[.ref b], []⟩ = pure [some (.ref b)] from rfl) ?_)
  refine wpAny_bind (wpAny_pyIter_list hl ?_)
  have lt : ∀ {c o}, s.heap.get? c = some o → c < s.heap.objs.size := fun e => Heap.lt_size e
  have up : ∀ c o, s.heap.get? c = some o → (s.heap.push { cls := .type "list_iterator", data := .fields #[.ref l, .int 0 0] }).get? c = some o := fun c o y => Heap.get?_push_of_some _ y
  have ty : ({ s with heap := s.heap.push { cls := .type "list_iterator", data := .fields #[.ref l, .int 0 0] } } : Shared).TypeIs (.ref b) "list" := ⟨_, up b _ hb, rfl⟩
  refine wpAny_bind (wpAny_pure ?_)
  simp only [List.forIn_cons, List.forIn_nil]
  refine wpAny_bind (wpAny_bind (wpAny_bind (wpAny_isInstance (T := "list") (b := false) ty nl_str ?_)))
  simp only [Bool.false_eq_true, if_false]
  refine wpAny_pure (wpAny_bind (wpAny_bind (wpAny_isInstance (T := "list") (b := false) ty nl_bytes ?_)))
  simp only [Bool.false_eq_true, if_false]
  refine wpAny_pure (wpAny_bind (wpAny_bind (wpAny_isInstance (T := "list") (b := false) ty nl_barr ?_)))
  simp only [Bool.false_eq_true, if_false]
  refine wpAny_pure (wpAny_pure ?_)
  refine wpAny_bind (wpAny_newObj_type ?_)
  obtain ⟨ol, hol, _⟩ := id hl
  have ltl := lt hol
  have sz : (s.heap.push { cls := .type "list_iterator", data := .fields #[.ref l, .int 0 0] }).objs.size = s.heap.objs.size + 1 := Heap.size_push _ _
  refine wpAny_pure ⟨plainId_quiet F.plain_sum_loop _, ?_⟩
  have up2 : ∀ c o, s.heap.get? c = some o → ((s.heap.push { cls := .type "list_iterator", data := .fields #[.ref l, .int 0 0] }).push { cls := .type "list", data := .seq #[.ref b] }).get? c = some o := fun c o y => Heap.get?_push_of_some _ (up c o y)
  have ne0 : ∀ {c : Addr}, c < s.heap.objs.size → c ∉ [s.heap.objs.size] := fun h hc => Nat.ne_of_lt h (List.mem_singleton.mp hc)
  have ne1 : ∀ {c : Addr}, c < s.heap.objs.size → c ≠ s.heap.objs.size + 1 := fun h => Nat.ne_of_lt (Nat.lt_succ_of_lt h)
  refine cat_all (h0 := s.heap) (start := start) (row := row) (Walks.list (prog := prog) (w := w) (A := A.in1) hh s.heap.objs.size l (Nat.ne_of_lt ltl) items) hin ?_ ?_ (fun i hi => ?_) room items.size 0 _ b 0 eb (by omega) ⟨⟨_, Heap.get?_push_of_some _ (Heap.get?_push_size _ rfl), rfl, rfl⟩, (hl.push _).push _⟩ (fun c o _ _ y => up2 c o y) (Heap.get?_push_size _ rfl) ?_ ?_ (up2 b _ hb) (fun T h' k e' h3 h4 h5 h6 => ?_)
  · simp only [List.mem_cons, List.not_mem_nil, or_false, not_or]
    constructor
    · show (s.heap.push _).objs.size ≠ _
      rw [sz]
      exact Nat.succ_ne_self _
    · show (s.heap.push _).objs.size ≠ _
      rw [sz]
      exact (ne1 ltl).symm
  · intro i h st c hc
    rw [show c = s.heap.objs.size from List.mem_singleton.mp hc]
    obtain ⟨⟨o, ho, _⟩, _⟩ := st
    exact Heap.lt_size ho
  · obtain ⟨e, he⟩ := rows i hi
    refine ⟨ne0 (lt he), ?_, e, he⟩
    show cs i ≠ (s.heap.push _).objs.size
    rw [sz]
    exact ne1 (lt he)
  · exact ne0 (lt hb)
  · show b ≠ (s.heap.push _).objs.size
    rw [sz]
    exact ne1 (lt hb)
  · refine fin T h' k e' h3 (fun hp => Nat.le_of_lt (h4 hp _ (List.mem_singleton.mpr rfl))) (fun c o y => ?_) h6
    · refine h5 c o (ne0 (lt y)) ?_ (up2 c o y)
      show c ≠ (s.heap.push _).objs.size
      rw [sz]
      exact ne1 (lt y)
end
end HT
namespace Cm
open PySem PySem.Spec PyProof.Rows L2
def rSumL (K : PySem.W.Frag) : List V → Hp → VK → Prop := fun vs H Q => ∃ (a b : Addr) (cs : List Addr) (rows : List (List V)) (st : List V), vs = [V.ref a, V.ref b] ∧ SqL K H a (cs.map V.ref) ∧ H b = some (.lst st) ∧ cs.length = rows.length ∧ (∀ (i : Nat) c r, cs[i]? = some c → rows[i]? = some r → H c = some (.lst r)) ∧ (st ++ rows.flatten).length ≤ 100000 ∧
  (rows = [] → Q (.ref b) H) ∧ (rows ≠ [] → ∀ p, H p = none → Q (.ref p) (upd H p (.lst (st ++ rows.flatten))))
theorem vals_at {xs : List V} {us : List Value} (h : Vals xs us) : ∀ {i : Nat} {u : Value}, us[i]? = some u → ∃ x, xs[i]? = some x ∧ RelV x u := by
  induction h with
  | nil => intro i u e; simp at e
  | cons r t ih =>
    intro i u e
    cases i with
    | zero =>
      simp only [List.getElem?_cons_zero, Option.some.injEq] at e
      subst e
      exact ⟨_, rfl, r⟩
    | succ i => exact ih (by simpa using e)
theorem rows_vals {st : List V} {rows : List (List V)} {start : List Value} {row : Nat → List Value} (h0 : Vals st start) (hr : ∀ i, i < rows.length → Vals (rows.getD i []) (row i)) : ∀ i, i ≤ rows.length → Vals (st ++ (rows.take i).flatten) (HT.rowsTo start row i)
  | 0, _ => by
    show Vals (st ++ (rows.take 0).flatten) start
    simpa using h0
  | i + 1, h => by
    have ih := rows_vals h0 hr i (by omega)
    have e : rows.take (i + 1) = rows.take i ++ [rows.getD i []] := by
      rw [List.take_add_one, List.getD_eq_getElem?_getD, List.getElem?_eq_getElem (show i < rows.length by omega)]; rfl
    rw [e, List.flatten_append, ← List.append_assoc]
    show Vals _ (HT.rowsTo start row i ++ row i)
    simpa using ih.append (hr i (by omega))
open Classical in
theorem cr_sumL {X : Cx} (hc : X.calm = true) : CallR X (.builtin "sum") (rSumL X.K) := by
  intro pins s σ H vs us Q I r h
  obtain ⟨a, b, cs, rows, st, rfl, hs, hb, hl, hrow, hz, q0, q1⟩ := h
  obtain ⟨its, rv, isl, _⟩ := I.list hs
  obtain ⟨z1, start, e1, r1, l1, g1⟩ := I.lstM hb
  obtain ⟨u1, u2, rfl, ra, rb⟩ := vals2 r
  obtain rfl : u1 = Value.ref a := ra
  obtain rfl : u2 = Value.ref b := rb
  have ln : its.toArray.size = rows.length := by rw [List.size_toArray, ← rv.length, List.length_map, hl]
  have each : ∀ i, i < rows.length → ∃ vsi e, Vals (rows.getD i []) vsi ∧ s.heap.get? (cs.getD i 0) = some (HT.lsO vsi e) := fun i hi => by
    have hc' : cs[i]? = some (cs.getD i 0) := by rw [List.getD_eq_getElem?_getD, List.getElem?_eq_getElem (by omega)]; rfl
    have hr' : rows[i]? = some (rows.getD i []) := by rw [List.getD_eq_getElem?_getD, List.getElem?_eq_getElem hi]; rfl
    obtain ⟨_, its', n', r', _, g'⟩ := I.lstM (hrow i _ _ hc' hr')
    exact ⟨its', n', r', g'⟩
  let row : Nat → List Value := fun i => if h : i < rows.length then (each i h).choose else []
  have hrv : ∀ i, (h : i < rows.length) → Vals (rows.getD i []) (row i) ∧ ∃ e, s.heap.get? (cs.getD i 0) = some (HT.lsO (row i) e) := fun i h => by
    have := (each i h).choose_spec
    have er : row i = (each i h).choose := dif_pos h
    rw [er]
    obtain ⟨e, p1, p2⟩ := this
    exact ⟨p1, e, p2⟩
  have rvs := rows_vals r1 (fun i h => (hrv i h).1)
  have full := rvs rows.length (Nat.le_refl _)
  rw [List.take_length] at full
  have line : (st ++ rows.flatten).length ≤ sizeLine := sz hz
  refine HT.call_sumL (I.ok.hd hc) (cs := fun i => cs.getD i 0) (start := start) (row := row) isl.isList ⟨e1, g1⟩ (fun i v hv => ?_) (fun i hi => (hrv i (by omega)).2) (by rw [ln, ← full.length]; exact line) (fun T h' k e' t0 t1 kp eT => ?_)
  · obtain ⟨x, hx, rx⟩ := vals_at rv (by simpa using hv)
    rw [List.getElem?_map] at hx
    obtain ⟨c, hc', rfl⟩ := Option.map_eq_some_iff.mp hx
    rw [List.getD_eq_getElem?_getD, hc']
    exact rx
  · rw [ln] at eT t0 t1
    by_cases c : rows = []
    · rw [t0 (by rw [c]; rfl)]
      exact ⟨.ref b, H, I.kept kp, rfl, q0 c⟩
    · have lp : 0 < rows.length := List.length_pos_iff.mpr c
      have ge : s.heap.objs.size ≤ T := t1 lp
      exact ⟨.ref T, upd H T (.lst (st ++ rows.flatten)), I.laid kp ge ⟨line, _, e', full, eT⟩, rfl, q1 c T (I.hok.fresh ge)⟩
end Cm
namespace Cm
open PySem PySem.Spec PyProof.Rows L2
theorem k_sumL {K : PySem.W.Frag} {H : Hp} {Q : VK} {a b : Addr} {cs : List Addr} {rows : List (List V)} {st : List V} (hs : SqL K H a (cs.map V.ref)) (hb : H b = some (.lst st)) (hl : cs.length = rows.length) (hr : ∀ (i : Nat) c r, cs[i]? = some c → rows[i]? = some r → H c = some (.lst r)) (hz : (st ++ rows.flatten).length ≤ 100000)
    (h : ∀ p H', (p = b ∨ H p = none) → Same H H' → H' p = some (.lst (st ++ rows.flatten)) → Q (.ref p) H') : rSumL K [.ref a, .ref b] H Q :=
  ⟨a, b, cs, rows, st, rfl, hs, hb, hl, hr, hz, fun e => h b H (.inl rfl) (Same.refl _) (by rw [e]; simpa using hb), fun _ p np => h p _ (.inr np) (same_new np) upd_same⟩
end Cm
namespace Cm
open PySem PySem.Spec PyProof.Rows L2
/-! ### an own exception made as a value -/
theorem pe_of_mk {X : Cx} {e : Expr} {t : L2.St → Hp → XK → Prop} (he : PMk X e t) : PE X e (fun σ H Q => t σ H fun cls d H' => ∀ a, H' a = none → Q (.ref a) (upd H' a (ExV cls d a))) :=
  ⟨fun pins s σ H Q I h => wpAny_mono (he pins s σ H _ I h) (fun u s1 hu => by
    obtain ⟨a, oe, vs, sI, H', cls, d, rfl, J, k, hne, ha, hz, hd, h1, na, os, ag, r, q⟩ := hu
    exact ⟨.ref a, upd H' a (ExV cls d a), J.call' (ch := []) os (Un.laidN k hne na) (J.hok.laidN k na (exV_ok ha hz hd)) ag (fun b z => absurd z (by simp)), rfl, q a na⟩) fun _ _ x => x⟩
/-- C(e), C with an __init__ that keeps sp, as a value -/
def tMkV (C : Addr) (sp : Sp) (ta : TA) : TE := fun σ H Q => tMkO C sp [] ta σ H fun cls d H' => ∀ a, H' a = none → Q (.ref a) (upd H' a (ExV cls d a))
theorem k_mkV {C : Addr} {f : Str} {ta : TA} {v : V} {σ : L2.St} {H : Hp} {Q : VK} (hta : ∀ (R : List V → Hp → Prop), R [v] H → ta σ H R) (h : ∀ d a, H d = none → (upd H d (.xd [(f, v)])) a = none → Q (.ref a) (upd (upd H d (.xd [(f, v)])) a (ExV (.ref C) (some d) a))) : tMkV C (spInit C f) ta σ H Q :=
  k_raiseO (E := fun cls d H' => ∀ a, H' a = none → Q (.ref a) (upd H' a (ExV cls d a))) (D := ⟨fun _ _ => False, fun _ _ => False, fun _ _ => False, fun _ _ => False⟩) hta fun d nd a na => h d a nd na
end Cm
namespace Cm
open PySem PySem.Spec PyProof.Rows L2
/-! ### xs[::2] of a list -/
def evV {α : Type} : List α → List α
  | [] => []
  | [a] => [a]
  | a :: _ :: r => a :: evV r
theorem evV_len {α : Type} : ∀ l : List α, (evV l).length = (l.length + 1) / 2
  | [] => by show 0 = (0 + 1) / 2; rfl
  | [_] => by show 1 = (0 + 1 + 1) / 2; rfl
  | _ :: _ :: r => by show (evV r).length + 1 = (r.length + 1 + 1 + 1) / 2; rw [evV_len r]; omega
theorem evV_get {α : Type} : ∀ (l : List α) (i : Nat), (evV l)[i]? = l[2 * i]?
  | [], i => by simp [evV]
  | [a], 0 => rfl
  | [a], i + 1 => by simp [evV, show 2 * (i + 1) = 2 * i + 1 + 1 by omega]
  | a :: b :: r, 0 => rfl
  | a :: b :: r, i + 1 => by
    show (evV r)[i]? = (a :: b :: r)[2 * (i + 1)]?
    rw [evV_get r i, show 2 * (i + 1) = 2 * i + 1 + 1 by omega, List.getElem?_cons_succ, List.getElem?_cons_succ]
theorem evV_map {α β : Type} (f : α → β) : ∀ l : List α, (evV l).map f = evV (l.map f)
  | [] => rfl
  | [_] => rfl
  | a :: b :: r => by show f a :: (evV r).map f = f a :: evV (r.map f); rw [evV_map f r]
theorem evV_vals : ∀ {xs : List V} {us : List Value}, Vals xs us → Vals (evV xs) (evV us)
  | _, _, .nil => .nil
  | _, _, .cons h .nil => .cons h .nil
  | _, _, .cons h (.cons _ t) => .cons h (evV_vals t)
theorem evV_fm {α : Type} (l : List α) : ∀ k, k ≤ (evV l).length → (List.range k).filterMap (fun m => l[2 * m]?) = (evV l).take k
  | 0, _ => by simp
  | k + 1, h => by
    have ih := evV_fm l k (by omega)
    rw [List.range_succ, List.filterMap_append, ih, List.take_add_one, evV_get]
    have : 2 * k < l.length := by rw [evV_len] at h; omega
    rw [List.getElem?_eq_getElem this]
    simp [List.getElem?_eq_getElem this]
theorem pick_ev (items : Array Value) : slicePick items none none (some 2) = (evV items.toList).toArray := by
  unfold slicePick
  have e : sliceBounds none none (some 2) items.size = ((0 : Int), (items.size : Int), 2) := by
    simp [sliceBounds]
  rw [e]
  show ((sliceRange (0 : Int) (items.size : Int) 2).filterMap (items[·]?)).toArray = _
  congr 1
  unfold sliceRange
  have hc : (if (2 : Int) > 0 then (if (0 : Int) < (items.size : Int) then ((items.size : Int) - 0 + 2 - 1) / 2 else 0) else (if (0 : Int) > (items.size : Int) then ((0 : Int) - (items.size : Int) - 2 - 1) / (-2) else 0)).toNat = (evV items.toList).length := by
    rw [evV_len, Array.length_toList, if_pos (by decide)]
    split <;> omega
  show List.filterMap (fun x => items[x]?) (List.map (fun (k : Nat) => ((0 : Int) + 2 * (k : Int)).toNat) (List.range (if (2 : Int) > 0 then (if (0 : Int) < (items.size : Int) then ((items.size : Int) - 0 + 2 - 1) / 2 else 0) else (if (0 : Int) > (items.size : Int) then ((0 : Int) - (items.size : Int) - 2 - 1) / (-2) else 0)).toNat)) = _
  rw [hc, List.filterMap_map]
  have hf : ((fun x => items[x]?) ∘ fun (k : Nat) => ((0 : Int) + 2 * (k : Int)).toNat) = fun m : Nat => items.toList[2 * m]? := by
    funext m
    show items[((0 : Int) + 2 * (m : Int)).toNat]? = _
    rw [show ((0 : Int) + 2 * (m : Int)).toNat = 2 * m by omega, Array.getElem?_toList]
  rw [hf, evV_fm _ _ (Nat.le_refl _), List.take_length]
def rEvL (K : PySem.W.Frag) (x : V) (H : Hp) (Q : VK) : Prop := ∃ a xs, x = .ref a ∧ SqL K H a xs ∧ ∀ p, H p = none → Q (.ref p) (upd H p (.lst (evV xs)))
def tEvL (K : PySem.W.Frag) (te : TE) : TE := fun σ H Q => te σ H fun x H1 => rEvL K x H1 Q
section
variable {X : Cx}
theorem pe_evL {e : Expr} {te : TE} {k : Nat} {p1 p3 pos : Pos} (he : PE X e te) : PE X (.Subscript e (.Slice none none (some (.Constant (.int 2) k p1)) p3) pos) (tEvL X.K te) := by
  refine ⟨fun pins s σ H Q I h => ?_⟩
  refine Subscript_ (thn (he.run pins s σ H _ I h) fun v s1 ⟨x, H1, I1, r1, q1⟩ => ?_)
  obtain ⟨a, xs, ex, hx, q⟩ := q1
  subst ex
  cases r1
  have hst : PO X (some (.Constant (.int 2) k p1)) (tPart (tC (.int 2))) := po_some pe_int
  refine wpAny_Slice (thn (po_none.run pins s1 σ H1 (fun o H2 => o = none ∧ H2 = H1) I1 ⟨rfl, rfl⟩) fun vl s2 ⟨l, H2, I2, pl, el, e2⟩ => ?_)
  subst el e2
  refine thn (po_none.run pins s2 σ H2 (fun o H3 => o = none ∧ H3 = H2) I2 ⟨rfl, rfl⟩) fun vu s3 ⟨u, H3, I3, pu, eu, e3⟩ => ?_
  subst eu e3
  refine thn (hst.run pins s3 σ H3 (fun o H4 => o = some 2 ∧ H4 = H3) I3 ⟨2, rfl, rfl, rfl⟩) fun vs s4 ⟨o, H4, I4, ps, eo, e4⟩ => ?_
  subst eo e4
  have I5 : Inv X pins σ H4 { s4 with heap := s4.heap.push { cls := .type "slice", data := .fields #[vl, vu, vs] } } := I4.kept (t' := s4.toks) fun b ob q => Heap.get?_push_of_some _ q
  obtain ⟨its, r, ht, hz⟩ := I5.list hx
  have hlen := r.length
  show wpAny (model X.prog X.w) X.A (subscriptTail e (.Slice none none (some (.Constant (.int 2) k p1)) p3) (.ref a) (.ref s4.heap.objs.size)) (EP X pins σ Q) X.xe { s4 with heap := s4.heap.push { cls := .type "slice", data := .fields #[vl, vu, vs] } }
  refine tail_any (ops := [.ref a, .ref s4.heap.objs.size]) ht.isList.typeIs (PySem.slot_list_getitem.lookup) ?_ (by with_unfolding_all rfl)
  refine wpAny_getItem_list_slice ht.isList (Heap.IsSliceOf.new _ vl vu vs) pl pu ps (by decide) ?_ (by rw [List.size_toArray]; omega)
  rw [pick_ev]
  refine ⟨.ref _, _, I5.laid (t' := s4.toks) (o := .lst (evV xs)) (fun b ob q => Heap.get?_push_of_some _ q) (Nat.le_refl _) ?_, rfl, q _ (I5.hok.fresh (Nat.le_refl _))⟩
  exact ⟨by rw [evV_len]; omega, _, 0, evV_vals r, Heap.get?_push_size _ rfl⟩
end
instance {K : PySem.W.Frag} {σ : L2.St} {H : Hp} {Q : VK} {te : TE} : Stp (tEvL K te σ H Q) (te σ H fun x H1 => rEvL K x H1 Q) := ⟨id⟩
theorem k_evL {K : PySem.W.Frag} {H : Hp} {Q : VK} {a : Addr} {xs : List V} (hs : SqL K H a xs) (h : ∀ p H', H p = none → Same H H' → H' p = some (.lst (evV xs)) → Q (.ref p) H') : rEvL K (.ref a) H Q := ⟨a, xs, rfl, hs, fun p np => h p _ np (same_new np) upd_same⟩
end Cm

namespace Cm
open PySem PySem.Spec PyProof.Rows L2
/-! ### text * number -/
def xMulS : R2 := fun x y H Q => ∃ (s : Str) (k : Int), x = .str s ∧ y = .int k ∧ 2 ≤ k ∧ k ≤ 1000 ∧ 0 < s.length ∧ s.length ≤ 100 ∧ Q (.str (mkS (List.replicate k.toNat (sg s)).flatten)) H
theorem fold_app (a : Array Nat) : ∀ (n : Nat) (b : Array Nat), ((List.replicate n a).foldl (· ++ ·) b).toList = b.toList ++ (List.replicate n a.toList).flatten
  | 0, b => by simp
  | n + 1, b => by
    rw [List.replicate_succ, List.foldl_cons, fold_app a n (b ++ a), List.replicate_succ, List.flatten_cons, Array.toList_append, List.append_assoc]
theorem op_mulS {X : Cx} : OpR X (binaryOp .Mult) xMulS := by
  intro pins s σ H x y v u Q I rx ry h
  obtain ⟨a, k, rfl, rfl, h2, h3, h4, h5, q⟩ := h
  obtain ⟨t, rfl⟩ := rx
  obtain ⟨t', rfl⟩ := ry
  have e1 : (k == 1 || a.length == 0) = false := by
    rw [Bool.or_eq_false_iff]
    exact ⟨by simp; omega, by simp; omega⟩
  have big : a.length * k.toNat ≤ 100 * 1000 := Nat.mul_le_mul h5 (by omega)
  refine PySem.P.mul_str (by
      have z1 : ¬ k < -(2 ^ 63 : Int) := by omega
      have z2 : ¬ k ≥ (2 ^ 63 : Int) := by omega
      rw [decide_eq_false z1, decide_eq_false z2]; rfl) (fun _ _ => ?_) (fun _ _ => ?_) ?_
  · have : (2 ^ 63 - 1 : Int) / k ≥ 100 := by
      refine Int.le_ediv_of_mul_le (by omega) ?_
      have : (100 : Int) * k ≤ 100 * 1000 := by omega
      omega
    omega
  · exact decide_eq_false (Nat.not_lt.mpr (sz big))
  · rw [if_neg (by omega), if_neg (by rw [e1]; decide)]
    have eq : (⟨List.foldl (· ++ ·) #[] (List.replicate k.toNat a.cps)⟩ : Str) = mkS (List.replicate k.toNat (sg a)).flatten := TL.ext_tl (by
      show (List.foldl (· ++ ·) #[] (List.replicate k.toNat a.cps)).toList = _
      rw [fold_app]; rfl)
    have e2 : (List.foldl (· ++ ·) #[] (List.replicate k.toNat a.cps)) = (mkS (List.replicate k.toNat (sg a)).flatten).cps := congrArg Str.cps eq
    refine ⟨?_, ?_⟩
    · show (List.foldl (· ++ ·) #[] (List.replicate k.toNat a.cps)).size ≤ sizeLine
      rw [← Array.length_toList, fold_app, List.length_append, List.length_flatten, List.map_replicate, List.sum_replicate_nat]
      show 0 + k.toNat * a.cps.toList.length ≤ sizeLine
      rw [Nat.zero_add, Array.length_toList, Nat.mul_comm]
      exact sz big
    · exact ⟨.str (mkS (List.replicate k.toNat (sg a)).flatten), H, I.tok _, ⟨_, congrArg (fun z => Value.str z s.toks) eq⟩, q⟩
theorem k_mulS {K : PySem.W.Frag} {H : Hp} {Q : VK} {s : Str} {k : Int} (h1 : 2 ≤ k) (h2 : k ≤ 1000) (h3 : 0 < (sg s).length) (h4 : (sg s).length ≤ 100) (h : Q (.str (mkS (List.replicate k.toNat (sg s)).flatten)) H) : xMulS (.str s) (.int k) H Q :=
  ⟨s, k, rfl, rfl, h1, h2, by rw [len_sg]; exact h3, by rw [len_sg]; exact h4, h⟩
/-! ### int(text) -/
def rIntS : List V → Hp → VK → Prop := fun xs H Q => ∃ a n, xs = [.str a] ∧ PySem.intText? a = some n ∧ a.length ≤ 640 ∧ Q (.int n) H
theorem q_intS {X : Cx} : CallR X (.type "int") rIntS := call_int_str
theorem k_intS {H : Hp} {Q : VK} {l : List Nat} (h : l.all (fun c => decide (48 ≤ c) && decide (c ≤ 57)) = true) (ne : l ≠ []) (hl : l.length ≤ 600) (q : Q (.int (NumText.digitsVal l : Nat)) H) : rIntS [.str (mkS l)] H Q :=
  ⟨_, _, rfl, SX.int_S h ne (by omega), by rw [len_sg, sg_mkS]; omega, q⟩
/-! ### slices of texts -/
theorem mk_len (l : List Nat) : (mkS l).length = l.length := by rw [len_sg]; rfl
theorem cutS_to (l : List Nat) (k : Nat) : cutS (mkS l) none (some (k : Int)) = mkS (l.take k) := by
  show mkS ((l.drop (HT.sIx (mkS l).length 0 none)).take (HT.sIx (mkS l).length (mkS l).length (some (k : Int)) - HT.sIx (mkS l).length 0 none)) = _
  rw [HT.sIx_none, HT.sIx_nat, mk_len, List.drop_zero, Nat.sub_zero]
  congr 1
  by_cases h : k ≤ l.length
  · rw [Nat.min_eq_left h]
  · rw [Nat.min_eq_right (by omega), List.take_of_length_le (Nat.le_refl _), List.take_of_length_le (by omega)]
theorem cutS_from (l : List Nat) (k : Nat) : cutS (mkS l) (some (k : Int)) none = mkS (l.drop k) := by
  show mkS ((l.drop (HT.sIx (mkS l).length 0 (some (k : Int)))).take (HT.sIx (mkS l).length (mkS l).length none - HT.sIx (mkS l).length 0 (some (k : Int)))) = _
  rw [HT.sIx_none, HT.sIx_nat, mk_len]
  congr 1
  by_cases h : k ≤ l.length
  · rw [Nat.min_eq_left h]
    exact List.take_of_length_le (by simp)
  · rw [Nat.min_eq_right (by omega), List.drop_of_length_le (Nat.le_refl _), List.drop_of_length_le (by omega), List.take_nil]
section
variable {K : PySem.W.Frag} {H : Hp} {Q : VK}
theorem k_slS0 {l : List Nat} {k : Nat} (hl : l.length ≤ 100000) (h : Q (.str (mkS (l.take k))) H) : rSlS (.str (mkS l)) none (some (k : Int)) H Q := ⟨_, rfl, by rw [mk_len]; exact sz hl, by rw [cutS_to]; exact h⟩
theorem k_slS1 {l : List Nat} {k : Nat} (hl : l.length ≤ 100000) (h : Q (.str (mkS (l.drop k))) H) : rSlS (.str (mkS l)) (some (k : Int)) none H Q := ⟨_, rfl, by rw [mk_len]; exact sz hl, by rw [cutS_from]; exact h⟩
end
/-! ### texts cut at a sign -/
def splitL (s : Nat) : List Nat → List (List Nat)
  | [] => [[]]
  | c :: r => if c = s then [] :: splitL s r else match splitL s r with
    | [] => [[c]]
    | p :: ps => (c :: p) :: ps
theorem splitL_ne (s : Nat) : ∀ l, splitL s l ≠ []
  | [] => by unfold splitL; simp
  | c :: r => by
    unfold splitL
    split
    · simp
    · split <;> simp
theorem splitL_join (s : Nat) : ∀ l, TL.joinL [s] (splitL s l) = l
  | [] => rfl
  | c :: r => by
    have ih := splitL_join s r
    have ne := splitL_ne s r
    unfold splitL
    split
    · rename_i e
      subst e
      rw [joinL_cons]
      cases h : splitL c r with
      | nil => exact absurd h ne
      | cons p ps =>
        rw [h, joinL_cons] at ih
        rw [List.map_cons, List.flatten_cons, List.nil_append, List.append_assoc, ih]; rfl
    · cases h : splitL s r with
      | nil => exact absurd h ne
      | cons p ps =>
        rw [h, joinL_cons] at ih
        show TL.joinL [s] ((c :: p) :: ps) = _
        rw [joinL_cons, List.cons_append, ih]
theorem splitL_free (s : Nat) : ∀ l, ∀ p ∈ splitL s l, s ∉ p
  | [], p, h => by
    rw [splitL, List.mem_singleton] at h
    rw [h]; exact List.not_mem_nil
  | c :: r, p, h => by
    have ih := splitL_free s r
    unfold splitL at h
    split at h
    · rcases List.mem_cons.mp h with rfl | h
      · exact List.not_mem_nil
      · exact ih p h
    · rename_i ne
      cases hs : splitL s r with
      | nil => exact absurd hs (splitL_ne s r)
      | cons q qs =>
        rw [hs] at h ih
        rcases List.mem_cons.mp h with rfl | h
        · intro m
          rcases List.mem_cons.mp m with e | m
          · exact ne e.symm
          · exact ih q List.mem_cons_self m
        · exact ih p (List.mem_cons_of_mem _ h)
theorem splitL_len (s : Nat) : ∀ l, (splitL s l).length ≤ l.length + 1 ∧ ∀ p ∈ splitL s l, p.length ≤ l.length
  | [] => ⟨by rw [splitL]; simp, fun p h => by rw [splitL, List.mem_singleton] at h; rw [h]; simp⟩
  | c :: r => by
    obtain ⟨h1, h2⟩ := splitL_len s r
    unfold splitL
    split
    · refine ⟨by simp; omega, fun p h => ?_⟩
      rcases List.mem_cons.mp h with rfl | h
      · simp
      · have := h2 p h; simp; omega
    · cases hs : splitL s r with
      | nil => exact absurd hs (splitL_ne s r)
      | cons q qs =>
        rw [hs] at h1 h2
        refine ⟨by show (qs.length + 1) ≤ _; simp at h1 ⊢; omega, fun p h => ?_⟩
        rcases List.mem_cons.mp h with rfl | h
        · have := h2 q List.mem_cons_self; simp; omega
        · have := h2 p (List.mem_cons_of_mem _ h); simp; omega
theorem splitL_of {s : Nat} : ∀ {ps : List (List Nat)}, ps ≠ [] → (∀ p ∈ ps, s ∉ p) → splitL s (TL.joinL [s] ps) = ps
  | [], h, _ => absurd rfl h
  | [p], _, h => by
    have one : ∀ p : List Nat, s ∉ p → splitL s p = [p] := by
      intro p
      induction p with
      | nil => intro _; rfl
      | cons c r ih =>
        intro hp
        have h1 : c ≠ s := fun e => hp (by rw [e]; exact List.mem_cons_self)
        unfold splitL
        rw [if_neg h1, ih fun m => hp (List.mem_cons_of_mem _ m)]
    exact one p (h p List.mem_cons_self)
  | p :: q :: r, _, h => by
    have ih := splitL_of (ps := q :: r) (by simp) (fun x hx => h x (List.mem_cons_of_mem _ hx))
    have hp := h p List.mem_cons_self
    show splitL s (p ++ ([s] ++ TL.joinL [s] (q :: r))) = _
    have go : ∀ p : List Nat, s ∉ p → ∀ z, splitL s (p ++ (s :: z)) = p :: splitL s z := by
      intro p
      induction p with
      | nil => intro _ z; show splitL s (s :: z) = _; rw [splitL, if_pos rfl]
      | cons c t ih2 =>
        intro hp z
        have h1 : c ≠ s := fun e => hp (by rw [e]; exact List.mem_cons_self)
        rw [List.cons_append]
        show splitL s (c :: (t ++ s :: z)) = _
        rw [splitL, if_neg h1, ih2 fun m => hp (List.mem_cons_of_mem _ m)]
    rw [show [s] ++ TL.joinL [s] (q :: r) = s :: TL.joinL [s] (q :: r) from rfl, go p hp, ih]
theorem k_splitL {H : Hp} {Q : VK} {l : List Nat} {s : Nat} {t : Str} (ht : sg t = [s]) (hs : s < 256) (hl : l.length ≤ 90000) (h : ∀ p H', H p = none → Same H H' → H' p = some (.lst ((splitL s l).map fun q => V.str (mkS q))) → Q (.ref p) H') : rSplit (.str (mkS l)) [.str t] H Q := by
  have e : t = ⟨#[s]⟩ := by rw [← mkS_sg t, ht]; rfl
  subst e
  refine k_split (by omega) (by show 1 ≠ 0; decide) ?_ h
  have := split_one hs (splitL_ne s l) (splitL_free s l)
  rw [splitL_join] at this
  exact this
/-! ### comprehensions over a text -/
section
variable {K : PySem.W.Frag} {σ : L2.St} {H1 : Hp} {g : TG} {tt : TT} {te : TE} {vs : List Nat}
theorem lc_pureS {QD : Addr → Hp → Prop} {l : List Nat} (hz : l.length ≤ 50000) (f : Nat → Option V)
    (step : ∀ (i : Nat) c H', l[i]? = some c → Same H1 H' → ∀ (R : V → Hp → Prop) (R0 : Hp → Prop), (∀ y, f c = some y → R y H') → (f c = none → R0 H') →
      g (.str ⟨#[c]⟩) (wipe σ vs) H' fun σ2 H2 => wipe σ2 vs = wipe σ vs ∧ tt σ2 H2 fun b H3 => if b = true then te σ2 H3 R else R0 H3)
    (h : ∀ D H', H1 D = none → Same H1 H' → H' D = some (.lst (l.filterMap f)) → QD D H') :
    ∃ x, V.str (mkS l) = .str x ∧ ∀ D, H1 D = none → ∃ W : Nat → Nat → Hp → Prop, (∃ m, W 0 m (upd H1 D (.lst []))) ∧ ∀ i m H, W i m H →
      ((Its x).stop i H ∧ QD D H) ∨ ((Its x).go i H ∧ ∃ Nx : Hp → Prop, (∀ H', Nx H' → ∃ m', m' < m ∧ W (i + 1) m' H') ∧ ∀ x' H', (Its x).yld i H x' H' → g x' (wipe σ vs) H' fun σ2 H2 => wipe σ2 vs = wipe σ vs ∧ tt σ2 H2 fun b H3 =>
        if b = true then te σ2 H3 fun y H4 => ∃ acc, H4 D = some (.lst acc) ∧ acc.length < sizeLine ∧ Nx (upd H4 D (.lst (acc ++ [y]))) else Nx H3) := by
  refine ⟨mkS l, rfl, fun D nD => ?_⟩
  have ec : (mkS l).cps.size = l.length := mk_len l
  have eg : ∀ i : Nat, (mkS l).cps[i]? = l[i]? := fun i => by show l.toArray[i]? = _; simp
  let P : Nat → Hp → Prop := fun i H => Same H1 H ∧ H D = some (.lst ((l.take i).filterMap f))
  refine ⟨fun i m H => m = l.length - i ∧ i ≤ l.length ∧ P i H, ⟨l.length, by simp, Nat.zero_le _, same_new nD, by rw [upd_same]; simp⟩, ?_⟩
  rintro i m H ⟨rfl, hi, sm, hD⟩
  by_cases hlt : i < l.length
  · refine .inr ⟨by show i < (mkS l).cps.size; omega, P (i + 1), fun H' p' => ⟨l.length - (i + 1), by omega, rfl, hlt, p'⟩, fun x H' y => ?_⟩
    obtain ⟨e, c, hc, ex⟩ := y
    subst e ex
    rw [eg] at hc
    have tk := take_filterMap (f := f) hc
    refine step i c _ hc sm _ _ (fun y hy => ⟨_, hD, szl ?_, same_mut sm nD, ?_⟩) (fun hn => ⟨sm, ?_⟩)
    · have := List.length_filterMap_le f (l.take i)
      rw [List.length_take] at this
      omega
    · rw [upd_same, tk, hy]; rfl
    · rw [tk, hn, hD]; simp
  · have e : i = l.length := by omega
    subst e
    refine .inl ⟨by show (mkS l).cps.size ≤ l.length; omega, ?_⟩
    rw [List.take_length] at hD
    exact h D H nD sm hD
end
/-! ### try: .. except C: return .. -/
def tTryO (K : PySem.W.Frag) (c : Value) (ts : TS) (tb : WX → TS) : TS := fun D σ H => tb (wOnly K c (fun _ _ _ => ts) (fun _ _ _ _ => False) D) D σ H
instance {K : PySem.W.Frag} {c : Value} {ts : TS} {tb : WX → TS} {D : Ends} {σ : L2.St} {H : Hp} : Stp (tTryO K c ts tb D σ H) (tb (wOnly K c (fun _ _ _ => ts) (fun _ _ _ _ => False) D) D σ H) := ⟨id⟩
theorem k_only {K : PySem.W.Frag} {c cls : Value} {d : Option Addr} {ts : TS} {D : Ends} {σ : L2.St} {H : Hp} (hc : PySem.W.exmOne K cls c = some true) (h : ts D σ H) : wOnly K c (fun _ _ _ => ts) (fun _ _ _ _ => False) D cls d σ H := ⟨true, hc, fun _ _ _ => h, fun z => Bool.noConfusion z⟩
end Cm

namespace Pf
open PySem PySem.Spec PyProof.Rows L2 Cm
local macro_rules | `(tactic| wtm_at "smh") => `(tactic| with_reducible first
  | assumption
  | (refine Same.trans ?_ (by assumption); wtm_at "smx")
  | (refine Same.trans ?_ (hid_mono (by assumption)); wtm_at "smx"))
local macro_rules | `(tactic| wtm_at "smx") => `(tactic| with_reducible first
  | exact Same.refl _
  | assumption
  | exact hid_same _ _
  | (refine Same.trans ?_ (by assumption); wtm_at "smx")
  | (refine Same.trans ?_ (hid_mono (by assumption)); wtm_at "smx")
  | (apply hid_back; wtm_at "smh"))
local macro_rules | `(tactic| wtm_at "sm") => `(tactic| wtm_at "smx")
local macro_rules | `(tactic| wtm_at "at") => `(tactic| with_reducible first
  | assumption
  | exact upd_same
  | (refine at_same (by assumption) ?_; wtm_at "smx"))
local macro_rules | `(tactic| wtm_at "le") => `(tactic| with_reducible first
  | assumption
  | (refine Le.same (by assumption) ?_; wtm_at "smx"))
local macro_rules | `(tactic| wtm_at "dp") => `(tactic| with_reducible first
  | assumption
  | exact .int _
  | exact .str _
  | exact .bl _
  | (refine dp_same ?_ (by assumption); wtm_at "smx")
  | (refine dpa_same ?_ (by assumption); wtm_at "smx")
  | (refine dpI_at (by assumption) ?_; wtm_at "smx")
  | (refine dpP_at (by assumption) ?_; wtm_at "smx"))
local macro_rules | `(tactic| wtm_at "sq") => `(tactic| with_reducible first
  | assumption
  | exact sl (by assumption)
  | exact stp (by assumption)
  | (refine sl_at (by assumption) ?_; wtm_at "smx")
  | (refine st_at (by assumption) ?_; wtm_at "smx")
  | (refine Same.seq ?_ (by assumption); wtm_at "smx")
  | (refine same_seqT ?_ (by assumption); wtm_at "smx")
  | ((show SqL _ (upd _ _ _) _ _); exact sl upd_same)
  | ((show SqT _ (upd _ _ _) _ _); exact stp upd_same))
local macro_rules | `(tactic| wtm_at "cI") => `(tactic| first
  | (refine Or.inl ⟨?_, ?_⟩ <;> omega)
  | (refine Or.inr ⟨?_, ?_⟩ <;> omega)
  | (refine ⟨?_, ?_⟩ <;> omega)
  | decide)
local macro_rules | `(tactic| wtm_at "pf") => `(tactic| first | omega | decide)
local macro_rules | `(tactic| wtm_at "s2") => `(tactic| with_reducible first
  | ((show ite _ _ _); first
    | refine k_itDT (by with_unfolding_all wtm_at "pf") ?_
    | refine k_itDF (by with_unfolding_all wtm_at "pf") ?_
    | refine k_itNT (by with_unfolding_all wtm_at "pf") ?_
    | refine k_itNF (by with_unfolding_all wtm_at "pf") ?_)
  | ((show rLenX _ _ _ _); first
    | refine k_len0 (by assumption) ?_
    | refine k_lenI (by wtm_at "sq") ?_
    | refine k_len (by wtm_at "sq") ?_)
  | ((show gTup _ _ _ _ _ _ _); refine k_gtup (by wtm_at "sq") (by with_unfolding_all rfl) ?_)
  | ((show rIxT _ (V.ref _) (V.int _) _ _); refine k_ixT (by wtm_at "sq") (by with_unfolding_all rfl) ?_)
  | ((show wipe _ _ = wipe _ _ ∧ _); refine k_wipe (by with_unfolding_all rfl) ?_)
  | ((show rIn _ _ _ _ _ _); first
    | refine k_inI (by wtm_at "sq") ?_
    | refine k_notInI (by wtm_at "sq") ?_)
  | ((show rIsi _ _ _ _); refine k_isiL (by wtm_at "sq") ?_)
  | ((show xMod _ _ _ _); refine k_mod (by with_unfolding_all first | decide | omega) ?_)
  | ((show xMul _ _ _ _); refine k_mul (by with_unfolding_all wtm_at "cI") ?_)
  | ((show xDiv _ _ _ _); refine k_div (by with_unfolding_all wtm_at "cI") ?_)
  | ((show xPow _ _ _ _); refine k_pow (by with_unfolding_all exact ⟨by decide, by decide, by decide⟩) ?_)
  | ((show rMinT _ _ _ _); refine k_minT (by wtm_at "sq") ?_)
  | ((show rMaxT _ _ _ _); refine k_maxT (by wtm_at "sq") ?_)
  | ((show ∃ j' : Int, [V.int _] = [.int j'] ∧ _); refine k_rj1 (by with_unfolding_all omega) (by with_unfolding_all omega) ?_)
  | ((show ∃ i' j' : Int, [V.int _, V.int _] = [.int i', .int j'] ∧ _); refine k_rj2 (by with_unfolding_all omega) ?_))
local macro_rules | `(tactic| wtm_at "s1") => `(tactic| first
  | refine go ?_
  | wtm_at "s2")
local macro_rules | `(tactic| wtm_at "s") => `(tactic| repeat wtm_at "s1")
def topS (i : Nat) : Stmt := PySem.Challenge.pw_tiehues_k94_words_refused.main.body.getD i (.Pass ⟨0, 0, 0, 0⟩)
abbrev s_number_of : Stmt := topS 12
theorem sc_number_of : FnScope ["word", "number", "sign"] ["word"] (defScope s_number_of) := ⟨rfl, rfl, rfl, by decide +kernel, rfl, by decide +kernel, by decide +kernel⟩
abbrev s_case_made : Stmt := topS 16
theorem sc_case_made : FnScope ["thing", "child"] ["thing"] (defScope s_case_made) := ⟨rfl, rfl, rfl, by decide +kernel, rfl, by decide +kernel, by decide +kernel⟩
abbrev s_told_of : Stmt := topS 17
theorem sc_told_of : FnScope ["text", "words", "h", "found", "hues", "paper"] ["text"] (defScope s_told_of) := ⟨rfl, rfl, rfl, by decide +kernel, rfl, by decide +kernel, by decide +kernel⟩
abbrev s_law_draws : Stmt := topS 19
theorem sc_law_draws : FnScope ["_law_script", "_law_many", "_law_found", "_law_k", "_law_cell", "_law_j", "_law_number_here"] ["_law_script", "_law_many"] (defScope s_law_draws) := ⟨rfl, rfl, rfl, by decide +kernel, rfl, by decide +kernel, by decide +kernel⟩
abbrev s_law_number : Stmt := topS 20
theorem sc_law_number : FnScope ["_law_word", "_law_sign"] ["_law_word"] (defScope s_law_number) := ⟨rfl, rfl, rfl, by decide +kernel, rfl, by decide +kernel, by decide +kernel⟩
abbrev s_law_drawn_case : Stmt := topS 21
theorem sc_law_drawn_case : FnScope ["_law_left", "_law_deep", "_law_number_here", "_law_found", "_law_k"] ["_law_left", "_law_deep"] (defScope s_law_drawn_case) := ⟨rfl, rfl, rfl, by decide +kernel, rfl, by decide +kernel, by decide +kernel⟩
abbrev s_law_drawn_turn : Stmt := topS 22
theorem sc_law_drawn_turn : FnScope ["_law_left", "_law_deep", "_law_number_here", "_law_found"] ["_law_left", "_law_deep"] (defScope s_law_drawn_turn) := ⟨rfl, rfl, rfl, by decide +kernel, rfl, by decide +kernel, by decide +kernel⟩
abbrev s_law_drawn : Stmt := topS 23
theorem sc_law_drawn : FnScope ["_law_draws_here", "_law_left", "_law_found", "_law_turning", "_law_way", "_law_many", "_law_k"] ["_law_draws_here"] (defScope s_law_drawn) := ⟨rfl, rfl, rfl, by decide +kernel, rfl, by decide +kernel, by decide +kernel⟩
abbrev s_law_bent : Stmt := topS 24
theorem sc_law_bent : FnScope ["_law_words", "_law_number_here", "_law_word", "_law_at", "_law_way"] ["_law_words", "_law_number_here", "_law_word"] (defScope s_law_bent) := ⟨rfl, rfl, rfl, by decide +kernel, rfl, by decide +kernel, by decide +kernel⟩
abbrev s_law_read_case : Stmt := topS 25
theorem sc_law_read_case : FnScope ["_law_words", "_law_at", "_law_deep", "_law_children", "_law_here", "_law_child"] ["_law_words", "_law_at", "_law_deep"] (defScope s_law_read_case) := ⟨rfl, rfl, rfl, by decide +kernel, rfl, by decide +kernel, by decide +kernel⟩
abbrev s_law_read_turn : Stmt := topS 26
theorem sc_law_read_turn : FnScope ["_law_words", "_law_at", "_law_deep", "_law_one", "_law_here", "_law_other"] ["_law_words", "_law_at", "_law_deep"] (defScope s_law_read_turn) := ⟨rfl, rfl, rfl, by decide +kernel, rfl, by decide +kernel, by decide +kernel⟩
abbrev s_law_run : Stmt := topS 27
theorem sc_law_run : FnScope ["_law_words", "_law_at", "_law_found"] ["_law_words", "_law_at"] (defScope s_law_run) := ⟨rfl, rfl, rfl, by decide +kernel, rfl, by decide +kernel, by decide +kernel⟩
abbrev s_law_paper : Stmt := topS 28
theorem sc_law_paper : FnScope ["_law_words", "_law_thing", "_law_here", "_law_lot"] ["_law_words"] (defScope s_law_paper) := ⟨rfl, rfl, rfl, by decide +kernel, rfl, by decide +kernel, by decide +kernel⟩
abbrev s_law_told : Stmt := topS 29
theorem sc_law_told : FnScope ["_law_words", "_law_found", "_law_at", "_law_turning", "_law_turns", "_law_hues", "_law_paper_here"] ["_law_words"] (defScope s_law_told) := ⟨rfl, rfl, rfl, by decide +kernel, rfl, by decide +kernel, by decide +kernel⟩
abbrev s_law : Stmt := topS 30
theorem sc_law : FnScope ["_law_script", "_law_draws_here", "_law_words", "_law_strange", "_law_k", "_law_due", "_law_caught", "_law_found", "e"] ["_law_script"] (defScope s_law) := ⟨rfl, rfl, rfl, by decide +kernel, rfl, by decide +kernel, by decide +kernel⟩
abbrev s_Words_init : Stmt := inClass (topS 15) 0
theorem sc_Words_init : FnScope ["self", "text"] ["self", "text"] (defScope s_Words_init) := ⟨rfl, rfl, rfl, by decide +kernel, rfl, by decide +kernel, by decide +kernel⟩
abbrev s_Words_ended : Stmt := inClass (topS 15) 1
theorem sc_Words_ended : FnScope ["self"] ["self"] (defScope s_Words_ended) := ⟨rfl, rfl, rfl, by decide +kernel, rfl, by decide +kernel, by decide +kernel⟩
abbrev s_Words_look : Stmt := inClass (topS 15) 2
theorem sc_Words_look : FnScope ["self"] ["self"] (defScope s_Words_look) := ⟨rfl, rfl, rfl, by decide +kernel, rfl, by decide +kernel, by decide +kernel⟩
abbrev s_Words_must : Stmt := inClass (topS 15) 3
theorem sc_Words_must : FnScope ["self", "right"] ["self", "right"] (defScope s_Words_must) := ⟨rfl, rfl, rfl, by decide +kernel, rfl, by decide +kernel, by decide +kernel⟩
abbrev s_Words_take : Stmt := inClass (topS 15) 4
theorem sc_Words_take : FnScope ["self", "word"] ["self", "word"] (defScope s_Words_take) := ⟨rfl, rfl, rfl, by decide +kernel, rfl, by decide +kernel, by decide +kernel⟩
abbrev s_Words_number : Stmt := inClass (topS 15) 5
theorem sc_Words_number : FnScope ["self", "found"] ["self"] (defScope s_Words_number) := ⟨rfl, rfl, rfl, by decide +kernel, rfl, by decide +kernel, by decide +kernel⟩
abbrev s_Words_numbers : Stmt := inClass (topS 15) 6
theorem sc_Words_numbers : FnScope ["self", "found"] ["self"] (defScope s_Words_numbers) := ⟨rfl, rfl, rfl, by decide +kernel, rfl, by decide +kernel, by decide +kernel⟩
abbrev s_Words_opened : Stmt := inClass (topS 15) 7
theorem sc_Words_opened : FnScope ["self", "leaf", "stack", "word", "whole"] ["self", "leaf"] (defScope s_Words_opened) := ⟨rfl, rfl, rfl, by decide +kernel, rfl, by decide +kernel, by decide +kernel⟩
abbrev s_Words_leaf_of : Stmt := inClass (topS 15) 8
theorem sc_Words_leaf_of : FnScope ["self", "leaf"] ["self", "leaf"] (defScope s_Words_leaf_of) := ⟨rfl, rfl, rfl, by decide +kernel, rfl, by decide +kernel, by decide +kernel⟩
abbrev s_Words_paper : Stmt := inClass (topS 15) 9
theorem sc_Words_paper : FnScope ["self", "word"] ["self"] (defScope s_Words_paper) := ⟨rfl, rfl, rfl, by decide +kernel, rfl, by decide +kernel, by decide +kernel⟩
abbrev s_Words_turns_made : Stmt := inClass (topS 15) 10
theorem sc_Words_turns_made : FnScope ["self", "thing"] ["self", "thing"] (defScope s_Words_turns_made) := ⟨rfl, rfl, rfl, by decide +kernel, rfl, by decide +kernel, by decide +kernel⟩
abbrev s_init_NoWay : Stmt := inClass (topS 2) 0
theorem sc_init_NoWay : FnScope ["self", "at"] ["self", "at"] (defScope s_init_NoWay) := ⟨rfl, rfl, rfl, by decide +kernel, rfl, by decide +kernel, by decide +kernel⟩
abbrev s_init_NoHues : Stmt := inClass (topS 3) 0
theorem sc_init_NoHues : FnScope ["self", "place"] ["self", "place"] (defScope s_init_NoHues) := ⟨rfl, rfl, rfl, by decide +kernel, rfl, by decide +kernel, by decide +kernel⟩
abbrev s_init_NoText : Stmt := inClass (topS 5) 0
theorem sc_init_NoText : FnScope ["self", "row"] ["self", "row"] (defScope s_init_NoText) := ⟨rfl, rfl, rfl, by decide +kernel, rfl, by decide +kernel, by decide +kernel⟩
structure Ad where
  c_TieError : Addr
  c_NoWay : Addr
  c_NoHues : Addr
  c_NoNumber : Addr
  c_NoText : Addr
  c_NoRow : Addr
  c_NoName : Addr
  c_NoForm : Addr
  i_NoWay : Addr
  di_NoWay : FuncData
  i_NoHues : Addr
  di_NoHues : FuncData
  i_NoText : Addr
  di_NoText : FuncData
  c_Words : Addr
  a_number_of : Addr
  d_number_of : FuncData
  a_case_made : Addr
  d_case_made : FuncData
  a_told_of : Addr
  d_told_of : FuncData
  a_law_draws : Addr
  d_law_draws : FuncData
  a_law_number : Addr
  d_law_number : FuncData
  a_law_drawn_case : Addr
  d_law_drawn_case : FuncData
  a_law_drawn_turn : Addr
  d_law_drawn_turn : FuncData
  a_law_drawn : Addr
  d_law_drawn : FuncData
  a_law_bent : Addr
  d_law_bent : FuncData
  a_law_read_case : Addr
  d_law_read_case : FuncData
  a_law_read_turn : Addr
  d_law_read_turn : FuncData
  a_law_run : Addr
  d_law_run : FuncData
  a_law_paper : Addr
  d_law_paper : FuncData
  a_law_told : Addr
  d_law_told : FuncData
  a_law : Addr
  d_law : FuncData
  a_Words_init : Addr
  d_Words_init : FuncData
  a_Words_ended : Addr
  d_Words_ended : FuncData
  a_Words_look : Addr
  d_Words_look : FuncData
  a_Words_must : Addr
  d_Words_must : FuncData
  a_Words_take : Addr
  d_Words_take : FuncData
  a_Words_number : Addr
  d_Words_number : FuncData
  a_Words_numbers : Addr
  d_Words_numbers : FuncData
  a_Words_opened : Addr
  d_Words_opened : FuncData
  a_Words_leaf_of : Addr
  d_Words_leaf_of : FuncData
  a_Words_paper : Addr
  d_Words_paper : FuncData
  a_Words_turns_made : Addr
  d_Words_turns_made : FuncData
structure Txt (K : PySem.W.Frag) (mg : Str → Option Value) (A : Ad) : Prop where
  g_number_of : mg "number_of" = some (.ref A.a_number_of)
  F_number_of : Fun K "number_of" "number_of" s_number_of A.a_number_of A.d_number_of
  b_number_of : Binds K A.d_number_of ["word"] []
  g_case_made : mg "case_made" = some (.ref A.a_case_made)
  F_case_made : Fun K "case_made" "case_made" s_case_made A.a_case_made A.d_case_made
  b_case_made : Binds K A.d_case_made ["thing"] []
  g_told_of : mg "told_of" = some (.ref A.a_told_of)
  F_told_of : Fun K "told_of" "told_of" s_told_of A.a_told_of A.d_told_of
  b_told_of : Binds K A.d_told_of ["text"] []
  g_law_draws : mg "_law_draws" = some (.ref A.a_law_draws)
  F_law_draws : Fun K "_law_draws" "_law_draws" s_law_draws A.a_law_draws A.d_law_draws
  b_law_draws : Binds K A.d_law_draws ["_law_script", "_law_many"] []
  g_law_number : mg "_law_number" = some (.ref A.a_law_number)
  F_law_number : Fun K "_law_number" "_law_number" s_law_number A.a_law_number A.d_law_number
  b_law_number : Binds K A.d_law_number ["_law_word"] []
  g_law_drawn_case : mg "_law_drawn_case" = some (.ref A.a_law_drawn_case)
  F_law_drawn_case : Fun K "_law_drawn_case" "_law_drawn_case" s_law_drawn_case A.a_law_drawn_case A.d_law_drawn_case
  b_law_drawn_case : Binds K A.d_law_drawn_case ["_law_left", "_law_deep"] []
  g_law_drawn_turn : mg "_law_drawn_turn" = some (.ref A.a_law_drawn_turn)
  F_law_drawn_turn : Fun K "_law_drawn_turn" "_law_drawn_turn" s_law_drawn_turn A.a_law_drawn_turn A.d_law_drawn_turn
  b_law_drawn_turn : Binds K A.d_law_drawn_turn ["_law_left", "_law_deep"] []
  g_law_drawn : mg "_law_drawn" = some (.ref A.a_law_drawn)
  F_law_drawn : Fun K "_law_drawn" "_law_drawn" s_law_drawn A.a_law_drawn A.d_law_drawn
  b_law_drawn : Binds K A.d_law_drawn ["_law_draws_here"] []
  g_law_bent : mg "_law_bent" = some (.ref A.a_law_bent)
  F_law_bent : Fun K "_law_bent" "_law_bent" s_law_bent A.a_law_bent A.d_law_bent
  b_law_bent : Binds K A.d_law_bent ["_law_words", "_law_number_here", "_law_word"] []
  g_law_read_case : mg "_law_read_case" = some (.ref A.a_law_read_case)
  F_law_read_case : Fun K "_law_read_case" "_law_read_case" s_law_read_case A.a_law_read_case A.d_law_read_case
  b_law_read_case : Binds K A.d_law_read_case ["_law_words", "_law_at", "_law_deep"] []
  g_law_read_turn : mg "_law_read_turn" = some (.ref A.a_law_read_turn)
  F_law_read_turn : Fun K "_law_read_turn" "_law_read_turn" s_law_read_turn A.a_law_read_turn A.d_law_read_turn
  b_law_read_turn : Binds K A.d_law_read_turn ["_law_words", "_law_at", "_law_deep"] []
  g_law_run : mg "_law_run" = some (.ref A.a_law_run)
  F_law_run : Fun K "_law_run" "_law_run" s_law_run A.a_law_run A.d_law_run
  b_law_run : Binds K A.d_law_run ["_law_words", "_law_at"] []
  g_law_paper : mg "_law_paper" = some (.ref A.a_law_paper)
  F_law_paper : Fun K "_law_paper" "_law_paper" s_law_paper A.a_law_paper A.d_law_paper
  b_law_paper : Binds K A.d_law_paper ["_law_words"] []
  g_law_told : mg "_law_told" = some (.ref A.a_law_told)
  F_law_told : Fun K "_law_told" "_law_told" s_law_told A.a_law_told A.d_law_told
  b_law_told : Binds K A.d_law_told ["_law_words"] []
  g_law : mg "law" = some (.ref A.a_law)
  F_law : Fun K "law" "law" s_law A.a_law A.d_law
  b_law : Binds K A.d_law ["_law_script"] []
  k_Words : mg "Words" = some (.ref A.c_Words)
  M_Words : Mk K A.c_Words A.a_Words_init
  F_Words_init : Fun K "__init__" "Words.__init__" s_Words_init A.a_Words_init A.d_Words_init
  K_Words : Cls K A.c_Words
  N_Words_words : NoAttr K A.c_Words "words"
  N_Words_at : NoAttr K A.c_Words "at"
  b_Words_init : Binds K A.d_Words_init ["self", "text"] []
  Me_Words_ended : Meth K A.c_Words "ended" A.a_Words_ended
  F_Words_ended : Fun K "ended" "Words.ended" s_Words_ended A.a_Words_ended A.d_Words_ended
  b_Words_ended : Binds K A.d_Words_ended ["self"] []
  Me_Words_look : Meth K A.c_Words "look" A.a_Words_look
  F_Words_look : Fun K "look" "Words.look" s_Words_look A.a_Words_look A.d_Words_look
  b_Words_look : Binds K A.d_Words_look ["self"] []
  Me_Words_must : Meth K A.c_Words "must" A.a_Words_must
  F_Words_must : Fun K "must" "Words.must" s_Words_must A.a_Words_must A.d_Words_must
  b_Words_must : Binds K A.d_Words_must ["self", "right"] []
  Me_Words_take : Meth K A.c_Words "take" A.a_Words_take
  F_Words_take : Fun K "take" "Words.take" s_Words_take A.a_Words_take A.d_Words_take
  b_Words_take : Binds K A.d_Words_take ["self", "word"] []
  Me_Words_number : Meth K A.c_Words "number" A.a_Words_number
  F_Words_number : Fun K "number" "Words.number" s_Words_number A.a_Words_number A.d_Words_number
  b_Words_number : Binds K A.d_Words_number ["self"] []
  Me_Words_numbers : Meth K A.c_Words "numbers" A.a_Words_numbers
  F_Words_numbers : Fun K "numbers" "Words.numbers" s_Words_numbers A.a_Words_numbers A.d_Words_numbers
  b_Words_numbers : Binds K A.d_Words_numbers ["self"] []
  Me_Words_opened : Meth K A.c_Words "opened" A.a_Words_opened
  F_Words_opened : Fun K "opened" "Words.opened" s_Words_opened A.a_Words_opened A.d_Words_opened
  b_Words_opened : Binds K A.d_Words_opened ["self", "leaf"] []
  Me_Words_leaf_of : Meth K A.c_Words "leaf_of" A.a_Words_leaf_of
  F_Words_leaf_of : Fun K "leaf_of" "Words.leaf_of" s_Words_leaf_of A.a_Words_leaf_of A.d_Words_leaf_of
  b_Words_leaf_of : Binds K A.d_Words_leaf_of ["self", "leaf"] []
  Me_Words_paper : Meth K A.c_Words "paper" A.a_Words_paper
  F_Words_paper : Fun K "paper" "Words.paper" s_Words_paper A.a_Words_paper A.d_Words_paper
  b_Words_paper : Binds K A.d_Words_paper ["self"] []
  Me_Words_turns_made : Meth K A.c_Words "turns_made" A.a_Words_turns_made
  F_Words_turns_made : Fun K "turns_made" "Words.turns_made" s_Words_turns_made A.a_Words_turns_made A.d_Words_turns_made
  b_Words_turns_made : Binds K A.d_Words_turns_made ["self", "thing"] []
  c_FIGURES : mg "FIGURES" = some (.str (Str.ofString "0123456789") (g_tokS mg "FIGURES"))
  c_MOST_FIGURES : mg "MOST_FIGURES" = some (.int 30 (g_tok mg "MOST_FIGURES"))
  c_DEEPEST : mg "DEEPEST" = some (.int 40 (g_tok mg "DEEPEST"))
  z_ValueError : mg "ValueError" = none
  z_int : mg "int" = none
  z_isinstance : mg "isinstance" = none
  z_len : mg "len" = none
  z_list : mg "list" = none
  z_min : mg "min" = none
  z_range : mg "range" = none
  z_str : mg "str" = none
  z_tuple : mg "tuple" = none
  k_TieError : mg "TieError" = some (.ref A.c_TieError)
  x_TieError : ExK K A.c_TieError
  t_TieError : PySem.W.typeIn K (.ref A.c_TieError) = some (.type "type")
  k_NoWay : mg "NoWay" = some (.ref A.c_NoWay)
  x_NoWay : ExK K A.c_NoWay
  t_NoWay : PySem.W.typeIn K (.ref A.c_NoWay) = some (.type "type")
  k_NoHues : mg "NoHues" = some (.ref A.c_NoHues)
  x_NoHues : ExK K A.c_NoHues
  t_NoHues : PySem.W.typeIn K (.ref A.c_NoHues) = some (.type "type")
  k_NoNumber : mg "NoNumber" = some (.ref A.c_NoNumber)
  x_NoNumber : ExK K A.c_NoNumber
  t_NoNumber : PySem.W.typeIn K (.ref A.c_NoNumber) = some (.type "type")
  k_NoText : mg "NoText" = some (.ref A.c_NoText)
  x_NoText : ExK K A.c_NoText
  t_NoText : PySem.W.typeIn K (.ref A.c_NoText) = some (.type "type")
  k_NoRow : mg "NoRow" = some (.ref A.c_NoRow)
  x_NoRow : ExK K A.c_NoRow
  t_NoRow : PySem.W.typeIn K (.ref A.c_NoRow) = some (.type "type")
  k_NoName : mg "NoName" = some (.ref A.c_NoName)
  x_NoName : ExK K A.c_NoName
  t_NoName : PySem.W.typeIn K (.ref A.c_NoName) = some (.type "type")
  k_NoForm : mg "NoForm" = some (.ref A.c_NoForm)
  x_NoForm : ExK K A.c_NoForm
  t_NoForm : PySem.W.typeIn K (.ref A.c_NoForm) = some (.type "type")
  o_NoWay : OexC K A.c_NoWay
  in_NoWay : PySem.W.findIn K (.ref A.c_NoWay) "__init__" = some (some (.ref A.i_NoWay))
  ti_NoWay : PySem.W.typeIn K (.ref A.i_NoWay) = some (.type "function")
  Fi_NoWay : Fun K "__init__" "NoWay.__init__" s_init_NoWay A.i_NoWay A.di_NoWay
  bi_NoWay : Binds K A.di_NoWay ["self", "at"] []
  nf_NoWay : PySem.W.findIn K (.ref A.c_NoWay) "at" = some none
  o_NoHues : OexC K A.c_NoHues
  in_NoHues : PySem.W.findIn K (.ref A.c_NoHues) "__init__" = some (some (.ref A.i_NoHues))
  ti_NoHues : PySem.W.typeIn K (.ref A.i_NoHues) = some (.type "function")
  Fi_NoHues : Fun K "__init__" "NoHues.__init__" s_init_NoHues A.i_NoHues A.di_NoHues
  bi_NoHues : Binds K A.di_NoHues ["self", "place"] []
  nf_NoHues : PySem.W.findIn K (.ref A.c_NoHues) "place" = some none
  o_NoText : OexC K A.c_NoText
  in_NoText : PySem.W.findIn K (.ref A.c_NoText) "__init__" = some (some (.ref A.i_NoText))
  ti_NoText : PySem.W.typeIn K (.ref A.i_NoText) = some (.type "function")
  Fi_NoText : Fun K "__init__" "NoText.__init__" s_init_NoText A.i_NoText A.di_NoText
  bi_NoText : Binds K A.di_NoText ["self", "row"] []
  nf_NoText : PySem.W.findIn K (.ref A.c_NoText) "row" = some none
  base_ : BaseI K mg A.c_TieError "TieError"
  u_NoText : PySem.W.subIn K (.ref A.c_NoText) (.ref A.c_TieError) = some true
  q_NoText_NoForm : PySem.W.kitOne K (.ref A.c_NoText) (.ref A.c_NoForm) = some false
  q_NoText_NoHues : PySem.W.kitOne K (.ref A.c_NoText) (.ref A.c_NoHues) = some false
  q_NoText_NoName : PySem.W.kitOne K (.ref A.c_NoText) (.ref A.c_NoName) = some false
  q_NoText_NoNumber : PySem.W.kitOne K (.ref A.c_NoText) (.ref A.c_NoNumber) = some false
  q_NoText_NoRow : PySem.W.kitOne K (.ref A.c_NoText) (.ref A.c_NoRow) = some false
  q_NoText_NoText : PySem.W.kitOne K (.ref A.c_NoText) (.ref A.c_NoText) = some true
  q_NoText_NoWay : PySem.W.kitOne K (.ref A.c_NoText) (.ref A.c_NoWay) = some false
  q_NoText_ValueError : PySem.W.kitOne K (.ref A.c_NoText) (.type "ValueError") = some true
/-! ### nets -/
inductive Net where
  | line (n : Int)
  | ring (n : Int)
  | tree (ps : List Int)
def Net.kind : Net → Str
  | .line _ => Str.ofString "line"
  | .ring _ => Str.ofString "ring"
  | .tree _ => Str.ofString "tree"
def Net.size : Net → PyData
  | .line n => .int n
  | .ring n => .int n
  | .tree ps => dInts ps
abbrev Net.d (N : Net) : PyData := .tuple [.str N.kind, N.size]
def TreeOk (ps : List Int) : Prop := 1 ≤ ps.length ∧ ps.length < 60 ∧ ∀ k : Nat, k < ps.length → 0 ≤ ps.getD k 0 ∧ ps.getD k 0 ≤ k
def Net.ok : Net → Prop
  | .line n => 2 ≤ n ∧ n ≤ 60
  | .ring n => 3 ≤ n ∧ n ≤ 60
  | .tree ps => TreeOk ps
def Net.places : Net → Int
  | .line n => n
  | .ring n => n
  | .tree ps => ps.length + 1
theorem net_str {s t : Str} (h : decide (V.str s = V.str t) = true) : s = t := V.str.inj (of_decide_eq_true h)
/-- a net's tuple -/
theorem dp_net {K : PySem.W.Frag} {H : Hp} {v : V} {N : Net} (h : Dp K H v N.d) : ∃ a y, v = .ref a ∧ SqT K H a [.str N.kind, y] ∧ Dp K H y N.size := by
  obtain ⟨a, x, y, rfl, hs, hx, hy⟩ := dp_tup2 h
  obtain rfl := dp_str hx
  exact ⟨a, y, rfl, hs, hy⟩
theorem k_eqS {s t : Str} {H : Hp} {Q : VK} (h : Q (.bl (decide (s = t))) H) : rEq (.str s) (.str t) H Q := ⟨rfl, by
  have e : decide (V.str s = V.str t) = decide (s = t) := by
    by_cases c : s = t
    · rw [decide_eq_true c, decide_eq_true (by rw [c])]
    · rw [decide_eq_false c, decide_eq_false (fun z => c (V.str.inj z))]
  rw [e]; exact h⟩
theorem k_neS {s t : Str} {H : Hp} {Q : VK} (h : Q (.bl (!decide (s = t))) H) : rNe (.str s) (.str t) H Q := ⟨rfl, by
  have e : decide (V.str s = V.str t) = decide (s = t) := by
    by_cases c : s = t
    · rw [decide_eq_true c, decide_eq_true (by rw [c])]
    · rw [decide_eq_false c, decide_eq_false (fun z => c (V.str.inj z))]
  rw [e]; exact h⟩
theorem s_lt : decide (Str.ofString "line" = Str.ofString "tree") = false := by decide +kernel
theorem s_rt : decide (Str.ofString "ring" = Str.ofString "tree") = false := by decide +kernel
theorem s_lr : decide (Str.ofString "line" = Str.ofString "ring") = false := by decide +kernel
theorem s_rl : decide (Str.ofString "ring" = Str.ofString "line") = false := by decide +kernel
theorem s_tl : decide (Str.ofString "tree" = Str.ofString "line") = false := by decide +kernel
theorem s_tr : decide (Str.ofString "tree" = Str.ofString "ring") = false := by decide +kernel
theorem s_same (s : Str) : decide (s = s) = true := decide_eq_true rfl
/-- how far t lies up from a on a ring of n -/
def up (n a t : Int) : Int := if a ≤ t then t - a else t - a + n
/-- x lies in the part of the tree that hangs by k -/
def below (ps : List Int) (k : Nat) : Nat → Bool
  | 0 => decide (k = 0)
  | x + 1 => decide (k = x + 1) || (decide (k < x + 1) && if h : (ps.getD x 0).toNat < x + 1 then below ps k (ps.getD x 0).toNat else false)
termination_by x => x
decreasing_by exact h
def OnTie : Net → Int → Int → Int → Prop
  | .line _, a, b, t => min a b ≤ t ∧ t < max a b
  | .ring n, a, b, t => 0 ≤ t ∧ t < n ∧ up n a t < up n a b
  | .tree ps, a, b, t => 0 ≤ t ∧ t < ps.length ∧ below ps (t.toNat + 1) a.toNat ≠ below ps (t.toNat + 1) b.toNat
def Net.far : Net → Int → Int → List Int → Prop
  | .line _, a, b, ns => (ns.length : Int) = max a b - min a b
  | .ring n, a, b, ns => (ns.length : Int) = up n a b
  | .tree _, _, _, ns => ns.length < 120
def isWay (N : Net) (a b : Int) : Prop := a ≠ b ∧ 0 ≤ a ∧ 0 ≤ b ∧ a < N.places ∧ b < N.places
instance (N : Net) (a b : Int) : Decidable (isWay N a b) := by unfold isWay; infer_instance
structure TiesOf (N : Net) (a b : Int) (ns : List Int) : Prop where
  srt : ns.Pairwise (· < ·)
  mem : ∀ t, t ∈ ns ↔ OnTie N a b t
  far : N.far a b ns

variable {P : Program} {w : World} {K : PySem.W.Frag} {mg : Str → Option Value} {base : Heap} {A : Ad}
theorem ok_init_NoWay (T : Txt K mg A) : FnOk P w K mg base CX0 1 A.i_NoWay A.di_NoWay ["self", "at"] (spInit A.c_NoWay (Str.ofString "at")) := by
  refine T.Fi_NoWay.ok sc_init_NoWay (fun vs H Q E h => by obtain ⟨v0, v1, rfl, _⟩ := h; rfl) (fun cdv A0 outer s H vs Q E hr h => ?_)
  obtain ⟨v0, v1, rfl, h⟩ := h
  exact ⟨_, pss_cons (ps_expr (pe_binit T.base_ (by rfl) (pa_cons (pv 0) (pa_cons pe_str pa_nil)))) (pss_one (ps_ost (pv 0) (pv 1))), init_reads (B := A.c_TieError) T.o_NoWay T.nf_NoWay h⟩
theorem ok_init_NoHues (T : Txt K mg A) : FnOk P w K mg base CX0 1 A.i_NoHues A.di_NoHues ["self", "place"] (spInit A.c_NoHues (Str.ofString "place")) := by
  refine T.Fi_NoHues.ok sc_init_NoHues (fun vs H Q E h => by obtain ⟨v0, v1, rfl, _⟩ := h; rfl) (fun cdv A0 outer s H vs Q E hr h => ?_)
  obtain ⟨v0, v1, rfl, h⟩ := h
  exact ⟨_, pss_cons (ps_expr (pe_binit T.base_ (by rfl) (pa_cons (pv 0) (pa_cons pe_str pa_nil)))) (pss_one (ps_ost (pv 0) (pv 1))), init_reads (B := A.c_TieError) T.o_NoHues T.nf_NoHues h⟩
theorem ok_init_NoText (T : Txt K mg A) : FnOk P w K mg base CX0 1 A.i_NoText A.di_NoText ["self", "row"] (spInit A.c_NoText (Str.ofString "row")) := by
  refine T.Fi_NoText.ok sc_init_NoText (fun vs H Q E h => by obtain ⟨v0, v1, rfl, _⟩ := h; rfl) (fun cdv A0 outer s H vs Q E hr h => ?_)
  obtain ⟨v0, v1, rfl, h⟩ := h
  exact ⟨_, pss_cons (ps_expr (pe_binit T.base_ (by rfl) (pa_cons (pv 0) (pa_cons pe_str pa_nil)))) (pss_one (ps_ost (pv 0) (pv 1))), init_reads (B := A.c_TieError) T.o_NoText T.nf_NoText h⟩
/-! ### numbers from words -/
def isDig (c : Nat) : Bool := decide (c ∈ [48, 49, 50, 51, 52, 53, 54, 55, 56, 57])
def valL (l : List Nat) : Int := l.foldl (fun (t : Int) (c : Nat) => t * 10 + ((c : Int) - 48)) 0
def numOf (l : List Nat) : Option Int := if l = [] ∨ 30 < l.length ∨ (l.head? = some 48 ∧ l ≠ [48]) then none else if l.all isDig = true then some (valL l) else none
def optV : Option Int → V
  | none => .non
  | some n => .int n
theorem sg_fig : sg (Str.ofString "0123456789") = [48, 49, 50, 51, 52, 53, 54, 55, 56, 57] := by rw [sg_str]; rfl
theorem sg_zero : sg (Str.ofString "0") = [48] := by rw [sg_str]; rfl
theorem sg_emp : sg (Str.ofString "") = [] := by rw [sg_str]; rfl
theorem mk_eq {l : List Nat} {s : Str} : mkS l = s ↔ l = sg s := ⟨fun h => by rw [← h, sg_mkS], fun h => by rw [h, mkS_sg]⟩
theorem find_fig {c : Nat} (h : c ∈ [48, 49, 50, 51, 52, 53, 54, 55, 56, 57]) : Txt.find (Str.ofString "0123456789") ⟨#[c]⟩ = (c : Int) - 48 := by
  simp only [List.mem_cons, List.not_mem_nil, or_false] at h
  rcases h with rfl | rfl | rfl | rfl | rfl | rfl | rfl | rfl | rfl | rfl <;> decide +kernel
theorem forS {K : PySem.W.Frag} {σ : L2.St} {H : Hp} {nx : L2.St → Hp → Prop} {rt : VK} {l : List Nat} {g : TG} {tb : TS} (Pv : Nat → L2.St → Hp → Prop) (h0 : Pv 0 σ H)
    (hs : ∀ (i : Nat) c σ H, l[i]? = some c → Pv i σ H → g (.str ⟨#[c]⟩) σ H fun σ2 H2 => tb ⟨Pv (i + 1), rt, nx, Pv (i + 1)⟩ σ2 H2) (hd : ∀ σ H, Pv l.length σ H → nx σ H) :
    ∃ x, V.str (mkS l) = .str x ∧ ∃ W : Nat → Nat → L2.St → Hp → Prop, (∃ m, W 0 m σ H) ∧ ∀ i m σ H, W i m σ H →
      ((Its x).stop i H ∧ nx σ H) ∨ ((Its x).go i H ∧ ∃ N : L2.St → Hp → Prop, (∀ σ' H', N σ' H' → ∃ m', m' < m ∧ W (i + 1) m' σ' H') ∧ ∀ x' H', (Its x).yld i H x' H' → g x' σ H' fun σ2 H2 => tb ⟨N, rt, nx, N⟩ σ2 H2) := by
  have e : (mkS l).cps.size = l.length := by simp [mkS]
  refine ⟨mkS l, rfl, for_it (D := ⟨nx, rt, fun _ _ => False, fun _ _ => False⟩) (walk_str (z := mkS l)) Pv h0 (fun _ _ _ _ _ => trivial) (fun i x σ H H' hi p y => ?_) (fun σ H p => hd σ H (e ▸ p))⟩
  obtain ⟨rfl, c, hc, rfl⟩ := y
  exact hs i c σ _ (by simpa [mkS] using hc) p
def pr_number_of (K : PySem.W.Frag) (v0 : V) (H : Hp) (Q : VK) (_ : XK) : Prop := ∃ l : List Nat, v0 = .str (mkS l) ∧ l.length ≤ 90000 ∧ Q (optV (numOf l)) H
def t_number_of (K : PySem.W.Frag) : TS :=
  (tSeq (tIfS (tOr (tTest (tOp rEq (tVar 0) (tC (.str (Str.ofString ""))))) (tOr (tTest (tOp xGt (tCB rLenStr (tCons (tVar 0) tNil)) (tC (.int 30)))) (tAnd (tTest (tOp rEq (tOp rIxS (tVar 0) (tC (.int 0))) (tC (.str (Str.ofString "0"))))) (tTest (tOp rNe (tVar 0) (tC (.str (Str.ofString "0")))))))) (tRet (tC .non)) tNext)
    (tSeq (tAsg (tC (.int 0)) (gName 1))
    (tSeq (tFor (iStr (tVar 0)) (gName 2)
      (tSeq (tIfS (tTest (tOp xNotInS (tVar 2) (tC (.str (Str.ofString "0123456789"))))) (tRet (tC .non)) tNext)
    (tAsg (tOp xAdd (tOp xMul (tC (.int 10)) (tVar 1)) (tM1 rFind (tC (.str (Str.ofString "0123456789"))) (tVar 2))) (gName 1))))
    (tRet (tVar 1)))))
theorem all_take {l : List Nat} {i : Nat} {c : Nat} (h : l[i]? = some c) : (l.take (i + 1)).all isDig = ((l.take i).all isDig && isDig c) := by
  rw [List.take_add_one, h, List.all_append]
  simp
theorem val_take {l : List Nat} {i : Nat} {c : Nat} (h : l[i]? = some c) : valL (l.take (i + 1)) = valL (l.take i) * 10 + ((c : Int) - 48) := by
  unfold valL
  rw [List.take_add_one, h, List.foldl_append]
  rfl
theorem pure_number_of {v0 : V} {H : Hp} {Q : VK} {E : XK} (h : pr_number_of K v0 H Q E) : t_number_of K ⟨fun _ H' => Q .non H', Q, fun _ _ => False, fun _ _ => False⟩ [some v0, none, none] H := by
  obtain ⟨l, rfl, hl, q⟩ := h
  unfold t_number_of
  wtm_at "s"
  refine k_eqS ?_
  have bad : (l = [] ∨ 30 < l.length ∨ (l.head? = some 48 ∧ l ≠ [48])) → Q .non H := fun z => by
    unfold numOf at q
    rw [if_pos z] at q
    exact q
  by_cases c0 : l = []
  · rw [decide_eq_true (mk_eq.mpr (by rw [c0, sg_emp]))]
    wtm_at "s"
    exact bad (.inl c0)
  rw [decide_eq_false fun z => c0 (by have := mk_eq.mp z; rwa [sg_emp] at this)]
  obtain ⟨c, hc⟩ : ∃ c, l[0]? = some c := ⟨l[0]'(List.length_pos_iff.mpr c0), List.getElem?_eq_getElem _⟩
  wtm_at "s"
  refine k_lenS (by omega) ?_
  wtm_at "s"
  refine k_it (fun c1 => ?_) (fun c1 => ?_)
  · wtm_at "s"
    exact bad (.inr (.inl (by omega)))
  wtm_at "s"
  refine k_ixS (i := 0) (by omega) hc ?_
  wtm_at "s"
  refine k_eqS ?_
  have hd0 : l.head? = some c := by rw [List.head?_eq_getElem?]; exact hc
  have go : ¬ (l = [] ∨ 30 < l.length ∨ (l.head? = some 48 ∧ l ≠ [48])) → tSeq (tAsg (tC (.int 0)) (gName 1))
    (tSeq (tFor (iStr (tVar 0)) (gName 2)
      (tSeq (tIfS (tTest (tOp xNotInS (tVar 2) (tC (.str (Str.ofString "0123456789"))))) (tRet (tC .non)) tNext)
    (tAsg (tOp xAdd (tOp xMul (tC (.int 10)) (tVar 1)) (tM1 rFind (tC (.str (Str.ofString "0123456789"))) (tVar 2))) (gName 1))))
    (tRet (tVar 1))) ⟨fun _ H' => Q .non H', Q, fun _ _ => False, fun _ _ => False⟩ [some (.str (mkS l)), none, none] H := fun nb => by
    unfold numOf at q
    rw [if_neg nb] at q
    wtm_at "s"
    refine forS (K := K) (fun i σ' H' => H' = H ∧ (∃ k2, σ' = [some (.str (mkS l)), some (.int (valL (l.take i))), k2]) ∧ (l.take i).all isDig = true) ⟨rfl, ⟨none, rfl⟩, by simp⟩ ?_ ?_
    · rintro i c' σ' H' hc' ⟨rfl, ⟨k2, rfl⟩, al⟩
      have hi := (List.getElem?_eq_some_iff.mp hc').1
      wtm_at "s"
      rw [← mkS_sg (Str.ofString "0123456789"), sg_fig]
      refine k_notInS ?_
      wtm_at "s"
      refine k_itn (fun w => ?_) (fun w => ?_)
      · wtm_at "s"
        have nall : l.all isDig = false := by
          cases hb : l.all isDig with
          | false => rfl
          | true => exact absurd (of_decide_eq_true (List.all_eq_true.mp hb c' (List.mem_of_getElem? hc'))) w
        rw [nall] at q
        exact q
      · wtm_at "s"
        refine ⟨_, _, rfl, rfl, ?_⟩
        rw [← sg_fig, mkS_sg, find_fig w]
        wtm_at "s"
        refine ⟨rfl, ⟨some (.str ⟨#[c']⟩), ?_⟩, by rw [all_take hc', al]; exact decide_eq_true w⟩
        rw [val_take hc', Int.mul_comm]
    · rintro σ' H' ⟨rfl, ⟨k2, rfl⟩, al⟩
      rw [List.take_length] at al ⊢
      wtm_at "s"
      rw [if_pos al] at q
      exact q
  by_cases c2 : c = 48
  · subst c2
    rw [decide_eq_true (show (⟨#[48]⟩ : Str) = Str.ofString "0" from (mk_eq (l := [48])).mpr (by rw [sg_zero]))]
    wtm_at "s"
    refine k_neS ?_
    by_cases c3 : l = [48]
    · rw [decide_eq_true (mk_eq.mpr (by rw [c3, sg_zero]))]
      refine ⟨_, rfl, ?_⟩
      have := go (fun z => by
        rcases z with z | z | ⟨_, z⟩
        · exact c0 z
        · omega
        · exact z c3)
      exact this
    · rw [decide_eq_false fun z => c3 (by have := mk_eq.mp z; rwa [sg_zero] at this)]
      wtm_at "s"
      exact bad (.inr (.inr ⟨hd0, c3⟩))
  · rw [decide_eq_false fun z => c2 (by have := (mk_eq (l := [c])).mp z; rw [sg_zero] at this; cases this; rfl)]
    refine ⟨_, rfl, ?_⟩
    have := go (fun z => by
      rcases z with z | z | ⟨z, _⟩
      · exact c0 z
      · omega
      · rw [hd0] at z; exact c2 (Option.some.inj z))
    exact this
abbrev sp_number_of (K : PySem.W.Frag) : Sp := fun vs H Q E => ∃ v0, vs = [v0] ∧ pr_number_of K v0 H Q E
theorem ok_number_of (T : Txt K mg A) : FnOk P w K mg base CX0 1 A.a_number_of A.d_number_of ["word"] (sp_number_of K) := by
  refine T.F_number_of.ok sc_number_of (fun vs H Q E h => by obtain ⟨v0, rfl, _⟩ := h; rfl) (fun cdv A0 outer s H vs Q E hr h => ?_)
  obtain ⟨v0, rfl, h⟩ := h
  exact ⟨t_number_of K, (pss_cons (ps_if (PW.pt (pw_or (pt_cmpR op_eq (pv 0) pe_str (nomark _)) (pw_or (pt_cmpR op_gt (pe_callB q_lenS (by rfl) T.z_len (by decide +kernel) (pa_cons (pv 0) pa_nil)) (pe_glob (v := .int 30) (by rfl) T.c_MOST_FIGURES ⟨_, rfl⟩) (nomark _)) (pw_or1 (PW.pt (pw_and (pt_cmpR op_eq (pe_ix ix_str (pv 0) pe_int (fun _ _ => rfl)) pe_str (nomark _)) (pw_and1 (pt_cmpR op_ne (pv 0) pe_str (nomark _))))))))) (pss_one (ps_ret pe_non)) pss_nil)
      (pss_cons (ps_set (i := 1) sc_number_of.nd rfl (Or.inl rfl) pe_int)
      (pss_cons (ps_for PassesOwn.never rfl (pi_str (pv 0)) (pg_name (i := 2) sc_number_of.nd rfl (Or.inl rfl))
      (pss_cons (ps_if (pt_cmpR op_notin_str (pv 2) (pe_glob (v := .str (Str.ofString "0123456789")) (by rfl) T.c_FIGURES ⟨_, rfl⟩) (by rfl)) (pss_one (ps_ret pe_non)) pss_nil)
      (pss_one (ps_set (i := 1) sc_number_of.nd rfl (Or.inl rfl) (pe_op op_add (pe_op op_mul pe_int (pv 1)) (pe_m1 PySem.F.slot_str_find PySem.F.type_str_find mt_find (pe_glob (v := .str (Str.ofString "0123456789")) (by rfl) T.c_FIGURES ⟨_, rfl⟩) (pv 2)))))))
      (pss_one (ps_ret (pv 1)))))), pure_number_of h⟩
theorem numL_head : ∀ n : Nat, n ≠ 0 → (TL.numL n).head? ≠ some 48 := by
  intro n
  induction n using Nat.strongRecOn with
  | ind n ih =>
    intro h0
    by_cases c : n < 10
    · rw [TL.numL_lt c]; simp; omega
    · rw [TL.numL_step (by omega)]
      have ne := TL.numL_ne (n / 10)
      rw [List.head?_append]
      cases hx : (TL.numL (n / 10)).head? with
      | none => exact absurd (List.head?_eq_none_iff.mp hx) ne
      | some x =>
        have := ih (n / 10) (by omega) (by omega)
        rw [hx] at this
        simpa using this
theorem num_back {n : Int} (h : Num30 n) : numOf (nu n) = some n := by
  obtain ⟨h0, h1⟩ := h
  have hl := nu_len h0 (k := 30) (by decide) h1
  obtain ⟨m, rfl⟩ := Int.eq_ofNat_of_zero_le h0
  rw [nu_nat] at hl ⊢
  unfold numOf
  rw [if_neg, if_pos]
  · unfold valL; rw [TL.fold_num]
  · rw [List.all_eq_true]
    intro c hc
    have := TL.numL_digits m c hc
    refine decide_eq_true ?_
    simp only [List.mem_cons, List.not_mem_nil, or_false]
    omega
  · rintro (z | z | ⟨z1, z2⟩)
    · exact TL.numL_ne m z
    · omega
    · by_cases c : m = 0
      · subst c; exact z2 (by rw [TL.numL_lt (by decide)])
      · exact numL_head m c z1


/-! ### words in brackets -/
abbrev Wd := List Nat
abbrev wOp : Wd := [40]
abbrev wCl : Wd := [41]
abbrev wDot : Wd := [46]
abbrev wEq : Wd := [61]
/-- what stands in brackets -/
inductive Th where
  | lf : Th
  | ties (a b : Int) : Th
  | node (n : Int) (cs : List Th) : Th
abbrev Rd (α : Type) := Option (α × List Wd)
def kidsF (f : List Wd → Rd Th) : Nat → List Wd → Rd (List Th)
  | 0, _ => none
  | _ + 1, [] => none
  | m + 1, w :: r => if w = wCl then some ([], r) else match f (w :: r) with
    | none => none
    | some (c, r') => match kidsF f m r' with
      | none => none
      | some (cs, r'') => some (c :: cs, r'')
def kids (f : List Wd → Rd Th) (ws : List Wd) : Rd (List Th) := kidsF f (ws.length + 1) ws
def Shr {α : Type} (f : List Wd → Rd α) : Prop := ∀ ws t r, f ws = some (t, r) → r.length < ws.length
theorem kidsF_eq {f : List Wd → Rd Th} (hf : Shr f) : ∀ (m n : Nat) (ws : List Wd), ws.length < m → ws.length < n → kidsF f m ws = kidsF f n ws
  | 0, _, _, h, _ => absurd h (Nat.not_lt_zero _)
  | _, 0, _, _, h => absurd h (Nat.not_lt_zero _)
  | m + 1, n + 1, [], _, _ => rfl
  | m + 1, n + 1, w :: r, h1, h2 => by
    unfold kidsF
    by_cases c : w = wCl
    · rw [if_pos c, if_pos c]
    · rw [if_neg c, if_neg c]
      cases e : f (w :: r) with
      | none => rfl
      | some p =>
        obtain ⟨t, r'⟩ := p
        have := hf _ _ _ e
        simp only [List.length_cons] at this h1 h2
        simp only [kidsF_eq hf m n r' (by omega) (by omega)]
theorem kids_nil (f : List Wd → Rd Th) : kids f [] = none := rfl
theorem kids_cl (f : List Wd → Rd Th) (r : List Wd) : kids f (wCl :: r) = some ([], r) := rfl
theorem kids_none {f : List Wd → Rd Th} {w : Wd} {r : List Wd} (c : w ≠ wCl) (e : f (w :: r) = none) : kids f (w :: r) = none := by
  unfold kids kidsF
  rw [if_neg c, e]
theorem kids_some {f : List Wd → Rd Th} (hf : Shr f) {w : Wd} {r r' : List Wd} {t : Th} (c : w ≠ wCl) (e : f (w :: r) = some (t, r')) : kids f (w :: r) = match kids f r' with
    | none => none
    | some (cs, r'') => some (t :: cs, r'') := by
  have h := hf _ _ _ e
  simp only [List.length_cons] at h
  show kidsF f (r.length + 1 + 1) (w :: r) = _
  unfold kidsF
  rw [if_neg c, e]
  unfold kids
  simp only [kidsF_eq hf (r.length + 1) (r'.length + 1) r' (by omega) (by omega)]
theorem kids_shr {f : List Wd → Rd Th} (hf : Shr f) : Shr (kids f) := by
  intro ws
  generalize hn : ws.length = n
  induction n using Nat.strongRecOn generalizing ws with
  | _ n ih =>
  intro cs r h
  cases ws with
  | nil => cases h
  | cons w ws =>
    by_cases c : w = wCl
    · subst c
      rw [kids_cl] at h
      cases h
      simp only [List.length_cons] at hn
      omega
    · cases e : f (w :: ws) with
      | none => rw [kids_none c e] at h; cases h
      | some p =>
        obtain ⟨t, r'⟩ := p
        have h1 := hf _ _ _ e
        rw [kids_some hf c e] at h
        cases e2 : kids f r' with
        | none => rw [e2] at h; cases h
        | some p2 =>
          obtain ⟨cs2, r2⟩ := p2
          rw [e2] at h
          cases h
          have := ih r'.length (by omega) r' rfl _ _ e2
          omega
def opn (f : List Wd → Rd Th) : List Wd → Rd Th
  | [] => none
  | n :: r => match numOf n with
    | none => none
    | some k => match kids f r with
      | none => none
      | some (cs, r') => some (.node k cs, r')
def rdG (lf : List Wd → Rd Th) : Nat → List Wd → Rd Th
  | 0, ws => if ws.head? = some wOp then none else lf ws
  | d + 1, ws => if ws.head? = some wOp then opn (rdG lf d) ws.tail else lf ws
def lfC : List Wd → Rd Th
  | [] => none
  | w :: r => if w = wDot then some (.lf, r) else none
def lfT : List Wd → Rd Th
  | w :: a :: b :: r => if w = wEq then match numOf a, numOf b with
    | some x, some y => some (.ties x y, r)
    | _, _ => none else none
  | _ => none
/-- a reader of leaves -/
structure Lf (lf : List Wd → Rd Th) : Prop where
  shr : Shr lf
  op : ∀ r, lf (wOp :: r) = none
  cl : ∀ r, lf (wCl :: r) = none
theorem lf_c : Lf lfC := by
  refine ⟨fun ws t r h => ?_, fun r => rfl, fun r => rfl⟩
  cases ws with
  | nil => cases h
  | cons w ws =>
    have h : (if w = wDot then some (Th.lf, ws) else none) = some (t, r) := h
    split at h
    · cases h; simp
    · cases h
theorem lfT_ne {w : Wd} {r : List Wd} (h : w ≠ wEq) : lfT (w :: r) = none := by
  match r with
  | [] => rfl
  | [_] => rfl
  | a :: b :: r => exact if_neg h
theorem lf_t : Lf lfT := by
  refine ⟨fun ws t r h => ?_, fun r => lfT_ne (by decide), fun r => lfT_ne (by decide)⟩
  match ws, h with
  | w :: a :: b :: ws, h =>
    by_cases c : w = wEq
    · have h : (match numOf a, numOf b with | some x, some y => some (Th.ties x y, ws) | _, _ => none) = some (t, r) := by
        have e : lfT (w :: a :: b :: ws) = _ := if_pos c
        rw [e] at h; exact h
      cases ea : numOf a with
      | none => rw [ea] at h; cases h
      | some x =>
        cases eb : numOf b with
        | none => rw [ea, eb] at h; cases h
        | some y => rw [ea, eb] at h; cases h; simp; omega
    · rw [lfT_ne c] at h; cases h
theorem opn_num {f : List Wd → Rd Th} {n : Wd} {r : List Wd} {k : Int} (h : numOf n = some k) : opn f (n :: r) = match kids f r with | none => none | some (cs, r') => some (.node k cs, r') := by
  show (match numOf n with | none => none | some k => _) = _
  rw [h]
theorem opn_none {f : List Wd → Rd Th} {n : Wd} {r : List Wd} (h : numOf n = none) : opn f (n :: r) = none := by
  show (match numOf n with | none => none | some k => _) = _
  rw [h]
theorem opn_shr {f : List Wd → Rd Th} (hf : Shr f) : Shr (opn f) := by
  intro ws t r h
  cases ws with
  | nil => cases h
  | cons n ws =>
    cases e2 : numOf n with
    | none => rw [opn_none e2] at h; cases h
    | some k =>
      rw [opn_num e2] at h
      cases e : kids f ws with
      | none => rw [e] at h; cases h
      | some p =>
        obtain ⟨cs, r'⟩ := p
        rw [e] at h
        cases h
        have := kids_shr hf _ _ _ e
        simp only [List.length_cons]
        omega
theorem rdG_shr {lf : List Wd → Rd Th} (L : Lf lf) : ∀ d, Shr (rdG lf d)
  | 0 => by
    intro ws t r h
    unfold rdG at h
    split at h
    · cases h
    · exact L.shr _ _ _ h
  | d + 1 => by
    intro ws t r h
    unfold rdG at h
    split at h
    · have := opn_shr (rdG_shr L d) _ _ _ h
      cases ws with
      | nil => cases h
      | cons w ws => simp only [List.tail_cons, List.length_cons] at this ⊢; omega
    · exact L.shr _ _ _ h
section
variable {lf : List Wd → Rd Th} (L : Lf lf)
theorem rdG_op (d : Nat) (r : List Wd) : rdG lf (d + 1) (wOp :: r) = opn (rdG lf d) r := by
  exact if_pos (by rfl)
theorem rdG_op0 (r : List Wd) : rdG lf 0 (wOp :: r) = none := by
  exact if_pos (by rfl)
theorem rdG_lf {w : Wd} (d : Nat) (r : List Wd) (h : w ≠ wOp) : rdG lf d (w :: r) = lf (w :: r) := by
  have : ¬ (w :: r).head? = some wOp := fun z => h (by simpa using z)
  cases d with
  | zero => show (if _ then _ else _) = _; rw [if_neg this]
  | succ d => show (if _ then _ else _) = _; rw [if_neg this]
theorem rdG_nil (d : Nat) : rdG lf d [] = lf [] := by cases d <;> rfl
end
/-! what the open brackets make of a thing that is whole -/
def finT (lf : List Wd → Rd Th) : List (Int × List Th) → Th → List Wd → Rd Th
  | [], t, r => some (t, r)
  | (n, cs) :: fr, t, r => match kids (rdG lf (40 - (fr.length + 1))) r with
    | none => none
    | some (ds, r') => finT lf fr (.node n (cs ++ t :: ds)) r'
def finK (lf : List Wd → Rd Th) : List (Int × List Th) → List Wd → Rd Th
  | [], ws => rdG lf 40 ws
  | (n, cs) :: fr, ws => match kids (rdG lf (40 - (fr.length + 1))) ws with
    | none => none
    | some (ds, r') => finT lf fr (.node n (cs ++ ds)) r'
section
variable {lf : List Wd → Rd Th}
theorem finK_c {n : Int} {cs : List Th} {fr : List (Int × List Th)} {ws : List Wd} : finK lf ((n, cs) :: fr) ws = match kids (rdG lf (40 - (fr.length + 1))) ws with
    | none => none
    | some (ds, r') => finT lf fr (.node n (cs ++ ds)) r' := rfl
theorem finT_c {n : Int} {cs : List Th} {fr : List (Int × List Th)} {t : Th} {r : List Wd} : finT lf ((n, cs) :: fr) t r = match kids (rdG lf (40 - (fr.length + 1))) r with
    | none => none
    | some (ds, r') => finT lf fr (.node n (cs ++ t :: ds)) r' := rfl
theorem finT_cons {n : Int} {cs : List Th} {fr : List (Int × List Th)} {t : Th} {r : List Wd} : finT lf ((n, cs) :: fr) t r = finK lf ((n, cs ++ [t]) :: fr) r := by
  rw [finK_c, finT_c]
  cases kids (rdG lf (40 - (fr.length + 1))) r with
  | none => rfl
  | some p => simp only [List.append_assoc, List.cons_append, List.nil_append]
theorem fin_cl {n : Int} {cs : List Th} {fr : List (Int × List Th)} {r : List Wd} : finK lf ((n, cs) :: fr) (wCl :: r) = finT lf fr (.node n cs) r := by
  rw [finK_c, kids_cl]
  simp only [List.append_nil]
theorem fin_nil {p : Int × List Th} {fr : List (Int × List Th)} : finK lf (p :: fr) [] = none := by
  obtain ⟨n, cs⟩ := p
  rw [finK_c, kids_nil]
theorem fin_leaf (L : Lf lf) {fr : List (Int × List Th)} {w : Wd} {r r' : List Wd} {t : Th} (h1 : w ≠ wOp) (e : lf (w :: r) = some (t, r')) : finK lf fr (w :: r) = finT lf fr t r' := by
  have h2 : w ≠ wCl := fun z => by rw [z, L.cl] at e; cases e
  cases fr with
  | nil => show rdG lf 40 _ = _; rw [rdG_lf _ _ h1, e]; rfl
  | cons p fr =>
    obtain ⟨n, cs⟩ := p
    rw [finK_c, finT_c, kids_some (rdG_shr L _) h2 (by rw [rdG_lf _ _ h1]; exact e)]
    cases kids (rdG lf (40 - (fr.length + 1))) r' with
    | none => rfl
    | some p => rfl
theorem fin_noleaf {fr : List (Int × List Th)} {w : Wd} {r : List Wd} (h1 : w ≠ wOp) (h2 : w ≠ wCl ∨ fr = []) (e : lf (w :: r) = none) : finK lf fr (w :: r) = none := by
  cases fr with
  | nil => show rdG lf 40 _ = _; rw [rdG_lf _ _ h1, e]
  | cons p fr =>
    obtain ⟨n, cs⟩ := p
    have h3 : w ≠ wCl := h2.elim id fun z => by cases z
    rw [finK_c, kids_none h3 (by rw [rdG_lf _ _ h1]; exact e)]
theorem fin_op (L : Lf lf) {fr : List (Int × List Th)} (hd : fr.length < 40) {n : Wd} {r : List Wd} {k : Int} (h : numOf n = some k) : finK lf fr (wOp :: n :: r) = finK lf ((k, []) :: fr) r := by
  cases fr with
  | nil =>
    show rdG lf 40 _ = _
    rw [rdG_op, opn_num h, finK_c]
    show _ = match kids (rdG lf 39) r with | none => none | some (ds, r') => finT lf [] (.node k ([] ++ ds)) r'
    cases kids (rdG lf 39) r with
    | none => rfl
    | some p => rfl
  | cons p fr =>
    obtain ⟨m, cs⟩ := p
    simp only [List.length_cons] at hd
    obtain ⟨e, he⟩ : ∃ e, 40 - (fr.length + 1) = e + 1 := ⟨40 - (fr.length + 1) - 1, by omega⟩
    have he2 : 40 - (fr.length + 1 + 1) = e := by omega
    rw [finK_c, finK_c]
    simp only [List.length_cons, he, he2]
    cases e3 : kids (rdG lf e) r with
    | none =>
      rw [kids_none (by decide) (by rw [rdG_op, opn_num h, e3])]
    | some p =>
      obtain ⟨ds, r'⟩ := p
      rw [kids_some (rdG_shr L _) (by decide) (t := .node k ds) (r' := r') (by rw [rdG_op, opn_num h, e3])]
      simp only [List.nil_append, finT_c, he]
      cases kids (rdG lf (e + 1)) r' with
      | none => rfl
      | some q => rfl
theorem fin_opno {fr : List (Int × List Th)} {r : List Wd} (h : 40 ≤ fr.length ∨ r = [] ∨ ∃ n r', r = n :: r' ∧ numOf n = none) : finK lf fr (wOp :: r) = none := by
  have go : ∀ d, (40 ≤ fr.length → d = 0) → rdG lf d (wOp :: r) = none := fun d hd => by
    cases d with
    | zero => exact rdG_op0 r
    | succ d =>
      rw [rdG_op]
      rcases h with h | rfl | ⟨n, r', rfl, h⟩
      · exact absurd (hd h) (by omega)
      · rfl
      · exact opn_none h
  cases fr with
  | nil => exact go 40 fun z => absurd z (by decide)
  | cons p fr =>
    obtain ⟨m, cs⟩ := p
    rw [finK_c, kids_none (by decide) (go _ fun z => by simp only [List.length_cons] at z; omega)]
end
/-! ### turn papers: each bracket holds two -/
mutual
def bin : Th → Bool
  | .lf => true
  | .ties _ _ => true
  | .node _ cs => decide (cs.length = 2) && binA cs
def binA : List Th → Bool
  | [] => true
  | c :: cs => bin c && binA cs
end
def rdT : Nat → List Wd → Rd Th
  | d, w :: a :: b :: r => match numOf a with
    | none => none
    | some k => if w = wEq then match numOf b with
        | none => none
        | some y => some (.ties k y, r)
      else if w = wOp then match d with
        | 0 => none
        | d + 1 => match rdT d (b :: r) with
          | none => none
          | some (x, r1) => match rdT d r1 with
            | none => none
            | some (y, r2) => match r2 with
              | [] => none
              | z :: r3 => if z = wCl then some (.node k [x, y], r3) else none
      else none
  | _, _ => none
def isB (x : Rd Th) : Rd Th := match x with
  | none => none
  | some (t, r) => if bin t = true then some (t, r) else none
theorem lfT_bin {ws r : List Wd} {t : Th} (h : lfT ws = some (t, r)) : bin t = true := by
  match ws, h with
  | w :: a :: b :: ws, h =>
    by_cases c : w = wEq
    · have h : (match numOf a, numOf b with | some x, some y => some (Th.ties x y, ws) | _, _ => none) = some (t, r) := by
        have e : lfT (w :: a :: b :: ws) = _ := if_pos c
        rw [e] at h; exact h
      cases ea : numOf a with
      | none => rw [ea] at h; cases h
      | some x =>
        cases eb : numOf b with
        | none => rw [ea, eb] at h; cases h
        | some y => rw [ea, eb] at h; cases h; rfl
    · rw [lfT_ne c] at h; cases h
theorem isB_lf (ws : List Wd) : isB (lfT ws) = lfT ws := by
  unfold isB
  cases e : lfT ws with
  | none => rfl
  | some p => obtain ⟨t, r⟩ := p; simp only [lfT_bin e, if_true]


theorem bin_len {k : Int} {cs : List Th} (h : cs.length ≠ 2) : bin (.node k cs) = false := by
  show (decide (cs.length = 2) && binA cs) = false
  rw [decide_eq_false h]; rfl
theorem isB_node {k : Int} {cs : List Th} {r : List Wd} (h : cs.length ≠ 2) : isB (some (Th.node k cs, r)) = none := by
  show (if bin (.node k cs) = true then _ else none) = none
  rw [bin_len h]; rfl
theorem isB_some {t : Th} {r : List Wd} : isB (some (t, r)) = if bin t = true then some (t, r) else none := rfl
abbrev wrapN (k : Int) (x : Rd (List Th)) : Rd Th := match x with
  | none => none
  | some (cs, r') => some (.node k cs, r')
abbrev clN (k : Int) (x y : Th) (r2 : List Wd) : Rd Th := match r2 with
  | [] => none
  | z :: r3 => if z = wCl then some (.node k [x, y], r3) else none
abbrev two (f : List Wd → Rd Th) (k : Int) (ws : List Wd) : Rd Th := match f ws with
  | none => none
  | some (x, r1) => match f r1 with
    | none => none
    | some (y, r2) => clN k x y r2
theorem kids_bin {f : List Wd → Rd Th} (hf : Shr f) (h0 : f [] = none) (h1 : ∀ r, f (wCl :: r) = none) (k : Int) (ws : List Wd) : isB (wrapN k (kids f ws)) = two (fun x => isB (f x)) k ws := by
  match ws with
  | [] =>
    show none = _
    unfold two
    simp only [h0]; rfl
  | w :: t =>
    by_cases c : w = wCl
    · subst c
      rw [kids_cl]
      unfold two
      simp only [h1]
      exact isB_node (by decide)
    cases e : f (w :: t) with
    | none =>
      rw [kids_none c e]
      unfold two
      simp only [e]; rfl
    | some p =>
      obtain ⟨x, r1⟩ := p
      rw [kids_some hf c e]
      unfold two
      simp only [e, isB_some]
      match r1 with
      | [] =>
        rw [kids_nil]
        by_cases bx : bin x = true
        · simp only [bx, if_true, h0]; rfl
        · simp only [bx]; rfl
      | z :: t1 =>
        by_cases c1 : z = wCl
        · subst c1
          rw [kids_cl]
          by_cases bx : bin x = true
          · simp only [bx, if_true, h1]
            exact isB_node (by simp)
          · simp only [bx]
            exact isB_node (by simp)
        cases e1 : f (z :: t1) with
        | none =>
          rw [kids_none c1 e1]
          by_cases bx : bin x = true
          · simp only [bx, if_true, e1]; rfl
          · simp only [bx]; rfl
        | some p1 =>
          obtain ⟨y, r2⟩ := p1
          rw [kids_some hf c1 e1]
          match r2 with
          | [] =>
            rw [kids_nil]
            by_cases bx : bin x = true
            · simp only [bx, if_true, e1, isB_some]
              by_cases bY : bin y = true
              · simp only [bY, if_true]; rfl
              · simp only [bY]; rfl
            · simp only [bx]; rfl
          | z2 :: t2 =>
            by_cases c2 : z2 = wCl
            · subst c2
              rw [kids_cl]
              simp only [isB_some]
              have bn : bin (.node k [x, y]) = (bin x && bin y) := by
                show (decide ([x, y].length = 2) && (bin x && (bin y && true))) = _
                rw [decide_eq_true (by rfl), Bool.true_and, Bool.and_true]
              rw [bn]
              by_cases bx : bin x = true
              · simp only [bx, if_true, e1, isB_some, Bool.true_and]
                by_cases bY : bin y = true
                · simp only [bY, if_true]; exact (if_pos rfl).symm
                · simp only [bY]; rfl
              · simp only [bx, Bool.false_and]; rfl
            · have rhs : (match (if bin x = true then some (x, z :: t1) else none : Rd Th) with
                  | none => none
                  | some (x, r1) => match isB (f r1) with
                    | none => none
                    | some (y, r2) => clN k x y r2) = none := by
                by_cases bx : bin x = true
                · simp only [bx, if_true, e1, isB_some]
                  by_cases bY : bin y = true
                  · simp only [bY, if_true, if_neg c2]
                  · simp only [bY]; rfl
                · simp only [bx]; rfl
              rw [rhs]
              cases e2 : f (z2 :: t2) with
              | none => rw [kids_none c2 e2]; rfl
              | some p2 =>
                obtain ⟨u, r3⟩ := p2
                rw [kids_some hf c2 e2]
                cases kids f r3 with
                | none => rfl
                | some p3 =>
                  obtain ⟨ds, r4⟩ := p3
                  exact isB_node (by simp only [List.length_cons]; omega)
theorem rdT_is : ∀ (d : Nat) (ws : List Wd), rdT d ws = isB (rdG lfT d ws)
  | d, [] => by rw [rdG_nil]; cases d <;> rfl
  | d, w :: t => by
    by_cases c : w = wOp
    · subst c
      cases d with
      | zero =>
        rw [rdG_op0]
        match t with
        | [] => rfl
        | [_] => rfl
        | a :: b :: r =>
          rw [rdT]
          cases numOf a with
          | none => rfl
          | some k => rfl
      | succ d =>
        rw [rdG_op]
        match t with
        | [] => rfl
        | [a] =>
          cases e : numOf a with
          | none => rw [opn_none e]; rfl
          | some k => rw [opn_num e, kids_nil]; rfl
        | a :: b :: r =>
          rw [rdT]
          cases e : numOf a with
          | none => rw [opn_none e]; rfl
          | some k =>
            rw [opn_num e]
            have kb := kids_bin (rdG_shr lf_t d) (by rw [rdG_nil]; rfl) (fun r => by rw [rdG_lf _ _ (by decide)]; exact lf_t.cl r) k (b :: r)
            have ih := rdT_is d
            show _ = isB (wrapN k (kids (rdG lfT d) (b :: r)))
            rw [kb]
            unfold two
            simp only [← ih]
            rfl
    · rw [rdG_lf _ _ c, isB_lf]
      match t with
      | [] => cases d <;> rfl
      | [_] => cases d <;> rfl
      | a :: b :: r =>
        rw [rdT]
        by_cases c2 : w = wEq
        · have e : lfT (w :: a :: b :: r) = _ := if_pos c2
          rw [e]
          cases numOf a with
          | none => rfl
          | some k =>
            simp only [if_pos c2]
            cases numOf b <;> rfl
        · rw [lfT_ne c2]
          cases numOf a with
          | none => rfl
          | some k => simp only [if_neg c2, if_neg c]


/-! ### what words tell -/
def ww (s : String) : Wd := sg (Str.ofString s)
theorem mk_ww (s : String) : mkS (ww s) = Str.ofString s := mkS_sg _
theorem ww_inj {s : String} {w : Wd} : (mkS w = Str.ofString s) ↔ w = ww s := mk_eq
mutual
def dG : Th → PyData
  | .lf => .tuple []
  | .ties a b => .tuple [.str (Str.ofString "ties"), .int a, .int b]
  | .node n cs => .list (.int n :: dGA cs)
def dGA : List Th → List PyData
  | [] => []
  | c :: cs => dG c :: dGA cs
end
mutual
def dC : Th → PyData
  | .lf => .tuple []
  | .ties a b => .tuple [.str (Str.ofString "ties"), .int a, .int b]
  | .node n cs => .tuple [.int n, .list (dCA cs)]
def dCA : List Th → List PyData
  | [] => []
  | c :: cs => dC c :: dCA cs
end
mutual
def dT : Th → PyData
  | .lf => .tuple []
  | .ties a b => .tuple [.str (Str.ofString "ties"), .int a, .int b]
  | .node n cs => .tuple (.int n :: dTA cs)
def dTA : List Th → List PyData
  | [] => []
  | c :: cs => dT c :: dTA cs
end
theorem dGA_map : ∀ cs, dGA cs = cs.map dG
  | [] => rfl
  | c :: cs => by rw [List.map_cons, ← dGA_map cs]; rfl
theorem dCA_map : ∀ cs, dCA cs = cs.map dC
  | [] => rfl
  | c :: cs => by rw [List.map_cons, ← dCA_map cs]; rfl
theorem dTA_map : ∀ cs, dTA cs = cs.map dT
  | [] => rfl
  | c :: cs => by rw [List.map_cons, ← dTA_map cs]; rfl
theorem dG_node (n : Int) (cs : List Th) : dG (.node n cs) = .list (.int n :: cs.map dG) := by rw [← dGA_map]; rfl
theorem dC_node (n : Int) (cs : List Th) : dC (.node n cs) = .tuple [.int n, .list (cs.map dC)] := by rw [← dCA_map]; rfl
theorem dT_node (n : Int) (cs : List Th) : dT (.node n cs) = .tuple (.int n :: cs.map dT) := by rw [← dTA_map]; rfl
mutual
def thD : Th → Nat
  | .lf => 0
  | .ties _ _ => 0
  | .node _ cs => thDA cs + 1
def thDA : List Th → Nat
  | [] => 0
  | c :: cs => max (thD c) (thDA cs)
end
theorem thDA_mem {c : Th} : ∀ {cs : List Th}, c ∈ cs → thD c ≤ thDA cs
  | d :: cs, h => by
    show _ ≤ max (thD d) (thDA cs)
    rcases List.mem_cons.mp h with rfl | h
    · omega
    · have := thDA_mem h; omega
theorem thDA_le {cs : List Th} {n : Nat} (h : ∀ c ∈ cs, thD c ≤ n) : thDA cs ≤ n := by
  induction cs with
  | nil => exact Nat.zero_le _
  | cons d cs ih =>
    show max (thD d) (thDA cs) ≤ n
    have h1 := h d List.mem_cons_self
    have h2 := ih fun c hc => h c (List.mem_cons_of_mem _ hc)
    omega
theorem kids_all {f : List Wd → Rd Th} (hf : Shr f) {P : Th → Prop} (hP : ∀ ws t r, f ws = some (t, r) → P t) : ∀ (n : Nat) (ws : List Wd) (cs : List Th) (r : List Wd), ws.length < n → kids f ws = some (cs, r) → ∀ c ∈ cs, P c
  | 0, _, _, _, h, _ => absurd h (Nat.not_lt_zero _)
  | n + 1, [], _, _, _, h => by cases h
  | n + 1, w :: ws, cs, r, hn, h => by
    by_cases c : w = wCl
    · subst c; rw [kids_cl] at h; cases h; intro c hc; cases hc
    · cases e : f (w :: ws) with
      | none => rw [kids_none c e] at h; cases h
      | some p =>
        obtain ⟨t, r'⟩ := p
        have h1 := hf _ _ _ e
        rw [kids_some hf c e] at h
        cases e2 : kids f r' with
        | none => rw [e2] at h; cases h
        | some p2 =>
          obtain ⟨cs2, r2⟩ := p2
          rw [e2] at h
          cases h
          simp only [List.length_cons] at hn h1
          intro c hc
          rcases List.mem_cons.mp hc with rfl | hc
          · exact hP _ _ _ e
          · exact kids_all hf hP n r' cs2 r (by omega) e2 c hc
theorem kids_len {f : List Wd → Rd Th} (hf : Shr f) : ∀ (n : Nat) (ws : List Wd) (cs : List Th) (r : List Wd), ws.length < n → kids f ws = some (cs, r) → cs.length + r.length < ws.length
  | 0, _, _, _, h, _ => absurd h (Nat.not_lt_zero _)
  | n + 1, [], _, _, _, h => by cases h
  | n + 1, w :: ws, cs, r, hn, h => by
    by_cases c : w = wCl
    · subst c; rw [kids_cl] at h; cases h; simp
    · cases e : f (w :: ws) with
      | none => rw [kids_none c e] at h; cases h
      | some p =>
        obtain ⟨t, r'⟩ := p
        have h1 := hf _ _ _ e
        rw [kids_some hf c e] at h
        cases e2 : kids f r' with
        | none => rw [e2] at h; cases h
        | some p2 =>
          obtain ⟨cs2, r2⟩ := p2
          rw [e2] at h
          cases h
          simp only [List.length_cons] at hn h1 ⊢
          have := kids_len hf n r' cs2 r (by omega) e2
          omega
mutual
def thOk (q : Th → Bool) (N : Nat) : Th → Bool
  | .lf => q .lf
  | .ties a b => q (.ties a b)
  | .node _ cs => decide (cs.length ≤ N) && thOkA q N cs
def thOkA (q : Th → Bool) (N : Nat) : List Th → Bool
  | [] => true
  | c :: cs => thOk q N c && thOkA q N cs
end
theorem thOkA_all {q : Th → Bool} {N : Nat} : ∀ {cs : List Th}, thOkA q N cs = true ↔ ∀ c ∈ cs, thOk q N c = true
  | [] => ⟨fun _ => (fun c h => absurd h List.not_mem_nil), fun _ => rfl⟩
  | d :: cs => by
    show (thOk q N d && thOkA q N cs) = true ↔ _
    rw [Bool.and_eq_true, thOkA_all, List.forall_mem_cons]
theorem thOk_node {q : Th → Bool} {N : Nat} {n : Int} {cs : List Th} : thOk q N (.node n cs) = true ↔ cs.length ≤ N ∧ ∀ c ∈ cs, thOk q N c = true := by
  show (decide (cs.length ≤ N) && thOkA q N cs) = true ↔ _
  rw [Bool.and_eq_true, decide_eq_true_iff, thOkA_all]
theorem rdG_ok {lf : List Wd → Rd Th} (L : Lf lf) {q : Th → Bool} (hq : ∀ ws t r, lf ws = some (t, r) → q t = true ∧ thD t = 0 ∧ ∀ n cs, t ≠ .node n cs) {N : Nat} : ∀ (d : Nat) (ws : List Wd) (t : Th) (r : List Wd), ws.length ≤ N → rdG lf d ws = some (t, r) → thD t ≤ d ∧ thOk q N t = true
  | d, [], t, r, hn, h => by
    rw [rdG_nil] at h
    obtain ⟨h1, h2, h3⟩ := hq _ _ _ h
    refine ⟨by omega, ?_⟩
    cases t with
    | node n cs => exact absurd rfl (h3 n cs)
    | lf => exact h1
    | ties a b => exact h1
  | d, w :: ws, t, r, hn, h => by
    by_cases c : w = wOp
    · subst c
      cases d with
      | zero => rw [rdG_op0] at h; cases h
      | succ d =>
        rw [rdG_op] at h
        cases ws with
        | nil => cases h
        | cons n ws =>
          cases e : numOf n with
          | none => rw [opn_none e] at h; cases h
          | some k =>
            rw [opn_num e] at h
            cases e2 : kids (rdG lf d) ws with
            | none => rw [e2] at h; cases h
            | some p =>
              obtain ⟨cs, r'⟩ := p
              rw [e2] at h
              cases h
              simp only [List.length_cons] at hn
              have hl := kids_len (rdG_shr L d) (ws.length + 1) ws cs r (by omega) e2
              have hall : ∀ (m : Nat) (us : List Wd) (ds : List Th) (r : List Wd), us.length < m → us.length ≤ N → kids (rdG lf d) us = some (ds, r) → ∀ c ∈ ds, thD c ≤ d ∧ thOk q N c = true := by
                intro m
                induction m with
                | zero => intro us ds r h; exact absurd h (Nat.not_lt_zero _)
                | succ m ih =>
                  intro us ds r h1 h2 h3
                  cases us with
                  | nil => cases h3
                  | cons u us =>
                    by_cases cc : u = wCl
                    · subst cc; rw [kids_cl] at h3; cases h3; intro c hc; cases hc
                    · cases e4 : rdG lf d (u :: us) with
                      | none => rw [kids_none cc e4] at h3; cases h3
                      | some p4 =>
                        obtain ⟨t4, r4⟩ := p4
                        have h5 := rdG_shr L d _ _ _ e4
                        have h6 := rdG_ok L hq d _ _ _ h2 e4
                        rw [kids_some (rdG_shr L d) cc e4] at h3
                        cases e7 : kids (rdG lf d) r4 with
                        | none => rw [e7] at h3; cases h3
                        | some p7 =>
                          obtain ⟨cs7, r7⟩ := p7
                          rw [e7] at h3
                          cases h3
                          simp only [List.length_cons] at h1 h2 h5
                          intro c hc
                          rcases List.mem_cons.mp hc with rfl | hc
                          · exact h6
                          · exact ih r4 cs7 r (by omega) (by omega) e7 c hc
              have ha := hall (ws.length + 1) ws cs r (by omega) (by omega) e2
              refine ⟨?_, ?_⟩
              · show thDA cs + 1 ≤ d + 1
                have := thDA_le fun c hc => (ha c hc).1
                omega
              · exact thOk_node.mpr ⟨by omega, fun c hc => (ha c hc).2⟩
    · rw [rdG_lf _ _ c] at h
      obtain ⟨h1, h2, h3⟩ := hq _ _ _ h
      refine ⟨by omega, ?_⟩
      cases t with
      | node n cs => exact absurd rfl (h3 n cs)
      | lf => exact h1
      | ties a b => exact h1
  termination_by d => d
def isLf : Th → Bool
  | .lf => true
  | _ => false
def isTi : Th → Bool
  | .ties _ _ => true
  | _ => false
theorem lfC_is {ws r : List Wd} {t : Th} (h : lfC ws = some (t, r)) : isLf t = true ∧ thD t = 0 ∧ ∀ n cs, t ≠ .node n cs := by
  cases ws with
  | nil => cases h
  | cons w ws =>
    have h : (if w = wDot then some (Th.lf, ws) else none) = some (t, r) := h
    split at h
    · cases h; exact ⟨rfl, rfl, fun n cs z => nomatch z⟩
    · cases h
theorem lfT_is {ws r : List Wd} {t : Th} (h : lfT ws = some (t, r)) : isTi t = true ∧ thD t = 0 ∧ ∀ n cs, t ≠ .node n cs := by
  match ws, h with
  | w :: a :: b :: ws, h =>
    by_cases c : w = wEq
    · have h : (match numOf a, numOf b with | some x, some y => some (Th.ties x y, ws) | _, _ => none) = some (t, r) := by
        have e : lfT (w :: a :: b :: ws) = _ := if_pos c
        rw [e] at h; exact h
      cases ea : numOf a with
      | none => rw [ea] at h; cases h
      | some x =>
        cases eb : numOf b with
        | none => rw [ea, eb] at h; cases h
        | some y => rw [ea, eb] at h; cases h; exact ⟨rfl, rfl, fun n cs z => nomatch z⟩
    · rw [lfT_ne c] at h; cases h
def numR : List Wd → Rd Int
  | [] => none
  | w :: r => match numOf w with
    | none => none
    | some k => some (k, r)
def runN : List Wd → List Int × List Wd
  | [] => ([], [])
  | w :: r => match numOf w with
    | none => ([], w :: r)
    | some k => (k :: (runN r).1, (runN r).2)
def papR : List Wd → Rd PyData
  | [] => none
  | w :: r => if w = ww "none" then some (.tuple [.str (Str.ofString "none")], r)
    else if w = ww "case" then match rdG lfC 40 r with
      | some (t, r') => some (.tuple [.str (Str.ofString "case"), dC t], r')
      | none => none
    else if w = ww "turn" then match isB (rdG lfT 40 r) with
      | some (t, r') => some (.tuple [.str (Str.ofString "turn"), dT t], r')
      | none => none
    else if w = ww "tie" then match numR r with
      | some (k, r') => some (.tuple [.str (Str.ofString "tie"), .int k], r')
      | none => none
    else if w = ww "lot" then match numR r with
      | some (k, r') => some (.tuple [.str (Str.ofString "lot"), .int k, dInts (runN r').1], (runN r').2)
      | none => none
    else none
def papF (ws : List Wd) : Option PyData := match papR ws with
  | some (D, []) => some D
  | _ => none
def byF (k : Int) (pre : List PyData) (hs : List Int) : List Wd → Option PyData
  | [] => none
  | b :: r => if b = ww "by" then match papF r with
    | some d => some (.tuple (.int k :: pre ++ [dInts hs, d]))
    | none => none
    else none
def huF (k : Int) (pre : List PyData) : List Wd → Option PyData
  | [] => none
  | w :: r => if w = ww "hues" then byF k pre (runN r).1 (runN r).2 else none
def toldF : List Wd → Option PyData
  | [] => none
  | h :: r => match numOf h with
    | none => none
    | some k => if r.head? = some (ww "turn") then huF k [dInts (runN r.tail).1] (runN r.tail).2 else huF k [] r


/-! ### the reader of words -/
abbrev woF (wl : Addr) (i : Nat) : List (Str × V) := [(Str.ofString "words", .ref wl), (Str.ofString "at", .int (i : Nat))]
structure WoAt (A : Ad) (H : Hp) (o wl dx : Addr) (ws : List Wd) (i : Nat) : Prop where
  ins : H o = some (.ins A.c_Words dx (woF wl i))
  lst : H wl = some (.lst (ws.map fun w => V.str (mkS w)))
  ne : wl ≠ o
  len : ws.length ≤ 20000
  wlen : ∀ w ∈ ws, w.length ≤ 80000
  ile : i ≤ ws.length
theorem WoAt.same {A : Ad} {H H' : Hp} {o wl dx : Addr} {ws : List Wd} {i : Nat} (h : WoAt A H o wl dx ws i) (s : Same H H') : WoAt A H' o wl dx ws i := ⟨s _ _ h.ins, s _ _ h.lst, h.ne, h.len, h.wlen, h.ile⟩
/-- the refusal, as the reader's callers see it -/
def RaiseW (A : Ad) (o : Addr) (H : Hp) (E : XK) : Prop := ∀ d H', H d = none → Same (hid [o] H) (hid [o] H') → H' d = some (.xd [(Str.ofString "row", V.int 0)]) → E (.ref A.c_NoText) (some d) H'
theorem RaiseW.step {A : Ad} {o : Addr} {H H1 : Hp} {E : XK} {x : HO} (h : RaiseW A o H E) (s : Same (hid [o] H) (hid [o] H1)) (e : H1 o = some x) : RaiseW A o H1 E := fun d H' nd s2 e2 => h d H' (by
    have pa : d ∉ [o] := fun z => by rw [List.mem_singleton.mp z, e] at nd; cases nd
    have := s.free (show hid [o] H1 d = none by rw [hid_ne pa]; exact nd)
    rwa [hid_ne pa] at this) (s.trans s2) e2
theorem RaiseW.mono {A : Ad} {o : Addr} {H H1 : Hp} {E : XK} (h : RaiseW A o H E) (s : Same H H1) : RaiseW A o H1 E := fun d H' nd s2 e2 => h d H' (s.free nd) ((hid_mono s).trans s2) e2
/-- a reading step: what is told, or the refusal -/
structure Rdr (A : Ad) {α : Type} (o wl dx : Addr) (ws : List Wd) (H : Hp) (Q : VK) (E : XK) (x : Rd α) (G : α → V → Hp → Prop) : Prop where
  no : x = none → RaiseW A o H E
  yes : ∀ a r, x = some (a, r) → ∀ v H' i, Same (hid [o] H) (hid [o] H') → WoAt A H' o wl dx ws i → ws.drop i = r → G a v H' → Q v H'
theorem k_augAt {K : PySem.W.Frag} {σ : L2.St} {H : Hp} {nx bk ct : L2.St → Hp → Prop} {rt : VK} {j : Nat} {o C dx : Addr} {fs : List (Str × V)} {f : Str} {n m : Int} (hv : σ[j]? = some (some (.ref o))) (e : H o = some (.ins C dx fs)) (c : Cls K C) (na : NoAttr K C f) (l : fs.lookup f = some (.int n)) (hl : fs.length < 1000)
    (h : nx σ (upd H o (.ins C dx (putF f (.int (n + m)) fs)))) : sFldAug K (tVar j) (tC (.int m)) L2.rAdd f ⟨nx, rt, bk, ct⟩ σ H := by
  refine k_var hv ⟨o, C, dx, fs, .int n, rfl, e, c, na, l, ?_⟩
  exact k_c ⟨n, m, rfl, rfl, dx, fs, e, hl, h⟩
theorem woF_put {wl : Addr} {i : Nat} {x : Int} (h : x = ((i + 1 : Nat) : Int)) : putF (Str.ofString "at") (.int x) (woF wl i) = woF wl (i + 1) := by subst h; rfl
theorem WoAt.step {A : Ad} {H : Hp} {o wl dx : Addr} {ws : List Wd} {i : Nat} (h : WoAt A H o wl dx ws i) (hi : i < ws.length) : WoAt A (upd H o (.ins A.c_Words dx (woF wl (i + 1)))) o wl dx ws (i + 1) := ⟨upd_same, by rw [upd_ne h.ne]; exact h.lst, h.ne, h.len, h.wlen, hi⟩
theorem drop_at {ws : List Wd} {i : Nat} {w : Wd} {r : List Wd} (h : ws.drop i = w :: r) : ws[i]? = some w ∧ ws.drop (i + 1) = r ∧ i < ws.length := by
  have hi : i < ws.length := by
    by_cases c : i < ws.length
    · exact c
    · rw [List.drop_eq_nil_of_le (by omega)] at h; cases h
  rw [List.drop_eq_getElem_cons hi] at h
  cases h
  exact ⟨List.getElem?_eq_getElem hi, rfl, hi⟩
theorem drop_end {ws : List Wd} {i : Nat} (h : ws.drop i = []) : ws.length ≤ i := by
  by_cases c : i < ws.length
  · rw [List.drop_eq_getElem_cons c] at h; cases h
  · omega
theorem sg_bl32 : sg (Str.ofString " ") = [32] := by rw [sg_str]; rfl
def pr_Words_init (K : PySem.W.Frag) (A : Ad) (v0 v1 : V) (H : Hp) (Q : VK) (_ : XK) : Prop := ∃ (a dx : Addr) (l : List Nat), v0 = .ref a ∧ H a = some (.ins A.c_Words dx []) ∧ v1 = .str (mkS l) ∧ l.length ≤ 19000 ∧
  ∀ wl H', Same (hid [a] H) (hid [a] H') → WoAt A H' a wl dx (splitL 32 l) 0 → Q .non H'
def t_Words_init (K : PySem.W.Frag) (A : Ad) : TS :=
  (tSeq (sFld K (tVar 0) (tM1 rSplit (tVar 1) (tC (.str (Str.ofString " ")))) "words")
    (sFld K (tVar 0) (tC (.int 0)) "at"))
theorem pure_Words_init (T : Txt K mg A) {v0 v1 : V} {H : Hp} {Q : VK} {E : XK} (h : pr_Words_init K A v0 v1 H Q E) : t_Words_init K A ⟨fun _ H' => Q .non H', Q, fun _ _ => False, fun _ _ => False⟩ [some v0, some v1] H := by
  obtain ⟨a, dx, l, rfl, ea, rfl, hl, q⟩ := h
  have rl := splitL_len 32 l
  unfold t_Words_init
  wtm_at "s"
  refine k_splitL (s := 32) sg_bl32 (by decide) (by omega) (fun wl H1 nw s1 e1 => ?_)
  have ne : wl ≠ a := fun z => by rw [z, ea] at nw; cases nw
  wtm_at "s"
  refine k_pF (s1 _ _ ea) T.K_Words T.N_Words_words (by decide) ?_
  wtm_at "s"
  refine k_pF upd_same T.K_Words T.N_Words_at (show 1 < 1000 by decide) ?_
  wtm_at "s"
  refine q wl _ ?_ ⟨upd_same, by rw [upd_ne ne, upd_ne ne]; exact e1, ne, by omega, fun w hw => by have := rl.2 w hw; omega, Nat.zero_le _⟩
  rw [hid_upd (by simp), hid_upd (by simp)]
  exact hid_mono s1
abbrev sp_Words_init (K : PySem.W.Frag) (A : Ad) : Sp := fun vs H Q E => ∃ v0 v1, vs = [v0, v1] ∧ pr_Words_init K A v0 v1 H Q E
theorem ok_Words_init (T : Txt K mg A) : FnOk P w K mg base CX0 1 A.a_Words_init A.d_Words_init ["self", "text"] (sp_Words_init K A) := by
  refine T.F_Words_init.ok sc_Words_init (fun vs H Q E h => by obtain ⟨v0, v1, rfl, _⟩ := h; rfl) (fun cdv A0 outer s H vs Q E hr h => ?_)
  obtain ⟨v0, v1, rfl, h⟩ := h
  exact ⟨t_Words_init K A, (pss_cons (ps_fld (pv 0) (pe_split (pv 1) pe_str) (by rfl))
      (pss_one (ps_fld (pv 0) pe_int (by rfl)))), pure_Words_init T h⟩
def pr_Words_ended (K : PySem.W.Frag) (A : Ad) (v0 : V) (H : Hp) (Q : VK) (_ : XK) : Prop := ∃ o wl dx ws i, v0 = .ref o ∧ WoAt A H o wl dx ws i ∧ Q (.bl (decide (i = ws.length))) H
def t_Words_ended (K : PySem.W.Frag) (A : Ad) : TS :=
  (tRet (tOp rEq (tFld K (tVar 0) "at") (tCB (rLenX K) (tCons (tFld K (tVar 0) "words") tNil))))
theorem pure_Words_ended (T : Txt K mg A) {v0 : V} {H : Hp} {Q : VK} {E : XK} (h : pr_Words_ended K A v0 H Q E) : t_Words_ended K A ⟨fun _ H' => Q .non H', Q, fun _ _ => False, fun _ _ => False⟩ [some v0] H := by
  obtain ⟨o, wl, dx, ws, i, rfl, W, q⟩ := h
  unfold t_Words_ended
  wtm_at "s"
  refine k_gF W.ins T.K_Words T.N_Words_at rfl ?_
  wtm_at "s"
  refine k_gF W.ins T.K_Words T.N_Words_words rfl ?_
  wtm_at "s"
  refine k_len (sl W.lst) ?_
  rw [List.length_map]
  wtm_at "s"
  rw [show decide (((i : Nat) : Int) = ((ws.length : Nat) : Int)) = decide (i = ws.length) from decide_eq_decide.mpr ⟨fun z => by omega, fun z => by omega⟩]
  exact q
abbrev sp_Words_ended (K : PySem.W.Frag) (A : Ad) : Sp := fun vs H Q E => ∃ v0, vs = [v0] ∧ pr_Words_ended K A v0 H Q E
theorem ok_Words_ended (T : Txt K mg A) : FnOk P w K mg base CX0 1 A.a_Words_ended A.d_Words_ended ["self"] (sp_Words_ended K A) := by
  refine T.F_Words_ended.ok sc_Words_ended (fun vs H Q E h => by obtain ⟨v0, rfl, _⟩ := h; rfl) (fun cdv A0 outer s H vs Q E hr h => ?_)
  obtain ⟨v0, rfl, h⟩ := h
  exact ⟨t_Words_ended K A, (pss_one (ps_ret (pe_cmpR op_eq (pe_fld (pv 0) (by rfl)) (pe_callB q_len (by rfl) T.z_len (by decide +kernel) (pa_cons (pe_fld (pv 0) (by rfl)) pa_nil)) (nomark _)))), pure_Words_ended T h⟩
def pr_Words_look (K : PySem.W.Frag) (A : Ad) (v0 : V) (H : Hp) (Q : VK) (_ : XK) : Prop := ∃ o wl dx ws i, v0 = .ref o ∧ WoAt A H o wl dx ws i ∧ (ws.drop i = [] → Q (.str (mkS [])) H) ∧ ∀ w r, ws.drop i = w :: r → Q (.str (mkS w)) H
def t_Words_look (K : PySem.W.Frag) (A : Ad) : TS :=
  (tSeq (tIfS (tB (tMeth A.c_Words "ended" (sp_Words_ended K A) [] E0 (tVar 0) tNil)) (tRet (tC (.str (Str.ofString "")))) tNext)
    (tRet (tOp (rIxL K) (tFld K (tVar 0) "words") (tFld K (tVar 0) "at"))))
theorem pure_Words_look (T : Txt K mg A) {v0 : V} {H : Hp} {Q : VK} {E : XK} (h : pr_Words_look K A v0 H Q E) : t_Words_look K A ⟨fun _ H' => Q .non H', Q, fun _ _ => False, fun _ _ => False⟩ [some v0] H := by
  obtain ⟨o, wl, dx, ws, i, rfl, W, q0, q⟩ := h
  unfold t_Words_look
  wtm_at "s"
  refine k_mF W.ins rfl ?_
  wtm_at "s"
  refine ⟨_, rfl, o, wl, dx, ws, i, rfl, W, ?_⟩
  wtm_at "s"
  cases e : ws.drop i with
  | nil =>
    have := drop_end e
    have := W.ile
    rw [decide_eq_true (show i = ws.length by omega)]
    wtm_at "s"
    have e0 : mkS [] = Str.ofString "" := by rw [← mkS_sg (Str.ofString ""), sg_emp]
    have := q0 e
    rwa [e0] at this
  | cons w r =>
    obtain ⟨h1, h2, h3⟩ := drop_at e
    rw [decide_eq_false (show ¬ i = ws.length by omega)]
    wtm_at "s"
    refine k_gF W.ins T.K_Words T.N_Words_words rfl ?_
    wtm_at "s"
    refine k_gF W.ins T.K_Words T.N_Words_at rfl ?_
    wtm_at "s"
    exact k_ixL (sl W.lst) (atI_nat (by rw [List.getElem?_map, h1]; rfl)) (q w r e)
abbrev sp_Words_look (K : PySem.W.Frag) (A : Ad) : Sp := fun vs H Q E => ∃ v0, vs = [v0] ∧ pr_Words_look K A v0 H Q E
theorem ok_Words_look (T : Txt K mg A) : FnOk P w K mg base CX0 2 A.a_Words_look A.d_Words_look ["self"] (sp_Words_look K A) := by
  refine T.F_Words_look.ok sc_Words_look (fun vs H Q E h => by obtain ⟨v0, rfl, _⟩ := h; rfl) (fun cdv A0 outer s H vs Q E hr h => ?_)
  obtain ⟨v0, rfl, h⟩ := h
  exact ⟨t_Words_look K A, (pss_cons (ps_if (pt_val (pe_meth0 (pv 0) T.K_Words T.Me_Words_ended (ok_Words_ended T) (hr.mono (by decide)) T.b_Words_ended .nil pass0 )) (pss_one (ps_ret pe_str)) pss_nil)
      (pss_one (ps_ret (pe_ix ix_list (pe_fld (pv 0) (by rfl)) (pe_fld (pv 0) (by rfl)) (fun _ _ => rfl))))), pure_Words_look T h⟩
def pr_Words_must (K : PySem.W.Frag) (A : Ad) (v0 v1 : V) (H : Hp) (Q : VK) (E : XK) : Prop := ∃ b : Bool, v1 = .bl b ∧ (b = true → Q .non H) ∧ (b = false → ∀ d H', H d = none → Same H H' → H' d = some (.xd [(Str.ofString "row", V.int 0)]) → E (.ref A.c_NoText) (some d) H')
def t_Words_must (K : PySem.W.Frag) (A : Ad) (E : XK) : TS :=
  (tIfS (tNot (tB (tVar 1))) (tRaiseO A.c_NoText (spInit A.c_NoText (Str.ofString "row")) (tCons (tC (.int 0)) tNil) E) tNext)
theorem pure_Words_must {v0 v1 : V} {H : Hp} {Q : VK} {E : XK} (h : pr_Words_must K A v0 v1 H Q E) : t_Words_must K A E ⟨fun _ H' => Q .non H', Q, fun _ _ => False, fun _ _ => False⟩ [some v0, some v1] H := by
  obtain ⟨b, rfl, qt, qf⟩ := h
  unfold t_Words_must
  wtm_at "s"
  cases b with
  | true =>
    wtm_at "s"
    exact qt rfl
  | false =>
    wtm_at "s"
    exact k_raiseO (fun R z => by wtm_at "s"; exact z) fun d nd => qf rfl d _ nd (same_new nd) upd_same
abbrev sp_Words_must (K : PySem.W.Frag) (A : Ad) : Sp := fun vs H Q E => ∃ v0 v1, vs = [v0, v1] ∧ pr_Words_must K A v0 v1 H Q E
theorem ok_Words_must (T : Txt K mg A) : FnOk P w K mg base (L2.CX P w) 3 A.a_Words_must A.d_Words_must ["self", "right"] (sp_Words_must K A) := by
  refine T.F_Words_must.okX sc_Words_must (fun vs H Q E h => by obtain ⟨v0, v1, rfl, _⟩ := h; rfl) (fun cdv A0 outer s H vs Q E hr h => ?_)
  obtain ⟨v0, v1, rfl, h⟩ := h
  exact ⟨t_Words_must K A E, (pss_one (ps_if (pt_not (pt_val (pv 1))) (pss_one (ps_raise rfl (takes_of rfl rfl rfl rfl) (pmk_oex T.o_NoText T.in_NoText T.ti_NoText (ok_init_NoText T) (hr.mono (by decide)) T.bi_NoText .nil pass0 (by rfl) T.k_NoText (pa_cons pe_int pa_nil)))) pss_nil)), pure_Words_must h⟩
def pr_Words_take (K : PySem.W.Frag) (A : Ad) (v0 v1 : V) (H : Hp) (Q : VK) (E : XK) : Prop := ∃ o wl dx ws i w, v0 = .ref o ∧ v1 = .str (mkS w) ∧ w ≠ [] ∧ WoAt A H o wl dx ws i ∧ ((ws.drop i).head? ≠ some w → RaiseW A o H E) ∧
  (∀ r, ws.drop i = w :: r → ∀ H', Same (hid [o] H) (hid [o] H') → WoAt A H' o wl dx ws (i + 1) → ws.drop (i + 1) = r → Q .non H')
def t_Words_take (K : PySem.W.Frag) (A : Ad) (E : XK) : TS :=
  (tSeq (tDrop (tMeth A.c_Words "must" (sp_Words_must K A) [] E (tVar 0) (tCons (tOp rEq (tMeth A.c_Words "look" (sp_Words_look K A) [] E0 (tVar 0) tNil) (tVar 1)) tNil)))
    (sFldAug K (tVar 0) (tC (.int 1)) L2.rAdd "at"))
theorem pure_Words_take (T : Txt K mg A) {v0 v1 : V} {H : Hp} {Q : VK} {E : XK} (h : pr_Words_take K A v0 v1 H Q E) : t_Words_take K A E ⟨fun _ H' => Q .non H', Q, fun _ _ => False, fun _ _ => False⟩ [some v0, some v1] H := by
  obtain ⟨o, wl, dx, ws, i, w, rfl, rfl, nw, W, qe, q⟩ := h
  unfold t_Words_take
  wtm_at "s"
  refine k_mF W.ins rfl ?_
  wtm_at "s"
  refine k_mF W.ins rfl ?_
  wtm_at "s"
  have bad : (ws.drop i).head? ≠ some w → ∀ d H', H d = none → Same H H' → H' d = some (.xd [(Str.ofString "row", V.int 0)]) → E (.ref A.c_NoText) (some d) H' := fun c d H' nd s e => qe c d H' nd (hid_mono s) e
  refine ⟨_, rfl, o, wl, dx, ws, i, rfl, W, fun e => ?_, fun u r e => ?_⟩
  · wtm_at "s"
    refine k_eqS ?_
    rw [decide_eq_false (show ¬ mkS [] = mkS w from fun z => nw (by rw [← sg_mkS w, ← z, sg_mkS]))]
    wtm_at "s"
    exact ⟨_, _, rfl, false, rfl, (fun z => by cases z), fun _ => bad (by rw [e]; simp)⟩
  · wtm_at "s"
    refine k_eqS ?_
    by_cases c : u = w
    · subst c
      obtain ⟨h1, h2, h3⟩ := drop_at e
      rw [decide_eq_true rfl]
      wtm_at "s"
      refine ⟨_, _, rfl, true, rfl, fun _ => ?_, fun z => by cases z⟩
      wtm_at "s"
      refine k_augAt rfl W.ins T.K_Words T.N_Words_at rfl (show 2 < 1000 by decide) ?_
      rw [woF_put (by omega)]
      exact q r e _ (by rw [hid_upd (by simp)]; exact Same.refl _) (W.step h3) h2
    · rw [decide_eq_false (show ¬ mkS u = mkS w from fun z => c (by rw [← sg_mkS w, ← z, sg_mkS]))]
      wtm_at "s"
      exact ⟨_, _, rfl, false, rfl, (fun z => by cases z), fun _ => bad (by rw [e]; simpa using c)⟩
abbrev sp_Words_take (K : PySem.W.Frag) (A : Ad) : Sp := fun vs H Q E => ∃ v0 v1, vs = [v0, v1] ∧ pr_Words_take K A v0 v1 H Q E
theorem ok_Words_take (T : Txt K mg A) : FnOk P w K mg base (L2.CX P w) 4 A.a_Words_take A.d_Words_take ["self", "word"] (sp_Words_take K A) := by
  refine T.F_Words_take.okX sc_Words_take (fun vs H Q E h => by obtain ⟨v0, v1, rfl, _⟩ := h; rfl) (fun cdv A0 outer s H vs Q E hr h => ?_)
  obtain ⟨v0, v1, rfl, h⟩ := h
  exact ⟨t_Words_take K A E, (pss_cons (ps_expr (pe_meth (E := E) (pv 0) T.K_Words T.Me_Words_must (ok_Words_must T) (hr.mono (by decide)) T.b_Words_must .nil (passes_call (takes_of rfl rfl rfl rfl) (fun _ _ _ _ h => h)) (pa_cons (pe_cmpR op_eq (pe_meth0 (pv 0) T.K_Words T.Me_Words_look (ok_Words_look T) (hr.mono (by decide)) T.b_Words_look .nil pass0 ) (pv 1) (nomark _)) pa_nil)))
      (pss_one (ps_fldaug (pv 0) pe_int L2.in_add))), pure_Words_take T h⟩
def pr_Words_number (K : PySem.W.Frag) (A : Ad) (v0 : V) (H : Hp) (Q : VK) (E : XK) : Prop := ∃ o wl dx ws i, v0 = .ref o ∧ WoAt A H o wl dx ws i ∧ Rdr A o wl dx ws H Q E (numR (ws.drop i)) (fun k v _ => v = .int k)
def t_Words_number (K : PySem.W.Frag) (A : Ad) (E : XK) : TS :=
  (tSeq (tAsg (tCall (sp_number_of K) [] E0 (tCons (tMeth A.c_Words "look" (sp_Words_look K A) [] E0 (tVar 0) tNil) tNil)) (gName 1))
    (tSeq (tDrop (tMeth A.c_Words "must" (sp_Words_must K A) [] E (tVar 0) (tCons (tOp xNotN (tVar 1) (tC .non)) tNil)))
    (tSeq (sFldAug K (tVar 0) (tC (.int 1)) L2.rAdd "at")
    (tRet (tVar 1)))))
theorem numOf_nil : numOf [] = none := if_pos (.inl rfl)
theorem pure_Words_number (T : Txt K mg A) {v0 : V} {H : Hp} {Q : VK} {E : XK} (h : pr_Words_number K A v0 H Q E) : t_Words_number K A E ⟨fun _ H' => Q .non H', Q, fun _ _ => False, fun _ _ => False⟩ [some v0, none] H := by
  obtain ⟨o, wl, dx, ws, i, rfl, W, R⟩ := h
  unfold t_Words_number
  wtm_at "s"
  refine k_mF W.ins rfl ?_
  wtm_at "s"
  have bad : numR (ws.drop i) = none → ∀ d H', H d = none → Same H H' → H' d = some (.xd [(Str.ofString "row", V.int 0)]) → E (.ref A.c_NoText) (some d) H' := fun c d H' nd s e => R.no c d H' nd (hid_mono s) e
  refine ⟨_, rfl, o, wl, dx, ws, i, rfl, W, fun e => ?_, fun u r e => ?_⟩
  · wtm_at "s"
    refine ⟨_, rfl, [], rfl, by simp, ?_⟩
    rw [numOf_nil, show optV none = V.non from rfl]
    wtm_at "s"
    refine k_mF W.ins rfl ?_
    wtm_at "s"
    exact ⟨_, _, rfl, false, rfl, (fun z => by cases z), fun _ => bad (by rw [e]; rfl)⟩
  · obtain ⟨h1, h2, h3⟩ := drop_at e
    have ul := W.wlen u (List.mem_of_getElem? h1)
    wtm_at "s"
    refine ⟨_, rfl, u, rfl, by omega, ?_⟩
    cases en : numOf u with
    | none =>
      rw [show optV none = V.non from rfl]
      wtm_at "s"
      refine k_mF W.ins rfl ?_
      wtm_at "s"
      exact ⟨_, _, rfl, false, rfl, (fun z => by cases z), fun _ => bad (by rw [e, numR, en])⟩
    | some k =>
      rw [show optV (some k) = V.int k from rfl]
      wtm_at "s"
      refine k_mF W.ins rfl ?_
      wtm_at "s"
      refine ⟨_, _, rfl, true, rfl, fun _ => ?_, fun z => by cases z⟩
      wtm_at "s"
      refine k_augAt rfl W.ins T.K_Words T.N_Words_at rfl (show 2 < 1000 by decide) ?_
      rw [woF_put (by omega)]
      wtm_at "s"
      exact R.yes k r (by rw [e, numR, en]) _ _ (i + 1) (by rw [hid_upd (by simp)]; exact Same.refl _) (W.step h3) h2 rfl
abbrev sp_Words_number (K : PySem.W.Frag) (A : Ad) : Sp := fun vs H Q E => ∃ v0, vs = [v0] ∧ pr_Words_number K A v0 H Q E
theorem ok_Words_number (T : Txt K mg A) : FnOk P w K mg base (L2.CX P w) 4 A.a_Words_number A.d_Words_number ["self"] (sp_Words_number K A) := by
  refine T.F_Words_number.okX sc_Words_number (fun vs H Q E h => by obtain ⟨v0, rfl, _⟩ := h; rfl) (fun cdv A0 outer s H vs Q E hr h => ?_)
  obtain ⟨v0, rfl, h⟩ := h
  exact ⟨t_Words_number K A E, (pss_cons (ps_set (i := 1) sc_Words_number.nd rfl (Or.inl rfl) (pe_call (ok_number_of T) (hr.mono (by decide)) (by rfl) T.g_number_of T.F_number_of.kp T.b_number_of .nil pass0 (pa_cons (pe_meth0 (pv 0) T.K_Words T.Me_Words_look (ok_Words_look T) (hr.mono (by decide)) T.b_Words_look .nil pass0 ) pa_nil)))
      (pss_cons (ps_expr (pe_meth (E := E) (pv 0) T.K_Words T.Me_Words_must (ok_Words_must T) (hr.mono (by decide)) T.b_Words_must .nil (passes_call (takes_of rfl rfl rfl rfl) (fun _ _ _ _ h => h)) (pa_cons (pe_cmpR op_notN (pv 1) pe_non (nomark _)) pa_nil)))
      (pss_cons (ps_fldaug (pv 0) pe_int L2.in_add)
      (pss_one (ps_ret (pv 1)))))), pure_Words_number T h⟩


theorem runN_cons {w : Wd} {r : List Wd} {k : Int} (h : numOf w = some k) : runN (w :: r) = (k :: (runN r).1, (runN r).2) := by rw [runN, h]
theorem runN_stop {w : Wd} {r : List Wd} (h : numOf w = none) : runN (w :: r) = ([], w :: r) := by rw [runN, h]
theorem runN_len : ∀ ws : List Wd, (runN ws).1.length + (runN ws).2.length = ws.length
  | [] => rfl
  | w :: r => by
    cases h : numOf w with
    | none => rw [runN_stop h]; simp
    | some k => rw [runN_cons h]; have := runN_len r; simp only [List.length_cons]; omega
def pr_Words_numbers (K : PySem.W.Frag) (A : Ad) (v0 : V) (H : Hp) (Q : VK) (E : XK) : Prop := ∃ o wl dx ws i, v0 = .ref o ∧ WoAt A H o wl dx ws i ∧ ∀ p H' i', Same (hid [o] H) (hid [o] H') → WoAt A H' o wl dx ws i' → ws.drop i' = (runN (ws.drop i)).2 → H p = none → H' p = some (.lst ((runN (ws.drop i)).1.map V.int)) → Q (.ref p) H'
def t_Words_numbers (K : PySem.W.Frag) (A : Ad) (E : XK) : TS :=
  (tSeq (tAsg (tLst tNil) (gName 1))
    (tSeq (tWhile (tTest (tOp xNotN (tCall (sp_number_of K) [] E0 (tCons (tMeth A.c_Words "look" (sp_Words_look K A) [] E0 (tVar 0) tNil) tNil)) (tC .non)))
      (tDrop (tBM K "list" rAppend (tVar 1) (tCons (tMeth A.c_Words "number" (sp_Words_number K A) [] E (tVar 0) tNil) tNil))))
    (tRet (tVar 1))))
theorem pure_Words_numbers (T : Txt K mg A) {v0 : V} {H : Hp} {Q : VK} {E : XK} (h : pr_Words_numbers K A v0 H Q E) : t_Words_numbers K A E ⟨fun _ H' => Q .non H', Q, fun _ _ => False, fun _ _ => False⟩ [some v0, none] H := by
  obtain ⟨o, wl, dx, ws, i, rfl, W, q⟩ := h
  unfold t_Words_numbers
  wtm_at "s"
  refine kL (by simp) (fun p H1 np s1 e1 => ?_)
  have W1 := W.same s1
  have po : p ∉ [o] := fun z => by rw [List.mem_singleton.mp z, W.ins] at np; cases np
  have fr : hid [o] H p = none := by rw [hid_ne po]; exact np
  wtm_at "s"
  refine k_while ⟨fun m σ' H' => σ' = [some (.ref o), some (.ref p)] ∧ Same (hid [o] H) (hid [o] H') ∧ ∃ (j : Nat) (acc : List Int), WoAt A H' o wl dx ws j ∧ H' p = some (.lst (acc.map V.int)) ∧ acc.length ≤ j ∧ acc ++ (runN (ws.drop j)).1 = (runN (ws.drop i)).1 ∧ (runN (ws.drop j)).2 = (runN (ws.drop i)).2 ∧ m + j = ws.length, ⟨ws.length - i, rfl, hid_mono s1, i, [], W1, e1, by simp, rfl, rfl, by have := W.ile; omega⟩, ?_⟩
  rintro m σ' G ⟨rfl, sG, j, acc, WG, eG, la, r1, r2, hm⟩
  have wl20 := WG.len
  have jl := WG.ile
  wtm_at "s"
  refine k_mF WG.ins rfl ?_
  wtm_at "s"
  have stop : (runN (ws.drop j)).1 = [] → ws.drop j = (runN (ws.drop j)).2 → Q (.ref p) G := fun h1 h2 => by
    refine q p G j sG WG (by rw [h2, r2]) np ?_
    rw [← r1, h1, List.append_nil]; exact eG
  refine ⟨_, rfl, o, wl, dx, ws, j, rfl, WG, fun e => ?_, fun u r e => ?_⟩
  · wtm_at "s"
    refine ⟨_, rfl, [], rfl, by simp, ?_⟩
    rw [numOf_nil, show optV none = V.non from rfl]
    wtm_at "s"
    exact stop (by rw [e]; rfl) (by rw [e]; rfl)
  · obtain ⟨h1, h2, h3⟩ := drop_at e
    have ul := WG.wlen u (List.mem_of_getElem? h1)
    wtm_at "s"
    refine ⟨_, rfl, u, rfl, by omega, ?_⟩
    cases en : numOf u with
    | none =>
      rw [show optV none = V.non from rfl]
      wtm_at "s"
      exact stop (by rw [e, runN_stop en]) (by rw [e, runN_stop en])
    | some k =>
      rw [show optV (some k) = V.int k from rfl]
      wtm_at "s"
      refine ⟨fun σ' H' => σ' = [some (.ref o), some (.ref p)] ∧ Same (hid [o] H) (hid [o] H') ∧ WoAt A H' o wl dx ws (j + 1) ∧ H' p = some (.lst ((acc ++ [k]).map V.int)), fun σ' H' z => ⟨m - 1, by omega, z.1, z.2.1, j + 1, acc ++ [k], z.2.2.1, z.2.2.2, by simp; omega, ?_, ?_, by omega⟩, ?_⟩
      · rw [e, runN_cons en] at r1
        rw [h2, List.append_assoc]; exact r1
      · rw [e, runN_cons en] at r2
        rw [h2]; exact r2
      wtm_at "s"
      refine k_tyL (sl eG) ?_
      wtm_at "s"
      refine k_mF WG.ins rfl ?_
      wtm_at "s"
      have nk : numR (ws.drop j) = some (k, r) := by rw [e, numR, en]
      refine ⟨_, rfl, o, wl, dx, ws, j, rfl, WG, ⟨(fun z => by rw [nk] at z; cases z), fun k' r' ek v H' i' sH WH dH gv => ?_⟩⟩
      subst gv
      rw [nk] at ek
      cases ek
      have ei : i' = j + 1 := by
        have l1 : (ws.drop i').length = (ws.drop (j + 1)).length := by rw [dH, h2]
        rw [List.length_drop, List.length_drop] at l1
        have := WH.ile
        omega
      subst ei
      have eH := keeps sH eG po
      wtm_at "s"
      refine k_append eH (by simp; omega) ?_
      have lw : wl ≠ p := fun z => by
        have := W.lst
        rw [z, np] at this
        cases this
      refine ⟨rfl, same_hid_mut (sG.trans sH) fr, ⟨by rw [upd_ne (fun z => po (by rw [z]; simp))]; exact WH.ins, by rw [upd_ne lw]; exact WH.lst, WH.ne, WH.len, WH.wlen, WH.ile⟩, ?_⟩
      rw [upd_same, List.map_append]; rfl
abbrev sp_Words_numbers (K : PySem.W.Frag) (A : Ad) : Sp := fun vs H Q E => ∃ v0, vs = [v0] ∧ pr_Words_numbers K A v0 H Q E
theorem ok_Words_numbers (T : Txt K mg A) : FnOk P w K mg base (L2.CX P w) 5 A.a_Words_numbers A.d_Words_numbers ["self"] (sp_Words_numbers K A) := by
  refine T.F_Words_numbers.okX sc_Words_numbers (fun vs H Q E h => by obtain ⟨v0, rfl, _⟩ := h; rfl) (fun cdv A0 outer s H vs Q E hr h => ?_)
  obtain ⟨v0, rfl, h⟩ := h
  exact ⟨t_Words_numbers K A E, (pss_cons (ps_set (i := 1) sc_Words_numbers.nd rfl (Or.inl rfl) (pe_lst pa_nil))
      (pss_cons (ps_while (passes_of rfl) (pt_cmpR op_notN (pe_call (ok_number_of T) (hr.mono (by decide)) (by rfl) T.g_number_of T.F_number_of.kp T.b_number_of .nil pass0 (pa_cons (pe_meth0 (pv 0) T.K_Words T.Me_Words_look (ok_Words_look T) (hr.mono (by decide)) T.b_Words_look .nil pass0 ) pa_nil)) pe_non (nomark _))
      (pss_one (ps_expr (pe_bm PySem.F.plainAttrs_list PySem.F.slot_list_append PySem.F.type_list_append mt_append (pv 1) (pa_cons (pe_meth0 (E := E) (pv 0) T.K_Words T.Me_Words_number (ok_Words_number T) (hr.mono (by decide)) T.b_Words_number .nil (passes_call (takes_of rfl rfl rfl rfl) (fun _ _ _ _ h => h)) ) pa_nil)))))
      (pss_one (ps_ret (pv 1))))), pure_Words_numbers T h⟩


def lrC (r : List Wd) : Rd Th := some (.lf, r)
def lrT (r : List Wd) : Rd Th := match numR r with
  | none => none
  | some (a, r1) => match numR r1 with
    | none => none
    | some (b, r2) => some (.ties a b, r2)
theorem numR_some {a : Wd} {r : List Wd} {k : Int} (h : numOf a = some k) : numR (a :: r) = some (k, r) := by rw [numR, h]
theorem numR_none {a : Wd} {r : List Wd} (h : numOf a = none) : numR (a :: r) = none := by rw [numR, h]
theorem lfT_eq (r : List Wd) : lfT (wEq :: r) = lrT r := by
  match r with
  | [] => rfl
  | [a] =>
    unfold lrT
    cases h : numOf a with
    | none => rw [numR_none h]; rfl
    | some k => rw [numR_some h]; rfl
  | a :: b :: r =>
    have e : ∀ {w : Wd}, w = wEq → lfT (w :: a :: b :: r) = (match numOf a, numOf b with | some x, some y => some (Th.ties x y, r) | _, _ => none) := fun c => if_pos c
    have e := e (w := wEq) (by rfl)
    rw [e]
    unfold lrT
    cases h : numOf a with
    | none => rw [numR_none h]
    | some k =>
      rw [numR_some h]
      cases h2 : numOf b with
      | none => simp only [numR_none h2]
      | some y => simp only [numR_some h2]
theorem free_back' {H G : Hp} {a p : Addr} {x : HO} (S : Same (hid [a] H) (hid [a] G)) (ea : G a = some x) (n : G p = none) : H p = none := by
  have pa : p ∉ [a] := by
    intro z
    rw [List.mem_singleton.mp z, ea] at n
    cases n
  have := S.free (show hid [a] G p = none by rw [hid_ne pa]; exact n)
  rwa [hid_ne pa] at this
inductive LfW : Wd → (List Wd → Rd Th) → (List Wd → Rd Th) → Prop
  | dot : LfW wDot lrC lfC
  | eq : LfW wEq lrT lfT
theorem LfW.lf {w : Wd} {lr lf : List Wd → Rd Th} (h : LfW w lr lf) : Lf lf := by
  cases h with
  | dot => exact lf_c
  | eq => exact lf_t
theorem LfW.at {w : Wd} {lr lf : List Wd → Rd Th} (h : LfW w lr lf) (r : List Wd) : lf (w :: r) = lr r := by
  cases h with
  | dot => rfl
  | eq => exact lfT_eq r
theorem LfW.no {w u : Wd} {lr lf : List Wd → Rd Th} (h : LfW w lr lf) (c : u ≠ w) (r : List Wd) : lf (u :: r) = none := by
  cases h with
  | dot => exact if_neg c
  | eq => exact lfT_ne c
theorem LfW.nil {w : Wd} {lr lf : List Wd → Rd Th} (h : LfW w lr lf) : lf [] = none := by cases h <;> rfl
theorem LfW.ne {w : Wd} {lr lf : List Wd → Rd Th} (h : LfW w lr lf) : w ≠ [] ∧ w ≠ wOp ∧ w ≠ wCl := by cases h <;> decide
def LfG (K : PySem.W.Frag) (H : Hp) (t : Th) (v : V) (H' : Hp) : Prop := ∀ S : List Addr, (∀ x ∈ S, H x ≠ none) → Dp K (hid S H') v (dG t)
def pr_Words_leaf_of (K : PySem.W.Frag) (A : Ad) (v0 v1 : V) (H : Hp) (Q : VK) (E : XK) : Prop := ∃ o wl dx ws i w lr lf, v0 = .ref o ∧ v1 = .str (mkS w) ∧ LfW w lr lf ∧ WoAt A H o wl dx ws i ∧ Rdr A o wl dx ws H Q E (lr (ws.drop i)) (LfG K H)
def t_Words_leaf_of (K : PySem.W.Frag) (A : Ad) (E : XK) : TS :=
  (tSeq (tIfS (tTest (tOp rEq (tVar 1) (tC (.str (Str.ofString "."))))) (tRet (tTup tNil)) tNext)
    (tRet (tTup (tCons (tC (.str (Str.ofString "ties"))) (tCons (tMeth A.c_Words "number" (sp_Words_number K A) [] E (tVar 0) tNil) (tCons (tMeth A.c_Words "number" (sp_Words_number K A) [] E (tVar 0) tNil) tNil))))))
theorem pure_Words_leaf_of (T : Txt K mg A) {v0 v1 : V} {H : Hp} {Q : VK} {E : XK} (h : pr_Words_leaf_of K A v0 v1 H Q E) : t_Words_leaf_of K A E ⟨fun _ H' => Q .non H', Q, fun _ _ => False, fun _ _ => False⟩ [some v0, some v1] H := by
  obtain ⟨o, wl, dx, ws, i, w, lr, lf, rfl, rfl, L, W, R⟩ := h
  have sgd : Str.ofString "." = mkS wDot := by rw [← mkS_sg (Str.ofString "."), sg_str]; rfl
  unfold t_Words_leaf_of
  wtm_at "s"
  refine k_eqS ?_
  cases L with
  | dot =>
    rw [sgd, decide_eq_true rfl]
    wtm_at "s"
    refine kT (by simp) (fun p H1 np s1 e1 => ?_)
    refine R.yes .lf _ rfl _ H1 i (hid_mono s1) (W.same s1) rfl fun S hS => ?_
    exact .tup (stp (by rw [hid_ne (fun z => hS p z np)]; exact e1)) .nil
  | eq =>
    rw [sgd, decide_eq_false (show ¬ mkS wEq = mkS wDot from fun z => absurd (show wEq = wDot by rw [← sg_mkS wEq, z, sg_mkS]) (by decide))]
    wtm_at "s"
    refine k_mF W.ins rfl ?_
    wtm_at "s"
    refine ⟨_, rfl, o, wl, dx, ws, i, rfl, W, ⟨fun z => R.no (by unfold lrT; rw [z]), fun a r ea v H1 i1 s1 W1 d1 gv => ?_⟩⟩
    subst gv
    wtm_at "s"
    refine k_mF W1.ins rfl ?_
    wtm_at "s"
    refine ⟨_, rfl, o, wl, dx, ws, i1, rfl, W1, ⟨fun z => (R.no (by unfold lrT; rw [ea]; simp only; rw [← d1, z])).step s1 W1.ins, fun b r2 eb v H2 i2 s2 W2 d2 gv => ?_⟩⟩
    subst gv
    wtm_at "s"
    refine kT (by simp) (fun p H3 np s3 e3 => ?_)
    refine R.yes (.ties a b) r2 (by unfold lrT; rw [ea]; simp only; rw [← d1, eb]) _ H3 i2 (s1.trans (s2.trans (hid_mono s3))) (W2.same s3) d2 fun S hS => ?_
    have np0 : H p = none := free_back' (s1.trans s2) W2.ins np
    refine .tup (stp (by rw [hid_ne (fun z => hS p z np0)]; exact e3)) (.cons (.str _) (.cons (.int _) (.cons (.int _) .nil)))
abbrev sp_Words_leaf_of (K : PySem.W.Frag) (A : Ad) : Sp := fun vs H Q E => ∃ v0 v1, vs = [v0, v1] ∧ pr_Words_leaf_of K A v0 v1 H Q E
theorem ok_Words_leaf_of (T : Txt K mg A) : FnOk P w K mg base (L2.CX P w) 5 A.a_Words_leaf_of A.d_Words_leaf_of ["self", "leaf"] (sp_Words_leaf_of K A) := by
  refine T.F_Words_leaf_of.okX sc_Words_leaf_of (fun vs H Q E h => by obtain ⟨v0, v1, rfl, _⟩ := h; rfl) (fun cdv A0 outer s H vs Q E hr h => ?_)
  obtain ⟨v0, v1, rfl, h⟩ := h
  exact ⟨t_Words_leaf_of K A E, (pss_cons (ps_if (pt_cmpR op_eq (pv 1) pe_str (nomark _)) (pss_one (ps_ret (pe_tup pa_nil))) pss_nil)
      (pss_one (ps_ret (pe_tup (pa_cons pe_str (pa_cons (pe_meth0 (E := E) (pv 0) T.K_Words T.Me_Words_number (ok_Words_number T) (hr.mono (by decide)) T.b_Words_number .nil (passes_call (takes_of rfl rfl rfl rfl) (fun _ _ _ _ h => h)) ) (pa_cons (pe_meth0 (E := E) (pv 0) T.K_Words T.Me_Words_number (ok_Words_number T) (hr.mono (by decide)) T.b_Words_number .nil (passes_call (takes_of rfl rfl rfl rfl) (fun _ _ _ _ h => h)) ) pa_nil))))))), pure_Words_leaf_of T h⟩


/-! ### the open brackets in the heap -/
inductive FrAt (K : PySem.W.Frag) (S : List Addr) (G : Hp) : List Addr → List (Int × List Th) → Prop
  | nil : FrAt K S G [] []
  | cons {a : Addr} {n : Int} {xs : List V} {cs : List Th} {fa : List Addr} {fr : List (Int × List Th)} : G a = some (.lst (.int n :: xs)) → DpAll K (hid S G) xs (cs.map dG) → FrAt K S G fa fr → FrAt K S G (a :: fa) ((n, cs) :: fr)
theorem FrAt.len {K : PySem.W.Frag} {S : List Addr} {G : Hp} : ∀ {fa : List Addr} {fr : List (Int × List Th)}, FrAt K S G fa fr → fa.length = fr.length
  | _, _, .nil => rfl
  | _, _, .cons _ _ h => by rw [List.length_cons, List.length_cons, h.len]
theorem FrAt.move {K : PySem.W.Frag} {S S' : List Addr} {G G' : Hp} (s : Same (hid S G) (hid S' G')) : ∀ {fa : List Addr} {fr : List (Int × List Th)}, FrAt K S G fa fr → (∀ a ∈ fa, ∀ o, G a = some o → G' a = some o) → FrAt K S' G' fa fr
  | _, _, .nil, _ => .nil
  | _, _, .cons h1 h2 h3, k => .cons (k _ List.mem_cons_self _ h1) (dpa_same s h2) (FrAt.move s h3 fun a ha => k a (List.mem_cons_of_mem _ ha))
/-- what the brackets are hidden by -/
abbrev opS (o p b : Addr) (fa : List Addr) : List Addr := o :: p :: b :: fa
structure Run (K : PySem.W.Frag) (A : Ad) (H0 G : Hp) (o wl dx : Addr) (ws : List Wd) (p b : Addr) (fa : List Addr) (fr : List (Int × List Th)) (j : Nat) : Prop where
  s0 : Same (hid [o] H0) (hid [o] G)
  W : WoAt A G o wl dx ws j
  st : G p = some (.lst (V.ref b :: fa.reverse.map V.ref))
  bt : G b = some (.lst [])
  frm : FrAt K (opS o p b fa) G fa fr
  nd : (opS o p b fa).Nodup
  nw : ∀ x ∈ p :: b :: fa, H0 x = none
  wn : wl ∉ p :: b :: fa
  cl : ∀ q ∈ fr, q.2.length ≤ j
/-- the brackets are closed: one thing is left -/
structure Fin1 (K : PySem.W.Frag) (A : Ad) (H0 G : Hp) (o wl dx : Addr) (ws : List Wd) (p b : Addr) (t : Th) (j : Nat) : Prop where
  s0 : Same (hid [o] H0) (hid [o] G)
  W : WoAt A G o wl dx ws j
  st : G p = some (.lst [V.ref b])
  bt : ∃ v, G b = some (.lst [v]) ∧ Dp K (hid [o, p, b] G) v (dG t)
theorem atI_end {α : Type} {xs : List α} {y : α} : atI (xs ++ [y]) (-1) = some y := by
  have e : ixN (xs.length + 1) (-1) = some xs.length := by
    unfold ixN
    rw [if_neg (by decide), if_pos (by omega)]
    congr 1; omega
  unfold atI
  simp [e]
theorem mem_pb {p b a x : Addr} {fa : List Addr} (h : x ∈ p :: b :: a :: fa) : x = a ∨ x ∈ p :: b :: fa := by
  simp only [List.mem_cons] at h ⊢
  rcases h with h | h | h | h <;> simp [h]
theorem mem_opS {o p b a x : Addr} {fa : List Addr} (h : x ∈ opS o p b (a :: fa)) : x = a ∨ x ∈ opS o p b fa := by
  simp only [opS, List.mem_cons] at h ⊢
  rcases h with h | h | h | h | h <;> simp [h]
section
variable {K : PySem.W.Frag} {A : Ad} {H0 G G' : Hp} {o wl dx p b : Addr} {ws : List Wd} {fa : List Addr} {fr : List (Int × List Th)} {j j' : Nat}
theorem Run.alive (R : Run K A H0 G o wl dx ws p b fa fr j) : ∀ x ∈ p :: b :: fa, ∃ u, G x = some u := by
  intro x hx
  rcases List.mem_cons.mp hx with rfl | hx
  · exact ⟨_, R.st⟩
  rcases List.mem_cons.mp hx with rfl | hx
  · exact ⟨_, R.bt⟩
  have : ∀ {fa : List Addr} {fr : List (Int × List Th)} {S : List Addr}, FrAt K S G fa fr → x ∈ fa → ∃ u, G x = some u := by
    intro fa fr S h
    induction h with
    | nil => intro z; cases z
    | cons h1 h2 h3 ih =>
      intro z
      rcases List.mem_cons.mp z with rfl | z
      · exact ⟨_, h1⟩
      · exact ih z
  exact this R.frm hx
theorem Run.no (R : Run K A H0 G o wl dx ws p b fa fr j) : ∀ x ∈ p :: b :: fa, x ∉ [o] := fun x hx z => by
  rw [List.mem_singleton.mp z] at hx
  exact (List.nodup_cons.mp R.nd).1 hx
theorem Run.step (R : Run K A H0 G o wl dx ws p b fa fr j) (s : Same (hid [o] G) (hid [o] G')) (W : WoAt A G' o wl dx ws j') (hj : j ≤ j') : Run K A H0 G' o wl dx ws p b fa fr j' := by
  have k : ∀ x ∈ p :: b :: fa, ∀ u, G x = some u → G' x = some u := fun x hx u e => keeps s e (R.no x hx)
  exact ⟨R.s0.trans s, W, k _ (by simp) _ R.st, k _ (by simp) _ R.bt, R.frm.move (hid_more s (by simp)) (fun a ha => k a (by simp [ha])), R.nd, R.nw, R.wn, fun q hq => Nat.le_trans (R.cl q hq) hj⟩
theorem Run.same (R : Run K A H0 G o wl dx ws p b fa fr j) (s : Same G G') : Run K A H0 G' o wl dx ws p b fa fr j := R.step (hid_mono s) (R.W.same s) (Nat.le_refl _)
/-- a bracket is opened -/
theorem Run.push (R : Run K A H0 G o wl dx ws p b fa fr j) {a : Addr} {k : Int} (na : G a = none) (s : Same G G') (ea : G' a = some (.lst [.int k])) : Run K A H0 (upd G' p (.lst (V.ref b :: fa.reverse.map V.ref ++ [.ref a]))) o wl dx ws p b (a :: fa) ((k, []) :: fr) j := by
  have R' := R.same s
  have an : a ∉ opS o p b fa := fun z => by
    rcases List.mem_cons.mp z with rfl | z
    · rw [R.W.ins] at na; cases na
    · obtain ⟨u, hu⟩ := R.alive a z
      rw [hu] at na; cases na
  have pa : a ≠ p := fun z => an (by rw [z]; simp)
  have pb : p ≠ b := fun z => by have := R.nd; simp only [opS, List.nodup_cons] at this; exact this.2.1 (by rw [z]; simp)
  have pf : p ∉ fa := fun z => by have := R.nd; simp only [opS, List.nodup_cons] at this; exact this.2.1 (by simp [z])
  have po : p ≠ o := fun z => R.no p (by simp) (by simp [z])
  have fp : hid [o] H0 p = none := by rw [hid_ne (by simpa using po)]; exact R.nw p (by simp)
  have na0 : H0 a = none := free_back' R.s0 R.W.ins na
  have wp : wl ≠ p := fun z => R.wn (by simp [z])
  have wa : wl ≠ a := fun z => by have := R.W.lst; rw [z, na] at this; cases this
  refine ⟨same_hid_mut R'.s0 fp, ⟨by rw [upd_ne (Ne.symm po)]; exact R'.W.ins, by rw [upd_ne wp]; exact R'.W.lst, R.W.ne, R.W.len, R.W.wlen, R.W.ile⟩, ?_, by rw [upd_ne (Ne.symm pb)]; exact R'.bt, ?_, ?_, ?_, ?_, ?_⟩
  · rw [upd_same, List.reverse_cons, List.map_append]; rfl
  · refine .cons (by rw [upd_ne pa]; exact ea) .nil (R.frm.move (G' := upd G' p _) ?_ fun x hx u e => ?_)
    · intro x u hx
      have h1 : x ∉ opS o p b fa := fun z => by unfold hid at hx; rw [if_pos z] at hx; cases hx
      rw [hid_ne h1] at hx
      have xa : x ≠ a := fun z => by rw [z, na] at hx; cases hx
      rw [hid_ne (fun z => by
        exact (mem_opS z).elim xa h1), upd_ne (fun z => h1 (by simp [z]))]
      exact s _ _ hx
    · rw [upd_ne (fun z => pf (by rw [← z]; exact hx))]
      exact s _ _ e
  · have nd := R.nd
    simp only [opS, List.nodup_cons, List.mem_cons, not_or] at nd an ⊢
    obtain ⟨⟨a1, a2, a3, a4⟩⟩ := And.intro an trivial
    obtain ⟨⟨b1, b2, b3⟩, ⟨b4, b5⟩, b6, b7⟩ := nd
    exact ⟨⟨b1, b2, Ne.symm a1, b3⟩, ⟨b4, Ne.symm a2, b5⟩, ⟨Ne.symm a3, b6⟩, a4, b7⟩
  · intro x hx
    rcases mem_pb hx with rfl | h
    · exact na0
    · exact R.nw x h
  · intro z
    exact (mem_pb z).elim wa R.wn
  · intro q hq
    rcases List.mem_cons.mp hq with rfl | hq
    · exact Nat.zero_le _
    · exact R.cl q hq
end
section
variable {K : PySem.W.Frag} {A : Ad} {H0 G G' : Hp} {o wl dx p b : Addr} {ws : List Wd} {fa : List Addr} {fr : List (Int × List Th)} {j j' : Nat}
/-- a whole thing at the ground -/
theorem Run.ground (R : Run K A H0 G o wl dx ws p b [] [] j) {v : V} {t : Th} (d : Dp K (hid (opS o p b []) G) v (dG t)) : Fin1 K A H0 (upd G b (.lst ([] ++ [v]))) o wl dx ws p b t j := by
  have nd := R.nd
  simp only [opS, List.nodup_cons, List.mem_cons, not_or] at nd
  have bo : b ≠ o := fun z => nd.1.2.1 z.symm
  have bp : b ≠ p := fun z => nd.2.1.1 z.symm
  have bw : wl ≠ b := fun z => R.wn (by simp [z])
  have fb : hid [o] H0 b = none := by rw [hid_ne (by simpa using bo)]; exact R.nw b (by simp)
  refine ⟨same_hid_mut R.s0 fb, ⟨by rw [upd_ne (Ne.symm bo)]; exact R.W.ins, by rw [upd_ne bw]; exact R.W.lst, R.W.ne, R.W.len, R.W.wlen, R.W.ile⟩, by rw [upd_ne (Ne.symm bp)]; exact R.st, v, upd_same, ?_⟩
  rw [hid_upd (by simp)]
  exact d
/-- a whole thing in the bracket that was opened last -/
theorem Run.into {a : Addr} {n : Int} {cs : List Th} (R : Run K A H0 G o wl dx ws p b (a :: fa) ((n, cs) :: fr) j) {v : V} {t : Th} (d : Dp K (hid (opS o p b (a :: fa)) G) v (dG t)) (hj : cs.length + 1 ≤ j) :
    ∃ xs, G a = some (.lst xs) ∧ xs.length = cs.length + 1 ∧ Run K A H0 (upd G a (.lst (xs ++ [v]))) o wl dx ws p b (a :: fa) ((n, cs ++ [t]) :: fr) j := by
  obtain ⟨xs, ea, hx, fm⟩ : ∃ xs, G a = some (.lst (.int n :: xs)) ∧ DpAll K (hid (opS o p b (a :: fa)) G) xs (cs.map dG) ∧ FrAt K (opS o p b (a :: fa)) G fa fr := by
    cases R.frm with
    | cons h1 h2 h3 => exact ⟨_, h1, h2, h3⟩
  have lx := dpa_len hx
  rw [List.length_map] at lx
  have nd := R.nd
  simp only [opS, List.nodup_cons, List.mem_cons, not_or] at nd
  obtain ⟨⟨o1, o2, o3, o4⟩, ⟨p1, p2, p3⟩, ⟨b1, b2⟩, a1, fn⟩ := nd
  have aw : wl ≠ a := fun z => R.wn (by simp [z])
  have fa0 : hid [o] H0 a = none := by rw [hid_ne (by simpa using Ne.symm o3)]; exact R.nw a (by simp)
  refine ⟨.int n :: xs, ea, by simp [lx], same_hid_mut R.s0 fa0, ⟨by rw [upd_ne o3]; exact R.W.ins, by rw [upd_ne aw]; exact R.W.lst, R.W.ne, R.W.len, R.W.wlen, R.W.ile⟩, by rw [upd_ne p2]; exact R.st, by rw [upd_ne b1]; exact R.bt, ?_, R.nd, R.nw, R.wn, fun q hq => ?_⟩
  · have hh : hid (opS o p b (a :: fa)) (upd G a (.lst (.int n :: xs ++ [v]))) = hid (opS o p b (a :: fa)) G := hid_upd (by simp)
    refine .cons (xs := xs ++ [v]) upd_same ?_ (fm.move (by rw [hh]; exact Same.refl _) fun x hx u e => ?_)
    · rw [hh, List.map_append]
      exact dpa_app hx (.cons d .nil)
    · rw [upd_ne (fun z => a1 (by rw [← z]; exact hx))]
      exact e
  · rcases List.mem_cons.mp hq with rfl | hq
    · show (cs ++ [t]).length ≤ j
      rw [List.length_append]; exact hj
    · exact R.cl q (List.mem_cons_of_mem _ hq)
/-- the bracket that was opened last is closed -/
theorem Run.pop {a : Addr} {n : Int} {cs : List Th} (R : Run K A H0 G o wl dx ws p b (a :: fa) ((n, cs) :: fr) j) :
    Run K A H0 (upd G p (.lst (V.ref b :: fa.reverse.map V.ref))) o wl dx ws p b fa fr j ∧ Dp K (hid (opS o p b fa) (upd G p (.lst (V.ref b :: fa.reverse.map V.ref)))) (.ref a) (dG (.node n cs)) := by
  obtain ⟨xs, ea, hx, fm⟩ : ∃ xs, G a = some (.lst (.int n :: xs)) ∧ DpAll K (hid (opS o p b (a :: fa)) G) xs (cs.map dG) ∧ FrAt K (opS o p b (a :: fa)) G fa fr := by
    cases R.frm with
    | cons h1 h2 h3 => exact ⟨_, h1, h2, h3⟩
  have nd := R.nd
  simp only [opS, List.nodup_cons, List.mem_cons, not_or] at nd
  obtain ⟨⟨o1, o2, o3, o4⟩, ⟨p1, p2, p3⟩, ⟨b1, b2⟩, a1, fn⟩ := nd
  have wp : wl ≠ p := fun z => R.wn (by simp [z])
  have fp : hid [o] H0 p = none := by rw [hid_ne (by simpa using Ne.symm o1)]; exact R.nw p (by simp)
  have sub : ∀ x ∈ opS o p b fa, x ∈ opS o p b (a :: fa) := fun x hx => by
    simp only [opS, List.mem_cons] at hx ⊢
    rcases hx with h | h | h | h <;> simp [h]
  have hs : Same (hid (opS o p b (a :: fa)) G) (hid (opS o p b fa) (upd G p (.lst (V.ref b :: fa.reverse.map V.ref)))) := by
    rw [hid_upd (by simp)]
    exact hid_sub sub
  refine ⟨⟨same_hid_mut R.s0 fp, ⟨by rw [upd_ne o1]; exact R.W.ins, by rw [upd_ne wp]; exact R.W.lst, R.W.ne, R.W.len, R.W.wlen, R.W.ile⟩, upd_same, by rw [upd_ne (Ne.symm p1)]; exact R.bt, fm.move hs fun x hx u e => ?_, ?_, fun x hx => R.nw x ?_, fun z => R.wn ?_, fun q hq => R.cl q (List.mem_cons_of_mem _ hq)⟩, ?_⟩
  · rw [upd_ne (fun z => p3 (by rw [← z]; exact hx))]
    exact e
  · simp only [opS, List.nodup_cons, List.mem_cons, not_or]
    exact ⟨⟨o1, o2, o4⟩, ⟨p1, p3⟩, b2, fn⟩
  · simp only [List.mem_cons] at hx ⊢
    rcases hx with h | h | h <;> simp [h]
  · simp only [List.mem_cons] at z ⊢
    rcases z with h | h | h <;> simp [h]
  · rw [dG_node]
    refine .lst (sl ?_) (.cons (.int n) (dpa_same hs hx))
    rw [hid_ne (fun z => by
      simp only [opS, List.mem_cons] at z
      rcases z with h | h | h | h
      · exact o3 h.symm
      · exact p2 h.symm
      · exact b1 h.symm
      · exact a1 h), upd_ne (Ne.symm p2)]
    exact ea
end
theorem k_popE {H : Hp} {Q : VK} {p : Addr} {xs : List V} {y : V} (e : H p = some (.lst (xs ++ [y]))) (h : Q y (upd H p (.lst xs))) : rPop (.ref p) [] H Q := by
  refine ⟨p, xs ++ [y], y, rfl, rfl, e, ?_, ?_⟩
  · simp
  · rw [List.dropLast_concat]; exact h


mutual
theorem sh_dG : ∀ (t : Th) (n : Nat), thD t ≤ n → Sh (n + 1) (dG t)
  | .lf, n, _ => sh_tup fun x hx => nomatch hx
  | .ties a b, n, _ => sh_tup fun x hx => by
    simp only [List.mem_cons, List.not_mem_nil, or_false] at hx
    rcases hx with rfl | rfl | rfl
    · exact ⟨by show PyData.strOk (Str.ofString "ties") = true; decide +kernel, Nat.zero_le _⟩
    · exact sh_int
    · exact sh_int
  | .node k cs, n, h => by
    have h : thDA cs + 1 ≤ n := h
    obtain ⟨n, rfl⟩ : ∃ n', n = n' + 1 := ⟨n - 1, by omega⟩
    show Sh (n + 1 + 1) (.list (.int k :: dGA cs))
    refine sh_list fun x hx => ?_
    rcases List.mem_cons.mp hx with rfl | hx
    · exact sh_int
    · exact sh_dGA cs n (by omega) x hx
theorem sh_dGA : ∀ (cs : List Th) (n : Nat), thDA cs ≤ n → ∀ x ∈ dGA cs, Sh (n + 1) x
  | [], _, _, x, hx => nomatch hx
  | c :: cs, n, h, x, hx => by
    have h : max (thD c) (thDA cs) ≤ n := h
    rcases List.mem_cons.mp hx with rfl | hx
    · exact sh_dG c n (by omega)
    · exact sh_dGA cs n (by omega) x hx
end
def pr_Words_opened (K : PySem.W.Frag) (A : Ad) (v0 v1 : V) (H : Hp) (Q : VK) (E : XK) : Prop := ∃ o wl dx ws i w lr lf, v0 = .ref o ∧ v1 = .str (mkS w) ∧ LfW w lr lf ∧ WoAt A H o wl dx ws i ∧ Rdr A o wl dx ws H Q E (rdG lf 40 (ws.drop i)) (fun t v H' => Dp K (hid [o] H') v (dG t))
def t_Words_opened (K : PySem.W.Frag) (A : Ad) (E : XK) : TS :=
  (tSeq (tAsg (tLst (tCons (tLst tNil) tNil)) (gName 2))
    (tSeq (tWhile (tOr (tTest (tOp xGt (tCB (rLenX K) (tCons (tVar 2) tNil)) (tC (.int 1)))) (tTest (tOp (rEqD K) (tOp (rIxL K) (tVar 2) (tC (.int 0))) (tLst tNil))))
      (tSeq (tAsg (tMeth A.c_Words "look" (sp_Words_look K A) [] E0 (tVar 0) tNil) (gName 3))
    (tIfS (tTest (tOp rEq (tVar 3) (tC (.str (Str.ofString "("))))) (tSeq (tDrop (tMeth A.c_Words "must" (sp_Words_must K A) [] E (tVar 0) (tCons (tOp xLe (tCB (rLenX K) (tCons (tVar 2) tNil)) (tC (.int 40))) tNil)))
    (tSeq (sFldAug K (tVar 0) (tC (.int 1)) L2.rAdd "at")
    (tDrop (tBM K "list" rAppend (tVar 2) (tCons (tLst (tCons (tMeth A.c_Words "number" (sp_Words_number K A) [] E (tVar 0) tNil) tNil)) tNil))))) (tIfS (tAnd (tTest (tOp rEq (tVar 3) (tC (.str (Str.ofString ")"))))) (tTest (tOp xGt (tCB (rLenX K) (tCons (tVar 2) tNil)) (tC (.int 1))))) (tSeq (sFldAug K (tVar 0) (tC (.int 1)) L2.rAdd "at")
    (tSeq (tAsg (tBM0 K "list" rPop (tVar 2)) (gName 4))
    (tDrop (tBM K "list" rAppend (tOp (rIxL K) (tVar 2) (tUn xNeg (tC (.int 1)))) (tCons (tVar 4) tNil))))) (tSeq (tDrop (tMeth A.c_Words "take" (sp_Words_take K A) [] E (tVar 0) (tCons (tVar 1) tNil)))
    (tDrop (tBM K "list" rAppend (tOp (rIxL K) (tVar 2) (tUn xNeg (tC (.int 1)))) (tCons (tMeth A.c_Words "leaf_of" (sp_Words_leaf_of K A) [] E (tVar 0) (tCons (tVar 1) tNil)) tNil))))))))
    (tRet (tOp (rIxL K) (tOp (rIxL K) (tVar 2) (tC (.int 0))) (tC (.int 0))))))
def opB (K : PySem.W.Frag) (A : Ad) (E : XK) : TS :=
  (tSeq (tAsg (tMeth A.c_Words "look" (sp_Words_look K A) [] E0 (tVar 0) tNil) (gName 3))
    (tIfS (tTest (tOp rEq (tVar 3) (tC (.str (Str.ofString "("))))) (tSeq (tDrop (tMeth A.c_Words "must" (sp_Words_must K A) [] E (tVar 0) (tCons (tOp xLe (tCB (rLenX K) (tCons (tVar 2) tNil)) (tC (.int 40))) tNil)))
    (tSeq (sFldAug K (tVar 0) (tC (.int 1)) L2.rAdd "at")
    (tDrop (tBM K "list" rAppend (tVar 2) (tCons (tLst (tCons (tMeth A.c_Words "number" (sp_Words_number K A) [] E (tVar 0) tNil) tNil)) tNil))))) (tIfS (tAnd (tTest (tOp rEq (tVar 3) (tC (.str (Str.ofString ")"))))) (tTest (tOp xGt (tCB (rLenX K) (tCons (tVar 2) tNil)) (tC (.int 1))))) (tSeq (sFldAug K (tVar 0) (tC (.int 1)) L2.rAdd "at")
    (tSeq (tAsg (tBM0 K "list" rPop (tVar 2)) (gName 4))
    (tDrop (tBM K "list" rAppend (tOp (rIxL K) (tVar 2) (tUn xNeg (tC (.int 1)))) (tCons (tVar 4) tNil))))) (tSeq (tDrop (tMeth A.c_Words "take" (sp_Words_take K A) [] E (tVar 0) (tCons (tVar 1) tNil)))
    (tDrop (tBM K "list" rAppend (tOp (rIxL K) (tVar 2) (tUn xNeg (tC (.int 1)))) (tCons (tMeth A.c_Words "leaf_of" (sp_Words_leaf_of K A) [] E (tVar 0) (tCons (tVar 1) tNil)) tNil)))))))
def opL (K : PySem.W.Frag) (A : Ad) (E : XK) : TS :=
  (tSeq (tDrop (tMeth A.c_Words "take" (sp_Words_take K A) [] E (tVar 0) (tCons (tVar 1) tNil)))
    (tDrop (tBM K "list" rAppend (tOp (rIxL K) (tVar 2) (tUn xNeg (tC (.int 1)))) (tCons (tMeth A.c_Words "leaf_of" (sp_Words_leaf_of K A) [] E (tVar 0) (tCons (tVar 1) tNil)) tNil))))
theorem sg_op : Str.ofString "(" = mkS wOp := by rw [← mkS_sg (Str.ofString "("), sg_str]; rfl
theorem sg_cl : Str.ofString ")" = mkS wCl := by rw [← mkS_sg (Str.ofString ")"), sg_str]; rfl
theorem dec_mk {u w : Wd} : decide (mkS u = mkS w) = decide (u = w) := decide_eq_decide.mpr ⟨fun z => by rw [← sg_mkS u, z, sg_mkS], fun z => by rw [z]⟩
theorem rev_last {b a : Addr} {fa : List Addr} : V.ref b :: (a :: fa).reverse.map V.ref = (V.ref b :: fa.reverse.map V.ref) ++ [V.ref a] := by
  rw [List.reverse_cons, List.map_append]; rfl
theorem op_leaf (T : Txt K mg A) {o wl dx p b : Addr} {ws : List Wd} {w : Wd} {lr lf : List Wd → Rd Th} {H G : Hp} {E : XK} {fa : List Addr} {fr : List (Int × List Th)} {j : Nat} {wv hv : Option V} {X : Rd Th} {N bk : L2.St → Hp → Prop} {rt : VK} (L : LfW w lr lf)
    (RG : Run K A H G o wl dx ws p b fa fr j) (hX : finK lf fr (ws.drop j) = X) (no : X = none → RaiseW A o H E)
    (hN : ∀ wv hv G' fa' fr' j', j < j' → Run K A H G' o wl dx ws p b fa' fr' j' → finK lf fr' (ws.drop j') = X → N [some (.ref o), some (.str (mkS w)), some (.ref p), wv, hv] G')
    (hD : ∀ wv hv G' t j', Fin1 K A H G' o wl dx ws p b t j' → X = some (t, ws.drop j') → N [some (.ref o), some (.str (mkS w)), some (.ref p), wv, hv] G')
    {u : Wd} {r : List Wd} (e : ws.drop j = u :: r) (c1 : u ≠ wOp) (c2 : u ≠ wCl ∨ fr = []) :
    opL K A E ⟨N, rt, bk, N⟩ [some (.ref o), some (.str (mkS w)), some (.ref p), wv, hv] G := by
  have insG := RG.W.ins
  obtain ⟨w1, w2, w3⟩ := L.ne
  unfold opL
  wtm_at "s"
  refine k_mF insG rfl ?_
  wtm_at "s"
  refine ⟨_, _, rfl, o, wl, dx, ws, j, w, rfl, rfl, w1, RG.W, fun ne => ?_, fun r1 er H1 s1 W1 d1 => ?_⟩
  · have xn : X = none := by
      rw [← hX, e]
      refine fin_noleaf c1 c2 (L.no (fun z => ne ?_) r)
      rw [e, z]; rfl
    exact (no xn).step RG.s0 insG
  · rw [e] at er
    obtain ⟨rfl, rfl⟩ : u = w ∧ r = r1 := by cases er; exact ⟨rfl, rfl⟩
    have R1 := RG.step s1 W1 (Nat.le_succ j)
    have st1 := R1.st
    have al1 : ∀ x ∈ opS o p b fa, H1 x ≠ none := fun x hx z => by
      rcases List.mem_cons.mp hx with rfl | hx
      · rw [W1.ins] at z; cases z
      · obtain ⟨y, hy⟩ := R1.alive x hx
        rw [hy] at z; cases z
    have hle : ∀ t r' i2, lr (ws.drop (j + 1)) = some (t, r') → ws.drop i2 = r' → i2 ≤ ws.length → j + 1 ≤ i2 ∧ finK lf fr (ws.drop j) = finT lf fr t r' := fun t r' i2 h h' h3 => by
      rw [d1, ← L.at r] at h
      have := L.lf.shr _ _ _ h
      have l1 : (ws.drop i2).length = r'.length := by rw [h']
      have l2 : (ws.drop (j + 1)).length = r.length := by rw [d1]
      rw [List.length_drop] at l1 l2
      have := W1.ile
      simp only [List.length_cons] at *
      exact ⟨by omega, by rw [e]; exact fin_leaf L.lf c1 h⟩
    have rz : lr (ws.drop (j + 1)) = none → X = none := fun z => by
      rw [d1, ← L.at r] at z
      rw [← hX, e]
      exact fin_noleaf c1 c2 z
    wtm_at "s"
    cases hfa : fa with
    | nil =>
      subst hfa
      obtain rfl : fr = [] := by
        have := R1.frm.len
        cases fr with
        | nil => rfl
        | cons q fr => cases this
      refine k_ixL (sl st1) (show atI ([] ++ [V.ref b]) (-1) = some (V.ref b) from atI_end) ?_
      wtm_at "s"
      refine k_tyL (sl R1.bt) ?_
      wtm_at "s"
      refine k_mF W1.ins rfl ?_
      wtm_at "s"
      refine ⟨_, _, rfl, o, wl, dx, ws, j + 1, u, lr, lf, rfl, rfl, L, W1, ⟨fun z => (no (rz z)).step (RG.s0.trans s1) W1.ins, fun t r' et v H2 i2 s2 W2 d2 g => ?_⟩⟩
      obtain ⟨ji, fX⟩ := hle t r' i2 et d2 W2.ile
      have R2 := R1.step s2 W2 ji
      wtm_at "s"
      refine k_append R2.bt (by simp) ?_
      refine hD _ _ _ t i2 (R2.ground (g _ al1)) ?_
      rw [← hX, fX, d2]; rfl
    | cons a fa' =>
      subst hfa
      obtain ⟨n, cs, fr', rfl⟩ : ∃ n cs fr', fr = (n, cs) :: fr' := by
        cases R1.frm with
        | cons h1 h2 h3 => exact ⟨_, _, _, rfl⟩
      obtain ⟨ys, ea⟩ : ∃ ys, H1 a = some (.lst ys) := by
        cases R1.frm with
        | cons h1 h2 h3 => exact ⟨_, h1⟩
      refine k_ixL (sl st1) (by rw [rev_last]; exact atI_end) ?_
      wtm_at "s"
      refine k_tyL (sl ea) ?_
      wtm_at "s"
      refine k_mF W1.ins rfl ?_
      wtm_at "s"
      refine ⟨_, _, rfl, o, wl, dx, ws, j + 1, u, lr, lf, rfl, rfl, L, W1, ⟨fun z => (no (rz z)).step (RG.s0.trans s1) W1.ins, fun t r' et v H2 i2 s2 W2 d2 g => ?_⟩⟩
      obtain ⟨ji, fX⟩ := hle t r' i2 et d2 W2.ile
      have R2 := R1.step s2 W2 ji
      have hcl : cs.length ≤ j := RG.cl (n, cs) (by simp)
      obtain ⟨xs, ex, lx, R3⟩ := R2.into (g _ al1) (t := t) (v := v) (by omega)
      wtm_at "s"
      refine k_append ex (by have := W2.ile; have := W2.len; omega) ?_
      refine hN _ _ _ _ _ i2 (by omega) R3 ?_
      rw [← hX, fX, d2, finT_cons]
theorem op_body (T : Txt K mg A) {o wl dx p b : Addr} {ws : List Wd} {w : Wd} {lr lf : List Wd → Rd Th} {H G : Hp} {E : XK} {fa : List Addr} {fr : List (Int × List Th)} {j : Nat} {wv hv : Option V} {X : Rd Th} {N bk : L2.St → Hp → Prop} {rt : VK} (L : LfW w lr lf)
    (RG : Run K A H G o wl dx ws p b fa fr j) (hX : finK lf fr (ws.drop j) = X) (no : X = none → RaiseW A o H E)
    (hN : ∀ wv hv G' fa' fr' j', j < j' → Run K A H G' o wl dx ws p b fa' fr' j' → finK lf fr' (ws.drop j') = X → N [some (.ref o), some (.str (mkS w)), some (.ref p), wv, hv] G')
    (hD : ∀ wv hv G' t j', Fin1 K A H G' o wl dx ws p b t j' → X = some (t, ws.drop j') → N [some (.ref o), some (.str (mkS w)), some (.ref p), wv, hv] G') :
    opB K A E ⟨N, rt, bk, N⟩ [some (.ref o), some (.str (mkS w)), some (.ref p), wv, hv] G := by
  have stG := RG.st
  have lfr := RG.frm.len
  have insG := RG.W.ins
  obtain ⟨w1, w2, w3⟩ := L.ne
  unfold opB
  wtm_at "s"
  refine k_mF insG rfl ?_
  wtm_at "s"
  have bad : X = none → ∀ d H', G d = none → Same G H' → H' d = some (.xd [(Str.ofString "row", V.int 0)]) → E (.ref A.c_NoText) (some d) H' := fun c d H' nd s e => no c d H' (free_back' RG.s0 insG nd) (RG.s0.trans (hid_mono s)) e
  refine ⟨_, rfl, o, wl, dx, ws, j, rfl, RG.W, fun e => ?_, fun u r e => ?_⟩
  · have xn : X = none := by
      rw [← hX, e]
      cases fr with
      | nil => show rdG lf 40 [] = none; rw [rdG_nil]; exact L.nil
      | cons q fr => exact fin_nil
    wtm_at "s"
    refine k_eqS ?_
    rw [sg_op, dec_mk, decide_eq_false (show ¬ ([] : Wd) = wOp by decide)]
    wtm_at "s"
    refine k_eqS ?_
    rw [sg_cl, dec_mk, decide_eq_false (show ¬ ([] : Wd) = wCl by decide)]
    wtm_at "s"
    refine k_mF insG rfl ?_
    wtm_at "s"
    exact ⟨_, _, rfl, o, wl, dx, ws, j, w, rfl, rfl, w1, RG.W, fun _ d H' nd s ee => no xn d H' (free_back' RG.s0 insG nd) (RG.s0.trans s) ee, fun r er => by rw [e] at er; cases er⟩
  · obtain ⟨h1, h2, h3⟩ := drop_at e
    wtm_at "s"
    refine k_eqS ?_
    rw [sg_op, dec_mk]
    by_cases c1 : u = wOp
    · subst c1
      rw [decide_eq_true rfl]
      wtm_at "s"
      refine k_mF insG rfl ?_
      wtm_at "s"
      have oplen : (V.ref b :: List.map V.ref fa.reverse).length = fa.length + 1 := by simp
      refine ⟨_, _, rfl, _, rfl, fun hd => ?_, fun hd => bad ?_⟩
      rotate_left
      · have hd := of_decide_eq_false hd
        rw [oplen] at hd
        rw [← hX, e]
        exact fin_opno (.inl (by omega))
      have hd := of_decide_eq_true hd
      rw [oplen] at hd
      wtm_at "s"
      refine k_augAt rfl insG T.K_Words T.N_Words_at rfl (show 2 < 1000 by decide) ?_
      rw [woF_put (by omega)]
      have s1 : Same (hid [o] G) (hid [o] (upd G o (.ins A.c_Words dx (woF wl (j + 1))))) := by rw [hid_upd (by simp)]; exact Same.refl _
      have W1 := RG.W.step h3
      generalize upd G o (.ins A.c_Words dx (woF wl (j + 1))) = G1 at s1 W1 ⊢
      have R1 := RG.step s1 W1 (Nat.le_succ j)
      have st1 := R1.st
      wtm_at "s"
      refine k_tyL (sl st1) ?_
      wtm_at "s"
      refine k_mF W1.ins rfl ?_
      wtm_at "s"
      refine ⟨_, rfl, o, wl, dx, ws, j + 1, rfl, W1, ⟨fun z => (no ?_).step (RG.s0.trans s1) W1.ins, fun k r' ek v H2 i2 s2 W2 d2 g => ?_⟩⟩
      · rw [h2] at z
        rw [← hX, e]
        refine fin_opno (.inr ?_)
        cases r with
        | nil => exact .inl rfl
        | cons n r' =>
          refine .inr ⟨n, r', rfl, ?_⟩
          cases en : numOf n with
          | none => rfl
          | some k => rw [numR_some en] at z; cases z
      · subst g
        rw [h2] at ek
        obtain ⟨n, rfl, en⟩ : ∃ n, r = n :: r' ∧ numOf n = some k := by
          cases r with
          | nil => cases ek
          | cons n r1 =>
            cases en : numOf n with
            | none => rw [numR_none en] at ek; cases ek
            | some k1 => rw [numR_some en] at ek; cases ek; exact ⟨n, rfl, en⟩
        have ji : j + 1 ≤ i2 := by
          have l1 : (ws.drop i2).length = r'.length := by rw [d2]
          have l2 : (ws.drop (j + 1)).length = (n :: r').length := by rw [h2]
          rw [List.length_drop] at l1 l2
          have := W2.ile
          simp only [List.length_cons] at l2
          omega
        have R2 := R1.step s2 W2 ji
        have st2 := R2.st
        wtm_at "s"
        refine kL (by simp) (fun a H3 na s3 ea => ?_)
        wtm_at "s"
        refine k_append (s3 _ _ st2) (by rw [oplen]; omega) ?_
        refine hN _ _ _ _ _ i2 (by omega) (R2.push na s3 ea) ?_
        rw [← hX, e, d2]
        exact (fin_op L.lf (by omega) en).symm
    · rw [decide_eq_false c1]
      wtm_at "s"
      refine k_eqS ?_
      rw [sg_cl, dec_mk]
      by_cases c2 : u = wCl
      · subst c2
        rw [decide_eq_true rfl]
        cases hfa : fa with
        | nil =>
          subst hfa
          obtain rfl : fr = [] := by
            have := RG.frm.len
            cases fr with
            | nil => rfl
            | cons q fr => cases this
          wtm_at "s"
          exact op_leaf T L RG hX no hN hD e c1 (.inr rfl)
        | cons a fa' =>
          subst hfa
          obtain ⟨n, cs, fr', rfl⟩ : ∃ n cs fr', fr = (n, cs) :: fr' := by
            cases RG.frm with
            | cons h1 h2 h3 => exact ⟨_, _, _, rfl⟩
          wtm_at "s"
          rw [if_pos (by simp; omega)]
          wtm_at "s"
          refine k_augAt rfl insG T.K_Words T.N_Words_at rfl (show 2 < 1000 by decide) ?_
          rw [woF_put (by omega)]
          have s1 : Same (hid [o] G) (hid [o] (upd G o (.ins A.c_Words dx (woF wl (j + 1))))) := by rw [hid_upd (by simp)]; exact Same.refl _
          have W1 := RG.W.step h3
          generalize upd G o (.ins A.c_Words dx (woF wl (j + 1))) = G1 at s1 W1 ⊢
          have R1 := RG.step s1 W1 (Nat.le_succ j)
          have st1 := R1.st
          rw [rev_last] at st1
          obtain ⟨R2, d⟩ := R1.pop
          wtm_at "s"
          refine k_tyL (sl st1) ?_
          wtm_at "s"
          refine k_popE st1 ?_
          have st2 := R2.st
          generalize upd G1 p (.lst (V.ref b :: fa'.reverse.map V.ref)) = G2 at R2 d st2 ⊢
          wtm_at "s"
          cases hfa : fa' with
          | nil =>
            subst hfa
            obtain rfl : fr' = [] := by
              have := R2.frm.len
              cases fr' with
              | nil => rfl
              | cons q fr => cases this
            refine k_ixL (sl st2) (show atI ([] ++ [V.ref b]) (-1) = some (V.ref b) from atI_end) ?_
            wtm_at "s"
            refine k_tyL (sl R2.bt) ?_
            wtm_at "s"
            refine k_append R2.bt (by simp) ?_
            refine hD _ _ _ _ (j + 1) (R2.ground d) ?_
            rw [← hX, e, fin_cl, h2]; rfl
          | cons a2 fa2 =>
            subst hfa
            obtain ⟨n2, cs2, fr2, rfl⟩ : ∃ n cs fr2, fr' = (n, cs) :: fr2 := by
              cases R2.frm with
              | cons h1 h2 h3 => exact ⟨_, _, _, rfl⟩
            have hcl : cs2.length ≤ j := RG.cl (n2, cs2) (by simp)
            obtain ⟨xs, ex, lx, R3⟩ := R2.into d (by omega)
            refine k_ixL (sl st2) (by rw [rev_last]; exact atI_end) ?_
            wtm_at "s"
            refine k_tyL (sl ex) ?_
            wtm_at "s"
            refine k_append ex (by have := RG.W.len; omega) ?_
            refine hN _ _ _ _ _ (j + 1) (by omega) R3 ?_
            rw [← hX, e, fin_cl, finT_cons, h2]
      · rw [decide_eq_false c2]
        exact ⟨false, rfl, iteF (iteF (op_leaf T L RG hX no hN hD e c1 (.inl c2)))⟩
theorem pure_Words_opened (T : Txt K mg A) {v0 v1 : V} {H : Hp} {Q : VK} {E : XK} (h : pr_Words_opened K A v0 v1 H Q E) : t_Words_opened K A E ⟨fun _ H' => Q .non H', Q, fun _ _ => False, fun _ _ => False⟩ [some v0, some v1, none, none, none] H := by
  obtain ⟨o, wl, dx, ws, i, w, lr, lf, rfl, rfl, L, W, R⟩ := h
  have deep : ∀ t r, rdG lf 40 (ws.drop i) = some (t, r) → thD t ≤ 40 := fun t r e => by
    cases L with
    | dot => exact (rdG_ok lf_c (fun _ _ _ h => lfC_is h) 40 _ _ _ (Nat.le_refl _) e).1
    | eq => exact (rdG_ok lf_t (fun _ _ _ h => lfT_is h) 40 _ _ _ (Nat.le_refl _) e).1
  unfold t_Words_opened
  wtm_at "s"
  refine kL (by simp) (fun b H1 nb s1 e1 => ?_)
  wtm_at "s"
  refine kL (by simp) (fun p H2 np s2 e2 => ?_)
  wtm_at "s"
  have np0 := s1.free np
  have bp : p ≠ b := fun z => by rw [z, e1] at np; cases np
  have ob : o ≠ b := fun z => by have := W.ins; rw [z, nb] at this; cases this
  have op' : o ≠ p := fun z => by have := W.ins; rw [z, np0] at this; cases this
  have R0 : Run K A H H2 o wl dx ws p b [] [] i := by
    refine ⟨hid_mono (s1.trans s2), W.same (s1.trans s2), e2, s2 _ _ e1, .nil, ?_, fun x hx => ?_, fun z => ?_, fun q hq => nomatch hq⟩
    · simp only [opS, List.nodup_cons, List.mem_cons, not_or, List.not_mem_nil, not_false_eq_true, and_true, List.nodup_nil]
      exact ⟨⟨op', ob⟩, bp⟩
    · simp only [List.mem_cons, List.not_mem_nil, or_false] at hx
      rcases hx with rfl | rfl
      · exact np0
      · exact nb
    · have := W.lst
      simp only [List.mem_cons, List.not_mem_nil, or_false] at z
      rcases z with rfl | rfl
      · rw [np0] at this; cases this
      · rw [nb] at this; cases this
  refine k_while ⟨fun m σ' G => ∃ wv hv, σ' = [some (.ref o), some (.str (mkS w)), some (.ref p), wv, hv] ∧ ((∃ fa fr j, m = ws.length - j + 1 ∧ Run K A H G o wl dx ws p b fa fr j ∧ finK lf fr (ws.drop j) = rdG lf 40 (ws.drop i)) ∨ (∃ t j, m = 0 ∧ Fin1 K A H G o wl dx ws p b t j ∧ rdG lf 40 (ws.drop i) = some (t, ws.drop j))), ⟨ws.length - i + 1, none, none, rfl, .inl ⟨[], [], i, rfl, R0, rfl⟩⟩, ?_⟩
  clear R0 e1 e2 s1 s2 np np0 nb bp ob op'
  rintro m σ' G ⟨wv, hv, rfl, hc⟩
  rcases hc with ⟨fa, fr, j, rfl, RG, hX⟩ | ⟨t, j, rfl, FG, hX⟩
  · have stG := RG.st
    have lfr := RG.frm.len
    have step : ∀ {G' : Hp}, Run K A H G' o wl dx ws p b fa fr j → ∀ (bk : L2.St → Hp → Prop), opB K A E ⟨fun σ' H' => ∃ m', m' < ws.length - j + 1 ∧ ∃ wv hv, σ' = [some (.ref o), some (.str (mkS w)), some (.ref p), wv, hv] ∧ ((∃ fa fr j, m' = ws.length - j + 1 ∧ Run K A H H' o wl dx ws p b fa fr j ∧ finK lf fr (ws.drop j) = rdG lf 40 (ws.drop i)) ∨ (∃ t j, m' = 0 ∧ Fin1 K A H H' o wl dx ws p b t j ∧ rdG lf 40 (ws.drop i) = some (t, ws.drop j))), Q, bk, fun σ' H' => ∃ m', m' < ws.length - j + 1 ∧ ∃ wv hv, σ' = [some (.ref o), some (.str (mkS w)), some (.ref p), wv, hv] ∧ ((∃ fa fr j, m' = ws.length - j + 1 ∧ Run K A H H' o wl dx ws p b fa fr j ∧ finK lf fr (ws.drop j) = rdG lf 40 (ws.drop i)) ∨ (∃ t j, m' = 0 ∧ Fin1 K A H H' o wl dx ws p b t j ∧ rdG lf 40 (ws.drop i) = some (t, ws.drop j)))⟩ [some (.ref o), some (.str (mkS w)), some (.ref p), wv, hv] G' := fun RG' bk =>
      op_body T L RG' hX R.no (fun wv hv G2 fa' fr' j' hj R2 h2 => ⟨ws.length - j' + 1, by have := R2.W.ile; omega, wv, hv, rfl, .inl ⟨fa', fr', j', rfl, R2, h2⟩⟩) (fun wv hv G2 t j' F2 h2 => ⟨0, by omega, wv, hv, rfl, .inr ⟨t, j', rfl, F2, h2⟩⟩)
    wtm_at "s"
    cases hfa : fa with
    | cons a fa' =>
      subst hfa
      rw [if_pos (by simp; omega)]
      wtm_at "s"
      exact ⟨_, fun σ' H' z => z, step RG _⟩
    | nil =>
      subst hfa
      rw [if_neg (by simp)]
      wtm_at "s"
      refine k_ixL (sl stG) (show atI [V.ref b] 0 = some (V.ref b) from atI_nat (j := 0) rfl) ?_
      wtm_at "s"
      refine kL (by simp) (fun q G1 nq s1 e1 => ?_)
      refine k_eqD1 (c := .list []) (n := 1) (.lst (sl (s1 _ _ RG.bt)) .nil) (.lst (sl e1) .nil) (sh_list fun x hx => nomatch hx) (by decide) ?_
      wtm_at "s"
      exact ⟨_, fun σ' H' z => z, step (RG.same s1) _⟩
  · have stG := FG.st
    obtain ⟨v, btG, dv⟩ := FG.bt
    wtm_at "s"
    rw [if_neg (by simp)]
    wtm_at "s"
    refine k_ixL (sl stG) (show atI [V.ref b] 0 = some (V.ref b) from atI_nat (j := 0) rfl) ?_
    wtm_at "s"
    refine kL (by simp) (fun q G1 nq s1 e1 => ?_)
    have dv0 := dp_same (hid_same _ _) dv
    have shd := sh_dG t 40 (deep _ _ hX)
    refine k_eqD (n := 43) (.lst (sl (s1 _ _ btG)) (.cons (dp_same s1 dv0) .nil)) (.lst (sl e1) .nil) (sh_list fun x hx => ?_) (sh_list fun x hx => nomatch hx) (by decide) ?_
    · rw [List.mem_singleton.mp hx]; exact shd.mono (by decide)
    rw [show PyData.eqv (.list [dG t]) (.list []) = false from rfl]
    wtm_at "s"
    refine k_ixL (sl (s1 _ _ stG)) (show atI [V.ref b] 0 = some (V.ref b) from atI_nat (j := 0) rfl) ?_
    wtm_at "s"
    refine k_ixL (sl (s1 _ _ btG)) (show atI [v] 0 = some v from atI_nat (j := 0) rfl) ?_
    exact R.yes t _ hX v G1 j (FG.s0.trans (hid_mono s1)) (FG.W.same s1) rfl (dp_same ((hid_sub (by simp)).trans (hid_mono s1)) dv)
abbrev sp_Words_opened (K : PySem.W.Frag) (A : Ad) : Sp := fun vs H Q E => ∃ v0 v1, vs = [v0, v1] ∧ pr_Words_opened K A v0 v1 H Q E
theorem ok_Words_opened (T : Txt K mg A) : FnOk P w K mg base (L2.CX P w) 6 A.a_Words_opened A.d_Words_opened ["self", "leaf"] (sp_Words_opened K A) := by
  refine T.F_Words_opened.okX sc_Words_opened (fun vs H Q E h => by obtain ⟨v0, v1, rfl, _⟩ := h; rfl) (fun cdv A0 outer s H vs Q E hr h => ?_)
  obtain ⟨v0, v1, rfl, h⟩ := h
  exact ⟨t_Words_opened K A E, (pss_cons (ps_set (i := 2) sc_Words_opened.nd rfl (Or.inl rfl) (pe_lst (pa_cons (pe_lst pa_nil) pa_nil)))
      (pss_cons (ps_while (passes_of rfl) (PW.pt (pw_or (pt_cmpR op_gt (pe_callB q_len (by rfl) T.z_len (by decide +kernel) (pa_cons (pv 2) pa_nil)) pe_int (nomark _)) (pw_or1 (pt_cmpR (op_eqD hr.units) (pe_ix ix_list (pv 2) pe_int (fun _ _ => rfl)) (pe_lst pa_nil) (nomark _)))))
      (pss_cons (ps_set (i := 3) sc_Words_opened.nd rfl (Or.inl rfl) (pe_meth0 (pv 0) T.K_Words T.Me_Words_look (ok_Words_look T) (hr.mono (by decide)) T.b_Words_look .nil pass0 ))
      (pss_one (ps_if (pt_cmpR op_eq (pv 3) pe_str (nomark _)) (pss_cons (ps_expr (pe_meth (E := E) (pv 0) T.K_Words T.Me_Words_must (ok_Words_must T) (hr.mono (by decide)) T.b_Words_must .nil (passes_call (takes_of rfl rfl rfl rfl) (fun _ _ _ _ h => h)) (pa_cons (pe_cmpR op_le (pe_callB q_len (by rfl) T.z_len (by decide +kernel) (pa_cons (pv 2) pa_nil)) (pe_glob (v := .int 40) (by rfl) T.c_DEEPEST ⟨_, rfl⟩) (nomark _)) pa_nil)))
      (pss_cons (ps_fldaug (pv 0) pe_int L2.in_add)
      (pss_one (ps_expr (pe_bm PySem.F.plainAttrs_list PySem.F.slot_list_append PySem.F.type_list_append mt_append (pv 2) (pa_cons (pe_lst (pa_cons (pe_meth0 (E := E) (pv 0) T.K_Words T.Me_Words_number (ok_Words_number T) (hr.mono (by decide)) T.b_Words_number .nil (passes_call (takes_of rfl rfl rfl rfl) (fun _ _ _ _ h => h)) ) pa_nil)) pa_nil)))))) (pss_one (ps_if (PW.pt (pw_and (pt_cmpR op_eq (pv 3) pe_str (nomark _)) (pw_and1 (pt_cmpR op_gt (pe_callB q_len (by rfl) T.z_len (by decide +kernel) (pa_cons (pv 2) pa_nil)) pe_int (nomark _))))) (pss_cons (ps_fldaug (pv 0) pe_int L2.in_add)
      (pss_cons (ps_set (i := 4) sc_Words_opened.nd rfl (Or.inl rfl) (pe_bm0 PySem.F.plainAttrs_list PySem.F.slot_list_pop PySem.F.type_list_pop mt_pop (pv 2)))
      (pss_one (ps_expr (pe_bm PySem.F.plainAttrs_list PySem.F.slot_list_append PySem.F.type_list_append mt_append (pe_ix ix_list (pv 2) (pe_un un_neg pe_int) (fun _ _ => rfl)) (pa_cons (pv 4) pa_nil)))))) (pss_cons (ps_expr (pe_meth (E := E) (pv 0) T.K_Words T.Me_Words_take (ok_Words_take T) (hr.mono (by decide)) T.b_Words_take .nil (passes_call (takes_of rfl rfl rfl rfl) (fun _ _ _ _ h => h)) (pa_cons (pv 1) pa_nil)))
      (pss_one (ps_expr (pe_bm PySem.F.plainAttrs_list PySem.F.slot_list_append PySem.F.type_list_append mt_append (pe_ix ix_list (pv 2) (pe_un un_neg pe_int) (fun _ _ => rfl)) (pa_cons (pe_meth (E := E) (pv 0) T.K_Words T.Me_Words_leaf_of (ok_Words_leaf_of T) (hr.mono (by decide)) T.b_Words_leaf_of .nil (passes_call (takes_of rfl rfl rfl rfl) (fun _ _ _ _ h => h)) (pa_cons (pv 1) pa_nil)) pa_nil)))))))))))
      (pss_one (ps_ret (pe_ix ix_list (pe_ix ix_list (pv 2) pe_int (fun _ _ => rfl)) pe_int (fun _ _ => rfl)))))), pure_Words_opened T h⟩


/-! ### fresh cases: all their lists are unlike -/
mutual
inductive Tr (f : List V → List V) (K : PySem.W.Frag) (H : Hp) : V → PyData → List Addr → Prop
  | emp {p : Addr} : SqT K H p [] → Tr f K H (.ref p) (.tuple []) []
  | mk {p l : Addr} {k : Int} {zs : List V} {cs : List PyData} {L : List Addr} : SqT K H p [.int k, .ref l] → H l = some (.lst (f zs)) → TrA f K H zs cs L → Tr f K H (.ref p) (.tuple [.int k, .list cs]) (l :: L)
inductive TrA (f : List V → List V) (K : PySem.W.Frag) (H : Hp) : List V → List PyData → List Addr → Prop
  | nil : TrA f K H [] [] []
  | cons {z : V} {zs : List V} {c : PyData} {cs : List PyData} {L1 L2 : List Addr} : Tr f K H z c L1 → TrA f K H zs cs L2 → TrA f K H (z :: zs) (c :: cs) (L1 ++ L2)
end
mutual
theorem Tr.same {f : List V → List V} {K : PySem.W.Frag} {H H' : Hp} (s : Same H H') {v : V} {D : PyData} {L : List Addr} : Tr f K H v D L → Tr f K H' v D L
  | .emp h => .emp (same_seqT s h)
  | .mk h1 h2 h3 => .mk (same_seqT s h1) (s _ _ h2) (TrA.same s h3)
theorem TrA.same {f : List V → List V} {K : PySem.W.Frag} {H H' : Hp} (s : Same H H') {v : List V} {D : List PyData} {L : List Addr} : TrA f K H v D L → TrA f K H' v D L
  | .nil => .nil
  | .cons h1 h2 => .cons (Tr.same s h1) (TrA.same s h2)
end
theorem sqT_upd {K : PySem.W.Frag} {H : Hp} {a d : Addr} {xs os : List V} {o : HO} (h : SqT K H a xs) (hd : H d = some (.lst os)) : SqT K (upd H d o) a xs := by
  rcases h with (h | ⟨o', h⟩) | h
  · exact .inl (.inl (by rw [upd_ne (fun z => by rw [z, hd] at h; cases h)]; exact h))
  · exact .inl (.inr ⟨o', by rw [upd_ne (fun z => by rw [z, hd] at h; cases h)]; exact h⟩)
  · exact .inr h
mutual
theorem Tr.upd {f : List V → List V} {K : PySem.W.Frag} {H : Hp} {d : Addr} {os : List V} {o : HO} (hd : H d = some (.lst os)) {v : V} {D : PyData} {L : List Addr} : Tr f K H v D L → d ∉ L → Tr f K (L2.upd H d o) v D L
  | .emp h, _ => .emp (sqT_upd h hd)
  | .mk h1 h2 h3, n => .mk (sqT_upd h1 hd) (by rw [upd_ne (fun z => n (by rw [z]; exact List.mem_cons_self))]; exact h2) (TrA.upd hd h3 fun z => n (List.mem_cons_of_mem _ z))
theorem TrA.upd {f : List V → List V} {K : PySem.W.Frag} {H : Hp} {d : Addr} {os : List V} {o : HO} (hd : H d = some (.lst os)) {v : List V} {D : List PyData} {L : List Addr} : TrA f K H v D L → d ∉ L → TrA f K (L2.upd H d o) v D L
  | .nil, _ => .nil
  | .cons h1 h2, n => .cons (Tr.upd hd h1 fun z => n (List.mem_append_left _ z)) (TrA.upd hd h2 fun z => n (List.mem_append_right _ z))
end
mutual
theorem Tr.dp {K : PySem.W.Frag} {H : Hp} {v : V} {D : PyData} {L : List Addr} : Tr id K H v D L → Dp K H v D
  | .emp h => .tup h .nil
  | .mk h1 h2 h3 => .tup h1 (.cons (.int _) (.cons (.lst (sl h2) (TrA.dp h3)) .nil))
theorem TrA.dp {K : PySem.W.Frag} {H : Hp} {v : List V} {D : List PyData} {L : List Addr} : TrA id K H v D L → DpAll K H v D
  | .nil => .nil
  | .cons h1 h2 => .cons (Tr.dp h1) (TrA.dp h2)
end
mutual
theorem Tr.alive {f : List V → List V} {K : PySem.W.Frag} {H : Hp} {v : V} {D : PyData} {L : List Addr} : Tr f K H v D L → ∀ l ∈ L, ∃ zs, H l = some (.lst zs)
  | .emp _, l, h => by cases h
  | .mk h1 h2 h3, l, h => by
    rcases List.mem_cons.mp h with rfl | h
    · exact ⟨_, h2⟩
    · exact TrA.alive h3 l h
theorem TrA.alive {f : List V → List V} {K : PySem.W.Frag} {H : Hp} {v : List V} {D : List PyData} {L : List Addr} : TrA f K H v D L → ∀ l ∈ L, ∃ zs, H l = some (.lst zs)
  | .nil, l, h => by cases h
  | .cons h1 h2, l, h => by
    rcases List.mem_append.mp h with h | h
    · exact Tr.alive h1 l h
    · exact TrA.alive h2 l h
end
theorem TrA.app {f : List V → List V} {K : PySem.W.Frag} {H : Hp} {z : V} {c : PyData} {L2 : List Addr} (h : Tr f K H z c L2) : ∀ {zs : List V} {cs : List PyData} {L1 : List Addr}, TrA f K H zs cs L1 → TrA f K H (zs ++ [z]) (cs ++ [c]) (L1 ++ L2)
  | _, _, _, .nil => by
    have := TrA.cons h (.nil : TrA f K H [] [] [])
    rw [List.append_nil] at this
    exact this
  | _, _, _, .cons h1 h2 => by
    have := TrA.cons h1 (TrA.app h h2)
    rw [← List.append_assoc] at this
    exact this
theorem TrA.len {f : List V → List V} {K : PySem.W.Frag} {H : Hp} : ∀ {zs : List V} {cs : List PyData} {L : List Addr}, TrA f K H zs cs L → zs.length = cs.length
  | _, _, _, .nil => rfl
  | _, _, _, .cons _ h => by rw [List.length_cons, List.length_cons, TrA.len h]
theorem Tr.tup {f : List V → List V} {K : PySem.W.Frag} {H : Hp} {v : V} {D : PyData} {L : List Addr} (h : Tr f K H v D L) : ∃ p xs, v = .ref p ∧ SqT K H p xs := by
  cases h with
  | emp h => exact ⟨_, _, rfl, h⟩
  | mk h1 h2 h3 => exact ⟨_, _, rfl, h1⟩
/-! frames -/
theorem sqT_hid {K : PySem.W.Frag} {H H' : Hp} {X : List Addr} {p : Addr} {xs : List V} (h : SqT K H p xs) (hx : ∀ x ∈ X, ∃ zs, H x = some (.lst zs)) (s : Same (hid X H) (hid X H')) : SqT K H' p xs := by
  have go : ∀ o, H p = some o → (∀ zs, o ≠ .lst zs) → H' p = some o := fun o e n => by
    have np : p ∉ X := fun z => by
      obtain ⟨zs, hz⟩ := hx p z
      rw [hz] at e
      cases e
      exact n zs rfl
    have := s p o (by rw [hid_ne np]; exact e)
    rw [hid_ne np] at this
    exact this
  rcases h with (h | ⟨o', h⟩) | h
  · exact .inl (.inl (go _ h fun zs z => nomatch z))
  · exact .inl (.inr ⟨o', go _ h fun zs z => nomatch z⟩)
  · exact .inr h
theorem keep_hid {H H' : Hp} {X : List Addr} {p : Addr} {o : HO} (e : H p = some o) (np : p ∉ X) (s : Same (hid X H) (hid X H')) : H' p = some o := by
  have := s p o (by rw [hid_ne np]; exact e)
  rw [hid_ne np] at this
  exact this
mutual
theorem Tr.frame {f : List V → List V} {K : PySem.W.Frag} {H H' : Hp} {X : List Addr} (hx : ∀ x ∈ X, ∃ zs, H x = some (.lst zs)) (s : Same (hid X H) (hid X H')) {v : V} {D : PyData} {L : List Addr} : Tr f K H v D L → (∀ l ∈ L, l ∉ X) → Tr f K H' v D L
  | .emp h, _ => .emp (sqT_hid h hx s)
  | .mk h1 h2 h3, n => .mk (sqT_hid h1 hx s) (keep_hid h2 (n _ List.mem_cons_self) s) (TrA.frame hx s h3 fun l hl => n l (List.mem_cons_of_mem _ hl))
theorem TrA.frame {f : List V → List V} {K : PySem.W.Frag} {H H' : Hp} {X : List Addr} (hx : ∀ x ∈ X, ∃ zs, H x = some (.lst zs)) (s : Same (hid X H) (hid X H')) {v : List V} {D : List PyData} {L : List Addr} : TrA f K H v D L → (∀ l ∈ L, l ∉ X) → TrA f K H' v D L
  | .nil, _ => .nil
  | .cons h1 h2, n => .cons (Tr.frame hx s h1 fun l hl => n l (List.mem_append_left _ hl)) (TrA.frame hx s h2 fun l hl => n l (List.mem_append_right _ hl))
end
/-- a comprehension over a list, each turn makes a new thing of its own -/
theorem lc_tr {K : PySem.W.Frag} {σ : L2.St} {vs : List Nat} {g : TG} {te : TE} {H1 : Hp} {QD : Addr → Hp → Prop} {α : Type} {a : Addr} {xs : List V} (hs : SqL K H1 a xs) (ps : List α) (hl : xs.length = ps.length) (hz : ps.length ≤ 50000) (F : α → PyData)
    (step : ∀ (i : Nat) x p H', xs[i]? = some x → ps[i]? = some p → Same H1 H' → ∀ (R : V → Hp → Prop), (∀ v L H'', Same H' H'' → Tr id K H'' v (F p) L → L.Nodup → (∀ y ∈ L, H' y = none) → R v H'') →
      g x (wipe σ vs) H' fun σ2 H2 => wipe σ2 vs = wipe σ vs ∧ te σ2 H2 R)
    (h : ∀ D ys L H', H1 D = none → Same H1 H' → H' D = some (.lst ys) → TrA id K H' ys (ps.map F) L → L.Nodup → (∀ y ∈ L, H1 y = none) → D ∉ L → QD D H') (hg : ∀ x σ' H (q q' : L2.St → Hp → Prop), (∀ s H, q s H → q' s H) → g x σ' H q → g x σ' H q') :
    ∃ a', V.ref a = .ref a' ∧ (∃ xs, SqL K H1 a' xs) ∧ ∀ D, H1 D = none → ∃ W : Nat → Nat → Hp → Prop, (∃ m, W 0 m (upd H1 D (.lst []))) ∧ ∀ i m H, W i m H →
      ((Itl K a').stop i H ∧ QD D H) ∨ ((Itl K a').go i H ∧ ∃ Nx : Hp → Prop, (∀ H', Nx H' → ∃ m', m' < m ∧ W (i + 1) m' H') ∧ ∀ x H', (Itl K a').yld i H x H' → g x (wipe σ vs) H' fun σ2 H2 => wipe σ2 vs = wipe σ vs ∧ tYes σ2 H2 fun b H3 =>
        if b = true then te σ2 H3 fun y H4 => ∃ acc, H4 D = some (.lst acc) ∧ acc.length < sizeLine ∧ Nx (upd H4 D (.lst (acc ++ [y]))) else Nx H3) := by
  refine ⟨a, rfl, ⟨xs, hs⟩, fun D nD => lc_list (xs := xs) (fun i H => Same H1 H ∧ ∃ ys L, H D = some (.lst ys) ∧ ys.length = i ∧ TrA id K H ys ((ps.take i).map F) L ∧ L.Nodup ∧ (∀ y ∈ L, H1 y = none) ∧ D ∉ L) ⟨same_new nD, [], [], upd_same, rfl, .nil, List.nodup_nil, fun y z => (by cases z), fun z => (by cases z)⟩ (fun i H _ e => e.1.seq hs) ?_ ?_⟩
  · rintro i x H hx ⟨sm, ys, L, hD, hly, ht, nd, fr, nDL⟩
    have hi : i < xs.length := (List.getElem?_eq_some_iff.mp hx).1
    obtain ⟨p, hp⟩ : ∃ p, ps[i]? = some p := ⟨ps[i]'(by omega), List.getElem?_eq_getElem (by omega)⟩
    refine hg _ _ _ _ _ (fun s2 H2 hh => ⟨hh.1, k_yes (iteT hh.2)⟩) (step i x p H hx hp sm _ (fun v L2 H'' s2 t2 nd2 fr2 => ⟨ys, s2 _ _ hD, szl (by omega), same_mut (sm.trans s2) nD, ys ++ [v], L ++ L2, upd_same, by simp [hly], ?_, ?_, ?_, ?_⟩))
    · have d2 : D ∉ L2 := fun z => by have := fr2 D z; rw [hD] at this; cases this
      rw [List.take_add_one, hp, List.map_append]
      exact TrA.app (t2.upd (s2 _ _ hD) d2) ((ht.same s2).upd (s2 _ _ hD) nDL)
    · refine List.nodup_append.mpr ⟨nd, nd2, fun y hy z hz e => ?_⟩
      subst e
      obtain ⟨zs, hzs⟩ := ht.alive y hy
      have := fr2 y hz
      rw [hzs] at this; cases this
    · intro y hy
      rcases List.mem_append.mp hy with hy | hy
      · exact fr y hy
      · exact sm.free (fr2 y hy)
    · intro z
      rcases List.mem_append.mp z with z | z
      · exact nDL z
      · have := fr2 D z; rw [hD] at this; cases this
  · rintro H ⟨sm, ys, L, hD, hly, ht, nd, fr, nDL⟩
    rw [hl, List.take_length] at ht
    exact h D ys L H nD sm hD ht nd fr nDL
/-! ### things whose lists are all unlike -/
mutual
inductive Fr (f : List V → List V) (K : PySem.W.Frag) (H : Hp) : V → PyData → List Addr → Prop
  | int (i : Int) : Fr f K H (.int i) (.int i) []
  | bl (b : Bool) : Fr f K H (.bl b) (.bool b) []
  | str (s : Str) : Fr f K H (.str s) (.str s) []
  | non : Fr f K H .non .none []
  | tup {p : Addr} {xs : List V} {ds : List PyData} {L : List Addr} : SqT K H p xs → FrA f K H xs ds L → Fr f K H (.ref p) (.tuple ds) L
  | lst {l : Addr} {xs : List V} {ds : List PyData} {L : List Addr} : H l = some (.lst (f xs)) → FrA f K H xs ds L → Fr f K H (.ref l) (.list ds) (l :: L)
inductive FrA (f : List V → List V) (K : PySem.W.Frag) (H : Hp) : List V → List PyData → List Addr → Prop
  | nil : FrA f K H [] [] []
  | cons {z : V} {zs : List V} {c : PyData} {cs : List PyData} {L1 L2 : List Addr} : Fr f K H z c L1 → FrA f K H zs cs L2 → FrA f K H (z :: zs) (c :: cs) (L1 ++ L2)
end
mutual
theorem Fr.same {f : List V → List V} {K : PySem.W.Frag} {H H' : Hp} (s : Same H H') {v : V} {D : PyData} {L : List Addr} : Fr f K H v D L → Fr f K H' v D L
  | .int i => .int i
  | .bl b => .bl b
  | .str x => .str x
  | .non => .non
  | .tup h1 h2 => .tup (same_seqT s h1) (FrA.same s h2)
  | .lst h1 h2 => .lst (s _ _ h1) (FrA.same s h2)
theorem FrA.same {f : List V → List V} {K : PySem.W.Frag} {H H' : Hp} (s : Same H H') {v : List V} {D : List PyData} {L : List Addr} : FrA f K H v D L → FrA f K H' v D L
  | .nil => .nil
  | .cons h1 h2 => .cons (Fr.same s h1) (FrA.same s h2)
end
mutual
theorem Fr.upd {f : List V → List V} {K : PySem.W.Frag} {H : Hp} {d : Addr} {os : List V} {o : HO} (hd : H d = some (.lst os)) {v : V} {D : PyData} {L : List Addr} : Fr f K H v D L → d ∉ L → Fr f K (L2.upd H d o) v D L
  | .int i, _ => .int i
  | .bl b, _ => .bl b
  | .str x, _ => .str x
  | .non, _ => .non
  | .tup h1 h2, n => .tup (sqT_upd h1 hd) (FrA.upd hd h2 n)
  | .lst h1 h2, n => .lst (by rw [upd_ne (fun z => n (by rw [z]; exact List.mem_cons_self))]; exact h1) (FrA.upd hd h2 fun z => n (List.mem_cons_of_mem _ z))
theorem FrA.upd {f : List V → List V} {K : PySem.W.Frag} {H : Hp} {d : Addr} {os : List V} {o : HO} (hd : H d = some (.lst os)) {v : List V} {D : List PyData} {L : List Addr} : FrA f K H v D L → d ∉ L → FrA f K (L2.upd H d o) v D L
  | .nil, _ => .nil
  | .cons h1 h2, n => .cons (Fr.upd hd h1 fun z => n (List.mem_append_left _ z)) (FrA.upd hd h2 fun z => n (List.mem_append_right _ z))
end
mutual
theorem Fr.dp {K : PySem.W.Frag} {H : Hp} {v : V} {D : PyData} {L : List Addr} : Fr id K H v D L → Dp K H v D
  | .int i => .int i
  | .bl b => .bl b
  | .str x => .str x
  | .non => .non
  | .tup h1 h2 => .tup h1 (FrA.dp h2)
  | .lst h1 h2 => .lst (sl h1) (FrA.dp h2)
theorem FrA.dp {K : PySem.W.Frag} {H : Hp} {v : List V} {D : List PyData} {L : List Addr} : FrA id K H v D L → DpAll K H v D
  | .nil => .nil
  | .cons h1 h2 => .cons (Fr.dp h1) (FrA.dp h2)
end
mutual
theorem Fr.alive {f : List V → List V} {K : PySem.W.Frag} {H : Hp} {v : V} {D : PyData} {L : List Addr} : Fr f K H v D L → ∀ l ∈ L, ∃ zs, H l = some (.lst zs)
  | .int i, l, h => nomatch h
  | .bl b, l, h => nomatch h
  | .str x, l, h => nomatch h
  | .non, l, h => nomatch h
  | .tup h1 h2, l, h => FrA.alive h2 l h
  | .lst h1 h2, l, h => by
    rcases List.mem_cons.mp h with rfl | h
    · exact ⟨_, h1⟩
    · exact FrA.alive h2 l h
theorem FrA.alive {f : List V → List V} {K : PySem.W.Frag} {H : Hp} {v : List V} {D : List PyData} {L : List Addr} : FrA f K H v D L → ∀ l ∈ L, ∃ zs, H l = some (.lst zs)
  | .nil, l, h => nomatch h
  | .cons h1 h2, l, h => by
    rcases List.mem_append.mp h with h | h
    · exact Fr.alive h1 l h
    · exact FrA.alive h2 l h
end
theorem FrA.app {f : List V → List V} {K : PySem.W.Frag} {H : Hp} {z : V} {c : PyData} {L2 : List Addr} (h : Fr f K H z c L2) : ∀ {zs : List V} {cs : List PyData} {L1 : List Addr}, FrA f K H zs cs L1 → FrA f K H (zs ++ [z]) (cs ++ [c]) (L1 ++ L2)
  | _, _, _, .nil => by
    have := FrA.cons h (.nil : FrA f K H [] [] [])
    rw [List.append_nil] at this
    exact this
  | _, _, _, .cons h1 h2 => by
    have := FrA.cons h1 (FrA.app h h2)
    rw [← List.append_assoc] at this
    exact this
theorem FrA.len {f : List V → List V} {K : PySem.W.Frag} {H : Hp} : ∀ {zs : List V} {cs : List PyData} {L : List Addr}, FrA f K H zs cs L → zs.length = cs.length
  | _, _, _, .nil => rfl
  | _, _, _, .cons _ h => by rw [List.length_cons, List.length_cons, FrA.len h]
/-! frames: cells that are no tuples change -/
def NoTup (H : Hp) (X : List Addr) : Prop := ∀ x ∈ X, ∀ o, H x = some o → (∃ zs, o = .lst zs) ∨ ∃ C dx fs, o = .ins C dx fs
theorem sqT_hidX {K : PySem.W.Frag} {H H' : Hp} {X : List Addr} {p : Addr} {xs : List V} (h : SqT K H p xs) (hx : NoTup H X) (s : Same (hid X H) (hid X H')) : SqT K H' p xs := by
  have go : ∀ o, H p = some o → (∀ zs, o ≠ .lst zs) → (∀ C dx fs, o ≠ .ins C dx fs) → H' p = some o := fun o e n1 n2 => by
    have np : p ∉ X := fun z => by
      rcases hx p z o e with ⟨zs, h⟩ | ⟨C, dx, fs, h⟩
      · exact n1 zs h
      · exact n2 C dx fs h
    have := s p o (by rw [hid_ne np]; exact e)
    rw [hid_ne np] at this
    exact this
  rcases h with (h | ⟨o', h⟩) | h
  · exact .inl (.inl (go _ h (fun zs z => nomatch z) fun _ _ _ z => nomatch z))
  · exact .inl (.inr ⟨o', go _ h (fun zs z => nomatch z) fun _ _ _ z => nomatch z⟩)
  · exact .inr h
mutual
theorem Fr.frame {f : List V → List V} {K : PySem.W.Frag} {H H' : Hp} {X : List Addr} (hx : NoTup H X) (s : Same (hid X H) (hid X H')) {v : V} {D : PyData} {L : List Addr} : Fr f K H v D L → (∀ l ∈ L, l ∉ X) → Fr f K H' v D L
  | .int i, _ => .int i
  | .bl b, _ => .bl b
  | .str x, _ => .str x
  | .non, _ => .non
  | .tup h1 h2, n => .tup (sqT_hidX h1 hx s) (FrA.frame hx s h2 n)
  | .lst h1 h2, n => .lst (by
      have n0 := n _ List.mem_cons_self
      have := s _ _ (by rw [hid_ne n0]; exact h1)
      rwa [hid_ne n0] at this) (FrA.frame hx s h2 fun l hl => n l (List.mem_cons_of_mem _ hl))
theorem FrA.frame {f : List V → List V} {K : PySem.W.Frag} {H H' : Hp} {X : List Addr} (hx : NoTup H X) (s : Same (hid X H) (hid X H')) {v : List V} {D : List PyData} {L : List Addr} : FrA f K H v D L → (∀ l ∈ L, l ∉ X) → FrA f K H' v D L
  | .nil, _ => .nil
  | .cons h1 h2, n => .cons (Fr.frame hx s h1 fun l hl => n l (List.mem_append_left _ hl)) (FrA.frame hx s h2 fun l hl => n l (List.mem_append_right _ hl))
end
theorem noTup_ins {H : Hp} {o C dx : Addr} {fs : List (Str × V)} (e : H o = some (.ins C dx fs)) : NoTup H [o] := fun x hx u hu => by
  rw [List.mem_singleton.mp hx, e] at hu
  cases hu
  exact .inr ⟨_, _, _, rfl⟩
/-- an instance alone changes -/
theorem Fr.inst {f : List V → List V} {K : PySem.W.Frag} {H H' : Hp} {o C dx : Addr} {fs : List (Str × V)} {v : V} {D : PyData} {L : List Addr} (h : Fr f K H v D L) (e : H o = some (.ins C dx fs)) (s : Same (hid [o] H) (hid [o] H')) : Fr f K H' v D L :=
  h.frame (noTup_ins e) s fun l hl z => by
    rw [List.mem_singleton.mp z] at hl
    obtain ⟨zs, hz⟩ := h.alive o hl
    rw [e] at hz; cases hz
theorem frA_ints {K : PySem.W.Frag} {H : Hp} : ∀ ns : List Int, FrA id K H (ns.map V.int) (ns.map PyData.int) []
  | [] => .nil
  | n :: ns => by
    have := FrA.cons (.int n) (frA_ints (K := K) (H := H) ns)
    exact this
theorem fr_ints {K : PySem.W.Frag} {H : Hp} {p : Addr} {ns : List Int} (e : H p = some (.lst (ns.map V.int))) : Fr id K H (.ref p) (dInts ns) [p] := .lst (xs := ns.map V.int) e (frA_ints ns)
mutual
theorem Tr.fr {f : List V → List V} {K : PySem.W.Frag} {H : Hp} {v : V} {D : PyData} {L : List Addr} : Tr f K H v D L → Fr f K H v D L
  | .emp h => .tup h .nil
  | .mk (l := l) (k := k) (L := L) h1 h2 h3 => by
    have := FrA.cons (.int k) (FrA.cons (.lst h2 (TrA.fr h3)) (.nil : FrA f K H [] [] []))
    rw [List.append_nil, List.nil_append] at this
    exact .tup h1 this
theorem TrA.fr {f : List V → List V} {K : PySem.W.Frag} {H : Hp} {v : List V} {D : List PyData} {L : List Addr} : TrA f K H v D L → FrA f K H v D L
  | .nil => .nil
  | .cons h1 h2 => .cons (Tr.fr h1) (TrA.fr h2)
end
/-- a thing made since H -/
structure New (K : PySem.W.Frag) (H H' : Hp) (v : V) (D : PyData) (L : List Addr) : Prop where
  fr : Fr id K H' v D L
  nd : L.Nodup
  nw : ∀ x ∈ L, H x = none
theorem New.ago {K : PySem.W.Frag} {H0 H H' : Hp} {v : V} {D : PyData} {L : List Addr} (h : New K H H' v D L) (s : ∀ x, H x = none → H0 x = none) : New K H0 H' v D L := ⟨h.fr, h.nd, fun x hx => s x (h.nw x hx)⟩
theorem k_isiLT {K : PySem.W.Frag} {H : Hp} {Q : VK} {p : Addr} {xs : List V} (hs : SqL K H p xs) (h : Q (.bl false) H) : rIsi K [.ref p, .ty "tuple"] H Q := k_isi (ty_list hs) (by decide +kernel) h
theorem ty_tupX {K : PySem.W.Frag} {H : Hp} {p : Addr} {xs : List V} (h : SqT K H p xs) : TyX K H (.ref p) (.type "tuple") := by
  rcases h with (h | ⟨o, h⟩) | ⟨o, its, n, h, c, _⟩
  · exact .base (.tup h)
  · exact .fTuple h
  · exact .kTuple h c
theorem k_isiTp {K : PySem.W.Frag} {H : Hp} {Q : VK} {p : Addr} {xs : List V} (hs : SqT K H p xs) (h : Q (.bl true) H) : rIsi K [.ref p, .ty "tuple"] H Q := k_isi (ty_tupX hs) (by decide +kernel) h
def pr_case_made (K : PySem.W.Frag) (d : Nat) (v0 : V) (H : Hp) (Q : VK) (_ : XK) : Prop := ∃ (t : Th), Dp K H v0 (dG t) ∧ thD t ≤ d ∧ thOk isLf 20000 t = true ∧ ∀ v L H', Same H H' → Tr id K H' v (dC t) L → L.Nodup → (∀ x ∈ L, H x = none) → Q v H'
def spd_case_made (K : PySem.W.Frag) : Nat → Sp
  | 0 => fun _ _ _ _ => False
  | d + 1 => fun vs H Q E => ∃ v0, vs = [v0] ∧ pr_case_made K d v0 H Q E
def t_case_made (K : PySem.W.Frag) (sp : Sp) : TS :=
  (tSeq (tIfS (tB (tCB (rIsi K) (tCons (tVar 0) (tCons (tC (.ty "tuple")) tNil)))) (tRet (tVar 0)) tNext)
    (tRet (tTup (tCons (tOp (rIxL K) (tVar 0) (tC (.int 0))) (tCons (tLc (iList K (tSl (rSlL K) (tVar 0) (tPart (tC (.int 1))) tNoPart)) (gName 1) tYes (tCall sp [] E0 (tCons (tVar 1) tNil)) [1]) tNil)))))
theorem pure_case_made {d : Nat} {v0 : V} {H : Hp} {Q : VK} {E : XK} (h : pr_case_made K d v0 H Q E) : t_case_made K (spd_case_made K d) ⟨fun _ H' => Q .non H', Q, fun _ _ => False, fun _ _ => False⟩ [some v0, none] H := by
  obtain ⟨t, dv, hd, ok, q⟩ := h
  unfold t_case_made
  cases t with
  | ties a b => cases ok
  | lf =>
    obtain ⟨p, xs, rfl, hp, dx⟩ := dp_tup dv
    have : xs = [] := by
      have := dpa_len dx
      cases xs with
      | nil => rfl
      | cons x xs => cases this
    subst this
    wtm_at "s"
    refine k_isiTp hp ?_
    wtm_at "s"
    exact q _ [] H (Same.refl _) (.emp hp) List.nodup_nil fun x z => nomatch z
  | node n cs =>
    rw [dG_node] at dv
    obtain ⟨okl, okc⟩ := thOk_node.mp ok
    obtain ⟨p, xs, rfl, hp, dx⟩ := dp_list dv
    obtain ⟨x0, xs, rfl, dx0, dxs⟩ : ∃ x ys, xs = x :: ys ∧ Dp K H x (.int n) ∧ DpAll K H ys (cs.map dG) := by
      cases dx with
      | cons h1 h2 => exact ⟨_, _, rfl, h1, h2⟩
    obtain rfl := dp_int dx0
    have lx := dpa_len dxs
    rw [List.length_map] at lx
    obtain ⟨d, rfl⟩ : ∃ d', d = d' + 1 := ⟨d - 1, by have : thDA cs + 1 ≤ d := hd; omega⟩
    have hdc : ∀ c ∈ cs, thD c ≤ d := fun c hc => by have h1 := thDA_mem hc; have : thDA cs + 1 ≤ d + 1 := hd; omega
    wtm_at "s"
    refine k_isiLT hp ?_
    wtm_at "s"
    refine k_ixL hp (show atI (V.int n :: xs) 0 = some (V.int n) from atI_nat (j := 0) rfl) ?_
    wtm_at "s"
    refine k_slL hp (fun q1 H1 nq s1 e1 => ?_)
    rw [show cutV (V.int n :: xs) (some 1) none = xs from by rw [show (some (1 : Int)) = some ((1 : Nat) : Int) from rfl, cut_from]; rfl] at e1
    wtm_at "s"
    refine lc_tr (sl e1) cs lx (by omega) dC ?_ (fun D ys L H2 nD s2 eD tr nd fr nDL => ?_) (fun x σ' H q q' h hh => h _ _ hh)
    · intro i x c H' hx hc sm R g1
      obtain ⟨c', hc', dc⟩ := dpa_get dxs hx
      rw [List.getElem?_map, hc] at hc'
      cases hc'
      wtm_at "s"
      refine ⟨_, rfl, c, dp_same (s1.trans sm) dc, hdc c (List.mem_of_getElem? hc), okc c (List.mem_of_getElem? hc), fun v L H'' s' t' nd' fr' => ?_⟩
      exact g1 v L H'' s' t' nd' fr'
    · wtm_at "s"
      refine kT (by simp) (fun r H3 nr s3 e3 => ?_)
      rw [dC_node] at q
      have s03 := s1.trans (s2.trans s3)
      refine q _ (D :: L) H3 s03 (.mk (stp e3) (s3 _ _ eD) (tr.same s3)) (List.nodup_cons.mpr ⟨nDL, nd⟩) fun x hx => ?_
      rcases List.mem_cons.mp hx with rfl | hx
      · exact s1.free nD
      · exact s1.free (fr x hx)
theorem okd_case_made (T : Txt K mg A) : ∀ d : Nat, FnOk P w K mg base CX0 (1 + d) A.a_case_made A.d_case_made ["thing"] (spd_case_made K d)
  | 0 => T.F_case_made.ok sc_case_made (fun vs H Q E h => False.elim h) (fun cdv A0 outer s H vs Q E hr h => False.elim h)
  | d + 1 => by
    refine T.F_case_made.ok sc_case_made (fun vs H Q E h => by obtain ⟨v0, rfl, _⟩ := h; rfl) (fun cdv A0 outer s H vs Q E hr h => ?_)
    obtain ⟨v0, rfl, h⟩ := h
    exact ⟨t_case_made K (spd_case_made K d), (pss_cons (ps_if (pt_val (pe_callB q_isi (by rfl) T.z_isinstance (by decide +kernel) (pa_cons (pv 0) (pa_cons (pe_bltn (v := .ty "tuple") (by rfl) T.z_tuple (by decide +kernel) rfl) pa_nil)))) (pss_one (ps_ret (pv 0))) pss_nil)
      (pss_one (ps_ret (pe_tup (pa_cons (pe_ix ix_list (pv 0) pe_int (fun _ _ => rfl)) (pa_cons (pe_lc (own := [("child", 1)]) (by rfl) sc_case_made.nd (pi_list (pe_slice sl_list (pv 0) (po_some pe_int) po_none)) (blkOk_by (own := [("child", 1)]) (N := ["thing", "child"]) (sc := defScope s_case_made) (by decide +kernel)) (fun _ _ _ _ _ => (pg_name (i := 1) sc_case_made.nd rfl (Or.inl rfl))) (fun _ _ _ _ _ => pts_nil) (fun _ _ _ _ _ => (pe_call (okd_case_made T d) (hr.mono (by first | decide | omega | (simp only [Nat.add_eq]; omega))) (by rfl) T.g_case_made T.F_case_made.kp T.b_case_made .nil pass0 (pa_cons (pv 1) pa_nil)))) pa_nil)))))), pure_case_made h⟩
abbrev sp_case_made (K : PySem.W.Frag) : Sp := fun vs H Q E => ∃ v0, vs = [v0] ∧ ∃ d : Nat, d < 44 ∧ pr_case_made K d v0 H Q E
theorem ok_case_made (T : Txt K mg A) : FnOk P w K mg base CX0 45 A.a_case_made A.d_case_made ["thing"] (sp_case_made K) := by
  refine T.F_case_made.ok sc_case_made (fun vs H Q E h => by obtain ⟨v0, rfl, _⟩ := h; rfl) (fun cdv A0 outer s H vs Q E hr h => ?_)
  obtain ⟨v0, rfl, d, hd, h⟩ := h
  exact ⟨t_case_made K (spd_case_made K d), (pss_cons (ps_if (pt_val (pe_callB q_isi (by rfl) T.z_isinstance (by decide +kernel) (pa_cons (pv 0) (pa_cons (pe_bltn (v := .ty "tuple") (by rfl) T.z_tuple (by decide +kernel) rfl) pa_nil)))) (pss_one (ps_ret (pv 0))) pss_nil)
      (pss_one (ps_ret (pe_tup (pa_cons (pe_ix ix_list (pv 0) pe_int (fun _ _ => rfl)) (pa_cons (pe_lc (own := [("child", 1)]) (by rfl) sc_case_made.nd (pi_list (pe_slice sl_list (pv 0) (po_some pe_int) po_none)) (blkOk_by (own := [("child", 1)]) (N := ["thing", "child"]) (sc := defScope s_case_made) (by decide +kernel)) (fun _ _ _ _ _ => (pg_name (i := 1) sc_case_made.nd rfl (Or.inl rfl))) (fun _ _ _ _ _ => pts_nil) (fun _ _ _ _ _ => (pe_call (okd_case_made T d) (hr.mono (by first | decide | omega | (simp only [Nat.add_eq]; omega))) (by rfl) T.g_case_made T.F_case_made.kp T.b_case_made .nil pass0 (pa_cons (pv 1) pa_nil)))) pa_nil)))))), pure_case_made h⟩


theorem bin_node {n : Int} {x y : Th} : bin (.node n [x, y]) = (bin x && bin y) := by
  show (decide ([x, y].length = 2) && (bin x && (bin y && true))) = _
  rw [decide_eq_true (by rfl), Bool.true_and, Bool.and_true]
def pr_Words_turns_made (K : PySem.W.Frag) (A : Ad) (d : Nat) (v0 v1 : V) (H : Hp) (Q : VK) (E : XK) : Prop := ∃ o wl dx ws i t, v0 = .ref o ∧ WoAt A H o wl dx ws i ∧ Dp K H v1 (dG t) ∧ thD t ≤ d ∧ thOk isTi 20000 t = true ∧
  (bin t = false → ∀ c H', H c = none → Same H H' → H' c = some (.xd [(Str.ofString "row", V.int 0)]) → E (.ref A.c_NoText) (some c) H') ∧ (bin t = true → ∀ v H', Same H H' → Fr id K H' v (dT t) [] → Q v H')
def spd_Words_turns_made (K : PySem.W.Frag) (A : Ad) : Nat → Sp
  | 0 => fun _ _ _ _ => False
  | d + 1 => fun vs H Q E => ∃ v0 v1, vs = [v0, v1] ∧ pr_Words_turns_made K A d v0 v1 H Q E
def t_Words_turns_made (K : PySem.W.Frag) (A : Ad) (E : XK) (sp : Sp) : TS :=
  (tSeq (tIfS (tB (tCB (rIsi K) (tCons (tVar 1) (tCons (tC (.ty "tuple")) tNil)))) (tRet (tVar 1)) tNext)
    (tSeq (tDrop (tMeth A.c_Words "must" (sp_Words_must K A) [] E (tVar 0) (tCons (tOp rEq (tCB (rLenX K) (tCons (tVar 1) tNil)) (tC (.int 3))) tNil)))
    (tRet (tTup (tCons (tOp (rIxL K) (tVar 1) (tC (.int 0))) (tCons (tMeth A.c_Words "turns_made" sp [] E (tVar 0) (tCons (tOp (rIxL K) (tVar 1) (tC (.int 1))) tNil)) (tCons (tMeth A.c_Words "turns_made" sp [] E (tVar 0) (tCons (tOp (rIxL K) (tVar 1) (tC (.int 2))) tNil)) tNil)))))))
theorem pure_Words_turns_made (T : Txt K mg A) {d : Nat} {v0 v1 : V} {H : Hp} {Q : VK} {E : XK} (h : pr_Words_turns_made K A d v0 v1 H Q E) : t_Words_turns_made K A E (spd_Words_turns_made K A d) ⟨fun _ H' => Q .non H', Q, fun _ _ => False, fun _ _ => False⟩ [some v0, some v1] H := by
  obtain ⟨o, wl, dx, ws, i, t, rfl, W, dv, hd, ok, qe, q⟩ := h
  unfold t_Words_turns_made
  cases t with
  | lf => cases ok
  | ties a b =>
    obtain ⟨p, xs, rfl, hp, dx'⟩ := dp_tup dv
    wtm_at "s"
    refine k_isiTp hp ?_
    wtm_at "s"
    refine q rfl _ H (Same.refl _) (.tup hp ?_)
    cases dx' with
    | cons h1 h2 => cases h2 with
      | cons h3 h4 => cases h4 with
        | cons h5 h6 =>
          cases h6
          obtain rfl := dp_str h1
          obtain rfl := dp_int h3
          obtain rfl := dp_int h5
          exact .cons (L1 := []) (.str _) (.cons (L1 := []) (.int _) (.cons (L1 := []) (.int _) .nil))
  | node n cs =>
    rw [dG_node] at dv
    obtain ⟨okl, okc⟩ := thOk_node.mp ok
    obtain ⟨p, xs, rfl, hp, dxx⟩ := dp_list dv
    obtain ⟨x0, xs, rfl, dx0, dxs⟩ : ∃ x ys, xs = x :: ys ∧ Dp K H x (.int n) ∧ DpAll K H ys (cs.map dG) := by
      cases dxx with
      | cons h1 h2 => exact ⟨_, _, rfl, h1, h2⟩
    obtain rfl := dp_int dx0
    have lx := dpa_len dxs
    rw [List.length_map] at lx
    obtain ⟨d, rfl⟩ : ∃ d', d = d' + 1 := ⟨d - 1, by have : thDA cs + 1 ≤ d := hd; omega⟩
    have hdc : ∀ c ∈ cs, thD c ≤ d := fun c hc => by have h1 := thDA_mem hc; have : thDA cs + 1 ≤ d + 1 := hd; omega
    wtm_at "s"
    refine k_isiLT hp ?_
    wtm_at "s"
    refine k_mF W.ins rfl ?_
    wtm_at "s"
    refine ⟨_, _, rfl, _, rfl, fun hb => ?_, fun hb => qe ?_⟩
    rotate_left
    · have hb := of_decide_eq_false hb
      refine bin_len fun z => hb ?_
      simp only [List.length_cons, lx, z]; decide
    have hb := of_decide_eq_true hb
    match cs, xs, lx, dxs, okc, hdc, hb with
    | [], [], _, _, _, _, hb => exact absurd hb (by simp)
    | [_], [_], _, _, _, _, hb => exact absurd hb (by simp)
    | _ :: _ :: _ :: _, _ :: _ :: _ :: _, _, _, _, _, hb => exact absurd hb (by simp only [List.length_cons]; omega)
    | [x, y], [a, b], _, dxs, okc, hdc, hb =>
      obtain ⟨da, db⟩ : Dp K H a (dG x) ∧ Dp K H b (dG y) := by
        cases dxs with
        | cons h1 h2 => cases h2 with
          | cons h3 h4 => exact ⟨h1, h3⟩
      wtm_at "s"
      refine k_ixL hp (show atI [V.int n, a, b] 0 = some (V.int n) from atI_nat (j := 0) rfl) ?_
      wtm_at "s"
      refine k_mF W.ins rfl ?_
      wtm_at "s"
      refine k_ixL hp (show atI [V.int n, a, b] 1 = some a from atI_nat (j := 1) rfl) ?_
      wtm_at "s"
      refine ⟨_, _, rfl, o, wl, dx, ws, i, x, rfl, W, da, hdc x (by simp), okc x (by simp), fun bx => qe (by rw [bin_node, bx]; rfl), fun bx v1 H1 s1 d1 => ?_⟩
      wtm_at "s"
      refine k_mF (W.same s1).ins rfl ?_
      wtm_at "s"
      refine k_ixL (s1.seq hp) (show atI [V.int n, a, b] 2 = some b from atI_nat (j := 2) rfl) ?_
      wtm_at "s"
      refine ⟨_, _, rfl, o, wl, dx, ws, i, y, rfl, W.same s1, dp_same s1 db, hdc y (by simp), okc y (by simp), fun by' c H' nc s ec => qe (by rw [bin_node, by', Bool.and_false]) c H' (s1.free nc) (s1.trans s) ec, fun by' v2 H2 s2 d2 => ?_⟩
      wtm_at "s"
      refine kT (by simp) (fun r H3 nr s3 e3 => ?_)
      refine q (by rw [bin_node, bx, by']; rfl) _ H3 (s1.trans (s2.trans s3)) ?_
      rw [dT_node]
      exact .tup (stp e3) (.cons (L1 := []) (.int n) (.cons (L1 := []) (d1.same (s2.trans s3)) (.cons (L1 := []) (d2.same s3) .nil)))
theorem okd_Words_turns_made (T : Txt K mg A) : ∀ d : Nat, FnOk P w K mg base (L2.CX P w) (4 + d) A.a_Words_turns_made A.d_Words_turns_made ["self", "thing"] (spd_Words_turns_made K A d)
  | 0 => T.F_Words_turns_made.okX sc_Words_turns_made (fun vs H Q E h => False.elim h) (fun cdv A0 outer s H vs Q E hr h => False.elim h)
  | d + 1 => by
    refine T.F_Words_turns_made.okX sc_Words_turns_made (fun vs H Q E h => by obtain ⟨v0, v1, rfl, _⟩ := h; rfl) (fun cdv A0 outer s H vs Q E hr h => ?_)
    obtain ⟨v0, v1, rfl, h⟩ := h
    exact ⟨t_Words_turns_made K A E (spd_Words_turns_made K A d), (pss_cons (ps_if (pt_val (pe_callB q_isi (by rfl) T.z_isinstance (by decide +kernel) (pa_cons (pv 1) (pa_cons (pe_bltn (v := .ty "tuple") (by rfl) T.z_tuple (by decide +kernel) rfl) pa_nil)))) (pss_one (ps_ret (pv 1))) pss_nil)
      (pss_cons (ps_expr (pe_meth (E := E) (pv 0) T.K_Words T.Me_Words_must (ok_Words_must T) (hr.mono (by first | decide | omega | (simp only [Nat.add_eq]; omega))) T.b_Words_must .nil (passes_call (takes_of rfl rfl rfl rfl) (fun _ _ _ _ h => h)) (pa_cons (pe_cmpR op_eq (pe_callB q_len (by rfl) T.z_len (by decide +kernel) (pa_cons (pv 1) pa_nil)) pe_int (nomark _)) pa_nil)))
      (pss_one (ps_ret (pe_tup (pa_cons (pe_ix ix_list (pv 1) pe_int (fun _ _ => rfl)) (pa_cons (pe_meth (E := E) (pv 0) T.K_Words T.Me_Words_turns_made (okd_Words_turns_made T d) (hr.mono (by first | decide | omega | (simp only [Nat.add_eq]; omega))) T.b_Words_turns_made .nil (passes_call (takes_of rfl rfl rfl rfl) (fun _ _ _ _ h => h)) (pa_cons (pe_ix ix_list (pv 1) pe_int (fun _ _ => rfl)) pa_nil)) (pa_cons (pe_meth (E := E) (pv 0) T.K_Words T.Me_Words_turns_made (okd_Words_turns_made T d) (hr.mono (by first | decide | omega | (simp only [Nat.add_eq]; omega))) T.b_Words_turns_made .nil (passes_call (takes_of rfl rfl rfl rfl) (fun _ _ _ _ h => h)) (pa_cons (pe_ix ix_list (pv 1) pe_int (fun _ _ => rfl)) pa_nil)) pa_nil)))))))), pure_Words_turns_made T h⟩
abbrev sp_Words_turns_made (K : PySem.W.Frag) (A : Ad) : Sp := fun vs H Q E => ∃ v0 v1, vs = [v0, v1] ∧ ∃ d : Nat, d < 44 ∧ pr_Words_turns_made K A d v0 v1 H Q E
theorem ok_Words_turns_made (T : Txt K mg A) : FnOk P w K mg base (L2.CX P w) 48 A.a_Words_turns_made A.d_Words_turns_made ["self", "thing"] (sp_Words_turns_made K A) := by
  refine T.F_Words_turns_made.okX sc_Words_turns_made (fun vs H Q E h => by obtain ⟨v0, v1, rfl, _⟩ := h; rfl) (fun cdv A0 outer s H vs Q E hr h => ?_)
  obtain ⟨v0, v1, rfl, d, hd, h⟩ := h
  exact ⟨t_Words_turns_made K A E (spd_Words_turns_made K A d), (pss_cons (ps_if (pt_val (pe_callB q_isi (by rfl) T.z_isinstance (by decide +kernel) (pa_cons (pv 1) (pa_cons (pe_bltn (v := .ty "tuple") (by rfl) T.z_tuple (by decide +kernel) rfl) pa_nil)))) (pss_one (ps_ret (pv 1))) pss_nil)
      (pss_cons (ps_expr (pe_meth (E := E) (pv 0) T.K_Words T.Me_Words_must (ok_Words_must T) (hr.mono (by first | decide | omega | (simp only [Nat.add_eq]; omega))) T.b_Words_must .nil (passes_call (takes_of rfl rfl rfl rfl) (fun _ _ _ _ h => h)) (pa_cons (pe_cmpR op_eq (pe_callB q_len (by rfl) T.z_len (by decide +kernel) (pa_cons (pv 1) pa_nil)) pe_int (nomark _)) pa_nil)))
      (pss_one (ps_ret (pe_tup (pa_cons (pe_ix ix_list (pv 1) pe_int (fun _ _ => rfl)) (pa_cons (pe_meth (E := E) (pv 0) T.K_Words T.Me_Words_turns_made (okd_Words_turns_made T d) (hr.mono (by first | decide | omega | (simp only [Nat.add_eq]; omega))) T.b_Words_turns_made .nil (passes_call (takes_of rfl rfl rfl rfl) (fun _ _ _ _ h => h)) (pa_cons (pe_ix ix_list (pv 1) pe_int (fun _ _ => rfl)) pa_nil)) (pa_cons (pe_meth (E := E) (pv 0) T.K_Words T.Me_Words_turns_made (okd_Words_turns_made T d) (hr.mono (by first | decide | omega | (simp only [Nat.add_eq]; omega))) T.b_Words_turns_made .nil (passes_call (takes_of rfl rfl rfl rfl) (fun _ _ _ _ h => h)) (pa_cons (pe_ix ix_list (pv 1) pe_int (fun _ _ => rfl)) pa_nil)) pa_nil)))))))), pure_Words_turns_made T h⟩


theorem lit_eq {s : String} {u : Wd} {H : Hp} {Q : VK} (h : Q (.bl (decide (u = ww s))) H) : rEq (.str (mkS u)) (.str (Str.ofString s)) H Q := k_eqS (by rw [← mk_ww s, dec_mk]; exact h)
def pr_Words_paper (K : PySem.W.Frag) (A : Ad) (v0 : V) (H : Hp) (Q : VK) (E : XK) : Prop := ∃ o wl dx ws i, v0 = .ref o ∧ WoAt A H o wl dx ws i ∧ Rdr A o wl dx ws H Q E (papR (ws.drop i)) (fun D v H' => ∃ L, New K H H' v D L)
def t_Words_paper (K : PySem.W.Frag) (A : Ad) (E : XK) : TS :=
  (tSeq (tAsg (tMeth A.c_Words "look" (sp_Words_look K A) [] E0 (tVar 0) tNil) (gName 1))
    (tSeq (sFldAug K (tVar 0) (tC (.int 1)) L2.rAdd "at")
    (tSeq (tIfS (tTest (tOp rEq (tVar 1) (tC (.str (Str.ofString "none"))))) (tRet (tTup (tCons (tVar 1) tNil))) tNext)
    (tSeq (tIfS (tTest (tOp rEq (tVar 1) (tC (.str (Str.ofString "case"))))) (tRet (tTup (tCons (tVar 1) (tCons (tCall (sp_case_made K) [] E0 (tCons (tMeth A.c_Words "opened" (sp_Words_opened K A) [] E (tVar 0) (tCons (tC (.str (Str.ofString "."))) tNil)) tNil)) tNil)))) tNext)
    (tSeq (tIfS (tTest (tOp rEq (tVar 1) (tC (.str (Str.ofString "turn"))))) (tRet (tTup (tCons (tVar 1) (tCons (tMeth A.c_Words "turns_made" (sp_Words_turns_made K A) [] E (tVar 0) (tCons (tMeth A.c_Words "opened" (sp_Words_opened K A) [] E (tVar 0) (tCons (tC (.str (Str.ofString "="))) tNil)) tNil)) tNil)))) tNext)
    (tSeq (tIfS (tTest (tOp rEq (tVar 1) (tC (.str (Str.ofString "tie"))))) (tRet (tTup (tCons (tVar 1) (tCons (tMeth A.c_Words "number" (sp_Words_number K A) [] E (tVar 0) tNil) tNil)))) tNext)
    (tSeq (tDrop (tMeth A.c_Words "must" (sp_Words_must K A) [] E (tVar 0) (tCons (tOp rEq (tVar 1) (tC (.str (Str.ofString "lot")))) tNil)))
    (tRet (tTup (tCons (tVar 1) (tCons (tMeth A.c_Words "number" (sp_Words_number K A) [] E (tVar 0) tNil) (tCons (tMeth A.c_Words "numbers" (sp_Words_numbers K A) [] E (tVar 0) tNil) tNil))))))))))))
theorem pure_Words_paper (T : Txt K mg A) {v0 : V} {H : Hp} {Q : VK} {E : XK} (h : pr_Words_paper K A v0 H Q E) : t_Words_paper K A E ⟨fun _ H' => Q .non H', Q, fun _ _ => False, fun _ _ => False⟩ [some v0, none] H := by
  obtain ⟨o, wl, dx, ws, i, rfl, W, R⟩ := h
  unfold t_Words_paper
  wtm_at "s"
  refine k_mF W.ins rfl ?_
  wtm_at "s"
  refine ⟨_, rfl, o, wl, dx, ws, i, rfl, W, fun e => ?_, fun u r e => ?_⟩
  · have no := R.no (by rw [e]; rfl)
    wtm_at "s"
    refine k_augAt rfl W.ins T.K_Words T.N_Words_at rfl (show 2 < 1000 by decide) ?_
    have s1 : Same (hid [o] H) (hid [o] (upd H o (.ins A.c_Words dx (putF (Str.ofString "at") (.int ((i : Nat) + 1)) (woF wl i))))) := by rw [hid_upd (by simp)]; exact Same.refl _
    have i1 : upd H o (.ins A.c_Words dx (putF (Str.ofString "at") (.int ((i : Nat) + 1)) (woF wl i))) o = some (.ins A.c_Words dx (woF wl (i + 1))) := by rw [upd_same]; rfl
    generalize upd H o (.ins A.c_Words dx (putF (Str.ofString "at") (.int ((i : Nat) + 1)) (woF wl i))) = H1 at s1 i1 ⊢
    wtm_at "s"
    refine lit_eq ?_
    rw [decide_eq_false (show ¬ ([] : Wd) = ww "none" by unfold ww; rw [sg_str]; decide)]
    wtm_at "s"
    refine lit_eq ?_
    rw [decide_eq_false (show ¬ ([] : Wd) = ww "case" by unfold ww; rw [sg_str]; decide)]
    wtm_at "s"
    refine lit_eq ?_
    rw [decide_eq_false (show ¬ ([] : Wd) = ww "turn" by unfold ww; rw [sg_str]; decide)]
    wtm_at "s"
    refine lit_eq ?_
    rw [decide_eq_false (show ¬ ([] : Wd) = ww "tie" by unfold ww; rw [sg_str]; decide)]
    wtm_at "s"
    refine k_mF i1 rfl ?_
    wtm_at "s"
    refine lit_eq ?_
    rw [decide_eq_false (show ¬ ([] : Wd) = ww "lot" by unfold ww; rw [sg_str]; decide)]
    wtm_at "s"
    exact ⟨_, _, rfl, false, rfl, (fun z => by cases z), fun _ c H' nc s ec => no c H' (free_back' s1 i1 nc) (s1.trans (hid_mono s)) ec⟩
  · obtain ⟨h1, h2, h3⟩ := drop_at e
    rw [e] at R
    wtm_at "s"
    refine k_augAt rfl W.ins T.K_Words T.N_Words_at rfl (show 2 < 1000 by decide) ?_
    rw [woF_put (by omega)]
    have s1 : Same (hid [o] H) (hid [o] (upd H o (.ins A.c_Words dx (woF wl (i + 1))))) := by rw [hid_upd (by simp)]; exact Same.refl _
    have W1 := W.step h3
    generalize upd H o (.ins A.c_Words dx (woF wl (i + 1))) = H1 at s1 W1 ⊢
    have i1 := W1.ins
    have lr20 : r.length ≤ 20000 := by
      have l1 : (ws.drop (i + 1)).length = r.length := by rw [h2]
      rw [List.length_drop] at l1
      have := W.len
      omega
    have back : ∀ x, H1 x = none → H x = none := fun x hx => free_back' s1 i1 hx
    wtm_at "s"
    refine lit_eq ?_
    by_cases c1 : u = ww "none"
    · rw [decide_eq_true c1]
      wtm_at "s"
      refine kT (by simp) (fun p H2 np s2 e2 => ?_)
      refine R.yes (.tuple [.str (Str.ofString "none")]) r (by rw [papR, if_pos c1]) _ H2 (i + 1) (s1.trans (hid_mono s2)) (W1.same s2) h2 ⟨[], ⟨.tup (stp e2) ?_, List.nodup_nil, fun x z => nomatch z⟩⟩
      rw [c1, mk_ww]
      exact .cons (L1 := []) (.str _) .nil
    rw [decide_eq_false c1]
    wtm_at "s"
    refine lit_eq ?_
    by_cases c2 : u = ww "case"
    · rw [decide_eq_true c2]
      have pe : papR (u :: r) = match rdG lfC 40 r with | some (t, r') => some (.tuple [.str (Str.ofString "case"), dC t], r') | none => none := by rw [papR, if_neg c1, if_pos c2] <;> rfl
      wtm_at "s"
      refine k_mF i1 rfl ?_
      wtm_at "s"
      refine ⟨_, _, rfl, o, wl, dx, ws, i + 1, wDot, lrC, lfC, rfl, by rw [← mkS_sg (Str.ofString "."), sg_str]; rfl, .dot, W1, ⟨fun z => (R.no ?_).step s1 i1, fun t r' et v H2 i2 s2 W2 d2 dv => ?_⟩⟩
      · rw [h2] at z
        rw [pe, z]
      rw [h2] at et
      have okt := rdG_ok lf_c (fun _ _ _ h => lfC_is h) (N := 20000) 40 _ _ _ lr20 et
      wtm_at "s"
      refine ⟨_, rfl, 40, by decide, t, dp_same (hid_same _ _) dv, okt.1, okt.2, fun v3 L H3 s3 t3 nd3 fr3 => ?_⟩
      wtm_at "s"
      refine kT (by simp) (fun p H4 np s4 e4 => ?_)
      refine R.yes _ r' (by rw [pe, et]) _ H4 i2 (s1.trans (s2.trans (hid_mono (s3.trans s4)))) (W2.same (s3.trans s4)) d2 ⟨L, ⟨.tup (stp e4) ?_, nd3, fun x hx => back x (free_back' s2 W2.ins (fr3 x hx))⟩⟩
      rw [c2, mk_ww]
      have := FrA.cons (f := id) (K := K) (H := H4) (.str (Str.ofString "case")) (.cons (t3.fr.same s4) .nil)
      rw [List.append_nil, List.nil_append] at this
      exact this
    rw [decide_eq_false c2]
    wtm_at "s"
    refine lit_eq ?_
    by_cases c3 : u = ww "turn"
    · rw [decide_eq_true c3]
      have pe : papR (u :: r) = match isB (rdG lfT 40 r) with | some (t, r') => some (.tuple [.str (Str.ofString "turn"), dT t], r') | none => none := by rw [papR, if_neg c1, if_neg c2, if_pos c3] <;> rfl
      wtm_at "s"
      refine k_mF i1 rfl ?_
      wtm_at "s"
      refine k_mF i1 rfl ?_
      wtm_at "s"
      refine ⟨_, _, rfl, o, wl, dx, ws, i + 1, wEq, lrT, lfT, rfl, by rw [← mkS_sg (Str.ofString "="), sg_str]; rfl, .eq, W1, ⟨fun z => (R.no ?_).step s1 i1, fun t r' et v H2 i2 s2 W2 d2 dv => ?_⟩⟩
      · rw [h2] at z
        rw [pe, z]; rfl
      rw [h2] at et
      have okt := rdG_ok lf_t (fun _ _ _ h => lfT_is h) (N := 20000) 40 _ _ _ lr20 et
      wtm_at "s"
      refine ⟨_, _, rfl, 40, by decide, o, wl, dx, ws, i2, t, rfl, W2, dp_same (hid_same _ _) dv, okt.1, okt.2, fun bf c H' nc s ec => ?_, fun bt v3 H3 s3 t3 => ?_⟩
      · refine R.no ?_ c H' (back c (free_back' s2 W2.ins nc)) (s1.trans (s2.trans (hid_mono s))) ec
        rw [pe, et, isB_some, bf]; rfl
      wtm_at "s"
      refine kT (by simp) (fun p H4 np s4 e4 => ?_)
      refine R.yes _ r' (by rw [pe, et, isB_some, if_pos bt]) _ H4 i2 (s1.trans (s2.trans (hid_mono (s3.trans s4)))) (W2.same (s3.trans s4)) d2 ⟨[], ⟨.tup (stp e4) ?_, List.nodup_nil, fun x z => nomatch z⟩⟩
      rw [c3, mk_ww]
      exact FrA.cons (L1 := []) (.str (Str.ofString "turn")) (.cons (L1 := []) (t3.same s4) .nil)
    rw [decide_eq_false c3]
    wtm_at "s"
    refine lit_eq ?_
    by_cases c4 : u = ww "tie"
    · rw [decide_eq_true c4]
      have pe : papR (u :: r) = match numR r with | some (k, r') => some (.tuple [.str (Str.ofString "tie"), .int k], r') | none => none := by rw [papR, if_neg c1, if_neg c2, if_neg c3, if_pos c4] <;> rfl
      wtm_at "s"
      refine k_mF i1 rfl ?_
      wtm_at "s"
      refine ⟨_, rfl, o, wl, dx, ws, i + 1, rfl, W1, ⟨fun z => (R.no ?_).step s1 i1, fun k r' ek v H2 i2 s2 W2 d2 gv => ?_⟩⟩
      · rw [h2] at z
        rw [pe, z]
      subst gv
      rw [h2] at ek
      wtm_at "s"
      refine kT (by simp) (fun p H4 np s4 e4 => ?_)
      refine R.yes _ r' (by rw [pe, ek]) _ H4 i2 (s1.trans (s2.trans (hid_mono s4))) (W2.same s4) d2 ⟨[], ⟨.tup (stp e4) ?_, List.nodup_nil, fun x z => nomatch z⟩⟩
      rw [c4, mk_ww]
      exact .cons (L1 := []) (.str _) (.cons (L1 := []) (.int _) .nil)
    rw [decide_eq_false c4]
    wtm_at "s"
    refine k_mF i1 rfl ?_
    wtm_at "s"
    refine lit_eq ?_
    wtm_at "s"
    refine ⟨_, _, rfl, _, rfl, fun hb => ?_, fun hb c H' nc s ec => R.no ?_ c H' (back c nc) (s1.trans (hid_mono s)) ec⟩
    rotate_left
    · rw [papR, if_neg c1, if_neg c2, if_neg c3, if_neg c4, if_neg (of_decide_eq_false hb)]
    have c5 := of_decide_eq_true hb
    have pe : papR (u :: r) = match numR r with | some (k, r') => some (.tuple [.str (Str.ofString "lot"), .int k, dInts (runN r').1], (runN r').2) | none => none := by rw [papR, if_neg c1, if_neg c2, if_neg c3, if_neg c4, if_pos c5] <;> rfl
    wtm_at "s"
    refine k_mF i1 rfl ?_
    wtm_at "s"
    refine ⟨_, rfl, o, wl, dx, ws, i + 1, rfl, W1, ⟨fun z => (R.no ?_).step s1 i1, fun k r' ek v H2 i2 s2 W2 d2 gv => ?_⟩⟩
    · rw [h2] at z
      rw [pe, z]
    subst gv
    rw [h2] at ek
    wtm_at "s"
    refine k_mF W2.ins rfl ?_
    wtm_at "s"
    refine ⟨_, rfl, o, wl, dx, ws, i2, rfl, W2, fun q H3 i3 s3 W3 d3 nq eq' => ?_⟩
    rw [d2] at d3 eq'
    wtm_at "s"
    refine kT (by simp) (fun p H4 np s4 e4 => ?_)
    refine R.yes _ _ (by rw [pe, ek]) _ H4 i3 (s1.trans (s2.trans (s3.trans (hid_mono s4)))) (W3.same s4) d3 ⟨[q], ⟨.tup (stp e4) ?_, by simp, fun x z => by rw [List.mem_singleton.mp z]; exact back q (free_back' s2 W2.ins nq)⟩⟩
    rw [c5, mk_ww]
    exact .cons (L1 := []) (.str _) (.cons (L1 := []) (.int _) (.cons (L1 := [q]) (fr_ints (s4 _ _ eq')) .nil))
abbrev sp_Words_paper (K : PySem.W.Frag) (A : Ad) : Sp := fun vs H Q E => ∃ v0, vs = [v0] ∧ pr_Words_paper K A v0 H Q E
theorem ok_Words_paper (T : Txt K mg A) : FnOk P w K mg base (L2.CX P w) 49 A.a_Words_paper A.d_Words_paper ["self"] (sp_Words_paper K A) := by
  refine T.F_Words_paper.okX sc_Words_paper (fun vs H Q E h => by obtain ⟨v0, rfl, _⟩ := h; rfl) (fun cdv A0 outer s H vs Q E hr h => ?_)
  obtain ⟨v0, rfl, h⟩ := h
  exact ⟨t_Words_paper K A E, (pss_cons (ps_set (i := 1) sc_Words_paper.nd rfl (Or.inl rfl) (pe_meth0 (pv 0) T.K_Words T.Me_Words_look (ok_Words_look T) (hr.mono (by decide)) T.b_Words_look .nil pass0 ))
      (pss_cons (ps_fldaug (pv 0) pe_int L2.in_add)
      (pss_cons (ps_if (pt_cmpR op_eq (pv 1) pe_str (nomark _)) (pss_one (ps_ret (pe_tup (pa_cons (pv 1) pa_nil)))) pss_nil)
      (pss_cons (ps_if (pt_cmpR op_eq (pv 1) pe_str (nomark _)) (pss_one (ps_ret (pe_tup (pa_cons (pv 1) (pa_cons (pe_call (ok_case_made T) (hr.mono (by decide)) (by rfl) T.g_case_made T.F_case_made.kp T.b_case_made .nil pass0 (pa_cons (pe_meth (E := E) (pv 0) T.K_Words T.Me_Words_opened (ok_Words_opened T) (hr.mono (by decide)) T.b_Words_opened .nil (passes_call (takes_of rfl rfl rfl rfl) (fun _ _ _ _ h => h)) (pa_cons pe_str pa_nil)) pa_nil)) pa_nil))))) pss_nil)
      (pss_cons (ps_if (pt_cmpR op_eq (pv 1) pe_str (nomark _)) (pss_one (ps_ret (pe_tup (pa_cons (pv 1) (pa_cons (pe_meth (E := E) (pv 0) T.K_Words T.Me_Words_turns_made (ok_Words_turns_made T) (hr.mono (by decide)) T.b_Words_turns_made .nil (passes_call (takes_of rfl rfl rfl rfl) (fun _ _ _ _ h => h)) (pa_cons (pe_meth (E := E) (pv 0) T.K_Words T.Me_Words_opened (ok_Words_opened T) (hr.mono (by decide)) T.b_Words_opened .nil (passes_call (takes_of rfl rfl rfl rfl) (fun _ _ _ _ h => h)) (pa_cons pe_str pa_nil)) pa_nil)) pa_nil))))) pss_nil)
      (pss_cons (ps_if (pt_cmpR op_eq (pv 1) pe_str (nomark _)) (pss_one (ps_ret (pe_tup (pa_cons (pv 1) (pa_cons (pe_meth0 (E := E) (pv 0) T.K_Words T.Me_Words_number (ok_Words_number T) (hr.mono (by decide)) T.b_Words_number .nil (passes_call (takes_of rfl rfl rfl rfl) (fun _ _ _ _ h => h)) ) pa_nil))))) pss_nil)
      (pss_cons (ps_expr (pe_meth (E := E) (pv 0) T.K_Words T.Me_Words_must (ok_Words_must T) (hr.mono (by decide)) T.b_Words_must .nil (passes_call (takes_of rfl rfl rfl rfl) (fun _ _ _ _ h => h)) (pa_cons (pe_cmpR op_eq (pv 1) pe_str (nomark _)) pa_nil)))
      (pss_one (ps_ret (pe_tup (pa_cons (pv 1) (pa_cons (pe_meth0 (E := E) (pv 0) T.K_Words T.Me_Words_number (ok_Words_number T) (hr.mono (by decide)) T.b_Words_number .nil (passes_call (takes_of rfl rfl rfl rfl) (fun _ _ _ _ h => h)) ) (pa_cons (pe_meth0 (E := E) (pv 0) T.K_Words T.Me_Words_numbers (ok_Words_numbers T) (hr.mono (by decide)) T.b_Words_numbers .nil (passes_call (takes_of rfl rfl rfl rfl) (fun _ _ _ _ h => h)) ) pa_nil))))))))))))), pure_Words_paper T h⟩


theorem k_catTx {K : PySem.W.Frag} {H : Hp} {Q : VK} {a b : Addr} {xs ys : List V} (hx : SqT K H a xs) (hy : SqT K H b ys) (hn : xs ≠ []) (hz : xs.length + ys.length ≤ 100000) (h : ∀ p H', Same H H' → SqT K H' p (xs ++ ys) → Q (.ref p) H') : rCatT K (.ref a) (.ref b) H Q :=
  ⟨a, b, xs, ys, rfl, rfl, hx, hy, hn, sz hz, fun e => h a H (Same.refl _) (by rw [e, List.append_nil]; exact hx), fun _ p np => h p _ (same_new np) (stp upd_same)⟩
def pr_told_of (K : PySem.W.Frag) (A : Ad) (v0 : V) (H : Hp) (Q : VK) (E : XK) : Prop := ∃ l : List Nat, v0 = .str (mkS l) ∧ l.length ≤ 19000 ∧ (toldF (splitL 32 l) = none → ∀ c H', H c = none → Same H H' → H' c = some (.xd [(Str.ofString "row", V.int 0)]) → E (.ref A.c_NoText) (some c) H') ∧ ∀ D, toldF (splitL 32 l) = some D → ∀ v L H', Same H H' → New K H H' v D L → Q v H'
def t_told_of (K : PySem.W.Frag) (A : Ad) (E : XK) : TS :=
  (tSeq (tAsg (tMake A.c_Words (sp_Words_init K A) [] E0 (tCons (tVar 0) tNil)) (gName 1))
    (tSeq (tAsg (tMeth A.c_Words "number" (sp_Words_number K A) [] E (tVar 1) tNil) (gName 2))
    (tSeq (tAsg (tTup (tCons (tVar 2) tNil)) (gName 3))
    (tSeq (tIfS (tTest (tOp rEq (tMeth A.c_Words "look" (sp_Words_look K A) [] E0 (tVar 1) tNil) (tC (.str (Str.ofString "turn"))))) (tSeq (tDrop (tMeth A.c_Words "take" (sp_Words_take K A) [] E (tVar 1) (tCons (tC (.str (Str.ofString "turn"))) tNil)))
    (tAsg (tTup (tCons (tVar 2) (tCons (tMeth A.c_Words "numbers" (sp_Words_numbers K A) [] E (tVar 1) tNil) tNil))) (gName 3))) tNext)
    (tSeq (tDrop (tMeth A.c_Words "take" (sp_Words_take K A) [] E (tVar 1) (tCons (tC (.str (Str.ofString "hues"))) tNil)))
    (tSeq (tAsg (tMeth A.c_Words "numbers" (sp_Words_numbers K A) [] E (tVar 1) tNil) (gName 4))
    (tSeq (tDrop (tMeth A.c_Words "take" (sp_Words_take K A) [] E (tVar 1) (tCons (tC (.str (Str.ofString "by"))) tNil)))
    (tSeq (tAsg (tMeth A.c_Words "paper" (sp_Words_paper K A) [] E (tVar 1) tNil) (gName 5))
    (tSeq (tDrop (tMeth A.c_Words "must" (sp_Words_must K A) [] E (tVar 1) (tCons (tMeth A.c_Words "ended" (sp_Words_ended K A) [] E0 (tVar 1) tNil) tNil)))
    (tRet (tOp (rCatT K) (tVar 3) (tTup (tCons (tVar 4) (tCons (tVar 5) tNil))))))))))))))
theorem hu_none {k : Int} {pre : List PyData} {ws : List Wd} (h : ws.head? ≠ some (ww "hues")) : huF k pre ws = none := by
  cases ws with
  | nil => rfl
  | cons w r => exact if_neg fun z => h (by rw [z]; rfl)
theorem hu_some {k : Int} {pre : List PyData} {w : Wd} {r : List Wd} (c : w = ww "hues") : huF k pre (w :: r) = byF k pre (runN r).1 (runN r).2 := if_pos c
theorem by_none {k : Int} {pre : List PyData} {hs : List Int} {ws : List Wd} (h : ws.head? ≠ some (ww "by")) : byF k pre hs ws = none := by
  cases ws with
  | nil => rfl
  | cons w r => exact if_neg fun z => h (by rw [z]; rfl)
theorem by_some {k : Int} {pre : List PyData} {hs : List Int} {w : Wd} {r : List Wd} (c : w = ww "by") : byF k pre hs (w :: r) = match papF r with
    | some d => some (.tuple (.int k :: pre ++ [dInts hs, d]))
    | none => none := if_pos c
theorem FrA.app2 {f : List V → List V} {K : PySem.W.Frag} {H : Hp} {ys : List V} {ds : List PyData} {L2 : List Addr} (h : FrA f K H ys ds L2) : ∀ {zs : List V} {cs : List PyData} {L1 : List Addr}, FrA f K H zs cs L1 → FrA f K H (zs ++ ys) (cs ++ ds) (L1 ++ L2)
  | _, _, _, .nil => h
  | _, _, _, .cons h1 h2 => by
    have := FrA.cons h1 (FrA.app2 h h2)
    rw [← List.append_assoc] at this
    exact this
theorem pure_told_of (T : Txt K mg A) {v0 : V} {H : Hp} {Q : VK} {E : XK} (h : pr_told_of K A v0 H Q E) : t_told_of K A E ⟨fun _ H' => Q .non H', Q, fun _ _ => False, fun _ _ => False⟩ [some v0, none, none, none, none, none] H := by
  obtain ⟨l, rfl, hl, qe, qq⟩ := h
  generalize hX : toldF (splitL 32 l) = X at qe qq
  unfold t_told_of
  wtm_at "s"
  intro o dx no ndx ne
  refine ⟨_, _, rfl, o, dx, l, rfl, upd_same, rfl, hl, fun wl H1 s1 W1 => ⟨rfl, ?_⟩⟩
  have S1 : Same H (hid [o] H1) := by
    refine Same.trans ?_ s1
    rw [hid_upd (by simp)]
    exact (hid_free1 no).trans (hid_mono (same_new ndx))
  clear s1
  generalize splitL 32 l = ws at hX W1
  have lw := W1.len
  -- the refusal
  have refuse : ∀ {G : Hp}, X = none → Same (hid [o] H1) (hid [o] G) → (∃ x, G o = some x) → RaiseW A o G E := fun {G} xn sG ho c H' nc s ec => by
    obtain ⟨x, hx⟩ := ho
    refine qe xn c H' ?_ (S1.trans (sG.trans (s.trans (hid_same _ _)))) ec
    have co : c ∉ [o] := fun z => by rw [List.mem_singleton.mp z, hx] at nc; cases nc
    exact (S1.trans sG).free (show hid [o] G c = none by rw [hid_ne co]; exact nc)
  have back : ∀ {G : Hp}, Same (hid [o] H1) (hid [o] G) → (∃ x, G o = some x) → ∀ c, G c = none → H c = none := fun {G} sG ⟨x, hx⟩ c nc => by
    have co : c ∉ [o] := fun z => by rw [List.mem_singleton.mp z, hx] at nc; cases nc
    exact (S1.trans sG).free (show hid [o] G c = none by rw [hid_ne co]; exact nc)
  wtm_at "s"
  refine k_mF W1.ins rfl ?_
  wtm_at "s"
  refine ⟨_, rfl, o, wl, dx, ws, 0, rfl, W1, ⟨fun z => refuse ?_ (Same.refl _) ⟨_, W1.ins⟩, fun k r ek v H2 i2 s2 W2 d2 gv => ?_⟩⟩
  · rw [List.drop_zero] at z
    rw [← hX]
    cases ws with
    | nil => rfl
    | cons w r =>
      cases en : numOf w with
      | none => show (match numOf w with | none => none | some k => _) = none; rw [en]
      | some k => rw [numR_some en] at z; cases z
  subst gv
  rw [List.drop_zero] at ek
  have hX2 : X = if r.head? = some (ww "turn") then huF k [dInts (runN r.tail).1] (runN r.tail).2 else huF k [] r := by
    rw [← hX]
    cases ws with
    | nil => cases ek
    | cons w r1 =>
      cases en : numOf w with
      | none => rw [numR_none en] at ek; cases ek
      | some k1 =>
        rw [numR_some en] at ek
        cases ek
        show (match numOf w with | none => none | some k => _) = _
        rw [en]
  clear hX
  wtm_at "s"
  refine kT (by simp) (fun tp H3 ntp s3 e3 => ?_)
  have W3 := W2.same s3
  have s13 := s2.trans (hid_mono s3)
  have nww : ∀ t : String, t.toList ≠ [] → ww t ≠ [] := fun t h z => by
    unfold ww at z
    rw [sg_str] at z
    exact h (by simpa using z)
  refine k_gname (seqO (fun σ' G => ∃ tp xs pre Lp i', σ' = [some (.str (mkS l)), some (.ref o), some (.int k), some (.ref tp), none, none] ∧ Same (hid [o] H1) (hid [o] G) ∧ WoAt A G o wl dx ws i' ∧ SqT K G tp xs ∧ xs ≠ [] ∧ xs.length ≤ 2 ∧ FrA id K G xs (.int k :: pre) Lp ∧ Lp.Nodup ∧ (∀ x ∈ Lp, H x = none) ∧ X = huF k pre (ws.drop i')) ?_ (fun nx' main => ?_))
  · clear s13 W3 e3 s3 ntp s2 W2 d2 hX2 ek
    rintro σ' G ⟨tp, xs, pre, Lp, i2, rfl, sG, WG, hT, ne1, ln2, fa, nd, nw, hX⟩
    have iG := WG.ins
    wtm_at "s"
    refine k_mF iG rfl ?_
    wtm_at "s"
    refine ⟨_, _, rfl, o, wl, dx, ws, i2, ww "hues", rfl, by rw [mk_ww], nww _ (by decide), WG, fun hne => refuse (by rw [hX, hu_none hne]) sG ⟨_, iG⟩, fun r1 er H4 s4 W4 d4 => ?_⟩
    rw [er, hu_some rfl] at hX
    wtm_at "s"
    refine k_mF W4.ins rfl ?_
    wtm_at "s"
    refine ⟨_, rfl, o, wl, dx, ws, i2 + 1, rfl, W4, fun hq H5 i5 s5 W5 d5 nq eq5 => ?_⟩
    rw [d4] at d5 eq5
    wtm_at "s"
    refine k_mF W5.ins rfl ?_
    wtm_at "s"
    have sG5 := sG.trans (s4.trans s5)
    refine ⟨_, _, rfl, o, wl, dx, ws, i5, ww "by", rfl, by rw [mk_ww], nww _ (by decide), W5, fun hne => refuse (by rw [hX, by_none (by rwa [d5] at hne)]) sG5 ⟨_, W5.ins⟩, fun r2 er2 H6 s6 W6 d6 => ?_⟩
    rw [d5] at er2
    rw [er2, by_some rfl] at hX
    wtm_at "s"
    refine k_mF W6.ins rfl ?_
    wtm_at "s"
    have sG6 := sG5.trans s6
    refine ⟨_, rfl, o, wl, dx, ws, i5 + 1, rfl, W6, ⟨fun z => refuse (by rw [hX]; unfold papF; rw [← d6, z]) sG6 ⟨_, W6.ins⟩, fun D r7 ep pv H7 i7 s7 W7 d7 np => ?_⟩⟩
    obtain ⟨L7, n7⟩ := np
    have sG7 := sG6.trans s7
    wtm_at "s"
    refine k_mF W7.ins rfl ?_
    wtm_at "s"
    refine k_mF W7.ins rfl ?_
    wtm_at "s"
    refine ⟨_, rfl, o, wl, dx, ws, i7, rfl, W7, ?_⟩
    wtm_at "s"
    rw [d6] at ep
    refine ⟨_, _, rfl, _, rfl, fun hb => ?_, fun hb c H' nc s ec => refuse (G := H7) ?_ sG7 ⟨_, W7.ins⟩ c H' nc (hid_mono s) ec⟩
    rotate_left
    · rw [hX]
      unfold papF
      rw [ep]
      cases r7 with
      | nil =>
        have := drop_end d7
        have := W7.ile
        exact absurd (show i7 = ws.length by omega) (of_decide_eq_false hb)
      | cons w r => rfl
    have r70 : r7 = [] := by
      have hb := of_decide_eq_true hb
      rw [← d7, hb, List.drop_length]
    subst r70
    have hX' : X = some (.tuple (.int k :: pre ++ [dInts (runN r1).1, D])) := by
      rw [hX]; unfold papF; rw [ep]
    wtm_at "s"
    refine kT (by simp) (fun q8 H8 n8 s8 e8 => ?_)
    have hq5 : hq ∉ [o] := fun z => by rw [List.mem_singleton.mp z, W4.ins] at nq; cases nq
    have nq0 : H hq = none := back (sG.trans s4) ⟨_, W4.ins⟩ hq nq
    -- what is kept
    have f5 : FrA id K H5 xs (.int k :: pre) Lp := by
      have t0 : Fr id K G (.ref tp) (.tuple (.int k :: pre)) Lp := .tup hT fa
      have t5 := t0.inst iG (s4.trans s5)
      have hT5 := sqT_hidX hT (noTup_ins iG) (s4.trans s5)
      exact FrA.frame (noTup_ins iG) (s4.trans s5) fa fun l hl z => by
        rw [List.mem_singleton.mp z] at hl
        obtain ⟨zs, hz⟩ := fa.alive o hl
        rw [iG] at hz; cases hz
    have hT8 : SqT K H8 tp xs := same_seqT s8 (sqT_hidX hT (noTup_ins iG) (s4.trans (s5.trans (s6.trans s7))))
    have f8 : FrA id K H8 xs (.int k :: pre) Lp := (FrA.frame (noTup_ins iG) (s4.trans (s5.trans (s6.trans s7))) fa fun l hl z => by
        rw [List.mem_singleton.mp z] at hl
        obtain ⟨zs, hz⟩ := fa.alive o hl
        rw [iG] at hz; cases hz).same s8
    have h8 : Fr id K H8 (.ref hq) (dInts (runN r1).1) [hq] := ((fr_ints eq5).inst W5.ins (s6.trans s7)).same s8
    have p8 : Fr id K H8 pv D L7 := n7.fr.same s8
    have t8 : FrA id K H8 [.ref hq, pv] [dInts (runN r1).1, D] (hq :: L7) := by
      have := FrA.cons h8 (FrA.cons p8 .nil)
      rw [List.append_nil] at this
      exact this
    refine k_catTx hT8 (stp e8) ne1 (by simp; omega) (fun fp H9 s9 hf => ?_)
    have al7 : ∀ x ∈ Lp, ∃ zs, H7 x = some (.lst zs) := fun x hx => by
      obtain ⟨zs, hz⟩ := fa.alive x hx
      have xo : x ∉ [o] := fun z => by rw [List.mem_singleton.mp z, iG] at hz; cases hz
      exact ⟨zs, keeps (s4.trans (s5.trans (s6.trans s7))) hz xo⟩
    refine qq _ hX' _ (Lp ++ (hq :: L7)) H9 ?_ ⟨.tup hf ((t8.app2 f8).same s9), ?_, fun x hx => ?_⟩
    · exact S1.trans (sG7.trans ((hid_mono (s8.trans s9)).trans (hid_same _ _)))
    · have n76 : ∀ x ∈ L7, H6 x = none := n7.nw
      refine List.nodup_append.mpr ⟨nd, List.nodup_cons.mpr ⟨fun z => ?_, n7.nd⟩, fun x hx y hy e => ?_⟩
      · have := n76 hq z
        rw [keeps s6 eq5 hq5] at this; cases this
      · subst e
        obtain ⟨zs, hz⟩ := fa.alive x hx
        have xo : x ∉ [o] := fun z => by rw [List.mem_singleton.mp z, iG] at hz; cases hz
        rcases List.mem_cons.mp hy with rfl | hy
        · rw [keeps s4 hz xo] at nq; cases nq
        · have := n76 x hy
          rw [keeps (s4.trans (s5.trans s6)) hz xo] at this; cases this
    · rcases List.mem_append.mp hx with hx | hx
      · exact nw x hx
      rcases List.mem_cons.mp hx with rfl | hx
      · exact nq0
      · exact back sG6 ⟨_, W6.ins⟩ x (n7.nw x hx)
  wtm_at "s"
  refine k_mF W3.ins rfl ?_
  wtm_at "s"
  have no_turn : r.head? ≠ some (ww "turn") → ∃ tp' xs pre Lp i', [some (V.str (mkS l)), some (V.ref o), some (V.int k), some (V.ref tp), none, none] = [some (V.str (mkS l)), some (V.ref o), some (V.int k), some (V.ref tp'), none, none] ∧ Same (hid [o] H1) (hid [o] H3) ∧ WoAt A H3 o wl dx ws i' ∧ SqT K H3 tp' xs ∧ xs ≠ [] ∧ xs.length ≤ 2 ∧ FrA id K H3 xs (.int k :: pre) Lp ∧ Lp.Nodup ∧ (∀ x ∈ Lp, H x = none) ∧ X = huF k pre (ws.drop i') := fun hne =>
    ⟨tp, _, [], [], i2, rfl, s13, W3, stp e3, by simp, by simp, .cons (L1 := []) (.int k) .nil, List.nodup_nil, (fun x z => nomatch z), by rw [d2, hX2, if_neg hne]⟩
  refine ⟨_, rfl, o, wl, dx, ws, i2, rfl, W3, fun e => ?_, fun u r1 e => ?_⟩
  · wtm_at "s"
    refine lit_eq ?_
    rw [decide_eq_false (Ne.symm (nww "turn" (by decide)))]
    wtm_at "s"
    exact main _ _ (no_turn (by rw [← d2, e]; simp))
  · wtm_at "s"
    refine lit_eq ?_
    by_cases c : u = ww "turn"
    · rw [decide_eq_true c]
      wtm_at "s"
      refine k_mF W3.ins rfl ?_
      wtm_at "s"
      refine ⟨_, _, rfl, o, wl, dx, ws, i2, ww "turn", rfl, by rw [mk_ww], nww _ (by decide), W3, fun hne => absurd (by rw [e, c]; rfl) hne, fun r2 er H4 s4 W4 d4 => ?_⟩
      wtm_at "s"
      refine k_mF W4.ins rfl ?_
      wtm_at "s"
      refine ⟨_, rfl, o, wl, dx, ws, i2 + 1, rfl, W4, fun tq H5 i5 s5 W5 d5 nq eq5 => ?_⟩
      rw [d4] at d5 eq5
      wtm_at "s"
      refine kT (by simp) (fun tp2 H6 nt6 s6 e6 => ?_)
      wtm_at "s"
      refine main _ _ ⟨tp2, _, [dInts (runN r2).1], [tq], i5, rfl, s13.trans (s4.trans (s5.trans (hid_mono s6))), W5.same s6, stp e6, by simp, by simp, .cons (L1 := []) (.int k) (.cons (L1 := [tq]) (fr_ints (s6 _ _ eq5)) .nil), by simp, (fun x z => by rw [List.mem_singleton.mp z]; exact back (s13.trans s4) ⟨_, W4.ins⟩ tq nq), ?_⟩
      have er' : r = ww "turn" :: r2 := by rw [← d2, er]
      rw [hX2, er', d5]
      exact if_pos rfl
    · rw [decide_eq_false c]
      wtm_at "s"
      exact main _ _ (no_turn (by rw [← d2, e]; simpa using c))
abbrev sp_told_of (K : PySem.W.Frag) (A : Ad) : Sp := fun vs H Q E => ∃ v0, vs = [v0] ∧ pr_told_of K A v0 H Q E
theorem ok_told_of (T : Txt K mg A) : FnOk P w K mg base (L2.CX P w) 50 A.a_told_of A.d_told_of ["text"] (sp_told_of K A) := by
  refine T.F_told_of.okX sc_told_of (fun vs H Q E h => by obtain ⟨v0, rfl, _⟩ := h; rfl) (fun cdv A0 outer s H vs Q E hr h => ?_)
  obtain ⟨v0, rfl, h⟩ := h
  exact ⟨t_told_of K A E, (pss_cons (ps_set (i := 1) sc_told_of.nd rfl (Or.inl rfl) (pe_make T.M_Words (ok_Words_init T) (hr.mono (by decide)) (by rfl) T.k_Words T.b_Words_init .nil pass0 (pa_cons (pv 0) pa_nil)))
      (pss_cons (ps_set (i := 2) sc_told_of.nd rfl (Or.inl rfl) (pe_meth0 (E := E) (pv 1) T.K_Words T.Me_Words_number (ok_Words_number T) (hr.mono (by decide)) T.b_Words_number .nil (passes_call (takes_of rfl rfl rfl rfl) (fun _ _ _ _ h => h)) ))
      (pss_cons (ps_set (i := 3) sc_told_of.nd rfl (Or.inl rfl) (pe_tup (pa_cons (pv 2) pa_nil)))
      (pss_cons (ps_if (pt_cmpR op_eq (pe_meth0 (pv 1) T.K_Words T.Me_Words_look (ok_Words_look T) (hr.mono (by decide)) T.b_Words_look .nil pass0 ) pe_str (nomark _)) (pss_cons (ps_expr (pe_meth (E := E) (pv 1) T.K_Words T.Me_Words_take (ok_Words_take T) (hr.mono (by decide)) T.b_Words_take .nil (passes_call (takes_of rfl rfl rfl rfl) (fun _ _ _ _ h => h)) (pa_cons pe_str pa_nil)))
      (pss_one (ps_set (i := 3) sc_told_of.nd rfl (Or.inl rfl) (pe_tup (pa_cons (pv 2) (pa_cons (pe_meth0 (E := E) (pv 1) T.K_Words T.Me_Words_numbers (ok_Words_numbers T) (hr.mono (by decide)) T.b_Words_numbers .nil (passes_call (takes_of rfl rfl rfl rfl) (fun _ _ _ _ h => h)) ) pa_nil)))))) pss_nil)
      (pss_cons (ps_expr (pe_meth (E := E) (pv 1) T.K_Words T.Me_Words_take (ok_Words_take T) (hr.mono (by decide)) T.b_Words_take .nil (passes_call (takes_of rfl rfl rfl rfl) (fun _ _ _ _ h => h)) (pa_cons pe_str pa_nil)))
      (pss_cons (ps_set (i := 4) sc_told_of.nd rfl (Or.inl rfl) (pe_meth0 (E := E) (pv 1) T.K_Words T.Me_Words_numbers (ok_Words_numbers T) (hr.mono (by decide)) T.b_Words_numbers .nil (passes_call (takes_of rfl rfl rfl rfl) (fun _ _ _ _ h => h)) ))
      (pss_cons (ps_expr (pe_meth (E := E) (pv 1) T.K_Words T.Me_Words_take (ok_Words_take T) (hr.mono (by decide)) T.b_Words_take .nil (passes_call (takes_of rfl rfl rfl rfl) (fun _ _ _ _ h => h)) (pa_cons pe_str pa_nil)))
      (pss_cons (ps_set (i := 5) sc_told_of.nd rfl (Or.inl rfl) (pe_meth0 (E := E) (pv 1) T.K_Words T.Me_Words_paper (ok_Words_paper T) (hr.mono (by decide)) T.b_Words_paper .nil (passes_call (takes_of rfl rfl rfl rfl) (fun _ _ _ _ h => h)) ))
      (pss_cons (ps_expr (pe_meth (E := E) (pv 1) T.K_Words T.Me_Words_must (ok_Words_must T) (hr.mono (by decide)) T.b_Words_must .nil (passes_call (takes_of rfl rfl rfl rfl) (fun _ _ _ _ h => h)) (pa_cons (pe_meth0 (pv 1) T.K_Words T.Me_Words_ended (ok_Words_ended T) (hr.mono (by decide)) T.b_Words_ended .nil pass0 ) pa_nil)))
      (pss_one (ps_ret (pe_op op_catT (pv 3) (pe_tup (pa_cons (pv 4) (pa_cons (pv 5) pa_nil))))))))))))))), pure_told_of T h⟩


/-- the signs of a row: a word, numbers -/
def rowL (w : List Nat) (ns : List Int) : List Nat := w ++ (ns.map fun n => 32 :: nu n).flatten
theorem num_small {n : Int} (h : Num30 n) : n.natAbs < 2 ^ 1900 ∧ (nu n).length ≤ 30 := by
  have h1 := h.1
  have h2 := h.2
  have h3 : (10 : Int) ^ 30 ≤ 2 ^ 200 := by decide +kernel
  have h4 : (2 : Nat) ^ 200 ≤ 2 ^ 1900 := Nat.pow_le_pow_right (by decide) (by decide)
  have h5 : ((2 ^ 200 : Nat) : Int) = 2 ^ 200 := by rw [Int.natCast_pow]; rfl
  have h6 : (n.natAbs : Int) = n := Int.natAbs_of_nonneg h1
  refine ⟨Nat.lt_of_lt_of_le ?_ h4, nu_len h1 (by decide) h2⟩
  have : (n.natAbs : Int) < ((2 ^ 200 : Nat) : Int) := by rw [h5, h6]; omega
  exact Int.ofNat_lt.mp this
theorem rowL_len {w : List Nat} {ns : List Int} (h : ∀ n ∈ ns, Num30 n) : (rowL w ns).length ≤ w.length + ns.length * 31 := by
  unfold rowL
  rw [List.length_append]
  have := flat_le (l := ns.map fun n => 32 :: nu n) (b := 31) fun x hx => by
    obtain ⟨n, hn, rfl⟩ := List.mem_map.mp hx
    have := (num_small (h n hn)).2
    rw [List.length_cons]; omega
  rw [List.length_map] at this
  omega
theorem sg_blank : sg (Str.ofString " ") = [32] := by rw [sg_str]; rfl
/-- rows with their line ends -/
def tot (rs : List (List Nat)) : Nat := (rs.map fun r => r.length + 1).sum
theorem tot_app (a b : List (List Nat)) : tot (a ++ b) = tot a + tot b := by simp [tot]
theorem tot_one (r : List Nat) : tot [r] = r.length + 1 := by simp [tot]
theorem tot_td (rs : List (List Nat)) (k : Nat) : tot (rs.take k) + tot (rs.drop k) = tot rs := by rw [← tot_app, List.take_append_drop]
theorem tot_drop (rs : List (List Nat)) (k : Nat) : tot (rs.drop k) ≤ tot rs := by have := tot_td rs k; omega
theorem tot_len : ∀ rs : List (List Nat), rs.length ≤ tot rs
  | [] => Nat.zero_le _
  | r :: rs => by have := tot_len rs; have e : tot (r :: rs) = r.length + 1 + tot rs := by simp [tot]
                  rw [e, List.length_cons]; omega
theorem tot_mem {rs : List (List Nat)} {r : List Nat} (h : r ∈ rs) : r.length + 1 ≤ tot rs := by
  induction rs with
  | nil => cases h
  | cons a t ih =>
    have e : tot (a :: t) = a.length + 1 + tot t := by simp [tot]
    rcases List.mem_cons.mp h with rfl | h
    · omega
    · have := ih h; omega
theorem join_tot (s : Nat) : ∀ rs : List (List Nat), rs ≠ [] → (TL.joinL [s] rs).length + 1 = tot rs
  | [], h => absurd rfl h
  | [p], _ => by simp [TL.joinL, tot]
  | p :: q :: r, _ => by
    have ih := join_tot s (q :: r) (by simp)
    show (p ++ ([s] ++ TL.joinL [s] (q :: r))).length + 1 = _
    rw [List.length_append, List.length_append]
    have e : tot (p :: q :: r) = p.length + 1 + tot (q :: r) := by simp [tot]
    rw [e]; simp only [List.length_singleton]; omega
theorem join_tot' (s : Nat) (rs : List (List Nat)) : (TL.joinL [s] rs).length ≤ tot rs := by
  cases rs with
  | nil => exact Nat.zero_le _
  | cons a t => have := join_tot s (a :: t) (by simp); omega
theorem tot_erase {rs : List (List Nat)} {i : Nat} {r : List Nat} (h : rs[i]? = some r) : tot (rs.eraseIdx i) + (r.length + 1) = tot rs := by
  have hi := (List.getElem?_eq_some_iff.mp h)
  obtain ⟨h1, h2⟩ := hi
  rw [List.eraseIdx_eq_take_drop_succ, tot_app]
  have e := tot_td rs i
  rw [List.drop_eq_getElem_cons h1, h2] at e
  have e2 : tot (r :: rs.drop (i + 1)) = r.length + 1 + tot (rs.drop (i + 1)) := by simp [tot]
  omega
theorem tot_rep (k : Nat) (r : List Nat) : tot (List.replicate k [r]).flatten = k * (r.length + 1) := by
  induction k with
  | zero => simp [tot]
  | succ k ih => rw [List.replicate_succ, List.flatten_cons, tot_app, tot_one, ih, Nat.succ_mul]; omega
abbrev rowV (rs : List (List Nat)) : List V := rs.map fun q => V.str (mkS q)
theorem k_slT {K : PySem.W.Frag} {H : Hp} {Q : VK} {a : Addr} {rs : List (List Nat)} {k : Nat} (hs : H a = some (.lst (rowV rs))) (h : ∀ p H', H p = none → Same H H' → H' p = some (.lst (rowV (rs.take k))) → Q (.ref p) H') : rSlL K (.ref a) none (some ((k : Nat) : Int)) H Q :=
  k_slL (sl hs) fun p H' np s e => h p H' np s (by rw [e, cut_to, ← List.map_take])
theorem k_slD {K : PySem.W.Frag} {H : Hp} {Q : VK} {a : Addr} {rs : List (List Nat)} {k : Nat} (hs : H a = some (.lst (rowV rs))) (h : ∀ p H', H p = none → Same H H' → H' p = some (.lst (rowV (rs.drop k))) → Q (.ref p) H') : rSlL K (.ref a) (some ((k : Nat) : Int)) none H Q :=
  k_slL (sl hs) fun p H' np s e => h p H' np s (by rw [e, cut_from, ← List.map_drop])
theorem cut_12 (xs : List V) : cutV xs (some 1) (some 2) = (xs.take 2).drop 1 := by
  rcases xs with _ | ⟨a, _ | ⟨b, t⟩⟩
  · rfl
  · rfl
  · unfold cutV
    have e1 : HT.sIx (a :: b :: t).length 0 (some 1) = 1 := by simp [HT.sIx]
    have e2 : HT.sIx (a :: b :: t).length (a :: b :: t).length (some 2) = 2 := by simp [HT.sIx]
    rw [e1, e2]; rfl
theorem k_sl12 {K : PySem.W.Frag} {H : Hp} {Q : VK} {a : Addr} {rs : List (List Nat)} (hs : H a = some (.lst (rowV rs))) (h : ∀ p H', H p = none → Same H H' → H' p = some (.lst (rowV ((rs.take 2).drop 1))) → Q (.ref p) H') : rSlL K (.ref a) (some 1) (some 2) H Q :=
  k_slL (sl hs) fun p H' np s e => h p H' np s (by rw [e, cut_12, ← List.map_take, ← List.map_drop])
theorem k_catR {H : Hp} {Q : VK} {p q : Addr} {xs ys : List (List Nat)} (hp : H p = some (.lst (rowV xs))) (hq : H q = some (.lst (rowV ys))) (hz : tot xs + tot ys ≤ 100000) (h : ∀ l H', H l = none → Same H H' → H' l = some (.lst (rowV (xs ++ ys))) → Q (.ref l) H') : rCat (.ref p) (.ref q) H Q :=
  k_catN hp hq (by have := tot_len xs; have := tot_len ys; rw [List.length_map, List.length_map]; omega) fun l H' n s e => h l H' n s (by rw [e]; simp only [rowV, List.map_append])
theorem k_ixR {K : PySem.W.Frag} {H : Hp} {Q : VK} {p : Addr} {rs : List (List Nat)} {i : Nat} {r : List Nat} (hs : H p = some (.lst (rowV rs))) (ha : rs[i]? = some r) (h : Q (.str (mkS r)) H) : rIxL K (.ref p) (.int (i : Nat)) H Q :=
  k_ixL (sl hs) (atI_nat (by rw [List.getElem?_map, ha]; rfl)) h
theorem k_popR {H : Hp} {Q : VK} {p : Addr} {rs : List (List Nat)} {i : Nat} {r : List Nat} (hp : H p = some (.lst (rowV rs))) (ha : rs[i]? = some r) (hi : i < 1000000) (h : Q (.str (mkS r)) (upd H p (.lst (rowV (rs.eraseIdx i))))) : rPopAt (.ref p) [.int (i : Nat)] H Q := by
  have h1 := (List.getElem?_eq_some_iff.mp ha).1
  refine ⟨p, _, (i : Nat), i, .str (mkS r), rfl, rfl, hp, by omega, by omega, ?_, ?_, ?_⟩
  · have := (ixN_seq (ixN_of (i := ((i : Nat) : Int)) (n := (rowV rs).length) (by omega) (by rw [List.length_map]; omega))).1
    rwa [Int.toNat_natCast] at this
  · rw [List.getElem?_map, ha]; rfl
  · have e : (rowV rs).eraseIdx i = rowV (rs.eraseIdx i) := by
      rw [List.eraseIdx_eq_take_drop_succ, List.eraseIdx_eq_take_drop_succ]; simp [rowV]
    rw [e]; exact h
theorem k_insR {H : Hp} {Q : VK} {p : Addr} {rs : List (List Nat)} {i : Nat} {r : List Nat} (hp : H p = some (.lst (rowV rs))) (hl : tot rs < 100000) (hi : i < 1000000) (h : Q .non (upd H p (.lst (rowV (rs.take i ++ [r] ++ rs.drop i))))) : rIns (.ref p) [.int (i : Nat), .str (mkS r)] H Q := by
  refine k_ins hp (by have := tot_len rs; rw [List.length_map]; omega) (by omega) (by omega) ?_
  rw [Int.toNat_natCast]
  have e : (rowV rs).take i ++ [V.str (mkS r)] ++ (rowV rs).drop i = rowV (rs.take i ++ [r] ++ rs.drop i) := by simp [rowV]
  rw [e]; exact h
def Wok (w : Wd) : Prop := ∀ c ∈ w, c ≠ 32 ∧ c < 256
def WsOk (ws : List Wd) : Prop := ∀ w ∈ ws, Wok w
def dRow (ws : List Wd) : PyData := .list (ws.map fun w => .str (mkS w))
theorem dpa_row {K : PySem.W.Frag} {H : Hp} : ∀ ws : List Wd, DpAll K H (rowV ws) (ws.map fun w => PyData.str (mkS w))
  | [] => .nil
  | w :: ws => .cons (.str _) (dpa_row ws)
theorem dp_row {K : PySem.W.Frag} {H : Hp} {p : Addr} {ws : List Wd} (h : SqL K H p (rowV ws)) : Dp K H (.ref p) (dRow ws) := .lst h (dpa_row ws)
theorem strok {w : Wd} (h : Wok w) : PyData.strOk (mkS w) = true := by
  show (mkS w).cps.all (· < 0x110000) = true
  show (w.toArray).all (· < 0x110000) = true
  rw [Array.all_eq_true]
  intro i hi
  have := (h _ (List.getElem_mem (by simpa using hi))).2
  simp only [List.getElem_toArray]
  exact decide_eq_true (by omega)
theorem sh_row {ws : List Wd} (h : WsOk ws) : Sh 1 (dRow ws) := sh_list fun d hd => by
  obtain ⟨w, hw, rfl⟩ := List.mem_map.mp hd
  exact ⟨strok (h w hw), Nat.zero_le _⟩
theorem eqvA_row : ∀ ws us : List Wd, PyData.eqvAll (ws.map fun w => PyData.str (mkS w)) (us.map fun w => PyData.str (mkS w)) = decide (ws = us)
  | [], [] => rfl
  | [], _ :: _ => rfl
  | _ :: _, [] => rfl
  | w :: ws, u :: us => by
    show (PyData.eqv (.str (mkS w)) (.str (mkS u)) && PyData.eqvAll _ _) = _
    rw [eqvA_row ws us]
    show ((mkS w == mkS u) && decide (ws = us)) = decide (w :: ws = u :: us)
    have e : (mkS w == mkS u) = decide (w = u) := by
      rw [← dec_mk]
      by_cases c : mkS w = mkS u
      · rw [c, decide_eq_true rfl]; exact beq_self_eq_true _
      · rw [decide_eq_false c]; exact beq_false_of_ne c
    rw [e]
    by_cases c : w = u
    · subst c; simp
    · simp [c]
theorem eqv_row (ws us : List Wd) : PyData.eqv (dRow ws) (dRow us) = decide (ws = us) := eqvA_row ws us
theorem nu_ok {n : Int} (h : Num30 n) : Wok (nu n) := fun c hc => by
  obtain ⟨m, rfl⟩ := Int.eq_ofNat_of_zero_le h.1
  rw [nu_nat] at hc
  refine ⟨fun z => ?_, ?_⟩
  · subst z; exact TL.numL_free (.inl (by decide)) hc
  · refine Classical.byContradiction fun z => ?_
    exact TL.numL_free (.inr (by omega)) hc
theorem ww_ok {s : String} (h : ∀ c ∈ s.toList, c.toNat ≠ 32 ∧ c.toNat < 256) : Wok (ww s) := fun c hc => by
  unfold ww at hc
  rw [sg_str] at hc
  obtain ⟨d, hd, rfl⟩ := List.mem_map.mp hc
  exact h d hd


theorem val_digits : ∀ {l : List Nat}, l.all isDig = true → ((NumText.digitsVal l : Nat) : Int) = valL l := by
  have key : ∀ (l : List Nat) (t : Nat), l.all isDig = true → ((l.foldl (fun acc c => acc * 10 + (c - 48)) t : Nat) : Int) = l.foldl (fun (t : Int) (c : Nat) => t * 10 + ((c : Int) - 48)) (t : Int) := by
    intro l
    induction l with
    | nil => intro t _; rfl
    | cons c r ih =>
      intro t h
      rw [List.all_cons, Bool.and_eq_true] at h
      have d := of_decide_eq_true h.1
      simp only [List.mem_cons, List.not_mem_nil, or_false] at d
      rw [List.foldl_cons, List.foldl_cons, ih _ h.2]
      congr 1
      omega
  intro l h
  exact key l 0 h
theorem fm_dig {l : List Nat} : (l.filterMap fun c => if isDig c = true then none else some (V.str ⟨#[c]⟩)).length = 0 ↔ l.all isDig = true := by
  induction l with
  | nil => simp
  | cons c r ih =>
    rw [List.filterMap_cons, List.all_cons]
    by_cases h : isDig c = true
    · rw [if_pos h, h, Bool.true_and]; exact ih
    · rw [if_neg h]
      have : isDig c = false := by cases hh : isDig c with | true => exact absurd hh h | false => rfl
      rw [this, Bool.false_and]
      constructor
      · intro z; simp at z
      · intro z; cases z
theorem fm_row : ∀ l : List Nat, (l.filterMap fun c => if isDig c = true then none else some (V.str ⟨#[c]⟩)) = rowV ((l.filter fun c => !isDig c).map fun c => [c])
  | [] => rfl
  | c :: l => by
    rw [List.filterMap_cons, List.filter_cons]
    cases h : isDig c with
    | true => exact fm_row l
    | false => show V.str ⟨#[c]⟩ :: _ = V.str (mkS [c]) :: rowV _; rw [fm_row l]; rfl
theorem fm_all (l : List Nat) : decide (((l.filter fun c => !isDig c).map fun c => [c]) = []) = l.all isDig := by
  induction l with
  | nil => rfl
  | cons c l ih =>
    rw [List.filter_cons, List.all_cons]
    cases h : isDig c with
    | true => simpa using ih
    | false => simp
def pr_law_number (K : PySem.W.Frag) (v0 : V) (H : Hp) (Q : VK) (_ : XK) : Prop := ∃ l : List Nat, v0 = .str (mkS l) ∧ l.length ≤ 40000 ∧ Wok l ∧ ∀ H', Same H H' → Q (optV (numOf l)) H'
def t_law_number (K : PySem.W.Frag) : TS :=
  (tSeq (tIfS (tOr (tTest (tOp rEq (tVar 0) (tC (.str (Str.ofString ""))))) (tOr (tTest (tOp xGt (tCB rLenStr (tCons (tVar 0) tNil)) (tC (.int 30)))) (tTest (tOp (rNeD K) (tLc (iStr (tVar 0)) (gName 1) (tTest (tOp xNotInS (tVar 1) (tC (.str (Str.ofString "0123456789"))))) (tVar 1) [1]) (tLst tNil))))) (tRet (tC .non)) tNext)
    (tSeq (tIfS (tAnd (tTest (tOp xGt (tCB rLenStr (tCons (tVar 0) tNil)) (tC (.int 1)))) (tTest (tOp rEq (tOp rIxS (tVar 0) (tC (.int 0))) (tC (.str (Str.ofString "0")))))) (tRet (tC .non)) tNext)
    (tRet (tCB rIntS (tCons (tVar 0) tNil)))))
theorem pure_law_number {v0 : V} {H : Hp} {Q : VK} {E : XK} (h : pr_law_number K v0 H Q E) : t_law_number K ⟨fun _ H' => Q .non H', Q, fun _ _ => False, fun _ _ => False⟩ [some v0, none] H := by
  obtain ⟨l, rfl, hl, ok, q⟩ := h
  unfold t_law_number
  wtm_at "s"
  refine k_eqS ?_
  by_cases c0 : l = []
  · rw [decide_eq_true (mk_eq.mpr (by rw [c0, sg_emp]))]
    wtm_at "s"
    have : numOf l = none := if_pos (.inl c0)
    rw [this] at q
    exact q H (Same.refl _)
  rw [decide_eq_false fun z => c0 (by have := mk_eq.mp z; rwa [sg_emp] at this)]
  obtain ⟨c, hc⟩ : ∃ c, l[0]? = some c := ⟨l[0]'(List.length_pos_iff.mpr c0), List.getElem?_eq_getElem _⟩
  wtm_at "s"
  refine k_lenS (by omega) ?_
  wtm_at "s"
  refine k_it (fun c1 => ?_) (fun c1 => ?_)
  · wtm_at "s"
    have : numOf l = none := if_pos (.inr (.inl (by omega)))
    rw [this] at q
    exact q H (Same.refl _)
  wtm_at "s"
  refine lc_pureS (by omega) (fun c => if isDig c = true then none else some (V.str ⟨#[c]⟩)) ?_ (fun D H1 nD s1 eD => ?_)
  · intro i c H' hc sm R R0 g1 g2
    wtm_at "s"
    rw [← mkS_sg (Str.ofString "0123456789"), sg_fig]
    refine k_notInS ?_
    wtm_at "s"
    refine k_itn (fun w => ?_) (fun w => ?_)
    · wtm_at "s"
      exact g1 _ (if_neg fun z => w (of_decide_eq_true z))
    · exact g2 (if_pos (decide_eq_true w))
  wtm_at "s"
  refine kL (by simp) (fun D2 H2 nD2 s2 e2 => ?_)
  have eW : (l.filterMap fun c => if isDig c = true then none else some (V.str ⟨#[c]⟩)) = rowV ((l.filter fun c => !isDig c).map fun c => [c]) := fm_row l
  rw [eW] at eD
  have okW : WsOk ((l.filter fun c => !isDig c).map fun c => [c]) := fun w hw => by
    obtain ⟨c, hc, rfl⟩ := List.mem_map.mp hw
    intro d hd
    rw [List.mem_singleton.mp hd]
    exact ok c (List.mem_filter.mp hc).1
  refine k_neD (n := 1) (dp_row (sl (s2 _ _ eD))) (dp_row (ws := []) (sl e2)) (sh_row okW) (sh_row fun w hw => nomatch hw) (by decide) ?_
  rw [eqv_row]
  have eA : decide (((l.filter fun c => !isDig c).map fun c => [c]) = []) = l.all isDig := fm_all l
  rw [eA]
  by_cases al : l.all isDig = true
  · rw [al]
    wtm_at "s"
    refine k_lenS (by omega) ?_
    have hd0 : l.head? = some c := by rw [List.head?_eq_getElem?]; exact hc
    have fin : ¬ (l = [] ∨ 30 < l.length ∨ (l.head? = some 48 ∧ l ≠ [48])) → rIntS [.str (mkS l)] H2 Q := fun nb => by
      unfold numOf at q
      rw [if_neg nb, if_pos al] at q
      refine k_intS (List.all_eq_true.mpr fun x hx => ?_) c0 (by omega) ?_
      · have d := of_decide_eq_true (List.all_eq_true.mp al x hx)
        simp only [List.mem_cons, List.not_mem_nil, or_false] at d
        rw [Bool.and_eq_true]
        exact ⟨decide_eq_true (by omega), decide_eq_true (by omega)⟩
      · rw [val_digits al]
        exact q H2 (s1.trans s2)
    wtm_at "s"
    refine k_it (fun c2 => ?_) (fun c2 => ?_)
    · wtm_at "s"
      refine k_ixS (i := 0) (by omega) hc ?_
      wtm_at "s"
      refine k_eqS ?_
      by_cases c3 : c = 48
      · subst c3
        rw [decide_eq_true (show (⟨#[48]⟩ : Str) = Str.ofString "0" from (mk_eq (l := [48])).mpr (by rw [sg_zero]))]
        wtm_at "s"
        have : numOf l = none := if_pos (.inr (.inr ⟨hd0, fun z => by rw [z] at c2; simp at c2⟩))
        rw [this] at q
        exact q H2 (s1.trans s2)
      · rw [decide_eq_false fun z => c3 (by have := (mk_eq (l := [c])).mp z; rw [sg_zero] at this; cases this; rfl)]
        wtm_at "s"
        refine fin fun z => ?_
        rcases z with z | z | ⟨z, _⟩
        · exact c0 z
        · omega
        · rw [hd0] at z; exact c3 (Option.some.inj z)
    · wtm_at "s"
      refine fin fun z => ?_
      rcases z with z | z | ⟨z, y⟩
      · exact c0 z
      · omega
      · rw [hd0] at z
        refine y ?_
        match l, c0, hc, c2 with
        | [x], _, hc, _ => cases hc; cases z; rfl
        | x :: x2 :: r, _, _, c2 => simp at c2; omega
  · rw [show l.all isDig = false by simpa using al]
    wtm_at "s"
    have : numOf l = none := by
      unfold numOf
      split
      · rfl
      · first | rfl | rw [if_neg al]
    rw [this] at q
    exact q H2 (s1.trans s2)
abbrev sp_law_number (K : PySem.W.Frag) : Sp := fun vs H Q E => ∃ v0, vs = [v0] ∧ pr_law_number K v0 H Q E
theorem ok_law_number (T : Txt K mg A) : FnOk P w K mg base CX0 1 A.a_law_number A.d_law_number ["_law_word"] (sp_law_number K) := by
  refine T.F_law_number.ok sc_law_number (fun vs H Q E h => by obtain ⟨v0, rfl, _⟩ := h; rfl) (fun cdv A0 outer s H vs Q E hr h => ?_)
  obtain ⟨v0, rfl, h⟩ := h
  exact ⟨t_law_number K, (pss_cons (ps_if (PW.pt (pw_or (pt_cmpR op_eq (pv 0) pe_str (nomark _)) (pw_or (pt_cmpR op_gt (pe_callB q_lenS (by rfl) T.z_len (by decide +kernel) (pa_cons (pv 0) pa_nil)) pe_int (nomark _)) (pw_or1 (pt_cmpR (op_neD hr.units) (pe_lc (own := [("_law_sign", 1)]) (by rfl) sc_law_number.nd (pi_str (pv 0)) (blkOk_by (own := [("_law_sign", 1)]) (N := ["_law_word", "_law_sign"]) (sc := defScope s_law_number) (by decide +kernel)) (fun _ _ _ _ _ => (pg_name (i := 1) sc_law_number.nd rfl (Or.inl rfl))) (fun _ _ _ _ _ => (pts_one (pt_cmpR op_notin_str (pv 1) pe_str (by rfl)))) (fun _ _ _ _ _ => (pv 1))) (pe_lst pa_nil) (nomark _)))))) (pss_one (ps_ret pe_non)) pss_nil)
      (pss_cons (ps_if (PW.pt (pw_and (pt_cmpR op_gt (pe_callB q_lenS (by rfl) T.z_len (by decide +kernel) (pa_cons (pv 0) pa_nil)) pe_int (nomark _)) (pw_and1 (pt_cmpR op_eq (pe_ix ix_str (pv 0) pe_int (fun _ _ => rfl)) pe_str (nomark _))))) (pss_one (ps_ret pe_non)) pss_nil)
      (pss_one (ps_ret (pe_callTy q_intS (by rfl) T.z_int (by decide +kernel) (pa_cons (pv 0) pa_nil)))))), pure_law_number h⟩


structure RowAt (K : PySem.W.Frag) (H : Hp) (a : Addr) (ws : List Wd) : Prop where
  at_ : SqL K H a (rowV ws)
  ok : WsOk ws
  small : tot ws ≤ 19000
theorem RowAt.same {K : PySem.W.Frag} {H H' : Hp} {a : Addr} {ws : List Wd} (h : RowAt K H a ws) (s : Same H H') : RowAt K H' a ws := ⟨s.seq h.at_, h.ok, h.small⟩
theorem RowAt.len {K : PySem.W.Frag} {H : Hp} {a : Addr} {ws : List Wd} (h : RowAt K H a ws) : ws.length ≤ 19000 := Nat.le_trans (tot_len ws) h.small
theorem RowAt.wlen {K : PySem.W.Frag} {H : Hp} {a : Addr} {ws : List Wd} (h : RowAt K H a ws) {w : Wd} (hw : w ∈ ws) : w.length ≤ 19000 := by have := tot_mem hw; have := h.small; omega
theorem RowAt.ix {K : PySem.W.Frag} {H : Hp} {Q : VK} {a : Addr} {ws : List Wd} (h : RowAt K H a ws) {x : Int} {i : Nat} (hx : x = (i : Nat)) {w : Wd} (hw : ws[i]? = some w) (q : Q (.str (mkS w)) H) : rIxL K (.ref a) (.int x) H Q := by
  subst hx
  exact k_ixL h.at_ (atI_nat (by rw [List.getElem?_map, hw]; rfl)) q
def pr_law_run (K : PySem.W.Frag) (v0 v1 : V) (H : Hp) (Q : VK) (_ : XK) : Prop := ∃ (a : Addr) (ws : List Wd) (i : Nat), v0 = .ref a ∧ RowAt K H a ws ∧ v1 = .int (i : Nat) ∧ i ≤ ws.length ∧ ∀ t q H' (i' : Nat), Same H H' → H' t = some (.tup [.ref q, .int (i' : Nat)]) → i' ≤ ws.length → i ≤ i' → ws.drop i' = (runN (ws.drop i)).2 → H' q = some (.lst ((runN (ws.drop i)).1.map V.int)) → Q (.ref t) H'
def t_law_run (K : PySem.W.Frag) : TS :=
  (tSeq (tAsg (tLst tNil) (gName 2))
    (tSeq (tWhile (tAnd (tTest (tOp xLt (tVar 1) (tCB (rLenX K) (tCons (tVar 0) tNil)))) (tTest (tOp xNotN (tCall (sp_law_number K) [] E0 (tCons (tOp (rIxL K) (tVar 0) (tVar 1)) tNil)) (tC .non))))
      (tSeq (tDrop (tBM K "list" rAppend (tVar 2) (tCons (tCall (sp_law_number K) [] E0 (tCons (tOp (rIxL K) (tVar 0) (tVar 1)) tNil)) tNil)))
    (tAsg (tOp xAdd (tVar 1) (tC (.int 1))) (gName 1))))
    (tRet (tTup (tCons (tVar 2) (tCons (tVar 1) tNil))))))
theorem pure_law_run {v0 v1 : V} {H : Hp} {Q : VK} {E : XK} (h : pr_law_run K v0 v1 H Q E) : t_law_run K ⟨fun _ H' => Q .non H', Q, fun _ _ => False, fun _ _ => False⟩ [some v0, some v1, none] H := by
  obtain ⟨a, ws, i, rfl, R, rfl, hi, q⟩ := h
  unfold t_law_run
  wtm_at "s"
  refine kL (by simp) (fun D H1 nD s1 e1 => ?_)
  wtm_at "s"
  have rl := R.len
  refine k_while ⟨fun m σ' G => Same H G ∧ ∃ (j : Nat) (acc : List Int), σ' = [some (.ref a), some (.int (j : Nat)), some (.ref D)] ∧ j ≤ ws.length ∧ i ≤ j ∧ m + j = ws.length ∧ G D = some (.lst (acc.map V.int)) ∧ acc.length ≤ j ∧ acc ++ (runN (ws.drop j)).1 = (runN (ws.drop i)).1 ∧ (runN (ws.drop j)).2 = (runN (ws.drop i)).2, ⟨ws.length - i, s1, i, [], rfl, hi, Nat.le_refl _, by omega, e1, by simp, rfl, rfl⟩, ?_⟩
  rintro m σ' G ⟨sG, j, acc, rfl, hj, ij, hm, eD, la, r1, r2⟩
  have RG := R.same sG
  have aG := RG.at_
  have fin : ∀ G', Same G G' → ws.drop j = (runN (ws.drop j)).2 → (runN (ws.drop j)).1 = [] → newT [.ref D, .int (j : Nat)] G' Q := fun G' s h1 h2 => by
    refine kT (by simp) (fun t H3 nt s3 e3 => ?_)
    refine q t D H3 j (sG.trans (s.trans s3)) e3 hj ij (by rw [h1, r2]) ?_
    rw [← r1, h2, List.append_nil]
    exact (s.trans s3) _ _ eD
  wtm_at "s"
  rw [List.length_map]
  refine k_it (fun c => ?_) (fun c => ?_)
  · have hj2 : j < ws.length := by omega
    have hd := List.drop_eq_getElem_cons hj2
    have hw := List.getElem?_eq_getElem hj2
    generalize ws[j] = w at hd hw
    have wl := R.wlen (List.mem_of_getElem? hw)
    have wok := R.ok w (List.mem_of_getElem? hw)
    wtm_at "s"
    refine RG.ix rfl hw ?_
    wtm_at "s"
    refine ⟨_, rfl, w, rfl, by omega, wok, fun H2 s2 => ?_⟩
    cases en : numOf w with
    | none =>
      rw [show optV none = V.non from rfl]
      wtm_at "s"
      exact fin H2 s2 (by rw [hd, runN_stop en]) (by rw [hd, runN_stop en])
    | some k =>
      rw [show optV (some k) = V.int k from rfl]
      wtm_at "s"
      refine ⟨fun σ' G' => Same H G' ∧ σ' = [some (.ref a), some (.int ((j + 1 : Nat) : Int)), some (.ref D)] ∧ G' D = some (.lst ((acc ++ [k]).map V.int)), fun σ' G' z => ⟨m - 1, by omega, z.1, j + 1, acc ++ [k], z.2.1, by omega, by omega, by omega, z.2.2, by simp; omega, ?_, ?_⟩, ?_⟩
      · rw [hd, runN_cons en] at r1
        rw [List.append_assoc]; exact r1
      · rw [hd, runN_cons en] at r2
        exact r2
      wtm_at "s"
      refine k_tyL (sl (s2 _ _ eD)) ?_
      wtm_at "s"
      refine (RG.same s2).ix rfl hw ?_
      wtm_at "s"
      refine ⟨_, rfl, w, rfl, by omega, wok, fun H3 s3 => ?_⟩
      rw [en, show optV (some k) = V.int k from rfl]
      wtm_at "s"
      refine k_append ((s2.trans s3) _ _ eD) (by simp; omega) ?_
      wtm_at "s"
      refine ⟨same_mut (sG.trans (s2.trans s3)) nD, by rw [show ((j : Nat) : Int) + 1 = ((j + 1 : Nat) : Int) by omega], ?_⟩
      rw [upd_same, List.map_append]; rfl
  · wtm_at "s"
    have : ws.drop j = [] := List.drop_eq_nil_of_le (by omega)
    exact fin G (Same.refl _) (by rw [this]; rfl) (by rw [this]; rfl)
abbrev sp_law_run (K : PySem.W.Frag) : Sp := fun vs H Q E => ∃ v0 v1, vs = [v0, v1] ∧ pr_law_run K v0 v1 H Q E
theorem ok_law_run (T : Txt K mg A) : FnOk P w K mg base CX0 2 A.a_law_run A.d_law_run ["_law_words", "_law_at"] (sp_law_run K) := by
  refine T.F_law_run.ok sc_law_run (fun vs H Q E h => by obtain ⟨v0, v1, rfl, _⟩ := h; rfl) (fun cdv A0 outer s H vs Q E hr h => ?_)
  obtain ⟨v0, v1, rfl, h⟩ := h
  exact ⟨t_law_run K, (pss_cons (ps_set (i := 2) sc_law_run.nd rfl (Or.inl rfl) (pe_lst pa_nil))
      (pss_cons (ps_while PassesOwn.never (PW.pt (pw_and (pt_cmpR op_lt (pv 1) (pe_callB q_len (by rfl) T.z_len (by decide +kernel) (pa_cons (pv 0) pa_nil)) (nomark _)) (pw_and1 (pt_cmpR op_notN (pe_call (ok_law_number T) (hr.mono (by decide)) (by rfl) T.g_law_number T.F_law_number.kp T.b_law_number .nil pass0 (pa_cons (pe_ix ix_list (pv 0) (pv 1) (fun _ _ => rfl)) pa_nil)) pe_non (nomark _)))))
      (pss_cons (ps_expr (pe_bm PySem.F.plainAttrs_list PySem.F.slot_list_append PySem.F.type_list_append mt_append (pv 2) (pa_cons (pe_call (ok_law_number T) (hr.mono (by decide)) (by rfl) T.g_law_number T.F_law_number.kp T.b_law_number .nil pass0 (pa_cons (pe_ix ix_list (pv 0) (pv 1) (fun _ _ => rfl)) pa_nil)) pa_nil)))
      (pss_one (ps_set (i := 1) sc_law_run.nd rfl (Or.inl rfl) (pe_op op_add (pv 1) pe_int)))))
      (pss_one (ps_ret (pe_tup (pa_cons (pv 2) (pa_cons (pv 1) pa_nil))))))), pure_law_run h⟩


def NoneAt (Q : VK) (H : Hp) : Prop := ∀ t (x : Int) H', Same H H' → H' t = some (.tup [.non, .int x]) → Q (.ref t) H'
def Alv (H : Hp) (S : List Addr) : Prop := ∀ x ∈ S, H x ≠ none
theorem Alv.same {H H' : Hp} {S : List Addr} (h : Alv H S) (s : Same H H') : Alv H' S := fun x hx z => h x hx (s.free z)
theorem Alv.no {H : Hp} {S : List Addr} (h : Alv H S) {p : Addr} (n : H p = none) : p ∉ S := fun z => h p z n
def ThAt (K : PySem.W.Frag) (d : Th → PyData) (ws : List Wd) (Q : VK) (H : Hp) (th : Th) (r : List Wd) : Prop := ∀ t p (i' : Nat) H', Same H H' → H' t = some (.tup [.ref p, .int (i' : Nat)]) → i' ≤ ws.length → ws.drop i' = r → (∀ S, Alv H S → Dp K (hid S H') (.ref p) (d th)) → Q (.ref t) H'
theorem NoneAt.same {Q : VK} {H H1 : Hp} (h : NoneAt Q H) (s : Same H H1) : NoneAt Q H1 := fun t x H' s' e => h t x H' (s.trans s') e
theorem NoneAt.mk {Q : VK} {H : Hp} {x : Int} (h : NoneAt Q H) : newT [.non, .int x] H Q := kT (by simp) fun t H' _ s e => h t x H' s e
def pr_law_read_case (K : PySem.W.Frag) (d : Nat) (v0 v1 v2 : V) (H : Hp) (Q : VK) (_ : XK) : Prop := ∃ (a : Addr) (ws : List Wd) (i n : Nat), v0 = .ref a ∧ RowAt K H a ws ∧ v1 = .int (i : Nat) ∧ v2 = .int (n : Nat) ∧ n ≤ d ∧ i ≤ ws.length ∧
  (rdG lfC n (ws.drop i) = none → NoneAt Q H) ∧ ∀ th r, rdG lfC n (ws.drop i) = some (th, r) → ThAt K dC ws Q H th r
theorem lit_ne {s : String} {u : Wd} {H : Hp} {Q : VK} (h : Q (.bl (!decide (u = ww s))) H) : rNe (.str (mkS u)) (.str (Str.ofString s)) H Q := k_neS (by rw [← mk_ww s, dec_mk]; exact h)
theorem ww_op : ww "(" = wOp := by unfold ww; rw [sg_str]; rfl
theorem ww_cl : ww ")" = wCl := by unfold ww; rw [sg_str]; rfl
theorem ww_dot : ww "." = wDot := by unfold ww; rw [sg_str]; rfl
theorem ww_eq : ww "=" = wEq := by unfold ww; rw [sg_str]; rfl
def spd_law_read_case (K : PySem.W.Frag) : Nat → Sp
  | 0 => fun _ _ _ _ => False
  | d + 1 => fun vs H Q E => ∃ v0 v1 v2, vs = [v0, v1, v2] ∧ pr_law_read_case K d v0 v1 v2 H Q E
def t_law_read_case (K : PySem.W.Frag) (sp : Sp) : TS :=
  (tSeq (tIfS (tTest (tOp xGe (tVar 1) (tCB (rLenX K) (tCons (tVar 0) tNil)))) (tRet (tTup (tCons (tC .non) (tCons (tVar 1) tNil)))) tNext)
    (tSeq (tIfS (tTest (tOp rEq (tOp (rIxL K) (tVar 0) (tVar 1)) (tC (.str (Str.ofString "."))))) (tRet (tTup (tCons (tTup tNil) (tCons (tOp xAdd (tVar 1) (tC (.int 1))) tNil)))) tNext)
    (tSeq (tIfS (tOr (tTest (tOp rNe (tOp (rIxL K) (tVar 0) (tVar 1)) (tC (.str (Str.ofString "("))))) (tOr (tTest (tOp rEq (tVar 2) (tC (.int 0)))) (tOr (tTest (tOp xGe (tOp xAdd (tVar 1) (tC (.int 1))) (tCB (rLenX K) (tCons (tVar 0) tNil)))) (tTest (tOp xIsN (tCall (sp_law_number K) [] E0 (tCons (tOp (rIxL K) (tVar 0) (tOp xAdd (tVar 1) (tC (.int 1)))) tNil)) (tC .non)))))) (tRet (tTup (tCons (tC .non) (tCons (tVar 1) tNil)))) tNext)
    (tSeq (tAsg (tLst tNil) (gName 3))
    (tSeq (tAsg (tOp xAdd (tVar 1) (tC (.int 2))) (gName 4))
    (tSeq (tWhile (tAnd (tTest (tOp xLt (tVar 4) (tCB (rLenX K) (tCons (tVar 0) tNil)))) (tTest (tOp rNe (tOp (rIxL K) (tVar 0) (tVar 4)) (tC (.str (Str.ofString ")"))))))
      (tSeq (tAsg (tCall sp [] E0 (tCons (tVar 0) (tCons (tVar 4) (tCons (tOp xSub (tVar 2) (tC (.int 1))) tNil)))) (gTup K 2 (gCons (gName 5) (gCons (gName 4) gNil))))
    (tSeq (tIfS (tTest (tOp xIsN (tVar 5) (tC .non))) (tRet (tTup (tCons (tC .non) (tCons (tVar 4) tNil)))) tNext)
    (tDrop (tBM K "list" rAppend (tVar 3) (tCons (tVar 5) tNil))))))
    (tSeq (tIfS (tTest (tOp xGe (tVar 4) (tCB (rLenX K) (tCons (tVar 0) tNil)))) (tRet (tTup (tCons (tC .non) (tCons (tVar 4) tNil)))) tNext)
    (tRet (tTup (tCons (tTup (tCons (tCall (sp_law_number K) [] E0 (tCons (tOp (rIxL K) (tVar 0) (tOp xAdd (tVar 1) (tC (.int 1)))) tNil)) (tCons (tVar 3) tNil))) (tCons (tOp xAdd (tVar 4) (tC (.int 1))) tNil)))))))))))
theorem pure_law_read_case {d : Nat} {v0 v1 v2 : V} {H : Hp} {Q : VK} {E : XK} (h : pr_law_read_case K d v0 v1 v2 H Q E) : t_law_read_case K (spd_law_read_case K d) ⟨fun _ H' => Q .non H', Q, fun _ _ => False, fun _ _ => False⟩ [some v0, some v1, some v2, none, none, none] H := by
  obtain ⟨a, ws, i, n, rfl, R, rfl, rfl, hn, hi, qn, qs⟩ := h
  have rl := R.len
  have aH := R.at_
  unfold t_law_read_case
  wtm_at "s"
  rw [List.length_map]
  by_cases c0 : i < ws.length
  rotate_left
  · rw [if_pos (by simp; omega)]
    wtm_at "s"
    exact (qn (by rw [List.drop_eq_nil_of_le (by omega), rdG_nil]; rfl)).mk
  rw [if_neg (by simp; omega)]
  have hd := List.drop_eq_getElem_cons c0
  have hw := List.getElem?_eq_getElem c0
  generalize ws[i] = w at hd hw
  rw [hd] at qn qs
  wtm_at "s"
  refine R.ix rfl hw ?_
  wtm_at "s"
  refine lit_eq ?_
  rw [ww_dot]
  by_cases c1 : w = wDot
  · rw [decide_eq_true c1]
    wtm_at "s"
    refine kT (by simp) (fun p H1 np s1 e1 => ?_)
    wtm_at "s"
    refine kT (by simp) (fun t H2 nt s2 e2 => ?_)
    refine qs .lf (ws.drop (i + 1)) (by rw [rdG_lf _ _ (by rw [c1]; decide), c1]; rfl) t p (i + 1) H2 (s1.trans s2) (by rw [e2]; rfl) (by omega) rfl fun S hS => .tup (stp (by rw [hid_ne (hS.no np)]; exact s2 _ _ e1)) .nil
  rw [decide_eq_false c1]
  wtm_at "s"
  refine R.ix rfl hw ?_
  wtm_at "s"
  refine lit_ne ?_
  rw [ww_op]
  by_cases c2 : w = wOp
  rotate_left
  · rw [decide_eq_false c2]
    wtm_at "s"
    exact (qn (by rw [rdG_lf _ _ c2]; exact if_neg c1)).mk
  subst c2
  rw [decide_eq_true rfl]
  wtm_at "s"
  cases n with
  | zero =>
    wtm_at "s"
    exact (qn (rdG_op0 _)).mk
  | succ n =>
  rw [if_neg (by simp; omega)]
  obtain ⟨d, rfl⟩ : ∃ d', d = d' + 1 := ⟨d - 1, by omega⟩
  rw [rdG_op] at qn qs
  wtm_at "s"
  rw [List.length_map]
  by_cases c3 : i + 1 < ws.length
  rotate_left
  · rw [if_pos (by simp; omega)]
    wtm_at "s"
    exact (qn (by rw [List.drop_eq_nil_of_le (by omega)]; rfl)).mk
  rw [if_neg (by simp; omega)]
  have hd2 := List.drop_eq_getElem_cons c3
  have hw2 := List.getElem?_eq_getElem c3
  generalize ws[i + 1] = u at hd2 hw2
  rw [hd2] at qn qs
  wtm_at "s"
  refine R.ix (i := i + 1) (by omega) hw2 ?_
  wtm_at "s"
  have ul := R.wlen (List.mem_of_getElem? hw2)
  have uok := R.ok u (List.mem_of_getElem? hw2)
  refine ⟨_, rfl, u, rfl, by omega, uok, fun H1 s1 => ?_⟩
  cases en : numOf u with
  | none =>
    rw [show optV none = V.non from rfl]
    wtm_at "s"
    exact ((qn (opn_none en)).same s1).mk
  | some k =>
  rw [show optV (some k) = V.int k from rfl]
  rw [opn_num en] at qn qs
  wtm_at "s"
  refine kL (by simp) (fun D H2 nD s2 e2 => ?_)
  wtm_at "s"
  have s02 := s1.trans s2
  refine k_while ⟨fun m σ' G => Same H G ∧ ∃ (j : Nat) (xs : List V) (cs : List Th) (k5 : Option V), σ' = [some (.ref a), some (.int (i : Nat)), some (.int ((n + 1 : Nat) : Int)), some (.ref D), some (.int (j : Nat)), k5] ∧ j ≤ ws.length ∧ m + j = ws.length ∧ G D = some (.lst xs) ∧ (∀ S, Alv H S → DpAll K (hid (D :: S) G) xs (cs.map dC)) ∧ cs.length ≤ j ∧
    (kids (rdG lfC n) (ws.drop (i + 1 + 1)) = match kids (rdG lfC n) (ws.drop j) with | none => none | some (ds, r) => some (cs ++ ds, r)), ⟨ws.length - (i + 2), s02, i + 2, [], [], none, by congr 1, by omega, by omega, e2, (fun S hS => .nil), by simp, ?_⟩, ?_⟩
  · cases kids (rdG lfC n) (ws.drop (i + 2)) with
    | none => rfl
    | some p => rfl
  rintro m σ' G ⟨sG, j, xs, cs, k5, rfl, hj, hm, eD, dxs, lcs, hK⟩
  have RG := R.same sG
  have aG := RG.at_
  have nDH : H D = none := s1.free nD
  have lx := dpa_len (dxs [] fun x hx => nomatch hx)
  rw [List.length_map] at lx
  clear e2 s2 nD
  wtm_at "s"
  rw [List.length_map]
  by_cases c4 : j < ws.length
  rotate_left
  · rw [if_neg (by simp; omega)]
    have kn : kids (rdG lfC n) (ws.drop (i + 1 + 1)) = none := by rw [hK, List.drop_eq_nil_of_le (show ws.length ≤ j by omega)]; rfl
    wtm_at "s"
    rw [List.length_map]
    rw [if_pos (by simp; omega)]
    wtm_at "s"
    exact ((qn (by rw [kn])).same sG).mk
  rw [if_pos (by simp; omega)]
  have hd4 := List.drop_eq_getElem_cons c4
  have hw4 := List.getElem?_eq_getElem c4
  generalize ws[j] = z at hd4 hw4
  rw [hd4] at hK
  wtm_at "s"
  refine RG.ix rfl hw4 ?_
  wtm_at "s"
  refine lit_ne ?_
  rw [ww_cl]
  by_cases c5 : z = wCl
  · subst c5
    rw [decide_eq_true rfl]
    rw [kids_cl] at hK
    wtm_at "s"
    rw [List.length_map]
    rw [if_neg (by simp; omega)]
    wtm_at "s"
    refine RG.ix (i := i + 1) (by omega) hw2 ?_
    wtm_at "s"
    refine ⟨_, rfl, u, rfl, by omega, uok, fun H3 s3 => ?_⟩
    rw [en, show optV (some k) = V.int k from rfl]
    wtm_at "s"
    refine kT (by simp) (fun p H4 np s4 e4 => ?_)
    wtm_at "s"
    refine kT (by simp) (fun t H5 nt s5 e5 => ?_)
    have s35 := s3.trans (s4.trans s5)
    refine qs (.node k cs) (ws.drop (j + 1)) (by rw [hK]; simp only [List.append_nil]) t p (j + 1) H5 (sG.trans s35) (by rw [e5]; rfl) (by omega) rfl fun S hS => ?_
    rw [dC_node]
    exact .tup (stp (by rw [hid_ne (hS.no (sG.free (s3.free np)))]; exact s5 _ _ e4)) (.cons (.int k) (.cons (.lst (sl (by rw [hid_ne (hS.no nDH)]; exact s35 _ _ eD)) (dpa_same ((hid_sub fun x hx => List.mem_cons_of_mem _ hx).trans (hid_mono s35)) (dxs S hS))) .nil))
  rw [decide_eq_false c5]
  wtm_at "s"
  refine ⟨fun σ' G' => ∃ m', m' < m ∧ Same H G' ∧ ∃ (j : Nat) (xs : List V) (cs : List Th) (k5 : Option V), σ' = [some (.ref a), some (.int (i : Nat)), some (.int ((n + 1 : Nat) : Int)), some (.ref D), some (.int (j : Nat)), k5] ∧ j ≤ ws.length ∧ m' + j = ws.length ∧ G' D = some (.lst xs) ∧ (∀ S, Alv H S → DpAll K (hid (D :: S) G') xs (cs.map dC)) ∧ cs.length ≤ j ∧
    (kids (rdG lfC n) (ws.drop (i + 1 + 1)) = match kids (rdG lfC n) (ws.drop j) with | none => none | some (ds, r) => some (cs ++ ds, r)), fun σ' G' z => z, ?_⟩
  wtm_at "s"
  refine ⟨_, _, _, rfl, a, ws, j, n, rfl, RG, rfl, by congr 1; omega, by omega, hj, fun hno => ?_, fun th r hyes => ?_⟩
  · intro t x H3 s3 e3
    rw [hd4] at hno
    rw [kids_none c5 hno] at hK
    wtm_at "s"
    exact ((qn (by rw [hK])).same (sG.trans s3)).mk
  · intro t p i3 H3 s3 e3 hi3 hd3 dp3
    rw [hd4] at hyes
    rw [kids_some (rdG_shr lf_c n) c5 hyes] at hK
    have hlen := rdG_shr lf_c n _ _ _ hyes
    have ji : j < i3 := by
      have l1 : (ws.drop i3).length = r.length := by rw [hd3]
      have l2 : (ws.drop j).length = (z :: ws.drop (j + 1)).length := by rw [hd4]
      rw [List.length_drop] at l1 l2
      simp only [List.length_cons] at l2 hlen
      omega
    wtm_at "s"
    refine k_tyL (sl (s3 _ _ eD)) ?_
    wtm_at "s"
    refine k_append (s3 _ _ eD) (by omega) ?_
    refine ⟨ws.length - i3, by omega, same_mut (sG.trans s3) nDH, i3, xs ++ [.ref p], cs ++ [th], _, rfl, hi3, by omega, upd_same, (fun S hS => ?_), by simp; omega, ?_⟩
    · rw [hid_upd (by simp), List.map_append]
      refine dpa_app (dpa_same (hid_mono s3) (dxs S hS)) (.cons (dp3 (D :: S) fun x hx => ?_) .nil)
      rcases List.mem_cons.mp hx with rfl | hx
      · rw [eD]; exact fun z => nomatch z
      · exact hS.same sG x hx
    · rw [hK, hd3]
      cases kids (rdG lfC n) r with
      | none => rfl
      | some q => simp
theorem okd_law_read_case (T : Txt K mg A) : ∀ d : Nat, FnOk P w K mg base CX0 (2 + d) A.a_law_read_case A.d_law_read_case ["_law_words", "_law_at", "_law_deep"] (spd_law_read_case K d)
  | 0 => T.F_law_read_case.ok sc_law_read_case (fun vs H Q E h => False.elim h) (fun cdv A0 outer s H vs Q E hr h => False.elim h)
  | d + 1 => by
    refine T.F_law_read_case.ok sc_law_read_case (fun vs H Q E h => by obtain ⟨v0, v1, v2, rfl, _⟩ := h; rfl) (fun cdv A0 outer s H vs Q E hr h => ?_)
    obtain ⟨v0, v1, v2, rfl, h⟩ := h
    exact ⟨t_law_read_case K (spd_law_read_case K d), (pss_cons (ps_if (pt_cmpR op_ge (pv 1) (pe_callB q_len (by rfl) T.z_len (by decide +kernel) (pa_cons (pv 0) pa_nil)) (nomark _)) (pss_one (ps_ret (pe_tup (pa_cons pe_non (pa_cons (pv 1) pa_nil))))) pss_nil)
      (pss_cons (ps_if (pt_cmpR op_eq (pe_ix ix_list (pv 0) (pv 1) (fun _ _ => rfl)) pe_str (nomark _)) (pss_one (ps_ret (pe_tup (pa_cons (pe_tup pa_nil) (pa_cons (pe_op op_add (pv 1) pe_int) pa_nil))))) pss_nil)
      (pss_cons (ps_if (PW.pt (pw_or (pt_cmpR op_ne (pe_ix ix_list (pv 0) (pv 1) (fun _ _ => rfl)) pe_str (nomark _)) (pw_or (pt_cmpR op_eq (pv 2) pe_int (nomark _)) (pw_or (pt_cmpR op_ge (pe_op op_add (pv 1) pe_int) (pe_callB q_len (by rfl) T.z_len (by decide +kernel) (pa_cons (pv 0) pa_nil)) (nomark _)) (pw_or1 (pt_cmpR op_isN (pe_call (ok_law_number T) (hr.mono (by first | decide | omega | (simp only [Nat.add_eq]; omega))) (by rfl) T.g_law_number T.F_law_number.kp T.b_law_number .nil pass0 (pa_cons (pe_ix ix_list (pv 0) (pe_op op_add (pv 1) pe_int) (fun _ _ => rfl)) pa_nil)) pe_non (nomark _))))))) (pss_one (ps_ret (pe_tup (pa_cons pe_non (pa_cons (pv 1) pa_nil))))) pss_nil)
      (pss_cons (ps_set (i := 3) sc_law_read_case.nd rfl (Or.inl rfl) (pe_lst pa_nil))
      (pss_cons (ps_set (i := 4) sc_law_read_case.nd rfl (Or.inl rfl) (pe_op op_add (pv 1) pe_int))
      (pss_cons (ps_while PassesOwn.never (PW.pt (pw_and (pt_cmpR op_lt (pv 4) (pe_callB q_len (by rfl) T.z_len (by decide +kernel) (pa_cons (pv 0) pa_nil)) (nomark _)) (pw_and1 (pt_cmpR op_ne (pe_ix ix_list (pv 0) (pv 4) (fun _ _ => rfl)) pe_str (nomark _)))))
      (pss_cons (ps_asg (pe_call (okd_law_read_case T d) (hr.mono (by first | decide | omega | (simp only [Nat.add_eq]; omega))) (by rfl) T.g_law_read_case T.F_law_read_case.kp T.b_law_read_case .nil pass0 (pa_cons (pv 0) (pa_cons (pv 4) (pa_cons (pe_op op_sub (pv 2) pe_int) pa_nil)))) (pg_tup (by rfl) (pgs_cons (pg_name (i := 5) sc_law_read_case.nd rfl (Or.inl rfl)) (pgs_cons (pg_name (i := 4) sc_law_read_case.nd rfl (Or.inl rfl)) pgs_nil))))
      (pss_cons (ps_if (pt_cmpR op_isN (pv 5) pe_non (nomark _)) (pss_one (ps_ret (pe_tup (pa_cons pe_non (pa_cons (pv 4) pa_nil))))) pss_nil)
      (pss_one (ps_expr (pe_bm PySem.F.plainAttrs_list PySem.F.slot_list_append PySem.F.type_list_append mt_append (pv 3) (pa_cons (pv 5) pa_nil)))))))
      (pss_cons (ps_if (pt_cmpR op_ge (pv 4) (pe_callB q_len (by rfl) T.z_len (by decide +kernel) (pa_cons (pv 0) pa_nil)) (nomark _)) (pss_one (ps_ret (pe_tup (pa_cons pe_non (pa_cons (pv 4) pa_nil))))) pss_nil)
      (pss_one (ps_ret (pe_tup (pa_cons (pe_tup (pa_cons (pe_call (ok_law_number T) (hr.mono (by first | decide | omega | (simp only [Nat.add_eq]; omega))) (by rfl) T.g_law_number T.F_law_number.kp T.b_law_number .nil pass0 (pa_cons (pe_ix ix_list (pv 0) (pe_op op_add (pv 1) pe_int) (fun _ _ => rfl)) pa_nil)) (pa_cons (pv 3) pa_nil))) (pa_cons (pe_op op_add (pv 4) pe_int) pa_nil)))))))))))), pure_law_read_case h⟩
abbrev sp_law_read_case (K : PySem.W.Frag) : Sp := fun vs H Q E => ∃ v0 v1 v2, vs = [v0, v1, v2] ∧ ∃ d : Nat, d < 44 ∧ pr_law_read_case K d v0 v1 v2 H Q E
theorem ok_law_read_case (T : Txt K mg A) : FnOk P w K mg base CX0 46 A.a_law_read_case A.d_law_read_case ["_law_words", "_law_at", "_law_deep"] (sp_law_read_case K) := by
  refine T.F_law_read_case.ok sc_law_read_case (fun vs H Q E h => by obtain ⟨v0, v1, v2, rfl, _⟩ := h; rfl) (fun cdv A0 outer s H vs Q E hr h => ?_)
  obtain ⟨v0, v1, v2, rfl, d, hd, h⟩ := h
  exact ⟨t_law_read_case K (spd_law_read_case K d), (pss_cons (ps_if (pt_cmpR op_ge (pv 1) (pe_callB q_len (by rfl) T.z_len (by decide +kernel) (pa_cons (pv 0) pa_nil)) (nomark _)) (pss_one (ps_ret (pe_tup (pa_cons pe_non (pa_cons (pv 1) pa_nil))))) pss_nil)
      (pss_cons (ps_if (pt_cmpR op_eq (pe_ix ix_list (pv 0) (pv 1) (fun _ _ => rfl)) pe_str (nomark _)) (pss_one (ps_ret (pe_tup (pa_cons (pe_tup pa_nil) (pa_cons (pe_op op_add (pv 1) pe_int) pa_nil))))) pss_nil)
      (pss_cons (ps_if (PW.pt (pw_or (pt_cmpR op_ne (pe_ix ix_list (pv 0) (pv 1) (fun _ _ => rfl)) pe_str (nomark _)) (pw_or (pt_cmpR op_eq (pv 2) pe_int (nomark _)) (pw_or (pt_cmpR op_ge (pe_op op_add (pv 1) pe_int) (pe_callB q_len (by rfl) T.z_len (by decide +kernel) (pa_cons (pv 0) pa_nil)) (nomark _)) (pw_or1 (pt_cmpR op_isN (pe_call (ok_law_number T) (hr.mono (by first | decide | omega | (simp only [Nat.add_eq]; omega))) (by rfl) T.g_law_number T.F_law_number.kp T.b_law_number .nil pass0 (pa_cons (pe_ix ix_list (pv 0) (pe_op op_add (pv 1) pe_int) (fun _ _ => rfl)) pa_nil)) pe_non (nomark _))))))) (pss_one (ps_ret (pe_tup (pa_cons pe_non (pa_cons (pv 1) pa_nil))))) pss_nil)
      (pss_cons (ps_set (i := 3) sc_law_read_case.nd rfl (Or.inl rfl) (pe_lst pa_nil))
      (pss_cons (ps_set (i := 4) sc_law_read_case.nd rfl (Or.inl rfl) (pe_op op_add (pv 1) pe_int))
      (pss_cons (ps_while PassesOwn.never (PW.pt (pw_and (pt_cmpR op_lt (pv 4) (pe_callB q_len (by rfl) T.z_len (by decide +kernel) (pa_cons (pv 0) pa_nil)) (nomark _)) (pw_and1 (pt_cmpR op_ne (pe_ix ix_list (pv 0) (pv 4) (fun _ _ => rfl)) pe_str (nomark _)))))
      (pss_cons (ps_asg (pe_call (okd_law_read_case T d) (hr.mono (by first | decide | omega | (simp only [Nat.add_eq]; omega))) (by rfl) T.g_law_read_case T.F_law_read_case.kp T.b_law_read_case .nil pass0 (pa_cons (pv 0) (pa_cons (pv 4) (pa_cons (pe_op op_sub (pv 2) pe_int) pa_nil)))) (pg_tup (by rfl) (pgs_cons (pg_name (i := 5) sc_law_read_case.nd rfl (Or.inl rfl)) (pgs_cons (pg_name (i := 4) sc_law_read_case.nd rfl (Or.inl rfl)) pgs_nil))))
      (pss_cons (ps_if (pt_cmpR op_isN (pv 5) pe_non (nomark _)) (pss_one (ps_ret (pe_tup (pa_cons pe_non (pa_cons (pv 4) pa_nil))))) pss_nil)
      (pss_one (ps_expr (pe_bm PySem.F.plainAttrs_list PySem.F.slot_list_append PySem.F.type_list_append mt_append (pv 3) (pa_cons (pv 5) pa_nil)))))))
      (pss_cons (ps_if (pt_cmpR op_ge (pv 4) (pe_callB q_len (by rfl) T.z_len (by decide +kernel) (pa_cons (pv 0) pa_nil)) (nomark _)) (pss_one (ps_ret (pe_tup (pa_cons pe_non (pa_cons (pv 4) pa_nil))))) pss_nil)
      (pss_one (ps_ret (pe_tup (pa_cons (pe_tup (pa_cons (pe_call (ok_law_number T) (hr.mono (by first | decide | omega | (simp only [Nat.add_eq]; omega))) (by rfl) T.g_law_number T.F_law_number.kp T.b_law_number .nil pass0 (pa_cons (pe_ix ix_list (pv 0) (pe_op op_add (pv 1) pe_int) (fun _ _ => rfl)) pa_nil)) (pa_cons (pv 3) pa_nil))) (pa_cons (pe_op op_add (pv 4) pe_int) pa_nil)))))))))))), pure_law_read_case h⟩


theorem rdT_cons {d : Nat} {w a b : Wd} {r : List Wd} {k : Int} (h : numOf a = some k) : rdT d (w :: a :: b :: r) = if w = wEq then (match numOf b with
        | none => none
        | some y => some (.ties k y, r))
      else if w = wOp then (match d with
        | 0 => none
        | d + 1 => match rdT d (b :: r) with
          | none => none
          | some (x, r1) => match rdT d r1 with
            | none => none
            | some (y, r2) => clN k x y r2)
      else none := by
  rw [rdT, h] <;> rfl
theorem rdT_nonum {d : Nat} {w a b : Wd} {r : List Wd} (h : numOf a = none) : rdT d (w :: a :: b :: r) = none := by
  rw [rdT, h]
theorem rdT_short {d : Nat} {ws : List Wd} (h : ws.length < 3) : rdT d ws = none := by
  match ws, h with
  | [], _ => cases d <;> rfl
  | [_], _ => cases d <;> rfl
  | [_, _], _ => cases d <;> rfl
  | _ :: _ :: _ :: _, h => exact absurd h (by simp only [List.length_cons]; omega)
theorem rdT_shr {d : Nat} : Shr (rdT d) := fun ws t r h => by
  rw [rdT_is] at h
  unfold isB at h
  cases e : rdG lfT d ws with
  | none => rw [e] at h; cases h
  | some p =>
    obtain ⟨t', r'⟩ := p
    rw [e] at h
    simp only at h
    split at h
    · cases h; exact rdG_shr lf_t d _ _ _ e
    · cases h
def pr_law_read_turn (K : PySem.W.Frag) (d : Nat) (v0 v1 v2 : V) (H : Hp) (Q : VK) (_ : XK) : Prop := ∃ (a : Addr) (ws : List Wd) (i n : Nat), v0 = .ref a ∧ RowAt K H a ws ∧ v1 = .int (i : Nat) ∧ v2 = .int (n : Nat) ∧ n ≤ d ∧ i ≤ ws.length ∧
  (rdT n (ws.drop i) = none → NoneAt Q H) ∧ ∀ th r, rdT n (ws.drop i) = some (th, r) → ThAt K dT ws Q H th r
def spd_law_read_turn (K : PySem.W.Frag) : Nat → Sp
  | 0 => fun _ _ _ _ => False
  | d + 1 => fun vs H Q E => ∃ v0 v1 v2, vs = [v0, v1, v2] ∧ pr_law_read_turn K d v0 v1 v2 H Q E
def t_law_read_turn (K : PySem.W.Frag) (sp : Sp) : TS :=
  (tSeq (tIfS (tOr (tTest (tOp xGe (tOp xAdd (tVar 1) (tC (.int 2))) (tCB (rLenX K) (tCons (tVar 0) tNil)))) (tTest (tOp xIsN (tCall (sp_law_number K) [] E0 (tCons (tOp (rIxL K) (tVar 0) (tOp xAdd (tVar 1) (tC (.int 1)))) tNil)) (tC .non)))) (tRet (tTup (tCons (tC .non) (tCons (tVar 1) tNil)))) tNext)
    (tSeq (tIfS (tTest (tOp rEq (tOp (rIxL K) (tVar 0) (tVar 1)) (tC (.str (Str.ofString "="))))) (tSeq (tIfS (tTest (tOp xIsN (tCall (sp_law_number K) [] E0 (tCons (tOp (rIxL K) (tVar 0) (tOp xAdd (tVar 1) (tC (.int 2)))) tNil)) (tC .non))) (tRet (tTup (tCons (tC .non) (tCons (tVar 1) tNil)))) tNext)
    (tRet (tTup (tCons (tTup (tCons (tC (.str (Str.ofString "ties"))) (tCons (tCall (sp_law_number K) [] E0 (tCons (tOp (rIxL K) (tVar 0) (tOp xAdd (tVar 1) (tC (.int 1)))) tNil)) (tCons (tCall (sp_law_number K) [] E0 (tCons (tOp (rIxL K) (tVar 0) (tOp xAdd (tVar 1) (tC (.int 2)))) tNil)) tNil)))) (tCons (tOp xAdd (tVar 1) (tC (.int 3))) tNil))))) tNext)
    (tSeq (tIfS (tOr (tTest (tOp rNe (tOp (rIxL K) (tVar 0) (tVar 1)) (tC (.str (Str.ofString "("))))) (tTest (tOp rEq (tVar 2) (tC (.int 0))))) (tRet (tTup (tCons (tC .non) (tCons (tVar 1) tNil)))) tNext)
    (tSeq (tAsg (tCall sp [] E0 (tCons (tVar 0) (tCons (tOp xAdd (tVar 1) (tC (.int 2))) (tCons (tOp xSub (tVar 2) (tC (.int 1))) tNil)))) (gTup K 2 (gCons (gName 3) (gCons (gName 4) gNil))))
    (tSeq (tIfS (tTest (tOp xIsN (tVar 3) (tC .non))) (tRet (tTup (tCons (tC .non) (tCons (tVar 4) tNil)))) tNext)
    (tSeq (tAsg (tCall sp [] E0 (tCons (tVar 0) (tCons (tVar 4) (tCons (tOp xSub (tVar 2) (tC (.int 1))) tNil)))) (gTup K 2 (gCons (gName 5) (gCons (gName 4) gNil))))
    (tSeq (tIfS (tOr (tTest (tOp xIsN (tVar 5) (tC .non))) (tOr (tTest (tOp xGe (tVar 4) (tCB (rLenX K) (tCons (tVar 0) tNil)))) (tTest (tOp rNe (tOp (rIxL K) (tVar 0) (tVar 4)) (tC (.str (Str.ofString ")"))))))) (tRet (tTup (tCons (tC .non) (tCons (tVar 4) tNil)))) tNext)
    (tRet (tTup (tCons (tTup (tCons (tCall (sp_law_number K) [] E0 (tCons (tOp (rIxL K) (tVar 0) (tOp xAdd (tVar 1) (tC (.int 1)))) tNil)) (tCons (tVar 3) (tCons (tVar 5) tNil)))) (tCons (tOp xAdd (tVar 4) (tC (.int 1))) tNil)))))))))))
theorem pure_law_read_turn {d : Nat} {v0 v1 v2 : V} {H : Hp} {Q : VK} {E : XK} (h : pr_law_read_turn K d v0 v1 v2 H Q E) : t_law_read_turn K (spd_law_read_turn K d) ⟨fun _ H' => Q .non H', Q, fun _ _ => False, fun _ _ => False⟩ [some v0, some v1, some v2, none, none, none] H := by
  obtain ⟨a, ws, i, n, rfl, R, rfl, rfl, hn, hi, qn, qs⟩ := h
  have rl := R.len
  have aH := R.at_
  unfold t_law_read_turn
  wtm_at "s"
  rw [List.length_map]
  by_cases c0 : i + 2 < ws.length
  rotate_left
  · rw [if_pos (by simp; omega)]
    wtm_at "s"
    exact (qn (rdT_short (by rw [List.length_drop]; omega))).mk
  rw [if_neg (by simp; omega)]
  have hd0 := List.drop_eq_getElem_cons (show i < ws.length by omega)
  have hw0 := List.getElem?_eq_getElem (show i < ws.length by omega)
  generalize ws[i] = w at hd0 hw0
  have hd1 := List.drop_eq_getElem_cons (show i + 1 < ws.length by omega)
  have hw1 := List.getElem?_eq_getElem (show i + 1 < ws.length by omega)
  generalize ws[i + 1] = u at hd1 hw1
  have hd2 := List.drop_eq_getElem_cons c0
  have hw2 := List.getElem?_eq_getElem c0
  generalize ws[i + 2] = z at hd2 hw2
  rw [show i + 1 + 1 = i + 2 from rfl, hd2] at hd1
  rw [hd1] at hd0
  rw [hd0] at qn qs
  have ul := R.wlen (List.mem_of_getElem? hw1)
  have uok := R.ok u (List.mem_of_getElem? hw1)
  have zl := R.wlen (List.mem_of_getElem? hw2)
  have zok := R.ok z (List.mem_of_getElem? hw2)
  wtm_at "s"
  refine R.ix (i := i + 1) (by omega) hw1 ?_
  wtm_at "s"
  refine ⟨_, rfl, u, rfl, by omega, uok, fun H1 s1 => ?_⟩
  have R1 := R.same s1
  have aH1 := R1.at_
  cases en : numOf u with
  | none =>
    rw [show optV none = V.non from rfl]
    wtm_at "s"
    exact ((qn (rdT_nonum en)).same s1).mk
  | some k =>
  rw [show optV (some k) = V.int k from rfl]
  rw [rdT_cons en] at qn qs
  wtm_at "s"
  refine R1.ix rfl hw0 ?_
  wtm_at "s"
  refine lit_eq ?_
  rw [ww_eq]
  by_cases c1 : w = wEq
  · rw [decide_eq_true c1]
    rw [if_pos c1] at qn qs
    wtm_at "s"
    refine R1.ix (i := i + 2) (by omega) hw2 ?_
    wtm_at "s"
    refine ⟨_, rfl, z, rfl, by omega, zok, fun H2 s2 => ?_⟩
    cases ez : numOf z with
    | none =>
      rw [show optV none = V.non from rfl]
      wtm_at "s"
      exact ((qn (by rw [ez])).same (s1.trans s2)).mk
    | some y =>
      rw [show optV (some y) = V.int y from rfl]
      wtm_at "s"
      refine (R1.same s2).ix (i := i + 1) (by omega) hw1 ?_
      wtm_at "s"
      refine ⟨_, rfl, u, rfl, by omega, uok, fun H3 s3 => ?_⟩
      rw [en, show optV (some k) = V.int k from rfl]
      wtm_at "s"
      refine ((R1.same s2).same s3).ix (i := i + 2) (by omega) hw2 ?_
      wtm_at "s"
      refine ⟨_, rfl, z, rfl, by omega, zok, fun H4 s4 => ?_⟩
      rw [ez, show optV (some y) = V.int y from rfl]
      wtm_at "s"
      refine kT (by simp) (fun p H5 np s5 e5 => ?_)
      wtm_at "s"
      refine kT (by simp) (fun t H6 nt s6 e6 => ?_)
      have s04 := s1.trans (s2.trans (s3.trans s4))
      refine qs (.ties k y) (ws.drop (i + 3)) (by rw [ez]) t p (i + 3) H6 (s04.trans (s5.trans s6)) (by rw [e6]; rfl) (by omega) rfl fun S hS => ?_
      exact .tup (stp (by rw [hid_ne (hS.no (s04.free np))]; exact s6 _ _ e5)) (.cons (.str _) (.cons (.int k) (.cons (.int y) .nil)))
  rw [decide_eq_false c1]
  rw [if_neg c1] at qn qs
  wtm_at "s"
  refine R1.ix rfl hw0 ?_
  wtm_at "s"
  refine lit_ne ?_
  rw [ww_op]
  by_cases c2 : w = wOp
  rotate_left
  · rw [decide_eq_false c2]
    rw [if_neg c2] at qn
    wtm_at "s"
    exact ((qn rfl).same s1).mk
  rw [if_pos c2] at qn qs
  rw [decide_eq_true c2]
  wtm_at "s"
  cases n with
  | zero =>
    wtm_at "s"
    exact ((qn rfl).same s1).mk
  | succ n =>
  obtain ⟨d, rfl⟩ : ∃ d', d = d' + 1 := ⟨d - 1, by omega⟩
  rw [if_neg (by simp; omega)]
  simp only at qn qs
  wtm_at "s"
  refine ⟨_, _, _, rfl, a, ws, i + 2, n, rfl, R1, by congr 1, by congr 1; omega, by omega, by omega, fun hno => ?_, fun x r1 hx => ?_⟩
  · rw [hd2] at hno
    rw [hno] at qn
    intro t x H3 s3 e3
    wtm_at "s"
    exact ((qn rfl).same (s1.trans s3)).mk
  · rw [hd2] at hx
    rw [hx] at qn qs
    simp only at qn qs
    intro t p i3 H3 s3 e3 hi3 hd3 dp3
    have R3 := R1.same s3
    wtm_at "s"
    refine ⟨_, _, _, rfl, a, ws, i3, n, rfl, R3, rfl, by congr 1; omega, by omega, hi3, fun hno => ?_, fun y r2 hy => ?_⟩
    · rw [hd3] at hno
      rw [hno] at qn
      intro t x H4 s4 e4
      wtm_at "s"
      exact ((qn rfl).same (s1.trans (s3.trans s4))).mk
    · rw [hd3] at hy
      rw [hy] at qn qs
      simp only at qn qs
      intro t2 p2 i4 H4 s4 e4 hi4 hd4 dp4
      have R4 := R3.same s4
      have aH4 := R4.at_
      have s04 := s1.trans (s3.trans s4)
      wtm_at "s"
      rw [List.length_map]
      by_cases c4 : i4 < ws.length
      rotate_left
      · rw [if_pos (by simp; omega)]
        have : r2 = [] := by rw [← hd4]; exact List.drop_eq_nil_of_le (by omega)
        rw [this] at qn
        wtm_at "s"
        exact ((qn rfl).same s04).mk
      rw [if_neg (by simp; omega)]
      have hd5 := List.drop_eq_getElem_cons c4
      have hw5 := List.getElem?_eq_getElem c4
      generalize ws[i4] = q at hd5 hw5
      rw [hd4] at hd5
      subst hd5
      wtm_at "s"
      refine R4.ix rfl hw5 ?_
      wtm_at "s"
      refine lit_ne ?_
      rw [ww_cl]
      by_cases c5 : q = wCl
      rotate_left
      · rw [decide_eq_false c5]
        wtm_at "s"
        exact ((qn (if_neg c5)).same s04).mk
      rw [decide_eq_true c5]
      wtm_at "s"
      refine R4.ix (i := i + 1) (by omega) hw1 ?_
      wtm_at "s"
      refine ⟨_, rfl, u, rfl, by omega, uok, fun H5 s5 => ?_⟩
      rw [en, show optV (some k) = V.int k from rfl]
      wtm_at "s"
      refine kT (by simp) (fun p6 H6 np6 s6 e6 => ?_)
      wtm_at "s"
      refine kT (by simp) (fun t7 H7 nt s7 e7 => ?_)
      refine qs (.node k [x, y]) (ws.drop (i4 + 1)) (if_pos c5) t7 p6 (i4 + 1) H7 (s04.trans (s5.trans (s6.trans s7))) (by rw [e7]; rfl) (by omega) rfl fun S hS => ?_
      rw [dT_node]
      have al1 : Alv H1 S := hS.same s1
      exact .tup (stp (by rw [hid_ne (hS.no ((s04.trans s5).free np6))]; exact s7 _ _ e6)) (.cons (.int k) (.cons (dp_same (hid_mono (s4.trans (s5.trans (s6.trans s7)))) (dp3 S al1)) (.cons (dp_same (hid_mono (s5.trans (s6.trans s7))) (dp4 S (al1.same s3))) .nil)))
theorem okd_law_read_turn (T : Txt K mg A) : ∀ d : Nat, FnOk P w K mg base CX0 (2 + d) A.a_law_read_turn A.d_law_read_turn ["_law_words", "_law_at", "_law_deep"] (spd_law_read_turn K d)
  | 0 => T.F_law_read_turn.ok sc_law_read_turn (fun vs H Q E h => False.elim h) (fun cdv A0 outer s H vs Q E hr h => False.elim h)
  | d + 1 => by
    refine T.F_law_read_turn.ok sc_law_read_turn (fun vs H Q E h => by obtain ⟨v0, v1, v2, rfl, _⟩ := h; rfl) (fun cdv A0 outer s H vs Q E hr h => ?_)
    obtain ⟨v0, v1, v2, rfl, h⟩ := h
    exact ⟨t_law_read_turn K (spd_law_read_turn K d), (pss_cons (ps_if (PW.pt (pw_or (pt_cmpR op_ge (pe_op op_add (pv 1) pe_int) (pe_callB q_len (by rfl) T.z_len (by decide +kernel) (pa_cons (pv 0) pa_nil)) (nomark _)) (pw_or1 (pt_cmpR op_isN (pe_call (ok_law_number T) (hr.mono (by first | decide | omega | (simp only [Nat.add_eq]; omega))) (by rfl) T.g_law_number T.F_law_number.kp T.b_law_number .nil pass0 (pa_cons (pe_ix ix_list (pv 0) (pe_op op_add (pv 1) pe_int) (fun _ _ => rfl)) pa_nil)) pe_non (nomark _))))) (pss_one (ps_ret (pe_tup (pa_cons pe_non (pa_cons (pv 1) pa_nil))))) pss_nil)
      (pss_cons (ps_if (pt_cmpR op_eq (pe_ix ix_list (pv 0) (pv 1) (fun _ _ => rfl)) pe_str (nomark _)) (pss_cons (ps_if (pt_cmpR op_isN (pe_call (ok_law_number T) (hr.mono (by first | decide | omega | (simp only [Nat.add_eq]; omega))) (by rfl) T.g_law_number T.F_law_number.kp T.b_law_number .nil pass0 (pa_cons (pe_ix ix_list (pv 0) (pe_op op_add (pv 1) pe_int) (fun _ _ => rfl)) pa_nil)) pe_non (nomark _)) (pss_one (ps_ret (pe_tup (pa_cons pe_non (pa_cons (pv 1) pa_nil))))) pss_nil)
      (pss_one (ps_ret (pe_tup (pa_cons (pe_tup (pa_cons pe_str (pa_cons (pe_call (ok_law_number T) (hr.mono (by first | decide | omega | (simp only [Nat.add_eq]; omega))) (by rfl) T.g_law_number T.F_law_number.kp T.b_law_number .nil pass0 (pa_cons (pe_ix ix_list (pv 0) (pe_op op_add (pv 1) pe_int) (fun _ _ => rfl)) pa_nil)) (pa_cons (pe_call (ok_law_number T) (hr.mono (by first | decide | omega | (simp only [Nat.add_eq]; omega))) (by rfl) T.g_law_number T.F_law_number.kp T.b_law_number .nil pass0 (pa_cons (pe_ix ix_list (pv 0) (pe_op op_add (pv 1) pe_int) (fun _ _ => rfl)) pa_nil)) pa_nil)))) (pa_cons (pe_op op_add (pv 1) pe_int) pa_nil)))))) pss_nil)
      (pss_cons (ps_if (PW.pt (pw_or (pt_cmpR op_ne (pe_ix ix_list (pv 0) (pv 1) (fun _ _ => rfl)) pe_str (nomark _)) (pw_or1 (pt_cmpR op_eq (pv 2) pe_int (nomark _))))) (pss_one (ps_ret (pe_tup (pa_cons pe_non (pa_cons (pv 1) pa_nil))))) pss_nil)
      (pss_cons (ps_asg (pe_call (okd_law_read_turn T d) (hr.mono (by first | decide | omega | (simp only [Nat.add_eq]; omega))) (by rfl) T.g_law_read_turn T.F_law_read_turn.kp T.b_law_read_turn .nil pass0 (pa_cons (pv 0) (pa_cons (pe_op op_add (pv 1) pe_int) (pa_cons (pe_op op_sub (pv 2) pe_int) pa_nil)))) (pg_tup (by rfl) (pgs_cons (pg_name (i := 3) sc_law_read_turn.nd rfl (Or.inl rfl)) (pgs_cons (pg_name (i := 4) sc_law_read_turn.nd rfl (Or.inl rfl)) pgs_nil))))
      (pss_cons (ps_if (pt_cmpR op_isN (pv 3) pe_non (nomark _)) (pss_one (ps_ret (pe_tup (pa_cons pe_non (pa_cons (pv 4) pa_nil))))) pss_nil)
      (pss_cons (ps_asg (pe_call (okd_law_read_turn T d) (hr.mono (by first | decide | omega | (simp only [Nat.add_eq]; omega))) (by rfl) T.g_law_read_turn T.F_law_read_turn.kp T.b_law_read_turn .nil pass0 (pa_cons (pv 0) (pa_cons (pv 4) (pa_cons (pe_op op_sub (pv 2) pe_int) pa_nil)))) (pg_tup (by rfl) (pgs_cons (pg_name (i := 5) sc_law_read_turn.nd rfl (Or.inl rfl)) (pgs_cons (pg_name (i := 4) sc_law_read_turn.nd rfl (Or.inl rfl)) pgs_nil))))
      (pss_cons (ps_if (PW.pt (pw_or (pt_cmpR op_isN (pv 5) pe_non (nomark _)) (pw_or (pt_cmpR op_ge (pv 4) (pe_callB q_len (by rfl) T.z_len (by decide +kernel) (pa_cons (pv 0) pa_nil)) (nomark _)) (pw_or1 (pt_cmpR op_ne (pe_ix ix_list (pv 0) (pv 4) (fun _ _ => rfl)) pe_str (nomark _)))))) (pss_one (ps_ret (pe_tup (pa_cons pe_non (pa_cons (pv 4) pa_nil))))) pss_nil)
      (pss_one (ps_ret (pe_tup (pa_cons (pe_tup (pa_cons (pe_call (ok_law_number T) (hr.mono (by first | decide | omega | (simp only [Nat.add_eq]; omega))) (by rfl) T.g_law_number T.F_law_number.kp T.b_law_number .nil pass0 (pa_cons (pe_ix ix_list (pv 0) (pe_op op_add (pv 1) pe_int) (fun _ _ => rfl)) pa_nil)) (pa_cons (pv 3) (pa_cons (pv 5) pa_nil)))) (pa_cons (pe_op op_add (pv 4) pe_int) pa_nil)))))))))))), pure_law_read_turn h⟩
abbrev sp_law_read_turn (K : PySem.W.Frag) : Sp := fun vs H Q E => ∃ v0 v1 v2, vs = [v0, v1, v2] ∧ ∃ d : Nat, d < 44 ∧ pr_law_read_turn K d v0 v1 v2 H Q E
theorem ok_law_read_turn (T : Txt K mg A) : FnOk P w K mg base CX0 46 A.a_law_read_turn A.d_law_read_turn ["_law_words", "_law_at", "_law_deep"] (sp_law_read_turn K) := by
  refine T.F_law_read_turn.ok sc_law_read_turn (fun vs H Q E h => by obtain ⟨v0, v1, v2, rfl, _⟩ := h; rfl) (fun cdv A0 outer s H vs Q E hr h => ?_)
  obtain ⟨v0, v1, v2, rfl, d, hd, h⟩ := h
  exact ⟨t_law_read_turn K (spd_law_read_turn K d), (pss_cons (ps_if (PW.pt (pw_or (pt_cmpR op_ge (pe_op op_add (pv 1) pe_int) (pe_callB q_len (by rfl) T.z_len (by decide +kernel) (pa_cons (pv 0) pa_nil)) (nomark _)) (pw_or1 (pt_cmpR op_isN (pe_call (ok_law_number T) (hr.mono (by first | decide | omega | (simp only [Nat.add_eq]; omega))) (by rfl) T.g_law_number T.F_law_number.kp T.b_law_number .nil pass0 (pa_cons (pe_ix ix_list (pv 0) (pe_op op_add (pv 1) pe_int) (fun _ _ => rfl)) pa_nil)) pe_non (nomark _))))) (pss_one (ps_ret (pe_tup (pa_cons pe_non (pa_cons (pv 1) pa_nil))))) pss_nil)
      (pss_cons (ps_if (pt_cmpR op_eq (pe_ix ix_list (pv 0) (pv 1) (fun _ _ => rfl)) pe_str (nomark _)) (pss_cons (ps_if (pt_cmpR op_isN (pe_call (ok_law_number T) (hr.mono (by first | decide | omega | (simp only [Nat.add_eq]; omega))) (by rfl) T.g_law_number T.F_law_number.kp T.b_law_number .nil pass0 (pa_cons (pe_ix ix_list (pv 0) (pe_op op_add (pv 1) pe_int) (fun _ _ => rfl)) pa_nil)) pe_non (nomark _)) (pss_one (ps_ret (pe_tup (pa_cons pe_non (pa_cons (pv 1) pa_nil))))) pss_nil)
      (pss_one (ps_ret (pe_tup (pa_cons (pe_tup (pa_cons pe_str (pa_cons (pe_call (ok_law_number T) (hr.mono (by first | decide | omega | (simp only [Nat.add_eq]; omega))) (by rfl) T.g_law_number T.F_law_number.kp T.b_law_number .nil pass0 (pa_cons (pe_ix ix_list (pv 0) (pe_op op_add (pv 1) pe_int) (fun _ _ => rfl)) pa_nil)) (pa_cons (pe_call (ok_law_number T) (hr.mono (by first | decide | omega | (simp only [Nat.add_eq]; omega))) (by rfl) T.g_law_number T.F_law_number.kp T.b_law_number .nil pass0 (pa_cons (pe_ix ix_list (pv 0) (pe_op op_add (pv 1) pe_int) (fun _ _ => rfl)) pa_nil)) pa_nil)))) (pa_cons (pe_op op_add (pv 1) pe_int) pa_nil)))))) pss_nil)
      (pss_cons (ps_if (PW.pt (pw_or (pt_cmpR op_ne (pe_ix ix_list (pv 0) (pv 1) (fun _ _ => rfl)) pe_str (nomark _)) (pw_or1 (pt_cmpR op_eq (pv 2) pe_int (nomark _))))) (pss_one (ps_ret (pe_tup (pa_cons pe_non (pa_cons (pv 1) pa_nil))))) pss_nil)
      (pss_cons (ps_asg (pe_call (okd_law_read_turn T d) (hr.mono (by first | decide | omega | (simp only [Nat.add_eq]; omega))) (by rfl) T.g_law_read_turn T.F_law_read_turn.kp T.b_law_read_turn .nil pass0 (pa_cons (pv 0) (pa_cons (pe_op op_add (pv 1) pe_int) (pa_cons (pe_op op_sub (pv 2) pe_int) pa_nil)))) (pg_tup (by rfl) (pgs_cons (pg_name (i := 3) sc_law_read_turn.nd rfl (Or.inl rfl)) (pgs_cons (pg_name (i := 4) sc_law_read_turn.nd rfl (Or.inl rfl)) pgs_nil))))
      (pss_cons (ps_if (pt_cmpR op_isN (pv 3) pe_non (nomark _)) (pss_one (ps_ret (pe_tup (pa_cons pe_non (pa_cons (pv 4) pa_nil))))) pss_nil)
      (pss_cons (ps_asg (pe_call (okd_law_read_turn T d) (hr.mono (by first | decide | omega | (simp only [Nat.add_eq]; omega))) (by rfl) T.g_law_read_turn T.F_law_read_turn.kp T.b_law_read_turn .nil pass0 (pa_cons (pv 0) (pa_cons (pv 4) (pa_cons (pe_op op_sub (pv 2) pe_int) pa_nil)))) (pg_tup (by rfl) (pgs_cons (pg_name (i := 5) sc_law_read_turn.nd rfl (Or.inl rfl)) (pgs_cons (pg_name (i := 4) sc_law_read_turn.nd rfl (Or.inl rfl)) pgs_nil))))
      (pss_cons (ps_if (PW.pt (pw_or (pt_cmpR op_isN (pv 5) pe_non (nomark _)) (pw_or (pt_cmpR op_ge (pv 4) (pe_callB q_len (by rfl) T.z_len (by decide +kernel) (pa_cons (pv 0) pa_nil)) (nomark _)) (pw_or1 (pt_cmpR op_ne (pe_ix ix_list (pv 0) (pv 4) (fun _ _ => rfl)) pe_str (nomark _)))))) (pss_one (ps_ret (pe_tup (pa_cons pe_non (pa_cons (pv 4) pa_nil))))) pss_nil)
      (pss_one (ps_ret (pe_tup (pa_cons (pe_tup (pa_cons (pe_call (ok_law_number T) (hr.mono (by first | decide | omega | (simp only [Nat.add_eq]; omega))) (by rfl) T.g_law_number T.F_law_number.kp T.b_law_number .nil pass0 (pa_cons (pe_ix ix_list (pv 0) (pe_op op_add (pv 1) pe_int) (fun _ _ => rfl)) pa_nil)) (pa_cons (pv 3) (pa_cons (pv 5) pa_nil)))) (pa_cons (pe_op op_add (pv 4) pe_int) pa_nil)))))))))))), pure_law_read_turn h⟩


theorem cut_ij {α : Type} (xs : List V) (i j : Nat) (h : i ≤ j) : cutV xs (some ((i : Nat) : Int)) (some ((j : Nat) : Int)) = (xs.drop i).take (j - i) := by
  unfold cutV
  rw [HT.sIx_nat, HT.sIx_nat]
  by_cases c : j ≤ xs.length
  · rw [Nat.min_eq_left c, Nat.min_eq_left (by omega)]
  · rw [Nat.min_eq_right (show xs.length ≤ j by omega)]
    by_cases c2 : i ≤ xs.length
    · rw [Nat.min_eq_left c2, List.take_of_length_le (by simp), List.take_of_length_le (by simp; omega)]
    · rw [Nat.min_eq_right (by omega), List.drop_of_length_le (Nat.le_refl _), List.drop_of_length_le (show xs.length ≤ i by omega), List.take_nil, List.take_nil]
theorem RowAt.slT {K : PySem.W.Frag} {H : Hp} {Q : VK} {a : Addr} {ws : List Wd} {k : Nat} (R : RowAt K H a ws) (h : ∀ p H', H p = none → Same H H' → H' p = some (.lst (rowV (ws.take k))) → Q (.ref p) H') : rSlL K (.ref a) none (some ((k : Nat) : Int)) H Q :=
  k_slL R.at_ fun p H' np s e => h p H' np s (by rw [e, cut_to, ← List.map_take])
theorem RowAt.slD {K : PySem.W.Frag} {H : Hp} {Q : VK} {a : Addr} {ws : List Wd} {k : Nat} {x : Int} (hx : x = (k : Nat)) (R : RowAt K H a ws) (h : ∀ p H', H p = none → Same H H' → H' p = some (.lst (rowV (ws.drop k))) → Q (.ref p) H') : rSlL K (.ref a) (some x) none H Q := by
  subst hx
  exact k_slL R.at_ fun p H' np s e => h p H' np s (by rw [e, cut_from, ← List.map_drop])
theorem RowAt.sl1 {K : PySem.W.Frag} {H : Hp} {Q : VK} {a : Addr} {ws : List Wd} {k : Nat} {x y : Int} (hx : x = (k : Nat)) (hy : y = ((k + 1 : Nat) : Int)) (R : RowAt K H a ws) (h : ∀ p H', H p = none → Same H H' → H' p = some (.lst (rowV ((ws.drop k).take 1))) → Q (.ref p) H') : rSlL K (.ref a) (some x) (some y) H Q := by
  subst hx hy
  refine k_slL R.at_ fun p H' np s e => h p H' np s ?_
  rw [e, cut_ij (α := Nat) _ _ _ (by omega), ← List.map_drop, ← List.map_take, show k + 1 - k = 1 by omega]
theorem rowlit (s : String) : [V.str (Str.ofString s)] = rowV [ww s] := by
  show _ = [V.str (mkS (ww s))]
  rw [mk_ww]
theorem WsOk.take {ws : List Wd} (h : WsOk ws) (k : Nat) : WsOk (ws.take k) := fun w hw => h w (List.mem_of_mem_take hw)
theorem WsOk.drop {ws : List Wd} (h : WsOk ws) (k : Nat) : WsOk (ws.drop k) := fun w hw => h w (List.mem_of_mem_drop hw)
theorem WsOk.one {w : Wd} (h : Wok w) : WsOk [w] := fun u hu => by rw [List.mem_singleton.mp hu]; exact h
theorem k_eqRow {K : PySem.W.Frag} {H : Hp} {Q : VK} {a b : Addr} {ws : List Wd} {s : String} (ha : SqL K H a (rowV ws)) (hb : H b = some (.lst [.str (Str.ofString s)])) (o1 : WsOk ws) (o2 : Wok (ww s)) (h : Q (.bl (decide (ws = [ww s]))) H) : rEqD K (.ref a) (.ref b) H Q := by
  rw [rowlit] at hb
  exact k_eqD (n := 1) (dp_row ha) (dp_row (sl hb)) (sh_row o1) (sh_row (.one o2)) (by decide) (by rw [eqv_row]; exact h)
theorem k_neRow {K : PySem.W.Frag} {H : Hp} {Q : VK} {a b : Addr} {ws : List Wd} {s : String} (ha : SqL K H a (rowV ws)) (hb : H b = some (.lst [.str (Str.ofString s)])) (o1 : WsOk ws) (o2 : Wok (ww s)) (h : Q (.bl (!decide (ws = [ww s]))) H) : rNeD K (.ref a) (.ref b) H Q := by
  rw [rowlit] at hb
  exact k_neD (n := 1) (dp_row ha) (dp_row (sl hb)) (sh_row o1) (sh_row (.one o2)) (by decide) (by rw [eqv_row]; exact h)
theorem one_iff {w : Wd} {r : List Wd} {u : Wd} : decide ((w :: r).take 1 = [u]) = decide (w = u) := by simp
def finP : Rd PyData → Option PyData
  | some (D, []) => some D
  | _ => none
theorem papF_of {w : Wd} {r : List Wd} {x : Rd PyData} (h : papR (w :: r) = x) : papF (w :: r) = finP x := by
  subst h
  rfl
theorem papF_none {w : Wd} {r : List Wd} (h : w = ww "none") : papF (w :: r) = if r = [] then some (.tuple [.str (Str.ofString "none")]) else none := by
  rw [papF_of (x := some (.tuple [.str (Str.ofString "none")], r)) (if_pos h)]
  cases r with
  | nil => rfl
  | cons u r => rfl
section
variable {w : Wd} {r : List Wd} (n1 : w ≠ ww "none")
include n1
theorem papF_case (h : w = ww "case") : papF (w :: r) = match rdG lfC 40 r with | some (t, []) => some (.tuple [.str (mkS w), dC t]) | _ => none := by
  rw [papF_of (x := match rdG lfC 40 r with | some (t, r') => some (.tuple [.str (Str.ofString "case"), dC t], r') | none => none) (by rw [papR, if_neg n1, if_pos h] <;> rfl), h, mk_ww]
  cases rdG lfC 40 r with
  | none => rfl
  | some p =>
    obtain ⟨t, r'⟩ := p
    cases r' <;> rfl
theorem papF_turn (n2 : w ≠ ww "case") (h : w = ww "turn") : papF (w :: r) = match rdT 40 r with | some (t, []) => some (.tuple [.str (mkS w), dT t]) | _ => none := by
  rw [papF_of (x := match isB (rdG lfT 40 r) with | some (t, r') => some (.tuple [.str (Str.ofString "turn"), dT t], r') | none => none) (by rw [papR, if_neg n1, if_neg n2, if_pos h] <;> rfl), h, mk_ww, rdT_is]
  cases isB (rdG lfT 40 r) with
  | none => rfl
  | some p =>
    obtain ⟨t, r'⟩ := p
    cases r' <;> rfl
theorem papF_tie (n2 : w ≠ ww "case") (n3 : w ≠ ww "turn") (h : w = ww "tie") : papF (w :: r) = match numR r with | some (k, []) => some (.tuple [.str (mkS w), .int k]) | _ => none := by
  rw [papF_of (x := match numR r with | some (k, r') => some (.tuple [.str (Str.ofString "tie"), .int k], r') | none => none) (by rw [papR, if_neg n1, if_neg n2, if_neg n3, if_pos h] <;> rfl), h, mk_ww]
  cases numR r with
  | none => rfl
  | some p =>
    obtain ⟨t, r'⟩ := p
    cases r' <;> rfl
theorem papF_lot (n2 : w ≠ ww "case") (n3 : w ≠ ww "turn") (n4 : w ≠ ww "tie") (h : w = ww "lot") : papF (w :: r) = match numR r with | some (k, r') => (if (runN r').2 = [] then some (.tuple [.str (mkS w), .int k, dInts (runN r').1]) else none) | none => none := by
  rw [papF_of (x := match numR r with | some (k, r') => some (.tuple [.str (Str.ofString "lot"), .int k, dInts (runN r').1], (runN r').2) | none => none) (by rw [papR, if_neg n1, if_neg n2, if_neg n3, if_neg n4, if_pos h] <;> rfl), h, mk_ww]
  cases numR r with
  | none => rfl
  | some p =>
    obtain ⟨t, r'⟩ := p
    show finP (some (_, (runN r').2)) = if (runN r').2 = [] then _ else none
    cases (runN r').2 <;> rfl
theorem papF_other (n2 : w ≠ ww "case") (n3 : w ≠ ww "turn") (n4 : w ≠ ww "tie") (n5 : w ≠ ww "lot") : papF (w :: r) = none := by
  rw [papF_of (x := none) (by rw [papR, if_neg n1, if_neg n2, if_neg n3, if_neg n4, if_neg n5])]; rfl
end
def pr_law_paper (K : PySem.W.Frag) (v0 : V) (H : Hp) (Q : VK) (_ : XK) : Prop := ∃ (a : Addr) (ws : List Wd), v0 = .ref a ∧ RowAt K H a ws ∧ (papF ws = none → ∀ H', Same H H' → Q .non H') ∧ ∀ D, papF ws = some D → ∀ p H', Same H H' → Dp K H' (.ref p) D → Q (.ref p) H'
def t_law_paper (K : PySem.W.Frag) : TS :=
  (tSeq (tIfS (tTest (tOp (rEqD K) (tVar 0) (tLst (tCons (tC (.str (Str.ofString "none"))) tNil)))) (tRet (tTup (tCons (tC (.str (Str.ofString "none"))) tNil))) tNext)
    (tSeq (tAsg (tC .non) (gName 1))
    (tSeq (tAsg (tUn xNeg (tC (.int 1))) (gName 2))
    (tSeq (tIfS (tTest (tOp (rEqD K) (tSl (rSlL K) (tVar 0) tNoPart (tPart (tC (.int 1)))) (tLst (tCons (tC (.str (Str.ofString "case"))) tNil)))) (tAsg (tCall (sp_law_read_case K) [] E0 (tCons (tVar 0) (tCons (tC (.int 1)) (tCons (tC (.int 40)) tNil)))) (gTup K 2 (gCons (gName 1) (gCons (gName 2) gNil)))) (tIfS (tTest (tOp (rEqD K) (tSl (rSlL K) (tVar 0) tNoPart (tPart (tC (.int 1)))) (tLst (tCons (tC (.str (Str.ofString "turn"))) tNil)))) (tAsg (tCall (sp_law_read_turn K) [] E0 (tCons (tVar 0) (tCons (tC (.int 1)) (tCons (tC (.int 40)) tNil)))) (gTup K 2 (gCons (gName 1) (gCons (gName 2) gNil)))) (tIfS (tAnd (tTest (tOp (rEqD K) (tSl (rSlL K) (tVar 0) tNoPart (tPart (tC (.int 1)))) (tLst (tCons (tC (.str (Str.ofString "tie"))) tNil)))) (tTest (tOp rEq (tCB (rLenX K) (tCons (tVar 0) tNil)) (tC (.int 2))))) (tPar 1 2 (tCons (tCall (sp_law_number K) [] E0 (tCons (tOp (rIxL K) (tVar 0) (tC (.int 1))) tNil)) (tCons (tC (.int 2)) tNil))) (tIfS (tAnd (tTest (tOp (rEqD K) (tSl (rSlL K) (tVar 0) tNoPart (tPart (tC (.int 1)))) (tLst (tCons (tC (.str (Str.ofString "lot"))) tNil)))) (tAnd (tTest (tOp xGt (tCB (rLenX K) (tCons (tVar 0) tNil)) (tC (.int 1)))) (tTest (tOp xNotN (tCall (sp_law_number K) [] E0 (tCons (tOp (rIxL K) (tVar 0) (tC (.int 1))) tNil)) (tC .non))))) (tSeq (tAsg (tCall (sp_law_run K) [] E0 (tCons (tVar 0) (tCons (tC (.int 2)) tNil))) (gTup K 2 (gCons (gName 3) (gCons (gName 2) gNil))))
    (tIfS (tTest (tOp rEq (tVar 2) (tCB (rLenX K) (tCons (tVar 0) tNil)))) (tRet (tTup (tCons (tC (.str (Str.ofString "lot"))) (tCons (tCall (sp_law_number K) [] E0 (tCons (tOp (rIxL K) (tVar 0) (tC (.int 1))) tNil)) (tCons (tVar 3) tNil))))) tNext)) tNext))))
    (tSeq (tIfS (tOr (tTest (tOp xIsN (tVar 1) (tC .non))) (tTest (tOp rNe (tVar 2) (tCB (rLenX K) (tCons (tVar 0) tNil))))) (tRet (tC .non)) tNext)
    (tRet (tTup (tCons (tOp (rIxL K) (tVar 0) (tC (.int 0))) (tCons (tVar 1) tNil)))))))))
theorem pure_law_paper {v0 : V} {H : Hp} {Q : VK} {E : XK} (h : pr_law_paper K v0 H Q E) : t_law_paper K ⟨fun _ H' => Q .non H', Q, fun _ _ => False, fun _ _ => False⟩ [some v0, none, none, none] H := by
  obtain ⟨a, ws, rfl, R, qn, qs⟩ := h
  have o1 : Wok (ww "none") := ww_ok (by decide)
  have o2 : Wok (ww "case") := ww_ok (by decide)
  have o3 : Wok (ww "turn") := ww_ok (by decide)
  have o4 : Wok (ww "tie") := ww_ok (by decide)
  have o5 : Wok (ww "lot") := ww_ok (by decide)
  have ne : ∀ {s t : String}, s.toList.map Char.toNat ≠ t.toList.map Char.toNat → ww s ≠ ww t := fun h z => by
    unfold ww at z
    rw [sg_str, sg_str] at z
    exact h z
  unfold t_law_paper
  wtm_at "s"
  refine kL (by simp) (fun b1 H1 nb1 s1 e1 => ?_)
  refine k_eqRow (s1.seq R.at_) e1 R.ok o1 ?_
  by_cases c1 : ws = [ww "none"]
  · rw [decide_eq_true c1]
    wtm_at "s"
    refine kT (by simp) (fun p H2 np s2 e2 => ?_)
    refine qs (.tuple [.str (Str.ofString "none")]) ?_ p H2 (s1.trans s2) (.tup (stp e2) (.cons (.str _) .nil))
    rw [c1, papF_none rfl]; rfl
  have fin : ∀ σ' G, Same H1 G ∧ (∃ v1 v2 v3, σ' = [some (V.ref a), some v1, some (V.int v2), v3] ∧ ((v1 = .non ∧ papF ws = none) ∨ (((∃ p, v1 = .ref p) ∨ ∃ k, v1 = .int k) ∧ (v2 = ws.length → ∃ w r dt, ws = w :: r ∧ papF ws = some (.tuple [.str (mkS w), dt]) ∧ Dp K G v1 dt) ∧ (v2 ≠ ws.length → papF ws = none)))) →
      (tSeq (tIfS (tOr (tTest (tOp xIsN (tVar 1) (tC .non))) (tTest (tOp rNe (tVar 2) (tCB (rLenX K) (tCons (tVar 0) tNil))))) (tRet (tC .non)) tNext)
      (tRet (tTup (tCons (tOp (rIxL K) (tVar 0) (tC (.int 0))) (tCons (tVar 1) tNil))))) ⟨fun _ H' => Q .non H', Q, fun _ _ => False, fun _ _ => False⟩ σ' G := by
    rintro σ' G ⟨sG, v1, v2, v3, rfl, hv⟩
    have RG := R.same (s1.trans sG)
    have aG := RG.at_
    have main : ∀ w r dt, ws = w :: r → papF ws = some (.tuple [.str (mkS w), dt]) → Dp K G v1 dt → tRet (tTup (tCons (tOp (rIxL K) (tVar 0) (tC (.int 0))) (tCons (tVar 1) tNil))) ⟨fun _ H' => Q .non H', Q, fun _ _ => False, fun _ _ => False⟩ [some (V.ref a), some v1, some (V.int v2), v3] G := fun w r dt hw hp hd => by
      wtm_at "s"
      refine RG.ix (i := 0) rfl (by rw [hw]; rfl) ?_
      wtm_at "s"
      refine kT (by simp) (fun p H2 np s2 e2 => ?_)
      exact qs _ hp p H2 (s1.trans (sG.trans s2)) (.tup (stp e2) (.cons (.str _) (.cons (dp_same s2 hd) .nil)))
    rcases hv with ⟨rfl, hp⟩ | ⟨hv, h1, h2⟩
    · wtm_at "s"
      exact qn hp G (s1.trans sG)
    · by_cases c : v2 = ws.length
      · obtain ⟨w, r, dt, hw, hp, hd⟩ := h1 c
        have m := main w r dt hw hp hd
        rcases hv with ⟨p, rfl⟩ | ⟨k, rfl⟩
        · wtm_at "s"
          rw [List.length_map, if_neg (by simpa using c)]
          exact m
        · wtm_at "s"
          rw [List.length_map, if_neg (by simpa using c)]
          exact m
      · have hp := h2 c
        rcases hv with ⟨p, rfl⟩ | ⟨k, rfl⟩
        · wtm_at "s"
          rw [List.length_map, if_pos (by simpa using c)]
          wtm_at "s"
          exact qn hp G (s1.trans sG)
        · wtm_at "s"
          rw [List.length_map, if_pos (by simpa using c)]
          wtm_at "s"
          exact qn hp G (s1.trans sG)
  rw [decide_eq_false c1]
  refine ⟨false, rfl, iteF (k_next (k_seq (k_asg (k_c (k_gname (k_seq (k_asg (k_un (k_c (k_neg (k_gname (seqO _ fin (fun nx' go => ?_)))))))))))))⟩
  have e0 : ∀ (u : Wd) (s : String), u = ww s → mkS u = Str.ofString s := fun u s h => by rw [h, mk_ww]
  have nothing : ∀ G, Same H1 G → papF ws = none → nx' [some (.ref a), some .non, some (.int (-1)), none] G := fun G sG hp => go _ _ ⟨sG, .non, -1, none, rfl, .inl ⟨rfl, hp⟩⟩
  have R1 := R.same s1
  wtm_at "s"
  refine R1.slT (k := 1) (fun q2 H2 n2 s2 e2 => ?_)
  wtm_at "s"
  refine kL (by simp) (fun q3 H3 n3 s3 e3 => ?_)
  refine k_eqRow (sl (s3 _ _ e2)) e3 (R.ok.take 1) o2 ?_
  cases hws : ws with
  | nil =>
    have hp : papF ws = none := by rw [hws]; rfl
    rw [decide_eq_false (by simp)]
    have R3 := R1.same (s2.trans s3)
    wtm_at "s"
    refine R3.slT (k := 1) (fun q4 H4 n4 s4 e4 => ?_)
    wtm_at "s"
    refine kL (by simp) (fun q5 H5 n5 s5 e5 => ?_)
    refine k_eqRow (sl (s5 _ _ e4)) e5 (R.ok.take 1) o3 ?_
    rw [hws, decide_eq_false (by simp)]
    have R5 := R3.same (s4.trans s5)
    wtm_at "s"
    refine R5.slT (k := 1) (fun q6 H6 n6 s6 e6 => ?_)
    wtm_at "s"
    refine kL (by simp) (fun q7 H7 n7 s7 e7 => ?_)
    refine k_eqRow (sl (s7 _ _ e6)) e7 (R.ok.take 1) o4 ?_
    rw [hws, decide_eq_false (by simp)]
    have R7 := R5.same (s6.trans s7)
    wtm_at "s"
    refine R7.slT (k := 1) (fun q8 H8 n8 s8 e8 => ?_)
    wtm_at "s"
    refine kL (by simp) (fun q9 H9 n9 s9 e9 => ?_)
    refine k_eqRow (sl (s9 _ _ e8)) e9 (R.ok.take 1) o5 ?_
    rw [hws, decide_eq_false (by simp)]
    wtm_at "s"
    exact nothing _ (s2.trans (s3.trans (s4.trans (s5.trans (s6.trans (s7.trans (s8.trans s9))))))) hp
  | cons w r =>
  rw [one_iff]
  have hd1 : ws.drop 1 = r := by rw [hws]; rfl
  have n1 : w = ww "none" → r ≠ [] := fun h z => c1 (by rw [hws, h, z])
  by_cases c2 : w = ww "case"
  · rw [decide_eq_true c2]
    have nn : w ≠ ww "none" := by rw [c2]; exact ne (by decide)
    have hp := papF_case (r := r) nn c2
    rw [← hws] at hp
    wtm_at "s"
    refine ⟨_, _, _, rfl, 40, by decide, a, ws, 1, 40, rfl, R1.same (s2.trans s3), rfl, rfl, by decide, by rw [hws]; simp, fun hno => ?_, fun th r' hy => ?_⟩
    · rw [hd1] at hno
      intro t x H4 s4 e4
      wtm_at "s"
      exact go _ _ ⟨s2.trans (s3.trans s4), .non, x, none, rfl, .inl ⟨rfl, by rw [hp, hno]⟩⟩
    · rw [hd1] at hy
      intro t p i4 H4 s4 e4 hi4 hd4 dp4
      wtm_at "s"
      refine go _ _ ⟨s2.trans (s3.trans s4), .ref p, i4, none, rfl, .inr ⟨.inl ⟨p, rfl⟩, fun z => ?_, fun z => ?_⟩⟩
      · have : r' = [] := by rw [← hd4]; exact List.drop_eq_nil_of_le (by omega)
        rw [this] at hy
        exact ⟨w, r, dC th, hws, by rw [hp, hy], dp_same (hid_same _ _) (dp4 [] fun x hx => nomatch hx)⟩
      · have : r' ≠ [] := fun y => z (by
          rw [y] at hd4
          have := drop_end hd4
          omega)
        rw [hp, hy]
        cases r' with
        | nil => exact absurd rfl this
        | cons u r' => rfl
  rw [decide_eq_false c2]
  have R3 := R1.same (s2.trans s3)
  wtm_at "s"
  refine R3.slT (k := 1) (fun q4 H4 n4 s4 e4 => ?_)
  wtm_at "s"
  refine kL (by simp) (fun q5 H5 n5 s5 e5 => ?_)
  refine k_eqRow (sl (s5 _ _ e4)) e5 (R.ok.take 1) o3 ?_
  rw [hws, one_iff]
  have s15 := s2.trans (s3.trans (s4.trans s5))
  by_cases c3 : w = ww "turn"
  · rw [decide_eq_true c3]
    have nn : w ≠ ww "none" := by rw [c3]; exact ne (by decide)
    have hp := papF_turn (r := r) nn c2 c3
    rw [← hws] at hp
    wtm_at "s"
    refine ⟨_, _, _, rfl, 40, by decide, a, ws, 1, 40, rfl, R1.same s15, rfl, rfl, by decide, by rw [hws]; simp, fun hno => ?_, fun th r' hy => ?_⟩
    · rw [hd1] at hno
      intro t x H6 s6 e6
      wtm_at "s"
      exact go _ _ ⟨s15.trans s6, .non, x, none, rfl, .inl ⟨rfl, by rw [hp, hno]⟩⟩
    · rw [hd1] at hy
      intro t p i6 H6 s6 e6 hi6 hd6 dp6
      wtm_at "s"
      refine go _ _ ⟨s15.trans s6, .ref p, i6, none, rfl, .inr ⟨.inl ⟨p, rfl⟩, fun z => ?_, fun z => ?_⟩⟩
      · have : r' = [] := by rw [← hd6]; exact List.drop_eq_nil_of_le (by omega)
        rw [this] at hy
        exact ⟨w, r, dT th, hws, by rw [hp, hy], dp_same (hid_same _ _) (dp6 [] fun x hx => nomatch hx)⟩
      · have : r' ≠ [] := fun y => z (by
          rw [y] at hd6
          have := drop_end hd6
          omega)
        rw [hp, hy]
        cases r' with
        | nil => exact absurd rfl this
        | cons u r' => rfl
  rw [decide_eq_false c3]
  have R5 := R1.same s15
  wtm_at "s"
  refine R5.slT (k := 1) (fun q6 H6 n6 s6 e6 => ?_)
  wtm_at "s"
  refine kL (by simp) (fun q7 H7 n7 s7 e7 => ?_)
  refine k_eqRow (sl (s7 _ _ e6)) e7 (R.ok.take 1) o4 ?_
  rw [hws, one_iff]
  have s17 := s15.trans (s6.trans s7)
  have R7 := R1.same s17
  have a7 := R7.at_
  have o1r : ∀ u, r[0]? = some u → Wok u ∧ u.length ≤ 19000 ∧ ws[1]? = some u := fun u hu => by
    have h1 : ws[1]? = some u := by rw [hws]; exact hu
    exact ⟨R.ok u (List.mem_of_getElem? h1), R.wlen (List.mem_of_getElem? h1), h1⟩
  by_cases c4 : w = ww "tie"
  · rw [decide_eq_true c4]
    have nn : w ≠ ww "none" := by rw [c4]; exact ne (by decide)
    have hp := papF_tie (r := r) nn c2 c3 c4
    rw [← hws] at hp
    wtm_at "s"
    rw [List.length_map]
    by_cases c5 : ws.length = 2
    · rw [if_pos (by simp; omega)]
      obtain ⟨u, hu⟩ : ∃ u, r = [u] := by
        rw [hws] at c5
        match r, c5 with
        | [u], _ => exact ⟨u, rfl⟩
        | [], c5 => simp at c5
        | _ :: _ :: _, c5 => simp at c5
      obtain ⟨uok, ul, h1⟩ := o1r u (by rw [hu]; rfl)
      wtm_at "s"
      refine R7.ix (i := 1) rfl h1 ?_
      wtm_at "s"
      refine ⟨_, rfl, u, rfl, by omega, uok, fun H8 s8 => ?_⟩
      rw [hu] at hp
      cases en : numOf u with
      | none =>
        rw [show optV none = V.non from rfl]
        wtm_at "s"
        exact go _ _ ⟨s17.trans s8, .non, 2, none, rfl, .inl ⟨rfl, by rw [hp, numR_none en]⟩⟩
      | some k =>
        rw [show optV (some k) = V.int k from rfl]
        wtm_at "s"
        exact go _ _ ⟨s17.trans s8, .int k, 2, none, rfl, .inr ⟨.inr ⟨k, rfl⟩, fun z => ⟨w, r, .int k, hws, by rw [hp, numR_some en], .int k⟩, fun z => absurd (by omega) z⟩⟩
    · rw [if_neg (by simp; omega)]
      have hpn : papF ws = none := by
        rw [hp]
        match r, hws with
        | [], _ => rfl
        | [u], hws => exact absurd (by rw [hws]; rfl) c5
        | u :: u2 :: r2, _ =>
          cases en : numOf u with
          | none => rw [numR_none en]
          | some k => rw [numR_some en]
      wtm_at "s"
      refine R7.slT (k := 1) (fun q8 H8 n8 s8 e8 => ?_)
      wtm_at "s"
      refine kL (by simp) (fun q9 H9 n9 s9 e9 => ?_)
      refine k_eqRow (sl (s9 _ _ e8)) e9 (R.ok.take 1) o5 ?_
      rw [hws, one_iff, decide_eq_false (by rw [c4]; exact ne (by decide))]
      wtm_at "s"
      exact nothing _ (s17.trans (s8.trans s9)) hpn
  rw [decide_eq_false c4]
  wtm_at "s"
  refine R7.slT (k := 1) (fun q8 H8 n8 s8 e8 => ?_)
  wtm_at "s"
  refine kL (by simp) (fun q9 H9 n9 s9 e9 => ?_)
  refine k_eqRow (sl (s9 _ _ e8)) e9 (R.ok.take 1) o5 ?_
  rw [hws, one_iff]
  have s19 := s17.trans (s8.trans s9)
  have R9 := R1.same s19
  have a9 := R9.at_
  by_cases c5 : w = ww "lot"
  rotate_left
  · rw [decide_eq_false c5]
    wtm_at "s"
    refine nothing _ s19 ?_
    rw [hws]
    by_cases c0 : w = ww "none"
    · rw [papF_none c0, if_neg (n1 c0)]
    · exact papF_other c0 c2 c3 c4 c5
  rw [decide_eq_true c5]
  have nn : w ≠ ww "none" := by rw [c5]; exact ne (by decide)
  have hp := papF_lot (r := r) nn c2 c3 c4 c5
  rw [← hws] at hp
  wtm_at "s"
  rw [List.length_map]
  cases hr : r with
  | nil =>
    rw [if_neg (by rw [hws, hr]; simp)]
    rw [hr] at hp
    wtm_at "s"
    exact nothing _ s19 hp
  | cons u r2 =>
  obtain ⟨uok, ul, h1⟩ := o1r u (by rw [hr]; rfl)
  rw [if_pos (by rw [hws, hr]; simp; omega)]
  rw [hr] at hp
  wtm_at "s"
  refine R9.ix (i := 1) rfl h1 ?_
  wtm_at "s"
  refine ⟨_, rfl, u, rfl, by omega, uok, fun H10 s10 => ?_⟩
  cases en : numOf u with
  | none =>
    rw [numR_none en] at hp
    rw [show optV none = V.non from rfl]
    wtm_at "s"
    exact nothing _ (s19.trans s10) hp
  | some k =>
    rw [numR_some en] at hp
    rw [show optV (some k) = V.int k from rfl]
    have hd2 : ws.drop 2 = r2 := by rw [hws, hr]; rfl
    wtm_at "s"
    refine ⟨_, _, rfl, a, ws, 2, rfl, R9.same s10, rfl, by rw [hws, hr]; simp, fun t q H11 i11 s11 e11 hi hle hd11 eq11 => ?_⟩
    rw [hd2] at hd11 eq11
    have R11 := (R9.same s10).same s11
    have a11 := R11.at_
    wtm_at "s"
    rw [List.length_map]
    by_cases c6 : i11 = ws.length
    · rw [if_pos (by simp; omega)]
      have rn : (runN r2).2 = [] := by rw [← hd11]; exact List.drop_eq_nil_of_le (by omega)
      simp only [rn, if_true] at hp
      wtm_at "s"
      refine R11.ix (i := 1) rfl h1 ?_
      wtm_at "s"
      refine ⟨_, rfl, u, rfl, by omega, uok, fun H12 s12 => ?_⟩
      rw [en, show optV (some k) = V.int k from rfl]
      wtm_at "s"
      refine kT (by simp) (fun p H13 np s13 e13 => ?_)
      refine qs _ hp p H13 (s1.trans (s19.trans (s10.trans (s11.trans (s12.trans s13))))) (.tup (stp e13) ?_)
      rw [c5, mk_ww]
      exact .cons (.str _) (.cons (.int k) (.cons (dp_of_ints (sl ((s12.trans s13) _ _ eq11))) .nil))
    · rw [if_neg (by simp; omega)]
      have rn : (runN r2).2 ≠ [] := fun z => c6 (by
        rw [z] at hd11
        have := drop_end hd11
        omega)
      simp only [if_neg rn] at hp
      wtm_at "s"
      exact go _ _ ⟨s19.trans (s10.trans s11), .non, i11, some (.ref q), rfl, .inl ⟨rfl, hp⟩⟩
abbrev sp_law_paper (K : PySem.W.Frag) : Sp := fun vs H Q E => ∃ v0, vs = [v0] ∧ pr_law_paper K v0 H Q E
theorem ok_law_paper (T : Txt K mg A) : FnOk P w K mg base CX0 47 A.a_law_paper A.d_law_paper ["_law_words"] (sp_law_paper K) := by
  refine T.F_law_paper.ok sc_law_paper (fun vs H Q E h => by obtain ⟨v0, rfl, _⟩ := h; rfl) (fun cdv A0 outer s H vs Q E hr h => ?_)
  obtain ⟨v0, rfl, h⟩ := h
  exact ⟨t_law_paper K, (pss_cons (ps_if (pt_cmpR (op_eqD hr.units) (pv 0) (pe_lst (pa_cons pe_str pa_nil)) (nomark _)) (pss_one (ps_ret (pe_tup (pa_cons pe_str pa_nil)))) pss_nil)
      (pss_cons (ps_set (i := 1) sc_law_paper.nd rfl (Or.inl rfl) pe_non)
      (pss_cons (ps_set (i := 2) sc_law_paper.nd rfl (Or.inl rfl) (pe_un un_neg pe_int))
      (pss_cons (ps_if (pt_cmpR (op_eqD hr.units) (pe_slice sl_list (pv 0) po_none (po_some pe_int)) (pe_lst (pa_cons pe_str pa_nil)) (nomark _)) (pss_one (ps_asg (pe_call (ok_law_read_case T) (hr.mono (by decide)) (by rfl) T.g_law_read_case T.F_law_read_case.kp T.b_law_read_case .nil pass0 (pa_cons (pv 0) (pa_cons pe_int (pa_cons pe_int pa_nil)))) (pg_tup (by rfl) (pgs_cons (pg_name (i := 1) sc_law_paper.nd rfl (Or.inl rfl)) (pgs_cons (pg_name (i := 2) sc_law_paper.nd rfl (Or.inl rfl)) pgs_nil))))) (pss_one (ps_if (pt_cmpR (op_eqD hr.units) (pe_slice sl_list (pv 0) po_none (po_some pe_int)) (pe_lst (pa_cons pe_str pa_nil)) (nomark _)) (pss_one (ps_asg (pe_call (ok_law_read_turn T) (hr.mono (by decide)) (by rfl) T.g_law_read_turn T.F_law_read_turn.kp T.b_law_read_turn .nil pass0 (pa_cons (pv 0) (pa_cons pe_int (pa_cons pe_int pa_nil)))) (pg_tup (by rfl) (pgs_cons (pg_name (i := 1) sc_law_paper.nd rfl (Or.inl rfl)) (pgs_cons (pg_name (i := 2) sc_law_paper.nd rfl (Or.inl rfl)) pgs_nil))))) (pss_one (ps_if (PW.pt (pw_and (pt_cmpR (op_eqD hr.units) (pe_slice sl_list (pv 0) po_none (po_some pe_int)) (pe_lst (pa_cons pe_str pa_nil)) (nomark _)) (pw_and1 (pt_cmpR op_eq (pe_callB q_len (by rfl) T.z_len (by decide +kernel) (pa_cons (pv 0) pa_nil)) pe_int (nomark _))))) (pss_one (ps_par (by rfl) sc_law_paper.nd rfl rfl (by decide) rfl rfl (pa_cons (pe_call (ok_law_number T) (hr.mono (by decide)) (by rfl) T.g_law_number T.F_law_number.kp T.b_law_number .nil pass0 (pa_cons (pe_ix ix_list (pv 0) pe_int (fun _ _ => rfl)) pa_nil)) (pa_cons pe_int pa_nil)) (by rfl))) (pss_one (ps_if (PW.pt (pw_and (pt_cmpR (op_eqD hr.units) (pe_slice sl_list (pv 0) po_none (po_some pe_int)) (pe_lst (pa_cons pe_str pa_nil)) (nomark _)) (pw_and (pt_cmpR op_gt (pe_callB q_len (by rfl) T.z_len (by decide +kernel) (pa_cons (pv 0) pa_nil)) pe_int (nomark _)) (pw_and1 (pt_cmpR op_notN (pe_call (ok_law_number T) (hr.mono (by decide)) (by rfl) T.g_law_number T.F_law_number.kp T.b_law_number .nil pass0 (pa_cons (pe_ix ix_list (pv 0) pe_int (fun _ _ => rfl)) pa_nil)) pe_non (nomark _)))))) (pss_cons (ps_asg (pe_call (ok_law_run T) (hr.mono (by decide)) (by rfl) T.g_law_run T.F_law_run.kp T.b_law_run .nil pass0 (pa_cons (pv 0) (pa_cons pe_int pa_nil))) (pg_tup (by rfl) (pgs_cons (pg_name (i := 3) sc_law_paper.nd rfl (Or.inl rfl)) (pgs_cons (pg_name (i := 2) sc_law_paper.nd rfl (Or.inl rfl)) pgs_nil))))
      (pss_one (ps_if (pt_cmpR op_eq (pv 2) (pe_callB q_len (by rfl) T.z_len (by decide +kernel) (pa_cons (pv 0) pa_nil)) (nomark _)) (pss_one (ps_ret (pe_tup (pa_cons pe_str (pa_cons (pe_call (ok_law_number T) (hr.mono (by decide)) (by rfl) T.g_law_number T.F_law_number.kp T.b_law_number .nil pass0 (pa_cons (pe_ix ix_list (pv 0) pe_int (fun _ _ => rfl)) pa_nil)) (pa_cons (pv 3) pa_nil)))))) pss_nil))) pss_nil)))))))
      (pss_cons (ps_if (PW.pt (pw_or (pt_cmpR op_isN (pv 1) pe_non (nomark _)) (pw_or1 (pt_cmpR op_ne (pv 2) (pe_callB q_len (by rfl) T.z_len (by decide +kernel) (pa_cons (pv 0) pa_nil)) (nomark _))))) (pss_one (ps_ret pe_non)) pss_nil)
      (pss_one (ps_ret (pe_tup (pa_cons (pe_ix ix_list (pv 0) pe_int (fun _ _ => rfl)) (pa_cons (pv 1) pa_nil)))))))))), pure_law_paper h⟩


theorem take_head {ws : List Wd} {u : Wd} : decide (ws.take 1 = [u]) = decide (ws.head? = some u) := by
  cases ws <;> simp
def pr_law_told (K : PySem.W.Frag) (v0 : V) (H : Hp) (Q : VK) (_ : XK) : Prop := ∃ (a : Addr) (ws : List Wd), v0 = .ref a ∧ RowAt K H a ws ∧ ws ≠ [] ∧ (toldF ws = none → ∀ H', Same H H' → Q .non H') ∧ ∀ D, toldF ws = some D → ∀ p H', Same H H' → Dp K H' (.ref p) D → Q (.ref p) H'
def t_law_told (K : PySem.W.Frag) : TS :=
  (tSeq (tIfS (tTest (tOp xIsN (tCall (sp_law_number K) [] E0 (tCons (tOp (rIxL K) (tVar 0) (tC (.int 0))) tNil)) (tC .non))) (tRet (tC .non)) tNext)
    (tSeq (tAsg (tTup (tCons (tCall (sp_law_number K) [] E0 (tCons (tOp (rIxL K) (tVar 0) (tC (.int 0))) tNil)) tNil)) (gName 1))
    (tSeq (tAsg (tC (.int 1)) (gName 2))
    (tSeq (tAsg (tOp (rEqD K) (tSl (rSlL K) (tVar 0) (tPart (tC (.int 1))) (tPart (tC (.int 2)))) (tLst (tCons (tC (.str (Str.ofString "turn"))) tNil))) (gName 3))
    (tSeq (tIfS (tB (tVar 3)) (tSeq (tAsg (tCall (sp_law_run K) [] E0 (tCons (tVar 0) (tCons (tC (.int 2)) tNil))) (gTup K 2 (gCons (gName 4) (gCons (gName 2) gNil))))
    (tAsg (tOp (rCatT K) (tVar 1) (tTup (tCons (tVar 4) tNil))) (gName 1))) tNext)
    (tSeq (tIfS (tTest (tOp (rNeD K) (tSl (rSlL K) (tVar 0) (tPart (tVar 2)) (tPart (tOp xAdd (tVar 2) (tC (.int 1))))) (tLst (tCons (tC (.str (Str.ofString "hues"))) tNil)))) (tRet (tC .non)) tNext)
    (tSeq (tAsg (tCall (sp_law_run K) [] E0 (tCons (tVar 0) (tCons (tOp xAdd (tVar 2) (tC (.int 1))) tNil))) (gTup K 2 (gCons (gName 5) (gCons (gName 2) gNil))))
    (tSeq (tIfS (tTest (tOp (rNeD K) (tSl (rSlL K) (tVar 0) (tPart (tVar 2)) (tPart (tOp xAdd (tVar 2) (tC (.int 1))))) (tLst (tCons (tC (.str (Str.ofString "by"))) tNil)))) (tRet (tC .non)) tNext)
    (tSeq (tAsg (tCall (sp_law_paper K) [] E0 (tCons (tSl (rSlL K) (tVar 0) (tPart (tOp xAdd (tVar 2) (tC (.int 1)))) tNoPart) tNil)) (gName 6))
    (tSeq (tIfS (tTest (tOp xIsN (tVar 6) (tC .non))) (tRet (tC .non)) tNext)
    (tRet (tOp (rCatT K) (tVar 1) (tTup (tCons (tVar 5) (tCons (tVar 6) tNil)))))))))))))))
theorem pure_law_told {v0 : V} {H : Hp} {Q : VK} {E : XK} (h : pr_law_told K v0 H Q E) : t_law_told K ⟨fun _ H' => Q .non H', Q, fun _ _ => False, fun _ _ => False⟩ [some v0, none, none, none, none, none, none] H := by
  obtain ⟨a, ws, rfl, R, hne, qn, qs⟩ := h
  have o1 : Wok (ww "turn") := ww_ok (by decide)
  have o2 : Wok (ww "hues") := ww_ok (by decide)
  have o3 : Wok (ww "by") := ww_ok (by decide)
  have rl := R.len
  obtain ⟨w, r, hws⟩ : ∃ w r, ws = w :: r := by
    cases ws with
    | nil => exact absurd rfl hne
    | cons w r => exact ⟨w, r, rfl⟩
  have h0 : ws[0]? = some w := by rw [hws]; rfl
  have wok := R.ok w (List.mem_of_getElem? h0)
  have wl := R.wlen (List.mem_of_getElem? h0)
  have hd1 : ws.drop 1 = r := by rw [hws]; rfl
  unfold t_law_told
  wtm_at "s"
  refine R.ix (i := 0) rfl h0 ?_
  wtm_at "s"
  refine ⟨_, rfl, w, rfl, by omega, wok, fun H1 s1 => ?_⟩
  cases en : numOf w with
  | none =>
    rw [show optV none = V.non from rfl]
    wtm_at "s"
    refine qn ?_ H1 s1
    rw [hws]
    show (match numOf w with | none => none | some k => _) = none
    rw [en]
  | some k =>
  rw [show optV (some k) = V.int k from rfl]
  have hT : toldF ws = if r.head? = some (ww "turn") then huF k [dInts (runN r.tail).1] (runN r.tail).2 else huF k [] r := by
    rw [hws]
    show (match numOf w with | none => none | some k => _) = _
    rw [en]
  have R1 := R.same s1
  wtm_at "s"
  refine R1.ix (i := 0) rfl h0 ?_
  wtm_at "s"
  refine ⟨_, rfl, w, rfl, by omega, wok, fun H2 s2 => ?_⟩
  rw [en, show optV (some k) = V.int k from rfl]
  have R2 := R1.same s2
  wtm_at "s"
  refine kT (by simp) (fun tp H3 ntp s3 e3 => ?_)
  have R3 := R2.same s3
  wtm_at "s"
  refine R3.sl1 (k := 1) rfl rfl (fun q4 H4 n4 s4 e4 => ?_)
  wtm_at "s"
  refine kL (by simp) (fun q5 H5 n5 s5 e5 => ?_)
  refine k_eqRow (sl (s5 _ _ e4)) e5 ((R.ok.drop 1).take 1) o1 ?_
  rw [hd1, take_head]
  have s15 := s1.trans (s2.trans (s3.trans (s4.trans s5)))
  have R5 := R3.same (s4.trans s5)
  refine k_gname (seqO (fun σ' G => Same H G ∧ ∃ (tp : Addr) (xs : List V) (pre : List PyData) (i : Nat) (b : Bool) (v4 : Option V), σ' = [some (.ref a), some (.ref tp), some (.int (i : Nat)), some (.bl b), v4, none, none] ∧ SqT K G tp xs ∧ xs ≠ [] ∧ xs.length ≤ 2 ∧ DpAll K G xs (.int k :: pre) ∧ i ≤ ws.length ∧ toldF ws = huF k pre (ws.drop i)) ?_ (fun nx' go => ?_))
  rotate_left
  · by_cases c : r.head? = some (ww "turn")
    · rw [if_pos c] at hT
      obtain ⟨r2, hr⟩ : ∃ r2, r = ww "turn" :: r2 := by
        cases r with
        | nil => cases c
        | cons u r2 => cases c; exact ⟨r2, rfl⟩
      have hd2 : ws.drop 2 = r2 := by rw [hws, hr]; rfl
      rw [decide_eq_true c]
      wtm_at "s"
      refine ⟨_, _, rfl, a, ws, 2, rfl, R5, rfl, by rw [hws, hr]; simp, fun t q H6 i6 s6 e6 hi hle hd6 eq6 => ?_⟩
      rw [hd2] at hd6 eq6
      wtm_at "s"
      refine kT (by simp) (fun q7 H7 n7 s7 e7 => ?_)
      refine k_catTx (stp ((s4.trans (s5.trans (s6.trans s7))) _ _ e3)) (stp e7) (by simp) (by simp) (fun p8 H8 s8 h8 => ?_)
      wtm_at "s"
      refine go _ _ ⟨s15.trans (s6.trans (s7.trans s8)), p8, _, [dInts (runN r2).1], i6, _, _, rfl, h8, by simp, by simp, .cons (.int k) (.cons (dp_of_ints (sl ((s7.trans s8) _ _ eq6))) .nil), hi, ?_⟩
      rw [hT, hr, hd6]; rfl
    · rw [if_neg c] at hT
      rw [decide_eq_false c]
      wtm_at "s"
      exact go _ _ ⟨s15, tp, _, [], 1, _, _, rfl, stp ((s4.trans s5) _ _ e3), by simp, by simp, .cons (.int k) .nil, by rw [hws]; simp, by rw [hT, hd1]⟩
  · clear s1 R1 s2 R2 s3 R3 s4 s5 e3 e4 e5 R5 s15 hT
    rintro σ' G ⟨sG, tp, xs, pre, i, b, v4, rfl, hx, xn, xl, dxs, hi, hT⟩
    have RG := R.same sG
    wtm_at "s"
    refine RG.sl1 (k := i) rfl (by omega) (fun q1 H1 n1 s1 e1 => ?_)
    wtm_at "s"
    refine kL (by simp) (fun q2 H2 n2 s2 e2 => ?_)
    refine k_neRow (sl (s2 _ _ e1)) e2 ((R.ok.drop i).take 1) o2 ?_
    rw [take_head]
    by_cases c : (ws.drop i).head? = some (ww "hues")
    rotate_left
    · rw [decide_eq_false c]
      wtm_at "s"
      exact qn (by rw [hT, hu_none c]) _ (sG.trans (s1.trans s2))
    rw [decide_eq_true c]
    obtain ⟨r1, hr1⟩ : ∃ r1, ws.drop i = ww "hues" :: r1 := by
      cases e : ws.drop i with
      | nil => rw [e] at c; cases c
      | cons u r1 => rw [e] at c; cases c; exact ⟨r1, rfl⟩
    obtain ⟨_, hd2, hi2⟩ := drop_at hr1
    rw [hr1, hu_some rfl] at hT
    wtm_at "s"
    refine ⟨_, _, rfl, a, ws, i + 1, rfl, RG.same (s1.trans s2), by congr 1, by omega, fun t q H3 i3 s3 e3 hi3 hle hd3 eq3 => ?_⟩
    rw [hd2] at hd3 eq3
    have R3 := (RG.same (s1.trans s2)).same s3
    wtm_at "s"
    refine R3.sl1 (k := i3) rfl (by omega) (fun q4 H4 n4 s4 e4 => ?_)
    wtm_at "s"
    refine kL (by simp) (fun q5 H5 n5 s5 e5 => ?_)
    refine k_neRow (sl (s5 _ _ e4)) e5 ((R.ok.drop i3).take 1) o3 ?_
    rw [take_head, hd3]
    have s35 := s3.trans (s4.trans s5)
    by_cases c2 : (runN r1).2.head? = some (ww "by")
    rotate_left
    · rw [decide_eq_false c2]
      wtm_at "s"
      exact qn (by rw [hT, by_none c2]) _ (sG.trans (s1.trans (s2.trans s35)))
    rw [decide_eq_true c2]
    obtain ⟨r5, hr5⟩ : ∃ r5, (runN r1).2 = ww "by" :: r5 := by
      cases e : (runN r1).2 with
      | nil => rw [e] at c2; cases c2
      | cons u r5 => rw [e] at c2; cases c2; exact ⟨r5, rfl⟩
    rw [hr5] at hd3
    rw [hr5, by_some rfl] at hT
    obtain ⟨_, hd4, hi4⟩ := drop_at hd3
    have R5 := R3.same (s4.trans s5)
    wtm_at "s"
    refine R5.slD (k := i3 + 1) (by omega) (fun q6 H6 n6 s6 e6 => ?_)
    rw [hd4] at e6
    have R6 : RowAt K H6 q6 r5 := ⟨sl e6, by rw [← hd4]; exact R.ok.drop _, by rw [← hd4]; have := tot_drop ws (i3 + 1); have := R.small; omega⟩
    wtm_at "s"
    refine ⟨_, rfl, q6, r5, rfl, R6, fun hno H7 s7 => ?_, fun D hD p7 H7 s7 d7 => ?_⟩
    · wtm_at "s"
      exact qn (by rw [hT, hno]) _ (sG.trans (s1.trans (s2.trans (s35.trans (s6.trans s7)))))
    · rw [hD] at hT
      have s37 := s35.trans (s6.trans s7)
      have s17 := s1.trans (s2.trans s37)
      wtm_at "s"
      refine kT (by simp) (fun q8 H8 n8 s8 e8 => ?_)
      refine k_catTx (same_seqT (s17.trans s8) hx) (stp e8) xn (by simp; omega) (fun p9 H9 s9 h9 => ?_)
      refine qs _ hT p9 H9 (sG.trans (s17.trans (s8.trans s9))) (.tup h9 ?_)
      exact dpa_app (dpa_same (s17.trans (s8.trans s9)) dxs) (.cons (dp_of_ints (sl (((s4.trans s5).trans (s6.trans (s7.trans (s8.trans s9)))) _ _ eq3))) (.cons (dp_same (s8.trans s9) d7) .nil))
abbrev sp_law_told (K : PySem.W.Frag) : Sp := fun vs H Q E => ∃ v0, vs = [v0] ∧ pr_law_told K v0 H Q E
theorem ok_law_told (T : Txt K mg A) : FnOk P w K mg base CX0 48 A.a_law_told A.d_law_told ["_law_words"] (sp_law_told K) := by
  refine T.F_law_told.ok sc_law_told (fun vs H Q E h => by obtain ⟨v0, rfl, _⟩ := h; rfl) (fun cdv A0 outer s H vs Q E hr h => ?_)
  obtain ⟨v0, rfl, h⟩ := h
  exact ⟨t_law_told K, (pss_cons (ps_if (pt_cmpR op_isN (pe_call (ok_law_number T) (hr.mono (by decide)) (by rfl) T.g_law_number T.F_law_number.kp T.b_law_number .nil pass0 (pa_cons (pe_ix ix_list (pv 0) pe_int (fun _ _ => rfl)) pa_nil)) pe_non (nomark _)) (pss_one (ps_ret pe_non)) pss_nil)
      (pss_cons (ps_set (i := 1) sc_law_told.nd rfl (Or.inl rfl) (pe_tup (pa_cons (pe_call (ok_law_number T) (hr.mono (by decide)) (by rfl) T.g_law_number T.F_law_number.kp T.b_law_number .nil pass0 (pa_cons (pe_ix ix_list (pv 0) pe_int (fun _ _ => rfl)) pa_nil)) pa_nil)))
      (pss_cons (ps_set (i := 2) sc_law_told.nd rfl (Or.inl rfl) pe_int)
      (pss_cons (ps_set (i := 3) sc_law_told.nd rfl (Or.inl rfl) (pe_cmpR (op_eqD hr.units) (pe_slice sl_list (pv 0) (po_some pe_int) (po_some pe_int)) (pe_lst (pa_cons pe_str pa_nil)) (nomark _)))
      (pss_cons (ps_if (pt_val (pv 3)) (pss_cons (ps_asg (pe_call (ok_law_run T) (hr.mono (by decide)) (by rfl) T.g_law_run T.F_law_run.kp T.b_law_run .nil pass0 (pa_cons (pv 0) (pa_cons pe_int pa_nil))) (pg_tup (by rfl) (pgs_cons (pg_name (i := 4) sc_law_told.nd rfl (Or.inl rfl)) (pgs_cons (pg_name (i := 2) sc_law_told.nd rfl (Or.inl rfl)) pgs_nil))))
      (pss_one (ps_set (i := 1) sc_law_told.nd rfl (Or.inl rfl) (pe_op op_catT (pv 1) (pe_tup (pa_cons (pv 4) pa_nil)))))) pss_nil)
      (pss_cons (ps_if (pt_cmpR (op_neD hr.units) (pe_slice sl_list (pv 0) (po_some (pv 2)) (po_some (pe_op op_add (pv 2) pe_int))) (pe_lst (pa_cons pe_str pa_nil)) (nomark _)) (pss_one (ps_ret pe_non)) pss_nil)
      (pss_cons (ps_asg (pe_call (ok_law_run T) (hr.mono (by decide)) (by rfl) T.g_law_run T.F_law_run.kp T.b_law_run .nil pass0 (pa_cons (pv 0) (pa_cons (pe_op op_add (pv 2) pe_int) pa_nil))) (pg_tup (by rfl) (pgs_cons (pg_name (i := 5) sc_law_told.nd rfl (Or.inl rfl)) (pgs_cons (pg_name (i := 2) sc_law_told.nd rfl (Or.inl rfl)) pgs_nil))))
      (pss_cons (ps_if (pt_cmpR (op_neD hr.units) (pe_slice sl_list (pv 0) (po_some (pv 2)) (po_some (pe_op op_add (pv 2) pe_int))) (pe_lst (pa_cons pe_str pa_nil)) (nomark _)) (pss_one (ps_ret pe_non)) pss_nil)
      (pss_cons (ps_set (i := 6) sc_law_told.nd rfl (Or.inl rfl) (pe_call (ok_law_paper T) (hr.mono (by decide)) (by rfl) T.g_law_paper T.F_law_paper.kp T.b_law_paper .nil pass0 (pa_cons (pe_slice sl_list (pv 0) (po_some (pe_op op_add (pv 2) pe_int)) po_none) pa_nil)))
      (pss_cons (ps_if (pt_cmpR op_isN (pv 6) pe_non (nomark _)) (pss_one (ps_ret pe_non)) pss_nil)
      (pss_one (ps_ret (pe_op op_catT (pv 1) (pe_tup (pa_cons (pv 5) (pa_cons (pv 6) pa_nil)))))))))))))))), pure_law_told h⟩


def NC : Nat → Nat
  | 0 => 1
  | n + 1 => 1 + 3 * NC n
def TC : Nat → Nat
  | 0 => 2
  | n + 1 => 40 + 3 * TC n
/-- numbers in a drawn list -/
def Dr (ns : List Int) : Prop := ∀ u ∈ ns, 0 ≤ u ∧ u < 2147483629
theorem split_last {ns : List Int} (h : 0 < ns.length) : ∃ ms x, ns = ms ++ [x] := by
  rcases List.eq_nil_or_concat ns with rfl | ⟨ms, x, e⟩
  · simp at h
  · exact ⟨ms, x, by simpa using e⟩
theorem num_lt {y : Int} {m : Int} (h0 : 0 ≤ y) (h1 : y < m) (hm : m ≤ 1000) : Num30 y ∧ y.natAbs < 2 ^ 1900 := by
  have h3 : (1000 : Int) < 10 ^ 30 := by decide
  have : Num30 y := ⟨h0, by omega⟩
  exact ⟨this, (num_small this).1⟩
theorem rowv_app (a b : List Wd) : rowV a ++ rowV b = rowV (a ++ b) := by simp [rowV]
theorem WsOk.app {a b : List Wd} (h : WsOk a) (h' : WsOk b) : WsOk (a ++ b) := fun w hw => by
  rcases List.mem_append.mp hw with hw | hw
  · exact h w hw
  · exact h' w hw
def pr_law_drawn_case (K : PySem.W.Frag) (d : Nat) (v0 v1 : V) (H : Hp) (Q : VK) (_ : XK) : Prop := ∃ (l : Addr) (ns : List Int) (n : Nat), v0 = .ref l ∧ H l = some (.lst (ns.map V.int)) ∧ Dr ns ∧ v1 = .int (n : Nat) ∧ n ≤ d ∧ n ≤ 4 ∧ NC n ≤ ns.length ∧ ns.length ≤ 1000 ∧
  ∀ p ws ns' H', Same (hid [l] H) (hid [l] H') → H' l = some (.lst (List.map V.int ns')) → Dr ns' → ns.length ≤ ns'.length + NC n → ns'.length ≤ ns.length → H p = none → H' p = some (.lst (rowV ws)) → WsOk ws → tot ws ≤ TC n → Q (.ref p) H'
def spd_law_drawn_case (K : PySem.W.Frag) : Nat → Sp
  | 0 => fun _ _ _ _ => False
  | d + 1 => fun vs H Q E => ∃ v0 v1, vs = [v0, v1] ∧ pr_law_drawn_case K d v0 v1 H Q E
def t_law_drawn_case (K : PySem.W.Frag) (sp : Sp) : TS :=
  (tSeq (tAsg (tBM0 K "list" rPop (tVar 0)) (gName 2))
    (tSeq (tIfS (tOr (tTest (tOp rEq (tVar 1) (tC (.int 0)))) (tTest (tOp rEq (tOp xMod (tVar 2) (tC (.int 3))) (tC (.int 0))))) (tRet (tLst (tCons (tC (.str (Str.ofString "."))) tNil))) tNext)
    (tSeq (tAsg (tLst (tCons (tC (.str (Str.ofString "("))) (tCons (tCB rStrInt (tCons (tOp xMod (tOp xDiv (tVar 2) (tC (.int 3))) (tC (.int 12))) tNil)) tNil))) (gName 3))
    (tSeq (tFor (iRng1 (tCons (tOp xMod (tOp xDiv (tVar 2) (tC (.int 64))) (tC (.int 4))) tNil)) (gName 4)
      (tAsg (tOp rCat (tVar 3) (tCall sp [] E0 (tCons (tVar 0) (tCons (tOp xSub (tVar 1) (tC (.int 1))) tNil)))) (gName 3)))
    (tRet (tOp rCat (tVar 3) (tLst (tCons (tC (.str (Str.ofString ")"))) tNil))))))))
theorem pure_law_drawn_case {d : Nat} {v0 v1 : V} {H : Hp} {Q : VK} {E : XK} (h : pr_law_drawn_case K d v0 v1 H Q E) : t_law_drawn_case K (spd_law_drawn_case K d) ⟨fun _ H' => Q .non H', Q, fun _ _ => False, fun _ _ => False⟩ [some v0, some v1, none, none, none] H := by
  obtain ⟨l, ns, n, rfl, eL, dr, rfl, hn, n4, hc, hz, q⟩ := h
  have p1 : ∀ n, 1 ≤ NC n := fun n => by cases n <;> simp [NC] <;> omega
  obtain ⟨ms, x, rfl⟩ := split_last (ns := ns) (by have := p1 n; omega)
  rw [List.map_append] at eL
  have drm : Dr ms := fun u hu => dr u (List.mem_append_left _ hu)
  have dx := dr x (by simp)
  rw [List.length_append, List.length_singleton] at hc hz q
  unfold t_law_drawn_case
  wtm_at "s"
  refine k_tyL (sl eL) ?_
  wtm_at "s"
  refine k_popE eL ?_
  have s1 : Same (hid [l] H) (hid [l] (upd H l (.lst (ms.map V.int)))) := by rw [hid_upd (by simp)]; exact Same.refl _
  have e1 : upd H l (.lst (ms.map V.int)) l = some (.lst (ms.map V.int)) := upd_same
  generalize upd H l (.lst (ms.map V.int)) = H1 at s1 e1 ⊢
  have back : ∀ p, H1 p = none → H p = none := fun p np => by
    have pl : p ∉ [l] := fun z => by rw [List.mem_singleton.mp z, e1] at np; cases np
    have := s1.free (show hid [l] H1 p = none by rw [hid_ne pl]; exact np)
    rwa [hid_ne pl] at this
  have leaf : newL [.str (Str.ofString ".")] H1 Q := kL (by simp) (fun p H2 np s2 e2 => by
    refine q p [ww "."] ms H2 (s1.trans (hid_mono s2)) (s2 _ _ e1) drm ?_ (by omega) (back p np) (by rw [e2, rowlit]) (.one (ww_ok (by decide))) ?_
    · have := p1 n; omega
    · rw [tot_one, ww_dot]
      cases n with
      | zero => decide
      | succ n => show 1 + 1 ≤ 40 + 3 * TC n; omega)
  wtm_at "s"
  cases n with
  | zero =>
    rw [if_pos (by simp)]
    wtm_at "s"
    exact leaf
  | succ n =>
  obtain ⟨d, rfl⟩ : ∃ d', d = d' + 1 := ⟨d - 1, by omega⟩
  have hc : 1 + 3 * NC n ≤ ms.length + 1 := hc
  rw [if_neg (by simp; omega)]
  wtm_at "s"
  by_cases c3 : x % 3 = 0
  · rw [if_pos (by simpa using c3)]
    wtm_at "s"
    exact leaf
  rw [if_neg (by simpa using c3)]
  clear leaf
  wtm_at "s"
  obtain ⟨yn, ys⟩ := num_lt (y := x / 3 % 12) (m := 12) (by omega) (by omega) (by decide)
  refine k_strI ys ?_
  wtm_at "s"
  refine kL (by simp) (fun f0 H2 nf s2 e2 => ?_)
  have ef : [V.str (Str.ofString "("), V.str (mkS (nu (x / 3 % 12)))] = rowV [ww "(", nu (x / 3 % 12)] := by
    show _ = [V.str (mkS (ww "(")), V.str (mkS (nu _))]
    rw [mk_ww]
  rw [ef] at e2
  have nl := (num_small yn).2
  have ok2 : WsOk [ww "(", nu (x / 3 % 12)] := fun w hw => by
    simp only [List.mem_cons, List.not_mem_nil, or_false] at hw
    rcases hw with rfl | rfl
    · exact ww_ok (by decide)
    · exact nu_ok yn
  have t2 : tot [ww "(", nu (x / 3 % 12)] ≤ 33 := by
    show (([ww "(", nu (x / 3 % 12)] : List Wd).map fun r => r.length + 1).sum ≤ 33
    rw [ww_op]
    simp only [List.map_cons, List.map_nil, List.sum_cons, List.sum_nil, List.length_cons, List.length_nil]
    omega
  generalize ([ww "(", nu (x / 3 % 12)] : List Wd) = ws0 at e2 ok2 t2
  have s12 := s1.trans (hid_mono s2)
  wtm_at "s"
  refine forR (fun i σ' G => Same (hid [l] H) (hid [l] G) ∧ ∃ (fp : Addr) (ws : List Wd) (ks : List Int) (k4 : Option V), σ' = [some (.ref l), some (.int ((n + 1 : Nat) : Int)), some (.int x), some (.ref fp), k4] ∧ G l = some (.lst (ks.map V.int)) ∧ Dr ks ∧ ms.length ≤ ks.length + i * NC n ∧ ks.length ≤ ms.length ∧ G fp = some (.lst (rowV ws)) ∧ fp ≠ l ∧ WsOk ws ∧ tot ws ≤ 33 + i * TC n) ⟨s12, f0, ws0, ms, none, rfl, s2 _ _ e1, drm, by omega, by omega, e2, (fun z => by rw [z, e1] at nf; cases nf), ok2, by omega⟩ ?_ ?_
  · rintro i σ' G hi ⟨sG, fp, ws, ks, k4, rfl, eG, dk, lk, lk2, ef, nfl, okw, tw⟩
    have i3 : i < 3 := by omega
    have hle : NC n ≤ ks.length := by
      have : i * NC n ≤ 2 * NC n := Nat.mul_le_mul_right _ (by omega)
      omega
    wtm_at "s"
    refine ⟨_, _, rfl, l, ks, n, rfl, eG, dk, by congr 1; omega, by omega, by omega, hle, by omega, fun p us ks' G2 sG2 eG2 dk2 l1 l2 np ep oku tu => ?_⟩
    have ef2 := keeps sG2 ef (by simpa using nfl)
    have tcn : TC n ≤ 600 := by
      have : n ≤ 3 := by omega
      rcases (show n = 0 ∨ n = 1 ∨ n = 2 ∨ n = 3 by omega) with rfl | rfl | rfl | rfl <;> decide
    have ti : i * TC n ≤ 2 * TC n := Nat.mul_le_mul_right _ (by omega)
    wtm_at "s"
    refine k_catR ef2 ep (by omega) (fun p3 G3 n3 s3 e3 => ?_)
    wtm_at "s"
    refine ⟨sG.trans (sG2.trans (hid_mono s3)), p3, ws ++ us, ks', _, rfl, s3 _ _ eG2, dk2, ?_, by omega, e3, fun z => ?_, okw.app oku, ?_⟩
    · rw [Nat.succ_mul]; omega
    · rw [z, eG2] at n3; cases n3
    · rw [tot_app, Nat.succ_mul]; omega
  · rintro σ' G ⟨sG, fp, ws, ks, k4, rfl, eG, dk, lk, lk2, ef, nfl, okw, tw⟩
    have h3 : (x / 64 % 4).toNat ≤ 3 := by omega
    have t3 : (x / 64 % 4).toNat * TC n ≤ 3 * TC n := Nat.mul_le_mul_right _ h3
    have c3' : (x / 64 % 4).toNat * NC n ≤ 3 * NC n := Nat.mul_le_mul_right _ h3
    have tcn : TC n ≤ 600 := by
      rcases (show n = 0 ∨ n = 1 ∨ n = 2 ∨ n = 3 by omega) with rfl | rfl | rfl | rfl <;> decide
    wtm_at "s"
    refine kL (by simp) (fun q1 G1 nq sG1 eq1 => ?_)
    rw [rowlit] at eq1
    refine k_catR (sG1 _ _ ef) eq1 (by rw [tot_one, ww_cl]; simp only [List.length_singleton]; omega) (fun p2 G2 n2 sG2 e2' => ?_)
    have np : H p2 = none := by
      have pl : p2 ∉ [l] := fun z => by rw [List.mem_singleton.mp z, sG1 _ _ eG] at n2; cases n2
      have := (sG.trans (hid_mono sG1)).free (show hid [l] G1 p2 = none by rw [hid_ne pl]; exact n2)
      rwa [hid_ne pl] at this
    refine q p2 _ ks G2 (sG.trans (hid_mono (sG1.trans sG2))) ((sG1.trans sG2) _ _ eG) dk ?_ (by omega) np e2' (okw.app (.one (ww_ok (by decide)))) ?_
    · show ms.length + 1 ≤ ks.length + (1 + 3 * NC n); omega
    · rw [tot_app, tot_one, ww_cl]
      show tot ws + (([41] : Wd).length + 1) ≤ 40 + 3 * TC n
      simp only [List.length_singleton]; omega
theorem okd_law_drawn_case (T : Txt K mg A) : ∀ d : Nat, FnOk P w K mg base CX0 (1 + d) A.a_law_drawn_case A.d_law_drawn_case ["_law_left", "_law_deep"] (spd_law_drawn_case K d)
  | 0 => T.F_law_drawn_case.ok sc_law_drawn_case (fun vs H Q E h => False.elim h) (fun cdv A0 outer s H vs Q E hr h => False.elim h)
  | d + 1 => by
    refine T.F_law_drawn_case.ok sc_law_drawn_case (fun vs H Q E h => by obtain ⟨v0, v1, rfl, _⟩ := h; rfl) (fun cdv A0 outer s H vs Q E hr h => ?_)
    obtain ⟨v0, v1, rfl, h⟩ := h
    exact ⟨t_law_drawn_case K (spd_law_drawn_case K d), (pss_cons (ps_set (i := 2) sc_law_drawn_case.nd rfl (Or.inl rfl) (pe_bm0 PySem.F.plainAttrs_list PySem.F.slot_list_pop PySem.F.type_list_pop mt_pop (pv 0)))
      (pss_cons (ps_if (PW.pt (pw_or (pt_cmpR op_eq (pv 1) pe_int (nomark _)) (pw_or1 (pt_cmpR op_eq (pe_op op_mod (pv 2) pe_int) pe_int (nomark _))))) (pss_one (ps_ret (pe_lst (pa_cons pe_str pa_nil)))) pss_nil)
      (pss_cons (ps_set (i := 3) sc_law_drawn_case.nd rfl (Or.inl rfl) (pe_lst (pa_cons pe_str (pa_cons (pe_callTy q_strI (by rfl) T.z_str (by decide +kernel) (pa_cons (pe_op op_mod (pe_op op_fdiv (pv 2) pe_int) pe_int) pa_nil)) pa_nil))))
      (pss_cons (ps_for PassesOwn.never rfl (pi_range1 (by rfl) T.z_range (pa_cons (pe_op op_mod (pe_op op_fdiv (pv 2) pe_int) pe_int) pa_nil)) (pg_name (i := 4) sc_law_drawn_case.nd rfl (Or.inl rfl))
      (pss_one (ps_set (i := 3) sc_law_drawn_case.nd rfl (Or.inl rfl) (pe_op op_cat (pv 3) (pe_call (okd_law_drawn_case T d) (hr.mono (by first | decide | omega | (simp only [Nat.add_eq]; omega))) (by rfl) T.g_law_drawn_case T.F_law_drawn_case.kp T.b_law_drawn_case .nil pass0 (pa_cons (pv 0) (pa_cons (pe_op op_sub (pv 1) pe_int) pa_nil)))))))
      (pss_one (ps_ret (pe_op op_cat (pv 3) (pe_lst (pa_cons pe_str pa_nil))))))))), pure_law_drawn_case h⟩
abbrev sp_law_drawn_case (K : PySem.W.Frag) : Sp := fun vs H Q E => ∃ v0 v1, vs = [v0, v1] ∧ ∃ d : Nat, d < 6 ∧ pr_law_drawn_case K d v0 v1 H Q E
theorem ok_law_drawn_case (T : Txt K mg A) : FnOk P w K mg base CX0 7 A.a_law_drawn_case A.d_law_drawn_case ["_law_left", "_law_deep"] (sp_law_drawn_case K) := by
  refine T.F_law_drawn_case.ok sc_law_drawn_case (fun vs H Q E h => by obtain ⟨v0, v1, rfl, _⟩ := h; rfl) (fun cdv A0 outer s H vs Q E hr h => ?_)
  obtain ⟨v0, v1, rfl, d, hd, h⟩ := h
  exact ⟨t_law_drawn_case K (spd_law_drawn_case K d), (pss_cons (ps_set (i := 2) sc_law_drawn_case.nd rfl (Or.inl rfl) (pe_bm0 PySem.F.plainAttrs_list PySem.F.slot_list_pop PySem.F.type_list_pop mt_pop (pv 0)))
      (pss_cons (ps_if (PW.pt (pw_or (pt_cmpR op_eq (pv 1) pe_int (nomark _)) (pw_or1 (pt_cmpR op_eq (pe_op op_mod (pv 2) pe_int) pe_int (nomark _))))) (pss_one (ps_ret (pe_lst (pa_cons pe_str pa_nil)))) pss_nil)
      (pss_cons (ps_set (i := 3) sc_law_drawn_case.nd rfl (Or.inl rfl) (pe_lst (pa_cons pe_str (pa_cons (pe_callTy q_strI (by rfl) T.z_str (by decide +kernel) (pa_cons (pe_op op_mod (pe_op op_fdiv (pv 2) pe_int) pe_int) pa_nil)) pa_nil))))
      (pss_cons (ps_for PassesOwn.never rfl (pi_range1 (by rfl) T.z_range (pa_cons (pe_op op_mod (pe_op op_fdiv (pv 2) pe_int) pe_int) pa_nil)) (pg_name (i := 4) sc_law_drawn_case.nd rfl (Or.inl rfl))
      (pss_one (ps_set (i := 3) sc_law_drawn_case.nd rfl (Or.inl rfl) (pe_op op_cat (pv 3) (pe_call (okd_law_drawn_case T d) (hr.mono (by first | decide | omega | (simp only [Nat.add_eq]; omega))) (by rfl) T.g_law_drawn_case T.F_law_drawn_case.kp T.b_law_drawn_case .nil pass0 (pa_cons (pv 0) (pa_cons (pe_op op_sub (pv 1) pe_int) pa_nil)))))))
      (pss_one (ps_ret (pe_op op_cat (pv 3) (pe_lst (pa_cons pe_str pa_nil))))))))), pure_law_drawn_case h⟩


def NT : Nat → Nat
  | 0 => 1
  | n + 1 => 1 + 2 * NT n
def TT : Nat → Nat
  | 0 => 64
  | n + 1 => 64 + 2 * TT n
theorem row3 {s : String} {a b : Wd} : [V.str (Str.ofString s), V.str (mkS a), V.str (mkS b)] = rowV [ww s, a, b] := by
  show _ = [V.str (mkS (ww s)), V.str (mkS a), V.str (mkS b)]
  rw [mk_ww]
theorem row2 {s : String} {a : Wd} : [V.str (Str.ofString s), V.str (mkS a)] = rowV [ww s, a] := by
  show _ = [V.str (mkS (ww s)), V.str (mkS a)]
  rw [mk_ww]
theorem WsOk.cons {w : Wd} {ws : List Wd} (h : Wok w) (h' : WsOk ws) : WsOk (w :: ws) := fun u hu => by
  rcases List.mem_cons.mp hu with rfl | hu
  · exact h
  · exact h' u hu
theorem tot_cons {w : Wd} {ws : List Wd} : tot (w :: ws) = w.length + 1 + tot ws := by simp [tot]
def pr_law_drawn_turn (K : PySem.W.Frag) (d : Nat) (v0 v1 : V) (H : Hp) (Q : VK) (_ : XK) : Prop := ∃ (l : Addr) (ns : List Int) (n : Nat), v0 = .ref l ∧ H l = some (.lst (ns.map V.int)) ∧ Dr ns ∧ v1 = .int (n : Nat) ∧ n ≤ d ∧ n ≤ 4 ∧ NT n ≤ ns.length ∧ ns.length ≤ 1000 ∧
  ∀ p ws ns' H', Same (hid [l] H) (hid [l] H') → H' l = some (.lst (List.map V.int ns')) → Dr ns' → ns.length ≤ ns'.length + NT n → ns'.length ≤ ns.length → H p = none → H' p = some (.lst (rowV ws)) → WsOk ws → tot ws ≤ TT n → Q (.ref p) H'
def spd_law_drawn_turn (K : PySem.W.Frag) : Nat → Sp
  | 0 => fun _ _ _ _ => False
  | d + 1 => fun vs H Q E => ∃ v0 v1, vs = [v0, v1] ∧ pr_law_drawn_turn K d v0 v1 H Q E
def t_law_drawn_turn (K : PySem.W.Frag) (sp : Sp) : TS :=
  (tSeq (tAsg (tBM0 K "list" rPop (tVar 0)) (gName 2))
    (tSeq (tIfS (tOr (tTest (tOp rEq (tVar 1) (tC (.int 0)))) (tTest (tOp rEq (tOp xMod (tVar 2) (tC (.int 3))) (tC (.int 0))))) (tRet (tLst (tCons (tC (.str (Str.ofString "="))) (tCons (tCB rStrInt (tCons (tOp xMod (tOp xDiv (tVar 2) (tC (.int 3))) (tC (.int 60))) tNil)) (tCons (tCB rStrInt (tCons (tOp xMod (tOp xDiv (tVar 2) (tC (.int 256))) (tC (.int 60))) tNil)) tNil))))) tNext)
    (tSeq (tAsg (tLst (tCons (tC (.str (Str.ofString "("))) (tCons (tCB rStrInt (tCons (tOp xMod (tOp xDiv (tVar 2) (tC (.int 3))) (tC (.int 12))) tNil)) tNil))) (gName 3))
    (tRet (tOp rCat (tOp rCat (tOp rCat (tVar 3) (tCall sp [] E0 (tCons (tVar 0) (tCons (tOp xSub (tVar 1) (tC (.int 1))) tNil)))) (tCall sp [] E0 (tCons (tVar 0) (tCons (tOp xSub (tVar 1) (tC (.int 1))) tNil)))) (tLst (tCons (tC (.str (Str.ofString ")"))) tNil)))))))
theorem pure_law_drawn_turn {d : Nat} {v0 v1 : V} {H : Hp} {Q : VK} {E : XK} (h : pr_law_drawn_turn K d v0 v1 H Q E) : t_law_drawn_turn K (spd_law_drawn_turn K d) ⟨fun _ H' => Q .non H', Q, fun _ _ => False, fun _ _ => False⟩ [some v0, some v1, none, none] H := by
  obtain ⟨l, ns, n, rfl, eL, dr, rfl, hn, n4, hc, hz, q⟩ := h
  have p1 : ∀ n, 1 ≤ NT n := fun n => by cases n <;> simp [NT] <;> omega
  obtain ⟨ms, x, rfl⟩ := split_last (ns := ns) (by have := p1 n; omega)
  rw [List.map_append] at eL
  have drm : Dr ms := fun u hu => dr u (List.mem_append_left _ hu)
  have dx := dr x (by simp)
  rw [List.length_append, List.length_singleton] at hc hz q
  unfold t_law_drawn_turn
  wtm_at "s"
  refine k_tyL (sl eL) ?_
  wtm_at "s"
  refine k_popE eL ?_
  have s1 : Same (hid [l] H) (hid [l] (upd H l (.lst (ms.map V.int)))) := by rw [hid_upd (by simp)]; exact Same.refl _
  have e1 : upd H l (.lst (ms.map V.int)) l = some (.lst (ms.map V.int)) := upd_same
  generalize upd H l (.lst (ms.map V.int)) = H1 at s1 e1 ⊢
  have back : ∀ p, H1 p = none → H p = none := fun p np => by
    have pl : p ∉ [l] := fun z => by rw [List.mem_singleton.mp z, e1] at np; cases np
    have := s1.free (show hid [l] H1 p = none by rw [hid_ne pl]; exact np)
    rwa [hid_ne pl] at this
  obtain ⟨an, as⟩ := num_lt (y := x / 3 % 60) (m := 60) (by omega) (by omega) (by decide)
  obtain ⟨bn, bs⟩ := num_lt (y := x / 256 % 60) (m := 60) (by omega) (by omega) (by decide)
  have la := (num_small an).2
  have lb := (num_small bn).2
  have leaf : tRet (tLst (tCons (tC (.str (Str.ofString "="))) (tCons (tCB rStrInt (tCons (tOp xMod (tOp xDiv (tVar 2) (tC (.int 3))) (tC (.int 60))) tNil)) (tCons (tCB rStrInt (tCons (tOp xMod (tOp xDiv (tVar 2) (tC (.int 256))) (tC (.int 60))) tNil)) tNil)))) ⟨fun _ H' => Q .non H', Q, fun _ _ => False, fun _ _ => False⟩ [some (.ref l), some (.int (n : Nat)), some (.int x), none] H1 := by
    wtm_at "s"
    refine k_strI as ?_
    wtm_at "s"
    refine k_strI bs ?_
    wtm_at "s"
    refine kL (by simp) (fun p H2 np s2 e2 => ?_)
    rw [row3] at e2
    refine q p _ ms H2 (s1.trans (hid_mono s2)) (s2 _ _ e1) drm ?_ (by omega) (back p np) e2 (.cons (ww_ok (by decide)) (.cons (nu_ok an) (.one (nu_ok bn)))) ?_
    · have := p1 n; omega
    · rw [tot_cons, tot_cons, tot_one, ww_eq]
      have : 64 ≤ TT n := by cases n <;> simp [TT]
      simp only [List.length_singleton]; omega
  wtm_at "s"
  cases n with
  | zero =>
    rw [if_pos (by simp), if_pos rfl]
    exact leaf
  | succ n =>
  obtain ⟨d, rfl⟩ : ∃ d', d = d' + 1 := ⟨d - 1, by omega⟩
  have hc : 1 + 2 * NT n ≤ ms.length + 1 := hc
  rw [if_neg (by simp; omega)]
  wtm_at "s"
  by_cases c3 : x % 3 = 0
  · rw [if_pos (by simpa using c3)]
    exact leaf
  rw [if_neg (by simpa using c3)]
  clear leaf
  wtm_at "s"
  obtain ⟨yn, ys⟩ := num_lt (y := x / 3 % 12) (m := 12) (by omega) (by omega) (by decide)
  refine k_strI ys ?_
  wtm_at "s"
  refine kL (by simp) (fun f0 H2 nf s2 e2 => ?_)
  rw [row2] at e2
  have nl := (num_small yn).2
  have ok2 : WsOk [ww "(", nu (x / 3 % 12)] := .cons (ww_ok (by decide)) (.one (nu_ok yn))
  have t2 : tot [ww "(", nu (x / 3 % 12)] ≤ 33 := by rw [tot_cons, tot_one, ww_op]; simp only [List.length_singleton]; omega
  generalize ([ww "(", nu (x / 3 % 12)] : List Wd) = ws0 at e2 ok2 t2
  have tcn : TT n ≤ 2000 := by
    rcases (show n = 0 ∨ n = 1 ∨ n = 2 ∨ n = 3 by omega) with rfl | rfl | rfl | rfl <;> decide
  have s12 := s1.trans (hid_mono s2)
  have nfl : f0 ∉ [l] := fun z => by rw [List.mem_singleton.mp z, e1] at nf; cases nf
  have e21 := s2 _ _ e1
  wtm_at "s"
  refine ⟨_, _, rfl, l, ms, n, rfl, e21, drm, by congr 1; omega, by omega, by omega, by omega, by omega, fun p3 us ks H3 s3 e3 dk l1 l2 n3 ep oku tu => ?_⟩
  have ef3 := keeps s3 e2 nfl
  wtm_at "s"
  refine k_catR ef3 ep (by omega) (fun p4 H4 n4 s4 e4 => ?_)
  have n4l : p4 ∉ [l] := fun z => by rw [List.mem_singleton.mp z, e3] at n4; cases n4
  wtm_at "s"
  refine ⟨_, _, rfl, l, ks, n, rfl, s4 _ _ e3, dk, by congr 1; omega, by omega, by omega, by omega, by omega, fun p5 us2 ks2 H5 s5 e5 dk2 l3 l4 n5 ep5 oku2 tu2 => ?_⟩
  have ef5 := keeps s5 e4 n4l
  wtm_at "s"
  refine k_catR ef5 ep5 (by rw [tot_app]; omega) (fun p6 H6 n6 s6 e6 => ?_)
  wtm_at "s"
  refine kL (by simp) (fun q7 H7 n7 s7 e7 => ?_)
  rw [rowlit] at e7
  refine k_catR (s7 _ _ e6) e7 (by rw [tot_app, tot_app, tot_one, ww_cl]; simp only [List.length_singleton]; omega) (fun p8 H8 n8 s8 e8 => ?_)
  have e58 := (s6.trans (s7.trans s8)) _ _ e5
  have S7 : Same (hid [l] H) (hid [l] H7) := s12.trans (s3.trans ((hid_mono s4).trans (s5.trans (hid_mono (s6.trans s7)))))
  have np : H p8 = none := by
    have pl : p8 ∉ [l] := fun z => by rw [List.mem_singleton.mp z, (s6.trans s7) _ _ e5] at n8; cases n8
    have := S7.free (show hid [l] H7 p8 = none by rw [hid_ne pl]; exact n8)
    rwa [hid_ne pl] at this
  refine q p8 _ ks2 H8 (S7.trans (hid_mono s8)) e58 dk2 ?_ (by omega) np e8 (((ok2.app oku).app oku2).app (.one (ww_ok (by decide)))) ?_
  · show ms.length + 1 ≤ ks2.length + (1 + 2 * NT n); omega
  · rw [tot_app, tot_app, tot_app, tot_one, ww_cl]
    show _ ≤ 64 + 2 * TT n
    simp only [List.length_singleton]; omega
theorem okd_law_drawn_turn (T : Txt K mg A) : ∀ d : Nat, FnOk P w K mg base CX0 (1 + d) A.a_law_drawn_turn A.d_law_drawn_turn ["_law_left", "_law_deep"] (spd_law_drawn_turn K d)
  | 0 => T.F_law_drawn_turn.ok sc_law_drawn_turn (fun vs H Q E h => False.elim h) (fun cdv A0 outer s H vs Q E hr h => False.elim h)
  | d + 1 => by
    refine T.F_law_drawn_turn.ok sc_law_drawn_turn (fun vs H Q E h => by obtain ⟨v0, v1, rfl, _⟩ := h; rfl) (fun cdv A0 outer s H vs Q E hr h => ?_)
    obtain ⟨v0, v1, rfl, h⟩ := h
    exact ⟨t_law_drawn_turn K (spd_law_drawn_turn K d), (pss_cons (ps_set (i := 2) sc_law_drawn_turn.nd rfl (Or.inl rfl) (pe_bm0 PySem.F.plainAttrs_list PySem.F.slot_list_pop PySem.F.type_list_pop mt_pop (pv 0)))
      (pss_cons (ps_if (PW.pt (pw_or (pt_cmpR op_eq (pv 1) pe_int (nomark _)) (pw_or1 (pt_cmpR op_eq (pe_op op_mod (pv 2) pe_int) pe_int (nomark _))))) (pss_one (ps_ret (pe_lst (pa_cons pe_str (pa_cons (pe_callTy q_strI (by rfl) T.z_str (by decide +kernel) (pa_cons (pe_op op_mod (pe_op op_fdiv (pv 2) pe_int) pe_int) pa_nil)) (pa_cons (pe_callTy q_strI (by rfl) T.z_str (by decide +kernel) (pa_cons (pe_op op_mod (pe_op op_fdiv (pv 2) pe_int) pe_int) pa_nil)) pa_nil)))))) pss_nil)
      (pss_cons (ps_set (i := 3) sc_law_drawn_turn.nd rfl (Or.inl rfl) (pe_lst (pa_cons pe_str (pa_cons (pe_callTy q_strI (by rfl) T.z_str (by decide +kernel) (pa_cons (pe_op op_mod (pe_op op_fdiv (pv 2) pe_int) pe_int) pa_nil)) pa_nil))))
      (pss_one (ps_ret (pe_op op_cat (pe_op op_cat (pe_op op_cat (pv 3) (pe_call (okd_law_drawn_turn T d) (hr.mono (by first | decide | omega | (simp only [Nat.add_eq]; omega))) (by rfl) T.g_law_drawn_turn T.F_law_drawn_turn.kp T.b_law_drawn_turn .nil pass0 (pa_cons (pv 0) (pa_cons (pe_op op_sub (pv 1) pe_int) pa_nil)))) (pe_call (okd_law_drawn_turn T d) (hr.mono (by first | decide | omega | (simp only [Nat.add_eq]; omega))) (by rfl) T.g_law_drawn_turn T.F_law_drawn_turn.kp T.b_law_drawn_turn .nil pass0 (pa_cons (pv 0) (pa_cons (pe_op op_sub (pv 1) pe_int) pa_nil)))) (pe_lst (pa_cons pe_str pa_nil)))))))), pure_law_drawn_turn h⟩
abbrev sp_law_drawn_turn (K : PySem.W.Frag) : Sp := fun vs H Q E => ∃ v0 v1, vs = [v0, v1] ∧ ∃ d : Nat, d < 6 ∧ pr_law_drawn_turn K d v0 v1 H Q E
theorem ok_law_drawn_turn (T : Txt K mg A) : FnOk P w K mg base CX0 7 A.a_law_drawn_turn A.d_law_drawn_turn ["_law_left", "_law_deep"] (sp_law_drawn_turn K) := by
  refine T.F_law_drawn_turn.ok sc_law_drawn_turn (fun vs H Q E h => by obtain ⟨v0, v1, rfl, _⟩ := h; rfl) (fun cdv A0 outer s H vs Q E hr h => ?_)
  obtain ⟨v0, v1, rfl, d, hd, h⟩ := h
  exact ⟨t_law_drawn_turn K (spd_law_drawn_turn K d), (pss_cons (ps_set (i := 2) sc_law_drawn_turn.nd rfl (Or.inl rfl) (pe_bm0 PySem.F.plainAttrs_list PySem.F.slot_list_pop PySem.F.type_list_pop mt_pop (pv 0)))
      (pss_cons (ps_if (PW.pt (pw_or (pt_cmpR op_eq (pv 1) pe_int (nomark _)) (pw_or1 (pt_cmpR op_eq (pe_op op_mod (pv 2) pe_int) pe_int (nomark _))))) (pss_one (ps_ret (pe_lst (pa_cons pe_str (pa_cons (pe_callTy q_strI (by rfl) T.z_str (by decide +kernel) (pa_cons (pe_op op_mod (pe_op op_fdiv (pv 2) pe_int) pe_int) pa_nil)) (pa_cons (pe_callTy q_strI (by rfl) T.z_str (by decide +kernel) (pa_cons (pe_op op_mod (pe_op op_fdiv (pv 2) pe_int) pe_int) pa_nil)) pa_nil)))))) pss_nil)
      (pss_cons (ps_set (i := 3) sc_law_drawn_turn.nd rfl (Or.inl rfl) (pe_lst (pa_cons pe_str (pa_cons (pe_callTy q_strI (by rfl) T.z_str (by decide +kernel) (pa_cons (pe_op op_mod (pe_op op_fdiv (pv 2) pe_int) pe_int) pa_nil)) pa_nil))))
      (pss_one (ps_ret (pe_op op_cat (pe_op op_cat (pe_op op_cat (pv 3) (pe_call (okd_law_drawn_turn T d) (hr.mono (by first | decide | omega | (simp only [Nat.add_eq]; omega))) (by rfl) T.g_law_drawn_turn T.F_law_drawn_turn.kp T.b_law_drawn_turn .nil pass0 (pa_cons (pv 0) (pa_cons (pe_op op_sub (pv 1) pe_int) pa_nil)))) (pe_call (okd_law_drawn_turn T d) (hr.mono (by first | decide | omega | (simp only [Nat.add_eq]; omega))) (by rfl) T.g_law_drawn_turn T.F_law_drawn_turn.kp T.b_law_drawn_turn .nil pass0 (pa_cons (pv 0) (pa_cons (pe_op op_sub (pv 1) pe_int) pa_nil)))) (pe_lst (pa_cons pe_str pa_nil)))))))), pure_law_drawn_turn h⟩


theorem tot_rev : ∀ ws : List Wd, tot ws.reverse = tot ws
  | [] => rfl
  | w :: ws => by rw [List.reverse_cons, tot_app, tot_rev ws, tot_one, tot_cons]; omega
theorem rowv_rev (ws : List Wd) : (rowV ws).reverse = rowV ws.reverse := by simp [rowV]
theorem rowone (u : Wd) : [V.str (mkS u)] = rowV [u] := rfl
def pr_law_bent (K : PySem.W.Frag) (v0 v1 v2 : V) (H : Hp) (Q : VK) (_ : XK) : Prop := ∃ (a : Addr) (ws : List Wd) (x : Int) (u : Wd), v0 = .ref a ∧ H a = some (.lst (rowV ws)) ∧ WsOk ws ∧ tot ws ≤ 18000 ∧ ws ≠ [] ∧ v1 = .int x ∧ 0 ≤ x ∧ v2 = .str (mkS u) ∧ Wok u ∧ u.length ≤ 40 ∧
  ∀ p us H', Same H H' → H' p = some (.lst (rowV us)) → WsOk us → tot us ≤ tot ws + 41 → Q (.ref p) H'
def t_law_bent (K : PySem.W.Frag) : TS :=
  (tSeq (tAsg (tOp xMod (tOp xDiv (tVar 1) (tC (.int 8))) (tCB (rLenX K) (tCons (tVar 0) tNil))) (gName 3))
    (tSeq (tAsg (tOp xMod (tVar 1) (tC (.int 8))) (gName 4))
    (tSeq (tIfS (tTest (tOp rEq (tVar 4) (tC (.int 0)))) (tRet (tOp rCat (tOp rCat (tSl (rSlL K) (tVar 0) tNoPart (tPart (tVar 3))) (tLst (tCons (tVar 2) tNil))) (tSl (rSlL K) (tVar 0) (tPart (tVar 3)) tNoPart))) tNext)
    (tSeq (tIfS (tTest (tOp rEq (tVar 4) (tC (.int 1)))) (tRet (tOp rCat (tSl (rSlL K) (tVar 0) tNoPart (tPart (tVar 3))) (tSl (rSlL K) (tVar 0) (tPart (tOp xAdd (tVar 3) (tC (.int 1)))) tNoPart))) tNext)
    (tSeq (tIfS (tTest (tOp rEq (tVar 4) (tC (.int 2)))) (tRet (tOp rCat (tOp rCat (tSl (rSlL K) (tVar 0) tNoPart (tPart (tVar 3))) (tLst (tCons (tVar 2) tNil))) (tSl (rSlL K) (tVar 0) (tPart (tOp xAdd (tVar 3) (tC (.int 1)))) tNoPart))) tNext)
    (tSeq (tIfS (tTest (tOp rEq (tVar 4) (tC (.int 3)))) (tRet (tOp rCat (tOp rCat (tSl (rSlL K) (tVar 0) tNoPart (tPart (tVar 3))) (tRevL K (tSl (rSlL K) (tVar 0) (tPart (tVar 3)) (tPart (tOp xAdd (tVar 3) (tC (.int 2))))))) (tSl (rSlL K) (tVar 0) (tPart (tOp xAdd (tVar 3) (tC (.int 2)))) tNoPart))) tNext)
    (tSeq (tIfS (tTest (tOp rEq (tVar 4) (tC (.int 4)))) (tRet (tSl (rSlL K) (tVar 0) tNoPart (tPart (tVar 3)))) tNext)
    (tRet (tVar 0)))))))))
theorem pure_law_bent {v0 v1 v2 : V} {H : Hp} {Q : VK} {E : XK} (h : pr_law_bent K v0 v1 v2 H Q E) : t_law_bent K ⟨fun _ H' => Q .non H', Q, fun _ _ => False, fun _ _ => False⟩ [some v0, some v1, some v2, none, none] H := by
  obtain ⟨a, ws, x, u, rfl, ea, ok, tw, hne, rfl, x0, rfl, uok, ul, q⟩ := h
  have R : RowAt K H a ws := ⟨sl ea, ok, by omega⟩
  have lp : 0 < ws.length := List.length_pos_iff.mpr hne
  have lt := tot_len ws
  unfold t_law_bent
  wtm_at "s"
  refine k_mod (by rw [List.length_map]; omega) ?_
  rw [List.length_map]
  obtain ⟨j, hj⟩ : ∃ j : Nat, x / 8 % (ws.length : Nat) = (j : Nat) := ⟨(x / 8 % (ws.length : Nat)).toNat, by have := Int.emod_nonneg (x / 8) (show ((ws.length : Nat) : Int) ≠ 0 by omega); omega⟩
  have jl : j < ws.length := by have := Int.emod_lt_of_pos (x / 8) (show 0 < ((ws.length : Nat) : Int) by omega); omega
  rw [hj]
  have td := tot_td ws j
  have td1 := tot_td (ws.drop j) 1
  have td2 := tot_td (ws.drop j) 2
  rw [List.drop_drop] at td1 td2
  have RS : ∀ {H'}, Same H H' → RowAt K H' a ws := fun s => R.same s
  wtm_at "s"
  by_cases c0 : x % 8 = 0
  · rw [if_pos (by simpa using c0)]
    wtm_at "s"
    refine R.slT (fun p1 H1 n1 s1 e1 => ?_)
    wtm_at "s"
    refine kL (by simp) (fun p2 H2 n2 s2 e2 => ?_)
    rw [rowone] at e2
    refine k_catR (s2 _ _ e1) e2 (by rw [tot_one]; omega) (fun p3 H3 n3 s3 e3 => ?_)
    have s03 := s1.trans (s2.trans s3)
    wtm_at "s"
    refine (RS s03).slD (k := j) rfl (fun p4 H4 n4 s4 e4 => ?_)
    refine k_catR (s4 _ _ e3) e4 (by rw [tot_app, tot_one]; omega) (fun p5 H5 n5 s5 e5 => ?_)
    exact q p5 _ H5 (s03.trans (s4.trans s5)) e5 (((ok.take j).app (.one uok)).app (ok.drop j)) (by rw [tot_app, tot_app, tot_one]; omega)
  rw [if_neg (by simpa using c0)]
  wtm_at "s"
  by_cases c1 : x % 8 = 1
  · rw [if_pos (by simpa using c1)]
    wtm_at "s"
    refine R.slT (fun p1 H1 n1 s1 e1 => ?_)
    wtm_at "s"
    refine (RS s1).slD (k := j + 1) (by omega) (fun p4 H4 n4 s4 e4 => ?_)
    refine k_catR (s4 _ _ e1) e4 (by omega) (fun p5 H5 n5 s5 e5 => ?_)
    exact q p5 _ H5 (s1.trans (s4.trans s5)) e5 ((ok.take j).app (ok.drop _)) (by rw [tot_app]; omega)
  rw [if_neg (by simpa using c1)]
  wtm_at "s"
  by_cases c2 : x % 8 = 2
  · rw [if_pos (by simpa using c2)]
    wtm_at "s"
    refine R.slT (fun p1 H1 n1 s1 e1 => ?_)
    wtm_at "s"
    refine kL (by simp) (fun p2 H2 n2 s2 e2 => ?_)
    rw [rowone] at e2
    refine k_catR (s2 _ _ e1) e2 (by rw [tot_one]; omega) (fun p3 H3 n3 s3 e3 => ?_)
    have s03 := s1.trans (s2.trans s3)
    wtm_at "s"
    refine (RS s03).slD (k := j + 1) (by omega) (fun p4 H4 n4 s4 e4 => ?_)
    refine k_catR (s4 _ _ e3) e4 (by rw [tot_app, tot_one]; omega) (fun p5 H5 n5 s5 e5 => ?_)
    exact q p5 _ H5 (s03.trans (s4.trans s5)) e5 (((ok.take j).app (.one uok)).app (ok.drop _)) (by rw [tot_app, tot_app, tot_one]; omega)
  rw [if_neg (by simpa using c2)]
  wtm_at "s"
  by_cases c3 : x % 8 = 3
  · rw [if_pos (by simpa using c3)]
    wtm_at "s"
    refine R.slT (fun p1 H1 n1 s1 e1 => ?_)
    unfold tRevL
    wtm_at "s"
    have R1 := RS s1
    refine k_slL R1.at_ (fun p2 H2 n2 s2 e2 => ?_)
    have e2' : H2 p2 = some (.lst (rowV ((ws.drop j).take 2))) := by
      rw [e2, show ((j : Nat) : Int) + 2 = ((j + 2 : Nat) : Int) by omega, cut_ij (α := Nat) _ _ _ (by omega), ← List.map_drop, ← List.map_take, show j + 2 - j = 2 by omega]
    refine ⟨_, _, rfl, sl e2', fun p3 np3 => ?_⟩
    have s3 := same_new (o := .lst (rowV ((ws.drop j).take 2)).reverse) np3
    have e3 : upd H2 p3 (.lst (rowV ((ws.drop j).take 2)).reverse) p3 = some (.lst (rowV ((ws.drop j).take 2).reverse)) := by rw [upd_same, rowv_rev]
    generalize upd H2 p3 (.lst (rowV ((ws.drop j).take 2)).reverse) = H3 at s3 e3 ⊢
    wtm_at "s"
    refine k_catR ((s2.trans s3) _ _ e1) e3 (by rw [tot_rev]; omega) (fun p4 H4 n4 s4 e4 => ?_)
    have s04 := s1.trans (s2.trans (s3.trans s4))
    wtm_at "s"
    refine (RS s04).slD (k := j + 2) (by omega) (fun p5 H5 n5 s5 e5 => ?_)
    refine k_catR (s5 _ _ e4) e5 (by rw [tot_app, tot_rev]; omega) (fun p6 H6 n6 s6 e6 => ?_)
    exact q p6 _ H6 (s04.trans (s5.trans s6)) e6 (((ok.take j).app (fun w hw => (ok.drop j).take 2 w (List.mem_reverse.mp hw))).app (ok.drop _)) (by rw [tot_app, tot_app, tot_rev]; omega)
  rw [if_neg (by simpa using c3)]
  wtm_at "s"
  by_cases c4 : x % 8 = 4
  · rw [if_pos (by simpa using c4)]
    wtm_at "s"
    refine R.slT (fun p1 H1 n1 s1 e1 => ?_)
    exact q p1 _ H1 s1 e1 (ok.take j) (by omega)
  rw [if_neg (by simpa using c4)]
  wtm_at "s"
  exact q a ws H (Same.refl _) ea ok (by omega)
abbrev sp_law_bent (K : PySem.W.Frag) : Sp := fun vs H Q E => ∃ v0 v1 v2, vs = [v0, v1, v2] ∧ pr_law_bent K v0 v1 v2 H Q E
theorem ok_law_bent (T : Txt K mg A) : FnOk P w K mg base CX0 1 A.a_law_bent A.d_law_bent ["_law_words", "_law_number_here", "_law_word"] (sp_law_bent K) := by
  refine T.F_law_bent.ok sc_law_bent (fun vs H Q E h => by obtain ⟨v0, v1, v2, rfl, _⟩ := h; rfl) (fun cdv A0 outer s H vs Q E hr h => ?_)
  obtain ⟨v0, v1, v2, rfl, h⟩ := h
  exact ⟨t_law_bent K, (pss_cons (ps_set (i := 3) sc_law_bent.nd rfl (Or.inl rfl) (pe_op op_mod (pe_op op_fdiv (pv 1) pe_int) (pe_callB q_len (by rfl) T.z_len (by decide +kernel) (pa_cons (pv 0) pa_nil))))
      (pss_cons (ps_set (i := 4) sc_law_bent.nd rfl (Or.inl rfl) (pe_op op_mod (pv 1) pe_int))
      (pss_cons (ps_if (pt_cmpR op_eq (pv 4) pe_int (nomark _)) (pss_one (ps_ret (pe_op op_cat (pe_op op_cat (pe_slice sl_list (pv 0) po_none (po_some (pv 3))) (pe_lst (pa_cons (pv 2) pa_nil))) (pe_slice sl_list (pv 0) (po_some (pv 3)) po_none)))) pss_nil)
      (pss_cons (ps_if (pt_cmpR op_eq (pv 4) pe_int (nomark _)) (pss_one (ps_ret (pe_op op_cat (pe_slice sl_list (pv 0) po_none (po_some (pv 3))) (pe_slice sl_list (pv 0) (po_some (pe_op op_add (pv 3) pe_int)) po_none)))) pss_nil)
      (pss_cons (ps_if (pt_cmpR op_eq (pv 4) pe_int (nomark _)) (pss_one (ps_ret (pe_op op_cat (pe_op op_cat (pe_slice sl_list (pv 0) po_none (po_some (pv 3))) (pe_lst (pa_cons (pv 2) pa_nil))) (pe_slice sl_list (pv 0) (po_some (pe_op op_add (pv 3) pe_int)) po_none)))) pss_nil)
      (pss_cons (ps_if (pt_cmpR op_eq (pv 4) pe_int (nomark _)) (pss_one (ps_ret (pe_op op_cat (pe_op op_cat (pe_slice sl_list (pv 0) po_none (po_some (pv 3))) (pe_revL (pe_slice sl_list (pv 0) (po_some (pv 3)) (po_some (pe_op op_add (pv 3) pe_int))))) (pe_slice sl_list (pv 0) (po_some (pe_op op_add (pv 3) pe_int)) po_none)))) pss_nil)
      (pss_cons (ps_if (pt_cmpR op_eq (pv 4) pe_int (nomark _)) (pss_one (ps_ret (pe_slice sl_list (pv 0) po_none (po_some (pv 3))))) pss_nil)
      (pss_one (ps_ret (pv 0)))))))))), pure_law_bent h⟩


/-- behind an if: what follows is shown once, and lies behind a letter meanwhile -/
theorem ifjoinO {c : Bool} {σ : L2.St} {H : Hp} {s1 s2 : TS} {nx bk ct : L2.St → Hp → Prop} {rt : VK} (G : L2.St → Hp → Prop) (main : ∀ σ H, G σ H → nx σ H) (h : ∀ nx' : L2.St → Hp → Prop, (∀ σ H, G σ H → nx' σ H) → if c = true then s1 ⟨nx', rt, bk, ct⟩ σ H else s2 ⟨nx', rt, bk, ct⟩ σ H) : if c = true then s1 ⟨nx, rt, bk, ct⟩ σ H else s2 ⟨nx, rt, bk, ct⟩ σ H := h _ main
/-- signs of numbers below a bound, as words -/
theorem nums_rows (f : Nat → Int) (n : Nat) (h : ∀ i, 0 ≤ f i ∧ f i < 60) : ∃ us : List Wd, ((List.range n).filterMap fun i => some (V.str (mkS (nu (f i))))) = rowV us ∧ WsOk us ∧ tot us ≤ n * 31 := by
  refine ⟨(List.range n).map fun i => nu (f i), ?_, fun w hw => ?_, ?_⟩
  · rw [fm_map, rowV, List.map_map]; rfl
  · obtain ⟨i, _, rfl⟩ := List.mem_map.mp hw
    exact nu_ok (num_lt (h i).1 (h i).2 (by decide)).1
  · unfold tot
    rw [List.map_map]
    have := sum_le (l := (List.range n).map ((fun r : List Nat => r.length + 1) ∘ fun i => nu (f i))) (b := 31) fun x hx => by
      obtain ⟨i, _, rfl⟩ := List.mem_map.mp hx
      have := (num_small (num_lt (h i).1 (h i).2 (by decide)).1).2
      show (nu (f i)).length + 1 ≤ 31
      omega
    rw [List.length_map, List.length_range] at this
    exact this
theorem tot_repn (k : Nat) (X : List Wd) : tot (List.replicate k X).flatten = k * tot X := by
  induction k with
  | zero => simp [tot]
  | succ k ih => rw [List.replicate_succ, List.flatten_cons, tot_app, ih, Nat.succ_mul]; omega
theorem k_repR {H : Hp} {Q : VK} {p : Addr} {X : List Wd} {m : Int} (hp : H p = some (.lst (rowV X))) (h0 : 0 ≤ m) (h1 : m < 1000) (h2 : m.toNat * tot X ≤ 10000) (h : ∀ l H', H l = none → Same H H' → H' l = some (.lst (rowV (List.replicate m.toNat X).flatten)) → (WsOk X → WsOk (List.replicate m.toNat X).flatten) → tot (List.replicate m.toNat X).flatten = m.toNat * tot X → Q (.ref l) H') : rRep (.ref p) (.int m) H Q := by
  refine k_repN hp h0 (by omega) ?_ (fun l H' nl s e => h l H' nl s ?_ (fun ok w hw => ?_) (tot_repn _ _))
  · have := tot_len X
    rw [List.length_map]
    have : X.length * m.toNat ≤ tot X * m.toNat := Nat.mul_le_mul_right _ this
    rw [Nat.mul_comm (tot X)] at this
    omega
  · rw [e]
    show some (HO.lst _) = some (HO.lst (List.map _ _))
    rw [List.map_flatten, List.map_replicate]
  · obtain ⟨Y, hY, hw⟩ := List.mem_flatten.mp hw
    rw [(List.mem_replicate.mp hY).2] at hw
    exact ok w hw
def pr_law_drawn (K : PySem.W.Frag) (v0 : V) (H : Hp) (Q : VK) (_ : XK) : Prop := ∃ (a : Addr) (us : List Int), v0 = .ref a ∧ H a = some (.lst (us.map V.int)) ∧ Dr us ∧ us.length = 200 ∧ ∀ p ws H', Same H H' → H' p = some (.lst (rowV ws)) → WsOk ws → ws ≠ [] → tot ws ≤ 5000 → Q (.ref p) H'
def t_law_drawn (K : PySem.W.Frag) : TS :=
  (tSeq (tAsg (tCB (rListOf K) (tCons (tSl (rSlL K) (tVar 0) (tPart (tC (.int 40))) tNoPart) tNil)) (gName 1))
    (tSeq (tAsg (tLst (tCons (tCB rStrInt (tCons (tOp xMod (tOp (rIxL K) (tVar 0) (tC (.int 0))) (tC (.int 5))) tNil)) tNil)) (gName 2))
    (tSeq (tAsg (tOp rEq (tOp xMod (tOp (rIxL K) (tVar 0) (tC (.int 1))) (tC (.int 2))) (tC (.int 1))) (gName 3))
    (tSeq (tIfS (tB (tVar 3)) (tAsg (tOp rCat (tOp rCat (tVar 2) (tLst (tCons (tC (.str (Str.ofString "turn"))) tNil))) (tLc (iRng1 (tCons (tOp xMod (tOp (rIxL K) (tVar 0) (tC (.int 3))) (tC (.int 5))) tNil)) (gName 6) tYes (tCB rStrInt (tCons (tOp xMod (tOp xDiv (tOp (rIxL K) (tVar 0) (tC (.int 2))) (tOp xAdd (tC (.int 1)) (tOp xMul (tC (.int 3)) (tVar 6)))) (tC (.int 2))) tNil)) [6])) (gName 2)) tNext)
    (tSeq (tAsg (tOp rCat (tOp rCat (tOp rCat (tVar 2) (tLst (tCons (tC (.str (Str.ofString "hues"))) tNil))) (tLc (iRng1 (tCons (tOp xMod (tOp (rIxL K) (tVar 0) (tC (.int 5))) (tC (.int 5))) tNil)) (gName 6) tYes (tCB rStrInt (tCons (tOp xMod (tOp xDiv (tOp (rIxL K) (tVar 0) (tC (.int 4))) (tOp xAdd (tC (.int 1)) (tOp xMul (tC (.int 3)) (tVar 6)))) (tC (.int 6))) tNil)) [6])) (tLst (tCons (tC (.str (Str.ofString "by"))) tNil))) (gName 2))
    (tSeq (tAsg (tOp xMod (tOp (rIxL K) (tVar 0) (tC (.int 6))) (tC (.int 4))) (gName 4))
    (tSeq (tIfS (tTest (tOp rEq (tVar 4) (tC (.int 0)))) (tRet (tOp rCat (tVar 2) (tOp (rIxL K) (tLst (tCons (tLst (tCons (tC (.str (Str.ofString "none"))) tNil)) (tCons (tLst (tCons (tC (.str (Str.ofString "tie"))) (tCons (tC (.str (Str.ofString "3"))) tNil))) (tCons (tLst (tCons (tC (.str (Str.ofString "lot"))) (tCons (tC (.str (Str.ofString "2"))) (tCons (tC (.str (Str.ofString "0"))) (tCons (tC (.str (Str.ofString "1"))) (tCons (tC (.str (Str.ofString "2"))) tNil)))))) (tCons (tLst (tCons (tC (.str (Str.ofString "lot"))) (tCons (tC (.str (Str.ofString "4"))) tNil))) tNil))))) (tOp xMod (tOp (rIxL K) (tVar 0) (tC (.int 7))) (tC (.int 4)))))) tNext)
    (tSeq (tIfS (tTest (tOp rEq (tVar 4) (tC (.int 1)))) (tRet (tOp rCat (tOp rCat (tVar 2) (tLst (tCons (tC (.str (Str.ofString "turn"))) tNil))) (tCall (sp_law_drawn_turn K) [] E0 (tCons (tVar 1) (tCons (tC (.int 4)) tNil))))) tNext)
    (tSeq (tIfS (tAnd (tTest (tOp rEq (tVar 4) (tC (.int 2)))) (tTest (tOp rEq (tOp xMod (tOp (rIxL K) (tVar 0) (tC (.int 8))) (tC (.int 4))) (tC (.int 1))))) (tSeq (tAsg (tOp xAdd (tC (.int 39)) (tOp xMod (tOp (rIxL K) (tVar 0) (tC (.int 9))) (tC (.int 3)))) (gName 5))
    (tRet (tOp rCat (tOp rCat (tOp rCat (tVar 2) (tLst (tCons (tC (.str (Str.ofString "case"))) tNil))) (tOp rRep (tLst (tCons (tC (.str (Str.ofString "("))) (tCons (tC (.str (Str.ofString "0"))) tNil))) (tVar 5))) (tOp rRep (tLst (tCons (tC (.str (Str.ofString ")"))) tNil)) (tVar 5))))) tNext)
    (tRet (tOp rCat (tOp rCat (tVar 2) (tLst (tCons (tC (.str (Str.ofString "case"))) tNil))) (tCall (sp_law_drawn_case K) [] E0 (tCons (tVar 1) (tCons (tC (.int 4)) tNil))))))))))))))
theorem pure_law_drawn {v0 : V} {H : Hp} {Q : VK} {E : XK} (h : pr_law_drawn K v0 H Q E) : t_law_drawn K ⟨fun _ H' => Q .non H', Q, fun _ _ => False, fun _ _ => False⟩ [some v0, none, none, none, none, none, none] H := by
  obtain ⟨a, us, rfl, ea, dr, lu, q⟩ := h
  have get : ∀ i : Nat, i < 200 → ∃ x, us[i]? = some x ∧ 0 ≤ x ∧ x < 2147483629 := fun i hi => by
    have : i < us.length := by omega
    exact ⟨us[i], List.getElem?_eq_getElem this, dr _ (List.getElem_mem this)⟩
  obtain ⟨x0, g0, x0a, _⟩ := get 0 (by decide)
  obtain ⟨x1, g1, x1a, _⟩ := get 1 (by decide)
  obtain ⟨x2, g2, x2a, _⟩ := get 2 (by decide)
  obtain ⟨x3, g3, x3a, _⟩ := get 3 (by decide)
  obtain ⟨x4, g4, x4a, _⟩ := get 4 (by decide)
  obtain ⟨x5, g5, x5a, _⟩ := get 5 (by decide)
  obtain ⟨x6, g6, x6a, _⟩ := get 6 (by decide)
  obtain ⟨x7, g7, x7a, _⟩ := get 7 (by decide)
  obtain ⟨x8, g8, x8a, _⟩ := get 8 (by decide)
  obtain ⟨x9, g9, x9a, _⟩ := get 9 (by decide)
  clear get
  unfold t_law_drawn
  wtm_at "s"
  refine k_slL (sl ea) (fun p1 H1 n1 s1 e1 => ?_)
  rw [show cutV (us.map V.int) (some 40) none = (us.drop 40).map V.int from by rw [show (some (40 : Int)) = some ((40 : Nat) : Int) from rfl, cut_from, List.map_drop]] at e1
  wtm_at "s"
  refine k_listN (sl e1) (fun lf H2 nlf s2 e2 => ?_)
  have s02 := s1.trans s2
  have nH : H lf = none := s1.free nlf
  have ne : lf ≠ a := fun z => by rw [z, ea] at nH; cases nH
  wtm_at "s"
  refine k_ixN (i := 0) (sl (s02 _ _ ea)) g0 ?_
  wtm_at "s"
  obtain ⟨yn, ys⟩ := num_lt (y := x0 % 5) (m := 5) (by omega) (by omega) (by decide)
  refine k_strI ys ?_
  wtm_at "s"
  refine kL (by simp) (fun f0 H3 nf s3 e3 => ?_)
  have lw0 := (num_small yn).2
  have e3 : H3 f0 = some (.lst (rowV [nu (x0 % 5)])) := e3
  have okf : WsOk [nu (x0 % 5)] := .one (nu_ok yn)
  have tf : tot [nu (x0 % 5)] ≤ 31 := by rw [tot_one]; omega
  wtm_at "s"
  refine k_ixN (i := 1) (sl ((s02.trans s3) _ _ ea)) g1 ?_
  have s03 := s02.trans s3
  have eL3 := s3 _ _ e2
  clear e2 n1 e1
  wtm_at "s"
  refine ifjoinO (fun σ' G => Same H G ∧ G lf = some (.lst (List.map V.int (us.drop 40))) ∧ ∃ (fp : Addr) (ws : List Wd) (b : Bool), σ' = [some (.ref a), some (.ref lf), some (.ref fp), some (.bl b), none, none, none] ∧ G fp = some (.lst (rowV ws)) ∧ WsOk ws ∧ tot ws ≤ 1000 ∧ ws ≠ []) ?_ (fun nx' go => ?_)
  rotate_left
  · by_cases c : x1 % 2 = 1
    · rw [if_pos (by simpa using c)]
      wtm_at "s"
      refine kL (by simp) (fun q1 G1 nq1 t1 f1 => ?_)
      rw [rowlit] at f1
      refine k_catR (t1 _ _ e3) f1 (by rw [tot_one]; unfold ww; rw [sg_str, tot_one]; simp; omega) (fun q2 G2 nq2 t2 f2 => ?_)
      wtm_at "s"
      refine k_ixN (i := 3) (sl ((s03.trans (t1.trans t2)) _ _ ea)) g3 ?_
      wtm_at "s"
      refine lc_pureR (by omega) (fun i => some (V.str (mkS (nu (x2 / (1 + 3 * (0 + (i : Nat))) % 2))))) ?_ (fun D G3 nD t3 f3 => ?_)
      · intro i H' hi sm R R0 h1 h2
        wtm_at "s"
        refine k_ixN (i := 2) (sl ((s03.trans (t1.trans (t2.trans sm))) _ _ ea)) g2 ?_
        wtm_at "s"
        refine k_strI (num_lt (m := 2) (by omega) (by omega) (by decide)).2 ?_
        exact h1 _ rfl
      obtain ⟨vs, hv, okv, tv⟩ := nums_rows (fun i => x2 / (1 + 3 * (0 + (i : Nat))) % 2) (x3 % 5).toNat (fun i => ⟨by omega, by omega⟩)
      rw [hv] at f3
      have tt : tot [ww "turn"] = 5 := by rw [tot_one]; unfold ww; rw [sg_str]; rfl
      refine k_catR (t3 _ _ f2) f3 (by rw [tot_app, tt]; omega) (fun q4 G4 nq4 t4 f4 => ?_)
      wtm_at "s"
      have t14 := t1.trans (t2.trans (t3.trans t4))
      exact go _ _ ⟨s03.trans t14, t14 _ _ eL3, q4, _, _, rfl, f4, (okf.app (.one (ww_ok (by decide)))).app okv, by rw [tot_app, tot_app, tt]; omega, by simp⟩
    · rw [if_neg (by simpa using c)]
      wtm_at "s"
      exact go _ _ ⟨s03, eL3, f0, _, _, rfl, e3, okf, by omega, by simp⟩
  · clear s03 e3 okf tf nf s3 eL3 s02 s1 s2 ne lw0 yn ys
    rintro σ' G ⟨sG, eL, fp, ws0, b, rfl, ef, ok0, t0, ne0⟩
    wtm_at "s"
    refine kL (by simp) (fun q1 G1 nq1 t1 f1 => ?_)
    rw [rowlit] at f1
    have th : tot [ww "hues"] = 5 := by rw [tot_one]; unfold ww; rw [sg_str]; rfl
    have tb : tot [ww "by"] = 3 := by rw [tot_one]; unfold ww; rw [sg_str]; rfl
    refine k_catR (t1 _ _ ef) f1 (by omega) (fun q2 G2 nq2 t2 f2 => ?_)
    wtm_at "s"
    refine k_ixN (i := 5) (sl ((sG.trans (t1.trans t2)) _ _ ea)) g5 ?_
    wtm_at "s"
    refine lc_pureR (by omega) (fun i => some (V.str (mkS (nu (x4 / (1 + 3 * (0 + (i : Nat))) % 6))))) ?_ (fun D G3 nD t3 f3 => ?_)
    · intro i H' hi sm R R0 h1 h2
      wtm_at "s"
      refine k_ixN (i := 4) (sl ((sG.trans (t1.trans (t2.trans sm))) _ _ ea)) g4 ?_
      wtm_at "s"
      refine k_strI (num_lt (m := 6) (by omega) (by omega) (by decide)).2 ?_
      exact h1 _ rfl
    obtain ⟨vs, hv, okv, tv⟩ := nums_rows (fun i => x4 / (1 + 3 * (0 + (i : Nat))) % 6) (x5 % 5).toNat (fun i => ⟨by omega, by omega⟩)
    rw [hv] at f3
    refine k_catR (t3 _ _ f2) f3 (by rw [tot_app]; omega) (fun q4 G4 nq4 t4 f4 => ?_)
    wtm_at "s"
    refine kL (by simp) (fun q5 G5 nq5 t5 f5 => ?_)
    rw [rowlit] at f5
    refine k_catR (t5 _ _ f4) f5 (by rw [tot_app, tot_app]; omega) (fun q6 G6 nq6 t6 f6 => ?_)
    have t16 := t1.trans (t2.trans (t3.trans (t4.trans (t5.trans t6))))
    have okW : WsOk (ws0 ++ [ww "hues"] ++ vs ++ [ww "by"]) := ((ok0.app (.one (ww_ok (by decide)))).app okv).app (.one (ww_ok (by decide)))
    have tW : tot (ws0 ++ [ww "hues"] ++ vs ++ [ww "by"]) ≤ 1200 := by rw [tot_app, tot_app, tot_app]; omega
    have neW : ws0 ++ [ww "hues"] ++ vs ++ [ww "by"] ≠ [] := by simp
    generalize ws0 ++ [ww "hues"] ++ vs ++ [ww "by"] = W at f6 okW tW neW
    have s6 := sG.trans t16
    have eL6 := t16 _ _ eL
    have ea6 := s6 _ _ ea
    have tc : tot [ww "case"] = 5 := by rw [tot_one]; unfold ww; rw [sg_str]; rfl
    have tu : tot [ww "turn"] = 5 := by rw [tot_one]; unfold ww; rw [sg_str]; rfl
    have done : ∀ {X : List Wd} {p : Addr} {H' : Hp}, Same H H' → H' p = some (.lst (rowV (W ++ X))) → WsOk X → tot X ≤ 3000 → Q (.ref p) H' := fun {X p H'} s e ok t => q p _ H' s e (okW.app ok) (by simp [neW]) (by rw [tot_app]; omega)
    wtm_at "s"
    refine k_ixN (i := 6) (sl ea6) g6 ?_
    wtm_at "s"
    by_cases c0 : x6 % 4 = 0
    · rw [if_pos (by simpa using c0)]
      wtm_at "s"
      refine kL (by simp) (fun a1 A1 na1 u1 h1 => ?_)
      wtm_at "s"
      refine kL (by simp) (fun a2 A2 na2 u2 h2 => ?_)
      wtm_at "s"
      refine kL (by simp) (fun a3 A3 na3 u3 h3 => ?_)
      wtm_at "s"
      refine kL (by simp) (fun a4 A4 na4 u4 h4 => ?_)
      wtm_at "s"
      refine kL (by simp) (fun a5 A5 na5 u5 h5 => ?_)
      wtm_at "s"
      have u15 := u1.trans (u2.trans (u3.trans (u4.trans u5)))
      refine k_ixN (i := 7) (sl (u15 _ _ ea6)) g7 ?_
      wtm_at "s"
      have lit : ∀ {p : Addr} {X : List Wd} (i : Nat), [V.ref a1, V.ref a2, V.ref a3, V.ref a4][i]? = some (V.ref p) → x7 % 4 = (i : Nat) → A5 p = some (.lst (rowV X)) → WsOk X → tot X ≤ 100 → rIxL K (.ref a5) (.int (x7 % 4)) A5 fun y H2 => rCat (.ref q6) y H2 Q := fun {p X} i hi hx e ok t => by
        rw [hx]
        refine k_ixL (sl h5) (atI_nat hi) ?_
        exact k_catR (u15 _ _ f6) e (by omega) (fun p7 A7 n7 u7 h7 => done (s6.trans (u15.trans u7)) h7 ok (by omega))
      rcases (show x7 % 4 = 0 ∨ x7 % 4 = 1 ∨ x7 % 4 = 2 ∨ x7 % 4 = 3 by omega) with c | c | c | c
      · refine lit 0 rfl c (X := [ww "none"]) ?_ (.one (ww_ok (by decide))) ?_
        · rw [← rowlit]; exact (u2.trans (u3.trans (u4.trans u5))) _ _ h1
        · rw [tot_one]; unfold ww; rw [sg_str]; decide
      · refine lit 1 rfl c (X := [ww "tie", ww "3"]) ?_ (.cons (ww_ok (by decide)) (.one (ww_ok (by decide)))) ?_
        · have := (u3.trans (u4.trans u5)) _ _ h2
          rw [this]; simp only [rowV, List.map_cons, List.map_nil, mk_ww]
        · rw [tot_cons, tot_one]; unfold ww; rw [sg_str, sg_str]; decide
      · refine lit 2 rfl c (X := [ww "lot", ww "2", ww "0", ww "1", ww "2"]) ?_ (.cons (ww_ok (by decide)) (.cons (ww_ok (by decide)) (.cons (ww_ok (by decide)) (.cons (ww_ok (by decide)) (.one (ww_ok (by decide))))))) ?_
        · have := (u4.trans u5) _ _ h3
          rw [this]; simp only [rowV, List.map_cons, List.map_nil, mk_ww]
        · rw [tot_cons, tot_cons, tot_cons, tot_cons, tot_one]; unfold ww; rw [sg_str, sg_str, sg_str, sg_str]; decide
      · refine lit 3 rfl c (X := [ww "lot", ww "4"]) ?_ (.cons (ww_ok (by decide)) (.one (ww_ok (by decide)))) ?_
        · have := u5 _ _ h4
          rw [this]; simp only [rowV, List.map_cons, List.map_nil, mk_ww]
        · rw [tot_cons, tot_one]; unfold ww; rw [sg_str, sg_str]; decide
    rw [if_neg (by simpa using c0)]
    have ld : (us.drop 40).length = 160 := by rw [List.length_drop, lu]
    have drd : Dr (us.drop 40) := fun u hu => dr u (List.mem_of_mem_drop hu)
    have soh : ∀ {A A' : Hp}, Same G6 A → Same (hid [lf] A) (hid [lf] A') → Same H A' := fun {A A'} h1 h2 => same_of_hid (s6.trans h1) (fun x hx => by rw [List.mem_singleton.mp hx]; exact nH) h2
    wtm_at "s"
    by_cases c1 : x6 % 4 = 1
    · rw [if_pos (by simpa using c1)]
      wtm_at "s"
      refine kL (by simp) (fun a1 A1 na1 u1 h1 => ?_)
      rw [rowlit] at h1
      refine k_catR (u1 _ _ f6) h1 (by omega) (fun a2 A2 na2 u2 h2 => ?_)
      wtm_at "s"
      refine ⟨_, _, rfl, 4, by decide, lf, us.drop 40, 4, rfl, (u1.trans u2) _ _ eL6, drd, rfl, by decide, by decide, by rw [ld]; decide, by rw [ld]; decide, fun p ws ns' A3 s3 e3 dk l1 l2 np ep okw tw => ?_⟩
      have h23 := keeps s3 h2 (fun z => by rw [List.mem_singleton.mp z, u1 _ _ eL6] at na2; cases na2)
      have tw : tot ws ≤ 1984 := tw
      refine k_catR h23 ep (by rw [tot_app, tu]; omega) (fun p4 A4 n4 u4 h4 => ?_)
      rw [List.append_assoc] at h4
      exact done ((soh (u1.trans u2) s3).trans u4) h4 (.cons (ww_ok (by decide)) okw) (by show tot ([ww "turn"] ++ ws) ≤ 3000; rw [tot_app, tu]; omega)
    rw [if_neg (by simpa using c1)]
    wtm_at "s"
    have case : ∀ G7, Same G6 G7 → tRet (tOp rCat (tOp rCat (tVar 2) (tLst (tCons (tC (.str (Str.ofString "case"))) tNil))) (tCall (sp_law_drawn_case K) [] E0 (tCons (tVar 1) (tCons (tC (.int 4)) tNil)))) ⟨fun _ H' => Q .non H', Q, fun _ _ => False, fun _ _ => False⟩ [some (V.ref a), some (V.ref lf), some (V.ref q6), some (V.bl b), some (V.int (x6 % 4)), none, none] G7 := fun G7 v7 => by
      wtm_at "s"
      refine kL (by simp) (fun a1 A1 na1 u1 h1 => ?_)
      rw [rowlit] at h1
      refine k_catR ((v7.trans u1) _ _ f6) h1 (by omega) (fun a2 A2 na2 u2 h2 => ?_)
      wtm_at "s"
      refine ⟨_, _, rfl, 4, by decide, lf, us.drop 40, 4, rfl, (v7.trans (u1.trans u2)) _ _ eL6, drd, rfl, by decide, by decide, by rw [ld]; decide, by rw [ld]; decide, fun p ws ns' A3 s3 e3 dk l1 l2 np ep okw tw => ?_⟩
      have h23 := keeps s3 h2 (fun z => by rw [List.mem_singleton.mp z, (v7.trans u1) _ _ eL6] at na2; cases na2)
      have tw : tot ws ≤ 1762 := tw
      refine k_catR h23 ep (by rw [tot_app, tc]; omega) (fun p4 A4 n4 u4 h4 => ?_)
      rw [List.append_assoc] at h4
      exact done ((soh (v7.trans (u1.trans u2)) s3).trans u4) h4 (.cons (ww_ok (by decide)) okw) (by show tot ([ww "case"] ++ ws) ≤ 3000; rw [tot_app, tc]; omega)
    by_cases c2 : x6 % 4 = 2
    rotate_left
    · rw [if_neg (by simpa using c2)]
      exact iteF (k_next (case G6 (Same.refl _)))
    rw [if_pos (by simpa using c2)]
    wtm_at "s"
    refine k_ixN (i := 8) (sl ea6) g8 ?_
    wtm_at "s"
    by_cases c3 : x8 % 4 = 1
    rotate_left
    · rw [if_neg (by simpa using c3)]
      exact k_next (case G6 (Same.refl _))
    rw [if_pos (by simpa using c3)]
    wtm_at "s"
    refine k_ixN (i := 9) (sl ea6) g9 ?_
    wtm_at "s"
    refine kL (by simp) (fun a1 A1 na1 u1 h1 => ?_)
    rw [rowlit] at h1
    refine k_catR (u1 _ _ f6) h1 (by omega) (fun a2 A2 na2 u2 h2 => ?_)
    wtm_at "s"
    refine kL (by simp) (fun a3 A3 na3 u3 h3 => ?_)
    have r2 : [V.str (Str.ofString "("), V.str (Str.ofString "0")] = rowV [ww "(", ww "0"] := by simp only [rowV, List.map_cons, List.map_nil, mk_ww]
    rw [r2] at h3
    have m9 : 39 ≤ 39 + x9 % 3 ∧ 39 + x9 % 3 ≤ 41 := by omega
    generalize 39 + x9 % 3 = m at m9 ⊢
    have tO : tot [ww "(", ww "0"] = 4 := by rw [tot_cons, tot_one]; unfold ww; rw [sg_str, sg_str]; rfl
    have tC' : tot [ww ")"] = 2 := by rw [tot_one]; unfold ww; rw [sg_str]; rfl
    wtm_at "s"
    refine k_repR h3 (by omega) (by omega) (by rw [tO]; omega) (fun a4 A4 na4 u4 h4 okr4 tr4 => ?_)
    rw [tO] at tr4
    refine k_catR ((u3.trans u4) _ _ h2) h4 (by rw [tot_app, tc, tr4]; omega) (fun a5 A5 na5 u5 h5 => ?_)
    wtm_at "s"
    refine kL (by simp) (fun a6 A6 na6 u6 h6 => ?_)
    rw [rowlit] at h6
    wtm_at "s"
    refine k_repR h6 (by omega) (by omega) (by rw [tC']; omega) (fun a7 A7 na7 u7 h7 okr7 tr7 => ?_)
    rw [tC'] at tr7
    refine k_catR ((u6.trans u7) _ _ h5) h7 (by rw [tot_app, tot_app, tc, tr4, tr7]; omega) (fun a8 A8 na8 u8 h8 => ?_)
    rw [List.append_assoc, List.append_assoc] at h8
    refine done (s6.trans (u1.trans (u2.trans (u3.trans (u4.trans (u5.trans (u6.trans (u7.trans u8)))))))) h8 (.cons (ww_ok (by decide)) ((okr4 (.cons (ww_ok (by decide)) (.one (ww_ok (by decide))))).app (okr7 (.one (ww_ok (by decide)))))) ?_
    show tot ([ww "case"] ++ (_ ++ _)) ≤ 3000
    rw [tot_app, tot_app, tc, tr4, tr7]; omega
abbrev sp_law_drawn (K : PySem.W.Frag) : Sp := fun vs H Q E => ∃ v0, vs = [v0] ∧ pr_law_drawn K v0 H Q E
theorem ok_law_drawn (T : Txt K mg A) : FnOk P w K mg base CX0 8 A.a_law_drawn A.d_law_drawn ["_law_draws_here"] (sp_law_drawn K) := by
  refine T.F_law_drawn.ok sc_law_drawn (fun vs H Q E h => by obtain ⟨v0, rfl, _⟩ := h; rfl) (fun cdv A0 outer s H vs Q E hr h => ?_)
  obtain ⟨v0, rfl, h⟩ := h
  exact ⟨t_law_drawn K, (pss_cons (ps_set (i := 1) sc_law_drawn.nd rfl (Or.inl rfl) (pe_callTy q_listOf (by rfl) T.z_list (by decide +kernel) (pa_cons (pe_slice sl_list (pv 0) (po_some pe_int) po_none) pa_nil)))
      (pss_cons (ps_set (i := 2) sc_law_drawn.nd rfl (Or.inl rfl) (pe_lst (pa_cons (pe_callTy q_strI (by rfl) T.z_str (by decide +kernel) (pa_cons (pe_op op_mod (pe_ix ix_list (pv 0) pe_int (fun _ _ => rfl)) pe_int) pa_nil)) pa_nil)))
      (pss_cons (ps_set (i := 3) sc_law_drawn.nd rfl (Or.inl rfl) (pe_cmpR op_eq (pe_op op_mod (pe_ix ix_list (pv 0) pe_int (fun _ _ => rfl)) pe_int) pe_int (nomark _)))
      (pss_cons (ps_if (pt_val (pv 3)) (pss_one (ps_set (i := 2) sc_law_drawn.nd rfl (Or.inl rfl) (pe_op op_cat (pe_op op_cat (pv 2) (pe_lst (pa_cons pe_str pa_nil))) (pe_lc (own := [("_law_k", 6)]) (by rfl) sc_law_drawn.nd (pi_range1 (by rfl) T.z_range (pa_cons (pe_op op_mod (pe_ix ix_list (pv 0) pe_int (fun _ _ => rfl)) pe_int) pa_nil)) (blkOk_by (own := [("_law_k", 6)]) (N := ["_law_draws_here", "_law_left", "_law_found", "_law_turning", "_law_way", "_law_many", "_law_k"]) (sc := defScope s_law_drawn) (by decide +kernel)) (fun _ _ _ _ _ => (pg_name (i := 6) sc_law_drawn.nd rfl (Or.inl rfl))) (fun _ _ _ _ _ => pts_nil) (fun _ _ _ _ _ => (pe_callTy q_strI (by rfl) T.z_str (by decide +kernel) (pa_cons (pe_op op_mod (pe_op op_fdiv (pe_ix ix_list (pv 0) pe_int (fun _ _ => rfl)) (pe_op op_add pe_int (pe_op op_mul pe_int (pv 6)))) pe_int) pa_nil))))))) pss_nil)
      (pss_cons (ps_set (i := 2) sc_law_drawn.nd rfl (Or.inl rfl) (pe_op op_cat (pe_op op_cat (pe_op op_cat (pv 2) (pe_lst (pa_cons pe_str pa_nil))) (pe_lc (own := [("_law_k", 6)]) (by rfl) sc_law_drawn.nd (pi_range1 (by rfl) T.z_range (pa_cons (pe_op op_mod (pe_ix ix_list (pv 0) pe_int (fun _ _ => rfl)) pe_int) pa_nil)) (blkOk_by (own := [("_law_k", 6)]) (N := ["_law_draws_here", "_law_left", "_law_found", "_law_turning", "_law_way", "_law_many", "_law_k"]) (sc := defScope s_law_drawn) (by decide +kernel)) (fun _ _ _ _ _ => (pg_name (i := 6) sc_law_drawn.nd rfl (Or.inl rfl))) (fun _ _ _ _ _ => pts_nil) (fun _ _ _ _ _ => (pe_callTy q_strI (by rfl) T.z_str (by decide +kernel) (pa_cons (pe_op op_mod (pe_op op_fdiv (pe_ix ix_list (pv 0) pe_int (fun _ _ => rfl)) (pe_op op_add pe_int (pe_op op_mul pe_int (pv 6)))) pe_int) pa_nil))))) (pe_lst (pa_cons pe_str pa_nil))))
      (pss_cons (ps_set (i := 4) sc_law_drawn.nd rfl (Or.inl rfl) (pe_op op_mod (pe_ix ix_list (pv 0) pe_int (fun _ _ => rfl)) pe_int))
      (pss_cons (ps_if (pt_cmpR op_eq (pv 4) pe_int (nomark _)) (pss_one (ps_ret (pe_op op_cat (pv 2) (pe_ix ix_list (pe_lst (pa_cons (pe_lst (pa_cons pe_str pa_nil)) (pa_cons (pe_lst (pa_cons pe_str (pa_cons pe_str pa_nil))) (pa_cons (pe_lst (pa_cons pe_str (pa_cons pe_str (pa_cons pe_str (pa_cons pe_str (pa_cons pe_str pa_nil)))))) (pa_cons (pe_lst (pa_cons pe_str (pa_cons pe_str pa_nil))) pa_nil))))) (pe_op op_mod (pe_ix ix_list (pv 0) pe_int (fun _ _ => rfl)) pe_int) (fun _ _ => rfl))))) pss_nil)
      (pss_cons (ps_if (pt_cmpR op_eq (pv 4) pe_int (nomark _)) (pss_one (ps_ret (pe_op op_cat (pe_op op_cat (pv 2) (pe_lst (pa_cons pe_str pa_nil))) (pe_call (ok_law_drawn_turn T) (hr.mono (by decide)) (by rfl) T.g_law_drawn_turn T.F_law_drawn_turn.kp T.b_law_drawn_turn .nil pass0 (pa_cons (pv 1) (pa_cons pe_int pa_nil)))))) pss_nil)
      (pss_cons (ps_if (PW.pt (pw_and (pt_cmpR op_eq (pv 4) pe_int (nomark _)) (pw_and1 (pt_cmpR op_eq (pe_op op_mod (pe_ix ix_list (pv 0) pe_int (fun _ _ => rfl)) pe_int) pe_int (nomark _))))) (pss_cons (ps_set (i := 5) sc_law_drawn.nd rfl (Or.inl rfl) (pe_op op_add pe_int (pe_op op_mod (pe_ix ix_list (pv 0) pe_int (fun _ _ => rfl)) pe_int)))
      (pss_one (ps_ret (pe_op op_cat (pe_op op_cat (pe_op op_cat (pv 2) (pe_lst (pa_cons pe_str pa_nil))) (pe_op op_rep (pe_lst (pa_cons pe_str (pa_cons pe_str pa_nil))) (pv 5))) (pe_op op_rep (pe_lst (pa_cons pe_str pa_nil)) (pv 5)))))) pss_nil)
      (pss_one (ps_ret (pe_op op_cat (pe_op op_cat (pv 2) (pe_lst (pa_cons pe_str pa_nil))) (pe_call (ok_law_drawn_case T) (hr.mono (by decide)) (by rfl) T.g_law_drawn_case T.F_law_drawn_case.kp T.b_law_drawn_case .nil pass0 (pa_cons (pv 1) (pa_cons pe_int pa_nil))))))))))))))), pure_law_drawn h⟩


/-! ### deep things are equal -/
def rEqDD (K : PySem.W.Frag) : R2 := fun x y H Q => ∃ d e, Dp K H x d ∧ Dp K H y e ∧ d.canLay0 = true ∧ e.canLay0 = true ∧ d.depth ≤ 180 ∧ Q (.bl (PyData.eqv d e)) H
theorem u180 {k : Nat} {A : Around} (r : Room k A) : A.units + 180 < cLine := by have := r.un; omega
theorem op_eqDD {X : Cx} (hu : X.A.units + 180 < cLine) : OpR X (compareOp .Eq) (rEqDD X.K) := by
  intro pins s σ H x y v u Q I rx ry h
  obtain ⟨d, e, hd, he, sd, se, dd, q⟩ := h
  obtain ⟨as, r1⟩ := Dp.reads I d x v hd rx
  obtain ⟨bs, r2⟩ := Dp.reads I e y u he ry
  exact SeqAt.compareEq_reads r1 r2 sd se (by have := Nat.min_le_left d.depth e.depth; omega) ⟨.bl _, H, I, rfl, q⟩
theorem k_eqDD {K : PySem.W.Frag} {H : Hp} {Q : VK} {x y : V} {c d : PyData} {n m : Nat} (hx : Dp K H x c) (hy : Dp K H y d) (h1 : Sh n c) (h2 : Sh m d) (hn : n ≤ 180) (h : Q (.bl (PyData.eqv c d)) H) : rEqDD K x y H Q := ⟨c, d, hx, hy, h1.1, h2.1, Nat.le_trans h1.2 hn, h⟩
theorem k_eqDD1 {K : PySem.W.Frag} {H : Hp} {Q : VK} {x y : V} {c : PyData} {n : Nat} (hx : Dp K H x c) (hy : Dp K H y c) (h1 : Sh n c) (hn : n ≤ 180) (h : Q (.bl true) H) : rEqDD K x y H Q := k_eqDD hx hy h1 h1 hn (by rw [h1.refl]; exact h)
theorem sh_str (s : String) (h : PyData.strOk (Str.ofString s) = true) {n : Nat} : Sh n (.str (Str.ofString s)) := ⟨h, Nat.zero_le _⟩
mutual
theorem sh_dC : ∀ (t : Th) (n : Nat), thD t ≤ n → Sh (2 * n + 1) (dC t)
  | .lf, n, _ => sh_tup fun x hx => nomatch hx
  | .ties a b, n, _ => sh_tup fun x hx => by
    simp only [List.mem_cons, List.not_mem_nil, or_false] at hx
    rcases hx with rfl | rfl | rfl
    · exact sh_str "ties" (by decide +kernel)
    · exact sh_int
    · exact sh_int
  | .node k cs, n, h => by
    have h : thDA cs + 1 ≤ n := h
    obtain ⟨n, rfl⟩ : ∃ n', n = n' + 1 := ⟨n - 1, by omega⟩
    show Sh (2 * n + 1 + 1 + 1) (.tuple [.int k, .list (dCA cs)])
    refine sh_two sh_int (sh_list fun x hx => ?_)
    exact sh_dCA cs n (by omega) x hx
theorem sh_dCA : ∀ (cs : List Th) (n : Nat), thDA cs ≤ n → ∀ x ∈ dCA cs, Sh (2 * n + 1) x
  | [], _, _, x, hx => nomatch hx
  | c :: cs, n, h, x, hx => by
    have h : max (thD c) (thDA cs) ≤ n := h
    rcases List.mem_cons.mp hx with rfl | hx
    · exact sh_dC c n (by omega)
    · exact sh_dCA cs n (by omega) x hx
end
mutual
theorem sh_dT : ∀ (t : Th) (n : Nat), thD t ≤ n → Sh (n + 1) (dT t)
  | .lf, n, _ => sh_tup fun x hx => nomatch hx
  | .ties a b, n, _ => sh_tup fun x hx => by
    simp only [List.mem_cons, List.not_mem_nil, or_false] at hx
    rcases hx with rfl | rfl | rfl
    · exact sh_str "ties" (by decide +kernel)
    · exact sh_int
    · exact sh_int
  | .node k cs, n, h => by
    have h : thDA cs + 1 ≤ n := h
    obtain ⟨n, rfl⟩ : ∃ n', n = n' + 1 := ⟨n - 1, by omega⟩
    show Sh (n + 1 + 1) (.tuple (.int k :: dTA cs))
    refine sh_tup fun x hx => ?_
    rcases List.mem_cons.mp hx with rfl | hx
    · exact sh_int
    · exact sh_dTA cs n (by omega) x hx
theorem sh_dTA : ∀ (cs : List Th) (n : Nat), thDA cs ≤ n → ∀ x ∈ dTA cs, Sh (n + 1) x
  | [], _, _, x, hx => nomatch hx
  | c :: cs, n, h, x, hx => by
    have h : max (thD c) (thDA cs) ≤ n := h
    rcases List.mem_cons.mp hx with rfl | hx
    · exact sh_dT c n (by omega)
    · exact sh_dTA cs n (by omega) x hx
end
theorem sh_papR {ws r : List Wd} {D : PyData} (h : papR ws = some (D, r)) : Sh 84 D := by
  cases ws with
  | nil => cases h
  | cons w ws =>
    rw [papR] at h
    split at h
    · cases h
      exact sh_tup fun x hx => by rw [List.mem_singleton.mp hx]; exact sh_str "none" (by decide +kernel)
    split at h
    · cases e : rdG lfC 40 ws with
      | none => rw [e] at h; cases h
      | some p =>
        obtain ⟨t, r'⟩ := p
        rw [e] at h
        cases h
        have := (rdG_ok lf_c (fun _ _ _ h => lfC_is h) 40 _ _ _ (Nat.le_refl _) e).1
        exact (sh_two (sh_str "case" (by decide +kernel)) (sh_dC t 40 this)).mono (by decide)
    split at h
    · cases e : rdG lfT 40 ws with
      | none => rw [e] at h; cases h
      | some p =>
        obtain ⟨t, r'⟩ := p
        rw [e, isB_some] at h
        split at h
        · rename_i e2
          split at e2
          · cases e2
            cases h
            have := (rdG_ok lf_t (fun _ _ _ h => lfT_is h) 40 _ _ _ (Nat.le_refl _) e).1
            exact (sh_two (sh_str "turn" (by decide +kernel)) (sh_dT t 40 this)).mono (by decide)
          · cases e2
        · cases h
    split at h
    · cases e : numR ws with
      | none => rw [e] at h; cases h
      | some p =>
        obtain ⟨k, r'⟩ := p
        rw [e] at h
        cases h
        exact (sh_two (n := 1) (sh_str "tie" (by decide +kernel)) sh_int).mono (by decide)
    split at h
    · cases e : numR ws with
      | none => rw [e] at h; cases h
      | some p =>
        obtain ⟨k, r'⟩ := p
        rw [e] at h
        cases h
        refine (sh_tup (n := 2) fun x hx => ?_).mono (by decide)
        simp only [List.mem_cons, List.not_mem_nil, or_false] at hx
        rcases hx with rfl | rfl | rfl
        · exact sh_str "lot" (by decide +kernel)
        · exact sh_int
        · exact (sh_ints (n := 1) _)
    · cases h
theorem sh_huF {k : Int} {pre : List PyData} (hpre : ∀ d ∈ pre, Sh 84 d) {ws : List Wd} {D : PyData} (h : huF k pre ws = some D) : Sh 85 D := by
  cases ws with
  | nil => cases h
  | cons w r =>
    by_cases c : w = ww "hues"
    · rw [hu_some c] at h
      cases e : (runN r).2 with
      | nil => rw [e] at h; cases h
      | cons b r2 =>
        rw [e] at h
        by_cases c2 : b = ww "by"
        · rw [by_some c2] at h
          cases e2 : papF r2 with
          | none => rw [e2] at h; cases h
          | some d =>
            rw [e2] at h
            cases h
            have sd : Sh 84 d := by
              unfold papF at e2
              split at e2
              · cases e2; exact sh_papR (by assumption)
              · cases e2
            refine sh_tup fun x hx => ?_
            rcases List.mem_append.mp hx with hx | hx
            · rcases List.mem_cons.mp hx with rfl | hx
              · exact sh_int
              · exact hpre x hx
            · simp only [List.mem_cons, List.not_mem_nil, or_false] at hx
              rcases hx with rfl | rfl
              · exact (sh_ints (n := 1) _).mono (by decide)
              · exact sd
        · rw [by_none (by simpa using c2)] at h; cases h
    · rw [hu_none (by simpa using c)] at h; cases h
theorem sh_toldF {ws : List Wd} {D : PyData} (h : toldF ws = some D) : Sh 85 D := by
  cases ws with
  | nil => cases h
  | cons w r =>
    have h : (match numOf w with | none => none | some k => if r.head? = some (ww "turn") then huF k [dInts (runN r.tail).1] (runN r.tail).2 else huF k [] r) = some D := h
    cases en : numOf w with
    | none => rw [en] at h; cases h
    | some k =>
      rw [en] at h
      simp only at h
      split at h
      · exact sh_huF (fun d hd => by rw [List.mem_singleton.mp hd]; exact (sh_ints (n := 1) _).mono (by decide)) h
      · exact sh_huF (fun d hd => absurd hd List.not_mem_nil) h


def pr_law_draws (K : PySem.W.Frag) (v0 v1 : V) (H : Hp) (Q : VK) (_ : XK) : Prop := ∃ (a : Addr) (ns : List Int) (k : Nat), v0 = .ref a ∧ SqL K H a (ns.map V.int) ∧ ns.length ≤ 63 ∧ v1 = .int (k : Int) ∧ k ≤ 1000 ∧ ∀ p us H', H p = none → Same H H' → H' p = some (.lst (List.map V.int us)) → us.length = k → (∀ u ∈ us, 0 ≤ u ∧ u < 2147483629) → Q (.ref p) H'
def t_law_draws (K : PySem.W.Frag) : TS :=
  (tSeq (tAsg (tLst tNil) (gName 2))
    (tSeq (tFor (iRng1 (tCons (tVar 1) tNil)) (gName 3)
      (tSeq (tAsg (tC (.int 0)) (gName 4))
    (tSeq (tIfS (tTest (tOp xGt (tCB (rLenX K) (tCons (tVar 0) tNil)) (tC (.int 0)))) (tAsg (tOp (rIxL K) (tVar 0) (tOp xMod (tOp xDivW (tVar 3) (tC (.int 20))) (tCB rMin2 (tCons (tC (.int 63)) (tCons (tCB (rLenX K) (tCons (tVar 0) tNil)) tNil))))) (gName 4)) tNext)
    (tIfS (tTest (tOp xGe (tVar 4) (tOp xPow (tC (.int 10)) (tC (.int 18))))) (tSeq (tAsg (tOp xDivW (tVar 4) (tOp xPow (tC (.int 10)) (tC (.int 18)))) (gName 4))
    (tSeq (tFor (iRng1 (tCons (tOp xMod (tVar 3) (tC (.int 20))) tNil)) (gName 5)
      (tAsg (tOp xDivW (tVar 4) (tC (.int 5040))) (gName 4)))
    (tDrop (tBM K "list" rAppend (tVar 2) (tCons (tOp xMod (tVar 4) (tC (.int 5040))) tNil))))) (tSeq (tAsg (tOp xMod (tOp xAdd (tVar 4) (tOp xMul (tC (.int 48271)) (tOp xAdd (tVar 3) (tC (.int 1))))) (tC (.int 2147483629))) (gName 6))
    (tSeq (tAsg (tOp xMod (tOp xAdd (tOp xMul (tVar 6) (tVar 6)) (tVar 3)) (tC (.int 2147483629))) (gName 6))
    (tDrop (tBM K "list" rAppend (tVar 2) (tCons (tOp xMod (tOp xMul (tVar 6) (tVar 6)) (tC (.int 2147483587))) tNil)))))))))
    (tRet (tVar 2))))
theorem pure_law_draws {v0 v1 : V} {H : Hp} {Q : VK} {E : XK} (hh : pr_law_draws K v0 v1 H Q E) : t_law_draws K ⟨fun _ H' => Q .non H', Q, fun _ _ => False, fun _ _ => False⟩ [some v0, some v1, none, none, none, none, none] H := by
  obtain ⟨a, ns, k, rfl, ha, hz, rfl, hk, q⟩ := hh
  unfold t_law_draws
  wtm_at "s"
  refine kL (by simp) (fun fo H1 nf s1 e1 => ?_)
  wtm_at "s"
  rw [Int.toNat_natCast]
  refine forR (fun i σ' H' => Same H H' ∧ ∃ us k3 k4 k5 k6, σ' = [some (.ref a), some (.int (k : Int)), some (.ref fo), k3, k4, k5, k6] ∧ H' fo = some (.lst (List.map V.int us)) ∧ us.length = i ∧ ∀ u ∈ us, 0 ≤ u ∧ u < 2147483629) ⟨s1, [], _, _, _, _, rfl, e1, rfl, by simp⟩ ?_ ?_
  · rintro i σ' H2 hi ⟨s2, us, k3, k4, k5, k6, rfl, e2, lu, ok⟩
    have ha2 := s2.seq ha
    have fin : ∀ (x : Int) (l4 l5 l6 : Option V), 0 ≤ x → x < 2147483629 → Same H (upd H2 fo (.lst (List.map V.int us ++ [.int x]))) ∧ ∃ vs k3 k4 k5 k6, [some (.ref a), some (.int (k : Int)), some (.ref fo), some (.int (0 + (i : Nat))), l4, l5, l6] = [some (.ref a), some (.int (k : Int)), some (.ref fo), k3, k4, k5, k6] ∧ (upd H2 fo (.lst (List.map V.int us ++ [.int x]))) fo = some (.lst (List.map V.int vs)) ∧ vs.length = i + 1 ∧ ∀ u ∈ vs, 0 ≤ u ∧ u < 2147483629 := fun x l4 l5 l6 x0 x1 => by
      refine ⟨same_mut s2 nf, us ++ [x], _, _, _, _, rfl, ?_, by simp [lu], fun u hu => ?_⟩
      · rw [upd_same, List.map_append]; rfl
      · rcases List.mem_append.mp hu with hu | hu
        · exact ok u hu
        · rw [List.mem_singleton.mp hu]; exact ⟨x0, x1⟩
    refine k_gname (k_seq (k_asg (k_c (k_gname (seqO (fun σ' H' => ∃ cell : Int, σ' = [some (.ref a), some (.int (k : Int)), some (.ref fo), some (.int (0 + (i : Nat))), some (.int cell), k5, k6] ∧ H2 = H') ?_ (fun nx' go' => ?_))))))
    · rintro _ _ ⟨cell, rfl, rfl⟩
      wtm_at "s"
      refine k_it (fun c => ?_) (fun c => ?_)
      · wtm_at "s"
        refine k_divW (wide_div (by decide) (b := 100) (by decide) (by decide) (by decide)) ?_
        wtm_at "s"
        refine forR (fun j σ' H' => H2 = H' ∧ ∃ (c : Int) (k5 : Option V), σ' = [some (.ref a), some (.int (k : Int)), some (.ref fo), some (.int (0 + (i : Nat))), some (.int c), k5, k6]) ⟨rfl, _, _, rfl⟩ ?_ ?_
        · rintro j σ' _ hj ⟨rfl, c, l5, rfl⟩
          wtm_at "s"
          refine k_divW (wide_div (by decide) (b := 100) (by decide) (by decide) (by decide)) ?_
          wtm_at "s"
          exact ⟨rfl, _, _, rfl⟩
        · rintro σ' _ ⟨rfl, c, l5, rfl⟩
          wtm_at "s"
          refine k_tyL (sl e2) ?_
          wtm_at "s"
          refine k_append e2 (by rw [List.length_map]; omega) ?_
          exact fin _ _ _ _ (Int.emod_nonneg _ (show (5040 : Int) ≠ 0 by decide)) (by have := Int.emod_lt_of_pos c (show (0 : Int) < 5040 by decide); omega)
      · wtm_at "s"
        refine k_tyL (sl e2) ?_
        wtm_at "s"
        refine k_append e2 (by rw [List.length_map]; omega) ?_
        refine fin _ _ _ _ (Int.emod_nonneg _ (show (2147483587 : Int) ≠ 0 by decide)) ?_
        have := Int.emod_lt_of_pos ((((cell + 48271 * (0 + (i : Nat) + 1)) % 2147483629 * ((cell + 48271 * (0 + (i : Nat) + 1)) % 2147483629) + (0 + (i : Nat))) % 2147483629) * (((cell + 48271 * (0 + (i : Nat) + 1)) % 2147483629 * ((cell + 48271 * (0 + (i : Nat) + 1)) % 2147483629) + (0 + (i : Nat))) % 2147483629)) (show (0 : Int) < 2147483587 by decide)
        omega
    · wtm_at "s"
      refine k_it (fun c => ?_) (fun c => ?_)
      · wtm_at "s"
        refine k_divW (wide_div (by decide) (b := 100) (by decide) (by decide) (by decide)) ?_
        wtm_at "s"
        generalize hm : (if (ns.length : Int) < 63 then (ns.length : Int) else 63) = m
        have hm1 : 0 < m ∧ m ≤ ns.length := by rw [← hm]; split <;> omega
        have g0 := Int.emod_nonneg ((0 + (i : Nat) : Int) / 20) (show m ≠ 0 by omega)
        have g1 := Int.emod_lt_of_pos ((0 + (i : Nat) : Int) / 20) hm1.1
        wtm_at "s"
        refine k_ixI ha2 g0 (by omega) ?_
        wtm_at "s"
        exact go' _ _ ⟨_, rfl, rfl⟩
      · wtm_at "s"
        exact go' _ _ ⟨_, rfl, rfl⟩
  · rintro σ' H2 ⟨s2, us, k3, k4, k5, k6, rfl, e2, lu, ok⟩
    wtm_at "s"
    exact q fo us H2 nf s2 e2 lu ok
abbrev sp_law_draws (K : PySem.W.Frag) : Sp := fun vs H Q E => ∃ v0 v1, vs = [v0, v1] ∧ pr_law_draws K v0 v1 H Q E
theorem ok_law_draws (T : Txt K mg A) : FnOk P w K mg base CX0 1 A.a_law_draws A.d_law_draws ["_law_script", "_law_many"] (sp_law_draws K) := by
  refine T.F_law_draws.ok sc_law_draws (fun vs H Q E h => by obtain ⟨v0, v1, rfl, _⟩ := h; rfl) (fun cdv A0 outer s H vs Q E hr h => ?_)
  obtain ⟨v0, v1, rfl, h⟩ := h
  exact ⟨t_law_draws K, (pss_cons (ps_set (i := 2) sc_law_draws.nd rfl (Or.inl rfl) (pe_lst pa_nil))
      (pss_cons (ps_for PassesOwn.never rfl (pi_range1 (by rfl) T.z_range (pa_cons (pv 1) pa_nil)) (pg_name (i := 3) sc_law_draws.nd rfl (Or.inl rfl))
      (pss_cons (ps_set (i := 4) sc_law_draws.nd rfl (Or.inl rfl) pe_int)
      (pss_cons (ps_if (pt_cmpR op_gt (pe_callB q_len (by rfl) T.z_len (by decide +kernel) (pa_cons (pv 0) pa_nil)) pe_int (nomark _)) (pss_one (ps_set (i := 4) sc_law_draws.nd rfl (Or.inl rfl) (pe_ix ix_list (pv 0) (pe_op op_mod (pe_op op_fdivW (pv 3) pe_int) (pe_callB (q_min2 (by rfl)) (by rfl) T.z_min (by decide +kernel) (pa_cons pe_int (pa_cons (pe_callB q_len (by rfl) T.z_len (by decide +kernel) (pa_cons (pv 0) pa_nil)) pa_nil)))) (fun _ _ => rfl)))) pss_nil)
      (pss_one (ps_if (pt_cmpR op_ge (pv 4) (pe_op op_pow pe_int pe_int) (nomark _)) (pss_cons (ps_set (i := 4) sc_law_draws.nd rfl (Or.inl rfl) (pe_op op_fdivW (pv 4) (pe_op op_pow pe_int pe_int)))
      (pss_cons (ps_for PassesOwn.never rfl (pi_range1 (by rfl) T.z_range (pa_cons (pe_op op_mod (pv 3) pe_int) pa_nil)) (pg_name (i := 5) sc_law_draws.nd rfl (Or.inl rfl))
      (pss_one (ps_set (i := 4) sc_law_draws.nd rfl (Or.inl rfl) (pe_op op_fdivW (pv 4) pe_int))))
      (pss_one (ps_expr (pe_bm PySem.F.plainAttrs_list PySem.F.slot_list_append PySem.F.type_list_append mt_append (pv 2) (pa_cons (pe_op op_mod (pv 4) pe_int) pa_nil)))))) (pss_cons (ps_set (i := 6) sc_law_draws.nd rfl (Or.inl rfl) (pe_op op_mod (pe_op op_add (pv 4) (pe_op op_mul pe_int (pe_op op_add (pv 3) pe_int))) pe_int))
      (pss_cons (ps_set (i := 6) sc_law_draws.nd rfl (Or.inl rfl) (pe_op op_mod (pe_op op_add (pe_op op_mul (pv 6) (pv 6)) (pv 3)) pe_int))
      (pss_one (ps_expr (pe_bm PySem.F.plainAttrs_list PySem.F.slot_list_append PySem.F.type_list_append mt_append (pv 2) (pa_cons (pe_op op_mod (pe_op op_mul (pv 6) (pv 6)) pe_int) pa_nil)))))))))))
      (pss_one (ps_ret (pv 2))))), pure_law_draws h⟩


def sp_law (K : PySem.W.Frag) : Sp := fun vs H Q _ => ∃ (a : Addr) (ns : List Int), vs = [.ref a] ∧ SqL K H a (ns.map V.int) ∧ ns.length ≤ 63 ∧ ∀ H', Q (.bl true) H'
theorem kit_none {K : PySem.W.Frag} {D C : Addr} (h : PySem.W.kitOne K (.ref D) (.ref C) = some false) : PySem.W.kitOne K (.type "NoneType") (.ref C) = some false := by
  unfold PySem.W.kitOne at h
  by_cases c : (Value.ref D == Value.ref C) = true
  · rw [if_pos c] at h
    cases h
  rw [if_neg c] at h
  unfold PySem.W.kitOne
  rw [if_neg (by intro z; cases z)]
  have h' : (if ((PySem.W.clsIn K C).isSome && PySem.W.typeIn K (.ref C) == some (.type "type")) = true then PySem.W.subIn K (.ref D) (.ref C) else none) = some false := h
  show (if ((PySem.W.clsIn K C).isSome && PySem.W.typeIn K (.ref C) == some (.type "type")) = true then PySem.W.subIn K (.type "NoneType") (.ref C) else none) = some false
  by_cases c2 : ((PySem.W.clsIn K C).isSome && PySem.W.typeIn K (.ref C) == some (.type "type")) = true
  · rw [if_pos c2]
    have e : fastBuiltinMro "NoneType" = some [.type "NoneType", .type "object"] := by decide +kernel
    show (fastBuiltinMro "NoneType").map (·.contains (.ref C)) = some false
    rw [e]
    first
      | rfl
      | simp
  · rw [if_neg c2] at h'
    cases h'
theorem kept_same {H H' : Hp} {a D : Addr} (k : KeptAt H a D) (s : Same H H') : KeptAt H' a D := by
  obtain ⟨d, e, h⟩ := k
  refine ⟨d, s _ _ e, ?_⟩
  rcases h with h | ⟨dd, fs, h1, h2⟩
  · exact .inl h
  · exact .inr ⟨dd, fs, h1, s _ _ h2⟩
theorem kitAny_none {K : PySem.W.Frag} {t : Value} : ∀ {us : List Value}, (∀ u ∈ us, PySem.W.kitOne K t u = some false) → PySem.W.kitAny K t us = some false
  | [], _ => rfl
  | u :: us, h => by
    show (match PySem.W.kitOne K t u with | some true => some true | some false => PySem.W.kitAny K t us | none => none) = some false
    rw [h u List.mem_cons_self]
    exact kitAny_none fun v hv => h v (List.mem_cons_of_mem _ hv)
theorem k_joinB {K : PySem.W.Frag} {H : Hp} {Q : VK} {p : Addr} {rs : List Wd} (hp : SqL K H p (rowV rs)) (hz : tot rs ≤ 19000) (h : Q (.str (mkS (TL.joinL [32] rs))) H) : rJoin K (.str (Str.ofString " ")) [.ref p] H Q := by
  have e : rowV rs = (rs.map mkS).map V.str := by simp [rowV]
  rw [e] at hp
  have l1 : (Str.ofString " ").length = 1 := by rw [len_sg, sg_bl32]; rfl
  refine k_join hp ?_ ?_
  · rw [l1, List.length_map, Nat.mul_one, List.map_map]
    have : (rs.map ((·.length) ∘ mkS)).sum + rs.length = tot rs := by
      clear e hp h
      induction rs with
      | nil => rfl
      | cons a t ih =>
        have e : tot (a :: t) = a.length + 1 + tot t := by simp [tot]
        have e2 : ((·.length) ∘ mkS) a = a.length := mk_len a
        rw [List.map_cons, List.sum_cons, List.length_cons, e2, e]
        have := ih (by omega)
        omega
    omega
  · rw [sg_bl32, List.map_map]
    have e2 : rs.map (sg ∘ mkS) = rs := by simp [Function.comp_def, sg_mkS]
    rw [e2]; exact h
/-- words of up to forty signs -/
def Sh40 (v : V) : Prop := ∃ w : Wd, v = .str (mkS w) ∧ Wok w ∧ w.length ≤ 40
theorem s40 (s : String) (h : Wok (ww s)) (hl : s.toList.length ≤ 40) : Sh40 (.str (Str.ofString s)) := ⟨ww s, by rw [mk_ww], h, by unfold ww; rw [sg_str, List.length_map]; exact hl⟩
theorem nilD {P : V → Prop} : ∀ x ∈ ([] : List V), P x := fun x h => nomatch h
theorem allD {P : V → Prop} {a : V} {r : List V} (h : P a) (t : ∀ x ∈ r, P x) : ∀ x ∈ a :: r, P x := fun x hx => by
  rcases List.mem_cons.mp hx with rfl | hx
  · exact h
  · exact t x hx
theorem ones40 {K : PySem.W.Frag} {H : Hp} {Q : VK} {n : Int} (n2 : 2 ≤ n) (n3 : n ≤ 40) (h : ∀ v, Sh40 v → Q v H) : xMulS (.str (Str.ofString "1")) (.int n) H Q := by
  have e1 : sg (Str.ofString "1") = [49] := by rw [sg_str]; rfl
  refine k_mulS (K := K) n2 (by omega) (by rw [e1]; decide) (by rw [e1]; decide) ?_
  rw [e1]
  refine h _ ⟨_, rfl, fun c hc => ?_, ?_⟩
  · obtain ⟨l, hl, hc⟩ := List.mem_flatten.mp hc
    rw [(List.mem_replicate.mp hl).2, List.mem_singleton] at hc
    subst hc; decide
  · rw [List.length_flatten, List.map_replicate, List.sum_replicate_nat]; simp; omega
def t_law (K : PySem.W.Frag) (A : Ad) : TS :=
  (tSeq (tAsg (tCall (sp_law_draws K) [] E0 (tCons (tVar 0) (tCons (tC (.int 200)) tNil))) (gName 1))
    (tSeq (tAsg (tCall (sp_law_drawn K) [] E0 (tCons (tVar 1) tNil)) (gName 2))
    (tSeq (tAsg (tLst (tCons (tC (.str (Str.ofString ""))) (tCons (tC (.str (Str.ofString "0"))) (tCons (tC (.str (Str.ofString "7"))) (tCons (tC (.str (Str.ofString "03"))) (tCons (tOp xMulS (tC (.str (Str.ofString "1"))) (tC (.int 30))) (tCons (tOp xMulS (tC (.str (Str.ofString "1"))) (tC (.int 31))) (tCons (tC (.str (Str.ofString "-1"))) (tCons (tC (.str (Str.ofString "("))) (tCons (tC (.str (Str.ofString ")"))) (tCons (tC (.str (Str.ofString "."))) (tCons (tC (.str (Str.ofString "="))) tNil)))))))))))) (gName 3))
    (tSeq (tAsg (tOp rCat (tVar 3) (tLst (tCons (tC (.str (Str.ofString "hues"))) (tCons (tC (.str (Str.ofString "by"))) (tCons (tC (.str (Str.ofString "turn"))) (tCons (tC (.str (Str.ofString "case"))) (tCons (tC (.str (Str.ofString "none"))) (tCons (tC (.str (Str.ofString "tie"))) tNil)))))))) (gName 3))
    (tSeq (tFor (iRng1 (tCons (tC (.int 2)) tNil)) (gName 4)
      (tSeq (tAsg (tCall (sp_law_bent K) [] E0 (tCons (tVar 2) (tCons (tOp (rIxL K) (tVar 1) (tOp xAdd (tC (.int 10)) (tVar 4))) (tCons (tOp (rIxL K) (tVar 3) (tOp xMod (tOp (rIxL K) (tVar 1) (tOp xAdd (tC (.int 12)) (tVar 4))) (tCB (rLenX K) (tCons (tVar 3) tNil)))) tNil)))) (gName 2))
    (tIfS (tTest (tOp (rEqDD K) (tVar 2) (tLst tNil))) (tAsg (tLst (tCons (tC (.str (Str.ofString ""))) tNil)) (gName 2)) tNext)))
    (tSeq (tAsg (tCall (sp_law_told K) [] E0 (tCons (tVar 2) tNil)) (gName 5))
    (tSeq (tAsg (tC .non) (gName 6))
    (tSeq (tAsg (tC .non) (gName 7))
    (tSeq (tTryK K (.ref A.c_TieError) 8 6 fun W => (tAsg (tCallS (sp_told_of K A) (WE W) (tCons (tM1 (rJoin K) (tC (.str (Str.ofString " "))) (tVar 2)) tNil)) (gName 7)))
    (tSeq (tIfS (tB (tCB (rIsA K) (tCons (tVar 6) (tCons (tTup (tCons (tC (.ref A.c_NoHues)) (tCons (tC (.ref A.c_NoName)) (tCons (tC (.ref A.c_NoNumber)) (tCons (tC (.ref A.c_NoRow)) (tCons (tC (.ref A.c_NoWay)) tNil)))))) tNil)))) (tRet (tC (.bl false))) tNext)
    (tSeq (tIfS (tAnd (tTest (tOp xIsN (tVar 5) (tC .non))) (tOr (tB (tCB (rIsA K) (tCons (tVar 6) (tCons (tC (.ref A.c_NoForm)) tNil)))) (tNot (tB (tCB (rIsA K) (tCons (tVar 6) (tCons (tC (.ty "ValueError")) tNil))))))) (tRet (tC (.bl false))) tNext)
    (tSeq (tIfS (tTest (tOp xIsN (tVar 5) (tC .non))) (tRet (tAndV (tCB (rIsA K) (tCons (tVar 6) (tCons (tC (.ref A.c_NoText)) tNil))) (tOp (rEqDD K) (tXat K (Str.ofString "row") (tVar 6)) (tC (.int 0))))) tNext)
    (tRet (tOp (rEqDD K) (tVar 7) (tVar 5)))))))))))))))
theorem pure_law (T : Txt K mg A) {v0 : V} {H : Hp} {Q : VK} (h : ∃ (a : Addr) (ns : List Int), v0 = .ref a ∧ SqL K H a (ns.map V.int) ∧ ns.length ≤ 63 ∧ ∀ H', Q (.bl true) H') : t_law K A ⟨fun _ H' => Q .non H', Q, fun _ _ => False, fun _ _ => False⟩ [some v0, none, none, none, none, none, none, none, none] H := by
  obtain ⟨a, ns, rfl, ha, hz, q⟩ := h
  have o0 : Wok (ww "") := ww_ok (by decide)
  unfold t_law
  wtm_at "s"
  refine ⟨_, _, rfl, a, ns, 200, rfl, ha, hz, rfl, by decide, fun dp us H1 ndp s1 e1 lu dr => ?_⟩
  wtm_at "s"
  refine ⟨_, rfl, dp, us, rfl, e1, dr, lu, fun wp ws H2 s2 e2 ok2 ne2 t2 => ?_⟩
  wtm_at "s"
  refine ones40 (K := K) (by decide) (by decide) (fun v1 w1 => ?_)
  wtm_at "s"
  refine ones40 (K := K) (by decide) (by decide) (fun v2 w2 => ?_)
  wtm_at "s"
  refine kL (by simp) (fun b1 H3 nb1 s3 e3 => ?_)
  wtm_at "s"
  refine kL (by simp) (fun b2 H4 nb2 s4 e4 => ?_)
  refine k_catN (s4 _ _ e3) e4 (by simp) (fun st H5 nst s5 e5 => ?_)
  obtain ⟨xs, hxs, lxs, all⟩ : ∃ xs : List V, H5 st = some (.lst xs) ∧ xs.length = 17 ∧ ∀ x ∈ xs, Sh40 x := ⟨_, e5, rfl, allD (s40 "" o0 (by decide)) (allD (s40 "0" (ww_ok (by decide)) (by decide)) (allD (s40 "7" (ww_ok (by decide)) (by decide)) (allD (s40 "03" (ww_ok (by decide)) (by decide)) (allD w1 (allD w2 (allD (s40 "-1" (ww_ok (by decide)) (by decide)) (allD (s40 "(" (ww_ok (by decide)) (by decide)) (allD (s40 ")" (ww_ok (by decide)) (by decide)) (allD (s40 "." (ww_ok (by decide)) (by decide)) (allD (s40 "=" (ww_ok (by decide)) (by decide)) (allD (s40 "hues" (ww_ok (by decide)) (by decide)) (allD (s40 "by" (ww_ok (by decide)) (by decide)) (allD (s40 "turn" (ww_ok (by decide)) (by decide)) (allD (s40 "case" (ww_ok (by decide)) (by decide)) (allD (s40 "none" (ww_ok (by decide)) (by decide)) (allD (s40 "tie" (ww_ok (by decide)) (by decide)) nilD))))))))))))))))⟩
  clear e5 e4 e3
  have s25 := s3.trans (s4.trans s5)
  have e1' := (s2.trans s25) _ _ e1
  have e2' := s25 _ _ e2
  clear s3 s4 s5 nb1 nb2 nst s1 ndp e1 e2 s2 s25 ha hz
  wtm_at "s"
  refine forR (fun i σ' G => Same H5 G ∧ ∃ (wp : Addr) (ws : List Wd) (k4 : Option V), σ' = [some (.ref a), some (.ref dp), some (.ref wp), some (.ref st), k4, none, none, none, none] ∧ G wp = some (.lst (rowV ws)) ∧ WsOk ws ∧ ws ≠ [] ∧ tot ws ≤ 5000 + 100 * i) ⟨Same.refl _, wp, ws, _, rfl, e2', ok2, ne2, by omega⟩ ?_ ?_
  · clear e2' ok2 ne2 t2
    rintro i σ' G hi ⟨sG, wp, ws, k4, rfl, ew, okw, neW, tw⟩
    have i2 : i < 2 := by simpa using hi
    have eG1 := sG _ _ e1'
    have xG := sG _ _ hxs
    wtm_at "s"
    refine k_ixI (sl eG1) (by omega) (by omega) ?_
    have m1 := dr _ (getD_memI (ns := us) (i := 10 + (0 + (i : Int))) (by omega) (by omega))
    generalize us.getD (10 + (0 + (i : Int))).toNat 0 = x1 at m1 ⊢
    wtm_at "s"
    refine k_ixI (sl eG1) (by omega) (by omega) ?_
    have m2 := dr _ (getD_memI (ns := us) (i := 12 + (0 + (i : Int))) (by omega) (by omega))
    generalize us.getD (12 + (0 + (i : Int))).toNat 0 = x2 at m2 ⊢
    wtm_at "s"
    rw [lxs]
    obtain ⟨jj, hj⟩ : ∃ j : Nat, x2 % ((17 : Nat) : Int) = (j : Nat) := ⟨(x2 % ((17 : Nat) : Int)).toNat, by omega⟩
    rw [hj]
    obtain ⟨v, hv⟩ : ∃ v, xs[jj]? = some v := ⟨_, List.getElem?_eq_getElem (by omega)⟩
    obtain ⟨u, rfl, uok, ul⟩ := all v (List.mem_of_getElem? hv)
    refine k_ixL (sl xG) (atI_nat hv) ?_
    wtm_at "s"
    refine ⟨_, _, _, rfl, wp, ws, x1, u, rfl, ew, okw, by omega, neW, rfl, m1.1, rfl, uok, ul, fun p vs H6 s6 e6 ok6 t6 => ?_⟩
    wtm_at "s"
    refine kL (by simp) (fun q7 H7 n7 s7 e7 => ?_)
    refine k_eqDD (n := 1) (m := 1) (dp_row (sl (s7 _ _ e6))) (dp_row (ws := []) (sl e7)) (sh_row ok6) (sh_row fun w hw => nomatch hw) (by decide) ?_
    rw [eqv_row]
    by_cases c : vs = []
    · rw [decide_eq_true c]
      wtm_at "s"
      refine kL (by simp) (fun q8 H8 n8 s8 e8 => ?_)
      wtm_at "s"
      exact ⟨sG.trans (s6.trans (s7.trans s8)), q8, [ww ""], _, rfl, by rw [e8, rowlit], .one o0, by simp, by rw [tot_one]; unfold ww; rw [sg_str]; simp; omega⟩
    · rw [decide_eq_false c]
      wtm_at "s"
      exact ⟨sG.trans (s6.trans s7), p, vs, _, rfl, s7 _ _ e6, ok6, c, by omega⟩
  clear e2' ok2 ne2 t2
  rintro σ' G ⟨sG, wp, ws, k4, rfl, ew, okw, neW, tw⟩
  have tw : tot ws ≤ 5200 := tw
  have RW : RowAt K G wp ws := ⟨sl ew, okw, by omega⟩
  have hl : (TL.joinL [32] ws).length ≤ 19000 := by have := join_tot' 32 ws; omega
  have hsp : splitL 32 (TL.joinL [32] ws) = ws := splitL_of neW fun p hp z => (okw p hp 32 z).1 rfl
  have RG := RW
  clear tw e1' hxs
  wtm_at "s"
  refine ⟨_, rfl, wp, ws, rfl, RG, neW, fun hno G1 s1 => ?_, fun D hD p G1 s1 dD => ?_⟩
  · wtm_at "s"
    refine k_joinB (s1.seq RG.at_) RG.small ?_
    wtm_at "s"
    refine ⟨_, rfl, _, rfl, hl, fun _ dx H2 ndx s2 ex => ?_, fun D hD => by rw [hsp, hno] at hD; cases hD⟩
    refine k_caught (by show 8 < 9; decide) (PySem.W.exm_ref T.x_TieError.hs T.x_TieError.hd T.t_TieError T.u_NoText) (fun e' ne => ?_)
    have f1 : upd H2 e' (ExV (.ref A.c_NoText) (some dx) e') e' = some (ExV (.ref A.c_NoText) (some dx) e') := upd_same
    have f2 : upd H2 e' (ExV (.ref A.c_NoText) (some dx) e') dx = some (.xd [(Str.ofString "row", V.int 0)]) := same_new ne _ _ ex
    generalize upd H2 e' (ExV (.ref A.c_NoText) (some dx) e') = H6 at f1 f2 ⊢
    have kp : KeptAt H6 e' A.c_NoText := exV_kept f1 (.inr ⟨_, _, rfl, f2⟩)
    wtm_at "s"
    refine kT (by simp) (fun tp H7 ntp s7 e7 => ?_)
    wtm_at "s"
    refine k_isXtup (b := false) (kept_same kp s7) T.x_NoText e7 (.cons (.own _) (.cons (.own _) (.cons (.own _) (.cons (.own _) (.cons (.own _) .nil))))) (by simp [PySem.W.kitAny, T.q_NoText_NoHues, T.q_NoText_NoName, T.q_NoText_NoNumber, T.q_NoText_NoRow, T.q_NoText_NoWay]) ?_
    wtm_at "s"
    refine k_isXone (xs := []) (kept_same kp s7) T.x_NoText (.own _) T.q_NoText_NoForm ?_
    wtm_at "s"
    refine k_isXone (xs := []) (kept_same kp s7) T.x_NoText (.ty _) T.q_NoText_ValueError ?_
    wtm_at "s"
    refine k_isXone (xs := []) (kept_same kp s7) T.x_NoText (.own _) T.q_NoText_NoText ?_
    wtm_at "s"
    refine ⟨e', A.c_NoText, dx, _, _, rfl, s7 _ _ f1, T.x_NoText.xf, T.nf_NoText, s7 _ _ f2, rfl, ?_⟩
    wtm_at "s"
    refine k_eqDD1 (c := .int 0) (n := 1) (.int _) (.int _) sh_int (by decide) ?_
    exact q _
  · wtm_at "s"
    refine k_joinB (s1.seq RG.at_) RG.small ?_
    wtm_at "s"
    refine ⟨_, rfl, _, rfl, hl, (fun hno => by rw [hsp, hD] at hno; cases hno), fun D' hD' v L H2 s2 nw => ?_⟩
    rw [hsp, hD] at hD'
    cases hD'
    have dv := nw.fr.dp
    wtm_at "s"
    refine kT (by simp) (fun tp H7 ntp s7 e7 => ?_)
    wtm_at "s"
    refine .inr (.inl ⟨.non, tp, _, .type "NoneType", [.ref A.c_NoHues, .ref A.c_NoName, .ref A.c_NoNumber, .ref A.c_NoRow, .ref A.c_NoWay], false, rfl, e7, .cons (.own _) (.cons (.own _) (.cons (.own _) (.cons (.own _) (.cons (.own _) .nil)))), .base .non, kitAny_none fun u hu => ?_, ?_⟩)
    · simp only [List.mem_cons, List.not_mem_nil, or_false] at hu
      rcases hu with rfl | rfl | rfl | rfl | rfl
      · exact kit_none T.q_NoText_NoHues
      · exact kit_none T.q_NoText_NoName
      · exact kit_none T.q_NoText_NoNumber
      · exact kit_none T.q_NoText_NoRow
      · exact kit_none T.q_NoText_NoWay
    wtm_at "s"
    refine k_eqDD1 (c := D) (n := 85) (dp_same s7 dv) (dp_same (s2.trans s7) dD) (sh_toldF hD) (by decide) ?_
    exact q _
theorem ok_law (T : Txt K mg A) : FnOk P w K mg base CX0 51 A.a_law A.d_law ["_law_script"] (sp_law K) := by
  refine T.F_law.ok sc_law (fun vs H Q E h => by obtain ⟨a, ns, rfl, _⟩ := h; rfl) (fun cdv A0 outer s H vs Q E hr h => ?_)
  obtain ⟨a, ns, rfl, h⟩ := h
  exact ⟨t_law K A, (pss_cons (ps_set (i := 1) sc_law.nd rfl (Or.inl rfl) (pe_call (ok_law_draws T) (hr.mono (by decide)) (by rfl) T.g_law_draws T.F_law_draws.kp T.b_law_draws .nil pass0 (pa_cons (pv 0) (pa_cons pe_int pa_nil))))
      (pss_cons (ps_set (i := 2) sc_law.nd rfl (Or.inl rfl) (pe_call (ok_law_drawn T) (hr.mono (by decide)) (by rfl) T.g_law_drawn T.F_law_drawn.kp T.b_law_drawn .nil pass0 (pa_cons (pv 1) pa_nil)))
      (pss_cons (ps_set (i := 3) sc_law.nd rfl (Or.inl rfl) (pe_lst (pa_cons pe_str (pa_cons pe_str (pa_cons pe_str (pa_cons pe_str (pa_cons (pe_op op_mulS pe_str pe_int) (pa_cons (pe_op op_mulS pe_str pe_int) (pa_cons pe_str (pa_cons pe_str (pa_cons pe_str (pa_cons pe_str (pa_cons pe_str pa_nil)))))))))))))
      (pss_cons (ps_set (i := 3) sc_law.nd rfl (Or.inl rfl) (pe_op op_cat (pv 3) (pe_lst (pa_cons pe_str (pa_cons pe_str (pa_cons pe_str (pa_cons pe_str (pa_cons pe_str (pa_cons pe_str pa_nil)))))))))
      (pss_cons (ps_for PassesOwn.never rfl (pi_range1 (by rfl) T.z_range (pa_cons pe_int pa_nil)) (pg_name (i := 4) sc_law.nd rfl (Or.inl rfl))
      (pss_cons (ps_set (i := 2) sc_law.nd rfl (Or.inl rfl) (pe_call (ok_law_bent T) (hr.mono (by decide)) (by rfl) T.g_law_bent T.F_law_bent.kp T.b_law_bent .nil pass0 (pa_cons (pv 2) (pa_cons (pe_ix ix_list (pv 1) (pe_op op_add pe_int (pv 4)) (fun _ _ => rfl)) (pa_cons (pe_ix ix_list (pv 3) (pe_op op_mod (pe_ix ix_list (pv 1) (pe_op op_add pe_int (pv 4)) (fun _ _ => rfl)) (pe_callB q_len (by rfl) T.z_len (by decide +kernel) (pa_cons (pv 3) pa_nil))) (fun _ _ => rfl)) pa_nil)))))
      (pss_one (ps_if (pt_cmpR (op_eqDD (u180 hr)) (pv 2) (pe_lst pa_nil) (nomark _)) (pss_one (ps_set (i := 2) sc_law.nd rfl (Or.inl rfl) (pe_lst (pa_cons pe_str pa_nil)))) pss_nil))))
      (pss_cons (ps_set (i := 5) sc_law.nd rfl (Or.inl rfl) (pe_call (ok_law_told T) (hr.mono (by decide)) (by rfl) T.g_law_told T.F_law_told.kp T.b_law_told .nil pass0 (pa_cons (pv 2) pa_nil)))
      (pss_cons (ps_set (i := 6) sc_law.nd rfl (Or.inl rfl) pe_non)
      (pss_cons (ps_set (i := 7) sc_law.nd rfl (Or.inl rfl) pe_non)
      (pss_cons (ps_try_kept (i := 8) (tb := fun W => (tAsg (tCallS (sp_told_of K A) (WE W) (tCons (tM1 (rJoin K) (tC (.str (Str.ofString " "))) (tVar 2)) tNil)) (gName 7))) (ts := fun _ _ _ => tAsg (tVar 8) (gName 6)) (Wout := fun _ _ _ _ => False) rfl rfl rfl sc_law.nd rfl rfl ⟨by rfl, by decide, Or.inl T.k_TieError⟩ takes0
      (fun W pn xe tk _ => (pss_one (ps_set (i := 7) sc_law.nd rfl (Or.inl rfl) (pe_callS (ok_told_of T) (hr.mono (by decide)) (by rfl) T.g_told_of T.F_told_of.kp T.b_told_of (fun σ => passAt tk σ) (pa_cons (pe_join pe_str (pv 2)) pa_nil)))))
      (fun a oe cls d pn hz hf => (pss_one (ps_set (i := 6) sc_law.nd rfl (Or.inl rfl) (pv 8)))))
      (pss_cons (ps_if (pt_val (pe_callB q_isA (by rfl) T.z_isinstance (by decide +kernel) (pa_cons (pv 6) (pa_cons (pe_tup (pa_cons (pe_glob (v := .ref A.c_NoHues) (by rfl) T.k_NoHues rfl) (pa_cons (pe_glob (v := .ref A.c_NoName) (by rfl) T.k_NoName rfl) (pa_cons (pe_glob (v := .ref A.c_NoNumber) (by rfl) T.k_NoNumber rfl) (pa_cons (pe_glob (v := .ref A.c_NoRow) (by rfl) T.k_NoRow rfl) (pa_cons (pe_glob (v := .ref A.c_NoWay) (by rfl) T.k_NoWay rfl) pa_nil)))))) pa_nil)))) (pss_one (ps_ret pe_bl)) pss_nil)
      (pss_cons (ps_if (PW.pt (pw_and (pt_cmpR op_isN (pv 5) pe_non (nomark _)) (pw_and1 (PW.pt (pw_or (pt_val (pe_callB q_isA (by rfl) T.z_isinstance (by decide +kernel) (pa_cons (pv 6) (pa_cons (pe_glob (v := .ref A.c_NoForm) (by rfl) T.k_NoForm rfl) pa_nil)))) (pw_or1 (pt_not (pt_val (pe_callB q_isA (by rfl) T.z_isinstance (by decide +kernel) (pa_cons (pv 6) (pa_cons (pe_bltn (v := .ty "ValueError") (by rfl) T.z_ValueError (by decide +kernel) rfl) pa_nil))))))))))) (pss_one (ps_ret pe_bl)) pss_nil)
      (pss_cons (ps_if (pt_cmpR op_isN (pv 5) pe_non (nomark _)) (pss_one (ps_ret (pe_and (pe_callB q_isA (by rfl) T.z_isinstance (by decide +kernel) (pa_cons (pv 6) (pa_cons (pe_glob (v := .ref A.c_NoText) (by rfl) T.k_NoText rfl) pa_nil))) (pe_one (pe_cmpR (op_eqDD (u180 hr)) (pe_xat (pv 6)) pe_int (nomark _)))))) pss_nil)
      (pss_one (ps_ret (pe_cmpR (op_eqDD (u180 hr)) (pv 7) (pv 5) (nomark _)))))))))))))))), pure_law T ⟨a, ns, rfl, h⟩⟩

theorem all_mk {l : PySem.W.OpenLaw} {w : World} {K : PySem.W.Frag} {h : Heap} {mg : Str → Option Value} {fa : Addr} {f0 f1 f2 f3 f4 f5 f6 f7 f8 f9 f10 f11 f12 f13 f14 f15 f16 f17 f18 f19 f20 f21 f22 f23 f24 f25 : Addr} (X : K.In h) (G : h.Ns mainGlobals mg) (hfa : mg "law" = some (.ref fa))
    {od0 an0 od1 an1 od2 an2 od3 an3 od4 an4 od5 an5 od6 an6 od7 an7 od8 an8 od9 an9 od10 an10 od11 an11 od12 an12 od13 an13 od14 an14 od15 an15 od16 an16 od17 an17 od18 an18 od19 an19 od20 an20 od21 an21 od22 an22 od23 an23 od24 an24 od25 an25 : Option Addr} {sl0 sl1 sl2 sl3 sl4 sl5 sl6 sl7 sl8 sl9 sl10 sl11 sl12 sl13 sl14 sl15 sl16 sl17 sl18 sl19 sl20 sl21 sl22 sl23 sl24 sl25 : Array (Option Value)} {oc0 kV0 dc0 pm0 cd0 ct0 oc1 kV1 dc1 pm1 cd1 ct1 oc2 kV2 dc2 pm2 cd2 ct2 oc3 kV3 dc3 pm3 cd3 ct3 oc4 kV4 dc4 pm4 cd4 ct4 oc5 kV5 dc5 pm5 cd5 ct5 oc6 kV6 dc6 pm6 cd6 ct6 oc7 kV7 dc7 pm7 cd7 ct7 oc8 kV8 dc8 pm8 cd8 ct8 oc9 kV9 dc9 pm9 cd9 ct9 oc10 kV10 dc10 pm10 cd10 ct10 oc11 kV11 dc11 pm11 cd11 ct11 oc12 kV12 dc12 pm12 cd12 ct12 oc13 kV13 dc13 pm13 cd13 ct13 oc14 kV14 dc14 pm14 cd14 ct14 oc15 kV15 dc15 pm15 cd15 ct15 oc16 kV16 dc16 pm16 cd16 ct16 oc17 kV17 dc17 pm17 cd17 ct17 oc18 kV18 dc18 pm18 cd18 ct18 oc19 kV19 dc19 pm19 cd19 ct19 oc20 kV20 dc20 pm20 cd20 ct20 oc21 kV21 dc21 pm21 cd21 ct21 oc22 kV22 dc22 pm22 cd22 ct22 oc23 kV23 dc23 pm23 cd23 ct23 oc24 kV24 dc24 pm24 cd24 ct24 oc25 kV25 dc25 pm25 cd25 ct25 : Value}
    {tk0 tk1 tk2 : Tok}
    (a0 : PySem.W.nsIn K mainGlobals "number_of" = some (some (.ref f0))) (l0 : K.lookup f0 = some ⟨oc0, od0, .func (PySem.W.fnOf "number_of" "number_of" (defArgs s_number_of) (defBody s_number_of) (defScope s_number_of) .none kV0 dc0 pm0 an0 cd0 ct0), sl0⟩) (c0 : PySem.W.codeIn K cd0 "number_of" = true) (k0 : PySem.W.keepIn K (.ref f0) = true)
    (a1 : PySem.W.nsIn K mainGlobals "case_made" = some (some (.ref f1))) (l1 : K.lookup f1 = some ⟨oc1, od1, .func (PySem.W.fnOf "case_made" "case_made" (defArgs s_case_made) (defBody s_case_made) (defScope s_case_made) .none kV1 dc1 pm1 an1 cd1 ct1), sl1⟩) (c1 : PySem.W.codeIn K cd1 "case_made" = true) (k1 : PySem.W.keepIn K (.ref f1) = true)
    (a2 : PySem.W.nsIn K mainGlobals "told_of" = some (some (.ref f2))) (l2 : K.lookup f2 = some ⟨oc2, od2, .func (PySem.W.fnOf "told_of" "told_of" (defArgs s_told_of) (defBody s_told_of) (defScope s_told_of) .none kV2 dc2 pm2 an2 cd2 ct2), sl2⟩) (c2 : PySem.W.codeIn K cd2 "told_of" = true) (k2 : PySem.W.keepIn K (.ref f2) = true)
    (a3 : PySem.W.nsIn K mainGlobals "_law_draws" = some (some (.ref f3))) (l3 : K.lookup f3 = some ⟨oc3, od3, .func (PySem.W.fnOf "_law_draws" "_law_draws" (defArgs s_law_draws) (defBody s_law_draws) (defScope s_law_draws) .none kV3 dc3 pm3 an3 cd3 ct3), sl3⟩) (c3 : PySem.W.codeIn K cd3 "_law_draws" = true) (k3 : PySem.W.keepIn K (.ref f3) = true)
    (a4 : PySem.W.nsIn K mainGlobals "_law_number" = some (some (.ref f4))) (l4 : K.lookup f4 = some ⟨oc4, od4, .func (PySem.W.fnOf "_law_number" "_law_number" (defArgs s_law_number) (defBody s_law_number) (defScope s_law_number) .none kV4 dc4 pm4 an4 cd4 ct4), sl4⟩) (c4 : PySem.W.codeIn K cd4 "_law_number" = true) (k4 : PySem.W.keepIn K (.ref f4) = true)
    (a5 : PySem.W.nsIn K mainGlobals "_law_drawn_case" = some (some (.ref f5))) (l5 : K.lookup f5 = some ⟨oc5, od5, .func (PySem.W.fnOf "_law_drawn_case" "_law_drawn_case" (defArgs s_law_drawn_case) (defBody s_law_drawn_case) (defScope s_law_drawn_case) .none kV5 dc5 pm5 an5 cd5 ct5), sl5⟩) (c5 : PySem.W.codeIn K cd5 "_law_drawn_case" = true) (k5 : PySem.W.keepIn K (.ref f5) = true)
    (a6 : PySem.W.nsIn K mainGlobals "_law_drawn_turn" = some (some (.ref f6))) (l6 : K.lookup f6 = some ⟨oc6, od6, .func (PySem.W.fnOf "_law_drawn_turn" "_law_drawn_turn" (defArgs s_law_drawn_turn) (defBody s_law_drawn_turn) (defScope s_law_drawn_turn) .none kV6 dc6 pm6 an6 cd6 ct6), sl6⟩) (c6 : PySem.W.codeIn K cd6 "_law_drawn_turn" = true) (k6 : PySem.W.keepIn K (.ref f6) = true)
    (a7 : PySem.W.nsIn K mainGlobals "_law_drawn" = some (some (.ref f7))) (l7 : K.lookup f7 = some ⟨oc7, od7, .func (PySem.W.fnOf "_law_drawn" "_law_drawn" (defArgs s_law_drawn) (defBody s_law_drawn) (defScope s_law_drawn) .none kV7 dc7 pm7 an7 cd7 ct7), sl7⟩) (c7 : PySem.W.codeIn K cd7 "_law_drawn" = true) (k7 : PySem.W.keepIn K (.ref f7) = true)
    (a8 : PySem.W.nsIn K mainGlobals "_law_bent" = some (some (.ref f8))) (l8 : K.lookup f8 = some ⟨oc8, od8, .func (PySem.W.fnOf "_law_bent" "_law_bent" (defArgs s_law_bent) (defBody s_law_bent) (defScope s_law_bent) .none kV8 dc8 pm8 an8 cd8 ct8), sl8⟩) (c8 : PySem.W.codeIn K cd8 "_law_bent" = true) (k8 : PySem.W.keepIn K (.ref f8) = true)
    (a9 : PySem.W.nsIn K mainGlobals "_law_read_case" = some (some (.ref f9))) (l9 : K.lookup f9 = some ⟨oc9, od9, .func (PySem.W.fnOf "_law_read_case" "_law_read_case" (defArgs s_law_read_case) (defBody s_law_read_case) (defScope s_law_read_case) .none kV9 dc9 pm9 an9 cd9 ct9), sl9⟩) (c9 : PySem.W.codeIn K cd9 "_law_read_case" = true) (k9 : PySem.W.keepIn K (.ref f9) = true)
    (a10 : PySem.W.nsIn K mainGlobals "_law_read_turn" = some (some (.ref f10))) (l10 : K.lookup f10 = some ⟨oc10, od10, .func (PySem.W.fnOf "_law_read_turn" "_law_read_turn" (defArgs s_law_read_turn) (defBody s_law_read_turn) (defScope s_law_read_turn) .none kV10 dc10 pm10 an10 cd10 ct10), sl10⟩) (c10 : PySem.W.codeIn K cd10 "_law_read_turn" = true) (k10 : PySem.W.keepIn K (.ref f10) = true)
    (a11 : PySem.W.nsIn K mainGlobals "_law_run" = some (some (.ref f11))) (l11 : K.lookup f11 = some ⟨oc11, od11, .func (PySem.W.fnOf "_law_run" "_law_run" (defArgs s_law_run) (defBody s_law_run) (defScope s_law_run) .none kV11 dc11 pm11 an11 cd11 ct11), sl11⟩) (c11 : PySem.W.codeIn K cd11 "_law_run" = true) (k11 : PySem.W.keepIn K (.ref f11) = true)
    (a12 : PySem.W.nsIn K mainGlobals "_law_paper" = some (some (.ref f12))) (l12 : K.lookup f12 = some ⟨oc12, od12, .func (PySem.W.fnOf "_law_paper" "_law_paper" (defArgs s_law_paper) (defBody s_law_paper) (defScope s_law_paper) .none kV12 dc12 pm12 an12 cd12 ct12), sl12⟩) (c12 : PySem.W.codeIn K cd12 "_law_paper" = true) (k12 : PySem.W.keepIn K (.ref f12) = true)
    (a13 : PySem.W.nsIn K mainGlobals "_law_told" = some (some (.ref f13))) (l13 : K.lookup f13 = some ⟨oc13, od13, .func (PySem.W.fnOf "_law_told" "_law_told" (defArgs s_law_told) (defBody s_law_told) (defScope s_law_told) .none kV13 dc13 pm13 an13 cd13 ct13), sl13⟩) (c13 : PySem.W.codeIn K cd13 "_law_told" = true) (k13 : PySem.W.keepIn K (.ref f13) = true)
    (a14 : PySem.W.nsIn K mainGlobals "law" = some (some (.ref f14))) (l14 : K.lookup f14 = some ⟨oc14, od14, .func (PySem.W.fnOf "law" "law" (defArgs s_law) (defBody s_law) (defScope s_law) .none kV14 dc14 pm14 an14 cd14 ct14), sl14⟩) (c14 : PySem.W.codeIn K cd14 "law" = true) (k14 : PySem.W.keepIn K (.ref f14) = true)
    {cm15 : Addr} (a15 : PySem.W.nsIn K mainGlobals "Words" = some (some (.ref cm15))) (m15 : PySem.W.makesIn K cm15 = true) (i15 : PySem.W.findIn K (.ref cm15) "__init__" = some (some (.ref f15))) (n15 : PySem.W.isFn K (.ref f15) = true) (p15 : PySem.W.keepIn K (.ref cm15) = true) (l15 : K.lookup f15 = some ⟨oc15, od15, .func (PySem.W.fnOf "__init__" "Words.__init__" (defArgs s_Words_init) (defBody s_Words_init) (defScope s_Words_init) .none kV15 dc15 pm15 an15 cd15 ct15), sl15⟩) (c15 : PySem.W.codeIn K cd15 "Words.__init__" = true) (k15 : PySem.W.keepIn K (.ref f15) = true)
    (pg15 : PySem.W.plainGet K cm15 Str.empty = true) (hd15 : PySem.W.hasDictIn K cm15 = true) (po15 : PySem.W.plainOver K cm15 = true) (sb15 : PySem.W.findIn K (.ref cm15) "__setattr__" = some (some (.builtin "object.__setattr__")))
    (nn15_0 : PySem.W.findIn K (.ref cm15) "words" = some none)
    (nn15_1 : PySem.W.findIn K (.ref cm15) "at" = some none)
    (i16 : PySem.W.findIn K (.ref cm15) "ended" = some (some (.ref f16))) (n16 : PySem.W.isFn K (.ref f16) = true) (l16 : K.lookup f16 = some ⟨oc16, od16, .func (PySem.W.fnOf "ended" "Words.ended" (defArgs s_Words_ended) (defBody s_Words_ended) (defScope s_Words_ended) .none kV16 dc16 pm16 an16 cd16 ct16), sl16⟩) (c16 : PySem.W.codeIn K cd16 "Words.ended" = true) (k16 : PySem.W.keepIn K (.ref f16) = true)
    (i17 : PySem.W.findIn K (.ref cm15) "look" = some (some (.ref f17))) (n17 : PySem.W.isFn K (.ref f17) = true) (l17 : K.lookup f17 = some ⟨oc17, od17, .func (PySem.W.fnOf "look" "Words.look" (defArgs s_Words_look) (defBody s_Words_look) (defScope s_Words_look) .none kV17 dc17 pm17 an17 cd17 ct17), sl17⟩) (c17 : PySem.W.codeIn K cd17 "Words.look" = true) (k17 : PySem.W.keepIn K (.ref f17) = true)
    (i18 : PySem.W.findIn K (.ref cm15) "must" = some (some (.ref f18))) (n18 : PySem.W.isFn K (.ref f18) = true) (l18 : K.lookup f18 = some ⟨oc18, od18, .func (PySem.W.fnOf "must" "Words.must" (defArgs s_Words_must) (defBody s_Words_must) (defScope s_Words_must) .none kV18 dc18 pm18 an18 cd18 ct18), sl18⟩) (c18 : PySem.W.codeIn K cd18 "Words.must" = true) (k18 : PySem.W.keepIn K (.ref f18) = true)
    (i19 : PySem.W.findIn K (.ref cm15) "take" = some (some (.ref f19))) (n19 : PySem.W.isFn K (.ref f19) = true) (l19 : K.lookup f19 = some ⟨oc19, od19, .func (PySem.W.fnOf "take" "Words.take" (defArgs s_Words_take) (defBody s_Words_take) (defScope s_Words_take) .none kV19 dc19 pm19 an19 cd19 ct19), sl19⟩) (c19 : PySem.W.codeIn K cd19 "Words.take" = true) (k19 : PySem.W.keepIn K (.ref f19) = true)
    (i20 : PySem.W.findIn K (.ref cm15) "number" = some (some (.ref f20))) (n20 : PySem.W.isFn K (.ref f20) = true) (l20 : K.lookup f20 = some ⟨oc20, od20, .func (PySem.W.fnOf "number" "Words.number" (defArgs s_Words_number) (defBody s_Words_number) (defScope s_Words_number) .none kV20 dc20 pm20 an20 cd20 ct20), sl20⟩) (c20 : PySem.W.codeIn K cd20 "Words.number" = true) (k20 : PySem.W.keepIn K (.ref f20) = true)
    (i21 : PySem.W.findIn K (.ref cm15) "numbers" = some (some (.ref f21))) (n21 : PySem.W.isFn K (.ref f21) = true) (l21 : K.lookup f21 = some ⟨oc21, od21, .func (PySem.W.fnOf "numbers" "Words.numbers" (defArgs s_Words_numbers) (defBody s_Words_numbers) (defScope s_Words_numbers) .none kV21 dc21 pm21 an21 cd21 ct21), sl21⟩) (c21 : PySem.W.codeIn K cd21 "Words.numbers" = true) (k21 : PySem.W.keepIn K (.ref f21) = true)
    (i22 : PySem.W.findIn K (.ref cm15) "opened" = some (some (.ref f22))) (n22 : PySem.W.isFn K (.ref f22) = true) (l22 : K.lookup f22 = some ⟨oc22, od22, .func (PySem.W.fnOf "opened" "Words.opened" (defArgs s_Words_opened) (defBody s_Words_opened) (defScope s_Words_opened) .none kV22 dc22 pm22 an22 cd22 ct22), sl22⟩) (c22 : PySem.W.codeIn K cd22 "Words.opened" = true) (k22 : PySem.W.keepIn K (.ref f22) = true)
    (i23 : PySem.W.findIn K (.ref cm15) "leaf_of" = some (some (.ref f23))) (n23 : PySem.W.isFn K (.ref f23) = true) (l23 : K.lookup f23 = some ⟨oc23, od23, .func (PySem.W.fnOf "leaf_of" "Words.leaf_of" (defArgs s_Words_leaf_of) (defBody s_Words_leaf_of) (defScope s_Words_leaf_of) .none kV23 dc23 pm23 an23 cd23 ct23), sl23⟩) (c23 : PySem.W.codeIn K cd23 "Words.leaf_of" = true) (k23 : PySem.W.keepIn K (.ref f23) = true)
    (i24 : PySem.W.findIn K (.ref cm15) "paper" = some (some (.ref f24))) (n24 : PySem.W.isFn K (.ref f24) = true) (l24 : K.lookup f24 = some ⟨oc24, od24, .func (PySem.W.fnOf "paper" "Words.paper" (defArgs s_Words_paper) (defBody s_Words_paper) (defScope s_Words_paper) .none kV24 dc24 pm24 an24 cd24 ct24), sl24⟩) (c24 : PySem.W.codeIn K cd24 "Words.paper" = true) (k24 : PySem.W.keepIn K (.ref f24) = true)
    (i25 : PySem.W.findIn K (.ref cm15) "turns_made" = some (some (.ref f25))) (n25 : PySem.W.isFn K (.ref f25) = true) (l25 : K.lookup f25 = some ⟨oc25, od25, .func (PySem.W.fnOf "turns_made" "Words.turns_made" (defArgs s_Words_turns_made) (defBody s_Words_turns_made) (defScope s_Words_turns_made) .none kV25 dc25 pm25 an25 cd25 ct25), sl25⟩) (c25 : PySem.W.codeIn K cd25 "Words.turns_made" = true) (k25 : PySem.W.keepIn K (.ref f25) = true)
    (e0 : PySem.W.nsIn K mainGlobals "FIGURES" = some (some (.str (Str.ofString "0123456789") tk0)))
    (e1 : PySem.W.nsIn K mainGlobals "MOST_FIGURES" = some (some (.int 30 tk1)))
    (e2 : PySem.W.nsIn K mainGlobals "DEEPEST" = some (some (.int 40 tk2)))
    (z0 : PySem.W.nsIn K mainGlobals "ValueError" = some none)
    (z1 : PySem.W.nsIn K mainGlobals "int" = some none)
    (z2 : PySem.W.nsIn K mainGlobals "isinstance" = some none)
    (z3 : PySem.W.nsIn K mainGlobals "len" = some none)
    (z4 : PySem.W.nsIn K mainGlobals "list" = some none)
    (z5 : PySem.W.nsIn K mainGlobals "min" = some none)
    (z6 : PySem.W.nsIn K mainGlobals "range" = some none)
    (z7 : PySem.W.nsIn K mainGlobals "str" = some none)
    (z8 : PySem.W.nsIn K mainGlobals "tuple" = some none)
    {cc0 cc1 cc2 cc3 cc4 cc5 cc6 cc7 : Addr}
    (kk0 : PySem.W.nsIn K mainGlobals "TieError" = some (some (.ref cc0))) (xx0 : exkB K cc0 = true) (tt0 : PySem.W.typeIn K (.ref cc0) = some (.type "type"))
    (kk1 : PySem.W.nsIn K mainGlobals "NoWay" = some (some (.ref cc1))) (xx1 : exkB K cc1 = true) (tt1 : PySem.W.typeIn K (.ref cc1) = some (.type "type"))
    (kk2 : PySem.W.nsIn K mainGlobals "NoHues" = some (some (.ref cc2))) (xx2 : exkB K cc2 = true) (tt2 : PySem.W.typeIn K (.ref cc2) = some (.type "type"))
    (kk3 : PySem.W.nsIn K mainGlobals "NoNumber" = some (some (.ref cc3))) (xx3 : exkB K cc3 = true) (tt3 : PySem.W.typeIn K (.ref cc3) = some (.type "type"))
    (kk4 : PySem.W.nsIn K mainGlobals "NoText" = some (some (.ref cc4))) (xx4 : exkB K cc4 = true) (tt4 : PySem.W.typeIn K (.ref cc4) = some (.type "type"))
    (kk5 : PySem.W.nsIn K mainGlobals "NoRow" = some (some (.ref cc5))) (xx5 : exkB K cc5 = true) (tt5 : PySem.W.typeIn K (.ref cc5) = some (.type "type"))
    (kk6 : PySem.W.nsIn K mainGlobals "NoName" = some (some (.ref cc6))) (xx6 : exkB K cc6 = true) (tt6 : PySem.W.typeIn K (.ref cc6) = some (.type "type"))
    (kk7 : PySem.W.nsIn K mainGlobals "NoForm" = some (some (.ref cc7))) (xx7 : exkB K cc7 = true) (tt7 : PySem.W.typeIn K (.ref cc7) = some (.type "type"))
    {nm1 q1 : Str} {N1 : Addr} {bs1 : List Value} {sn1 : List Str} {su1 : List Value} {ab1 : Bool} {co1 : Option Bool} {dd1 : Option Addr} {ma1 mb1 mc1 md1 me1 : Option Value} {fi1 : Addr} {odi1 ani1 : Option Addr} {sli1 : Array (Option Value)} {oci1 kVi1 dci1 pmi1 cdi1 cti1 : Value}
    (la1 : K.lookup cc1 = some (excClassObj nm1 q1 cc1 N1 bs1 [.ref cc0, .type "ValueError", .type "Exception", .type "BaseException", .type "object"] true sn1 su1 ab1 co1 dd1 ma1 mb1 mc1 md1 me1 "ValueError.__new__"))
    (sa1 : PySem.W.findIn K (.ref cc1) "__setattr__" = some (some (.builtin "object.__setattr__"))) (ee1 : PySem.W.subIn K (.ref cc1) (.type "BaseException") = some true) (ke1 : PySem.W.keepIn K (.ref cc1) = true)
    (ai1 : PySem.W.findIn K (.ref cc1) "__init__" = some (some (.ref fi1))) (ti1 : PySem.W.typeIn K (.ref fi1) = some (.type "function")) (li1 : K.lookup fi1 = some ⟨oci1, odi1, .func (PySem.W.fnOf "__init__" "NoWay.__init__" (defArgs s_init_NoWay) (defBody s_init_NoWay) (defScope s_init_NoWay) .none kVi1 dci1 pmi1 ani1 cdi1 cti1), sli1⟩) (ci1 : PySem.W.codeIn K cdi1 "NoWay.__init__" = true) (ki1 : PySem.W.keepIn K (.ref fi1) = true) (nf1 : PySem.W.findIn K (.ref cc1) "at" = some none)
    {nm2 q2 : Str} {N2 : Addr} {bs2 : List Value} {sn2 : List Str} {su2 : List Value} {ab2 : Bool} {co2 : Option Bool} {dd2 : Option Addr} {ma2 mb2 mc2 md2 me2 : Option Value} {fi2 : Addr} {odi2 ani2 : Option Addr} {sli2 : Array (Option Value)} {oci2 kVi2 dci2 pmi2 cdi2 cti2 : Value}
    (la2 : K.lookup cc2 = some (excClassObj nm2 q2 cc2 N2 bs2 [.ref cc0, .type "ValueError", .type "Exception", .type "BaseException", .type "object"] true sn2 su2 ab2 co2 dd2 ma2 mb2 mc2 md2 me2 "ValueError.__new__"))
    (sa2 : PySem.W.findIn K (.ref cc2) "__setattr__" = some (some (.builtin "object.__setattr__"))) (ee2 : PySem.W.subIn K (.ref cc2) (.type "BaseException") = some true) (ke2 : PySem.W.keepIn K (.ref cc2) = true)
    (ai2 : PySem.W.findIn K (.ref cc2) "__init__" = some (some (.ref fi2))) (ti2 : PySem.W.typeIn K (.ref fi2) = some (.type "function")) (li2 : K.lookup fi2 = some ⟨oci2, odi2, .func (PySem.W.fnOf "__init__" "NoHues.__init__" (defArgs s_init_NoHues) (defBody s_init_NoHues) (defScope s_init_NoHues) .none kVi2 dci2 pmi2 ani2 cdi2 cti2), sli2⟩) (ci2 : PySem.W.codeIn K cdi2 "NoHues.__init__" = true) (ki2 : PySem.W.keepIn K (.ref fi2) = true) (nf2 : PySem.W.findIn K (.ref cc2) "place" = some none)
    {nm4 q4 : Str} {N4 : Addr} {bs4 : List Value} {sn4 : List Str} {su4 : List Value} {ab4 : Bool} {co4 : Option Bool} {dd4 : Option Addr} {ma4 mb4 mc4 md4 me4 : Option Value} {fi4 : Addr} {odi4 ani4 : Option Addr} {sli4 : Array (Option Value)} {oci4 kVi4 dci4 pmi4 cdi4 cti4 : Value}
    (la4 : K.lookup cc4 = some (excClassObj nm4 q4 cc4 N4 bs4 [.ref cc0, .type "ValueError", .type "Exception", .type "BaseException", .type "object"] true sn4 su4 ab4 co4 dd4 ma4 mb4 mc4 md4 me4 "ValueError.__new__"))
    (sa4 : PySem.W.findIn K (.ref cc4) "__setattr__" = some (some (.builtin "object.__setattr__"))) (ee4 : PySem.W.subIn K (.ref cc4) (.type "BaseException") = some true) (ke4 : PySem.W.keepIn K (.ref cc4) = true)
    (ai4 : PySem.W.findIn K (.ref cc4) "__init__" = some (some (.ref fi4))) (ti4 : PySem.W.typeIn K (.ref fi4) = some (.type "function")) (li4 : K.lookup fi4 = some ⟨oci4, odi4, .func (PySem.W.fnOf "__init__" "NoText.__init__" (defArgs s_init_NoText) (defBody s_init_NoText) (defScope s_init_NoText) .none kVi4 dci4 pmi4 ani4 cdi4 cti4), sli4⟩) (ci4 : PySem.W.codeIn K cdi4 "NoText.__init__" = true) (ki4 : PySem.W.keepIn K (.ref fi4) = true) (nf4 : PySem.W.findIn K (.ref cc4) "row" = some none)
    (rr0 : PySem.W.readsIn K cc0 (.type "type") = true) (rr1 : PySem.W.specialIn K (.ref cc0) "__getattribute__" = some (some (.builtin "type.__getattribute__"))) (rr2 : PySem.W.findCls K (.ref cc0) (.type "type") "__init__" = some (.val (.builtin "ValueError.__init__")))
    (uu4 : PySem.W.subIn K (.ref cc4) (.ref cc0) = some true)
    (qq4_0 : PySem.W.kitOne K (.ref cc4) (.ref cc7) = some false)
    (qq4_1 : PySem.W.kitOne K (.ref cc4) (.ref cc2) = some false)
    (qq4_2 : PySem.W.kitOne K (.ref cc4) (.ref cc6) = some false)
    (qq4_3 : PySem.W.kitOne K (.ref cc4) (.ref cc3) = some false)
    (qq4_4 : PySem.W.kitOne K (.ref cc4) (.ref cc5) = some false)
    (qq4_5 : PySem.W.kitOne K (.ref cc4) (.ref cc4) = some true)
    (qq4_6 : PySem.W.kitOne K (.ref cc4) (.ref cc1) = some false)
    (qq4_7 : PySem.W.kitOne K (.ref cc4) (.type "ValueError") = some true)
    : ∃ fd : FuncData, (∀ (s : Shared) (v : Value), BindsTo s fd ⟨[v], []⟩ [("_law_script", v)]) ∧ ∀ base : Heap, K.In base → base.Ns mainGlobals mg → FnOk l.prog w K mg base CX0 51 fa fd ["_law_script"] (sp_law K) := by
  have e := hfa.symm.trans (PySem.W.mg_of X G a14)
  cases e
  have F0 := fun_mk (st := s_number_of) l0 c0 k0
  have b0 := F0.binds (ps := ["word"]) fun _ _ _ _ _ _ us hl => match us, hl with | [_], _ => rfl
  have F1 := fun_mk (st := s_case_made) l1 c1 k1
  have b1 := F1.binds (ps := ["thing"]) fun _ _ _ _ _ _ us hl => match us, hl with | [_], _ => rfl
  have F2 := fun_mk (st := s_told_of) l2 c2 k2
  have b2 := F2.binds (ps := ["text"]) fun _ _ _ _ _ _ us hl => match us, hl with | [_], _ => rfl
  have F3 := fun_mk (st := s_law_draws) l3 c3 k3
  have b3 := F3.binds (ps := ["_law_script", "_law_many"]) fun _ _ _ _ _ _ us hl => match us, hl with | [_, _], _ => rfl
  have F4 := fun_mk (st := s_law_number) l4 c4 k4
  have b4 := F4.binds (ps := ["_law_word"]) fun _ _ _ _ _ _ us hl => match us, hl with | [_], _ => rfl
  have F5 := fun_mk (st := s_law_drawn_case) l5 c5 k5
  have b5 := F5.binds (ps := ["_law_left", "_law_deep"]) fun _ _ _ _ _ _ us hl => match us, hl with | [_, _], _ => rfl
  have F6 := fun_mk (st := s_law_drawn_turn) l6 c6 k6
  have b6 := F6.binds (ps := ["_law_left", "_law_deep"]) fun _ _ _ _ _ _ us hl => match us, hl with | [_, _], _ => rfl
  have F7 := fun_mk (st := s_law_drawn) l7 c7 k7
  have b7 := F7.binds (ps := ["_law_draws_here"]) fun _ _ _ _ _ _ us hl => match us, hl with | [_], _ => rfl
  have F8 := fun_mk (st := s_law_bent) l8 c8 k8
  have b8 := F8.binds (ps := ["_law_words", "_law_number_here", "_law_word"]) fun _ _ _ _ _ _ us hl => match us, hl with | [_, _, _], _ => rfl
  have F9 := fun_mk (st := s_law_read_case) l9 c9 k9
  have b9 := F9.binds (ps := ["_law_words", "_law_at", "_law_deep"]) fun _ _ _ _ _ _ us hl => match us, hl with | [_, _, _], _ => rfl
  have F10 := fun_mk (st := s_law_read_turn) l10 c10 k10
  have b10 := F10.binds (ps := ["_law_words", "_law_at", "_law_deep"]) fun _ _ _ _ _ _ us hl => match us, hl with | [_, _, _], _ => rfl
  have F11 := fun_mk (st := s_law_run) l11 c11 k11
  have b11 := F11.binds (ps := ["_law_words", "_law_at"]) fun _ _ _ _ _ _ us hl => match us, hl with | [_, _], _ => rfl
  have F12 := fun_mk (st := s_law_paper) l12 c12 k12
  have b12 := F12.binds (ps := ["_law_words"]) fun _ _ _ _ _ _ us hl => match us, hl with | [_], _ => rfl
  have F13 := fun_mk (st := s_law_told) l13 c13 k13
  have b13 := F13.binds (ps := ["_law_words"]) fun _ _ _ _ _ _ us hl => match us, hl with | [_], _ => rfl
  have F14 := fun_mk (st := s_law) l14 c14 k14
  have b14 := F14.binds (ps := ["_law_script"]) fun _ _ _ _ _ _ us hl => match us, hl with | [_], _ => rfl
  have F15 := fun_mk (st := s_Words_init) l15 c15 k15
  have b15 := F15.binds (ps := ["self", "text"]) fun _ _ _ _ _ _ us hl => match us, hl with | [_, _], _ => rfl
  have F16 := fun_mk (st := s_Words_ended) l16 c16 k16
  have b16 := F16.binds (ps := ["self"]) fun _ _ _ _ _ _ us hl => match us, hl with | [_], _ => rfl
  have F17 := fun_mk (st := s_Words_look) l17 c17 k17
  have b17 := F17.binds (ps := ["self"]) fun _ _ _ _ _ _ us hl => match us, hl with | [_], _ => rfl
  have F18 := fun_mk (st := s_Words_must) l18 c18 k18
  have b18 := F18.binds (ps := ["self", "right"]) fun _ _ _ _ _ _ us hl => match us, hl with | [_, _], _ => rfl
  have F19 := fun_mk (st := s_Words_take) l19 c19 k19
  have b19 := F19.binds (ps := ["self", "word"]) fun _ _ _ _ _ _ us hl => match us, hl with | [_, _], _ => rfl
  have F20 := fun_mk (st := s_Words_number) l20 c20 k20
  have b20 := F20.binds (ps := ["self"]) fun _ _ _ _ _ _ us hl => match us, hl with | [_], _ => rfl
  have F21 := fun_mk (st := s_Words_numbers) l21 c21 k21
  have b21 := F21.binds (ps := ["self"]) fun _ _ _ _ _ _ us hl => match us, hl with | [_], _ => rfl
  have F22 := fun_mk (st := s_Words_opened) l22 c22 k22
  have b22 := F22.binds (ps := ["self", "leaf"]) fun _ _ _ _ _ _ us hl => match us, hl with | [_, _], _ => rfl
  have F23 := fun_mk (st := s_Words_leaf_of) l23 c23 k23
  have b23 := F23.binds (ps := ["self", "leaf"]) fun _ _ _ _ _ _ us hl => match us, hl with | [_, _], _ => rfl
  have F24 := fun_mk (st := s_Words_paper) l24 c24 k24
  have b24 := F24.binds (ps := ["self"]) fun _ _ _ _ _ _ us hl => match us, hl with | [_], _ => rfl
  have F25 := fun_mk (st := s_Words_turns_made) l25 c25 k25
  have b25 := F25.binds (ps := ["self", "thing"]) fun _ _ _ _ _ _ us hl => match us, hl with | [_, _], _ => rfl
  have Fi1 := fun_mk (st := s_init_NoWay) li1 ci1 ki1
  have bi1 := Fi1.binds (ps := ["self", "at"]) fun _ _ _ _ _ _ us hl => match us, hl with | [_, _], _ => rfl
  have Fi2 := fun_mk (st := s_init_NoHues) li2 ci2 ki2
  have bi2 := Fi2.binds (ps := ["self", "place"]) fun _ _ _ _ _ _ us hl => match us, hl with | [_, _], _ => rfl
  have Fi4 := fun_mk (st := s_init_NoText) li4 ci4 ki4
  have bi4 := Fi4.binds (ps := ["self", "row"]) fun _ _ _ _ _ _ us hl => match us, hl with | [_, _], _ => rfl
  have T : Txt K mg ⟨cc0, cc1, cc2, cc3, cc4, cc5, cc6, cc7, fi1, _, fi2, _, fi4, _, cm15, f0, _, f1, _, f2, _, f3, _, f4, _, f5, _, f6, _, f7, _, f8, _, f9, _, f10, _, f11, _, f12, _, f13, _, fa, _, f15, _, f16, _, f17, _, f18, _, f19, _, f20, _, f21, _, f22, _, f23, _, f24, _, f25, _⟩ :=
    ⟨PySem.W.mg_of X G a0, F0, b0, PySem.W.mg_of X G a1, F1, b1, PySem.W.mg_of X G a2, F2, b2, PySem.W.mg_of X G a3, F3, b3, PySem.W.mg_of X G a4, F4, b4, PySem.W.mg_of X G a5, F5, b5, PySem.W.mg_of X G a6, F6, b6, PySem.W.mg_of X G a7, F7, b7, PySem.W.mg_of X G a8, F8, b8, PySem.W.mg_of X G a9, F9, b9, PySem.W.mg_of X G a10, F10, b10, PySem.W.mg_of X G a11, F11, b11, PySem.W.mg_of X G a12, F12, b12, PySem.W.mg_of X G a13, F13, b13, PySem.W.mg_of X G a14, F14, b14, PySem.W.mg_of X G a15, ⟨m15, i15, n15, p15⟩, F15, ⟨pg15, hd15, po15, sb15⟩, nn15_0, nn15_1, b15, ⟨i16, n16, k16⟩, F16, b16, ⟨i17, n17, k17⟩, F17, b17, ⟨i18, n18, k18⟩, F18, b18, ⟨i19, n19, k19⟩, F19, b19, ⟨i20, n20, k20⟩, F20, b20, ⟨i21, n21, k21⟩, F21, b21, ⟨i22, n22, k22⟩, F22, b22, ⟨i23, n23, k23⟩, F23, b23, ⟨i24, n24, k24⟩, F24, b24, ⟨i25, n25, k25⟩, F25, b25, tok_mkS (PySem.W.mg_of X G e0), tok_mk (PySem.W.mg_of X G e1), tok_mk (PySem.W.mg_of X G e2), PySem.W.mg_none_of X G z0, PySem.W.mg_none_of X G z1, PySem.W.mg_none_of X G z2, PySem.W.mg_none_of X G z3, PySem.W.mg_none_of X G z4, PySem.W.mg_none_of X G z5, PySem.W.mg_none_of X G z6, PySem.W.mg_none_of X G z7, PySem.W.mg_none_of X G z8, PySem.W.mg_of X G kk0, exkB_ok xx0, tt0, PySem.W.mg_of X G kk1, exkB_ok xx1, tt1, PySem.W.mg_of X G kk2, exkB_ok xx2, tt2, PySem.W.mg_of X G kk3, exkB_ok xx3, tt3, PySem.W.mg_of X G kk4, exkB_ok xx4, tt4, PySem.W.mg_of X G kk5, exkB_ok xx5, tt5, PySem.W.mg_of X G kk6, exkB_ok xx6, tt6, PySem.W.mg_of X G kk7, exkB_ok xx7, tt7, ⟨⟨nm1, q1, N1, bs1, _, sn1, su1, ab1, co1, dd1, ma1, mb1, mc1, md1, me1, la1, rfl⟩, sa1, ee1, tt1, ke1⟩, ai1, ti1, Fi1, bi1, nf1, ⟨⟨nm2, q2, N2, bs2, _, sn2, su2, ab2, co2, dd2, ma2, mb2, mc2, md2, me2, la2, rfl⟩, sa2, ee2, tt2, ke2⟩, ai2, ti2, Fi2, bi2, nf2, ⟨⟨nm4, q4, N4, bs4, _, sn4, su4, ab4, co4, dd4, ma4, mb4, mc4, md4, me4, la4, rfl⟩, sa4, ee4, tt4, ke4⟩, ai4, ti4, Fi4, bi4, nf4, ⟨PySem.W.mg_of X G kk0, rr0, rr1, rr2⟩, uu4, qq4_0, qq4_1, qq4_2, qq4_3, qq4_4, qq4_5, qq4_6, qq4_7⟩
  exact ⟨_, fun s v => .of_eq rfl, fun base _ _ => ok_law T⟩
end Pf
open PySem PySem.W PyProof.Rows
set_option maxHeartbeats 0 in
theorem PySem.Challenge.cw_tiehues_k94_words_refused_holds : PySem.Challenge.rw_tiehues_k94_words_refused.Holds := by
  w_on; o_law; k_head; (case hw => w_witness2)
  k_fill
  refine L2.walk_ofK (l := PySem.Challenge.rw_tiehues_k94_words_refused) (n := 63) (k := 51) (x := "_law_script") (CX := L2.CX0) (sp := Pf.sp_law) rfl (by decide) rfl ⟨rfl, by decide, by decide⟩ (fun w h Y => PySem.W.kIn_of Y) ?F (fun _ _ a ns hl _ hS => ⟨a, ns, rfl, hS, hl, fun _ => rfl⟩) (fun _ _ _ _ h => h)
  case F =>
    intro w mg fa h KX G hmg
    refine' Pf.all_mk KX G hmg ?a0 ?l0 ?c0 ?k0 ?a1 ?l1 ?c1 ?k1 ?a2 ?l2 ?c2 ?k2 ?a3 ?l3 ?c3 ?k3 ?a4 ?l4 ?c4 ?k4 ?a5 ?l5 ?c5 ?k5 ?a6 ?l6 ?c6 ?k6 ?a7 ?l7 ?c7 ?k7 ?a8 ?l8 ?c8 ?k8 ?a9 ?l9 ?c9 ?k9 ?a10 ?l10 ?c10 ?k10 ?a11 ?l11 ?c11 ?k11 ?a12 ?l12 ?c12 ?k12 ?a13 ?l13 ?c13 ?k13 ?a14 ?l14 ?c14 ?k14 ?a15 ?m15 ?i15 ?n15 ?p15 ?l15 ?c15 ?k15 ?pg15 ?hd15 ?po15 ?sb15 ?nn15_0 ?nn15_1 ?i16 ?n16 ?l16 ?c16 ?k16 ?i17 ?n17 ?l17 ?c17 ?k17 ?i18 ?n18 ?l18 ?c18 ?k18 ?i19 ?n19 ?l19 ?c19 ?k19 ?i20 ?n20 ?l20 ?c20 ?k20 ?i21 ?n21 ?l21 ?c21 ?k21 ?i22 ?n22 ?l22 ?c22 ?k22 ?i23 ?n23 ?l23 ?c23 ?k23 ?i24 ?n24 ?l24 ?c24 ?k24 ?i25 ?n25 ?l25 ?c25 ?k25 ?e0 ?e1 ?e2 ?z0 ?z1 ?z2 ?z3 ?z4 ?z5 ?z6 ?z7 ?z8 ?kk0 ?xx0 ?tt0 ?kk1 ?xx1 ?tt1 ?kk2 ?xx2 ?tt2 ?kk3 ?xx3 ?tt3 ?kk4 ?xx4 ?tt4 ?kk5 ?xx5 ?tt5 ?kk6 ?xx6 ?tt6 ?kk7 ?xx7 ?tt7 ?la1 ?sa1 ?ee1 ?ke1 ?ai1 ?ti1 ?li1 ?ci1 ?ki1 ?nf1 ?la2 ?sa2 ?ee2 ?ke2 ?ai2 ?ti2 ?li2 ?ci2 ?ki2 ?nf2 ?la4 ?sa4 ?ee4 ?ke4 ?ai4 ?ti4 ?li4 ?ci4 ?ki4 ?nf4 ?rr0 ?rr1 ?rr2 ?uu4 ?qq4_0 ?qq4_1 ?qq4_2 ?qq4_3 ?qq4_4 ?qq4_5 ?qq4_6 ?qq4_7
    (case a0 => k_is); (case l0 => k_is); (case c0 => k_is); (case k0 => k_is); (case a1 => k_is); (case l1 => k_is); (case c1 => k_is); (case k1 => k_is); (case a2 => k_is); (case l2 => k_is); (case c2 => k_is); (case k2 => k_is); (case a3 => k_is); (case l3 => k_is); (case c3 => k_is); (case k3 => k_is); (case a4 => k_is); (case l4 => k_is); (case c4 => k_is); (case k4 => k_is); (case a5 => k_is); (case l5 => k_is); (case c5 => k_is); (case k5 => k_is); (case a6 => k_is); (case l6 => k_is); (case c6 => k_is); (case k6 => k_is); (case a7 => k_is); (case l7 => k_is); (case c7 => k_is); (case k7 => k_is); (case a8 => k_is); (case l8 => k_is); (case c8 => k_is); (case k8 => k_is); (case a9 => k_is); (case l9 => k_is); (case c9 => k_is); (case k9 => k_is); (case a10 => k_is); (case l10 => k_is); (case c10 => k_is); (case k10 => k_is); (case a11 => k_is); (case l11 => k_is); (case c11 => k_is); (case k11 => k_is); (case a12 => k_is); (case l12 => k_is); (case c12 => k_is); (case k12 => k_is); (case a13 => k_is); (case l13 => k_is); (case c13 => k_is); (case k13 => k_is); (case a14 => k_is); (case l14 => k_is); (case c14 => k_is); (case k14 => k_is); (case a15 => k_is); (case m15 => first | k_is | kernel_rfl); (case i15 => k_is); (case n15 => first | k_is | kernel_rfl); (case p15 => k_is); (case l15 => k_is); (case c15 => k_is); (case k15 => k_is); (case pg15 => first | k_is | kernel_rfl); (case hd15 => first | k_is | kernel_rfl); (case po15 => first | k_is | kernel_rfl); (case sb15 => first | k_is | kernel_rfl); (case nn15_0 => first | k_is | kernel_rfl); (case nn15_1 => first | k_is | kernel_rfl); (case i16 => k_is); (case n16 => first | k_is | kernel_rfl); (case l16 => k_is); (case c16 => k_is); (case k16 => k_is); (case i17 => k_is); (case n17 => first | k_is | kernel_rfl); (case l17 => k_is); (case c17 => k_is); (case k17 => k_is); (case i18 => k_is); (case n18 => first | k_is | kernel_rfl); (case l18 => k_is); (case c18 => k_is); (case k18 => k_is); (case i19 => k_is); (case n19 => first | k_is | kernel_rfl); (case l19 => k_is); (case c19 => k_is); (case k19 => k_is); (case i20 => k_is); (case n20 => first | k_is | kernel_rfl); (case l20 => k_is); (case c20 => k_is); (case k20 => k_is); (case i21 => k_is); (case n21 => first | k_is | kernel_rfl); (case l21 => k_is); (case c21 => k_is); (case k21 => k_is); (case i22 => k_is); (case n22 => first | k_is | kernel_rfl); (case l22 => k_is); (case c22 => k_is); (case k22 => k_is); (case i23 => k_is); (case n23 => first | k_is | kernel_rfl); (case l23 => k_is); (case c23 => k_is); (case k23 => k_is); (case i24 => k_is); (case n24 => first | k_is | kernel_rfl); (case l24 => k_is); (case c24 => k_is); (case k24 => k_is); (case i25 => k_is); (case n25 => first | k_is | kernel_rfl); (case l25 => k_is); (case c25 => k_is); (case k25 => k_is); (case e0 => k_is); (case e1 => k_is); (case e2 => k_is); (case z0 => k_is); (case z1 => k_is); (case z2 => k_is); (case z3 => k_is); (case z4 => k_is); (case z5 => k_is); (case z6 => k_is); (case z7 => k_is); (case z8 => k_is); (case kk0 => k_is); (case xx0 => kernel_rfl); (case tt0 => k_is); (case kk1 => k_is); (case xx1 => kernel_rfl); (case tt1 => k_is); (case kk2 => k_is); (case xx2 => kernel_rfl); (case tt2 => k_is); (case kk3 => k_is); (case xx3 => kernel_rfl); (case tt3 => k_is); (case kk4 => k_is); (case xx4 => kernel_rfl); (case tt4 => k_is); (case kk5 => k_is); (case xx5 => kernel_rfl); (case tt5 => k_is); (case kk6 => k_is); (case xx6 => kernel_rfl); (case tt6 => k_is); (case kk7 => k_is); (case xx7 => kernel_rfl); (case tt7 => k_is); (case la1 => k_is); (case sa1 => k_is); (case ee1 => k_is); (case ke1 => k_is); (case ai1 => k_is); (case ti1 => k_is); (case li1 => k_is); (case ci1 => k_is); (case ki1 => k_is); (case nf1 => k_is); (case la2 => k_is); (case sa2 => k_is); (case ee2 => k_is); (case ke2 => k_is); (case ai2 => k_is); (case ti2 => k_is); (case li2 => k_is); (case ci2 => k_is); (case ki2 => k_is); (case nf2 => k_is); (case la4 => k_is); (case sa4 => k_is); (case ee4 => k_is); (case ke4 => k_is); (case ai4 => k_is); (case ti4 => k_is); (case li4 => k_is); (case ci4 => k_is); (case ki4 => k_is); (case nf4 => k_is); (case rr0 => k_is); (case rr1 => k_is); (case rr2 => k_is); (case uu4 => k_is); (case qq4_0 => kernel_rfl); (case qq4_1 => kernel_rfl); (case qq4_2 => kernel_rfl); (case qq4_3 => kernel_rfl); (case qq4_4 => kernel_rfl); (case qq4_5 => kernel_rfl); (case qq4_6 => kernel_rfl); (case qq4_7 => kernel_rfl)
