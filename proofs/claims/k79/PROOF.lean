import PyProof.Rows.All
import Wide.All
import OpenK.AllK
import Wide.FinOn
import HandS.ForMost
import HandS.NoneIn
import HandS.Conv
import HandS.IsInst
import HandS.Wide
import HandS.SortInts
import HandS.Walk
import KE.DataMinMax
import HandS.ForExc
import HandS.ExcInit
import KE.KExcIs
import HandS.ExcField
import HandS.ExcIs
import HandS.Text
import HandS.Zip
import HandS.Exc
import HandS.WordsDict
import HandS.Deep
import HandS.Iter
import HandS.Sort
import HandS.Dict
import HandS.ExcOwn
import HandS.More
import HandS.Style
import HandS.List
import HandS.Rev
import HandS.Set
import HandS.Strs
import KE.SortData
import HandS.ExcValue
import HandS.TryOnly
import HandS.Codes
import PyProof.StrOps2
import PySem.Challenge.RW_tiehues_k79_texts_of_no_net
set_option Elab.async false
set_option linter.all false
set_option maxRecDepth 100000
set_option maxHeartbeats 4000000
set_option synthInstance.maxHeartbeats 0
set_option synthInstance.maxSize 1000000
namespace Cm
open PySem PySem.Spec PyProof.Rows L2

/-! ### named readings -/
def rLenX (K : PySem.W.Frag) : List V → Hp → VK → Prop := fun xs H Q => ∃ p ys, xs = [.ref p] ∧ (SqL K H p ys ∨ SqT K H p ys) ∧ Q (.int ys.length) H
theorem q_len {X : Cx} : CallR X (.builtin "len") (rLenX X.K) := call_len_seq
def rListOf (K : PySem.W.Frag) : List V → Hp → VK → Prop := fun xs H Q => ∃ p ys, xs = [.ref p] ∧ (SqL K H p ys ∨ SqT K H p ys) ∧ ∀ l, H l = none → Q (.ref l) (upd H l (.lst ys))
theorem q_listOf {X : Cx} : CallR X (.type "list") (rListOf X.K) := call_list_of
def rMax2 : List V → Hp → VK → Prop := fun xs H Q => ∃ i j, xs = [.int i, .int j] ∧ Q (.int (if j > i then j else i)) H
theorem q_max2 {X : Cx} (hc : X.calm = true) : CallR X (.builtin "max") rMax2 := call_max2 hc
def rMin2 : List V → Hp → VK → Prop := fun xs H Q => ∃ i j, xs = [.int i, .int j] ∧ Q (.int (if j < i then j else i)) H
theorem q_min2 {X : Cx} (hc : X.calm = true) : CallR X (.builtin "min") rMin2 := call_min2 hc
theorem q_isi {X : Cx} : CallR X (.builtin "isinstance") (rIsi X.K) := call_isi
def rIntOf : List V → Hp → VK → Prop := fun xs H Q => (∃ i, xs = [.int i] ∧ Q (.int i) H) ∨ ∃ k, xs = [.bl k] ∧ Q (.int (if k then 1 else 0)) H
theorem q_intB {X : Cx} : CallR X (.type "int") rIntOf := call_int1
theorem q_intI {X : Cx} : CallR X (.type "int") rIntOf := call_int1

/-! ### operators by names -/
def xAdd : R2 := rI0 fun i j => .int (i + j)
def xSub : R2 := rI0 fun i j => .int (i - j)
def xMul : R2 := rI CMul fun i j => .int (i * j)
def xMulW : R2 := rI CMulW fun i j => .int (i * j)
def xDiv : R2 := rI CDiv fun i j => .int (i / j)
def xDivW : R2 := rI CDivW fun i j => .int (i / j)
def xMod : R2 := rI (fun _ j => 0 < j) fun i j => .int (i % j)
def xPow : R2 := rI CPow fun i j => .int (i ^ j.toNat)
def xLt : R2 := rI0 fun i j => .bl (decide (i < j))
def xLe : R2 := rI0 fun i j => .bl (decide (i ≤ j))
def xGt : R2 := rI0 fun i j => .bl (decide (j < i))
def xGe : R2 := rI0 fun i j => .bl (decide (j ≤ i))
def xNeg : V → Hp → VK → Prop := rU fun i => .int (-i)
def xIsN : R2 := fun x y H Q => y = .non ∧ Q (.bl (decide (x = .non))) H
def xNotN : R2 := fun x y H Q => y = .non ∧ Q (.bl (!decide (x = .non))) H
def xTru (K : PySem.W.Frag) (ta : TE) : TT := fun σ H Q => ta σ H fun x H' => ∃ k, TruV K x H' k ∧ Q k H'

/-! ### xs[i] += e -/
def rGetL (K : PySem.W.Frag) : V → V → Hp → VK → Prop := fun x y H Q => ∃ p xs i v, x = .ref p ∧ y = .int i ∧ SqL K H p xs ∧ 0 ≤ i ∧ atI xs i = some v ∧ Q v H
theorem get_list {X : Cx} : PGet X (rGetL X.K) := by
  intro pins s σ H x y v u Q I rx ry h
  obtain ⟨p, xs, i, z, rfl, rfl, hq, h0, he, q⟩ := h
  cases rx
  obtain ⟨t, rfl⟩ := ry
  obtain ⟨its, r, pl, hz⟩ := I.list hq
  obtain ⟨j, h1, h2, h3, h4, h5⟩ := atI_get he
  obtain ⟨w, ew, rw'⟩ := r.get h2
  have hl := r.length
  have hn := line63
  have fin : EP X pins σ Q w s := ⟨z, H, I, rw', q⟩
  have hj : i.toNat = j := by
    rw [seqIndex_of h0 h5] at h1
    exact Option.some.inj h1
  exact wpAny_getItem_list pl.isList h0 (by omega) (by rw [hj]; simpa using ew) fin
def xAugL (K : PySem.W.Frag) (to ti te : TE) : TS := tAugS to ti te (rGetL K) (ipI fun i j => i + j) rSetL
theorem q_augL {X : Cx} {o i e : Expr} {to ti te : TE} {tpos pos : Pos} (ho : PE X o to) (hi : PE X i ti) (he : PE X e te)
    (ha : ∀ ov iv new, augStore i ov iv new = (do holding [new, ov, iv] (setItem ov iv new); release [new, ov, iv] []; pure .next) := by intros; rfl) : PS X (.AugAssign (.Subscript o i tpos) .Add e pos) (xAugL X.K to ti te) :=
  ps_augS ho hi get_list he ip_add set_list ha

/-! ### constants of the module -/
def g_tok (mg : Str → Option Value) (x : Str) : Tok := match mg x with
  | some (.int _ t) => t
  | _ => default
theorem tok_mk {mg : Str → Option Value} {x : Str} {n : Int} {t : Tok} (h : mg x = some (.int n t)) : mg x = some (.int n (g_tok mg x)) := by
  unfold g_tok
  rw [h]

/-! ### heaps -/
theorem same_new {H : Hp} {p : Addr} {o : HO} (h : H p = none) : Same H (upd H p o) := fun b x e => by
  rw [upd_ne (ne_of_none e h)]
  exact e
theorem same_mut {H H' : Hp} {p : Addr} {o : HO} (e : Same H H') (h : H p = none) : Same H (upd H' p o) := fun a u ha => by
  rw [upd_ne (ne_of_none ha h)]
  exact e a u ha
theorem same_seqT {K : PySem.W.Frag} {H H' : Hp} {a : Addr} {xs : List V} (e : Same H H') (h : SqT K H a xs) : SqT K H' a xs := by
  rcases h with (h | ⟨o, h⟩) | h
  · exact .inl (.inl (e _ _ h))
  · exact .inl (.inr ⟨o, e _ _ h⟩)
  · exact .inr h
theorem sl {K : PySem.W.Frag} {H : Hp} {a : Addr} {xs : List V} (h : H a = some (.lst xs)) : SqL K H a xs := .inl (.inl h)
theorem stp {K : PySem.W.Frag} {H : Hp} {a : Addr} {xs : List V} (h : H a = some (.tup xs)) : SqT K H a xs := .inl (.inl h)
theorem sz {n : Nat} (h : n ≤ 100000) : n ≤ sizeLine := Nat.le_trans h (by decide)
theorem szl {n : Nat} (h : n < 100000) : n < sizeLine := Nat.lt_of_lt_of_le h (by decide)

/-! ### data -/
mutual
theorem dp_same {K : PySem.W.Frag} {H H' : Hp} (e : Same H H') : ∀ {v : V} {d : PyData}, Dp K H v d → Dp K H' v d
  | _, _, .non => .non
  | _, _, .bl b => .bl b
  | _, _, .int i => .int i
  | _, _, .str x => .str x
  | _, _, .lst s r => .lst (e.seq s) (dpa_same e r)
  | _, _, .tup s r => .tup (same_seqT e s) (dpa_same e r)
theorem dpa_same {K : PySem.W.Frag} {H H' : Hp} (e : Same H H') : ∀ {vs : List V} {ds : List PyData}, DpAll K H vs ds → DpAll K H' vs ds
  | _, _, .nil => .nil
  | _, _, .cons h r => .cons (dp_same e h) (dpa_same e r)
end
section
variable {K : PySem.W.Frag} {H : Hp}
theorem dp_int {v : V} {i : Int} (h : Dp K H v (.int i)) : v = .int i := by cases h; rfl
theorem dp_bool {v : V} {b : Bool} (h : Dp K H v (.bool b)) : v = .bl b := by cases h; rfl
theorem dp_str {v : V} {s : Str} (h : Dp K H v (.str s)) : v = .str s := by cases h; rfl
theorem dp_list {v : V} {ds : List PyData} (h : Dp K H v (.list ds)) : ∃ a xs, v = .ref a ∧ SqL K H a xs ∧ DpAll K H xs ds := by
  cases h with | lst s r => exact ⟨_, _, rfl, s, r⟩
theorem dp_tup {v : V} {ds : List PyData} (h : Dp K H v (.tuple ds)) : ∃ a xs, v = .ref a ∧ SqT K H a xs ∧ DpAll K H xs ds := by
  cases h with | tup s r => exact ⟨_, _, rfl, s, r⟩
theorem dp_tup2 {v : V} {c d : PyData} (h : Dp K H v (.tuple [c, d])) : ∃ a x y, v = .ref a ∧ SqT K H a [x, y] ∧ Dp K H x c ∧ Dp K H y d := by
  cases h with | tup s r =>
    cases r with | cons h1 r =>
      cases r with | cons h2 r =>
        cases r
        exact ⟨_, _, _, rfl, s, h1, h2⟩
theorem dp_pair {v : V} {a b : Int} (h : Dp K H v (.tuple [.int a, .int b])) : ∃ p, v = .ref p ∧ SqT K H p [.int a, .int b] := by
  obtain ⟨p, x, y, rfl, s, h1, h2⟩ := dp_tup2 h
  rw [dp_int h1, dp_int h2] at s
  exact ⟨p, rfl, s⟩
theorem dpa_ints : ∀ {ns : List Int} {vs : List V}, DpAll K H vs (ns.map PyData.int) → vs = ns.map V.int
  | [], _, h => by cases h; rfl
  | n :: r, _, h => by
    cases h with | cons h1 h2 => rw [dp_int h1, dpa_ints h2]; rfl
theorem dpa_of_ints : ∀ ns : List Int, DpAll K H (ns.map V.int) (ns.map PyData.int)
  | [] => .nil
  | n :: r => .cons (.int n) (dpa_of_ints r)
theorem dpa_len : ∀ {vs : List V} {ds : List PyData}, DpAll K H vs ds → vs.length = ds.length
  | _, _, .nil => rfl
  | _, _, .cons _ r => by simp [dpa_len r]
theorem dpa_get : ∀ {vs : List V} {ds : List PyData} {i : Nat} {v : V}, DpAll K H vs ds → vs[i]? = some v → ∃ d, ds[i]? = some d ∧ Dp K H v d
  | _, _, _, _, .nil, e => by simp at e
  | _, _, 0, _, .cons h _, e => by simp at e; subst e; exact ⟨_, rfl, h⟩
  | _, _, i + 1, _, .cons _ r, e => by
    obtain ⟨d, h1, h2⟩ := dpa_get (i := i) r (by simpa using e)
    exact ⟨d, by simpa using h1, h2⟩
theorem dpa_get2 : ∀ {vs : List V} {ds : List PyData} {i : Nat} {d : PyData}, DpAll K H vs ds → ds[i]? = some d → ∃ v, vs[i]? = some v ∧ Dp K H v d
  | _, _, _, _, .nil, e => by simp at e
  | _, _, 0, _, .cons h _, e => by simp at e; subst e; exact ⟨_, rfl, h⟩
  | _, _, i + 1, _, .cons _ r, e => by
    obtain ⟨d, h1, h2⟩ := dpa_get2 (i := i) r (by simpa using e)
    exact ⟨d, by simpa using h1, h2⟩
theorem dpa_app {vs ws : List V} {ds es : List PyData} : DpAll K H vs ds → DpAll K H ws es → DpAll K H (vs ++ ws) (ds ++ es)
  | .nil, r => r
  | .cons h t, r => .cons h (dpa_app t r)
/-- a list of ints -/
abbrev dInts (ns : List Int) : PyData := .list (ns.map PyData.int)
theorem dp_ints {v : V} {ns : List Int} (h : Dp K H v (dInts ns)) : ∃ a, v = .ref a ∧ SqL K H a (ns.map V.int) := by
  obtain ⟨a, xs, rfl, s, r⟩ := dp_list h
  rw [dpa_ints r] at s
  exact ⟨a, rfl, s⟩
theorem dp_of_ints {a : Addr} {ns : List Int} (h : SqL K H a (ns.map V.int)) : Dp K H (.ref a) (dInts ns) := .lst h (dpa_of_ints ns)
/-- a pair of ints -/
abbrev dPair (p : Int × Int) : PyData := .tuple [.int p.1, .int p.2]
theorem dp_of_pair {a : Addr} {x y : Int} (h : SqT K H a [.int x, .int y]) : Dp K H (.ref a) (dPair (x, y)) := .tup h (.cons (.int x) (.cons (.int y) .nil))
abbrev dPairs (ps : List (Int × Int)) : PyData := .list (ps.map dPair)
end

theorem dpairs_get {K : PySem.W.Frag} {H : Hp} {xs : List V} {ps : List (Int × Int)} {i : Nat} {x : V} (hxs : DpAll K H xs (ps.map dPair)) (hx : xs[i]? = some x) : ∃ p c, ps[i]? = some p ∧ x = .ref c ∧ SqT K H c [.int p.1, .int p.2] := by
  obtain ⟨d, hd, hdx⟩ := dpa_get hxs hx
  rw [List.getElem?_map] at hd
  obtain ⟨p, hp, rfl⟩ := Option.map_eq_some_iff.mp hd
  obtain ⟨c, rfl, hcs⟩ := dp_pair hdx
  exact ⟨p, c, hp, rfl, hcs⟩
/-- data that may be compared: no dicts, at most n deep -/
def Sh (n : Nat) (d : PyData) : Prop := d.canLay0 = true ∧ d.depth ≤ n
theorem Sh.shaped {n : Nat} {d : PyData} (h : Sh n d) (hn : n ≤ 64) : SeqAt.shaped d = true := by
  unfold SeqAt.shaped
  rw [h.1, decide_eq_true (Nat.le_trans h.2 hn)]; rfl
theorem Sh.mono {n m : Nat} {d : PyData} (h : Sh n d) (hn : n ≤ m) : Sh m d := ⟨h.1, Nat.le_trans h.2 hn⟩
theorem sh_int {n : Nat} {i : Int} : Sh n (.int i) := ⟨rfl, Nat.zero_le _⟩
theorem sh_bool {n : Nat} {b : Bool} : Sh n (.bool b) := ⟨rfl, Nat.zero_le _⟩
theorem sh_none {n : Nat} : Sh n .none := ⟨rfl, Nat.zero_le _⟩
theorem sh_all {n : Nat} : ∀ {ds : List PyData}, (∀ d ∈ ds, Sh n d) → PyData.canLayAll0 ds = true ∧ PyData.depthAll ds ≤ n
  | [], _ => ⟨rfl, Nat.zero_le _⟩
  | d :: r, h => by
    obtain ⟨h1, h2⟩ := sh_all (ds := r) fun x hx => h x (List.mem_cons_of_mem _ hx)
    obtain ⟨h3, h4⟩ := h d List.mem_cons_self
    refine ⟨?_, ?_⟩
    · show (PyData.canLay0 d && PyData.canLayAll0 r) = true
      rw [h3, h1]; rfl
    · show max d.depth (PyData.depthAll r) ≤ n
      omega
theorem sh_list {n : Nat} {ds : List PyData} (h : ∀ d ∈ ds, Sh n d) : Sh (n + 1) (.list ds) := by
  obtain ⟨h1, h2⟩ := sh_all h
  exact ⟨h1, by show PyData.depthAll ds + 1 ≤ n + 1; omega⟩
theorem sh_tup {n : Nat} {ds : List PyData} (h : ∀ d ∈ ds, Sh n d) : Sh (n + 1) (.tuple ds) := by
  obtain ⟨h1, h2⟩ := sh_all h
  exact ⟨h1, by show PyData.depthAll ds + 1 ≤ n + 1; omega⟩
theorem sh_ints {n : Nat} (ns : List Int) : Sh (n + 1) (dInts ns) := sh_list fun d hd => by
  obtain ⟨i, _, rfl⟩ := List.mem_map.mp hd
  exact sh_int
theorem sh_pair {n : Nat} (p : Int × Int) : Sh (n + 1) (dPair p) := sh_tup fun d hd => by
  rcases List.mem_cons.mp hd with rfl | hd
  · exact sh_int
  · rcases List.mem_cons.mp hd with rfl | hd
    · exact sh_int
    · cases hd
theorem sh_pairs {n : Nat} (ps : List (Int × Int)) : Sh (n + 2) (dPairs ps) := sh_list fun d hd => by
  obtain ⟨p, _, rfl⟩ := List.mem_map.mp hd
  exact sh_pair p
theorem sh_two {n : Nat} {c d : PyData} (h1 : Sh n c) (h2 : Sh n d) : Sh (n + 1) (.tuple [c, d]) := sh_tup fun x hx => by
  rcases List.mem_cons.mp hx with rfl | hx
  · exact h1
  · rcases List.mem_cons.mp hx with rfl | hx
    · exact h2
    · cases hx
theorem Sh.refl {n : Nat} {d : PyData} (h : Sh n d) : PyData.eqv d d = true := SeqAt.eqv_refl d h.1
theorem ff_iff {P : Prop} (h : ¬ P) : false = true ↔ P := ⟨fun z => (nomatch z), fun z => (h z).elim⟩
theorem tt_iff {P : Prop} (h : P) : true = true ↔ P := ⟨fun _ => h, fun _ => rfl⟩

theorem ixN_of {n : Nat} {i : Int} (h0 : 0 ≤ i) (h1 : i < n) : ixN n i = some i.toNat := by unfold ixN; rw [if_pos h0, if_pos h1]
theorem map_erase (ns : List Int) (i : Nat) : (ns.map V.int).eraseIdx i = (ns.eraseIdx i).map V.int := by
  induction ns generalizing i with
  | nil => rfl
  | cons x r ih => cases i with
    | zero => rfl
    | succ i => show V.int x :: (r.map V.int).eraseIdx i = _; rw [ih]; rfl
theorem erase_perm {α : Type} (l : List α) (i : Nat) (h : i < l.length) : (l[i] :: l.eraseIdx i).Perm l := by
  induction l generalizing i with
  | nil => exact absurd h (by simp)
  | cons x r ih => cases i with
    | zero => exact List.Perm.refl _
    | succ i =>
      have h' : i < r.length := by simpa using h
      show (r[i] :: x :: r.eraseIdx i).Perm (x :: r)
      exact (List.Perm.swap _ _ _).trans ((ih i h').cons x)
theorem getD_memI {ns : List Int} {i : Int} (h0 : 0 ≤ i) (h1 : i < ns.length) : ns.getD i.toNat 0 ∈ ns := by
  have h : i.toNat < ns.length := by omega
  rw [List.getD_eq_getElem?_getD, List.getElem?_eq_getElem h]
  exact List.getElem_mem h
theorem not_in2 {p a b : Addr} (h1 : p ≠ a) (h2 : p ≠ b) : p ∉ [a, b] := by
  intro z
  rcases List.mem_cons.mp z with z | z
  · exact h1 z
  · rcases List.mem_cons.mp z with z | z
    · exact h2 z
    · cases z

/-! ### readings, step by step -/
section
variable {K : PySem.W.Frag} {σ : L2.St} {H : Hp} {D : Ends} {Q : VK} {ta tb te : TE} {t u : TT} {s1 s2 : TS} {QT : Bool → Hp → Prop} {QA : List V → Hp → Prop} {tr : TA} {QS : L2.St → Hp → Prop}
theorem k_seq {nx : L2.St → Hp → Prop} {rt : VK} {bk ct : L2.St → Hp → Prop} (h : s1 ⟨s2 ⟨nx, rt, bk, ct⟩, rt, bk, ct⟩ σ H) : tSeq s1 s2 ⟨nx, rt, bk, ct⟩ σ H := h
theorem k_nx {nx : L2.St → Hp → Prop} {rt : VK} {bk ct : L2.St → Hp → Prop} (h : nx σ H) : Ends.nx ⟨nx, rt, bk, ct⟩ σ H := h
theorem k_next {nx : L2.St → Hp → Prop} {rt : VK} {bk ct : L2.St → Hp → Prop} (h : nx σ H) : tNext ⟨nx, rt, bk, ct⟩ σ H := h
theorem k_cont {nx : L2.St → Hp → Prop} {rt : VK} {bk ct : L2.St → Hp → Prop} (h : ct σ H) : tCont ⟨nx, rt, bk, ct⟩ σ H := h
theorem k_brk {nx : L2.St → Hp → Prop} {rt : VK} {bk ct : L2.St → Hp → Prop} (h : bk σ H) : tBreak ⟨nx, rt, bk, ct⟩ σ H := h
theorem k_set {nx : L2.St → Hp → Prop} {rt : VK} {bk ct : L2.St → Hp → Prop} {i : Nat} (h : te σ H fun x H1 => nx (σ.set i (some x)) H1) : tAsg te (gName i) ⟨nx, rt, bk, ct⟩ σ H := h
theorem k_asg {nx : L2.St → Hp → Prop} {rt : VK} {bk ct : L2.St → Hp → Prop} {g : TG} (h : te σ H fun x H1 => g x σ H1 nx) : tAsg te g ⟨nx, rt, bk, ct⟩ σ H := h
theorem k_drop {nx : L2.St → Hp → Prop} {rt : VK} {bk ct : L2.St → Hp → Prop} (h : te σ H fun _ H1 => nx σ H1) : tDrop te ⟨nx, rt, bk, ct⟩ σ H := h
theorem k_ret {nx : L2.St → Hp → Prop} {rt : VK} {bk ct : L2.St → Hp → Prop} (h : te σ H rt) : tRet te ⟨nx, rt, bk, ct⟩ σ H := h
theorem k_retN {nx : L2.St → Hp → Prop} {rt : VK} {bk ct : L2.St → Hp → Prop} (h : rt .non H) : tRetN ⟨nx, rt, bk, ct⟩ σ H := h
theorem k_aug {nx : L2.St → Hp → Prop} {rt : VK} {bk ct : L2.St → Hp → Prop} {i : Nat} {f : Int → Int → Int} {a : Int} (e : σ[i]? = some (some (.int a))) (h : te σ H fun y H1 => ipI f (.int a) y H1 fun z H2 => nx (σ.set i (some z)) H2) : tAug i te (ipI f) ⟨nx, rt, bk, ct⟩ σ H := ⟨_, e, h⟩
theorem k_augL {nx : L2.St → Hp → Prop} {rt : VK} {bk ct : L2.St → Hp → Prop} {to ti : TE} (h : to σ H fun o H1 => ti σ H1 fun i H2 => rGetL K o i H2 fun x H3 => te σ H3 fun y H4 => ipI (fun i j => i + j) x y H4 fun z H5 => rSetL o i z H5 fun H6 => nx σ H6) : xAugL K to ti te ⟨nx, rt, bk, ct⟩ σ H := h
theorem k_ipI {f : Int → Int → Int} {a b : Int} (h : Q (.int (f a b)) H) : ipI f (.int a) (.int b) H Q := ⟨a, b, rfl, rfl, h⟩
theorem k_if (h : t σ H fun b H1 => if b = true then s1 D σ H1 else s2 D σ H1) : tIfS t s1 s2 D σ H := h
theorem k_var {i : Nat} {v : V} (e : σ[i]? = some (some v)) (h : Q v H) : tVar i σ H Q := ⟨v, e, h⟩
theorem k_c {v : V} (h : Q v H) : tC v σ H Q := h
theorem k_op {r : R2} (h : ta σ H fun x H1 => tb σ H1 fun y H2 => r x y H2 Q) : tOp r ta tb σ H Q := h
theorem k_un {r : V → Hp → VK → Prop} (h : ta σ H fun x H1 => r x H1 Q) : tUn r ta σ H Q := h
theorem k_I0 {g : Int → Int → V} {i j : Int} (h : Q (g i j) H) : rI0 g (.int i) (.int j) H Q := ⟨i, j, rfl, rfl, h⟩
theorem k_I {C : Int → Int → Prop} {g : Int → Int → V} {i j : Int} (hc : C i j) (h : Q (g i j) H) : rI C g (.int i) (.int j) H Q := ⟨i, j, rfl, rfl, hc, h⟩
theorem k_add {i j : Int} (h : Q (.int (i + j)) H) : xAdd (.int i) (.int j) H Q := ⟨i, j, rfl, rfl, h⟩
theorem k_sub {i j : Int} (h : Q (.int (i - j)) H) : xSub (.int i) (.int j) H Q := ⟨i, j, rfl, rfl, h⟩
theorem k_mul {i j : Int} (hc : CMul i j) (h : Q (.int (i * j)) H) : xMul (.int i) (.int j) H Q := ⟨i, j, rfl, rfl, hc, h⟩
theorem k_mulW {i j : Int} (hc : CMulW i j) (h : Q (.int (i * j)) H) : xMulW (.int i) (.int j) H Q := ⟨i, j, rfl, rfl, hc, h⟩
theorem k_div {i j : Int} (hc : CDiv i j) (h : Q (.int (i / j)) H) : xDiv (.int i) (.int j) H Q := ⟨i, j, rfl, rfl, hc, h⟩
theorem k_divW {i j : Int} (hc : CDivW i j) (h : Q (.int (i / j)) H) : xDivW (.int i) (.int j) H Q := ⟨i, j, rfl, rfl, hc, h⟩
theorem k_mod {i j : Int} (hc : 0 < j) (h : Q (.int (i % j)) H) : xMod (.int i) (.int j) H Q := ⟨i, j, rfl, rfl, hc, h⟩
theorem k_pow {i j : Int} (hc : CPow i j) (h : Q (.int (i ^ j.toNat)) H) : xPow (.int i) (.int j) H Q := ⟨i, j, rfl, rfl, hc, h⟩
theorem k_lt {i j : Int} (h : Q (.bl (decide (i < j))) H) : xLt (.int i) (.int j) H Q := ⟨i, j, rfl, rfl, h⟩
theorem k_le {i j : Int} (h : Q (.bl (decide (i ≤ j))) H) : xLe (.int i) (.int j) H Q := ⟨i, j, rfl, rfl, h⟩
theorem k_gt {i j : Int} (h : Q (.bl (decide (j < i))) H) : xGt (.int i) (.int j) H Q := ⟨i, j, rfl, rfl, h⟩
theorem k_ge {i j : Int} (h : Q (.bl (decide (j ≤ i))) H) : xGe (.int i) (.int j) H Q := ⟨i, j, rfl, rfl, h⟩
theorem k_neg {i : Int} (h : Q (.int (-i)) H) : xNeg (.int i) H Q := ⟨i, rfl, h⟩
theorem k_U {g : Int → V} {i : Int} (h : Q (g i) H) : rU g (.int i) H Q := ⟨i, rfl, h⟩
theorem k_eqI {i j : Int} (h : Q (.bl (decide (i = j))) H) : rEq (.int i) (.int j) H Q := ⟨rfl, by
  have e : decide (V.int i = V.int j) = decide (i = j) := by
    by_cases c : i = j
    · rw [decide_eq_true c, decide_eq_true (by rw [c])]
    · rw [decide_eq_false c, decide_eq_false (fun z => c (V.int.inj z))]
  rw [e]; exact h⟩
theorem k_neI {i j : Int} (h : Q (.bl (!decide (i = j))) H) : rNe (.int i) (.int j) H Q := ⟨rfl, by
  have e : decide (V.int i = V.int j) = decide (i = j) := by
    by_cases c : i = j
    · rw [decide_eq_true c, decide_eq_true (by rw [c])]
    · rw [decide_eq_false c, decide_eq_false (fun z => c (V.int.inj z))]
  rw [e]; exact h⟩
theorem k_test (h : te σ H fun x H1 => ∃ k, x = .bl k ∧ QT k H1) : tTest te σ H QT := h
theorem k_B (h : te σ H fun x H1 => ∃ k, x = .bl k ∧ QT k H1) : tB te σ H QT := h
theorem k_bl {b : Bool} {R : Bool → Prop} (h : R b) : ∃ k, V.bl b = .bl k ∧ R k := ⟨b, rfl, h⟩
theorem k_and (h : t σ H fun c H1 => if c = true then u σ H1 QT else QT false H1) : tAnd t u σ H QT := h
theorem k_or (h : t σ H fun c H1 => if c = true then QT true H1 else u σ H1 QT) : tOr t u σ H QT := h
theorem k_not (h : t σ H fun c H1 => QT (!c) H1) : tNot t σ H QT := h
theorem k_notV (h : ta σ H fun x H1 => ∃ c, x = .bl c ∧ Q (.bl (!c)) H1) : tNotV ta σ H Q := h
theorem k_andV (h : ta σ H fun x H1 => ∃ c, x = .bl c ∧ if c = true then tb σ H1 Q else Q (.bl false) H1) : tAndV ta tb σ H Q := h
theorem k_orV (h : ta σ H fun x H1 => ∃ c, x = .bl c ∧ if c = true then Q (.bl true) H1 else tb σ H1 Q) : tOrV ta tb σ H Q := h
theorem k_cb {r : List V → Hp → VK → Prop} (h : tr σ H fun vs H1 => r vs H1 Q) : tCB r tr σ H Q := h
theorem k_nil (h : QA [] H) : tNil σ H QA := h
theorem k_cons (h : ta σ H fun x H1 => tr σ H1 fun xs H2 => QA (x :: xs) H2) : tCons ta tr σ H QA := h
theorem k_call {sp : Sp} {dvs : List V} {E : XK} (h : tr σ H fun vs H1 => sp (vs ++ dvs) H1 Q E) : tCall sp dvs E tr σ H Q := h
theorem k_len {p : Addr} {ys : List V} (hs : SqL K H p ys) (h : Q (.int ys.length) H) : rLenX K [.ref p] H Q := ⟨p, ys, rfl, .inl hs, h⟩
theorem k_len0 {p : Addr} (hs : H p = some (.lst [])) (h : Q (.int 0) H) : rLenX K [.ref p] H Q := ⟨p, [], rfl, .inl (sl hs), h⟩
theorem k_lenT {p : Addr} {ys : List V} (hs : SqT K H p ys) (h : Q (.int ys.length) H) : rLenX K [.ref p] H Q := ⟨p, ys, rfl, .inr hs, h⟩
theorem k_lenI {p : Addr} {ns : List Int} (hs : SqL K H p (ns.map V.int)) (h : Q (.int ns.length) H) : rLenX K [.ref p] H Q := ⟨p, _, rfl, .inl hs, by rw [List.length_map]; exact h⟩
theorem k_list {p : Addr} {ys : List V} (hs : SqL K H p ys) (h : ∀ l, H l = none → Q (.ref l) (upd H l (.lst ys))) : rListOf K [.ref p] H Q := ⟨p, ys, rfl, .inl hs, h⟩
theorem k_lst (h : tr σ H fun xs H1 => xs.length ≤ sizeLine ∧ ∀ p, H1 p = none → Q (.ref p) (upd H1 p (.lst xs))) : tLst tr σ H Q := h
theorem k_tup (h : tr σ H fun xs H1 => xs.length ≤ sizeLine ∧ ∀ p, H1 p = none → Q (.ref p) (upd H1 p (.tup xs))) : tTup tr σ H Q := h
theorem k_new {xs : List V} {R : Addr → Prop} (hn : xs.length ≤ 100000) (h : ∀ p, H p = none → R p) : xs.length ≤ sizeLine ∧ ∀ p, H p = none → R p := ⟨sz hn, h⟩
theorem k_gtup {n : Nat} {g : TGs} {a : Addr} {xs : List V} (hs : SqT K H a xs) (hn : xs.length = n) (h : g xs σ H QS) : gTup K n g (.ref a) σ H QS := ⟨a, xs, rfl, hs, hn, h⟩
theorem k_gunl {n : Nat} {g : TGs} {a : Addr} {xs : List V} (hs : SqL K H a xs) (hn : xs.length = n) (h : g xs σ H QS) : gUnl K n g (.ref a) σ H QS := ⟨a, xs, rfl, hs, hn, h⟩
theorem k_gcons {g : TG} {gs : TGs} {v : V} {r : List V} (h : g v σ H fun σ' H' => gs r σ' H' QS) : gCons g gs (v :: r) σ H QS := ⟨v, r, rfl, h⟩
theorem k_gnil (h : QS σ H) : gNil [] σ H QS := ⟨rfl, h⟩
theorem k_gname {i : Nat} {v : V} (h : QS (σ.set i (some v)) H) : gName i v σ H QS := h
theorem k_gsub {to ti : TE} {ts : TSet} {v : V} (h : to σ H fun o H1 => ti σ H1 fun i H2 => ts o i v H2 fun H3 => QS σ H3) : gSub to ti ts v σ H QS := h
theorem k_setL {p : Addr} {xs : List V} {k : Int} {j : Nat} {v : V} {QH : Hp → Prop} (hp : H p = some (.lst xs)) (hj : ixN xs.length k = some j) (h : QH (upd H p (.lst (xs.set j v)))) : rSetL (.ref p) (.int k) v H QH := ⟨p, xs, k, j, rfl, rfl, hp, hj, h⟩
theorem k_ixL {p : Addr} {xs : List V} {i : Int} {v : V} (hs : SqL K H p xs) (ha : atI xs i = some v) (h : Q v H) : rIxL K (.ref p) (.int i) H Q := ⟨p, xs, i, v, rfl, rfl, hs, ha, h⟩
theorem k_ixT {p : Addr} {xs : List V} {i : Int} {v : V} (hs : SqT K H p xs) (ha : atI xs i = some v) (h : Q v H) : rIxT K (.ref p) (.int i) H Q := ⟨p, xs, i, v, rfl, rfl, hs, ha, h⟩
theorem k_min {p : Addr} {ns : List Int} (hs : SqL K H p (ns.map V.int)) (h0 : 0 < ns.length) (h : ∀ m, m ∈ ns → (∀ y, y ∈ ns → m ≤ y) → Q (.int m) H) : rMin K [.ref p] H Q := ⟨p, ns, rfl, hs, h0, h⟩
theorem k_max {p : Addr} {ns : List Int} (hs : SqL K H p (ns.map V.int)) (h0 : 0 < ns.length) (h : ∀ m, m ∈ ns → (∀ y, y ∈ ns → y ≤ m) → Q (.int m) H) : rMax K [.ref p] H Q := ⟨p, ns, rfl, hs, h0, h⟩
theorem k_popI {p : Addr} {ns : List Int} {i : Int} (hp : H p = some (.lst (ns.map V.int))) (h0 : 0 ≤ i) (h1 : i < ns.length) (h2 : i < 1000000) (h : Q (.int (ns.getD i.toNat 0)) (upd H p (.lst ((ns.eraseIdx i.toNat).map V.int)))) : rPopAt (.ref p) [.int i] H Q := by
  refine ⟨p, _, i, i.toNat, .int (ns.getD i.toNat 0), rfl, rfl, hp, by omega, by omega, ?_, ?_, ?_⟩
  · exact (ixN_seq (ixN_of h0 (by rw [List.length_map]; exact h1))).1
  · have hh : i.toNat < ns.length := by omega
    rw [List.getElem?_map, List.getElem?_eq_getElem hh]
    simp [List.getD_eq_getElem?_getD, List.getElem?_eq_getElem hh]
  · have e : (ns.map V.int).eraseIdx i.toNat = (ns.eraseIdx i.toNat).map V.int := map_erase ns _
    rw [e]; exact h
theorem k_sortedI {a : Addr} {ns : List Int} (hs : SqL K H a (ns.map V.int)) (h : ∀ (ns' : List Int) (p : Addr), ns'.Perm ns → ns'.Pairwise (· ≤ ·) → H p = none → Q (.ref p) (upd H p (.lst (ns'.map V.int)))) : rSortedI K [.ref a] H Q := ⟨a, ns, rfl, hs, h⟩
theorem k_max2 {i j : Int} (h : Q (.int (if j > i then j else i)) H) : rMax2 [.int i, .int j] H Q := ⟨i, j, rfl, h⟩
theorem k_min2 {i j : Int} (h : Q (.int (if j < i then j else i)) H) : rMin2 [.int i, .int j] H Q := ⟨i, j, rfl, h⟩
theorem k_bm {T : String} {r : V → List V → Hp → VK → Prop} (h : ta σ H fun x H1 => tyV K T x H1 ∧ tr σ H1 fun xs H2 => r x xs H2 Q) : tBM K T r ta tr σ H Q := h
theorem k_bm0 {T : String} {r : V → List V → Hp → VK → Prop} (h : ta σ H fun x H1 => tyV K T x H1 ∧ r x [] H1 Q) : tBM0 K T r ta σ H Q := h
theorem k_cat {p q : Addr} {xs ys : List V} (hp : H p = some (.lst xs)) (hq : H q = some (.lst ys)) (hz : xs.length + ys.length ≤ 100000) (h : ∀ l, H l = none → Q (.ref l) (upd H l (.lst (xs ++ ys)))) : rCat (.ref p) (.ref q) H Q := ⟨p, q, xs, ys, rfl, rfl, hp, hq, sz hz, h⟩
theorem k_tyL {p : Addr} {xs : List V} {R : Prop} (hp : SqL K H p xs) (h : R) : tyV K "list" (.ref p) H ∧ R := ⟨.inl ⟨rfl, _, hp⟩, h⟩
theorem k_append {p : Addr} {xs : List V} {y : V} (hp : H p = some (.lst xs)) (hn : xs.length < 100000) (h : Q .non (upd H p (.lst (xs ++ [y])))) : rAppend (.ref p) [y] H Q := ⟨p, xs, y, rfl, rfl, hp, szl hn, h⟩
theorem k_itT {b : Bool} {A B : Prop} (e : b = true) (h : A) : if b = true then A else B := by rw [if_pos e]; exact h
theorem k_itF {b : Bool} {A B : Prop} (e : b = false) (h : B) : if b = true then A else B := by rw [e]; exact h
theorem iteNT {A B : Prop} (h : B) : if (!true) = true then A else B := iteF h
theorem iteNF {A B : Prop} (h : A) : if (!false) = true then A else B := iteT h
theorem k_itDT {c A B : Prop} [Decidable c] (e : c) (h : A) : if decide c = true then A else B := by rw [if_pos (decide_eq_true e)]; exact h
theorem k_itDF {c A B : Prop} [Decidable c] (e : ¬ c) (h : B) : if decide c = true then A else B := by rw [decide_eq_false e]; exact h
theorem k_itNT {c A B : Prop} [Decidable c] (e : ¬ c) (h : A) : if (!decide c) = true then A else B := by rw [decide_eq_false e]; exact h
theorem k_itNF {c A B : Prop} [Decidable c] (e : c) (h : B) : if (!decide c) = true then A else B := by rw [decide_eq_true e]; exact h
theorem k_for {nx : L2.St → Hp → Prop} {rt : VK} {bk ct : L2.St → Hp → Prop} {wi : TI} {g : TG} {tb : TS} (h : wi σ H fun J H1 => ∃ W : Nat → Nat → L2.St → Hp → Prop, (∃ m, W 0 m σ H1) ∧ ∀ i m σ H, W i m σ H →
  (J.stop i H ∧ nx σ H) ∨ (J.go i H ∧ ∃ N : L2.St → Hp → Prop, (∀ σ' H', N σ' H' → ∃ m', m' < m ∧ W (i + 1) m' σ' H') ∧ ∀ x H', J.yld i H x H' → g x σ H' fun σ2 H2 => tb ⟨N, rt, nx, N⟩ σ2 H2)) : tFor wi g tb ⟨nx, rt, bk, ct⟩ σ H := h
theorem forL {nx : L2.St → Hp → Prop} {rt : VK} {b : Addr} {xs : List V} {g : TG} {tb : TS} (hs0 : SqL K H b xs) (Pv : Nat → L2.St → Hp → Prop) (h0 : Pv 0 σ H) (hl : ∀ i σ H, i ≤ xs.length → Pv i σ H → SqL K H b xs)
    (hs : ∀ (i : Nat) x σ H, xs[i]? = some x → Pv i σ H → g x σ H fun σ2 H2 => tb ⟨Pv (i + 1), rt, nx, Pv (i + 1)⟩ σ2 H2) (hd : ∀ σ H, Pv xs.length σ H → nx σ H) :
    ∃ a, V.ref b = .ref a ∧ (∃ xs, SqL K H a xs) ∧ ∃ W : Nat → Nat → L2.St → Hp → Prop, (∃ m, W 0 m σ H) ∧ ∀ i m σ H, W i m σ H →
      ((Itl K a).stop i H ∧ nx σ H) ∨ ((Itl K a).go i H ∧ ∃ N : L2.St → Hp → Prop, (∀ σ' H', N σ' H' → ∃ m', m' < m ∧ W (i + 1) m' σ' H') ∧ ∀ x H', (Itl K a).yld i H x H' → g x σ H' fun σ2 H2 => tb ⟨N, rt, nx, N⟩ σ2 H2) :=
  ⟨b, rfl, ⟨xs, hs0⟩, for_list (D := ⟨nx, rt, fun _ _ => False, fun _ _ => False⟩) Pv h0 hl hs hd⟩
theorem forR {nx : L2.St → Hp → Prop} {rt : VK} {lo : Int} {n : Nat} {g : TG} {tb : TS} (Pv : Nat → L2.St → Hp → Prop) (h0 : Pv 0 σ H)
    (hs : ∀ (i : Nat) σ H, i < n → Pv i σ H → g (.int (lo + i)) σ H fun σ2 H2 => tb ⟨Pv (i + 1), rt, nx, Pv (i + 1)⟩ σ2 H2) (hd : ∀ σ H, Pv n σ H → nx σ H) :
    ∃ W : Nat → Nat → L2.St → Hp → Prop, (∃ m, W 0 m σ H) ∧ ∀ i m σ H, W i m σ H →
      ((Itr lo n).stop i H ∧ nx σ H) ∨ ((Itr lo n).go i H ∧ ∃ N : L2.St → Hp → Prop, (∀ σ' H', N σ' H' → ∃ m', m' < m ∧ W (i + 1) m' σ' H') ∧ ∀ x H', (Itr lo n).yld i H x H' → g x σ H' fun σ2 H2 => tb ⟨N, rt, nx, N⟩ σ2 H2) :=
  for_range (D := ⟨nx, rt, fun _ _ => False, fun _ _ => False⟩) Pv h0 hs hd
theorem k_while {nx : L2.St → Hp → Prop} {rt : VK} {bk ct : L2.St → Hp → Prop} {c : TT} {tb : TS} (h : ∃ W : Nat → L2.St → Hp → Prop, (∃ m, W m σ H) ∧ ∀ m σ H, W m σ H →
  c σ H fun b H1 => if b = true then ∃ N : L2.St → Hp → Prop, (∀ σ' H', N σ' H' → ∃ m', m' < m ∧ W m' σ' H') ∧ tb ⟨N, rt, nx, N⟩ σ H1 else nx σ H1) : tWhile c tb ⟨nx, rt, bk, ct⟩ σ H := h
theorem whileW {nx : L2.St → Hp → Prop} {rt : VK} {bk ct : L2.St → Hp → Prop} {c : TT} {tb : TS} (W : Nat → L2.St → Hp → Prop) {m0 : Nat} (h0 : W m0 σ H)
    (hs : ∀ m σ H, W m σ H → c σ H fun b H1 => if b = true then tb ⟨fun σ' H' => ∃ m', m' < m ∧ W m' σ' H', rt, nx, fun σ' H' => ∃ m', m' < m ∧ W m' σ' H'⟩ σ H1 else nx σ H1)
    (mono : ∀ σ H (Q Q' : Bool → Hp → Prop), (∀ b H1, Q b H1 → Q' b H1) → c σ H Q → c σ H Q') : tWhile c tb ⟨nx, rt, bk, ct⟩ σ H := by
  refine ⟨W, ⟨m0, h0⟩, fun m σ H w => mono σ H _ _ (fun b H1 q => ?_) (hs m σ H w)⟩
  cases b with
  | true => exact ⟨_, fun σ' H' h => h, q⟩
  | false => exact q
theorem k_iList {R : It → Hp → Prop} (h : te σ H fun x H1 => ∃ a, x = .ref a ∧ (∃ xs, SqL K H1 a xs) ∧ R (Itl K a) H1) : iList K te σ H R := h
theorem k_iTup {R : It → Hp → Prop} (h : te σ H fun x H1 => ∃ a, x = .ref a ∧ (∃ xs, SqT K H1 a xs) ∧ R (Itt K a) H1) : iTup K te σ H R := h
theorem k_iZip {R : It → Hp → Prop} (h : tr σ H fun vs H1 => ∃ a b xs ys, vs = [.ref a, .ref b] ∧ SqL K H1 a xs ∧ SqL K H1 b ys ∧ R (Itz K a b) H1) : iZip K tr σ H R := h
theorem k_iEnum {R : It → Hp → Prop} (h : tr σ H fun vs H1 => ∃ a xs, vs = [.ref a] ∧ SqL K H1 a xs ∧ R (Ite K a) H1) : iEnum K tr σ H R := h
theorem k_iRng1 {R : It → Hp → Prop} (h : tr σ H fun vs H1 => ∃ j : Int, vs = [.int j] ∧ -(2 ^ 62) ≤ j ∧ j < 2 ^ 62 ∧ R (Itr 0 j.toNat) H1) : iRng1 tr σ H R := h
theorem k_iRng2 {R : It → Hp → Prop} (h : tr σ H fun vs H1 => ∃ i j : Int, vs = [.int i, .int j] ∧ (-(2 ^ 62) ≤ i ∧ i < 2 ^ 62 ∧ -(2 ^ 62) ≤ j ∧ j < 2 ^ 62) ∧ R (Itr i (j - i).toNat) H1) : iRng2 tr σ H R := h
theorem k_rj1 {j : Int} {R : Int → Prop} (h1 : -(2 ^ 62) ≤ j) (h2 : j < 2 ^ 62) (h : R j) : ∃ j' : Int, [V.int j] = [.int j'] ∧ -(2 ^ 62) ≤ j' ∧ j' < 2 ^ 62 ∧ R j' := ⟨j, rfl, h1, h2, h⟩
theorem k_rj2 {i j : Int} {R : Int → Int → Prop} (h1 : -(2 ^ 62) ≤ i ∧ i < 2 ^ 62 ∧ -(2 ^ 62) ≤ j ∧ j < 2 ^ 62) (h : R i j) : ∃ i' j' : Int, [V.int i, V.int j] = [.int i', .int j'] ∧ (-(2 ^ 62) ≤ i' ∧ i' < 2 ^ 62 ∧ -(2 ^ 62) ≤ j' ∧ j' < 2 ^ 62) ∧ R i' j' := ⟨i, j, rfl, h1, h⟩
theorem k_it {c A B : Prop} [Decidable c] (h1 : c → A) (h2 : ¬ c → B) : if decide c = true then A else B := by
  by_cases h : c
  · rw [if_pos (decide_eq_true h)]; exact h1 h
  · rw [decide_eq_false h]; exact h2 h
theorem k_itn {c A B : Prop} [Decidable c] (h1 : ¬ c → A) (h2 : c → B) : if (!decide c) = true then A else B := by
  by_cases h : c
  · rw [decide_eq_true h]; exact h2 h
  · rw [decide_eq_false h]; exact h1 h
theorem k_itb {b : Bool} {A B : Prop} (h1 : b = true → A) (h2 : b = false → B) : if b = true then A else B := by
  cases b with
  | true => exact h1 rfl
  | false => exact h2 rfl
theorem k_isi {x : V} {c : String} {tx : String} {b : Bool} (ht : TyX K H x (.type tx)) (hb : kitB tx c = some b) (h : Q (.bl b) H) : rIsi K [x, .ty c] H Q := ⟨x, .ty c, .type tx, .type c, b, rfl, .ty c, ht, kit_ty hb, h⟩

theorem ty_list {p : Addr} {xs : List V} (h : SqL K H p xs) : TyX K H (.ref p) (.type "list") := by
  rcases h with (h | ⟨o, h⟩) | ⟨o, its, n, h, c, _⟩
  · exact .base (.lst h)
  · exact .base (.frz h)
  · exact .kList h c
theorem k_isiL {p : Addr} {xs : List V} (hs : SqL K H p xs) (h : Q (.bl true) H) : rIsi K [.ref p, .ty "list"] H Q := k_isi (ty_list hs) (by decide +kernel) h
theorem k_isiLI {i : Int} (h : Q (.bl false) H) : rIsi K [.int i, .ty "list"] H Q := k_isi (.base (.int i)) (by decide +kernel) h
theorem k_isiI {i : Int} (h : Q (.bl true) H) : rIsi K [.int i, .ty "int"] H Q := k_isi (.base (.int i)) (by decide +kernel) h
theorem k_isiB {i : Int} (h : Q (.bl false) H) : rIsi K [.int i, .ty "bool"] H Q := k_isi (.base (.int i)) (by decide +kernel) h
theorem inV_ints (x : Int) : ∀ ns : List Int, inV (.int x) (ns.map V.int) = decide (x ∈ ns)
  | [] => rfl
  | n :: r => by
    show (eqV (.int n) (.int x) || inV (.int x) (r.map V.int)) = decide (x ∈ n :: r)
    rw [inV_ints x r]
    show ((n == x) || decide (x ∈ r)) = decide (x ∈ n :: r)
    by_cases h : n = x
    · subst h; simp
    · have : (n == x) = false := by simp [h]
      rw [this, Bool.false_or]
      have h' : ¬ x = n := fun e => h e.symm
      simp [h']
theorem flat_ints : ∀ ns : List Int, (ns.map V.int).all flatV = true
  | [] => rfl
  | _ :: r => by show (true && (r.map V.int).all flatV) = true; rw [flat_ints r]; rfl
theorem k_inI {p : Addr} {ns : List Int} {x : Int} (hs : SqL K H p (ns.map V.int)) (h : Q (.bl (decide (x ∈ ns))) H) : rIn K false (.int x) (.ref p) H Q :=
  ⟨p, _, rfl, .inl hs, rfl, flat_ints ns, by rw [if_neg Bool.false_ne_true, inV_ints]; exact h⟩
theorem k_notInI {p : Addr} {ns : List Int} {x : Int} (hs : SqL K H p (ns.map V.int)) (h : Q (.bl (!decide (x ∈ ns))) H) : rIn K true (.int x) (.ref p) H Q :=
  ⟨p, _, rfl, .inl hs, rfl, flat_ints ns, by rw [if_pos rfl, inV_ints]; exact h⟩
theorem k_intB {b : Bool} (h : Q (.int (if b then 1 else 0)) H) : rIntOf [.bl b] H Q := .inr ⟨b, rfl, h⟩
theorem at_int {ns : List Int} {i : Int} (h0 : 0 ≤ i) (h1 : i < ns.length) : atI (ns.map V.int) i = some (.int (ns.getD i.toNat 0)) := by
  obtain ⟨k, rfl⟩ : ∃ k : Nat, i = k := ⟨i.toNat, by omega⟩
  have h : k < ns.length := by omega
  refine atI_nat ?_
  rw [List.getElem?_map]
  simp [List.getElem?_eq_getElem h, List.getD_eq_getElem?_getD]
theorem k_ixI {p : Addr} {ns : List Int} {i : Int} (hs : SqL K H p (ns.map V.int)) (h0 : 0 ≤ i) (h1 : i < ns.length) (h : Q (.int (ns.getD i.toNat 0)) H) : rIxL K (.ref p) (.int i) H Q := k_ixL hs (at_int h0 h1) h
theorem k_eqD {x y : V} {c d : PyData} {n : Nat} (hx : Dp K H x c) (hy : Dp K H y d) (h1 : Sh n c) (h2 : Sh n d) (hn : n ≤ 64) (h : Q (.bl (PyData.eqv c d)) H) : rEqD K x y H Q := ⟨c, d, hx, hy, h1.shaped hn, h2.shaped hn, h⟩
theorem k_neD {x y : V} {c d : PyData} {n : Nat} (hx : Dp K H x c) (hy : Dp K H y d) (h1 : Sh n c) (h2 : Sh n d) (hn : n ≤ 64) (h : Q (.bl (!PyData.eqv c d)) H) : rNeD K x y H Q := ⟨c, d, hx, hy, h1.shaped hn, h2.shaped hn, h⟩
theorem k_neD0 {x y : V} {c : PyData} {n : Nat} (hx : Dp K H x c) (hy : Dp K H y c) (h1 : Sh n c) (hn : n ≤ 64) (h : Q (.bl false) H) : rNeD K x y H Q := k_neD hx hy h1 h1 hn (by rw [h1.refl]; exact h)
theorem k_eqD1 {x y : V} {c : PyData} {n : Nat} (hx : Dp K H x c) (hy : Dp K H y c) (h1 : Sh n c) (hn : n ≤ 64) (h : Q (.bl true) H) : rEqD K x y H Q := k_eqD hx hy h1 h1 hn (by rw [h1.refl]; exact h)
theorem k_getI {p : Addr} {ns : List Int} {i : Int} (hs : SqL K H p (ns.map V.int)) (h0 : 0 ≤ i) (h1 : i < ns.length) (h : Q (.int (ns.getD i.toNat 0)) H) : rGetL K (.ref p) (.int i) H Q := ⟨p, _, i, _, rfl, rfl, hs, h0, at_int h0 h1, h⟩
theorem k_setI {p : Addr} {ns : List Int} {k v : Int} {QH : Hp → Prop} (hp : H p = some (.lst (ns.map V.int))) (h0 : 0 ≤ k) (h1 : k < ns.length) (h : QH (upd H p (.lst ((ns.set k.toNat v).map V.int)))) : rSetL (.ref p) (.int k) (.int v) H QH :=
  ⟨p, _, k, k.toNat, rfl, rfl, hp, ixN_of h0 (by rw [List.length_map]; exact h1), by rw [List.map_set] at h; exact h⟩
theorem k_rep {p : Addr} {xs : List V} {k : Int} (hp : H p = some (.lst xs)) (h0 : 0 ≤ k) (h1 : k < 100000) (h2 : xs.length * k.toNat ≤ 100000) (h : ∀ l, H l = none → Q (.ref l) (upd H l (.lst (List.replicate k.toNat xs).flatten))) : rRep (.ref p) (.int k) H Q := ⟨p, k, xs, rfl, rfl, hp, by omega, by omega, sz h2, h⟩
theorem k_eqB {a b : Bool} (h : Q (.bl (decide (a = b))) H) : rEq (.bl a) (.bl b) H Q := ⟨rfl, by
  have e : decide (V.bl a = V.bl b) = decide (a = b) := by cases a <;> cases b <;> decide
  rw [e]; exact h⟩
theorem k_neB {a b : Bool} (h : Q (.bl (!decide (a = b))) H) : rNe (.bl a) (.bl b) H Q := ⟨rfl, by
  have e : decide (V.bl a = V.bl b) = decide (a = b) := by cases a <;> cases b <;> decide
  rw [e]; exact h⟩
/-- new objects, the heap behind as a letter -/
theorem k_newL {xs : List V} (hn : xs.length ≤ 100000) (h : ∀ p H', H p = none → Same H H' → H' p = some (.lst xs) → Q (.ref p) H') : xs.length ≤ sizeLine ∧ ∀ p, H p = none → Q (.ref p) (upd H p (.lst xs)) :=
  ⟨sz hn, fun p np => h p _ np (same_new np) upd_same⟩
theorem k_newT {xs : List V} (hn : xs.length ≤ 100000) (h : ∀ p H', H p = none → Same H H' → H' p = some (.tup xs) → Q (.ref p) H') : xs.length ≤ sizeLine ∧ ∀ p, H p = none → Q (.ref p) (upd H p (.tup xs)) :=
  ⟨sz hn, fun p np => h p _ np (same_new np) upd_same⟩
theorem k_listN {p : Addr} {ys : List V} (hs : SqL K H p ys) (h : ∀ l H', H l = none → Same H H' → H' l = some (.lst ys) → Q (.ref l) H') : rListOf K [.ref p] H Q := k_list hs fun l nl => h l _ nl (same_new nl) upd_same
theorem k_slL {a : Addr} {xs : List V} {lo hi : Option Int} (hs : SqL K H a xs) (h : ∀ p H', H p = none → Same H H' → H' p = some (.lst (cutV xs lo hi)) → Q (.ref p) H') : rSlL K (.ref a) lo hi H Q := ⟨a, xs, rfl, hs, fun p np => h p _ np (same_new np) upd_same⟩
theorem k_sl {r : V → Option Int → Option Int → Hp → VK → Prop} {tl th : TO} (h : te σ H fun x H1 => tl σ H1 fun l H2 => th σ H2 fun u H3 => r x l u H3 Q) : tSl r te tl th σ H Q := h
theorem k_nopart {QO : Option Int → Hp → Prop} (h : QO none H) : tNoPart σ H QO := h
theorem k_part {QO : Option Int → Hp → Prop} (h : te σ H fun x H1 => ∃ i, x = .int i ∧ QO (some i) H1) : tPart te σ H QO := h
theorem k_int {i : Int} {R : Int → Prop} (h : R i) : ∃ j, V.int i = .int j ∧ R j := ⟨i, rfl, h⟩
theorem rg_ints (a b : Int) : rgV a b = ((List.range (b - a).toNat).map fun i => a + (i : Nat)).map V.int := by
  unfold rgV; rw [List.map_map]; rfl
theorem k_listRg {tg : L2.St → Hp → (Int → Int → Hp → Prop) → Prop} (h : tg σ H fun a b H1 => RgOk a b ∧ ∀ q, H1 q = none → Q (.ref q) (upd H1 q (.lst (rgV a b)))) : tLstRg tg σ H Q := h
theorem k_rg1 {QR : Int → Int → Hp → Prop} (h : ta σ H fun x H1 => ∃ n, x = .int n ∧ QR 0 n H1) : tRg1 ta σ H QR := h
theorem k_rg2 {QR : Int → Int → Hp → Prop} (h : ta σ H fun x H1 => tb σ H1 fun y H2 => ∃ i j, x = .int i ∧ y = .int j ∧ QR i j H2) : tRg2 ta tb σ H QR := h
theorem k_int2 {i j : Int} {R : Int → Int → Prop} (h : R i j) : ∃ i' j', V.int i = .int i' ∧ V.int j = .int j' ∧ R i' j' := ⟨i, j, rfl, rfl, h⟩
theorem k_rgN {a b : Int} (hr : RgOk a b) (h : ∀ p H', H p = none → Same H H' → H' p = some (.lst (rgV a b)) → Q (.ref p) H') : RgOk a b ∧ ∀ q, H q = none → Q (.ref q) (upd H q (.lst (rgV a b))) := ⟨hr, fun q nq => h q _ nq (same_new nq) upd_same⟩
theorem dp_of_int {i j : Int} (e : i = j) : Dp K H (.int i) (.int j) := e ▸ .int i
end
/-! ### heaps with some places out of sight -/
def hid (S : List Addr) (H : Hp) : Hp := fun b => if b ∈ S then none else H b
theorem hid_ne {S : List Addr} {H : Hp} {b : Addr} (h : b ∉ S) : hid S H b = H b := if_neg h
theorem hid_in {S : List Addr} {H : Hp} {b : Addr} (h : b ∈ S) : hid S H b = none := if_pos h
theorem hid_some {S : List Addr} {H : Hp} {b : Addr} {o : HO} (h : hid S H b = some o) : b ∉ S ∧ H b = some o := by
  unfold hid at h
  split at h
  · cases h
  · exact ⟨by assumption, h⟩
theorem hid_same (S : List Addr) (H : Hp) : Same (hid S H) H := fun b o h => (hid_some h).2
theorem hid_mono {S : List Addr} {H H' : Hp} (e : Same H H') : Same (hid S H) (hid S H') := fun b o h => by
  obtain ⟨n, h⟩ := hid_some h
  rw [hid_ne n]
  exact e b o h
theorem hid_sub {S S' : List Addr} {H : Hp} (h : ∀ a ∈ S, a ∈ S') : Same (hid S' H) (hid S H) := fun b o e => by
  obtain ⟨n, e⟩ := hid_some e
  rw [hid_ne fun z => n (h b z)]
  exact e
/-- a change at a hidden place -/
theorem hid_upd {S : List Addr} {H : Hp} {p : Addr} {o : HO} (h : p ∈ S) : hid S (upd H p o) = hid S H := by
  funext b
  unfold hid
  split
  · rfl
  · rename_i n
    rw [upd_ne fun e => n (by rw [e]; exact h)]
theorem same_hid_upd {S : List Addr} {H0 H : Hp} {p : Addr} {o : HO} (e : Same H0 (hid S H)) (h : p ∈ S) : Same H0 (hid S (upd H p o)) := by rw [hid_upd h]; exact e
/-- what the law's data says stays when a fresh object is changed -/
theorem same_hid_mut {S : List Addr} {H0 H : Hp} {p : Addr} {o : HO} (e : Same H0 (hid S H)) (h : H0 p = none) : Same H0 (hid S (upd H p o)) := fun b u hb => by
  have := e b u hb
  obtain ⟨n, q⟩ := hid_some this
  rw [hid_ne n, upd_ne (ne_of_none hb h)]
  exact q
theorem hid_more {S S' : List Addr} {H H' : Hp} (e : Same (hid S H) (hid S H')) (h : ∀ a ∈ S, a ∈ S') : Same (hid S' H) (hid S' H') := fun b o hb => by
  obtain ⟨n, q⟩ := hid_some hb
  have n' : b ∉ S := fun z => n (h b z)
  have := e b o (by rw [hid_ne n']; exact q)
  rw [hid_ne n'] at this
  rw [hid_ne n]
  exact this
theorem same_hid_new {S : List Addr} {H : Hp} {p : Addr} {o : HO} (h : H p = none) : Same (hid S H) (hid S (upd H p o)) := hid_mono (same_new h)

theorem same_of_hid {S : List Addr} {H0 H1 H2 : Hp} (h : Same H0 H1) (f : ∀ a ∈ S, H0 a = none) (e : Same (hid S H1) (hid S H2)) : Same H0 H2 := fun b o hb => by
  have n : b ∉ S := fun z => by rw [f b z] at hb; cases hb
  have := e b o (by rw [hid_ne n]; exact h b o hb)
  rw [hid_ne n] at this
  exact this
theorem free1 {H0 : Hp} {p : Addr} (h : H0 p = none) : ∀ a ∈ [p], H0 a = none := fun a z => by rw [List.mem_singleton.mp z]; exact h
theorem cutTo {ns : List Int} (k : Nat) : cutV (ns.map V.int) none (some (k : Int)) = (ns.take k).map V.int := by
  unfold cutV
  rw [HT.sIx_none, HT.sIx_nat, List.drop_zero, List.length_map, Nat.sub_zero, List.map_take]
  by_cases h : k ≤ ns.length
  · rw [Nat.min_eq_left h]
  · rw [Nat.min_eq_right (by omega), List.take_of_length_le (by simp), List.take_of_length_le (by simp; omega)]
/-! ### the law's purse: a list of the cells and the turn -/
structure Pu (H : Hp) (pu ce : Addr) (n : Nat) (t : Int) : Prop where
  hp : H pu = some (.lst [.ref ce, .int t])
  hc : ∃ cs : List Int, cs.length = n ∧ H ce = some (.lst (cs.map V.int))
  n0 : 0 < n
  n1 : n ≤ 63
  t0 : 0 ≤ t
theorem Pu.ne {H : Hp} {pu ce : Addr} {n : Nat} {t : Int} (h : Pu H pu ce n t) : pu ≠ ce := fun e => by
  obtain ⟨cs, hl, hc⟩ := h.hc
  have hp := h.hp
  rw [e, hc] at hp
  cases cs with
  | nil => injection hp with hp; injection hp with hp; cases hp
  | cons x r => injection hp with hp; injection hp with hp; injection hp with h1 h2; cases h1
theorem Pu.fresh {H : Hp} {pu ce : Addr} {n : Nat} {t : Int} (h : Pu H pu ce n t) {p : Addr} (np : H p = none) : p ∉ [pu, ce] := fun z => by
  obtain ⟨cs, hl, hc⟩ := h.hc
  rcases List.mem_cons.mp z with rfl | z
  · rw [h.hp] at np; cases np
  · rcases List.mem_cons.mp z with rfl | z
    · rw [hc] at np; cases np
    · cases z
theorem Pu.upd {H : Hp} {pu ce : Addr} {n : Nat} {t : Int} (h : Pu H pu ce n t) {p : Addr} {o : HO} (np : p ∉ [pu, ce]) : Pu (upd H p o) pu ce n t := by
  have h1 : pu ≠ p := fun e => np (by rw [e]; exact List.mem_cons_self)
  have h2 : ce ≠ p := fun e => np (by rw [e]; exact List.mem_cons_of_mem _ List.mem_cons_self)
  obtain ⟨cs, hl, hc⟩ := h.hc
  exact ⟨by rw [upd_ne h1]; exact h.hp, ⟨cs, hl, by rw [upd_ne h2]; exact hc⟩, h.n0, h.n1, h.t0⟩
theorem Pu.same {H H' : Hp} {pu ce : Addr} {n : Nat} {t : Int} (h : Pu H pu ce n t) (e : Same H H') : Pu H' pu ce n t := by
  obtain ⟨cs, hl, hc⟩ := h.hc
  exact ⟨e _ _ h.hp, ⟨cs, hl, e _ _ hc⟩, h.n0, h.n1, h.t0⟩
/-- an object that is none of the purse's stays as it is -/
theorem keeps {S : List Addr} {H H' : Hp} (e : Same (hid S H) (hid S H')) {b : Addr} {o : HO} (hb : H b = some o) (n : b ∉ S) : H' b = some o := by
  have := e b o (by rw [hid_ne n]; exact hb)
  rw [hid_ne n] at this
  exact this
theorem fresh_hid {S : List Addr} {H H' : Hp} (e : Same (hid S H) (hid S H')) {b : Addr} (hb : H' b = none) (n : b ∉ S) : H b = none := by
  have := e.free (l := b) (by rw [hid_ne n]; exact hb)
  rw [hid_ne n] at this
  exact this
theorem getD_set_len {α : Type} (l : List α) (i : Nat) (v : α) : (l.set i v).length = l.length := List.length_set
theorem map_set_int (cs : List Int) (i : Nat) (v : Int) : (cs.map V.int).set i (.int v) = (cs.set i v).map V.int := by rw [List.map_set]

/-! ### the law's other purse: [a number, a mark, how many were drawn] -/
structure Le (H : Hp) (pu : Addr) (k : Int) : Prop where
  hp : ∃ x f : Int, H pu = some (.lst [.int x, .int f, .int k]) ∧ (f = 0 → 0 ≤ x ∧ x < 2147483629)
  k0 : 0 ≤ k
theorem Le.fresh {H : Hp} {pu : Addr} {k : Int} (h : Le H pu k) {p : Addr} (np : H p = none) : p ∉ [pu] := fun z => by
  obtain ⟨x, f, hp, _⟩ := h.hp
  rw [List.mem_singleton.mp z, hp] at np
  cases np
theorem Le.upd {H : Hp} {pu : Addr} {k : Int} (h : Le H pu k) {p : Addr} {o : HO} (np : p ∉ [pu]) : Le (upd H p o) pu k := by
  obtain ⟨x, f, hp, hx⟩ := h.hp
  exact ⟨⟨x, f, by rw [upd_ne fun e => np (by rw [e]; exact List.mem_singleton.mpr rfl)]; exact hp, hx⟩, h.k0⟩
theorem Le.same {H H' : Hp} {pu : Addr} {k : Int} (h : Le H pu k) (e : Same H H') : Le H' pu k := by
  obtain ⟨x, f, hp, hx⟩ := h.hp
  exact ⟨⟨x, f, e _ _ hp, hx⟩, h.k0⟩

/-! ### comprehensions whose block leaves the heap as it is -/
section
variable {K : PySem.W.Frag} {σ : L2.St} {H1 : Hp} {Q : VK} {g : TG} {tt : TT} {te : TE} {vs : List Nat}
theorem k_lc {wi : TI} (h : wi σ H1 fun J H1 => ∀ D, H1 D = none → ∃ W : Nat → Nat → Hp → Prop, (∃ m, W 0 m (upd H1 D (.lst []))) ∧ ∀ i m H, W i m H →
  (J.stop i H ∧ Q (.ref D) H) ∨ (J.go i H ∧ ∃ Nx : Hp → Prop, (∀ H', Nx H' → ∃ m', m' < m ∧ W (i + 1) m' H') ∧ ∀ x H', J.yld i H x H' → g x (wipe σ vs) H' fun σ2 H2 => wipe σ2 vs = wipe σ vs ∧ tt σ2 H2 fun b H3 =>
    if b = true then te σ2 H3 fun y H4 => ∃ acc, H4 D = some (.lst acc) ∧ acc.length < sizeLine ∧ Nx (upd H4 D (.lst (acc ++ [y]))) else Nx H3)) : tLc wi g tt te vs σ H1 Q := h
theorem k_wipe {σ' : L2.St} {R : Prop} (e : wipe σ' vs = wipe σ vs) (h : R) : wipe σ' vs = wipe σ vs ∧ R := ⟨e, h⟩
theorem k_yes {QT : Bool → Hp → Prop} (h : QT true H1) : tYes σ H1 QT := h
theorem take_filterMap {α β : Type} {f : α → Option β} {ps : List α} {i : Nat} {p : α} (h : ps[i]? = some p) : (ps.take (i + 1)).filterMap f = (ps.take i).filterMap f ++ (f p).toList := by
  rw [List.take_add_one, h, List.filterMap_append]
  simp [List.filterMap_cons]
  cases f p <;> rfl
/-- over a list of which ps tells the items -/
theorem lc_pure {QD : Addr → Hp → Prop} {α : Type} {a : Addr} {xs : List V} (hs : SqL K H1 a xs) (ps : List α) (hl : xs.length = ps.length) (hz : ps.length ≤ 50000) (f : α → Option V)
    (step : ∀ (i : Nat) x p H', xs[i]? = some x → ps[i]? = some p → Same H1 H' → ∀ (R : V → Hp → Prop) (R0 : Hp → Prop), (∀ y, f p = some y → R y H') → (f p = none → R0 H') →
      g x (wipe σ vs) H' fun σ2 H2 => wipe σ2 vs = wipe σ vs ∧ tt σ2 H2 fun b H3 => if b = true then te σ2 H3 R else R0 H3)
    (h : ∀ D H', H1 D = none → Same H1 H' → H' D = some (.lst (ps.filterMap f)) → QD D H') :
    ∃ a', V.ref a = .ref a' ∧ (∃ xs, SqL K H1 a' xs) ∧ ∀ D, H1 D = none → ∃ W : Nat → Nat → Hp → Prop, (∃ m, W 0 m (upd H1 D (.lst []))) ∧ ∀ i m H, W i m H →
      ((Itl K a').stop i H ∧ QD D H) ∨ ((Itl K a').go i H ∧ ∃ Nx : Hp → Prop, (∀ H', Nx H' → ∃ m', m' < m ∧ W (i + 1) m' H') ∧ ∀ x H', (Itl K a').yld i H x H' → g x (wipe σ vs) H' fun σ2 H2 => wipe σ2 vs = wipe σ vs ∧ tt σ2 H2 fun b H3 =>
        if b = true then te σ2 H3 fun y H4 => ∃ acc, H4 D = some (.lst acc) ∧ acc.length < sizeLine ∧ Nx (upd H4 D (.lst (acc ++ [y]))) else Nx H3) := by
  refine ⟨a, rfl, ⟨xs, hs⟩, fun D nD => lc_list (xs := xs) (fun i H => Same H1 H ∧ H D = some (.lst ((ps.take i).filterMap f))) ⟨same_new nD, by rw [upd_same]; simp⟩ (fun i H _ e => e.1.seq hs) ?_ ?_⟩
  · rintro i x H hx ⟨sm, hD⟩
    have hi : i < xs.length := (List.getElem?_eq_some_iff.mp hx).1
    obtain ⟨p, hp⟩ : ∃ p, ps[i]? = some p := ⟨ps[i]'(by omega), List.getElem?_eq_getElem (by omega)⟩
    have tk := take_filterMap (f := f) hp
    refine step i x p H hx hp sm _ _ (fun y hy => ⟨_, hD, szl ?_, same_mut sm nD, ?_⟩) (fun hn => ⟨sm, ?_⟩)
    · have := List.length_filterMap_le f (ps.take i)
      rw [List.length_take] at this
      omega
    · rw [upd_same, tk, hy]; rfl
    · rw [tk, hn, hD]; simp
  · rintro H ⟨sm, hD⟩
    rw [hl, List.take_length] at hD
    exact h D H nD sm hD
/-- the same where a turn may make new objects -/
theorem lc_grow {QD : Addr → Hp → Prop} {α : Type} {a : Addr} {xs : List V} (hs : SqL K H1 a xs) (ps : List α) (hl : xs.length = ps.length) (hz : ps.length ≤ 50000) (f : α → Option V)
    (step : ∀ (i : Nat) x p H', xs[i]? = some x → ps[i]? = some p → Same H1 H' → ∀ (R : V → Hp → Prop) (R0 : Hp → Prop), (∀ y H'', f p = some y → Same H' H'' → R y H'') → (∀ H'', f p = none → Same H' H'' → R0 H'') →
      g x (wipe σ vs) H' fun σ2 H2 => wipe σ2 vs = wipe σ vs ∧ tt σ2 H2 fun b H3 => if b = true then te σ2 H3 R else R0 H3)
    (h : ∀ D H', H1 D = none → Same H1 H' → H' D = some (.lst (ps.filterMap f)) → QD D H') :
    ∃ a', V.ref a = .ref a' ∧ (∃ xs, SqL K H1 a' xs) ∧ ∀ D, H1 D = none → ∃ W : Nat → Nat → Hp → Prop, (∃ m, W 0 m (upd H1 D (.lst []))) ∧ ∀ i m H, W i m H →
      ((Itl K a').stop i H ∧ QD D H) ∨ ((Itl K a').go i H ∧ ∃ Nx : Hp → Prop, (∀ H', Nx H' → ∃ m', m' < m ∧ W (i + 1) m' H') ∧ ∀ x H', (Itl K a').yld i H x H' → g x (wipe σ vs) H' fun σ2 H2 => wipe σ2 vs = wipe σ vs ∧ tt σ2 H2 fun b H3 =>
        if b = true then te σ2 H3 fun y H4 => ∃ acc, H4 D = some (.lst acc) ∧ acc.length < sizeLine ∧ Nx (upd H4 D (.lst (acc ++ [y]))) else Nx H3) := by
  refine ⟨a, rfl, ⟨xs, hs⟩, fun D nD => lc_list (xs := xs) (fun i H => Same H1 H ∧ H D = some (.lst ((ps.take i).filterMap f))) ⟨same_new nD, by rw [upd_same]; simp⟩ (fun i H _ e => e.1.seq hs) ?_ ?_⟩
  · rintro i x H hx ⟨sm, hD⟩
    have hi : i < xs.length := (List.getElem?_eq_some_iff.mp hx).1
    obtain ⟨p, hp⟩ : ∃ p, ps[i]? = some p := ⟨ps[i]'(by omega), List.getElem?_eq_getElem (by omega)⟩
    have tk := take_filterMap (f := f) hp
    refine step i x p H hx hp sm _ _ (fun y H'' hy s2 => ⟨_, s2 _ _ hD, szl ?_, same_mut (sm.trans s2) nD, ?_⟩) (fun H'' hn s2 => ⟨sm.trans s2, ?_⟩)
    · have := List.length_filterMap_le f (ps.take i)
      rw [List.length_take] at this
      omega
    · rw [upd_same, tk, hy]; rfl
    · rw [tk, hn, s2 _ _ hD]; simp
  · rintro H ⟨sm, hD⟩
    rw [hl, List.take_length] at hD
    exact h D H nD sm hD
theorem range_take {n i : Nat} (h : i < n) : (List.range n)[i]? = some i := by simp [h]
/-- over a range -/
theorem lc_pureR {QD : Addr → Hp → Prop} {lo : Int} {n : Nat} (hz : n ≤ 50000) (f : Nat → Option V)
    (step : ∀ (i : Nat) H', i < n → Same H1 H' → ∀ (R : V → Hp → Prop) (R0 : Hp → Prop), (∀ y, f i = some y → R y H') → (f i = none → R0 H') →
      g (.int (lo + (i : Nat))) (wipe σ vs) H' fun σ2 H2 => wipe σ2 vs = wipe σ vs ∧ tt σ2 H2 fun b H3 => if b = true then te σ2 H3 R else R0 H3)
    (h : ∀ D H', H1 D = none → Same H1 H' → H' D = some (.lst ((List.range n).filterMap f)) → QD D H') :
    ∀ D, H1 D = none → ∃ W : Nat → Nat → Hp → Prop, (∃ m, W 0 m (upd H1 D (.lst []))) ∧ ∀ i m H, W i m H →
      ((Itr lo n).stop i H ∧ QD D H) ∨ ((Itr lo n).go i H ∧ ∃ Nx : Hp → Prop, (∀ H', Nx H' → ∃ m', m' < m ∧ W (i + 1) m' H') ∧ ∀ x H', (Itr lo n).yld i H x H' → g x (wipe σ vs) H' fun σ2 H2 => wipe σ2 vs = wipe σ vs ∧ tt σ2 H2 fun b H3 =>
        if b = true then te σ2 H3 fun y H4 => ∃ acc, H4 D = some (.lst acc) ∧ acc.length < sizeLine ∧ Nx (upd H4 D (.lst (acc ++ [y]))) else Nx H3) := by
  refine fun D nD => lc_range (fun i H => Same H1 H ∧ H D = some (.lst (((List.range n).take i).filterMap f))) ⟨same_new nD, by rw [upd_same]; simp⟩ ?_ ?_
  · rintro i H hi ⟨sm, hD⟩
    have tk := take_filterMap (f := f) (range_take hi)
    refine step i H hi sm _ _ (fun y hy => ⟨_, hD, szl ?_, same_mut sm nD, ?_⟩) (fun hn => ⟨sm, ?_⟩)
    · have := List.length_filterMap_le f ((List.range n).take i)
      rw [List.length_take, List.length_range] at this
      omega
    · rw [upd_same, tk, hy]; rfl
    · rw [tk, hn, hD]; simp
  · rintro H ⟨sm, hD⟩
    rw [List.take_of_length_le (by simp)] at hD
    exact h D H nD sm hD
end
/-! ### min, max of a pair -/
def rMinT (K : PySem.W.Frag) : List V → Hp → VK → Prop := fun xs H Q => ∃ (p : Addr) (a b : Int), xs = [.ref p] ∧ SqT K H p [.int a, .int b] ∧ Q (.int (min a b)) H
def rMaxT (K : PySem.W.Frag) : List V → Hp → VK → Prop := fun xs H Q => ∃ (p : Addr) (a b : Int), xs = [.ref p] ∧ SqT K H p [.int a, .int b] ∧ Q (.int (max a b)) H
theorem reads_int {h : Heap} {v : Value} {n : Int} {as : List Addr} (r : Reads h v (.int n) as) : ∃ t, v = .int n t := by
  cases r; exact ⟨_, rfl⟩
theorem alike2 (a b : Int) : PySem.W.AlikeAll [.int a, .int b] := by
  refine ⟨fun x hx y hy => ?_, fun x hx => ?_⟩
  · simp only [List.mem_cons, List.not_mem_nil, or_false] at hx hy
    rcases hx with rfl | rfl <;> rcases hy with rfl | rfl <;> rfl
  · simp only [List.mem_cons, List.not_mem_nil, or_false] at hx
    rcases hx with rfl | rfl <;> (intro z; cases z)
theorem q_minT {X : Cx} (hc : X.calm = true) (hu : X.A.units + 64 < cLine) : CallR X (.builtin "min") (rMinT X.K) := by
  intro pins s σ H vs us Q I r h
  obtain ⟨p, a, b, rfl, hs, q⟩ := h
  obtain ⟨its, rv, hl, _⟩ := I.tuple hs
  rw [Vals.ref1 r]
  have ri : IntsAre its [a, b] := Vals.ints (ns := [a, b]) rv
  refine PySem.W.min_tuple_data (x := .int a) (xs := [.int b]) (as := []) (I.ok.hd hc) hl (ri.reads _) (alike2 a b) ?_ fun i v h' tk bs hi rd hk => ?_
  · have : PyData.depthAll [.int a, .int b] = 0 := rfl
    omega
  · rw [show PySem.W.minD (.int a) [.int b] = .int (min a b) from PySem.W.minD_ints a [b]] at rd
    obtain ⟨t, rfl⟩ := reads_int rd
    exact ⟨.int _, H, I.kept hk, ⟨_, rfl⟩, q⟩
theorem q_maxT {X : Cx} (hc : X.calm = true) (hu : X.A.units + 64 < cLine) : CallR X (.builtin "max") (rMaxT X.K) := by
  intro pins s σ H vs us Q I r h
  obtain ⟨p, a, b, rfl, hs, q⟩ := h
  obtain ⟨its, rv, hl, _⟩ := I.tuple hs
  rw [Vals.ref1 r]
  have ri : IntsAre its [a, b] := Vals.ints (ns := [a, b]) rv
  refine PySem.W.max_tuple_data (x := .int a) (xs := [.int b]) (as := []) (I.ok.hd hc) hl (ri.reads _) (alike2 a b) ?_ fun i v h' tk bs hi rd hk => ?_
  · have : PyData.depthAll [.int a, .int b] = 0 := rfl
    omega
  · rw [show PySem.W.maxD (.int a) [.int b] = .int (max a b) from PySem.W.maxD_ints a [b]] at rd
    obtain ⟨t, rfl⟩ := reads_int rd
    exact ⟨.int _, H, I.kept hk, ⟨_, rfl⟩, q⟩
theorem k_minT {K : PySem.W.Frag} {H : Hp} {Q : VK} {p : Addr} {a b : Int} (hs : SqT K H p [.int a, .int b]) (h : Q (.int (min a b)) H) : rMinT K [.ref p] H Q := ⟨p, a, b, rfl, hs, h⟩
theorem k_maxT {K : PySem.W.Frag} {H : Hp} {Q : VK} {p : Addr} {a b : Int} (hs : SqT K H p [.int a, .int b]) (h : Q (.int (max a b)) H) : rMaxT K [.ref p] H Q := ⟨p, a, b, rfl, hs, h⟩
end Cm

namespace Cm
open PySem PySem.Spec PyProof.Rows L2
/-! ### steps of a reading, found by instances -/
class Stp (p : Prop) (q : outParam Prop) : Prop where
  run : q → p
class Stps (p : Prop) (q : outParam Prop) : Prop where
  run : q → p
class Stps1 (p : Prop) (q : outParam Prop) : Prop where
  run : q → p
instance (priority := low) stps_nil {p : Prop} : Stps p p := ⟨id⟩
instance (priority := high) stps_cons {p q r : Prop} [a : Stp p q] [b : Stps q r] : Stps p r := ⟨fun h => a.run (b.run h)⟩
instance stps_one {p q r : Prop} [a : Stp p q] [b : Stps q r] : Stps1 p r := ⟨fun h => a.run (b.run h)⟩
theorem go {p q : Prop} [a : Stps1 p q] (h : q) : p := a.run h
class Slot (σ : L2.St) (i : Nat) (v : outParam V) : Prop where
  get : σ[i]? = some (some v)
instance {v : V} {r : L2.St} : Slot (some v :: r) 0 v := ⟨rfl⟩
instance {x : Option V} {v : V} {r : L2.St} {i : Nat} [a : Slot r i v] : Slot (x :: r) (i + 1) v := ⟨a.get⟩
class Put (σ : L2.St) (i : Nat) (v : Option V) (σ' : outParam L2.St) : Prop where
  eq : σ.set i v = σ'
instance {x v : Option V} {r : L2.St} : Put (x :: r) 0 v (v :: r) := ⟨rfl⟩
instance {x v : Option V} {r r' : L2.St} {i : Nat} [a : Put r i v r'] : Put (x :: r) (i + 1) v (x :: r') := ⟨by rw [List.set_cons_succ, a.eq]⟩
instance {σ σ0 σ' : L2.St} {j : Nat} {w : Option V} {i : Nat} {v : Option V} [a : Put σ j w σ0] [b : Put σ0 i v σ'] : Put (List.set σ j w) i v σ' := ⟨by rw [a.eq, b.eq]⟩
instance {σ σ0 : L2.St} {j : Nat} {w : Option V} {i : Nat} {v : V} [a : Put σ j w σ0] [b : Slot σ0 i v] : Slot (List.set σ j w) i v := ⟨by rw [a.eq, b.get]⟩
class Wip (σ : L2.St) (vs : List Nat) (σ' : outParam L2.St) : Prop where
  eq : wipe σ vs = σ'
instance {σ : L2.St} : Wip σ [] σ := ⟨rfl⟩
instance {σ σ' σ'' : L2.St} {i : Nat} {vs : List Nat} [b : Wip σ vs σ'] [a : Put σ' i none σ''] : Wip σ (i :: vs) σ'' := ⟨by
  show (wipe σ vs).set i none = σ''
  rw [b.eq, a.eq]⟩
instance {σ σ0 σ' : L2.St} {vs : List Nat} {i : Nat} {v : Option V} [a : Wip σ vs σ0] [b : Put σ0 i v σ'] : Put (wipe σ vs) i v σ' := ⟨by rw [a.eq, b.eq]⟩
/-- a new list, a new tuple -/
def newL (xs : List V) (H : Hp) (Q : VK) : Prop := xs.length ≤ sizeLine ∧ ∀ p, H p = none → Q (.ref p) (upd H p (.lst xs))
def newT (xs : List V) (H : Hp) (Q : VK) : Prop := xs.length ≤ sizeLine ∧ ∀ p, H p = none → Q (.ref p) (upd H p (.tup xs))
def newR (a b : Int) (H : Hp) (Q : VK) : Prop := RgOk a b ∧ ∀ q, H q = none → Q (.ref q) (upd H q (.lst (rgV a b)))
theorem kL {xs : List V} {H : Hp} {Q : VK} (hn : xs.length ≤ 100000) (h : ∀ p H', H p = none → Same H H' → H' p = some (.lst xs) → Q (.ref p) H') : newL xs H Q := ⟨sz hn, fun p np => h p _ np (same_new np) upd_same⟩
theorem kT {xs : List V} {H : Hp} {Q : VK} (hn : xs.length ≤ 100000) (h : ∀ p H', H p = none → Same H H' → H' p = some (.tup xs) → Q (.ref p) H') : newT xs H Q := ⟨sz hn, fun p np => h p _ np (same_new np) upd_same⟩
theorem kR {a b : Int} {H : Hp} {Q : VK} (hr : RgOk a b) (h : ∀ p H', H p = none → Same H H' → H' p = some (.lst (rgV a b)) → Q (.ref p) H') : newR a b H Q := ⟨hr, fun q nq => h q _ nq (same_new nq) upd_same⟩
section
variable {K : PySem.W.Frag} {σ σ' : L2.St} {H : Hp} {D : Ends} {Q : VK} {ta tb tc te to ti : TE} {t u : TT} {s1 s2 : TS} {QT : Bool → Hp → Prop} {QA : List V → Hp → Prop} {tr : TA} {QS : L2.St → Hp → Prop} {nx bk ct : L2.St → Hp → Prop} {rt : VK} {g : TG} {gs : TGs} {i j : Nat} {v w : V} {a b : Int} {wi : TI} {tS : TS}
instance : Stp (tSeq s1 s2 ⟨nx, rt, bk, ct⟩ σ H) (s1 ⟨s2 ⟨nx, rt, bk, ct⟩, rt, bk, ct⟩ σ H) := ⟨k_seq⟩
instance : Stp (tNext ⟨nx, rt, bk, ct⟩ σ H) (nx σ H) := ⟨k_next⟩
instance : Stp (tCont ⟨nx, rt, bk, ct⟩ σ H) (ct σ H) := ⟨k_cont⟩
instance : Stp (tBreak ⟨nx, rt, bk, ct⟩ σ H) (bk σ H) := ⟨k_brk⟩
instance : Stp (tAsg te g ⟨nx, rt, bk, ct⟩ σ H) (te σ H fun x H1 => g x σ H1 nx) := ⟨k_asg⟩
instance : Stp (tDrop te ⟨nx, rt, bk, ct⟩ σ H) (te σ H fun _ H1 => nx σ H1) := ⟨k_drop⟩
instance : Stp (tRet te ⟨nx, rt, bk, ct⟩ σ H) (te σ H rt) := ⟨k_ret⟩
instance : Stp (tRetN ⟨nx, rt, bk, ct⟩ σ H) (rt .non H) := ⟨k_retN⟩
instance {f : Int → Int → Int} [e : Slot σ i (.int a)] : Stp (tAug i te (ipI f) ⟨nx, rt, bk, ct⟩ σ H) (te σ H fun y H1 => ipI f (.int a) y H1 fun z H2 => gName i z σ H2 nx) := ⟨fun h => k_aug e.get h⟩
instance {f : Int → Int → Int} : Stp (ipI f (.int a) (.int b) H Q) (Q (.int (f a b)) H) := ⟨k_ipI⟩
instance : Stp (xAugL K to ti te ⟨nx, rt, bk, ct⟩ σ H) (to σ H fun o H1 => ti σ H1 fun i H2 => rGetL K o i H2 fun x H3 => te σ H3 fun y H4 => ipI (fun i j => i + j) x y H4 fun z H5 => rSetL o i z H5 fun H6 => nx σ H6) := ⟨k_augL⟩
instance : Stp (tIfS t s1 s2 D σ H) (t σ H fun b H1 => if b = true then s1 D σ H1 else s2 D σ H1) := ⟨k_if⟩
instance [e : Slot σ i v] : Stp (tVar i σ H Q) (Q v H) := ⟨fun h => k_var e.get h⟩
instance : Stp (tC v σ H Q) (Q v H) := ⟨k_c⟩
instance {r : R2} : Stp (tOp r ta tb σ H Q) (ta σ H fun x H1 => tb σ H1 fun y H2 => r x y H2 Q) := ⟨k_op⟩
instance {r : V → Hp → VK → Prop} : Stp (tUn r ta σ H Q) (ta σ H fun x H1 => r x H1 Q) := ⟨k_un⟩
instance : Stp (xAdd (.int a) (.int b) H Q) (Q (.int (a + b)) H) := ⟨k_add⟩
instance : Stp (xSub (.int a) (.int b) H Q) (Q (.int (a - b)) H) := ⟨k_sub⟩
instance : Stp (xLt (.int a) (.int b) H Q) (Q (.bl (decide (a < b))) H) := ⟨k_lt⟩
instance : Stp (xLe (.int a) (.int b) H Q) (Q (.bl (decide (a ≤ b))) H) := ⟨k_le⟩
instance : Stp (xGt (.int a) (.int b) H Q) (Q (.bl (decide (b < a))) H) := ⟨k_gt⟩
instance : Stp (xGe (.int a) (.int b) H Q) (Q (.bl (decide (b ≤ a))) H) := ⟨k_ge⟩
instance : Stp (xNeg (.int a) H Q) (Q (.int (-a)) H) := ⟨k_neg⟩
instance : Stp (rEq (.int a) (.int b) H Q) (Q (.bl (decide (a = b))) H) := ⟨k_eqI⟩
instance : Stp (rNe (.int a) (.int b) H Q) (Q (.bl (!decide (a = b))) H) := ⟨k_neI⟩
instance {a b : Bool} : Stp (rEq (.bl a) (.bl b) H Q) (Q (.bl (decide (a = b))) H) := ⟨k_eqB⟩
instance {a b : Bool} : Stp (rNe (.bl a) (.bl b) H Q) (Q (.bl (!decide (a = b))) H) := ⟨k_neB⟩
theorem k_eqNN (h : Q (.bl true) H) : rEq .non .non H Q := ⟨rfl, h⟩
theorem k_isN0 (h : Q (.bl true) H) : xIsN .non .non H Q := ⟨rfl, h⟩
theorem k_isNr {p : Addr} (h : Q (.bl false) H) : xIsN (.ref p) .non H Q := ⟨rfl, by rw [decide_eq_false (by intro z; cases z)]; exact h⟩
theorem k_isNi (h : Q (.bl false) H) : xIsN (.int a) .non H Q := ⟨rfl, by rw [decide_eq_false (by intro z; cases z)]; exact h⟩
theorem k_notN0 (h : Q (.bl false) H) : xNotN .non .non H Q := ⟨rfl, h⟩
theorem k_notNr {p : Addr} (h : Q (.bl true) H) : xNotN (.ref p) .non H Q := ⟨rfl, by rw [decide_eq_false (by intro z; cases z)]; exact h⟩
theorem k_notNi (h : Q (.bl true) H) : xNotN (.int a) .non H Q := ⟨rfl, by rw [decide_eq_false (by intro z; cases z)]; exact h⟩
instance : Stp (xIsN .non .non H Q) (Q (.bl true) H) := ⟨k_isN0⟩
instance {p : Addr} : Stp (xIsN (.ref p) .non H Q) (Q (.bl false) H) := ⟨k_isNr⟩
instance : Stp (xIsN (.int a) .non H Q) (Q (.bl false) H) := ⟨k_isNi⟩
instance : Stp (xNotN .non .non H Q) (Q (.bl false) H) := ⟨k_notN0⟩
instance {p : Addr} : Stp (xNotN (.ref p) .non H Q) (Q (.bl true) H) := ⟨k_notNr⟩
instance : Stp (xNotN (.int a) .non H Q) (Q (.bl true) H) := ⟨k_notNi⟩
instance : Stp (tTest te σ H QT) (te σ H fun x H1 => ∃ k, x = .bl k ∧ QT k H1) := ⟨k_test⟩
instance : Stp (tB te σ H QT) (te σ H fun x H1 => ∃ k, x = .bl k ∧ QT k H1) := ⟨k_B⟩
instance {b : Bool} {R : Bool → Prop} : Stp (∃ k, V.bl b = .bl k ∧ R k) (R b) := ⟨k_bl⟩
instance {R : Int → Prop} : Stp (∃ j, V.int a = .int j ∧ R j) (R a) := ⟨k_int⟩
instance {R : Int → Int → Prop} : Stp (∃ i' j', V.int a = .int i' ∧ V.int b = .int j' ∧ R i' j') (R a b) := ⟨k_int2⟩
instance : Stp (tAnd t u σ H QT) (t σ H fun c H1 => if c = true then u σ H1 QT else QT false H1) := ⟨k_and⟩
instance : Stp (tOr t u σ H QT) (t σ H fun c H1 => if c = true then QT true H1 else u σ H1 QT) := ⟨k_or⟩
instance : Stp (tNot t σ H QT) (t σ H fun c H1 => QT (!c) H1) := ⟨k_not⟩
instance : Stp (tNotV ta σ H Q) (ta σ H fun x H1 => ∃ c, x = .bl c ∧ Q (.bl (!c)) H1) := ⟨k_notV⟩
instance : Stp (tAndV ta tb σ H Q) (ta σ H fun x H1 => ∃ c, x = .bl c ∧ if c = true then tb σ H1 Q else Q (.bl false) H1) := ⟨k_andV⟩
instance : Stp (tOrV ta tb σ H Q) (ta σ H fun x H1 => ∃ c, x = .bl c ∧ if c = true then Q (.bl true) H1 else tb σ H1 Q) := ⟨k_orV⟩
instance {r : List V → Hp → VK → Prop} : Stp (tCB r tr σ H Q) (tr σ H fun vs H1 => r vs H1 Q) := ⟨k_cb⟩
instance : Stp (tNil σ H QA) (QA [] H) := ⟨k_nil⟩
instance : Stp (tCons ta tr σ H QA) (ta σ H fun x H1 => tr σ H1 fun xs H2 => QA (x :: xs) H2) := ⟨k_cons⟩
instance {sp : Sp} {E : XK} : Stp (tCall sp [] E tr σ H Q) (tr σ H fun vs H1 => sp vs H1 Q E) := ⟨fun h => k_call (by simpa only [List.append_nil] using h)⟩
instance : Stp (tLst tr σ H Q) (tr σ H fun xs H1 => newL xs H1 Q) := ⟨k_lst⟩
instance : Stp (tTup tr σ H Q) (tr σ H fun xs H1 => newT xs H1 Q) := ⟨k_tup⟩
instance {r : List V} : Stp (gCons g gs (v :: r) σ H QS) (g v σ H fun σ' H' => gs r σ' H' QS) := ⟨k_gcons⟩
instance : Stp (gNil [] σ H QS) (QS σ H) := ⟨k_gnil⟩
instance [e : Put σ i (some v) σ'] : Stp (gName i v σ H QS) (QS σ' H) := ⟨fun h => k_gname (by rw [e.eq]; exact h)⟩
instance {ts : TSet} : Stp (gSub to ti ts v σ H QS) (to σ H fun o H1 => ti σ H1 fun i H2 => ts o i v H2 fun H3 => QS σ H3) := ⟨k_gsub⟩
instance : Stp (rMax2 [.int a, .int b] H Q) (Q (.int (if b > a then b else a)) H) := ⟨k_max2⟩
instance : Stp (rMin2 [.int a, .int b] H Q) (Q (.int (if b < a then b else a)) H) := ⟨k_min2⟩
instance {T : String} {r : V → List V → Hp → VK → Prop} : Stp (tBM K T r ta tr σ H Q) (ta σ H fun x H1 => tyV K T x H1 ∧ tr σ H1 fun xs H2 => r x xs H2 Q) := ⟨k_bm⟩
instance {T : String} {r : V → List V → Hp → VK → Prop} : Stp (tBM0 K T r ta σ H Q) (ta σ H fun x H1 => tyV K T x H1 ∧ r x [] H1 Q) := ⟨k_bm0⟩
instance {A B : Prop} {i : Decidable (true = true)} : Stp (@ite Prop (true = true) i A B) A := ⟨fun h => by rw [if_pos rfl]; exact h⟩
instance {A B : Prop} {i : Decidable (false = true)} : Stp (@ite Prop (false = true) i A B) B := ⟨fun h => by rw [if_neg (by simp)]; exact h⟩
instance {A B : Prop} {i : Decidable ((!true) = true)} : Stp (@ite Prop ((!true) = true) i A B) B := ⟨fun h => by rw [if_neg (by simp)]; exact h⟩
instance {A B : Prop} {i : Decidable ((!false) = true)} : Stp (@ite Prop ((!false) = true) i A B) A := ⟨fun h => by rw [if_pos (by simp)]; exact h⟩
instance : Stp (tFor wi g tS ⟨nx, rt, bk, ct⟩ σ H) (wi σ H fun J H1 => ∃ W : Nat → Nat → L2.St → Hp → Prop, (∃ m, W 0 m σ H1) ∧ ∀ i m σ H, W i m σ H →
  (J.stop i H ∧ nx σ H) ∨ (J.go i H ∧ ∃ N : L2.St → Hp → Prop, (∀ σ' H', N σ' H' → ∃ m', m' < m ∧ W (i + 1) m' σ' H') ∧ ∀ x H', J.yld i H x H' → g x σ H' fun σ2 H2 => tS ⟨N, rt, nx, N⟩ σ2 H2)) := ⟨k_for⟩
instance {R : It → Hp → Prop} : Stp (iList K te σ H R) (te σ H fun x H1 => ∃ a, x = .ref a ∧ (∃ xs, SqL K H1 a xs) ∧ R (Itl K a) H1) := ⟨k_iList⟩
instance {R : It → Hp → Prop} : Stp (iTup K te σ H R) (te σ H fun x H1 => ∃ a, x = .ref a ∧ (∃ xs, SqT K H1 a xs) ∧ R (Itt K a) H1) := ⟨k_iTup⟩
instance {R : It → Hp → Prop} : Stp (iZip K tr σ H R) (tr σ H fun vs H1 => ∃ a b xs ys, vs = [.ref a, .ref b] ∧ SqL K H1 a xs ∧ SqL K H1 b ys ∧ R (Itz K a b) H1) := ⟨k_iZip⟩
instance {R : It → Hp → Prop} : Stp (iEnum K tr σ H R) (tr σ H fun vs H1 => ∃ a xs, vs = [.ref a] ∧ SqL K H1 a xs ∧ R (Ite K a) H1) := ⟨k_iEnum⟩
instance {R : It → Hp → Prop} : Stp (iRng1 tr σ H R) (tr σ H fun vs H1 => ∃ j : Int, vs = [.int j] ∧ -(2 ^ 62) ≤ j ∧ j < 2 ^ 62 ∧ R (Itr 0 j.toNat) H1) := ⟨k_iRng1⟩
instance {R : It → Hp → Prop} : Stp (iRng2 tr σ H R) (tr σ H fun vs H1 => ∃ i j : Int, vs = [.int i, .int j] ∧ (-(2 ^ 62) ≤ i ∧ i < 2 ^ 62 ∧ -(2 ^ 62) ≤ j ∧ j < 2 ^ 62) ∧ R (Itr i (j - i).toNat) H1) := ⟨k_iRng2⟩
instance {vs : List Nat} : Stp (tLc wi g t te vs σ H Q) (wi σ H fun J H1 => ∀ D, H1 D = none → ∃ W : Nat → Nat → Hp → Prop, (∃ m, W 0 m (upd H1 D (.lst []))) ∧ ∀ i m H, W i m H →
  (J.stop i H ∧ Q (.ref D) H) ∨ (J.go i H ∧ ∃ Nx : Hp → Prop, (∀ H', Nx H' → ∃ m', m' < m ∧ W (i + 1) m' H') ∧ ∀ x H', J.yld i H x H' → g x (wipe σ vs) H' fun σ2 H2 => wipe σ2 vs = wipe σ vs ∧ t σ2 H2 fun b H3 =>
    if b = true then te σ2 H3 fun y H4 => ∃ acc, H4 D = some (.lst acc) ∧ acc.length < sizeLine ∧ Nx (upd H4 D (.lst (acc ++ [y]))) else Nx H3)) := ⟨k_lc⟩
instance : Stp (tYes σ H QT) (QT true H) := ⟨k_yes⟩
instance {r : V → Option Int → Option Int → Hp → VK → Prop} {tl th : TO} : Stp (tSl r te tl th σ H Q) (te σ H fun x H1 => tl σ H1 fun l H2 => th σ H2 fun u H3 => r x l u H3 Q) := ⟨k_sl⟩
instance {QO : Option Int → Hp → Prop} : Stp (tNoPart σ H QO) (QO none H) := ⟨k_nopart⟩
instance {QO : Option Int → Hp → Prop} : Stp (tPart te σ H QO) (te σ H fun x H1 => ∃ i, x = .int i ∧ QO (some i) H1) := ⟨k_part⟩
instance {tg : L2.St → Hp → (Int → Int → Hp → Prop) → Prop} : Stp (tLstRg tg σ H Q) (tg σ H fun a b H1 => newR a b H1 Q) := ⟨k_listRg⟩
instance {QR : Int → Int → Hp → Prop} : Stp (tRg1 ta σ H QR) (ta σ H fun x H1 => ∃ n, x = .int n ∧ QR 0 n H1) := ⟨k_rg1⟩
instance {QR : Int → Int → Hp → Prop} : Stp (tRg2 ta tb σ H QR) (ta σ H fun x H1 => tb σ H1 fun y H2 => ∃ i j, x = .int i ∧ y = .int j ∧ QR i j H2) := ⟨k_rg2⟩
instance : Stp (rIsi K [.int a, .ty "int"] H Q) (Q (.bl true) H) := ⟨k_isiI⟩
instance : Stp (rIsi K [.int a, .ty "bool"] H Q) (Q (.bl false) H) := ⟨k_isiB⟩
instance : Stp (rIsi K [.int a, .ty "list"] H Q) (Q (.bl false) H) := ⟨k_isiLI⟩
instance {b : Bool} : Stp (rIntOf [.bl b] H Q) (Q (.int (if b then 1 else 0)) H) := ⟨k_intB⟩
theorem k_chain {r r' : R2} (h : ta σ H fun x H1 => tb σ H1 fun y H2 => r x y H2 fun z H3 => ∃ k, z = .bl k ∧ if k = true then tc σ H3 fun z H4 => r' y z H4 Q else Q (.bl false) H3) : tChain r r' ta tb tc σ H Q := h
instance {r r' : R2} : Stp (tChain r r' ta tb tc σ H Q) (ta σ H fun x H1 => tb σ H1 fun y H2 => r x y H2 fun z H3 => ∃ k, z = .bl k ∧ if k = true then tc σ H3 fun z H4 => r' y z H4 Q else Q (.bl false) H3) := ⟨k_chain⟩
theorem k_ifE (h : t σ H fun c H1 => if c = true then ta σ H1 Q else tb σ H1 Q) : tIf t ta tb σ H Q := h
instance : Stp (tIf t ta tb σ H Q) (t σ H fun c H1 => if c = true then ta σ H1 Q else tb σ H1 Q) := ⟨k_ifE⟩
def par2 (i j : Nat) (vs : List V) (σ : L2.St) (H : Hp) (nx : L2.St → Hp → Prop) : Prop := ∃ v w, vs = [v, w] ∧ nx ((σ.set i (some v)).set j (some w)) H
instance : Stp (tPar i j tr ⟨nx, rt, bk, ct⟩ σ H) (tr σ H fun vs H1 => par2 i j vs σ H1 nx) := ⟨fun h => h⟩
instance {σ'' : L2.St} [e : Put σ i (some v) σ'] [e2 : Put σ' j (some w) σ''] : Stp (par2 i j [v, w] σ H nx) (nx σ'' H) := ⟨fun h => ⟨v, w, rfl, by rw [e.eq, e2.eq]; exact h⟩⟩
end
/-! ### bits -/
def xShl : R2 := rI CPow fun i j => .int (i * 2 ^ j.toNat)
def xAnd : R2 := rI0 fun i j => .int (Builtin.bitAnd i j)
theorem k_shl {H : Hp} {Q : VK} {i j : Int} (hc : CPow i j) (h : Q (.int (i * 2 ^ j.toNat)) H) : xShl (.int i) (.int j) H Q := ⟨i, j, rfl, rfl, hc, h⟩
instance {H : Hp} {Q : VK} {i j : Int} : Stp (xAnd (.int i) (.int j) H Q) (Q (.int (Builtin.bitAnd i j)) H) := ⟨fun h => ⟨i, j, rfl, rfl, h⟩⟩
/-! ### list.count of flat values -/
def cntV (y : V) (ys : List V) : Nat := ys.countP fun z => eqV z y
def rCntV (K : PySem.W.Frag) : V → List V → Hp → VK → Prop := fun x xs H Q => ∃ (a : Addr) (ys : List V) (y : V), x = V.ref a ∧ xs = [y] ∧ SqL K H a ys ∧ flatV y = true ∧ ys.all flatV = true ∧ Q (.int (cntV y ys : Nat)) H
theorem cntV_eq {y : V} : ∀ {ys : List V} {its : List Value}, Vals ys its → ys.all flatV = true → its.countP (eqU y) = cntV y ys
  | _, _, .nil, _ => rfl
  | a :: as, _ :: _, .cons r rs, f => by
    have f1 : flatV a = true ∧ as.all flatV = true := by simpa using f
    unfold cntV
    rw [List.countP_cons, List.countP_cons, eqU_of r f1.1, cntV_eq rs f1.2]
    rfl
theorem mt_lcountV {X : Cx} : MtR X "list.count" (rCntV X.K) := by
  intro pins s σ H x xs v us Q I rx rxs h
  obtain ⟨a, ys, y, rfl, rfl, hs, fy, fys, q⟩ := h
  cases rx
  cases rxs with
  | cons ry rt =>
    rename_i uy ut
    cases rt
    obtain ⟨its, rv, ⟨⟨cls, dd, data, sl⟩, n, ho, hc, hdn, hd⟩, hlen⟩ := I.list hs
    simp only at hc hd
    subst hc hd
    refine call_meets PySem.F.slot_list_count ⟨_, ho, rfl⟩ PySem.F.entry_list_count (PySem.F.args_list_count_2 _ _)
      (SeqAt.list_countAt a its.toArray n dd sl uy (eqU y)) ⟨ho, fun u' hu' => mem_eqAt ry fy rv fys u' (by simpa using hu'), ?_⟩
    have ec : its.toArray.toList.countP (eqU y) = cntV y ys := cntV_eq rv fys
    refine ⟨.int (cntV y ys : Nat), H, I.tok _, ⟨s.toks, ?_⟩, q⟩
    show Value.int ((its.toArray.toList.countP (eqU y) : Nat) : Int) s.toks = Value.int ((cntV y ys : Nat) : Int) s.toks
    rw [ec]
section
variable {K : PySem.W.Frag} {H : Hp} {Q : VK}
theorem k_catN {p q : Addr} {xs ys : List V} (hp : H p = some (.lst xs)) (hq : H q = some (.lst ys)) (hz : xs.length + ys.length ≤ 100000) (h : ∀ l H', H l = none → Same H H' → H' l = some (.lst (xs ++ ys)) → Q (.ref l) H') : rCat (.ref p) (.ref q) H Q := k_cat hp hq hz fun l nl => h l _ nl (same_new nl) upd_same
theorem k_cntV {p : Addr} {ys : List V} {y : V} (hs : SqL K H p ys) (fy : flatV y = true) (fys : ys.all flatV = true) (h : Q (.int (cntV y ys : Nat)) H) : rCntV K (.ref p) [y] H Q := ⟨p, ys, y, rfl, rfl, hs, fy, fys, h⟩
theorem k_indexV {p : Addr} {ys : List V} {y z : V} {j : Nat} (hs : SqL K H p ys) (fy : flatV y = true) (fys : ys.all flatV = true) (hj : ys[j]? = some z) (hz : eqV z y = true) (hn : ∀ (m : Nat) (z' : V), m < j → ys[m]? = some z' → eqV z' y = false) (h : Q (.int (j : Nat)) H) : rIndex K (.ref p) [y] H Q := ⟨p, ys, y, j, z, rfl, rfl, hs, fy, fys, hj, hz, hn, h⟩
theorem k_sortedN {a : Addr} {ns : List Int} (hs : SqL K H a (ns.map V.int)) (h : ∀ (ns' : List Int) (p : Addr) H', ns'.Perm ns → ns'.Pairwise (· ≤ ·) → H p = none → Same H H' → H' p = some (.lst (ns'.map V.int)) → Q (.ref p) H') : rSortedI K [.ref a] H Q := k_sortedI hs fun ns' p h1 h2 h3 => h ns' p _ h1 h2 h3 (same_new h3) upd_same
end
/-! ### facts of older heaps -/
theorem hid_back {S : List Addr} {X Y : Hp} (h : Same X (hid S Y)) : Same X Y := h.trans (hid_same S Y)
theorem at_same {X Y : Hp} {p : Addr} {o : HO} (h : X p = some o) (s : Same X Y) : Y p = some o := s _ _ h
theorem sl_at {K : PySem.W.Frag} {X Y : Hp} {p : Addr} {xs : List V} (h : X p = some (.lst xs)) (s : Same X Y) : SqL K Y p xs := sl (s _ _ h)
theorem st_at {K : PySem.W.Frag} {X Y : Hp} {p : Addr} {xs : List V} (h : X p = some (.tup xs)) (s : Same X Y) : SqT K Y p xs := stp (s _ _ h)
theorem dpI_at {K : PySem.W.Frag} {X Y : Hp} {p : Addr} {ns : List Int} (h : X p = some (.lst (ns.map V.int))) (s : Same X Y) : Dp K Y (.ref p) (dInts ns) := dp_of_ints (sl (s _ _ h))
theorem dpP_at {K : PySem.W.Frag} {X Y : Hp} {p : Addr} {a b : Int} (h : X p = some (.tup [.int a, .int b])) (s : Same X Y) : Dp K Y (.ref p) (dPair (a, b)) := dp_of_pair (stp (s _ _ h))
theorem hid_free {S : List Addr} {H : Hp} (f : ∀ a ∈ S, H a = none) : Same H (hid S H) := fun b o hb => by
  rw [hid_ne fun z => by rw [f b z] at hb; cases hb]; exact hb
theorem hid_free1 {p : Addr} {H : Hp} (f : H p = none) : Same H (hid [p] H) := hid_free (free1 f)
theorem cut_to (xs : List V) (k : Nat) : cutV xs none (some (k : Int)) = xs.take k := by
  unfold cutV
  rw [HT.sIx_none, HT.sIx_nat, List.drop_zero, Nat.sub_zero]
  by_cases h : k ≤ xs.length
  · rw [Nat.min_eq_left h]
  · rw [Nat.min_eq_right (by omega), List.take_of_length_le (by simp), List.take_of_length_le (by omega)]
theorem cut_from (xs : List V) (k : Nat) : cutV xs (some (k : Int)) none = xs.drop k := by
  unfold cutV
  rw [HT.sIx_none, HT.sIx_nat]
  by_cases h : k ≤ xs.length
  · rw [Nat.min_eq_left h]
    exact List.take_of_length_le (by simp)
  · rw [Nat.min_eq_right (by omega), List.drop_of_length_le (Nat.le_refl _), List.drop_of_length_le (by omega), List.take_nil]
theorem dpa_take {K : PySem.W.Frag} {H : Hp} : ∀ {vs : List V} {ds : List PyData} (n : Nat), DpAll K H vs ds → DpAll K H (vs.take n) (ds.take n)
  | _, _, 0, _ => by simp only [List.take_zero]; exact .nil
  | _, _, n + 1, .nil => by simp only [List.take_nil]; exact .nil
  | _, _, n + 1, .cons h r => .cons h (dpa_take n r)
theorem dpa_drop {K : PySem.W.Frag} {H : Hp} : ∀ {vs : List V} {ds : List PyData} (n : Nat), DpAll K H vs ds → DpAll K H (vs.drop n) (ds.drop n)
  | _, _, 0, h => h
  | _, _, n + 1, .nil => by simp only [List.drop_nil]; exact .nil
  | _, _, n + 1, .cons _ r => dpa_drop n r
theorem Le.at {H H' : Hp} {pu p : Addr} {k : Int} {o : HO} (L : Le H pu k) (np : H p = none) (e : H' p = some o) : hid [pu] H' p = some o := by rw [hid_ne (L.fresh np)]; exact e
theorem hat {H : Hp} {pu p : Addr} {o : HO} (np : p ∉ [pu]) (e : H p = some o) : hid [pu] H p = some o := by rw [hid_ne np]; exact e
theorem kLp {xs : List V} {H : Hp} {Q : VK} {pu : Addr} {k : Int} (L : Le H pu k) (hn : xs.length ≤ 100000) (h : ∀ p H', H p = none → Same H H' → hid [pu] H' p = some (.lst xs) → Q (.ref p) H') : newL xs H Q := ⟨sz hn, fun p np => h p _ np (same_new np) (L.at np upd_same)⟩
theorem kTp {xs : List V} {H : Hp} {Q : VK} {pu : Addr} {k : Int} (L : Le H pu k) (hn : xs.length ≤ 100000) (h : ∀ p H', H p = none → Same H H' → hid [pu] H' p = some (.tup xs) → Q (.ref p) H') : newT xs H Q := ⟨sz hn, fun p np => h p _ np (same_new np) (L.at np upd_same)⟩
theorem sh_l2 {n : Nat} {c d : PyData} (h1 : Sh n c) (h2 : Sh n d) : Sh (n + 1) (.list [c, d]) := sh_list fun x hx => by
  rcases List.mem_cons.mp hx with rfl | hx
  · exact h1
  · rcases List.mem_cons.mp hx with rfl | hx
    · exact h2
    · cases hx
section
variable {K : PySem.W.Frag} {σ : L2.St} {H1 : Hp} {Q : VK} {g : TG} {tt : TT} {te : TE} {vs : List Nat}
/-- over a range, new objects may be made -/
theorem lc_growR {QD : Addr → Hp → Prop} {lo : Int} {n : Nat} (hz : n ≤ 50000) (f : Nat → Option V)
    (step : ∀ (i : Nat) H', i < n → Same H1 H' → ∀ (R : V → Hp → Prop) (R0 : Hp → Prop), (∀ y H'', f i = some y → Same H' H'' → R y H'') → (∀ H'', f i = none → Same H' H'' → R0 H'') →
      g (.int (lo + (i : Nat))) (wipe σ vs) H' fun σ2 H2 => wipe σ2 vs = wipe σ vs ∧ tt σ2 H2 fun b H3 => if b = true then te σ2 H3 R else R0 H3)
    (h : ∀ D H', H1 D = none → Same H1 H' → H' D = some (.lst ((List.range n).filterMap f)) → QD D H') :
    ∀ D, H1 D = none → ∃ W : Nat → Nat → Hp → Prop, (∃ m, W 0 m (upd H1 D (.lst []))) ∧ ∀ i m H, W i m H →
      ((Itr lo n).stop i H ∧ QD D H) ∨ ((Itr lo n).go i H ∧ ∃ Nx : Hp → Prop, (∀ H', Nx H' → ∃ m', m' < m ∧ W (i + 1) m' H') ∧ ∀ x H', (Itr lo n).yld i H x H' → g x (wipe σ vs) H' fun σ2 H2 => wipe σ2 vs = wipe σ vs ∧ tt σ2 H2 fun b H3 =>
        if b = true then te σ2 H3 fun y H4 => ∃ acc, H4 D = some (.lst acc) ∧ acc.length < sizeLine ∧ Nx (upd H4 D (.lst (acc ++ [y]))) else Nx H3) := by
  refine fun D nD => lc_range (fun i H => Same H1 H ∧ H D = some (.lst (((List.range n).take i).filterMap f))) ⟨same_new nD, by rw [upd_same]; simp⟩ ?_ ?_
  · rintro i H hi ⟨sm, hD⟩
    have tk := take_filterMap (f := f) (range_take hi)
    refine step i H hi sm _ _ (fun y H'' hy s2 => ⟨_, s2 _ _ hD, szl ?_, same_mut (sm.trans s2) nD, ?_⟩) (fun H'' hn s2 => ⟨sm.trans s2, ?_⟩)
    · have := List.length_filterMap_le f ((List.range n).take i)
      rw [List.length_take, List.length_range] at this
      omega
    · rw [upd_same, tk, hy]; rfl
    · rw [tk, hn, s2 _ _ hD]; simp
  · rintro H ⟨sm, hD⟩
    rw [List.take_of_length_le (by simp)] at hD
    exact h D H nD sm hD
end
/-- behind an if: what follows is shown once -/
theorem ifjoin {c : Bool} {σ : L2.St} {H : Hp} {s1 s2 : TS} {nx bk ct : L2.St → Hp → Prop} {rt : VK} (G : L2.St → Hp → Prop) (main : ∀ σ H, G σ H → nx σ H) (h : (∀ σ H, G σ H → nx σ H) → if c = true then s1 ⟨nx, rt, bk, ct⟩ σ H else s2 ⟨nx, rt, bk, ct⟩ σ H) : if c = true then s1 ⟨nx, rt, bk, ct⟩ σ H else s2 ⟨nx, rt, bk, ct⟩ σ H := h main
theorem k_repN {H : Hp} {Q : VK} {p : Addr} {xs : List V} {k : Int} (hp : H p = some (.lst xs)) (h0 : 0 ≤ k) (h1 : k < 100000) (h2 : xs.length * k.toNat ≤ 100000) (h : ∀ l H', H l = none → Same H H' → H' l = some (.lst (List.replicate k.toNat xs).flatten) → Q (.ref l) H') : rRep (.ref p) (.int k) H Q := k_rep hp h0 h1 h2 fun l nl => h l _ nl (same_new nl) upd_same
theorem ixN_last {n : Nat} (h : 0 < n) : ixN n (-1) = some (n - 1) := by
  unfold ixN
  rw [if_neg (by omega)]
  split
  · simp; omega
  · omega
theorem ifsjoin {t : TT} {σ : L2.St} {H : Hp} {s1 s2 : TS} {nx bk ct : L2.St → Hp → Prop} {rt : VK} (G : L2.St → Hp → Prop) (main : ∀ σ H, G σ H → nx σ H) (h : (∀ σ H, G σ H → nx σ H) → tIfS t s1 s2 ⟨nx, rt, bk, ct⟩ σ H) : tIfS t s1 s2 ⟨nx, rt, bk, ct⟩ σ H := h main
/-- over a list or a tuple -/
def iAny (w1 w2 : TI) : TI := fun σ H R => w1 σ H R ∨ w2 σ H R
theorem pi_any {X : Cx} {tg it : Expr} {w1 w2 : TI} (h1 : PI X tg it w1) (h2 : PI X tg it w2) : PI X tg it (iAny w1 w2) := ⟨fun pins s σ H R I h => by
  rcases h with h | h
  · exact h1.run pins s σ H R I h
  · exact h2.run pins s σ H R I h⟩
theorem k_inT2 {K : PySem.W.Frag} {H : Hp} {Q : VK} {p : Addr} {x a b : Int} (hs : SqT K H p [.int a, .int b]) (h : Q (.bl (decide (x = a ∨ x = b))) H) : rIn K false (.int x) (.ref p) H Q :=
  ⟨p, _, rfl, .inr hs, rfl, flat_ints [a, b], by
    rw [if_neg Bool.false_ne_true, show ([V.int a, .int b] : List V) = List.map V.int [a, b] from rfl, inV_ints]
    have e : decide (x ∈ [a, b]) = decide (x = a ∨ x = b) := by simp
    rw [e]; exact h⟩
theorem Pu.at {H H' : Hp} {pu ce p : Addr} {n : Nat} {t : Int} {o : HO} (L : Pu H pu ce n t) (np : H p = none) (e : H' p = some o) : hid [pu, ce] H' p = some o := by rw [hid_ne (L.fresh np)]; exact e
theorem kLq {xs : List V} {H : Hp} {Q : VK} {pu ce : Addr} {n : Nat} {t : Int} (L : Pu H pu ce n t) (hn : xs.length ≤ 100000) (h : ∀ p H', H p = none → Same H H' → hid [pu, ce] H' p = some (.lst xs) → Q (.ref p) H') : newL xs H Q := ⟨sz hn, fun p np => h p _ np (same_new np) (L.at np upd_same)⟩
theorem kTq {xs : List V} {H : Hp} {Q : VK} {pu ce : Addr} {n : Nat} {t : Int} (L : Pu H pu ce n t) (hn : xs.length ≤ 100000) (h : ∀ p H', H p = none → Same H H' → hid [pu, ce] H' p = some (.tup xs) → Q (.ref p) H') : newT xs H Q := ⟨sz hn, fun p np => h p _ np (same_new np) (L.at np upd_same)⟩
end Cm

namespace Cm
open PySem PySem.Spec PyProof.Rows L2

/-! ### a caught exception that is kept as a value -/
def ExV (cls : Value) (d : Option Addr) (a : Addr) : HO := .ext fun h => ∃ (oe : Obj) (vs : Array Value), h.get? a = some oe ∧ Zc cls d oe ∧ oe.data = .fields vs
theorem exV_ok {P : Program} {w : World} {H : Hp} {h : Heap} {a : Addr} {cls : Value} {d : Option Addr} {oe : Obj} {vs : Array Value} (he : h.get? a = some oe) (hz : Zc cls d oe) (hd : oe.data = .fields vs) : ObjOk P w H h a (ExV cls d a) :=
  ⟨⟨oe, vs, he, hz, hd⟩, ⟨oe, he⟩, fun h1 h2 ⟨o1, v1, g1, g2, g3⟩ k => ⟨o1, v1, k _ g1, g2, g3⟩⟩
theorem exV_at {P : Program} {w : World} {H : Hp} {h : Heap} {a : Addr} {cls : Value} {d : Option Addr} (hok : HOk P w H h) (e : H a = some (ExV cls d a)) : ∃ (oe : Obj) (vs : Array Value), h.get? a = some oe ∧ Zc cls d oe ∧ oe.data = .fields vs :=
  (hok a _ e).1
section
variable {X : Cx} {pins : List (Addr × Obj)} {σ : L2.St} {H : Hp} {s : Shared}
/-- an object of this def's own time is taken into sight -/
theorem track {a : Addr} {cls : Value} {d : Option Addr} {oe : Obj} {vs : Array Value} (I : Inv X pins σ H s) (he : s.heap.get? a = some oe) (hz : Zc cls d oe) (hd : oe.data = .fields vs) (na : H a = none) (n0 : X.s_0.heap.get? a = none)
    (nL : a ≠ X.env.locals) (np : ∀ p ∈ X.pn ++ pins, p.1 ≠ a) : Inv X pins σ (upd H a (ExV cls d a)) s := by
  have ne : ∀ {b : Addr} {o : HO}, H b = some o → b ≠ a := fun q => ne_of_none q na
  have nb : ∀ b o, X.s_0.heap.get? b = some o → b ≠ a := fun b o q z => by rw [z, n0] at q; cases q
  refine { I with base := ?_, free := ?_, freeC := ?_, pin := ?_, hok := ?_ }
  · have B := I.base
    refine ⟨B.keep, B.slot, fun b o q n x => ?_, B.there, fun b xs q => ?_, fun b o u q => ?_, fun b ps q => ?_⟩
    · rw [upd_ne (nb b o q)]; exact B.free b o q n x
    · have z := B.tups b xs q; rw [upd_ne (ne z)]; exact z
    · have z := B.frzs b o u q; rw [upd_ne (ne z)]; exact z
    · obtain ⟨m, z⟩ := B.tbls b ps q; exact ⟨m, by rw [upd_ne (ne z)]; exact z⟩
  · rw [upd_ne nL.symm]; exact I.free
  · intro x c q
    have nc : c ≠ a := fun z => by
      obtain ⟨v, oc, g1, g2⟩ := I.cell x c q
      rw [z, he] at g1
      cases g1
      rw [hd] at g2
      cases g2
    rw [upd_ne nc]; exact I.freeC x c q
  · intro p hp
    obtain ⟨g1, g2, g3⟩ := I.pin p hp
    exact ⟨g1, by rw [upd_ne (np p hp)]; exact g2, g3⟩
  · intro b u q
    by_cases hb : b = a
    · rw [hb] at q ⊢
      rw [upd_same] at q
      cases q
      exact exV_ok he hz hd
    · rw [upd_ne hb] at q
      exact (I.hok b u q).stay (fun _ _ _ z => z) (fun c z => by rw [upd_ne (ne z)]; exact z) fun c xs z => by rw [upd_ne (ne z)]; exact z
end
/-- what «except x as n: suite» wishes, the exception kept behind it -/
def wKept (K : PySem.W.Frag) (c : Value) (i : Nat) (ts : Addr → Value → Option Addr → TS) (Wout : WX) (D : Ends) : WX := fun cls d σ H =>
  ∃ b, PySem.W.exmOne K cls c = some b ∧
    (b = true → ∀ a, H a = none → ts a cls d ⟨fun σ' H' => D.nx (σ'.set i none) (upd H' a (ExV cls d a)), fun _ _ => False, fun _ _ => False, fun _ _ => False⟩ (σ.set i (some (.ref a))) H) ∧ (b = false → Wout cls d σ H)
section
variable {X : Cx} {x n : Str} {c : Value} {i : Nat} {body suite : List Stmt} {b0 : Stmt} {np pos pos' : Pos} {tb : WX → TS} {ts : Addr → Value → Option Addr → TS} {Wout : WX}
theorem ps_try_kept (hst : X.stack = X.env :: X.outer) (hfm : X.env.frame = some X.env.locals) (hex : X.ex = []) (hN : X.N.Nodup) (hi : X.N[i]? = some n) (hln : X.env.kindOf n = some .local) (hc : Names X x c) (tk : Takes X Wout)
    (hb : ∀ (W : WX) (pn : List (Addr × Obj)) (xe : Value → Shared → Prop), Takes (X.tr pn xe) W → PassesOwn (model X.prog X.w) X.A X.env xe → PSs (X.tr pn xe) body (tb W))
    (hsu : ∀ (a : Addr) (oe : Obj) (cls : Value) (d : Option Addr) (pn : List (Addr × Obj)), Zc cls d oe → (∃ vs, oe.data = .fields vs) → PSs (X.suite a ((a, oe) :: pn)) (b0 :: suite) (ts a cls d)) :
    PS X (.Try body [.ExceptHandler (some (.Name x np)) (some n) (b0 :: suite) pos'] [] [] pos) (fun D σ H => tb (wKept X.K c i ts Wout D) D σ H) := by
  constructor
  intro pins s σ H D I h
  have ok := I.ok
  have frm : X.A.frames = some (X.env :: X.outer) := by rw [← hst]; exact ok.frames
  refine wpAny_Try_except (wpAny_mono ((hb (wKept X.K c i ts Wout D) (X.pn ++ pins) _ (fun u s1 air => ?caught) PassesOwn.looking).run [] s σ H D (I.toTry _) h) (fun f s1 q => ?through) (fun e s1 q => q))
  case through =>
    cases f with
    | next => obtain ⟨σ1, H1, J, q⟩ := q; exact wpAny_execs_nil ⟨σ1, H1, J.ofTry ok, q⟩
    | brk => obtain ⟨σ1, H1, J, q⟩ := q; exact ⟨σ1, H1, J.ofTry ok, q⟩
    | cont => obtain ⟨σ1, H1, J, q⟩ := q; exact ⟨σ1, H1, J.ofTry ok, q⟩
    | ret u => obtain ⟨v, σ1, H1, J, r, q⟩ := q; exact ⟨v, σ1, H1, J.ofTry ok, r, q⟩
  case caught =>
    obtain ⟨a, B, sI, pins1, σ1, H1, cls, d, rfl, J0, ground, up, sky, na, os, bare, b, hcls, yes, no⟩ := air
    have J : Inv X pins σ1 H1 sI := J0.ofTry ok
    rw [show (X.tr (X.pn ++ pins) _).stack = X.stack from rfl, hst] at sky
    have Ba : B.get? a = none := by
      rcases sky with z | z | z
      · exact z.2.1
      · exact z.2.1
      · exact z.2.1
    show wpAny (model X.prog X.w) X.A (noteFrame (.ref a) X.env) _ _ _
    refine Sky.land Zc.steady frm hfm sky fun h2 fly up2 => ?_
    obtain ⟨o2, v2, g2, z2, d2⟩ := fly.there
    have J2 : Inv X pins σ1 H1 { s1 with heap := h2 } := J.landed ground fly.1 (up.trans up2) os bare
    have out : a ∉ frs (X.env :: X.outer) := fun hm => by
      obtain ⟨_, o', e', hnf⟩ := fly.2.2.1.mem hm
      rw [g2] at e'
      cases e'
      exact hnf _ d2
    have nL : a ≠ X.env.locals := fun z => out (List.mem_filterMap.mpr ⟨X.env, List.mem_cons_self, by rw [hfm, z]⟩)
    have nF : a ∉ X.fs := fun hm => by
      obtain ⟨e, he, q⟩ := List.mem_filterMap.mp hm
      exact out (List.mem_filterMap.mpr ⟨e, List.mem_cons_of_mem _ he, q⟩)
    have sIa : sI.heap.get? a = none := by
      cases q : sI.heap.get? a with
      | none => rfl
      | some o =>
        have := ground a o q (by rw [show (X.tr (X.pn ++ pins) _).stack = X.stack from rfl, hst]; exact out)
        rw [Ba] at this; cases this
    have n0 : X.s_0.heap.get? a = none := by
      cases q : X.s_0.heap.get? a with
      | none => rfl
      | some o =>
        obtain ⟨o', q'⟩ := J.base.there a o q (by rw [hex]; simp)
        rw [sIa] at q'; cases q'
    have pinNe : ∀ p ∈ X.pn ++ pins, p.1 ≠ a := fun p hp z => by
      have := (J.pin p hp).1
      rw [z, sIa] at this; cases this
    refine wpAny_handleBy_cons (codeAny_handlers_test ?_) (fun q => by cases q)
    have T2 := J2.suite g2 d2 na nL nF
    have ty : PySem.W.Looks (model X.prog X.w) h2 (typeOf (.ref a)) cls := fun _ _ _ _ k q => wpAny_typeOf_ref (k _ _ g2) (by rw [z2.1]; exact q)
    have named : ∀ {Q : Value → Shared → Prop} {E : Value → Shared → Prop}, Q c { s1 with heap := h2 } → wpAny (model X.prog X.w) (X.A.mark (some (.ref a))) (eval (.Name x np) X.env) Q E { s1 with heap := h2 } := fun {Q E} q => by
      obtain ⟨gl, db, hm | ⟨hm, hv, hn⟩⟩ := hc
      · exact ld_glob (X := X.suite a ((a, o2) :: (X.pn ++ pins))) T2 gl hm q db
      · exact ld_blt (X := X.suite a ((a, o2) :: (X.pn ++ pins))) T2 gl hm hv q hn db
    refine named ((PySem.W.exm_one (M := model X.prog X.w) J2.kIn ty hcls).here ?_)
    cases b with
    | false =>
      show wpAny _ X.A (handleBy (.ref a) X.env []) _ _ _
      refine wpAny_handleBy_nil ?_
      obtain ⟨_, _, _, oe, vs, T, oT, ts', he, hz, hd, h1, hr⟩ := id fly
      unfold PySem.passOn
      refine wpAny_bind (wpAny_field he hd h1 ?_)
      rw [if_neg (show ¬ ((Value.ref T == Value.none) = true) by simp)]
      have on : wpAny (model X.prog X.w) X.A (setFlight (.ref a) X.env.frame) (fun _ s4 => wpAny (model X.prog X.w) X.A (throw (.ref a) : Sem Flow) (SP X pins D) X.xe s4) X.xe { s1 with heap := h2 } := by
        rw [hfm]
        refine HandSPX.setFlight_upZ fly fun h4 hh4 up4 => wpAny_throw (tk _ _ ⟨a, B, sI, pins, σ1, H1, cls, d, rfl, J, ground, (up.trans up2).trans up4, .inr (.inr (by rw [hst]; exact hh4)), na, os, bare, no rfl⟩)
      first
        | exact wpAny_bind (wpAny_pure (wpAny_bind on))
        | exact wpAny_bind on
    | true =>
      refine codeAny_handlers_suite_as (HandSPX.lands_againZ fly fun h3 fly3 up3 => ?_)
      obtain ⟨o3, v3, g3, z3, d3⟩ := fly3.there
      have J3 : Inv X pins σ1 H1 { s1 with heap := h3 } := J.landed ground fly3.1 ((up.trans up2).trans up3) os bare
      refine store_ok (X := X.suite a ((a, o3) :: (X.pn ++ pins))) (v := .ref a) (J3.suite g3 d3 na nL nF) hN hi (.inl hln) rfl (fun s4 S4 => ?_) (.inr hln)
      refine wpAny_mono ((hsu a o3 cls d (X.pn ++ pins) z3 ⟨_, d3⟩).run [] s4 _ H1 _ S4 (yes rfl a na)) (fun f s5 q => ?_) (fun _ _ z => z.elim)
      cases f with
      | brk => obtain ⟨_, _, _, q⟩ := q; exact q.elim
      | cont => obtain ⟨_, _, _, q⟩ := q; exact q.elim
      | ret u => obtain ⟨_, _, _, _, _, q⟩ := q; exact q.elim
      | next =>
        obtain ⟨σ5, H5, S5, q5⟩ := q
        have K5 : Inv X ((a, o3) :: pins) σ5 H5 s5 := ⟨ok, S5.os, S5.bare, S5.base, S5.loc, S5.cell, S5.free, S5.freeC, fun p hp => S5.pin p (by
          rw [List.append_nil]
          rcases List.mem_append.mp hp with hp | hp
          · exact List.mem_cons_of_mem _ (List.mem_append_left _ hp)
          · rcases List.mem_cons.mp hp with hp | hp
            · rw [hp]; exact List.mem_cons_self
            · exact List.mem_cons_of_mem _ (List.mem_append_right _ hp)), S5.hok, S5.len⟩
        refine gone_ok K5 hN hi hln fun s6 K6 => ?_
        obtain ⟨g6, na6, _⟩ := K6.pin (a, o3) (List.mem_append_right _ List.mem_cons_self)
        have K7 : Inv X pins (σ5.set i none) H5 s6 := { K6 with pin := fun p hp => K6.pin p (by
          rcases List.mem_append.mp hp with hp | hp
          · exact List.mem_append_left _ hp
          · exact List.mem_append_right _ (List.mem_cons_of_mem _ hp)) }
        exact ⟨_, _, track K7 g6 z3 d3 na6 n0 nL pinNe, q5⟩
end

/-! ### isinstance of a kept exception, of None and of the other values -/
/-- what an exception class of the program must say, so that its instances are asked rightly -/
structure ExK (K : PySem.W.Frag) (D : Addr) : Prop where
  hg : PySem.W.findIn K (.ref D) "__getattribute__" = some (some (.builtin "BaseException.__getattribute__"))
  hk : PySem.W.findIn K (.ref D) "__getattr__" = some none
  hs : PySem.W.subIn K (.ref D) (.type "BaseException") = some true
  hd : PySem.W.hasDictIn K D = true
  ha : PySem.W.findIn K (.ref D) "__class__" = some (some (.builtin "object.__class__"))
  hn : PySem.W.specialIn K (.builtin "object.__class__") "__get__" = some (some (.builtin "getset_descriptor.__get__"))
  ht : PySem.W.takesIn K (.builtin "object.__class__") = some true
  hm : PySem.W.mroIn K D (.type "object") = some true
def exkB (K : PySem.W.Frag) (D : Addr) : Bool :=
  (PySem.W.findIn K (.ref D) "__getattribute__" == some (some (.builtin "BaseException.__getattribute__"))) && ((PySem.W.findIn K (.ref D) "__getattr__" == some none) && ((PySem.W.subIn K (.ref D) (.type "BaseException") == some true) && (PySem.W.hasDictIn K D &&
  ((PySem.W.findIn K (.ref D) "__class__" == some (some (.builtin "object.__class__"))) && ((PySem.W.specialIn K (.builtin "object.__class__") "__get__" == some (some (.builtin "getset_descriptor.__get__"))) && ((PySem.W.takesIn K (.builtin "object.__class__") == some true) && (PySem.W.mroIn K D (.type "object") == some true)))))))
theorem exkB_ok {K : PySem.W.Frag} {D : Addr} (h : exkB K D = true) : ExK K D := by
  unfold exkB at h
  simp only [Bool.and_eq_true, beq_iff_eq] at h
  obtain ⟨h1, h2, h3, h4, h5, h6, h7, h8⟩ := h
  exact ⟨h1, h2, h3, h4, h5, h6, h7, h8⟩
theorem ExK.xf {K : PySem.W.Frag} {D : Addr} (h : ExK K D) : XfC K D := ⟨h.hg, h.hk, h.hs, h.hd⟩
/-- what is known of a kept exception at a: its class D, its dict's state -/
def KeptAt (H : Hp) (a D : Addr) : Prop := ∃ d : Option Addr, H a = some (ExV (.ref D) d a) ∧ (d = none ∨ ∃ dd fs, d = some dd ∧ H dd = some (.xd fs))
def rIsX (K : PySem.W.Frag) : List V → Hp → VK → Prop := fun xs H Q => ∃ (a D : Addr) (c : V) (cv : Value) (b : Bool), xs = [.ref a, c] ∧ KeptAt H a D ∧ ExK K D ∧ ClsV c cv ∧ PySem.W.kitOne K (.ref D) cv = some b ∧ Q (.bl b) H
def rIsXT (K : PySem.W.Frag) : List V → Hp → VK → Prop := fun xs H Q => ∃ (a D tp : Addr) (cs : List V) (us : List Value) (b : Bool), xs = [.ref a, .ref tp] ∧ KeptAt H a D ∧ ExK K D ∧ H tp = some (.tup cs) ∧ Paired ClsV cs us ∧ PySem.W.kitAny K (.ref D) us = some b ∧ Q (.bl b) H
section
variable {X : Cx} {pins : List (Addr × Obj)} {σ : L2.St} {H : Hp} {s : Shared}
theorem kept_inst {a D : Addr} (I : Inv X pins σ H s) (k : KeptAt H a D) : ∃ ox od, PySem.W.InstAt s.heap a ox D od := by
  obtain ⟨d, e, dd⟩ := k
  obtain ⟨oe, vs, g, z, hd⟩ := exV_at I.hok e
  obtain ⟨oc, od, oda, osl⟩ := oe
  obtain ⟨h1, h2⟩ := z
  dsimp only at h1 h2 hd
  subst h1 h2 hd
  rcases dd with rfl | ⟨dx, fs, rfl, hx⟩
  · exact ⟨_, none, g, rfl, rfl, trivial⟩
  · obtain ⟨mA, ⟨o, es, ep, g2, _⟩, _⟩ := (show ObjOk X.prog X.w H s.heap dx (.xd fs) from I.hok dx _ hx)
    exact ⟨_, some o, g, rfl, rfl, g2⟩
theorem kit_exc {K : PySem.W.Frag} {a D : Addr} {ox : Obj} {od : Option Obj} (C : ExK K D) : PySem.W.KitX K (.ref a) (.ref D) (fun h => PySem.W.InstAt h a ox D od) := by
  have hcl : (PySem.W.clsIn K D).isSome = true := by
    obtain ⟨cd, hc, _⟩ := PySem.W.any_some C.hd
    rw [hc]; rfl
  exact PySem.W.kitx_exc hcl C.hg C.hk C.hs C.ha C.hn C.ht C.hm
theorem call_isX : CallR X (.builtin "isinstance") (rIsX X.K) := by
  intro pins s σ H xs us Q I r h
  obtain ⟨a, D, c, cv, b, rfl, k, C, kc, e, q⟩ := h
  obtain ⟨u1, u2, rfl, r1, r2⟩ := vals2 r
  have e2 := kc.eq r2
  subst e2
  cases (show u1 = Value.ref a from r1)
  obtain ⟨ox, od, J⟩ := kept_inst I k
  exact PySem.W.kia_one (kit_exc C) I.kIn J e (fun z => nomatch z) fun tk => ⟨.bl b, H, I.tok tk, rfl, q⟩
theorem call_isXT : CallR X (.builtin "isinstance") (rIsXT X.K) := by
  intro pins s σ H xs us Q I r h
  obtain ⟨a, D, tp, cs, ws, b, rfl, k, C, hT, kc, e, q⟩ := h
  obtain ⟨u1, u2, rfl, r1, r2⟩ := vals2 r
  cases (show u1 = Value.ref a from r1)
  cases (show u2 = Value.ref tp from r2)
  obtain ⟨ox, od, J⟩ := kept_inst I k
  obtain ⟨_, its, rv, o, h1, h2, n, h3⟩ := (show ObjOk X.prog X.w H s.heap tp (.tup cs) from I.hok tp _ hT)
  have e3 := ClsV.all kc rv
  subst e3
  obtain ⟨oc, od', dt, sl⟩ := o
  simp only at h2 h3
  subst h2 h3
  exact PySem.W.kia_tup (kit_exc C) I.kIn J h1 e (fun z => nomatch z) fun tk => ⟨.bl b, H, I.tok tk, rfl, q⟩
/-- isinstance of anything, one class or a tuple of them -/
def rIsA (K : PySem.W.Frag) : List V → Hp → VK → Prop := fun xs H Q => rIsi K xs H Q ∨ rIsiT K xs H Q ∨ rIsX K xs H Q ∨ rIsXT K xs H Q
theorem q_isA : CallR X (.builtin "isinstance") (rIsA X.K) := by
  intro pins s σ H xs us Q I r h
  rcases h with h | h | h | h
  · exact call_isi pins s σ H xs us Q I r h
  · exact call_isiT pins s σ H xs us Q I r h
  · exact call_isX pins s σ H xs us Q I r h
  · exact call_isXT pins s σ H xs us Q I r h
end

/-! ### a kept exception's field -/
def tXat (K : PySem.W.Frag) (n : Str) (te : TE) : TE := fun σ H Q => te σ H fun x H1 => ∃ (a C dd : Addr) (fs : List (Str × V)) (v : V), x = .ref a ∧ H1 a = some (ExV (.ref C) (some dd) a) ∧ XfC K C ∧ PySem.W.findIn K (.ref C) n = some none ∧ H1 dd = some (.xd fs) ∧ fs.lookup n = some v ∧ Q v H1
theorem pe_xat {X : Cx} {e : Expr} {te : TE} {pos : Pos} {n : Str} (he : PE X e te) (hb : attributeBase e n X.env (eval e X.env) = eval e X.env := by rfl) : PE X (.Attribute e n pos) (tXat X.K n te) := by
  constructor
  intro pins s σ H Q I h
  refine attr_of hb (thn (he.run pins s σ H _ I h) fun u s1 hh => ?_)
  obtain ⟨x, H1, I1, rx, a, C, dd, fs, v, rfl, ea, T, hno, ed, l, q⟩ := hh
  cases (show u = Value.ref a from rx)
  obtain ⟨oe, vs, g, z, hd⟩ := exV_at I1.hok ea
  obtain ⟨mA, hns, hr⟩ := (show ObjOk X.prog X.w H1 s1.heap dd (.xd fs) from I1.hok dd _ ed)
  obtain ⟨od, ho, hl⟩ := lookIn_ns hns
  obtain ⟨u, hu, ru⟩ := RelO.some_of (v := v) (o := mA n) (by rw [← l]; exact hr n)
  have J : PySem.W.InstAt s1.heap a oe C (some od) := ⟨g, z.1, by unfold PySem.W.notCls; rw [hd] <;> rfl, by rw [z.2]; exact ho⟩
  exact HandSPX.exc_get I1.kIn J T.ga T.gg T.exC (PySem.W.findObj_own T.hdC hno rfl (by rw [hl, hu])) (handed_of ru) ⟨v, H1, I1.tok _, ru, q⟩

/-! ### Base.__init__(self, ..) in an own exception's __init__, Base an own class without an __init__ -/
structure BaseI (K : PySem.W.Frag) (mg : Str → Option Value) (B : Addr) (x : Str) : Prop where
  gB : mg x = some (.ref B)
  rd : PySem.W.readsIn K B (.type "type") = true
  ga : PySem.W.specialIn K (.ref B) "__getattribute__" = some (some (.builtin "type.__getattribute__"))
  at_ : PySem.W.findCls K (.ref B) (.type "type") "__init__" = some (.val (.builtin "ValueError.__init__"))
theorem pe_binit {X : Cx} {x : Str} {B : Addr} {e : Expr} {es : List Expr} {ta : TA} {p1 p2 pos : Pos} {pl : Sem Bool} (T : BaseI X.K X.mg B x) (hg : Gl X x) (ha : PA X (e :: es) ta) (hdb : (x == ("__debug__" : Str)) = false := by decide)
    (hc : eval (.Call (.Attribute (.Name x p1) "__init__" p2) (e :: es) [] pos) X.env = (do
      let ov ← eval (.Name x p1) X.env
      standAt p2.atName
      let (f, first) ← holding [ov] (getMethod ov "__init__" pl)
      callWith pos f first (backTo pos (starEach (e :: es) X.env)) (backToKw pos (keywordEach [] X.env))) := by rfl)
    (he : starEach (e :: es) X.env = (false, eval e X.env) :: starEach es X.env := by rfl) (hpl : (backTo pos (starEach es X.env)).any (·.1) = false := by rfl) :
    PE X (.Call (.Attribute (.Name x p1) "__init__" p2) (e :: es) [] pos) (tVeI X.K ta) := by
  constructor
  intro pins s σ H Q I h
  refine PySem.W.methodCall_KW (ld_glob I hg T.gB ?_ hdb) hc
  refine PySem.W.method_cls I.kIn T.ga (PySem.W.cls_value I.kIn T.rd T.at_ (by decide +kernel) ?_)
  show wpAny _ _ (callWith pos (Value.builtin "ValueError.__init__") [] (backTo pos (starEach (e :: es) X.env)) []) _ _ _
  refine PyProof.Rows.callWith_method1 (thn (ha.run pos pins _ σ H _ (I.tok _) h) fun us s1 hh => ?_) he hpl
  obtain ⟨vs, H1, I1, r1, a, C, ws, rfl, hl, O, ea, q⟩ := hh
  cases r1 with
  | @cons _ u0 _ ur ra rr =>
    cases (show u0 = Value.ref a from ra)
    have len : ur.length ≤ sizeLine := by
      have := Paired.length rr
      rw [sizeLine_eq]
      omega
    exact oinit_ok O I1 ea len fun s' J => ⟨.non, H1, J, rfl, q⟩

/-! ### readings of raise, of an exception's own __init__ and of try, step by step -/
/-- raise C('..'), C without an __init__ -/
def tRaiseP (C : Addr) (E : XK) : TS := fun _ _ H => E (.ref C) none H
/-- raise C(e), C with an __init__ that keeps sp -/
def tRaiseO (C : Addr) (sp : Sp) (ta : TA) (E : XK) : TS := fun _ σ H => tMkO C sp [] ta σ H fun cls d H' => E cls d H'
/-- the promise of such an __init__(self, f): the field f is stored -/
def prInit (C : Addr) (f : Str) (v0 v1 : V) (H : Hp) (Q : VK) : Prop := ∃ a, v0 = .ref a ∧ H a = some (exo a C none) ∧ ∀ dx, H dx = none → dx ≠ a → Q .non (upd (upd H dx (exd dx [(f, v1)])) a (exo a C (some dx)))
def spInit (C : Addr) (f : Str) : Sp := fun vs H Q _ => ∃ v0 v1, vs = [v0, v1] ∧ prInit C f v0 v1 H Q
/-- try: .. except c as n: m = n (n in slot i, m in slot j) -/
def tTryK (K : PySem.W.Frag) (c : Value) (i j : Nat) (tb : WX → TS) : TS := fun D σ H => tb (wKept K c i (fun _ _ _ => tAsg (tVar i) (gName j)) (fun _ _ _ _ => False) D) D σ H
section
variable {K : PySem.W.Frag} {σ : L2.St} {H : Hp} {D : Ends} {E : XK} {C : Addr} {f : Str}
theorem k_raiseP (h : E (.ref C) none H) : tRaiseP C E D σ H := h
theorem heap_made {H : Hp} {a d : Addr} {o1 o2 o3 o4 : HO} (na : H a = none) (ne : d ≠ a) : upd (L2.del (upd (upd (upd H a o1) d o2) a o3) a) d o4 = upd H d o4 := by
  funext b
  by_cases h1 : b = d
  · rw [h1, upd_same, upd_same]
  · rw [upd_ne h1, upd_ne h1]
    by_cases h2 : b = a
    · rw [h2, L2.del_same, na]
    · rw [L2.del_ne h2, upd_ne h2, upd_ne h1, upd_ne h2]
theorem exo_ne_exd {a d C : Addr} {fs : List (Str × V)} : True := trivial
theorem k_raiseO {ta : TA} {v : V} (hta : ∀ (R : List V → Hp → Prop), R [v] H → ta σ H R) (h : ∀ d, H d = none → E (.ref C) (some d) (upd H d (.xd [(f, v)]))) : tRaiseO C (spInit C f) ta E D σ H := by
  refine hta _ ⟨(by show 1 ≤ 1000; decide), fun a na => ?_⟩
  refine ⟨.ref a, v, rfl, a, rfl, upd_same, fun dx ndx ne => ⟨rfl, dx, [(f, v)], upd_same, ?_, ?_, ?_⟩⟩
  · rw [upd_ne ne, upd_same]
  · rw [upd_ne ne] at ndx; exact ndx
  · rw [heap_made na ne]
    rw [upd_ne ne] at ndx
    exact h dx ndx
theorem k_try {i j : Nat} {tb : WX → TS} (h : tb (wKept K (.ref C) i (fun _ _ _ => tAsg (tVar i) (gName j)) (fun _ _ _ _ => False) D) D σ H) : tTryK K (.ref C) i j tb D σ H := h
theorem k_callS {sp : Sp} {W : WX} {tr : TA} {Q : VK} (h : tr σ H fun vs H1 => sp vs H1 Q (WE W σ)) : tCallS sp (WE W) tr σ H Q := h
/-- the exception is one of the clause's -/
theorem k_caught {c : Value} {i j : Nat} {cls : Value} {d : Option Addr} {nx : L2.St → Hp → Prop} {rt : VK} {bk ct : L2.St → Hp → Prop} (hi : i < σ.length) (hc : PySem.W.exmOne K cls c = some true)
    (h : ∀ a, H a = none → nx (((σ.set i (some (.ref a))).set j (some (.ref a))).set i none) (upd H a (ExV cls d a))) : wKept K c i (fun _ _ _ => tAsg (tVar i) (gName j)) (fun _ _ _ _ => False) ⟨nx, rt, bk, ct⟩ cls d σ H :=
  ⟨true, hc, fun _ a na => ⟨.ref a, by rw [List.getElem?_set_self hi], h a na⟩, fun z => Bool.noConfusion z⟩
theorem k_isXone {xs : List V} {Q : VK} {a D : Addr} {c : V} {cv : Value} {b : Bool} (k : KeptAt H a D) (e : ExK K D) (kc : ClsV c cv) (h1 : PySem.W.kitOne K (.ref D) cv = some b) (h : Q (.bl b) H) : rIsA K [.ref a, c] H Q := .inr (.inr (.inl ⟨a, D, c, cv, b, rfl, k, e, kc, h1, h⟩))
theorem k_isXtup {Q : VK} {a D tp : Addr} {cs : List V} {us : List Value} {b : Bool} (k : KeptAt H a D) (e : ExK K D) (hT : H tp = some (.tup cs)) (kc : Paired ClsV cs us) (h1 : PySem.W.kitAny K (.ref D) us = some b) (h : Q (.bl b) H) : rIsA K [.ref a, .ref tp] H Q := .inr (.inr (.inr ⟨a, D, tp, cs, us, b, rfl, k, e, hT, kc, h1, h⟩))
theorem k_isNone {Q : VK} {c : V} {cv : Value} {b : Bool} (kc : ClsV c cv) (h1 : PySem.W.kitOne K (.type "NoneType") cv = some b) (h : Q (.bl b) H) : rIsA K [.non, c] H Q := .inl ⟨_, _, _, _, b, rfl, kc, .base .non, h1, h⟩
theorem k_isOne {Q : VK} {xs : List V} (h : rIsi K xs H Q) : rIsA K xs H Q := .inl h
theorem k_xat {n : Str} {te : TE} {Q : VK} (h : te σ H fun x H1 => ∃ (a C dd : Addr) (fs : List (Str × V)) (v : V), x = .ref a ∧ H1 a = some (ExV (.ref C) (some dd) a) ∧ XfC K C ∧ PySem.W.findIn K (.ref C) n = some none ∧ H1 dd = some (.xd fs) ∧ fs.lookup n = some v ∧ Q v H1) : tXat K n te σ H Q := h
theorem exV_kept {a : Addr} {D : Addr} {d : Option Addr} {H : Hp} (h : H a = some (ExV (.ref D) d a)) (hd : d = none ∨ ∃ dd fs, d = some dd ∧ H dd = some (.xd fs)) : KeptAt H a D := ⟨d, h, hd⟩
end
section
variable {K : PySem.W.Frag} {σ : L2.St} {H : Hp} {D : Ends} {E : XK} {C : Addr} {f : Str} {Q : VK} {te : TE} {tr : TA}
instance {i j : Nat} {tb : WX → TS} : Stp (tTryK K (.ref C) i j tb D σ H) (tb (wKept K (.ref C) i (fun _ _ _ => tAsg (tVar i) (gName j)) (fun _ _ _ _ => False) D) D σ H) := ⟨k_try⟩
instance {sp : Sp} {W : WX} : Stp (tCallS sp (WE W) tr σ H Q) (tr σ H fun vs H1 => sp vs H1 Q (WE W σ)) := ⟨k_callS⟩
instance {n : Str} : Stp (tXat K n te σ H Q) (te σ H fun x H1 => ∃ (a C dd : Addr) (fs : List (Str × V)) (v : V), x = .ref a ∧ H1 a = some (ExV (.ref C) (some dd) a) ∧ XfC K C ∧ PySem.W.findIn K (.ref C) n = some none ∧ H1 dd = some (.xd fs) ∧ fs.lookup n = some v ∧ Q v H1) := ⟨k_xat⟩
instance : Stp (tRaiseP C E D σ H) (E (.ref C) none H) := ⟨k_raiseP⟩
/-- what follows a caught exception is shown once -/
theorem tryjoin {i j : Nat} {tb : WX → TS} (G : Value → Option Addr → L2.St → Hp → Prop) (rest : ∀ cls d σ' H', G cls d σ' H' → wKept K (.ref C) i (fun _ _ _ => tAsg (tVar i) (gName j)) (fun _ _ _ _ => False) D cls d σ' H')
    (h : (∀ cls d σ' H', G cls d σ' H' → wKept K (.ref C) i (fun _ _ _ => tAsg (tVar i) (gName j)) (fun _ _ _ _ => False) D cls d σ' H') → tTryK K (.ref C) i j tb D σ H) : tTryK K (.ref C) i j tb D σ H := h rest
end
section
variable {P : Program} {w : World} {K : PySem.W.Frag} {mg : Str → Option Value} {base : Heap}
/-- such an __init__ keeps its promise; msg, f: its texts -/
theorem init_reads {C B : Addr} {f : Str} {msg : V} {v0 v1 : V} {H : Hp} {Q : VK} (O : OexC K C) (hno : PySem.W.findIn K (.ref C) f = some none) (h : prInit C f v0 v1 H Q) :
    tSeq (tDrop (tVeI K (tCons (tVar 0) (tCons (tC msg) tNil)))) (tOst K f (tVar 0) (tVar 1)) { nx := fun _ H' => Q .non H', rt := Q } [some v0, some v1] H := by
  obtain ⟨a, rfl, ea, q⟩ := h
  refine ⟨_, rfl, a, C, [msg], rfl, (by show 1 ≤ 1000; decide), O, ea, ?_⟩
  exact ⟨_, rfl, _, rfl, a, C, rfl, O, hno, .inl ⟨ea, fun dx nd ne => q dx nd ne⟩⟩
end
end Cm

namespace Cm
open PySem PySem.Spec PyProof.Rows L2

/-! ### how many unlike ints -/
def unl (ns : List Int) : Nat := (PyProof.Rows.firstMet (fun i => ns.getD i 0) ns.length).length
theorem unl_le (ns : List Int) : unl ns ≤ ns.length := PyProof.Rows.firstMet_length_le _ _
def tLenU (K : PySem.W.Frag) (ta : TE) : TE := fun σ H Q => ta σ H fun x H1 => ∃ (l : Addr) (ns : List Int), x = .ref l ∧ SqL K H1 l (ns.map V.int) ∧ ns.length ≤ 4000 ∧ Q (.int (unl ns : Nat)) H1
theorem pe_lenU {X : Cx} {a : Expr} {ta : TE} {p p2 q pos : Pos} (cm : X.calm = true) (gl : Gl X "len") (ml : X.mg "len" = none) (gs : Gl X "set") (ms : X.mg "set" = none) (pa : PE X a ta)
    (se : starEach [a] X.env = (false, eval a X.env) :: starEach [] X.env := by rfl) : PE X (.Call (.Name "len" p) [.Call (.Name "set" p2) [a] [] q] [] pos) (tLenU X.K ta) := by
  constructor
  intro pins s σ H Q I h
  refine Call_ (ld_blt I gl ml boot_len (PyProof.Rows.callWith_builtin1 (PyProof.Rows.args_cons ?_ rfl) rfl rfl))
  refine Call_ (ld_blt I gs ms boot_set (PyProof.Rows.callWith_type1 (PyProof.Rows.args_cons (thn (pa.run pins s σ H _ I h) fun v s1 ⟨x, H1, J, rx, qx⟩ => PyProof.Rows.args_nil ?_) se) se rfl))
  obtain ⟨l, ns, rfl, hq, hl, qx⟩ := qx
  cases rx
  obtain ⟨its, rv, pl, hz⟩ := J.list hq
  have sz1 : its.toArray.size = ns.length := by rw [List.size_toArray, ← rv.length, List.length_map]
  refine call_set_list (J.ok.hd cm) pl.isList (by simpa using RZ.intsAre_vals rv) (by rw [sz1]; unfold scanBound; omega) fun h' tk hS hk => PyProof.Rows.args_nil ?_
  rw [sz1] at hS
  obtain ⟨o, es, ep, t, ho, hex, hd, _, _, _, hf, hn⟩ := hS
  have J2 : Inv X pins σ H1 { s1 with heap := h', toks := tk } := J.kept fun b o e => hk b o (Heap.lt_size e) e
  have hu := unl_le ns
  exact call_len_set ho hex hd hf (by rw [hn]; unfold unl at hu; omega) ⟨.int (unl ns : Nat), H1, J2.tok _, ⟨_, by rw [hn]; rfl⟩, qx⟩

section
variable {K : PySem.W.Frag} {σ : L2.St} {H1 : Hp} {g : TG} {tt : TT} {te : TE} {vs : List Nat}
/-- over a tuple, new objects may be made -/
theorem lc_growT {QD : Addr → Hp → Prop} {α : Type} {a : Addr} {xs : List V} (hs : SqT K H1 a xs) (ps : List α) (hl : xs.length = ps.length) (hz : ps.length ≤ 50000) (f : α → Option V)
    (step : ∀ (i : Nat) x p H', xs[i]? = some x → ps[i]? = some p → Same H1 H' → ∀ (R : V → Hp → Prop) (R0 : Hp → Prop), (∀ y H'', f p = some y → Same H' H'' → R y H'') → (∀ H'', f p = none → Same H' H'' → R0 H'') →
      g x (wipe σ vs) H' fun σ2 H2 => wipe σ2 vs = wipe σ vs ∧ tt σ2 H2 fun b H3 => if b = true then te σ2 H3 R else R0 H3)
    (h : ∀ D H', H1 D = none → Same H1 H' → H' D = some (.lst (ps.filterMap f)) → QD D H') :
    ∃ a', V.ref a = .ref a' ∧ (∃ xs, SqT K H1 a' xs) ∧ ∀ D, H1 D = none → ∃ W : Nat → Nat → Hp → Prop, (∃ m, W 0 m (upd H1 D (.lst []))) ∧ ∀ i m H, W i m H →
      ((Itt K a').stop i H ∧ QD D H) ∨ ((Itt K a').go i H ∧ ∃ Nx : Hp → Prop, (∀ H', Nx H' → ∃ m', m' < m ∧ W (i + 1) m' H') ∧ ∀ x H', (Itt K a').yld i H x H' → g x (wipe σ vs) H' fun σ2 H2 => wipe σ2 vs = wipe σ vs ∧ tt σ2 H2 fun b H3 =>
        if b = true then te σ2 H3 fun y H4 => ∃ acc, H4 D = some (.lst acc) ∧ acc.length < sizeLine ∧ Nx (upd H4 D (.lst (acc ++ [y]))) else Nx H3) := by
  refine ⟨a, rfl, ⟨xs, hs⟩, fun D nD => lc_tup (xs := xs) (fun i H => Same H1 H ∧ H D = some (.lst ((ps.take i).filterMap f))) ⟨same_new nD, by rw [upd_same]; simp⟩ (fun i H _ e => same_seqT e.1 hs) ?_ ?_⟩
  · rintro i x H hx ⟨sm, hD⟩
    have hi : i < xs.length := (List.getElem?_eq_some_iff.mp hx).1
    obtain ⟨p, hp⟩ : ∃ p, ps[i]? = some p := ⟨ps[i]'(by omega), List.getElem?_eq_getElem (by omega)⟩
    have tk := take_filterMap (f := f) hp
    refine step i x p H hx hp sm _ _ (fun y H'' hy s2 => ⟨_, s2 _ _ hD, szl ?_, same_mut (sm.trans s2) nD, ?_⟩) (fun H'' hn s2 => ⟨sm.trans s2, ?_⟩)
    · have := List.length_filterMap_le f (ps.take i)
      rw [List.length_take] at this
      omega
    · rw [upd_same, tk, hy]; rfl
    · rw [tk, hn, s2 _ _ hD]; simp
  · rintro H ⟨sm, hD⟩
    rw [hl, List.take_length] at hD
    exact h D H nD sm hD
end
theorem k_ixN {K : PySem.W.Frag} {H : Hp} {Q : VK} {p : Addr} {ns : List Int} {i : Nat} {x : Int} (hs : SqL K H p (ns.map V.int)) (hx : ns[i]? = some x) (h : Q (.int x) H) : rIxL K (.ref p) (.int i) H Q := k_ixL hs (atI_nat (by rw [List.getElem?_map, hx]; rfl)) h
theorem fm_map {α : Type} (f : α → V) (l : List α) : l.filterMap (fun x => some (f x)) = l.map f := by
  rw [show (fun x => some (f x)) = some ∘ f from rfl, List.filterMap_eq_map]

/-- what follows a statement is shown once, and lies out of sight meanwhile -/
theorem seqO {s1 s2 : TS} {σ : L2.St} {H : Hp} {nx bk ct : L2.St → Hp → Prop} {rt : VK} (G : L2.St → Hp → Prop) (main : ∀ σ H, G σ H → s2 ⟨nx, rt, bk, ct⟩ σ H) (h : ∀ nx' : L2.St → Hp → Prop, (∀ σ H, G σ H → nx' σ H) → s1 ⟨nx', rt, bk, ct⟩ σ H) : tSeq s1 s2 ⟨nx, rt, bk, ct⟩ σ H := h _ main
/-- the last statement of a block -/
theorem lastO {s1 : TS} {σ : L2.St} {H : Hp} {nx bk ct : L2.St → Hp → Prop} {rt : VK} (G : L2.St → Hp → Prop) (main : ∀ σ H, G σ H → nx σ H) (h : ∀ nx' : L2.St → Hp → Prop, (∀ σ H, G σ H → nx' σ H) → s1 ⟨nx', rt, bk, ct⟩ σ H) : s1 ⟨nx, rt, bk, ct⟩ σ H := h _ main

/-! ### texts -/
def rStrInt : List V → Hp → VK → Prop := fun xs H Q => ∃ i : Int, xs = [.int i] ∧ i.natAbs.log2 < 1920 ∧ Q (.str (toString i)) H
theorem q_strI {X : Cx} : CallR X (.type "str") rStrInt := call_str_int
def xAddS : R2 := fun x y H Q => ∃ i j, x = .str i ∧ y = .str j ∧ i.length + j.length ≤ sizeLine ∧ Q (.str (i ++ j)) H
def rJoin (K : PySem.W.Frag) : V → List V → Hp → VK → Prop := fun x xs H Q => ∃ a p, ∃ ys : List Str, x = .str a ∧ xs = [.ref p] ∧ (SqL K H p (ys.map V.str) ∨ SqT K H p (ys.map V.str)) ∧ (ys.map (·.length)).sum + ys.length * a.length ≤ 16777216 ∧ Q (.str (Txt.join a ys)) H
/-- the signs of a text -/
abbrev sg (s : Str) : List Nat := TL.tl s
def mkS (l : List Nat) : Str := ⟨l.toArray⟩
theorem sg_mkS (l : List Nat) : sg (mkS l) = l := rfl
theorem mkS_sg (s : Str) : mkS (sg s) = s := TL.ext_tl rfl
theorem mkS_inj {l m : List Nat} : mkS l = mkS m ↔ l = m := ⟨fun h => by have := congrArg sg h; rwa [sg_mkS, sg_mkS] at this, fun h => by rw [h]⟩
/-- the signs of a whole number -/
def nu (i : Int) : List Nat := sg (Str.ofString (toString i))
section
variable {K : PySem.W.Frag} {σ : L2.St} {H : Hp} {Q : VK} {to te : TE}
instance {r : V → List V → Hp → VK → Prop} : Stp (tM1 r to te σ H Q) (to σ H fun x H1 => (∃ a, x = .str a) ∧ te σ H1 fun y H2 => r x [y] H2 Q) := ⟨fun h => h⟩
instance {r : V → List V → Hp → VK → Prop} : Stp (tM0 r to σ H Q) (to σ H fun x H1 => (∃ a, x = .str a) ∧ r x [] H1 Q) := ⟨fun h => h⟩
instance {s : Str} {R : Prop} : Stp ((∃ a, V.str s = .str a) ∧ R) R := ⟨fun h => ⟨⟨s, rfl⟩, h⟩⟩
instance : Stp (tLenU K te σ H Q) (te σ H fun x H1 => ∃ (l : Addr) (ns : List Int), x = .ref l ∧ SqL K H1 l (ns.map V.int) ∧ ns.length ≤ 4000 ∧ Q (.int (unl ns : Nat)) H1) := ⟨fun h => h⟩
theorem k_lenU {l : Addr} {ns : List Int} (hs : SqL K H l (ns.map V.int)) (hl : ns.length ≤ 4000) (h : Q (.int (unl ns : Nat)) H) : ∃ (l' : Addr) (ns : List Int), V.ref l = .ref l' ∧ SqL K H l' (ns.map V.int) ∧ ns.length ≤ 4000 ∧ Q (.int (unl ns : Nat)) H := ⟨l, ns, rfl, hs, hl, h⟩
/-- a number of at most thirty figures -/
def Num30 (i : Int) : Prop := 0 ≤ i ∧ i < 10 ^ 30
theorem log_lt {n : Nat} (h : n < 2 ^ 1900) : n.log2 < 1920 := by
  by_cases c : n = 0
  · subst c; decide
  · have := (Nat.log2_lt c (k := 1900)).mpr h
    omega
theorem k_strI {i : Int} (h0 : i.natAbs < 2 ^ 1900) (h : Q (.str (mkS (nu i))) H) : rStrInt [.int i] H Q := ⟨i, rfl, log_lt h0, by unfold nu at h; rw [mkS_sg] at h; exact h⟩
theorem len_sg (s : Str) : s.length = (sg s).length := TL.len_tl s
theorem k_addS {s t : Str} (hz : (sg s).length + (sg t).length ≤ 100000) (h : Q (.str (mkS (sg s ++ sg t))) H) : xAddS (.str s) (.str t) H Q := ⟨s, t, rfl, rfl, by rw [len_sg, len_sg]; exact sz hz, by
  have e : s ++ t = mkS (sg s ++ sg t) := TL.ext_tl (TL.tl_append s t)
  rw [e]; exact h⟩
theorem k_join {s : Str} {p : Addr} {ys : List Str} (hp : SqL K H p (ys.map V.str)) (hz : (ys.map (·.length)).sum + ys.length * s.length ≤ 16777216) (h : Q (.str (mkS (TL.joinL (sg s) (ys.map sg)))) H) : rJoin K (.str s) [.ref p] H Q :=
  ⟨s, p, ys, rfl, rfl, .inl hp, hz, by
    have e : Txt.join s ys = mkS (TL.joinL (sg s) (ys.map sg)) := TL.ext_tl (by rw [TL.join_eq]; exact TL.tl_join s ys)
    rw [e]; exact h⟩
theorem k_isiS {s : Str} (h : Q (.bl true) H) : rIsi K [.str s, .ty "str"] H Q := k_isi (.base (.str s)) (by decide +kernel) h
end
/-! ### more of texts -/
def g_tokS (mg : Str → Option Value) (x : Str) : Tok := match mg x with
  | some (.str _ t) => t
  | _ => default
theorem tok_mkS {mg : Str → Option Value} {x n : Str} {t : Tok} (h : mg x = some (.str n t)) : mg x = some (.str n (g_tokS mg x)) := by
  unfold g_tokS
  rw [h]
theorem q_isiT {X : Cx} : CallR X (.builtin "isinstance") (rIsiT X.K) := call_isiT
def rLenStr : List V → Hp → VK → Prop := fun xs H Q => ∃ z : Str, xs = [.str z] ∧ z.length ≤ sizeLine ∧ Q (.int z.length) H
theorem q_lenS {X : Cx} : CallR X (.builtin "len") rLenStr := call_len_str
def xInS : R2 := fun x y H Q => ∃ i j, x = .str i ∧ y = .str j ∧ Q (.bl (!(Builtin.Str.occurrences j i 0 j.length 1).isEmpty)) H
def xNotInS : R2 := fun x y H Q => ∃ i j, x = .str i ∧ y = .str j ∧ Q (.bl (!(!(Builtin.Str.occurrences j i 0 j.length 1).isEmpty))) H
def rFind : V → List V → Hp → VK → Prop := fun x xs H Q => ∃ a b, x = .str a ∧ xs = [.str b] ∧ Q (.int (Txt.find a b)) H
def rSplit : V → List V → Hp → VK → Prop := fun x xs H Q => ∃ a b, x = .str a ∧ xs = [.str b] ∧ (b.length == 0) = false ∧ a.length + 2 ≤ sizeLine ∧ rNewStrs (Txt.split a b) H Q
section
variable {K : PySem.W.Frag} {σ : L2.St} {H : Hp} {Q : VK} {te : TE}
instance {R : It → Hp → Prop} : Stp (iStr te σ H R) (te σ H fun v H1 => ∃ x, v = .str x ∧ R (Its x) H1) := ⟨fun h => h⟩
theorem k_lenS {l : List Nat} (hl : l.length ≤ 100000) (h : Q (.int (l.length : Nat)) H) : rLenStr [.str (mkS l)] H Q := ⟨_, rfl, by rw [len_sg, sg_mkS]; exact sz hl, by rw [len_sg, sg_mkS]; exact h⟩
theorem k_notInS {l : List Nat} {c : Nat} (h : Q (.bl (!decide (c ∈ l))) H) : xNotInS (.str ⟨#[c]⟩) (.str (mkS l)) H Q := ⟨_, _, rfl, rfl, by
  rw [StrLaws.found_one]; exact h⟩
theorem k_inS {l : List Nat} {c : Nat} (h : Q (.bl (decide (c ∈ l))) H) : xInS (.str ⟨#[c]⟩) (.str (mkS l)) H Q := ⟨_, _, rfl, rfl, by
  rw [StrLaws.found_one]; exact h⟩
theorem k_split {l : List Nat} {s : Str} {ps : List (List Nat)} (hl : l.length ≤ 99000) (hs : s.length ≠ 0) (hp : Txt.split (mkS l) s = ps.map mkS) (h : ∀ p H', H p = none → Same H H' → H' p = some (.lst (ps.map fun q => V.str (mkS q))) → Q (.ref p) H') : rSplit (.str (mkS l)) [.str s] H Q :=
  ⟨_, _, rfl, rfl, by simpa using hs, by rw [len_sg, sg_mkS]; exact sz (by omega), fun p np => h p _ np (same_new np) (by rw [upd_same, hp, List.map_map]; rfl)⟩
theorem k_ixS {l : List Nat} {i : Nat} {c : Nat} (hl : l.length ≤ 100000) (hc : l[i]? = some c) (h : Q (.str ⟨#[c]⟩) H) : rIxS (.str (mkS l)) (.int i) H Q := ⟨_, _, c, rfl, rfl, by rw [len_sg, sg_mkS]; exact sz hl, atI_nat hc, h⟩
end
theorem split_one {s : Nat} {ps : List (List Nat)} (hs : s < 256) (hne : ps ≠ []) (hp : ∀ p ∈ ps, s ∉ p) : Txt.split (mkS (TL.joinL [s] ps)) ⟨#[s]⟩ = ps.map mkS := by
  have e : mkS (TL.joinL [s] ps) = Txt.join ⟨#[s]⟩ (ps.map mkS) := TL.ext_tl (by
    rw [TL.join_eq, TL.tl_join, List.map_map]
    show TL.joinL [s] ps = TL.joinL [s] (ps.map (TL.tl ∘ mkS))
    rw [show (TL.tl ∘ mkS) = id from rfl, List.map_id])
  rw [e]
  refine TL.split_join (s := s) (S := []) rfl (by simp [hs]) (by simpa using hne) fun p h => ?_
  obtain ⟨q, hq, rfl⟩ := List.mem_map.mp h
  exact hp q hq
/-- rows, each with its end, and what stands behind the last end -/
theorem rows_join (rs : List (List Nat)) (e : Nat) (z : List Nat) : (rs.map fun r => r ++ [e]).flatten ++ z = TL.joinL [e] (rs ++ [z]) := by
  induction rs with
  | nil => rfl
  | cons r t ih =>
    have : TL.joinL [e] (r :: (t ++ [z])) = r ++ ([e] ++ TL.joinL [e] (t ++ [z])) := by
      cases t <;> rfl
    rw [List.cons_append, this, ← ih]
    simp
theorem sg_str (s : String) : sg (Str.ofString s) = s.toList.map Char.toNat := TL.tl_ofString s
theorem nu_nat (n : Nat) : nu (n : Int) = TL.numL n := TL.tl_num n
theorem nu_len {i : Int} (h : 0 ≤ i) {k : Nat} (k0 : 0 < k) (h1 : i < 10 ^ k) : (nu i).length ≤ k := by
  obtain ⟨n, rfl⟩ := Int.eq_ofNat_of_zero_le h
  rw [nu_nat]
  unfold TL.numL
  rw [List.length_map]
  refine (Nat.length_toDigits_le_iff (by decide) k0).mpr ?_
  have : ((n : Nat) : Int) < ((10 ^ k : Nat) : Int) := by rw [Int.natCast_pow]; exact h1
  exact Int.ofNat_lt.mp this
/-- signs behind one another -/
theorem joinL_nil (ps : List (List Nat)) : TL.joinL [] ps = ps.flatten := by
  induction ps with
  | nil => rfl
  | cons p r ih => cases r with
    | nil => simp [TL.joinL]
    | cons q r => show p ++ ([] ++ TL.joinL [] (q :: r)) = _; rw [ih]; simp
theorem joinL_cons (S p : List Nat) (r : List (List Nat)) : TL.joinL S (p :: r) = p ++ (r.map fun q => S ++ q).flatten := by
  induction r generalizing p with
  | nil => simp [TL.joinL]
  | cons q r ih => show p ++ (S ++ TL.joinL S (q :: r)) = _; rw [ih]; simp
theorem sum_le {l : List Nat} {b : Nat} (h : ∀ x ∈ l, x ≤ b) : l.sum ≤ l.length * b := by
  induction l with
  | nil => simp
  | cons x r ih =>
    have h1 := ih fun y hy => h y (List.mem_cons_of_mem _ hy)
    have h2 := h x List.mem_cons_self
    rw [List.sum_cons, List.length_cons, Nat.add_mul]
    omega
theorem flat_le {l : List (List Nat)} {b : Nat} (h : ∀ x ∈ l, x.length ≤ b) : l.flatten.length ≤ l.length * b := by
  rw [List.length_flatten]
  have := sum_le (l := l.map List.length) (b := b) fun x hx => by
    obtain ⟨y, hy, rfl⟩ := List.mem_map.mp hx
    exact h y hy
  rw [List.length_map] at this
  exact this
end Cm

namespace Cm
open PySem PySem.Spec PyProof.Rows L2

/-! ### max(d.values()) -/
def tMaxVals (td : TE) : TE := fun σ H Q => td σ H fun x H1 => ∃ (a : Addr) (kvs : List (Key × V)) (is : List Int), x = V.ref a ∧ H1 a = some (.dK kvs) ∧ kvs.map (·.2) = is.map V.int ∧ is ≠ [] ∧ ∀ m, m ∈ is → (∀ j ∈ is, j ≤ m) → Q (.int m) H1
theorem pe_maxVals {X : Cx} {o : Expr} {p pos apos mpos : Pos} {td : TE} (hc : X.calm = true) (hg : Gl X "max") (hm : X.mg "max" = none) (hd : PE X o td) (hbase : attributeBase o "values" X.env (eval o X.env) = eval o X.env := by rfl) (hline : (apos.endLine == mpos.line) = true := by rfl)
    (hse : starEach [Expr.Call (.Attribute o "values" apos) [] [] mpos] X.env = [(false, eval (Expr.Call (.Attribute o "values" apos) [] [] mpos) X.env)] := by rfl) :
    PE X (.Call (.Name "max" p) [.Call (.Attribute o "values" apos) [] [] mpos] [] pos) (tMaxVals td) := by
  constructor
  intro pins s σ H Q I h
  refine wpAny_Call_Name_kw (ld_blt I hg hm (u := .builtin "max") (by first | rfl | decide +kernel) ?_ (by first | decide +kernel | decide) (by first | decide +kernel | decide))
  rw [hse]
  refine PySem.callWith_builtin1 (wpAny_Call_method0_late hbase hline (thn (hd.run pins s σ H _ I h) ?_))
  rintro v s1 ⟨x, H1, I1, r1, a, kvs, is, rfl, ha, hv, hne, q⟩
  obtain rfl : v = Value.ref a := r1
  obtain ⟨_, hsys, vs, rel, dof⟩ := dk_of I1.hok ha
  obtain ⟨ep, dat⟩ := dof.dictAt
  obtain ⟨ob, es, ho, ex, hdat, hko, hpr, hnd⟩ := id dat
  have lv : vs.length = is.length := by
    have e1 : kvs.length = is.length := by simpa using congrArg List.length hv
    rw [← e1]; exact (KV.length rel).symm
  have l0 : 0 < is.length := List.length_pos_iff.mpr hne
  have vals : ∀ (i : Nat) (v : Value), (∃ k, vs[i]? = some (k, v)) → ∃ t, v = Value.int (is.getD i 0) t := by
    rintro i v ⟨k, hk⟩
    obtain ⟨x, h1, h2⟩ := KV.at' rel hk
    have e1 : (is.map V.int)[i]? = some x := by rw [← hv, List.getElem?_map, h1] <;> rfl
    rw [List.getElem?_map] at e1
    obtain ⟨j, hj, rfl⟩ := Option.map_eq_some_iff.mp e1
    obtain ⟨t, e3⟩ := h2
    exact ⟨t, by rw [e3, List.getD_eq_getElem?_getD, hj] <;> rfl⟩
  refine ⟨"dict", "dict.values", F.plainAttrs_dict, F.slot_dict_values, F.type_dict_values, ⟨ob, ho, ex.1⟩, fun b e => by cases e; exact ⟨ob, ho, ex.2.1⟩, Calls.callWith_builtin rfl (PySem.evalArgs_none ?_)⟩
  refine call_meetsIn F.slot_dict_values ⟨ob, ho, ex.1⟩ F.entry_dict_values (F.args_dict_values_1 _) (meets_dict_values (mixKind X.prog X.w) a hsys) ⟨⟨vs, dof⟩, ?_⟩
  have up : ∀ b u, s1.heap.get? b = some u → (s1.heap.push { cls := .type "dict_values", data := .fields #[.ref a] }).get? b = some u := fun b u e => Heap.get?_push_of_some _ e
  have dat1 := dat.keep up
  have alt : a < s1.heap.objs.size := Heap.lt_size ho
  have sz : (s1.heap.push { cls := .type "dict_values", data := .fields #[.ref a] }).objs.size = s1.heap.objs.size + 1 := Heap.size_push _ _
  refine call_max_walk (wpAny_pyIter_values (v := s1.heap.objs.size) (d := a) ⟨_, Heap.get?_push_size _ rfl, rfl, rfl⟩ dat1 ?_)
  refine ⟨_, _, _, _, _, _, _, rfl, Walks.dictValues (knd := mixKind X.prog X.w) (A := X.A.in1) (I.ok.hd hc) (s1.heap.push { cls := .type "dict_values", data := .fields #[.ref a] }).objs.size a (by rw [sz]; exact Nat.ne_of_lt (Nat.lt_succ_of_lt alt)) vs ep,
    ⟨⟨_, Heap.get?_push_size _ rfl, rfl, rfl⟩, dat1.keep fun b u e => Heap.get?_push_of_some _ e⟩, ?_, by omega, CmpOf.ints_gt (fun i => is.getD i 0) vals, ?_⟩
  · intro b hb
    show b < ((s1.heap.push _).push _).objs.size
    rw [Heap.size_push, Heap.size_push]
    rw [sz] at hb
    rcases List.mem_cons.mp hb with e | hb
    · rw [e]; exact Nat.lt_succ_self _
    · rw [show b = a from List.mem_singleton.mp hb]
      exact Nat.lt_succ_of_lt (Nat.lt_succ_of_lt alt)
  · intro v h' tk hP hk
    obtain ⟨t, rfl⟩ := vals _ v hP
    obtain ⟨b1, b2⟩ := argBest_gt (fun i => is.getD i 0) (vs.length - 1)
    refine ⟨.int _, H1, I1.kept (t' := tk) fun b u e => hk b u (fun hmem => ?_) (Heap.get?_push_of_some _ (up b u e)), ⟨t, rfl⟩, q _ ?_ ?_⟩
    · have e1 := List.mem_singleton.mp hmem
      have e2 := Heap.lt_size e
      rw [sz] at e1
      rw [e1] at e2
      exact Nat.lt_irrefl _ (Nat.lt_of_lt_of_le e2 (Nat.le_succ _))
    · have hb : argBest (fun i j => decide (is.getD i 0 > is.getD j 0)) (vs.length - 1) < is.length := by omega
      rw [List.getD_eq_getElem?_getD, List.getElem?_eq_getElem hb]
      exact List.getElem_mem hb
    · intro j hj
      obtain ⟨i, hi, rfl⟩ := List.mem_iff_getElem.mp hj
      have e2 : is.getD i 0 = is[i] := by rw [List.getD_eq_getElem?_getD, List.getElem?_eq_getElem hi] <;> rfl
      rw [← e2]
      exact b2 i (by omega)

/-! ### fields and methods of an instance -/
section
variable {K : PySem.W.Frag} {σ : L2.St} {H : Hp} {Q : VK} {ta tv : TE} {t : TA} {f m : Str} {a C dx : Addr} {fs : List (Str × V)}
/-- x.f is read -/
def gF (K : PySem.W.Frag) (f : Str) (x : V) (H : Hp) (Q : VK) : Prop := ∃ a C dx fs v, x = .ref a ∧ H a = some (.ins C dx fs) ∧ Cls K C ∧ NoAttr K C f ∧ fs.lookup f = some v ∧ Q v H
instance : Stp (tFld K ta f σ H Q) (ta σ H fun x H1 => gF K f x H1 Q) := ⟨id⟩
theorem k_gF {v : V} (e : H a = some (.ins C dx fs)) (c : Cls K C) (n : NoAttr K C f) (l : fs.lookup f = some v) (h : Q v H) : gF K f (.ref a) H Q := ⟨a, C, dx, fs, v, rfl, e, c, n, l, h⟩
/-- x.f = y is written -/
def pF (K : PySem.W.Frag) (f : Str) (x y : V) (H : Hp) (N : Hp → Prop) : Prop := ∃ a C dx fs, x = .ref a ∧ H a = some (.ins C dx fs) ∧ Cls K C ∧ NoAttr K C f ∧ fs.length < 1000 ∧ N (upd H a (.ins C dx (putF f y fs)))
instance {nx bk ct : L2.St → Hp → Prop} {rt : VK} : Stp (sFld K ta tv f ⟨nx, rt, bk, ct⟩ σ H) (tv σ H fun y H1 => ta σ H1 fun x H2 => pF K f x y H2 (nx σ)) := ⟨id⟩
theorem k_pF {y : V} {N : Hp → Prop} (e : H a = some (.ins C dx fs)) (c : Cls K C) (n : NoAttr K C f) (l : fs.length < 1000) (h : N (upd H a (.ins C dx (putF f y fs)))) : pF K f (.ref a) y H N := ⟨a, C, dx, fs, rfl, e, c, n, l, h⟩
/-- x.m is a method's call -/
def mF (C : Addr) (m : Str) (x : V) (H : Hp) (P : Prop) : Prop := ∃ a dx fs, x = .ref a ∧ H a = some (.ins C dx fs) ∧ fs.lookup m = none ∧ P
instance {sp : Sp} {E : XK} : Stp (tMeth C m sp [] E ta t σ H Q) (ta σ H fun x H1 => mF C m x H1 (t σ H1 fun vs H2 => sp (x :: vs) H2 Q E)) := ⟨fun h => by
  unfold tMeth
  simp only [List.append_nil]
  exact h⟩
theorem k_mF {P : Prop} (e : H a = some (.ins C dx fs)) (l : fs.lookup m = none) (h : P) : mF C m (.ref a) H P := ⟨a, dx, fs, rfl, e, l, h⟩
/-- a new instance -/
def newI (C : Addr) (sp : Sp) (E : XK) (vs : List V) (H : Hp) (Q : VK) : Prop := ∀ x dx, H x = none → H dx = none → dx ≠ x → sp (.ref x :: vs) (upd (upd H dx (.own x)) x (.ins C dx [])) (fun v H2 => v = .non ∧ Q (.ref x) H2) E
instance {sp : Sp} {E : XK} : Stp (tMake C sp [] E t σ H Q) (t σ H fun vs H1 => newI C sp E vs H1 Q) := ⟨fun h => by
  unfold tMake
  simp only [List.append_nil]
  exact h⟩
end

/-! ### methods and makings that may raise, in a try -/
section
variable {X : Cx} {CX : CXT} {k : Nat} {f C : Addr} {fd : FuncData} {ps : List Str} {sp : Sp} {E : L2.St → XK} {x m : Str} {p pos apos : Pos} {e o : Expr} {es : List Expr} {ta : TE} {t : TA}
def tMtS (C : Addr) (m : Str) (sp : Sp) (E : L2.St → XK) (ta : TE) (t : TA) : TE := fun σ H Q => ta σ H fun x H1 => ∃ a dx fs, x = .ref a ∧ H1 a = some (.ins C dx fs) ∧ fs.lookup m = none ∧ t σ H1 fun vs H2 => sp (x :: vs) H2 Q (E σ)
theorem pe_mtS {pl : Sem Bool} (he : PE X o ta) (c : Cls X.K C) (hm : Meth X.K C m f) (F : FnOk X.prog X.w X.K X.mg X.base CX k f fd ps sp) (hr : Room k X.A) (hb : Binds X.K fd ps []) (hx : ∀ σ, PassesAt CX X σ (E σ)) (ha : PA X (e :: es) t)
    (hst : starEach (e :: es) X.env = (false, eval e X.env) :: starEach es X.env := by rfl) (hpl : (backTo pos (starEach es X.env)).any (·.1) = false := by rfl)
    (ht : eval (.Call (.Attribute o m apos) (e :: es) [] pos) X.env = (do
      let ov ← eval o X.env
      standAt apos.atName
      let (f, first) ← holding [ov] (getMethod ov m pl)
      callWith pos f first (backTo pos (starEach (e :: es) X.env)) (backToKw pos (keywordEach [] X.env))) := by rfl) :
    PE X (.Call (.Attribute o m apos) (e :: es) [] pos) (tMtS C m sp E ta t) := by
  refine ⟨fun pins s σ H Q I h => ?_⟩
  refine PySem.W.methodCall_KW (pl := pl) (thn (he.run pins s σ H _ I h) fun u s1 ⟨x, H1, I1, rx, a, dx, fs, ex, ea, l, q⟩ => ?_) ht
  subst ex
  obtain rfl : u = Value.ref a := rx
  refine getmeth_ok I1 ea c hm l ?_
  refine PySem.W.callWith_K (first := [.ref a]) (h₀ := X.base) I.ok.mod.kin hm.kp (thn (ha.run pos pins s1 σ H1 _ I1 q) fun us s2 ⟨vs, H2, I2, r, q2⟩ => ⟨I2.kIn, ?_⟩) hst hpl
  exact run_fnS (us := .ref a :: us) (vs := .ref a :: vs) F hr hb (hx σ) I2 (.cons rfl r) q2
def tMakeS (C : Addr) (sp : Sp) (E : L2.St → XK) (t : TA) : TE := fun σ H Q => t σ H fun vs H1 => ∀ x dx, H1 x = none → H1 dx = none → dx ≠ x → sp (.ref x :: vs) (upd (upd H1 dx (.own x)) x (.ins C dx [])) (fun v H2 => v = .non ∧ Q (.ref x) H2) (E σ)
theorem pe_makeS (M : Mk X.K C f) (F : FnOk X.prog X.w X.K X.mg X.base CX k f fd ps sp) (hr : Room (k + 1) X.A) (hg : Gl X x) (hm : X.mg x = some (.ref C)) (hb : Binds X.K fd ps []) (hx : ∀ σ, PassesAt CX X σ (E σ))
    (ha : PA X (e :: es) t) (hdb : (x == ("__debug__" : Str)) = false := by decide) (he : starEach (e :: es) X.env = (false, eval e X.env) :: starEach es X.env := by rfl) (hpl : (backTo pos (starEach es X.env)).any (·.1) = false := by rfl) :
    PE X (.Call (.Name x p) (e :: es) [] pos) (tMakeS C sp E t) := by
  refine ⟨fun pins s σ H Q I h => ?_⟩
  refine wpAny_Call_Name_kw (ld_glob I hg hm ?_ hdb)
  refine PySem.W.callWith_K (h₀ := X.base) I.ok.mod.kin M.kp (thn (ha.run pos pins s σ H _ I h) fun us s1 ⟨vs, H1, I1, r, q⟩ => ⟨I1.kIn, ?_⟩) he hpl
  have hq := q (s1.heap.objs.size + 1) s1.heap.objs.size (I1.hok.fresh (Nat.le_succ _)) (I1.hok.fresh (Nat.le_refl _)) (Nat.ne_of_lt (Nat.lt_succ_self _))
  have I2 := Inv.made (C := C) I1
  have r2 : Vals (V.ref (s1.heap.objs.size + 1) :: vs) (Value.ref (s1.heap.objs.size + 1) :: us) := .cons rfl r
  have hl : (Value.ref (s1.heap.objs.size + 1) :: us ++ []).length = ps.length := by
    have e := r2.length
    rw [F.len _ _ _ _ hq] at e
    rw [List.append_nil]
    exact e.symm
  have b := hb _ (Value.ref (s1.heap.objs.size + 1) :: us) I2.kIn hl
  rw [List.append_nil] at b
  refine wpAny_call (make_map (f := f) I1.kIn M.makes M.init (beq_iff_eq.mp M.fn) (codeAny_mono (F.run _ X.stack _ _ ⟨Value.ref (s1.heap.objs.size + 1) :: us, []⟩ (Value.ref (s1.heap.objs.size + 1) :: us) _ _ (E σ) (hr.make C us [])
    (I2.env0.make C us []) b r2 hq) fun r s' hq' => ?_))
  cases r with
  | error e => exact hx σ pins _ _ e s' I2 hq'
  | ok fl =>
    cases fl with
    | ret u =>
      obtain ⟨v, H', I3, rv, ev, q3⟩ := I2.after hq'
      subst ev
      exact ⟨rv, ⟨V.ref (s1.heap.objs.size + 1), H', I3, rfl, q3⟩⟩
    | next => exact False.elim hq'
    | brk => exact False.elim hq'
    | cont => exact False.elim hq'
end
section
variable {σ : L2.St} {H : Hp} {Q : VK} {ta : TE} {t : TA} {m : Str} {C : Addr}
instance {sp : Sp} {E : L2.St → XK} : Stp (tMtS C m sp E ta t σ H Q) (ta σ H fun x H1 => mF C m x H1 (t σ H1 fun vs H2 => sp (x :: vs) H2 Q (E σ))) := ⟨id⟩
instance {sp : Sp} {E : L2.St → XK} : Stp (tMakeS C sp E t σ H Q) (t σ H fun vs H1 => newI C sp (E σ) vs H1 Q) := ⟨id⟩
end
/-! ### a comprehension over a range whose items are new things, each by itself -/
section
variable {K : PySem.W.Frag} {σ : L2.St} {H1 : Hp} {Q : VK} {g : TG} {tt : TT} {te : TE} {vs : List Nat}
theorem lc_rowsR {QD : Addr → Hp → Prop} {lo : Int} {n : Nat} (hz : n ≤ 50000) (F : Nat → HO)
    (step : ∀ (i : Nat) H', i < n → Same H1 H' → ∀ (R : V → Hp → Prop) (R0 : Hp → Prop), (∀ p H'', H' p = none → Same H' H'' → H'' p = some (F i) → R (.ref p) H'') →
      g (.int (lo + (i : Nat))) (wipe σ vs) H' fun σ2 H2 => wipe σ2 vs = wipe σ vs ∧ tt σ2 H2 fun b H3 => if b = true then te σ2 H3 R else R0 H3)
    (h : ∀ (D : Addr) (rs : List Addr) (H' : Hp), H1 D = none → Same H1 H' → H' D = some (.lst (rs.map V.ref)) → rs.length = n → rs.Nodup → D ∉ rs → (∀ r ∈ rs, H1 r = none) → (∀ (j : Nat) r, rs[j]? = some r → H' r = some (F j)) → QD D H') :
    ∀ D, H1 D = none → ∃ W : Nat → Nat → Hp → Prop, (∃ m, W 0 m (upd H1 D (.lst []))) ∧ ∀ i m H, W i m H →
      ((Itr lo n).stop i H ∧ QD D H) ∨ ((Itr lo n).go i H ∧ ∃ Nx : Hp → Prop, (∀ H', Nx H' → ∃ m', m' < m ∧ W (i + 1) m' H') ∧ ∀ x H', (Itr lo n).yld i H x H' → g x (wipe σ vs) H' fun σ2 H2 => wipe σ2 vs = wipe σ vs ∧ tt σ2 H2 fun b H3 =>
        if b = true then te σ2 H3 fun y H4 => ∃ acc, H4 D = some (.lst acc) ∧ acc.length < sizeLine ∧ Nx (upd H4 D (.lst (acc ++ [y]))) else Nx H3) := by
  refine fun D nD => lc_range (fun i H => Same H1 H ∧ ∃ rs : List Addr, H D = some (.lst (rs.map V.ref)) ∧ rs.length = i ∧ rs.Nodup ∧ D ∉ rs ∧ (∀ r ∈ rs, H1 r = none) ∧ ∀ (j : Nat) r, rs[j]? = some r → H r = some (F j))
    ⟨same_new nD, [], by rw [upd_same]; rfl, rfl, List.nodup_nil, by simp, (fun r z => by cases z), (fun j r z => by simp at z)⟩ ?_ ?_
  · rintro i H hi ⟨sm, rs, hD, lr, nd, dr, fr, at_⟩
    refine step i H hi sm _ _ (fun p H'' np s2 ep => ⟨_, s2 _ _ hD, szl (by simp; omega), same_mut (sm.trans s2) nD, rs ++ [p], ?_, by simp [lr], ?_, ?_, ?_, ?_⟩)
    · rw [upd_same, List.map_append]; rfl
    · rw [List.nodup_append]
      refine ⟨nd, by simp, fun r hr q hq e => ?_⟩
      rw [List.mem_singleton.mp hq] at e
      subst e
      obtain ⟨j, hj⟩ := List.mem_iff_getElem?.mp hr
      rw [at_ j _ hj] at np
      cases np
    · intro z
      rcases List.mem_append.mp z with z | z
      · exact dr z
      · rw [List.mem_singleton.mp z] at hD
        rw [hD] at np
        cases np
    · intro r hr
      rcases List.mem_append.mp hr with hr | hr
      · exact fr r hr
      · rw [List.mem_singleton.mp hr]; exact sm.free np
    · intro j r hr
      have rD : r ≠ D := fun e => by
        rcases List.mem_append.mp (List.mem_of_getElem? hr) with z | z
        · exact dr (e ▸ z)
        · rw [List.mem_singleton.mp z] at e
          rw [e, hD] at np
          cases np
      rw [upd_ne rD]
      by_cases c : j < rs.length
      · rw [List.getElem?_append_left c] at hr
        exact s2 _ _ (at_ j r hr)
      · have hj : j = i := by
          have := (List.getElem?_eq_some_iff.mp hr).1
          simp at this
          omega
        subst hj
        rw [List.getElem?_append_right (by omega), lr, Nat.sub_self] at hr
        cases hr
        exact ep
  · rintro H ⟨sm, rs, hD, lr, nd, dr, fr, at_⟩
    exact h D rs H nD sm hD lr nd dr fr at_
end
/-! ### dicts with whole numbers for keys -/
section
variable {σ : L2.St} {H : Hp} {Q : VK} {td ty tx tv : TE} {p : Addr} {kvs : List (Key × V)} {t : Int} {v z : V} {nx bk ct : L2.St → Hp → Prop} {rt : VK}
def newD (H : Hp) (Q : VK) : Prop := ∀ p, H p = none → Q (.ref p) (upd H p (.dK []))
instance : Stp (tDNewK σ H Q) (newD H Q) := ⟨id⟩
theorem kD (h : ∀ p H', H p = none → Same H H' → H' p = some (.dK []) → Q (.ref p) H') : newD H Q := fun p np => h p _ np (same_new np) upd_same
def aD (x : V) (H : Hp) (R : Addr → Prop) : Prop := ∃ a, x = .ref a ∧ IsD H a ∧ R a
def gD2 (a : Addr) (y z : V) (H : Hp) (Q : VK) : Prop := ∃ o, DGet H a y o ∧ Q (o.getD z) H
instance : Stp (tDGet2 td ty tx σ H Q) (td σ H fun x H1 => aD x H1 fun a => ty σ H1 fun y H2 => tx σ H2 fun z H3 => gD2 a y z H3 Q) := ⟨id⟩
theorem k_aD {R : Addr → Prop} (e : H p = some (.dK kvs)) (h : R p) : aD (.ref p) H R := ⟨p, rfl, .inl ⟨kvs, .inl e⟩, h⟩
theorem k_gD2 (e : H p = some (.dK kvs)) (h : Q ((valV kvs (.inl t)).getD z) H) : gD2 p (.int t) z H Q := ⟨_, DGet.k (k := .inl t) e, h⟩
def pD (x y v : V) (H : Hp) (N : Hp → Prop) : Prop := ∃ a H4, x = .ref a ∧ DPut H a y v H4 ∧ N H4
instance : Stp (sDPut td ty tv ⟨nx, rt, bk, ct⟩ σ H) (tv σ H fun v H1 => td σ H1 fun x H2 => ty σ H2 fun y H3 => pD x y v H3 (nx σ)) := ⟨id⟩
theorem k_pD {N : Hp → Prop} (e : H p = some (.dK kvs)) (l : kvs.length < 100000) (h : N (upd H p (.dK (putK kvs (.inl t) v)))) : pD (.ref p) (.int t) v H N := ⟨p, _, rfl, DPut.k (k := .inl t) e (szl l), h⟩
def gMx (x : V) (H : Hp) (Q : VK) : Prop := ∃ (a : Addr) (kvs : List (Key × V)) (is : List Int), x = V.ref a ∧ H a = some (.dK kvs) ∧ kvs.map (·.2) = is.map V.int ∧ is ≠ [] ∧ ∀ m, m ∈ is → (∀ j ∈ is, j ≤ m) → Q (.int m) H
instance : Stp (tMaxVals td σ H Q) (td σ H fun x H1 => gMx x H1 Q) := ⟨id⟩
theorem k_gMx {is : List Int} (e : H p = some (.dK kvs)) (hv : kvs.map (·.2) = is.map V.int) (ne : is ≠ []) (h : ∀ m, m ∈ is → (∀ j ∈ is, j ≤ m) → Q (.int m) H) : gMx (.ref p) H Q := ⟨p, kvs, is, rfl, e, hv, ne, h⟩
end
/-! ### list.insert -/
def rIns : V → List V → Hp → VK → Prop := fun x vs H Q => ∃ (l : Addr) (xs : List V) (i : Int) (y : V), x = .ref l ∧ vs = [.int i, y] ∧ H l = some (.lst xs) ∧ xs.length < sizeLine ∧ 0 ≤ i ∧ i < 2 ^ 63 ∧ Q .non (upd H l (.lst (xs.take i.toNat ++ [y] ++ xs.drop i.toNat)))
theorem k_ins {H : Hp} {Q : VK} {l : Addr} {xs : List V} {i : Int} {y : V} (e : H l = some (.lst xs)) (hl : xs.length < 100000) (h0 : 0 ≤ i) (h1 : i < 1000000) (h : Q .non (upd H l (.lst (xs.take i.toNat ++ [y] ++ xs.drop i.toNat)))) : rIns (.ref l) [.int i, y] H Q := ⟨l, xs, i, y, rfl, rfl, e, szl hl, h0, by omega, h⟩
/-! ### reads of a dict, loops over its keys -/
section
variable {σ : L2.St} {H : Hp} {Q : VK} {td ty : TE} {p : Addr} {kvs : List (Key × V)} {t : Int} {v : V} {nx bk ct : L2.St → Hp → Prop} {rt : VK}
def gD1 (x y : V) (H : Hp) (Q : VK) : Prop := ∃ a v, x = .ref a ∧ DGet H a y (some v) ∧ Q v H
instance : Stp (tDGet td ty σ H Q) (td σ H fun x H1 => ty σ H1 fun y H2 => gD1 x y H2 Q) := ⟨id⟩
theorem k_gD1 (e : Rd H p (.dK kvs)) (hv : valV kvs (.inl t) = some v) (h : Q v H) : gD1 (.ref p) (.int t) H Q := ⟨p, v, rfl, .inl ⟨kvs, .inl t, e, rfl, hv.symm⟩, h⟩
theorem upd_self {H : Hp} {d : Addr} {u : HO} (h : H d = some u) : upd H d u = H := by
  funext b
  unfold upd
  split
  · rename_i e; rw [e, h]
  · rfl
/-- a for over the keys of a dict of numbers; the heap stays -/
theorem forD {g : TG} {tb : TS} {D : Ends} (hd : H p = some (.dK kvs)) (Pv : Nat → L2.St → Prop) (h0 : Pv 0 σ)
    (htd : ∀ (R : V → Hp → Prop) od, R (.ref p) (upd H p (.frz od (.dK kvs))) → td σ (upd H p (.frz od (.dK kvs))) R)
    (hs : ∀ (od : Obj) (i : Nat) k v σ, kvs[i]? = some (k, v) → Pv i σ → ∀ (N B C : L2.St → Hp → Prop) (rt : VK), (∀ σ', Pv (i + 1) σ' → N σ' (upd H p (.frz od (.dK kvs)))) → (∀ v, D.rt v H → rt v (upd H p (.frz od (.dK kvs)))) →
      g (kV k) σ (upd H p (.frz od (.dK kvs))) fun σ2 H2 => tb ⟨N, rt, B, C⟩ σ2 H2)
    (fin : ∀ σ', Pv kvs.length σ' → D.nx σ' H) : tLock (tFor (iKeys td) g tb) D σ H := by
  refine ⟨p, .dK kvs, hd, trivial, fun od => ?_⟩
  refine htd _ od ⟨p, od, rfl, .inl ⟨kvs, upd_same, ?_⟩⟩
  have back : upd (upd H p (.frz od (.dK kvs))) p (.dK kvs) = H := by rw [upd_upd, upd_self hd]
  refine for_it walk_keys (fun i σ' H' => H' = upd H p (.frz od (.dK kvs)) ∧ Pv i σ') ⟨rfl, h0⟩ (fun i σ' H' _ e => by rw [e.1]; exact upd_same) ?_ ?_
  · rintro i x σ' H' H'' hi ⟨rfl, pv⟩ ⟨rfl, k, v, hkv, rfl⟩
    exact hs od i k v σ' hkv pv _ _ _ _ (fun σ' h => ⟨rfl, h⟩) (fun v h => ⟨upd_same, by rw [back]; exact h⟩)
  · rintro σ' H' ⟨rfl, pv⟩
    exact ⟨upd_same, by rw [back]; exact fin σ' pv⟩
end
/-- a dict of counts -/
structure Cnt (kvs : List (Key × V)) (c : Int → Nat) (m : Nat) : Prop where
  isI : ∃ is : List Int, kvs.map (·.2) = is.map V.int
  val : ∀ t, valV kvs (.inl t) = if c t = 0 then none else some (.int (c t : Nat))
  len : kvs.length ≤ m
theorem Cnt.nil : Cnt [] (fun _ => 0) 0 := ⟨⟨[], rfl⟩, fun t => by rw [valV_nil]; rfl, Nat.le_refl _⟩
theorem putK_lenN (c : List (Key × V)) (k : Key) (x : V) : (putK c k x).length ≤ c.length + 1 := by
  unfold putK
  split
  · rw [List.length_map]; omega
  · rw [List.length_append]; simp
theorem mapK_ints {k : Key} {x : Int} : ∀ (kvs : List (Key × V)) (is : List Int), kvs.map (·.2) = is.map V.int → ∃ is : List Int, (kvs.map fun kv => if kv.1 = k then (kv.1, V.int x) else kv).map (·.2) = is.map V.int
  | [], _, _ => ⟨[], rfl⟩
  | a :: r, [], h => by simp at h
  | a :: r, j :: js, h => by
    simp only [List.map_cons, List.cons.injEq] at h
    obtain ⟨is', h'⟩ := mapK_ints r js h.2
    by_cases c : a.1 = k
    · exact ⟨x :: is', by rw [List.map_cons, List.map_cons, if_pos c, h']; rfl⟩
    · exact ⟨j :: is', by rw [List.map_cons, List.map_cons, if_neg c, h', h.1]; rfl⟩
theorem putK_ints {kvs : List (Key × V)} {k : Key} {x : Int} (h : ∃ is : List Int, kvs.map (·.2) = is.map V.int) : ∃ is : List Int, (putK kvs k (.int x)).map (·.2) = is.map V.int := by
  obtain ⟨is, h⟩ := h
  unfold putK
  split
  · exact mapK_ints kvs is h
  · exact ⟨is ++ [x], by rw [List.map_append, List.map_append, h]; rfl⟩
theorem Cnt.put {kvs : List (Key × V)} {c : Int → Nat} {m : Nat} (h : Cnt kvs c m) (t : Int) {x : Int} (hx : x = ((c t + 1 : Nat) : Int)) : Cnt (putK kvs (.inl t) (.int x)) (fun s => if s = t then c s + 1 else c s) (m + 1) := by
  obtain ⟨h1, h2, h3⟩ := h
  refine ⟨putK_ints h1, fun s => ?_, Nat.le_trans (putK_lenN _ _ _) (by omega)⟩
  rw [valV_put]
  by_cases e : s = t
  · subst e
    rw [if_pos rfl, if_pos rfl, if_neg (by omega), hx]
  · rw [if_neg (fun z => e (by simpa using z)), if_neg e]
    exact h2 s
theorem Cnt.get {kvs : List (Key × V)} {c : Int → Nat} {m : Nat} (h : Cnt kvs c m) (t : Int) : (valV kvs (.inl t)).getD (.int 0) = .int (c t : Nat) := by
  rw [h.val t]
  split
  · rename_i e
    rw [e]; rfl
  · rfl
theorem Cnt.mem {kvs : List (Key × V)} {c : Int → Nat} {m : Nat} (h : Cnt kvs c m) {is : List Int} (hi : kvs.map (·.2) = is.map V.int) {t : Int} (ht : c t ≠ 0) : ((c t : Nat) : Int) ∈ is := by
  have hv := h.val t
  rw [if_neg ht] at hv
  unfold valV at hv
  obtain ⟨kv, hk, e⟩ := Option.map_eq_some_iff.mp hv
  have hm : V.int ((c t : Nat) : Int) ∈ is.map V.int := by
    rw [← hi, ← e]
    exact List.mem_map_of_mem (List.mem_of_find?_eq_some hk)
  obtain ⟨y, hy, e2⟩ := List.mem_map.mp hm
  cases e2
  exact hy
theorem Cnt.ext {kvs : List (Key × V)} {c c' : Int → Nat} {m m' : Nat} (h : Cnt kvs c m) (e : ∀ t, c t = c' t) (l : m ≤ m') : Cnt kvs c' m' := by
  obtain rfl : c = c' := funext e
  exact ⟨h.isI, h.val, Nat.le_trans h.len l⟩
/-! ### a list told by its places -/
theorem getR {n l : Nat} {f : Nat → Int} (h : l < n) : ((List.range n).map f)[l]? = some (f l) := by
  rw [List.getElem?_map, List.getElem?_range h]; rfl
theorem setR {n l : Nat} {f : Nat → Int} {v : Int} : ((List.range n).map f).set l v = (List.range n).map fun j => if j = l then v else f j := by
  refine List.ext_getElem? fun k => ?_
  rw [List.getElem?_set]
  by_cases c : l = k
  · subst c
    rw [if_pos rfl]
    by_cases d : l < n
    · rw [if_pos (by simpa using d), getR d, if_pos rfl]
    · rw [if_neg (by simpa using d), List.getElem?_eq_none (by simpa using d)]
  · rw [if_neg c]
    by_cases d : k < n
    · rw [getR d, getR d, if_neg (fun e => c e.symm)]
    · rw [List.getElem?_eq_none (by simpa using d), List.getElem?_eq_none (by simpa using d)]
/-! ### a range with a step; bits to the right -/
instance {σ : L2.St} {H : Hp} {ta : TA} {R : It → Hp → Prop} : Stp (iRng3 ta σ H R) (ta σ H fun vs H1 => ∃ (i j c : Int) (n : Nat), vs = [.int i, .int j, .int c] ∧ RgC i j c n ∧ R (Itc i c n) H1) := ⟨id⟩
theorem forC {σ : L2.St} {H : Hp} {nx : L2.St → Hp → Prop} {rt : VK} {lo c : Int} {n : Nat} {g : TG} {tb : TS} (Pv : Nat → L2.St → Hp → Prop) (h0 : Pv 0 σ H)
    (hs : ∀ (i : Nat) σ H, i < n → Pv i σ H → g (.int (lo + (i : Nat) * c)) σ H fun σ2 H2 => tb ⟨Pv (i + 1), rt, nx, Pv (i + 1)⟩ σ2 H2) (hd : ∀ σ H, Pv n σ H → nx σ H) :
    ∃ W : Nat → Nat → L2.St → Hp → Prop, (∃ m, W 0 m σ H) ∧ ∀ i m σ H, W i m σ H →
      ((Itc lo c n).stop i H ∧ nx σ H) ∨ ((Itc lo c n).go i H ∧ ∃ N : L2.St → Hp → Prop, (∀ σ' H', N σ' H' → ∃ m', m' < m ∧ W (i + 1) m' σ' H') ∧ ∀ x H', (Itc lo c n).yld i H x H' → g x σ H' fun σ2 H2 => tb ⟨N, rt, nx, N⟩ σ2 H2) :=
  for_rangeC (D := ⟨nx, rt, fun _ _ => False, fun _ _ => False⟩) Pv h0 hs hd
def xShr : R2 := rI (fun _ j => 0 ≤ j) fun i j => .int (i / 2 ^ j.toNat)
theorem k_shr {H : Hp} {Q : VK} {i j : Int} (hc : 0 ≤ j) (h : Q (.int (i / 2 ^ j.toNat)) H) : xShr (.int i) (.int j) H Q := ⟨i, j, rfl, rfl, hc, h⟩
/-! ### dict(d), len(d), k in d -/
def rDictD : List V → Hp → VK → Prop := fun xs H Q => ∃ (a : Addr) (kvs : List (Key × V)), xs = [.ref a] ∧ Rd H a (.dK kvs) ∧ ∀ p, H p = none → Q (.ref p) (upd H p (.dK kvs))
theorem q_dictD {X : Cx} : CallR X (.type "dict") rDictD := call_dictD
def rLenD : List V → Hp → VK → Prop := fun xs H Q => ∃ (a : Addr) (kvs : List (Key × V)), xs = [V.ref a] ∧ H a = some (.dK kvs) ∧ Q (.int kvs.length) H
theorem q_lenD {X : Cx} : CallR X (.builtin "len") rLenD := call_lenD
section
variable {σ : L2.St} {H : Hp} {Q : VK} {td ty : TE} {p : Addr} {kvs : List (Key × V)} {t : Int}
def iD (neg : Bool) (y x : V) (H : Hp) (Q : VK) : Prop := ∃ a o, x = .ref a ∧ DGet H a y o ∧ Q (.bl (if neg then !o.isSome else o.isSome)) H
instance : Stp (tDIn ty td σ H Q) (ty σ H fun y H1 => td σ H1 fun x H2 => iD false y x H2 Q) := ⟨id⟩
instance : Stp (tDNotIn ty td σ H Q) (ty σ H fun y H1 => td σ H1 fun x H2 => iD true y x H2 Q) := ⟨id⟩
theorem k_iD {neg : Bool} (e : H p = some (.dK kvs)) (h : Q (.bl (if neg then !(valV kvs (.inl t)).isSome else (valV kvs (.inl t)).isSome)) H) : iD neg (.int t) (.ref p) H Q := ⟨p, _, rfl, DGet.k (k := .inl t) e, h⟩
theorem k_dictD (e : H p = some (.dK kvs)) (h : ∀ q H', H q = none → Same H H' → H' q = some (.dK kvs) → Q (.ref q) H') : rDictD [.ref p] H Q := ⟨p, kvs, rfl, .inl e, fun q nq => h q _ nq (same_new nq) upd_same⟩
theorem k_lenD (e : H p = some (.dK kvs)) (h : Q (.int kvs.length) H) : rLenD [.ref p] H Q := ⟨p, kvs, rfl, e, h⟩
end
theorem u65 {k : Nat} {A : Around} (r : Room k A) : A.units + 65 < cLine := by have := r.un; omega
end Cm

namespace HT
open PySem PySem.Spec PyProof.Rows
section
variable {prog : Program} {w : World} {A : Around} {E : Value → Shared → Prop} {s : Shared}
/-! ### t[::-1] -/
theorem sliceApplied_rev {sl : Addr} {vs : Value} {n : Nat} {Q : Int × Int × Nat → Shared → Prop} (hs : s.heap.IsSliceOf sl .none .none vs) (ps : IsPart vs (some (-1)))
    (h : Q ((n : Int) - 1, -1, n) s) : wpAny (model prog w) A (Builtin.Slice.sliceApplied (.ref sl) (pure (n : Int))) Q E s := by
  obtain ⟨os, hos, hcs, hds⟩ := id hs
  unfold Builtin.Slice.sliceApplied Builtin.Slice.sliceFields
  refine wpAny_bind (wpAny_bind (wpAny_field hos hds (x := .none) rfl (wpAny_bind (wpAny_field hos hds (x := .none) rfl (wpAny_bind (wpAny_field hos hds (x := vs) rfl (wpAny_pure ?_)))))))
  refine wpAny_bind (slicePart_ ps ?_)
  show wpAny _ _ (if ((-1 : Int) == 0) = true then _ else _) _ _ s
  rw [if_neg (by decide)]
  refine wpAny_bind (slicePart_none (wpAny_bind (slicePart_none (wpAny_bind (wpAny_pure ?_)))))
  show wpAny _ _ (match Builtin.Slice.sliceAdjust none none (-1) (n : Int) with | (lo, hi) => pure (lo, (-1 : Int), Builtin.Slice.slicePlaces lo hi (-1))) _ _ s
  rw [show Builtin.Slice.sliceAdjust none none (-1) (n : Int) = ((n : Int) - 1, -1) by unfold Builtin.Slice.sliceAdjust; simp]
  show wpAny _ _ (pure ((n : Int) - 1, (-1 : Int), Builtin.Slice.slicePlaces ((n : Int) - 1) (-1) (-1))) _ _ s
  have e : Builtin.Slice.slicePlaces ((n : Int) - 1) (-1) (-1) = n := by
    unfold Builtin.Slice.slicePlaces
    rw [if_neg (by decide)]
    split
    · rw [show (- -1 : Int) = 1 by decide, Int.ediv_one]; omega
    · omega
  rw [e]
  exact wpAny_pure h
theorem fm_congr {α β : Type} {f g : α → Option β} : ∀ l : List α, (∀ x ∈ l, f x = g x) → l.filterMap f = l.filterMap g
  | [], _ => rfl
  | a :: r, h => by
    rw [List.filterMap_cons, List.filterMap_cons, h a List.mem_cons_self, fm_congr r fun x hx => h x (List.mem_cons_of_mem _ hx)]
theorem pick_rev (xs : Array Value) : ((List.range xs.size).filterMap fun (m : Nat) => xs[((xs.size : Int) - 1 + (m : Int) * -1).toNat]?).toArray = xs.toList.reverse.toArray := by
  congr 1
  refine List.ext_getElem? fun i => ?_
  have e : (List.range xs.size).filterMap (fun (m : Nat) => xs[((xs.size : Int) - 1 + (m : Int) * -1).toNat]?) = (List.range xs.size).map fun m => xs.toList.getD (xs.size - 1 - m) .none := by
    rw [← List.filterMap_eq_map]
    refine fm_congr _ fun m hm => ?_
    have hm' := List.mem_range.mp hm
    have : ((xs.size : Int) - 1 + (m : Int) * -1).toNat = xs.size - 1 - m := by omega
    rw [this]
    have hl : xs.size - 1 - m < xs.size := by omega
    simp [List.getD_eq_getElem?_getD, hl]
  rw [e, List.getElem?_map]
  by_cases c : i < xs.size
  · rw [List.getElem?_range c, List.getElem?_reverse (by simpa using c)]
    have hl : xs.size - 1 - i < xs.size := by omega
    simp [List.getD_eq_getElem?_getD, hl]
  · rw [List.getElem?_eq_none (by simpa using c), List.getElem?_eq_none (by simpa using c)]
    rfl
theorem getItem_tuple_rev {t sl : Addr} {items : Array Value} {vs : Value} {Q : Value → Shared → Prop} (ht : IsTup s.heap t items) (hs : s.heap.IsSliceOf sl .none .none vs) (ps : IsPart vs (some (-1)))
    (h : Q (.ref s.heap.objs.size) { s with heap := s.heap.push { cls := .type "tuple", data := .seq items.toList.reverse.toArray } })
    (hsz : items.size ≤ sizeLine) : wpAny (model prog w) A (getItem (.ref t) (.ref sl)) Q E s := by
  have htake : sizeOk (.seq items.toList.reverse.toArray) := by
    show items.toList.reverse.toArray.size ≤ sizeLine
    rw [List.size_toArray, List.length_reverse, Array.length_toList]
    exact hsz
  obtain ⟨os, hos, hcs, hds⟩ := id hs
  have hTs : s.TypeIs (.ref sl) "slice" := ⟨os, hos, hcs⟩
  unfold getItem
  try with_reducible refine wpAny_holding ?_
  first | refine wpAny_bind (wpAny_pure ?_) | skip
  refine wpAny_bind (wpAny_sequenceKey ht.typeIs (by decide) ?_)
  refine wpAny_bind (wpAny_callSpecial?_slot (name := Str.ofString "__getitem__") ht.typeIs PyProof.Rows.slot_tuple_getitem
    (wpAny_call_entry PyProof.Rows.slot_tuple_getitem ht.typeIs entry_tuple_getitem ?_ (args_tuple_getitem _ _)))
  show wpAny _ _ (Builtin.Tuple.tupleItemsOf (.ref t) >>= _) _ _ s
  refine wpAny_bind (tupleItemsOf_ ht ?_)
  refine wpAny_bind (wpAny_typeOf hTs ?_)
  rw [if_pos (by decide)]
  refine wpAny_bind (sliceApplied_rev hs ps ?_)
  have hno : ¬ ((((items.size : Int) - 1) == 0 && (-1 : Int) == 1 && items.size == items.size) = true) := by
    intro q
    rw [Bool.and_eq_true, Bool.and_eq_true] at q
    exact absurd q.1.2 (by decide)
  show wpAny _ _ (if (((items.size : Int) - 1) == 0 && (-1 : Int) == 1 && items.size == items.size) = true then _ else _) _ _ s
  rw [if_neg hno, pick_rev]
  first
    | exact wpAny_bind (m := Builtin.Tuple.tupleExact _) (wpAny_newObj_type (wpAny_pure ⟨_, rfl, wpAny_pure h⟩) htake)
    | exact wpAny_bind (m := Builtin.Tuple.tupleExact _) (wpAny_newObj_type (wpAny_bind (wpAny_pure (wpAny_pure ⟨_, rfl, wpAny_pure h⟩))) htake)
/-! ### list(reversed(list)) -/
end
end HT
namespace HT
open PySem PySem.Spec PyProof.Rows L2 RT
section
variable {prog : Program} {w : World} {A : Around} {E : Value → Shared → Prop} {s : Shared}
theorem extend_rev {R : Result → Shared → Prop} {it l S : Addr} {items : Array Value} {c0 : Nat} (hh : A.handled = none) (res : Value) (hit : s.heap.IsRevIter it l ((items.size : Int) - 1)) (hl : s.heap.IsList l items) (hne : l ≠ it) (hn : items.size ≤ sizeLine) (hSi : S ≠ it) (hSl : S ≠ l)
    (hS : s.heap.get? S = some { cls := .type "list", data := .seq #[] c0 })
    (hR : ∀ (h' : Heap) (tk : Nat) (acc : Array Value) (c' : Nat), (∀ b o, b ≠ it → b ≠ S → s.heap.get? b = some o → h'.get? b = some o) → h'.get? S = some { cls := .type "list", dict := none, data := .seq acc c', slots := #[] } → ItemsOf (fun i v => items[items.size - 1 - i]? = some v) acc items.size → R (.ok (.ret res)) { s with heap := h', toks := tk }) :
    wpAny (model prog w) A.in1 (Builtin.List.listExtendWith (.ref S) (.ref it) res)
      (fun fin s' => match fin with | .done f => R (.ok f) s' | .again c' => c'.quiet = true ∧ codeAny (model prog w) A c' R s') (fun e s' => R (.error e) s') s := by
  have W := (Walks.listRev (prog := prog) (w := w) (A := A.in1) hh it l hne items).toS
  have hSf : S ∉ [it, l] := by simp only [List.mem_cons, List.not_mem_nil, or_false, not_or]; exact ⟨hSi, hSl⟩
  have hT : s.TypeIs (.ref it) "list_reverseiterator" := hit.typeIs
  have h1 : Builtin.List.listSameRef (.ref S) (.ref it) = false := by simp [Builtin.List.listSameRef, hSi]
  unfold Builtin.List.listExtendWith
  refine wpAny_bind (wpAny_typeOf hT ?_)
  rw [if_neg (by rw [h1]; decide)]
  refine wpAny_bind (wpAny_pyIter_revIter hit ?_)
  refine wpAny_bind (wpAny_holding ?_)
  unfold Builtin.List.listLengthHint
  refine wpAny_bind (wpAny_specialOf hT nolen_lri ?_)
  show wpAny _ A.in1 (specialOf (Value.ref it) (Str.ofString "__length_hint__") >>= _) _ _ _
  refine wpAny_bind (wpAny_specialOf hT hint_lri ?_)
  generalize hid : ("list_reverseiterator.__length_hint__" : String) = id0
  wp_delta
  rw [show splitId id0 = some ("list_reverseiterator", "__length_hint__") from by subst hid; decide +kernel]
  subst hid
  refine wpAny_bind (wpAny_isInstance (b := true) hT (by rw [isSubtype_type]; kernel_rfl) ?_)
  refine wpAny_pure ?_
  rw [if_neg (by decide)]
  have e0 : ((items.size : Nat) : Int) - 1 - ((0 : Nat) : Int) = (items.size : Int) - 1 := by omega
  refine wpAny_pure ⟨plainId_quiet F.plain_extend_loop _, codeAny_extend_loopS W hn _ hSf res items.size 0 _ _ _ rfl (Nat.zero_le _) ⟨Nat.zero_le _, by rw [e0]; exact hit, hl⟩ hS (ItemsOf.nil _) fun s' acc' c' hm hS' hacc => ?_⟩
  rw [Moved.eq_with hm]
  refine hR s'.heap s'.toks acc' c' (fun b o hb hb2 e => hm.heap b o (fun hmem => ?_) e) hS' hacc
  rcases List.mem_cons.mp hmem with e' | hmem
  · exact hb2 e'
  · exact hb (List.mem_singleton.mp hmem)
theorem list_init_rev {R : Result → Shared → Prop} {it l S : Addr} {items : Array Value} (hh : A.handled = none) (hit : s.heap.IsRevIter it l ((items.size : Int) - 1)) (hl : s.heap.IsList l items) (hne : l ≠ it) (hn : items.size ≤ sizeLine) (hSi : S ≠ it) (hSl : S ≠ l)
    (hS : s.heap.get? S = some { cls := .type "list", data := .seq #[] })
    (hR : ∀ (h' : Heap) (tk : Nat) (acc : Array Value) (c' : Nat), (∀ b o, b ≠ it → b ≠ S → s.heap.get? b = some o → h'.get? b = some o) → h'.get? S = some { cls := .type "list", dict := none, data := .seq acc c', slots := #[] } → ItemsOf (fun i v => items[items.size - 1 - i]? = some v) acc items.size → R (.ok (.ret .none)) { s with heap := h', toks := tk }) :
    wpAny (model prog w) A.in1 (Builtin.«list.__init__» ⟨[.ref S, .ref it], []⟩)
      (fun fin s' => match fin with | .done f => R (.ok f) s' | .again c' => c'.quiet = true ∧ codeAny (model prog w) A c' R s') (fun e s' => R (.error e) s') s := by
  show wpAny _ A.in1 (do let old ← Builtin.List.listItems (.ref S); Builtin.List.listUpdate (.ref S) (fun _ => #[]); letGo old.toList.reverse; Builtin.List.listExtendWith (.ref S) (.ref it) .none) _ _ s
  refine wpAny_bind ?_
  unfold Builtin.List.listItems
  refine wpAny_bind (wpAny_seqItems hS rfl (wpAny_pure ?_))
  show wpAny _ A.in1 (updateSeq S (fun _ => #[]) >>= fun _ => letGo (#[] : Array Value).toList.reverse >>= fun _ => Builtin.List.listExtendWith (.ref S) (.ref it) .none) _ _ s
  refine wpAny_bind (wpAny_updateSeq hS rfl ?_)
  have hS2 := Heap.get?_update_self (Obj.mapSeq (fun _ => (#[] : Array Value))) hS rfl
  have oth : ∀ b o, b ≠ S → s.heap.get? b = some o → (s.heap.update S (Obj.mapSeq (fun _ => (#[] : Array Value)))).get? b = some o :=
    fun b o hb e => (Heap.get?_update_other _ _ (Ne.symm hb)).trans e
  refine wpAny_bind (wpAny_letGo ?_)
  have hl2 : (s.heap.update S (Obj.mapSeq (fun _ => (#[] : Array Value)))).IsList l items := by
    obtain ⟨o, e, r⟩ := hl
    exact ⟨o, oth _ _ (Ne.symm hSl) e, r⟩
  refine extend_rev hh .none (hit.at fun o e => oth _ _ (Ne.symm hSi) e) hl2 hne hn hSi hSl hS2 fun h' tk acc' c' hk hS' hacc => ?_
  exact hR h' tk acc' c' (fun b o hb hb2 e => hk b o hb hb2 (oth b o hb2 e)) hS' hacc
theorem call_list_rev {it l : Addr} {items : Array Value} {Q : Value → Shared → Prop} (hh : A.handled = none) (hit : s.heap.IsRevIter it l ((items.size : Int) - 1)) (hl : s.heap.IsList l items) (hne : l ≠ it) (hn : items.size ≤ sizeLine)
    (hQ : ∀ (h' : Heap) (tk : Nat) (acc : Array Value) (c' : Nat), (∀ b o, b ≠ it → s.heap.get? b = some o → h'.get? b = some o) → h'.get? s.heap.objs.size = some { cls := .type "list", dict := none, data := .seq acc c', slots := #[] } → ItemsOf (fun i v => items[items.size - 1 - i]? = some v) acc items.size →
      Q (.ref s.heap.objs.size) { s with heap := h', toks := tk }) :
    wpAny (model prog w) A (call (.type "list") [.ref it]) Q E s := by
  obtain ⟨oi, hoi, _⟩ := id hit
  obtain ⟨ol, hol, _⟩ := id hl
  have hSi : s.heap.objs.size ≠ it := Nat.ne_of_gt (Heap.lt_size hoi)
  have hSl : s.heap.objs.size ≠ l := Nat.ne_of_gt (Heap.lt_size hol)
  refine callType_codes (Q₁ := fun obj s₁ => obj = .ref s.heap.objs.size ∧ s₁ = { s with heap := s.heap.push { cls := .type "list", data := .seq #[] } }) F.called_list (F.typeCall_list_1 _) F.entry_list_init
    (code_list_new _ ⟨rfl, rfl⟩) fun obj s₁ h₁ => ?_
  obtain ⟨rfl, rfl⟩ := h₁
  have hS : (s.heap.push { cls := .type "list", data := .seq #[] }).get? s.heap.objs.size = some { cls := .type "list", data := .seq #[] } := Heap.get?_push_size _ rfl
  refine ⟨⟨_, hS, rfl⟩, F.args_list_init_2 _ _, list_init_rev (A := A.in1) hh (hit.at fun o e => Heap.get?_push_of_some _ e) (hl.push _) hne hn hSi hSl hS fun h' tk acc' c' hk hS' hacc => ?_⟩
  exact ⟨rfl, hQ h' tk acc' c' (fun b o hb e => hk b o hb (Nat.ne_of_lt (Heap.lt_size e)) (Heap.get?_push_of_some _ e)) hS' hacc⟩
end
end HT
namespace Cm
open PySem PySem.Spec PyProof.Rows L2 RT
section
variable {X : Cx}
def rRevT (K : PySem.W.Frag) (x : V) (H : Hp) (Q : VK) : Prop := ∃ a xs, x = .ref a ∧ SqT K H a xs ∧ ∀ p, H p = none → Q (.ref p) (upd H p (.tup xs.reverse))
def tRevT (K : PySem.W.Frag) (te : TE) : TE := fun σ H Q => te σ H fun x H1 => rRevT K x H1 Q
theorem pe_revT {e : Expr} {te : TE} {k : Nat} {p1 p2 p3 pos : Pos} (he : PE X e te) : PE X (.Subscript e (.Slice none none (some (.UnaryOp .USub (.Constant (.int 1) k p1) p2)) p3) pos) (tRevT X.K te) := by
  refine ⟨fun pins s σ H Q I h => ?_⟩
  refine Subscript_ (thn (he.run pins s σ H _ I h) fun v s1 ⟨x, H1, I1, r1, q1⟩ => ?_)
  obtain ⟨a, xs, ex, hx, q⟩ := q1
  subst ex
  cases r1
  have hst : PO X (some (.UnaryOp .USub (.Constant (.int 1) k p1) p2)) (tPart (tUn (rU fun i => .int (-i)) (tC (.int 1)))) := po_some (pe_un un_neg pe_int)
  refine wpAny_Slice (thn (po_none.run pins s1 σ H1 (fun o H2 => o = none ∧ H2 = H1) I1 ⟨rfl, rfl⟩) fun vl s2 ⟨l, H2, I2, pl, el, e2⟩ => ?_)
  subst el e2
  refine thn (po_none.run pins s2 σ H2 (fun o H3 => o = none ∧ H3 = H2) I2 ⟨rfl, rfl⟩) fun vu s3 ⟨u, H3, I3, pu, eu, e3⟩ => ?_
  subst eu e3
  refine thn (hst.run pins s3 σ H3 (fun o H4 => o = some (-1) ∧ H4 = H3) I3 ⟨1, rfl, -1, rfl, rfl, rfl⟩) fun vs s4 ⟨o, H4, I4, ps, eo, e4⟩ => ?_
  subst eo e4
  have I5 : Inv X pins σ H4 { s4 with heap := s4.heap.push { cls := .type "slice", data := .fields #[vl, vu, vs] } } := I4.kept (t' := s4.toks) fun b ob q => Heap.get?_push_of_some _ q
  obtain ⟨its, r, ht, hz⟩ := I5.tuple hx
  have hlen := r.length
  cases pl
  cases pu
  show wpAny (model X.prog X.w) X.A (subscriptTail e (.Slice none none (some (.UnaryOp .USub (.Constant (.int 1) k p1) p2)) p3) (.ref a) (.ref s4.heap.objs.size)) (EP X pins σ Q) X.xe { s4 with heap := s4.heap.push { cls := .type "slice", data := .fields #[.none, .none, vs] } }
  refine tail_any (ops := [.ref a, .ref s4.heap.objs.size]) ht.typeIs (PyProof.Rows.slot_tuple_getitem.lookup) ?_ (by with_unfolding_all rfl)
  refine HT.getItem_tuple_rev ht (Heap.IsSliceOf.new _ .none .none vs) ps ?_ (by rw [List.size_toArray]; omega)
  refine ⟨.ref _, _, I5.laid (t' := s4.toks) (o := .tup xs.reverse) (fun b ob q => Heap.get?_push_of_some _ q) (Nat.le_refl _) ?_, rfl, q _ (I5.hok.fresh (Nat.le_refl _))⟩
  exact ⟨by rw [List.length_reverse]; exact hz, _, r.reverse, IsTup.new _ _⟩
end
instance {K : PySem.W.Frag} {σ : L2.St} {H : Hp} {Q : VK} {te : TE} : Stp (tRevT K te σ H Q) (te σ H fun x H1 => rRevT K x H1 Q) := ⟨id⟩
theorem k_revT {K : PySem.W.Frag} {H : Hp} {Q : VK} {a : Addr} {xs : List V} (hs : SqT K H a xs) (h : ∀ p H', H p = none → Same H H' → H' p = some (.tup xs.reverse) → Q (.ref p) H') : rRevT K (.ref a) H Q := ⟨a, xs, rfl, hs, fun p np => h p _ np (same_new np) upd_same⟩
/-! ### is, is not of truths -/
def xIsB : R2 := rIsB
def xNotB : R2 := rNotB
instance {a b : Bool} {H : Hp} {Q : VK} : Stp (xIsB (.bl a) (.bl b) H Q) (Q (.bl (decide (a = b))) H) := ⟨fun h => ⟨a, b, rfl, rfl, h⟩⟩
instance {a b : Bool} {H : Hp} {Q : VK} : Stp (xNotB (.bl a) (.bl b) H Q) (Q (.bl (!decide (a = b))) H) := ⟨fun h => ⟨a, b, rfl, rfl, h⟩⟩
/-! ### tuple(xs) of a list -/
def rTupOf (K : PySem.W.Frag) : List V → Hp → VK → Prop := fun xs H Q => ∃ p ys, xs = [.ref p] ∧ ((SqL K H p ys ∧ ∀ l, H l = none → Q (.ref l) (upd H l (.tup ys))) ∨ (SqT K H p ys ∧ Q (.ref p) H))
theorem q_tupOf {X : Cx} : CallR X (.type "tuple") (rTupOf X.K) := call_tuple_of
theorem k_tupOf {K : PySem.W.Frag} {H : Hp} {Q : VK} {p : Addr} {ys : List V} (hs : SqL K H p ys) (h : ∀ l H', H l = none → Same H H' → H' l = some (.tup ys) → Q (.ref l) H') : rTupOf K [.ref p] H Q := ⟨p, ys, rfl, .inl ⟨hs, fun l nl => h l _ nl (same_new nl) upd_same⟩⟩
/-! ### [d[k] for k in d] -/
theorem lc_vals {σ : L2.St} {H : Hp} {Q : VK} {p : Addr} {kvs : List (Key × V)} {i l : Nat} (hd : H p = some (.dK kvs)) (hv0 : (wipe σ [l])[i]? = some (some (.ref p)) ∧ σ[i]? = some (some (.ref p))) (hv : ∀ x : V, ((wipe σ [l]).set l (some x))[i]? = some (some (.ref p))) (hl : ∀ x : V, ((wipe σ [l]).set l (some x))[l]? = some (some x)) (hwp : ∀ x : V, wipe ((wipe σ [l]).set l (some x)) [l] = wipe σ [l])
    (hn : kvs.length ≤ 50000) (nd : ∀ kv ∈ kvs, valV kvs kv.1 = some kv.2) (h : ∀ D H', H D = none → Same H H' → H' D = some (.lst (kvs.map (·.2))) → Q (.ref D) H') :
    tLockE (tLc (iKeys (tVar i)) (gName l) tYes (tDGet (tVar i) (tVar l)) [l]) σ H Q := by
  refine ⟨p, .dK kvs, hd, trivial, fun od => ?_⟩
  refine ⟨_, hv0.2, p, od, rfl, .inl ⟨kvs, upd_same, fun D nD => ?_⟩⟩
  have Dp : D ≠ p := fun z => by rw [z, upd_same] at nD; cases nD
  have nD' : H D = none := by rw [upd_ne Dp] at nD; exact nD
  refine lc_it walk_keys (fun j H' => H' = upd (upd H p (.frz od (.dK kvs))) D (.lst ((kvs.take j).map (·.2)))) (by simp) (fun j H' _ e => by rw [e, upd_ne (fun z => Dp z.symm), upd_same]) ?_ ?_
  · rintro j x H1 H2 hj rfl ⟨rfl, k, v, hk, rfl⟩
    refine ⟨hwp _, ?_⟩
    refine k_yes (iteT ?_)
    refine ⟨_, hv _, _, hl _, p, v, rfl, .inl ⟨kvs, k, .inr ⟨od, by rw [upd_ne (fun z => Dp z.symm), upd_same]⟩, rfl, (nd _ (List.mem_of_getElem? hk)).symm⟩, _, upd_same, szl (by rw [List.length_map, List.length_take]; omega), ?_⟩
    rw [upd_upd, List.take_add_one, hk, List.map_append]
    rfl
  · rintro H1 rfl
    refine ⟨by rw [upd_ne (fun z => Dp z.symm), upd_same], ?_⟩
    refine h D _ nD' (fun b o hb => ?_) ?_
    · by_cases c : b = p
      · rw [c, upd_same, ← hd, ← c, hb]
      · have bD : b ≠ D := fun z => by rw [z, nD'] at hb; cases hb
        rw [upd_ne c, upd_ne bD, upd_ne c]; exact hb
    · rw [upd_ne Dp, upd_same, List.take_length]
/-! ### d.get(k) -/
def gD1N (a : Addr) (y : V) (H : Hp) (Q : VK) : Prop := ∃ o, DGet H a y o ∧ Q (o.getD .non) H
instance {σ : L2.St} {H : Hp} {Q : VK} {td ty : TE} : Stp (tDGet1 td ty σ H Q) (td σ H fun x H1 => aD x H1 fun a => ty σ H1 fun y H2 => gD1N a y H2 Q) := ⟨id⟩
theorem k_gD1N {H : Hp} {Q : VK} {p : Addr} {kvs : List (Key × V)} {t : Int} (e : H p = some (.dK kvs)) (h : Q ((valV kvs (.inl t)).getD .non) H) : gD1N p (.int t) H Q := ⟨_, DGet.k (k := .inl t) e, h⟩
/-! ### list(reversed(xs)) of a list -/
section
variable {X : Cx}
def rLRv (K : PySem.W.Frag) (x : V) (H : Hp) (Q : VK) : Prop := ∃ a xs, x = .ref a ∧ SqL K H a xs ∧ ∀ p, H p = none → Q (.ref p) (upd H p (.lst xs.reverse))
def tLRv (K : PySem.W.Frag) (te : TE) : TE := fun σ H Q => te σ H fun x H1 => rLRv K x H1 Q
theorem pe_lRv {e : Expr} {te : TE} {p p2 pos pos2 : Pos} (hc : X.calm = true) (hg : Gl X "list") (hm : X.mg "list" = none) (hg2 : Gl X "reversed") (hm2 : X.mg "reversed" = none) (he : PE X e te)
    (hs : starEach [e] X.env = (false, eval e X.env) :: starEach [] X.env := by rfl)
    (hs2 : starEach [.Call (.Name "reversed" p2) [e] [] pos2] X.env = (false, eval (.Call (.Name "reversed" p2) [e] [] pos2) X.env) :: starEach [] X.env := by rfl) :
    PE X (.Call (.Name "list" p) [.Call (.Name "reversed" p2) [e] [] pos2] [] pos) (tLRv X.K te) := by
  refine ⟨fun pins s σ H Q I h => ?_⟩
  refine Call_ (ld_blt I hg hm boot_list (PyProof.Rows.callWith_type1 (args_cons (Call_ (ld_blt I hg2 hm2 PyProof.Rows.boot_reversed (PyProof.Rows.callWith_type1 (args_cons (thn (he.run pins s σ H _ I h) fun u s1 ⟨v, H1, I1, r1, q1⟩ => args_nil ?_) hs) hs rfl))) hs2) hs2 rfl))
  obtain ⟨a, xs, ev, hq, q⟩ := q1
  subst ev
  obtain rfl : u = Value.ref a := r1
  obtain ⟨its, rv, p', hz⟩ := I1.list hq
  refine call_reversed_list p'.isList (args_nil ?_)
  have k0 : ∀ b o, s1.heap.get? b = some o → (s1.heap.push (revObj a ((its.toArray.size : Int) - 1))).get? b = some o := fun b o e => Heap.get?_push_of_some _ e
  have I2 : Inv X pins σ H1 { s1 with heap := s1.heap.push (revObj a ((its.toArray.size : Int) - 1)) } := I1.kept (t' := s1.toks) k0
  obtain ⟨f0, f1, f2, f3, f4, f5⟩ := I1.fpOk (H' := H1) (b := s1.heap.objs.size) (Nat.le_refl _) (I1.hok.fresh (Nat.le_refl _))
  have hl := p'.isList
  obtain ⟨ol, hol, _⟩ := id hl
  have hne : a ≠ s1.heap.objs.size := Nat.ne_of_lt (Heap.lt_size hol)
  have hn : its.toArray.size ≤ sizeLine := by rw [List.size_toArray, ← rv.length]; exact hz
  refine HT.call_list_rev (s := { s1 with heap := s1.heap.push (revObj a ((its.toArray.size : Int) - 1)) }) (I1.ok.hd hc) ⟨_, Heap.get?_push_size _ rfl, rfl, rfl⟩ (hl.push _) hne hn fun h' tk acc c' hk hS' hi => ?_
  refine ⟨.ref _, upd H1 _ (.lst xs.reverse), I2.turnedNew (t' := tk) (ch := [s1.heap.objs.size]) (fun b o hb e => hk b o (fun z => hb (by rw [z]; exact List.mem_singleton.mpr rfl)) e) (fun b hb => by rw [List.mem_singleton.mp hb]; exact ⟨f0, f1, f2, f3, f4, f5⟩) (Nat.le_refl _) (show ObjOk X.prog X.w _ _ _ (.lst xs.reverse) from ⟨by rw [List.length_reverse]; exact hz, acc.toList, c', vals_rev rv hi, by rw [Array.toArray_toList]; exact hS'⟩), rfl, q _ (I2.hok.fresh (Nat.le_refl _))⟩
instance {K : PySem.W.Frag} {σ : L2.St} {H : Hp} {Q : VK} {te : TE} : Stp (tLRv K te σ H Q) (te σ H fun x H1 => rLRv K x H1 Q) := ⟨id⟩
theorem k_lRv {K : PySem.W.Frag} {H : Hp} {Q : VK} {a : Addr} {xs : List V} (hs : SqL K H a xs) (h : ∀ p H', H p = none → Same H H' → H' p = some (.lst xs.reverse) → Q (.ref p) H') : rLRv K (.ref a) H Q := ⟨a, xs, rfl, hs, fun p np => h p _ np (same_new np) upd_same⟩
end
/-! ### xs + ys of any two lists -/
section
variable {X : Cx}
def rCatS (K : PySem.W.Frag) : R2 := fun x y H Q => ∃ l b xs zs, x = .ref l ∧ y = .ref b ∧ SqL K H l xs ∧ SqL K H b zs ∧ xs.length + zs.length ≤ sizeLine ∧ ∀ p, H p = none → Q (.ref p) (upd H p (.lst (xs ++ zs)))
theorem op_catS : OpR X (binaryOp .Add) (rCatS X.K) := by
  intro pins s σ H x y v u Q I rx ry h
  obtain ⟨l, b, xs, zs, rfl, rfl, hH, hB, hz, q⟩ := h
  cases rx
  cases ry
  obtain ⟨its, r, p1, _⟩ := I.list hH
  obtain ⟨its2, r2, p2, _⟩ := I.list hB
  have l1 := r.length
  have l2 := r2.length
  obtain ⟨⟨cls, dd, data, sl⟩, ho, hc, n, hd⟩ := p1.isList
  obtain ⟨⟨cls2, dd2, data2, sl2⟩, ho2, hc2, n2, hd2⟩ := p2.isList
  simp only at hc hd hc2 hd2
  subst hc hd hc2 hd2
  have e : its.toArray ++ its2.toArray = (its ++ its2).toArray := by simp
  refine concat_meets ⟨_, ho, rfl⟩ ⟨_, ho2, rfl⟩ noFill_list_add seq_list_add PySem.F.slot_list_add PySem.F.entry_list_add (PySem.F.args_list_add_2 _ _) (list_addW l b its.toArray its2.toArray n n2 dd dd2 sl sl2 (by simp only [List.size_toArray]; omega)) ⟨ho, ho2, ?_⟩
  rw [e]
  exact ⟨.ref _, _, I.lnew (t' := s.toks) (r.append r2) (by rw [List.length_append]; exact hz), rfl, q _ I.fresh⟩
theorem k_catS {K : PySem.W.Frag} {H : Hp} {Q : VK} {l b : Addr} {xs zs : List V} (hl : SqL K H l xs) (hb : SqL K H b zs) (hz : xs.length + zs.length ≤ 100000) (h : ∀ p H', H p = none → Same H H' → H' p = some (.lst (xs ++ zs)) → Q (.ref p) H') : rCatS K (.ref l) (.ref b) H Q := ⟨l, b, xs, zs, rfl, rfl, hl, hb, sz hz, fun p np => h p _ np (same_new np) upd_same⟩
end
/-! ### xs.count(k) of a list of tuples and whole numbers -/
def isK (k : Int) : V → Bool
  | .int i => decide (i = k)
  | _ => false
def isKU (k : Int) : Value → Bool
  | .int i _ => decide (i = k)
  | _ => false
theorem isK_rel {k : Int} {v : V} {u : Value} (r : RelV v u) (h : (∃ p, v = .ref p) ∨ ∃ i, v = .int i) : isKU k u = isK k v := by
  rcases h with ⟨p, rfl⟩ | ⟨i, rfl⟩
  · cases r; rfl
  · obtain ⟨t, rfl⟩ := r; rfl
theorem isK_cnt {k : Int} : ∀ {vs : List V} {us : List Value}, Vals vs us → (∀ v ∈ vs, (∃ p, v = .ref p) ∨ ∃ i, v = .int i) → us.countP (isKU k) = vs.countP (isK k)
  | _, _, .nil, _ => rfl
  | v :: vs, u :: us, .cons r rs, h => by
    rw [List.countP_cons, List.countP_cons, isK_rel r (h v List.mem_cons_self), isK_cnt rs fun x hx => h x (List.mem_cons_of_mem _ hx)]
def rCntD (K : PySem.W.Frag) : V → List V → Hp → VK → Prop := fun x xs H Q => ∃ (a : Addr) (ys : List V) (ds : List PyData) (k : Int), x = V.ref a ∧ xs = [.int k] ∧ SqL K H a ys ∧ DpAll K H ys ds ∧ PyData.canLayAll0 ds = true ∧ (∀ d ∈ ds, (∃ es, d = .tuple es) ∨ ∃ i, d = .int i) ∧ Q (.int (ys.countP (isK k) : Nat)) H
theorem lay_mem : ∀ {ds : List PyData}, PyData.canLayAll0 ds = true → ∀ d ∈ ds, d.canLay0 = true
  | [], _, d, h => by cases h
  | a :: r, h, d, hd => by
    have h' : (a.canLay0 && PyData.canLayAll0 r) = true := h
    rw [Bool.and_eq_true] at h'
    rcases List.mem_cons.mp hd with rfl | hd
    · exact h'.1
    · exact lay_mem h'.2 d hd
theorem vals_data {K : PySem.W.Frag} {H : Hp} : ∀ {vs : List V} {us : List Value} {ds : List PyData}, Vals vs us → DpAll K H vs ds → ∀ u ∈ us, ∃ v d, RelV v u ∧ Dp K H v d ∧ d ∈ ds
  | _, _, _, .nil, _, u, hu => by cases hu
  | _, _, _, .cons r rs, .cons h hs, u, hu => by
    rcases List.mem_cons.mp hu with rfl | hu
    · exact ⟨_, _, r, h, List.mem_cons_self⟩
    · obtain ⟨v, d, h1, h2, h3⟩ := vals_data rs hs u hu
      exact ⟨v, d, h1, h2, List.mem_cons_of_mem _ h3⟩
theorem data_kind {K : PySem.W.Frag} {H : Hp} {v : V} {d : PyData} (h : Dp K H v d) (k : (∃ es, d = .tuple es) ∨ ∃ i, d = .int i) : (∃ p, v = .ref p) ∨ ∃ i, v = .int i := by
  rcases k with ⟨es, rfl⟩ | ⟨i, rfl⟩
  · obtain ⟨a, _, e, _⟩ := dp_tup h; exact .inl ⟨a, e⟩
  · exact .inr ⟨i, dp_int h⟩
theorem mt_lcountD {X : Cx} (hu : X.A.units + 64 < cLine) : MtR X "list.count" (rCntD X.K) := by
  intro pins s σ H x xs v us Q I rx rxs h
  obtain ⟨a, ys, ds, k, rfl, rfl, hs, dys, lay, kd, q⟩ := h
  cases rx
  cases rxs with
  | cons ry rt =>
    rename_i uy ut
    cases rt
    obtain ⟨t, rfl⟩ := ry
    obtain ⟨its, rv, ⟨⟨cls, dd, data, sl⟩, n, ho, hc, hdn, hd⟩, hlen⟩ := I.list hs
    simp only at hc hd
    subst hc hd
    refine call_meets PySem.F.slot_list_count ⟨_, ho, rfl⟩ PySem.F.entry_list_count (PySem.F.args_list_count_2 _ _)
      (SeqAt.list_countAt a its.toArray n dd sl (.int k t) (isKU k)) ⟨ho, fun u' hu' => ?_, ?_⟩
    · obtain ⟨w, d, r1, r2, r3⟩ := vals_data rv dys u' (by simpa using hu')
      obtain ⟨as, rd⟩ := Dp.reads I d w u' r2 r1
      have eq := SeqAt.eqAt_reads d (.int k) X.A.in1 s u' (.int k t) as _ rd (Reads.int k t) (lay_mem lay d r3) rfl (by
        have : min d.depth (PyData.int k).depth ≤ 0 := Nat.min_le_right _ _
        have e : X.A.in1.units = X.A.units + 1 := rfl
        rw [e]; omega)
      have e : PyData.eqv d (.int k) = isKU k u' := by
        rw [isK_rel r1 (data_kind r2 (kd d r3))]
        rcases kd d r3 with ⟨es, rfl⟩ | ⟨i, rfl⟩
        · obtain ⟨p, _, rfl, _⟩ := dp_tup r2; rfl
        · cases dp_int r2
          show (i == k) = decide (i = k)
          by_cases c : i = k
          · rw [c, decide_eq_true rfl]; simp
          · rw [decide_eq_false c]; simpa using c
      rw [e] at eq
      exact eq
    · have ec : its.toArray.toList.countP (isKU k) = ys.countP (isK k) := isK_cnt rv fun v hv => by
        obtain ⟨i, hi, e⟩ := List.mem_iff_getElem.mp hv
        obtain ⟨d, hd, dd⟩ := dpa_get dys (show ys[i]? = some v by rw [List.getElem?_eq_getElem hi, e])
        exact data_kind dd (kd d (List.mem_of_getElem? hd))
      refine ⟨.int (ys.countP (isK k) : Nat), H, I.tok _, ⟨s.toks, ?_⟩, q⟩
      show Value.int ((its.toArray.toList.countP (isKU k) : Nat) : Int) s.toks = Value.int ((ys.countP (isK k) : Nat) : Int) s.toks
      rw [ec]
end Cm
namespace HT
open PySem PySem.Spec PyProof.Rows L2
/-! ### a set of whole numbers made of a list, its table in order -/
/-- the set at S holds just the first i numbers -/
def Grown (w : World) (val : Nat → Int) (S : Addr) (i : Nat) (h : Heap) : Prop := SetR w h S (fun k => (firstMet val i).any (· == k)) (firstMet val i).length
section
variable {prog : Program} {w : World} {A : Around} {E : Value → Shared → Prop} {s : Shared}
theorem Grown.next {val : Nat → Int} {S : Addr} {i : Nat} {tk : Tok} {Q : Bool → Shared → Prop} (g : Grown w val S i s.heap) (room : i + 1 < scanBound) (h : ∀ b h', Heap.SameBut S s.heap h' → Grown w val S (i + 1) h' → Q b { s with heap := h' }) :
    wpAny (model prog w) A (setAddHashed S (.int (val i) tk) ((intKind prog w).hash (val i))) Q E s :=
  setR_add_hashed g (Nat.lt_of_le_of_lt (Nat.add_le_add_right (firstMet_length_le val i) 1) room) fun h' sb r => h _ h' sb (by
    unfold Grown
    rw [firstMet_succ, step_length]
    exact r.congr fun k => step_any _ _ k)
theorem grow_all {I : Addr} {fp wr : List Addr} {G : Array GenState → Array GenState → Prop} {n : Nat} {P : Nat → Value → Prop} {St : Nat → Shared → Prop} {R : Result → Shared → Prop} {S : Addr} {val : Nat → Int} {s0 : Shared}
    (W : WalksS prog w A.in1 I fp wr G n P St) (out : S ∉ fp) (hin : ∀ i v, P i v → ∃ t, v = .int (val i) t) (room : n + 1 < scanBound)
    (fin : ∀ z, Moved (S :: wr) G s0 z → Grown w val S n z.heap → R (.ok (.ret .none)) z) :
    ∀ (left i : Nat) (z : Shared), i + left = n → St i z → Moved (S :: wr) G s0 z → Grown w val S i z.heap → codeAny (model prog w) A (.builtin "set.update.loop" ⟨[.ref S, .ref I], []⟩) R z := by
  have away : S ∉ wr := fun y => out (W.sub _ y)
  have wider : ∀ b ∈ wr, b ∈ S :: wr := fun _ y => List.mem_cons_of_mem _ y
  intro left
  induction left with
  | zero =>
    rintro i z e st mv g
    obtain rfl : i = n := e
    refine codeAny_builtin F.entry_set_update_loop ?_
    rw [Around.under_plainId F.plain_set_update_loop _]
    exact wpAny_bind (W.done z _ _ st fun z' m => wpAny_pure (fin z' (Moved.trans W.gtrans mv (m.mono wider)) (g.at fun o y => m.heap S _ away y)))
  | succ left ih =>
    rintro i z e st mv g
    refine codeAny_builtin F.entry_set_update_loop ?_
    rw [Around.under_plainId F.plain_set_update_loop _]
    refine wpAny_bind (W.item i z _ _ (by omega) st fun v z' pv st' m => ?_)
    obtain ⟨t, rfl⟩ := hin i v pv
    have g' : Grown w val S i z'.heap := g.at fun o y => m.heap S _ away y
    refine wpAny_bind (wpAny_holding (m := setAdd S (.int (val i) t)) ?_)
    unfold setAdd
    refine wpAny_holding (wpAny_bind ((intKind prog w).pyHash (k := val i) (intKind_is _ _ _ _) ?_))
    refine Grown.next (s := { z' with toks := z'.toks + 1 }) g' (by omega) fun _ h' sb g2 => ?_
    have keep : ∀ b o, b ≠ S → z'.heap.get? b = some o → h'.get? b = some o := fun b o hb y => by rw [sb.2 b hb]; exact y
    refine wpAny_pure ⟨plainId_quiet F.plain_set_update_loop _, ih (i + 1) _ (by omega) (W.frame _ z' _ _ st' (Nat.le_succ _) fun b hb o y => keep b o (fun c => out (c ▸ hb)) y) ?_ g2⟩
    exact Moved.trans W.gtrans mv ((m.mono wider).then_heap (Nat.le_succ _) fun b o hb y => keep b o (fun c => hb (c ▸ List.mem_cons_self)) y)
/-- the new set, before anything is in it -/
def bareSet (w : World) : Obj := { cls := .type "set", dict := none, data := .set #[] 0 (.fresh 0 0 (!w.params.followText "set-order")) }
theorem new_bare (x : Value) {Q : Value → Shared → Prop} (h : Q (.ref s.heap.objs.size) { s with heap := s.heap.push (bareSet w) }) :
    codeAny (model prog w) A (.call (.builtin "set.__new__") ⟨[.type "set", x], []⟩) (wants Q E) s := by
  refine codeAny_of_tree ?_
  show wpAny _ A.in1 (checkBuiltinCall "set.__new__" ⟨[.type "set", x], []⟩ >>= fun _ => again (.builtin "set.__new__" ⟨[.type "set", x], []⟩)) _ _ s
  refine wpAny_bind (wpAny_of_eq (F.newCall_set_1 x) (wpAny_pure ⟨plainId_quiet F.plain_set_new _, codeAny_builtin F.entry_set_new ?_⟩))
  rw [Around.under_plainId F.plain_set_new _]
  have sub := sub_set_self
  unfold Builtin.«set.__new__» Builtin.Frozenset.newClass
  obtain ⟨hp, g, d, tk, os⟩ := s
  dsimp only
  wp_walk
  exact wpAny_askSetting (wpAny_pure (by dsimp only; simp only [newObj]; exact wpAny_bind (wpAny_alloc (wpAny_pure (wpAny_pure h)))))
/-- set.__init__ of a bare set and a list of whole numbers -/
theorem init_bare {l : Addr} {items : Array Value} {ns : List Int} {R : Result → Shared → Prop} {S : Addr} (hh : A.handled = none) (hS : s.heap.get? S = some (bareSet w)) (hl : s.heap.IsList l items) (hi : IntsAre items.toList ns) (room : items.size + 1 < scanBound)
    (fin : ∀ (h' : Heap) (tk : Nat), Grown w (fun i => ns.getD i 0) S items.size h' → (∀ b o, b ≠ S → s.heap.get? b = some o → h'.get? b = some o) → R (.ok (.ret .none)) { s with heap := h', toks := tk }) :
    wpAny (model prog w) A.in1 (Builtin.«set.__init__» ⟨[.ref S, .ref l], []⟩)
      (fun f s' => match f with | .done f => R (.ok f) s' | .again c => c.quiet = true ∧ codeAny (model prog w) A c R s') (fun e s' => R (.error e) s') s := by
  obtain ⟨⟨cl, dc, dt, so⟩, hol, hcl, nl, hdl⟩ := id hl
  simp only at hcl hdl
  subst hcl hdl
  have noSet := F.sub_list_set
  have noFrozen := F.sub_list_frozenset
  have noDict : (Value.type "list" == Value.type "dict") = false := by decide
  unfold bareSet at hS
  unfold Builtin.«set.__init__» noKeywords Builtin.Frozenset.updateFrom
  generalize eI : pyIter = walkIt
  wp_walk
  subst eI
  refine wpAny_pyIter_list hl ?_
  refine wpAny_bind (wpAny_runValue ?_)
  have lt1 : l < s.heap.objs.size := Heap.lt_size hol
  have ltS : S < s.heap.objs.size := Heap.lt_size hS
  have neS : l ≠ S := fun z => by
    rw [z, hS] at hol
    simp at hol
  have old : ∀ b o, s.heap.get? b = some o → (s.heap.push { cls := .type "list_iterator", data := .fields #[.ref l, .int 0 0] }).get? b = some o := fun b o y => Heap.get?_push_of_some _ y
  refine grow_all (s0 := { s with heap := s.heap.push { cls := .type "list_iterator", data := .fields #[.ref l, .int 0 0] } }) (val := fun i => ns.getD i 0) ((Walks.list (prog := prog) (w := w) (A := A.in1.in1) hh s.heap.objs.size l (Nat.ne_of_lt lt1) items).toS) ?_ (fun i v y => IntsAre.int_at hi i v (by rw [Array.getElem?_toList]; exact y)) room (fun z m g => ?_) items.size 0 _ (by omega) ⟨⟨_, Heap.get?_push_size _ rfl, rfl, rfl⟩, hl.push _⟩ (Moved.refl fun _ => rfl) ?_
  · simp only [List.mem_cons, List.not_mem_nil, or_false, not_or]
    exact ⟨Nat.ne_of_lt ltS, fun z => neS z.symm⟩
  · have ez := Moved.eq_with m
    rw [ez]
    refine wpAny_pure ?_
    show wpAny _ _ (ret Value.none) _ _ _
    refine wpAny_pure (fin z.heap z.toks g fun b o hb y => m.heap b o (fun hm => ?_) (old b o y))
    rcases List.mem_cons.mp hm with hm | hm
    · exact hb hm
    · have e : b = s.heap.objs.size := by simpa using hm
      exact Nat.lt_irrefl _ (e ▸ Heap.lt_size y)
  · have g0 : SetR w (s.heap.push { cls := .type "list_iterator", data := .fields #[.ref l, .int 0 0] }) S (fun _ => false) 0 :=
      ⟨_, #[], 0, _, old _ _ hS, ⟨rfl, rfl, rfl⟩, rfl, (fun e he => by simp at he), (by simp), (fun k => by simp), (by decide), (by rfl), rfl, List.Pairwise.nil, by
        show _ ∨ (!w.params.followText "set-order") = true
        cases w.params.followText "set-order"
        · exact .inr rfl
        · exact .inl rfl⟩
    exact g0
/-- set(xs) of whole numbers, with what sorted needs -/
theorem set_of_ints {l : Addr} {items : Array Value} {ns : List Int} {Q : Value → Shared → Prop} (hh : A.handled = none) (hl : s.heap.IsList l items) (hi : IntsAre items.toList ns) (room : items.size + 1 < scanBound)
    (fin : ∀ (h' : Heap) (tk : Nat), Grown w (fun i => ns.getD i 0) s.heap.objs.size items.size h' → (∀ b o, s.heap.get? b = some o → h'.get? b = some o) → Q (.ref s.heap.objs.size) { s with heap := h', toks := tk }) :
    wpAny (model prog w) A (call (.type "set") [.ref l]) Q E s := by
  have T := F.called_set
  obtain ⟨c, tl, mro⟩ := T.mro
  have made := T.made
  have sub := T.sub
  have known := T.init.lookup
  have nt := T.notType
  have cc := T.canCreate
  have tc := F.typeCall_set_1 (.ref l)
  refine wpAny_call (codeAny_of_tree ?_)
  show wpAny _ _ (callAny (.type "set") _) _ _ _
  refine wpAny_pure ⟨Code.quiet_builtin _ (by decide +kernel), codeAny_builtin F.entry_type_call ?_⟩
  rw [Around.under_plain (weight_type_call_type "set" [.ref l] []) rfl]
  repeat (any_goals (first | assumption | wp_step))
  refine codeAny_mono (new_bare (w := w) (.ref l) (E := E) (Q := fun v z => v = .ref s.heap.objs.size ∧ z = { s with heap := s.heap.push (bareSet w) }) ⟨rfl, rfl⟩) fun r z hr => ?_
  cases r with
  | error e => exact hr
  | ok f =>
    cases f with
    | ret v =>
      obtain ⟨rfl, rfl⟩ := hr
      have hS : (s.heap.push (bareSet w)).get? s.heap.objs.size = some (bareSet w) := Heap.get?_push_size _ rfl
      have bind := T.init.bind (.ref s.heap.objs.size)
      have sub2 : isSubtype (bareSet w).cls (Value.type "set") = pure true := sub
      have known2 := known
      have ty : Shared.TypeIs { s with heap := s.heap.push (bareSet w) } (.ref s.heap.objs.size) "set" := ⟨_, hS, rfl⟩
      repeat (any_goals (first | assumption | wp_step))
      refine codeAny_mono (codeAny_call_builtin (R := wants (fun r z => r = .none ∧ ∃ h' tk, z = { s with heap := h', toks := tk } ∧ Grown w (fun i => ns.getD i 0) s.heap.objs.size items.size h' ∧ ∀ b o, s.heap.get? b = some o → h'.get? b = some o) E) T.init.plain F.entry_set_init (check_set_init_1 ty ?_)) fun r2 z2 h2 => ?_
      · refine init_bare (s := { s with heap := s.heap.push (bareSet w) }) (R := _) (S := s.heap.objs.size) (by simp [hh]) hS (hl.push _) hi room fun h' tk g k => ⟨rfl, h', tk, rfl, g, fun b o y => k b o (Nat.ne_of_lt (Heap.lt_size y)) (Heap.get?_push_of_some _ y)⟩
      · cases r2 with
        | error e => exact h2
        | ok f2 =>
          cases f2 with
          | ret v2 =>
            obtain ⟨rfl, h', tk, rfl, g, k⟩ := h2
            repeat (any_goals (first | assumption | wp_step))
            exact fin h' tk g k
          | _ => exact h2.elim
    | _ => exact hr.elim
end
end HT
namespace Cm
open PySem PySem.Spec PyProof.Rows L2
/-! ### sorted(set(xs)) of whole numbers -/
def rSrtU (K : PySem.W.Frag) (x : V) (H1 : Hp) (Q : VK) : Prop := ∃ (l : Addr) (ns : List Int), x = .ref l ∧ SqL K H1 l (ns.map V.int) ∧ (ns.length ≤ 1000 ∧ unl ns ≤ 60) ∧ ∀ (ms : List Int) (p : Addr), ms.Pairwise (· < ·) → (∀ k, k ∈ ms ↔ k ∈ ns) → H1 p = none → Q (.ref p) (upd H1 p (.lst (ms.map V.int)))
def tSrtU (K : PySem.W.Frag) (ta : TE) : TE := fun σ H Q => ta σ H fun x H1 => rSrtU K x H1 Q
theorem met_mem {ns : List Int} (k : Int) : (PyProof.Rows.firstMet (fun i => ns.getD i 0) ns.length).any (· == k) = true ↔ k ∈ ns := by
  rw [firstMet_any]
  have e : (List.range ns.length).map (fun i => ns.getD i 0) = ns := by
    refine List.ext_getElem? fun i => ?_
    rw [List.getElem?_map]
    by_cases c : i < ns.length
    · rw [List.getElem?_range c, List.getElem?_eq_getElem c]
      simp [List.getD_eq_getElem?_getD, c]
    · rw [List.getElem?_eq_none (by simpa using c), List.getElem?_eq_none (by simpa using c)]; rfl
  rw [e, List.any_eq_true]
  constructor
  · rintro ⟨x, hx, h⟩; rw [← eq_of_beq h]; exact hx
  · intro h; exact ⟨k, h, beq_self_eq_true k⟩
theorem pe_srtU {X : Cx} {a : Expr} {ta : TE} {p p2 q pos : Pos} (cm : X.calm = true) (gl : Gl X "sorted") (ml : X.mg "sorted" = none) (gs : Gl X "set") (ms : X.mg "set" = none) (pa : PE X a ta)
    (se : starEach [a] X.env = (false, eval a X.env) :: starEach [] X.env := by rfl) : PE X (.Call (.Name "sorted" p) [.Call (.Name "set" p2) [a] [] q] [] pos) (tSrtU X.K ta) := by
  constructor
  intro pins s σ H Q I h
  refine Call_ (ld_blt I gl ml boot_sorted (PyProof.Rows.callWith_builtin1 (PyProof.Rows.args_cons ?_ rfl) rfl rfl))
  refine Call_ (ld_blt I gs ms boot_set (PyProof.Rows.callWith_type1 (PyProof.Rows.args_cons (thn (pa.run pins s σ H _ I h) fun v s1 ⟨x, H1, J, rx, qx⟩ => PyProof.Rows.args_nil ?_) se) se rfl))
  obtain ⟨l, ns, rfl, hq, ⟨hl, few⟩, qx⟩ := qx
  cases rx
  obtain ⟨its, rv, pl, hz⟩ := J.list hq
  have size : its.toArray.size = ns.length := by rw [List.size_toArray, ← rv.length, List.length_map]
  unfold unl at few
  refine HT.set_of_ints (J.ok.hd cm) pl.isList (by simpa using RZ.intsAre_vals rv) (by rw [size]; unfold scanBound; omega) fun h' tk g k => PyProof.Rows.args_nil ?_
  rw [size] at g
  have J2 : Inv X pins σ H1 { s1 with heap := h', toks := tk } := J.kept k
  have g2 : SetR X.w ({ s1 with heap := h', toks := tk } : Shared).heap s1.heap.objs.size _ _ := g
  generalize s1.heap.objs.size = sa at g2 ⊢
  generalize ({ s1 with heap := h', toks := tk } : Shared) = s2 at J2 g2 ⊢
  refine sorted_set g2 (J2.ok.hd cm) (by omega) fun s3 p out c ms keep gens os hp hg hin hs hm len => ?_
  have fresh : H1 p = none := J2.hok.fresh hp
  have es : s3 = { s2 with heap := s3.heap, gens := s3.gens, drawn := s3.drawn, toks := s3.toks } := by
    cases s3
    cases s2
    cases os
    rfl
  rw [es]
  have line : (ms.map V.int).length ≤ sizeLine := by
    rw [List.length_map, len]
    exact sz (by omega)
  have J3 : Inv X pins σ (upd H1 p (.lst (ms.map V.int))) { s2 with heap := s3.heap, gens := s3.gens, drawn := s3.drawn, toks := s3.toks } :=
    J2.call (ch := []) (Un.laid keep hp fresh) (J2.hok.laid keep hp ⟨line, out.toList, c, vals_of_ints hin, hg⟩) (by rw [gens]; exact J2.bare) (fun _ z => nomatch z)
  exact ⟨.ref p, _, J3, rfl, qx ms p hs (fun k => (hm k).trans (met_mem k)) fresh⟩
instance {K : PySem.W.Frag} {σ : L2.St} {H : Hp} {Q : VK} {te : TE} : Stp (tSrtU K te σ H Q) (te σ H fun x H1 => rSrtU K x H1 Q) := ⟨id⟩
theorem k_srtU {K : PySem.W.Frag} {H : Hp} {Q : VK} {l : Addr} {ns : List Int} (hs : SqL K H l (ns.map V.int)) (hl : ns.length ≤ 1000) (hu : unl ns ≤ 60) (h : ∀ (ms : List Int) (p : Addr) H', ms.Pairwise (· < ·) → (∀ k, k ∈ ms ↔ k ∈ ns) → H p = none → Same H H' → H' p = some (.lst (ms.map V.int)) → Q (.ref p) H') : rSrtU K (.ref l) H Q := ⟨l, ns, rfl, hs, ⟨hl, hu⟩, fun ms p a b c => h ms p _ a b c (same_new c) upd_same⟩
end Cm
namespace Cm
open PySem PySem.Spec PyProof.Rows L2
/-! ### x (not) in range(..) -/
theorem rg_has (o : Addr) (p q st x : Int) (k1 k2 k3 k4 : Tok) :
    Meets (Builtin.«range.__contains__» ⟨[.ref o, .int x k4], []⟩) (fun _ W z => z.heap.get? o = some { cls := .type "range", data := .fields #[.int p k1, .int q k2, .int st k3], dict := none, slots := #[] } ∧ W (.ok (.ret (.bool (Builtin.Range.rangePlace? p q st x).isSome))) z) :=
  .of_wp fun prog w A W z hz => by
    obtain ⟨hp, gg, dd, kk, ss⟩ := z
    obtain ⟨there, hz⟩ := hz
    wp_walk
    exact ⟨_, rfl, hz⟩
def RgV (vs : List V) (a b c : Int) : Prop := (vs = [.int b] ∧ a = 0 ∧ c = 1) ∨ (vs = [.int a, .int b, .int c] ∧ 0 < c ∧ c < 1073741824)
def inRgB (neg : Bool) (a b c i : Int) : Bool := if neg then !(Builtin.Range.rangePlace? a b c i).isSome else (Builtin.Range.rangePlace? a b c i).isSome
def tInRg (neg : Bool) (ta : TE) (tA : TA) : TE := fun σ H Q => ta σ H fun x H1 => tA σ H1 fun vs H2 => ∃ i a b c, x = .int i ∧ RgV vs a b c ∧ Q (.bl (inRgB neg a b c i)) H2
def rgOp : Bool → CmpOp
  | true => .NotIn
  | false => .In
theorem cmp_rg {X : Cx} {neg : Bool} {pins : List (Addr × Obj)} {s : Shared} {σ : L2.St} {H : Hp} {Q : VK} {o : Addr} {p q st x : Int} {k1 k2 k3 k4 : Tok} (J : Inv X pins σ H s) (ho : s.heap.get? o = some { cls := .type "range", data := .fields #[.int p k1, .int q k2, .int st k3] })
    (h : Q (.bl (inRgB neg p q st x)) H) : wpAny (model X.prog X.w) X.A (compareOp (rgOp neg) (.int x k4) (.ref o)) (EP X pins σ Q) X.xe s := by
  have go : ∀ {R : Bool → Shared → Prop}, R (Builtin.Range.rangePlace? p q st x).isSome s → wpAny (model X.prog X.w) X.A (contains (Value.ref o) (Value.int x k4)) R X.xe s := fun h =>
    wpAny_contains_slot (T := "range") ⟨_, ho, rfl⟩ F.slot_range_contains (call_meets F.slot_range_contains ⟨_, ho, rfl⟩ F.entry_range_contains (F.args_range_contains_2 _ _) (rg_has o p q st x k1 k2 k3 k4) ⟨ho, wpAny_truthy_bool h⟩)
  cases neg with
  | false =>
    show wpAny _ _ (do return Value.bool (← contains (Value.ref o) (Value.int x k4))) _ _ s
    exact wpAny_bind (go (wpAny_pure ⟨.bl _, H, J, rfl, h⟩))
  | true =>
    show wpAny _ _ (do return Value.bool (!(← contains (Value.ref o) (Value.int x k4)))) _ _ s
    exact wpAny_bind (go (wpAny_pure ⟨.bl _, H, J, rfl, h⟩))
theorem pc_inRg {X : Cx} {neg : Bool} {a b : Expr} {rest : List Expr} {ta : TE} {tA : TA} {p pos : Pos} (hg : Gl X "range") (hm : X.mg "range" = none) (pa : PE X a ta) (pA : PA X (b :: rest) tA)
    (he : starEach (b :: rest) X.env = (false, eval b X.env) :: starEach rest X.env) (hpl : (backTo pos (starEach rest X.env)).any (·.1) = false) : PC X (rgOp neg) a (.Call (.Name "range" p) (b :: rest) [] pos) (tInRg neg ta tA) := by
  refine ⟨fun pins s σ H Q I h => ?_⟩
  refine thn (pa.run pins s σ H _ I h) fun v s1 ⟨x, H1, I1, rx, q1⟩ => ?_
  refine Call_ (ld_blt I1 hg hm boot_range (PyProof.Rows.callWith_type1 (thn (pA.run pos pins s1 σ H1 _ I1 q1) fun us s2 ⟨vs, H2, I2, rs, q2⟩ => ?_) he hpl))
  obtain ⟨i, lo, hi, st, rfl, hv, q⟩ := q2
  obtain ⟨k, rfl⟩ := rx
  rcases hv with ⟨rfl, rfl, rfl⟩ | ⟨rfl, c0, c1⟩
  · cases rs with | cons r1 rr =>
    cases rr
    obtain ⟨t1, rfl⟩ := r1
    refine call_range_1 ?_
    exact cmp_rg (I2.kept fun b o e => Heap.get?_push_of_some _ e) (Heap.get?_push_size _ rfl) q
  · cases rs with | cons r1 rr =>
    cases rr with | cons r2 rr =>
    cases rr with | cons r3 rr =>
    cases rr
    obtain ⟨t1, rfl⟩ := r1
    obtain ⟨t2, rfl⟩ := r2
    obtain ⟨t3, rfl⟩ := r3
    refine call_range_3 (by omega) ?_ (.inl (PyProof.noPylong_small (by omega)))
    exact cmp_rg (I2.kept fun b o e => Heap.get?_push_of_some _ e) (Heap.get?_push_size _ rfl) q
def iRgIn (neg : Bool) (x : V) (vs : List V) (H : Hp) (Q : VK) : Prop := ∃ i a b c, x = .int i ∧ RgV vs a b c ∧ Q (.bl (inRgB neg a b c i)) H
instance {σ : L2.St} {H : Hp} {Q : VK} {neg : Bool} {ta : TE} {tA : TA} : Stp (tInRg neg ta tA σ H Q) (ta σ H fun x H1 => tA σ H1 fun vs H2 => iRgIn neg x vs H2 Q) := ⟨id⟩
theorem place_has (a b c i : Int) (hc : 0 < c) : (Builtin.Range.rangePlace? a b c i).isSome = decide (a ≤ i ∧ i < b ∧ (i - a) % c = 0) := by
  unfold Builtin.Range.rangePlace?
  rw [if_pos hc]
  by_cases h1 : a ≤ i <;> by_cases h2 : i < b <;> by_cases h3 : (i - a) % c = 0 <;> simp [h1, h2, h3]
theorem k_inRg1 {neg : Bool} {H : Hp} {Q : VK} {i n : Int} (h : Q (.bl (if neg then !decide (0 ≤ i ∧ i < n) else decide (0 ≤ i ∧ i < n))) H) : iRgIn neg (.int i) [.int n] H Q := ⟨i, 0, n, 1, rfl, .inl ⟨rfl, rfl, rfl⟩, by
  have e : decide (0 ≤ i ∧ i < n ∧ (i - 0) % 1 = 0) = decide (0 ≤ i ∧ i < n) := by rw [decide_eq_decide]; constructor <;> omega
  unfold inRgB
  rw [place_has 0 n 1 i (by decide), e]
  exact h⟩
theorem k_inRg3 {neg : Bool} {H : Hp} {Q : VK} {i a b c : Int} (hc : 0 < c) (hc2 : c < 1073741824) (h : Q (.bl (if neg then !decide (a ≤ i ∧ i < b ∧ (i - a) % c = 0) else decide (a ≤ i ∧ i < b ∧ (i - a) % c = 0))) H) : iRgIn neg (.int i) [.int a, .int b, .int c] H Q := ⟨i, a, b, c, rfl, .inr ⟨rfl, hc, hc2⟩, by
  unfold inRgB
  rw [place_has a b c i hc]
  exact h⟩
end Cm

namespace Cm
open PySem PySem.Spec PyProof.Rows L2
/-! ### sorted(xs), xs a list of data -/
def byD (z : V × PyData) : PyData := z.2
def srtD (xs : List V) (ds : List PyData) : List (V × PyData) := (xs.zip ds).mergeSort (PySem.W.dataLe false byD)
def rSortD (K : PySem.W.Frag) : List V → Hp → VK → Prop := fun vs H Q => ∃ (a : Addr) (xs : List V) (ds : List PyData), vs = [V.ref a] ∧ SqL K H a xs ∧ DpAll K H xs ds ∧ PySem.W.AllAlike ds ∧ PySem.W.Sortable ds ∧ (∀ d ∈ ds, d.depth ≤ 62) ∧
  ∀ p, H p = none → Q (.ref p) (upd H p (.lst ((srtD xs ds).map Prod.fst)))
section
variable {X : Cx} {pins : List (Addr × Obj)} {σ : L2.St} {H : Hp} {s : Shared}
theorem zip_snd : ∀ {xs : List V} {ds : List PyData}, DpAll X.K H xs ds → (xs.zip ds).map byD = ds
  | _, _, .nil => rfl
  | _, _, .cons _ t => by rw [List.zip_cons_cons, List.map_cons, zip_snd t]; rfl
theorem zip_is (I : Inv X pins σ H s) : ∀ {xs : List V} {ds : List PyData} {us : List Value}, DpAll X.K H xs ds → Vals xs us → PySem.W.EachIs (fun v (z : V × PyData) => RelV z.1 v) us (xs.zip ds) ∧ PySem.W.EachIs (fun v (z : V × PyData) => ∃ as, Reads s.heap v (byD z) as) us (xs.zip ds)
  | _, _, _, .nil, .nil => ⟨.nil, .nil⟩
  | _, _, _, .cons h t, .cons r rt => by
    obtain ⟨h1, h2⟩ := zip_is I t rt
    exact ⟨.cons r h1, .cons (Dp.reads I _ _ _ h r) h2⟩
theorem is_vals : ∀ {us : List Value} {zs : List (V × PyData)}, PySem.W.EachIs (fun v (z : V × PyData) => RelV z.1 v) us zs → Vals (zs.map Prod.fst) us
  | _, _, .nil => .nil
  | _, _, .cons r t => .cons r (is_vals t)
theorem cr_sortD (hu : X.A.units + 64 < cLine) : CallR X (.builtin "sorted") (rSortD X.K) := by
  intro pins s σ H vs us Q I r h
  obtain ⟨a, xs, ds, rfl, hs, hd, al, so, dep, q⟩ := h
  obtain ⟨its, rv, hl, hz⟩ := I.list hs
  rw [Vals.ref1 r]
  obtain ⟨e, er⟩ := zip_is I hd rv
  have zs := zip_snd hd
  have lz : (xs.zip ds).length = xs.length := by
    rw [List.length_zip, dpa_len hd, Nat.min_self]
  refine PySem.W.sorted_data hl.isList e er (by rw [zs]; exact al) (by rw [zs]; exact so) (by rw [lz]; exact hz) (fun z hz' => ?_) (fun out lo eo => ?_)
  · have : byD z ∈ ds := by rw [← zs]; exact List.mem_map_of_mem hz'
    have := dep _ this
    omega
  · obtain ⟨ep, at1⟩ := PyProof.Rows.sortedAll_at s.heap its out.toArray
    refine ⟨.ref _, upd H (s.heap.objs.size + 1) (.lst ((srtD xs ds).map Prod.fst)), I.laid (t' := s.toks) (fun _ _ => PyProof.Rows.sortedAll_old) (Nat.le_succ _) ⟨?_, out, ep, is_vals eo, at1⟩, rfl, q _ (I.hok.fresh (Nat.le_succ _))⟩
    rw [List.length_map, srtD, List.length_mergeSort, lz]
    exact hz
end
end Cm
namespace HT
open PySem PySem.Spec PyProof.Rows L2
/-! ### x in d.values() -/
theorem ent_ci : entryFor table "proto.contains_iter" = some Builtin.«proto.contains_iter» := entryFor_of_tree (by kernel_rfl)
theorem pl_ci : plainId "proto.contains_iter" = true := by decide +kernel
theorem lk_vals : typeLookup (.type "dict_values") "__contains__" = pure none := by rfl
section
variable {prog : Program} {w : World} {A : Around} {E : Value → Shared → Prop} {s : Shared}
theorem seek_all {I : Addr} {fp wr : List Addr} {n : Nat} {P : Nat → Value → Prop} {St : Nat → Heap → Prop} {R : Result → Shared → Prop} {val : Nat → Int} {x : Int} {tk : Tok}
    (W : Walks prog w A.in1 I fp wr n P St) (hin : ∀ i v, P i v → ∃ t, v = .int (val i) t) :
    ∀ (left i : Nat) (z : Shared), i + left = n → St i z.heap → (∀ b h' k, (b = true ↔ ∃ j, i ≤ j ∧ j < n ∧ val j = x) → (∀ c o, c ∉ wr → z.heap.get? c = some o → h'.get? c = some o) → R (.ok (.ret (.bool b))) { z with heap := h', toks := k }) →
      codeAny (model prog w) A (.builtin "proto.contains_iter" ⟨[.ref I, .int x tk], []⟩) R z := by
  intro left
  induction left with
  | zero =>
    intro i z e st fin
    obtain rfl : i = n := e
    refine codeAny_builtin ent_ci ?_
    rw [Around.under_plainId pl_ci _]
    refine wpAny_bind (W.done z _ _ st fun h' k kp => ?_)
    refine wpAny_bind (wpAny_rule (wpAny_pure ?_))
    exact fin false h' k ⟨(fun y => by cases y), fun ⟨j, h1, h2, _⟩ => by omega⟩ kp
  | succ left ih =>
    intro i z e st fin
    refine codeAny_builtin ent_ci ?_
    rw [Around.under_plainId pl_ci _]
    refine wpAny_bind (W.item i z _ _ (by omega) st fun v h' k pv st' kp => ?_)
    obtain ⟨t, rfl⟩ := hin i v pv
    refine wpAny_bind (wpAny_eqBool_int ?_)
    by_cases c : val i = x
    · rw [show (val i == x) = true by rw [c]; simp, if_pos rfl]
      refine wpAny_bind (wpAny_rule (wpAny_pure ?_))
      exact fin true h' k ⟨fun _ => ⟨i, Nat.le_refl _, by omega, c⟩, fun _ => rfl⟩ kp
    · rw [show (val i == x) = false by simpa using c, if_neg (by decide)]
      refine wpAny_pure ⟨plainId_quiet pl_ci _, ih (i + 1) { z with heap := h', toks := k } (by omega) st' fun b h2 k2 hb kp2 => ?_⟩
      refine fin b h2 k2 (hb.trans ⟨fun ⟨j, h1, h2, h3⟩ => ⟨j, by omega, h2, h3⟩, fun ⟨j, h1, h2, h3⟩ => ⟨j, ?_, h2, h3⟩⟩) fun c o hc y => kp2 c o hc (kp c o hc y)
      by_cases e : j = i
      · exact absurd (e ▸ h3) c
      · omega
theorem in_view {K : Type} [DecidableEq K] {knd : PySem.KeyKind prog w K} {v d : Addr} {kvs : List (K × Value)} {ep : Nat} {is : List Int} {x : Int} {tk : Tok} {Q : Bool → Shared → Prop} (hh : A.handled = none) (hv : s.heap.IsValuesView v d) (hm : s.heap.DictAt knd d kvs ep)
    (vals : ∀ (i : Nat) (u : Value), (∃ k, kvs[i]? = some (k, u)) → ∃ t, u = Value.int (is.getD i 0) t) (ln : kvs.length = is.length)
    (fin : ∀ b h' k, (b = true ↔ x ∈ is) → (∀ c o, s.heap.get? c = some o → h'.get? c = some o) → Q b { s with heap := h', toks := k }) : wpAny (model prog w) A (contains (.ref v) (.int x tk)) Q E s := by
  have ty : s.TypeIs (.ref v) "dict_values" := hv.typeIs
  unfold contains
  refine wpAny_holding ?_
  rw [stdlibNamesSay?_of_typeIs ty]
  refine wpAny_bind (wpAny_specialOf ty lk_vals ?_)
  rw [if_neg (by decide)]
  refine wpAny_bind (wpAny_callSpecialUnlessNone?_none ty lk_vals ?_)
  refine wpAny_bind (wpAny_rule ?_)
  refine wpAny_bind (wpAny_tryCatch (wpAny_pyIter_values hv hm ?_))
  have dlt : d < s.heap.objs.size := by
    obtain ⟨o, es, ho, _⟩ := hm
    exact Heap.lt_size ho
  have up : ∀ b u, s.heap.get? b = some u → (s.heap.push { cls := .type "dict_valueiterator", data := .fields #[.ref d, .int 0 0, .int kvs.length 0, .int ep 0] }).get? b = some u := fun b u e => Heap.get?_push_of_some _ e
  refine wpAny_bind (wpAny_runValue (seek_all (val := fun i => is.getD i 0) (Walks.dictValues (knd := knd) (A := A.in1) hh s.heap.objs.size d (Nat.ne_of_lt dlt) kvs ep) vals kvs.length 0 _ (by omega) ⟨⟨_, Heap.get?_push_size _ rfl, rfl, rfl⟩, hm.keep up⟩ (fun b h' k hb kp => ?_)))
  refine wpAny_pure (fin b h' k (hb.trans ?_) fun c o y => kp c o (fun hc => ?_) (up c o y))
  · rw [List.mem_iff_getElem]
    constructor
    · rintro ⟨j, _, h2, h3⟩
      have hj : j < is.length := by omega
      refine ⟨j, hj, ?_⟩
      rw [← h3, List.getD_eq_getElem?_getD, List.getElem?_eq_getElem hj]; rfl
    · rintro ⟨j, hj, e⟩
      refine ⟨j, Nat.zero_le _, by omega, ?_⟩
      show is.getD j 0 = x
      rw [← e, List.getD_eq_getElem?_getD, List.getElem?_eq_getElem hj]; rfl
  · have e1 : c = s.heap.objs.size := List.mem_singleton.mp hc
    exact Nat.lt_irrefl _ (e1 ▸ Heap.lt_size y)
end
end HT
namespace Cm
open PySem PySem.Spec PyProof.Rows L2
def iInV (neg : Bool) (x y : V) (H : Hp) (Q : VK) : Prop := ∃ (i : Int) (a : Addr) (kvs : List (Key × V)) (is : List Int), x = .int i ∧ y = .ref a ∧ H a = some (.dK kvs) ∧ kvs.map (·.2) = is.map V.int ∧ Q (.bl (if neg then !decide (i ∈ is) else decide (i ∈ is))) H
def tInV (neg : Bool) (ta td : TE) : TE := fun σ H Q => ta σ H fun x H1 => td σ H1 fun y H2 => iInV neg x y H2 Q
instance {σ : L2.St} {H : Hp} {Q : VK} {neg : Bool} {ta td : TE} : Stp (tInV neg ta td σ H Q) (ta σ H fun x H1 => td σ H1 fun y H2 => iInV neg x y H2 Q) := ⟨id⟩
theorem pc_inVals {X : Cx} {neg : Bool} {a o : Expr} {apos mpos : Pos} {ta td : TE} (hc : X.calm = true) (pa : PE X a ta) (hd : PE X o td) (hbase : attributeBase o "values" X.env (eval o X.env) = eval o X.env := by rfl) (hline : (apos.endLine == mpos.line) = true := by rfl) :
    PC X (rgOp neg) a (.Call (.Attribute o "values" apos) [] [] mpos) (tInV neg ta td) := by
  refine ⟨fun pins s σ H Q I h => ?_⟩
  refine thn (pa.run pins s σ H _ I h) fun w0 s0 ⟨x, H0, I0, r0, q0⟩ => ?_
  refine wpAny_Call_method0_late hbase hline (thn (hd.run pins s0 σ H0 _ I0 q0) ?_)
  rintro v s1 ⟨y, H1, I1, r1, i, d, kvs, is, rfl, rfl, ha, hv, q⟩
  obtain rfl : v = Value.ref d := r1
  obtain ⟨tk, rfl⟩ := r0
  obtain ⟨_, hsys, vs, rel, dof⟩ := dk_of I1.hok ha
  obtain ⟨ep, dat⟩ := dof.dictAt
  obtain ⟨ob, es, ho, ex, hdat, hko, hpr, hnd⟩ := id dat
  have lv : vs.length = is.length := by
    have e1 : kvs.length = is.length := by simpa using congrArg List.length hv
    rw [← e1]; exact (KV.length rel).symm
  have vals : ∀ (i : Nat) (v : Value), (∃ k, vs[i]? = some (k, v)) → ∃ t, v = Value.int (is.getD i 0) t := by
    rintro j v ⟨k, hk⟩
    obtain ⟨z, h1, h2⟩ := KV.at' rel hk
    have e1 : (is.map V.int)[j]? = some z := by rw [← hv, List.getElem?_map, h1] <;> rfl
    rw [List.getElem?_map] at e1
    obtain ⟨m, hm, rfl⟩ := Option.map_eq_some_iff.mp e1
    obtain ⟨t, e3⟩ := h2
    exact ⟨t, by rw [e3, List.getD_eq_getElem?_getD, hm] <;> rfl⟩
  refine ⟨"dict", "dict.values", F.plainAttrs_dict, F.slot_dict_values, F.type_dict_values, ⟨ob, ho, ex.1⟩, fun b e => by cases e; exact ⟨ob, ho, ex.2.1⟩, Calls.callWith_builtin rfl (PySem.evalArgs_none ?_)⟩
  refine call_meetsIn F.slot_dict_values ⟨ob, ho, ex.1⟩ F.entry_dict_values (F.args_dict_values_1 _) (meets_dict_values (mixKind X.prog X.w) d hsys) ⟨⟨vs, dof⟩, ?_⟩
  have up : ∀ b u, s1.heap.get? b = some u → (s1.heap.push { cls := .type "dict_values", data := .fields #[.ref d] }).get? b = some u := fun b u e => Heap.get?_push_of_some _ e
  have go : ∀ {R : Bool → Shared → Prop}, (∀ b h' k, (b = true ↔ i ∈ is) → (∀ c o, (s1.heap.push { cls := .type "dict_values", data := .fields #[.ref d] }).get? c = some o → h'.get? c = some o) → R b { s1 with heap := h', toks := k }) → wpAny (model X.prog X.w) X.A (contains (.ref s1.heap.objs.size) (.int i tk)) R X.xe { s1 with heap := s1.heap.push { cls := .type "dict_values", data := .fields #[.ref d] } } := fun fin =>
    HT.in_view (I.ok.hd hc) (v := s1.heap.objs.size) (d := d) ⟨_, Heap.get?_push_size _ rfl, rfl, rfl⟩ (dat.keep up) vals lv fin
  have keep : ∀ {h' : Heap} {k : Nat}, (∀ c o, (s1.heap.push { cls := .type "dict_values", data := .fields #[.ref d] }).get? c = some o → h'.get? c = some o) → Inv X pins σ H1 { s1 with heap := h', toks := k } := fun {h' k} kp => I1.kept (t' := k) fun b u e => kp b u (up b u e)
  cases neg with
  | false =>
    show wpAny _ _ (do return Value.bool (← contains (Value.ref s1.heap.objs.size) (Value.int i tk))) _ _ _
    refine wpAny_bind (go fun b h' k hb kp => wpAny_pure ⟨.bl b, H1, keep kp, rfl, ?_⟩)
    have e : b = decide (i ∈ is) := by rw [Bool.eq_iff_iff, hb, decide_eq_true_eq]
    rw [e]; exact q
  | true =>
    show wpAny _ _ (do return Value.bool (!(← contains (Value.ref s1.heap.objs.size) (Value.int i tk)))) _ _ _
    refine wpAny_bind (go fun b h' k hb kp => wpAny_pure ⟨.bl !b, H1, keep kp, rfl, ?_⟩)
    have e : b = decide (i ∈ is) := by rw [Bool.eq_iff_iff, hb, decide_eq_true_eq]
    rw [e]; exact q
theorem k_inV {neg : Bool} {H : Hp} {Q : VK} {i : Int} {a : Addr} {kvs : List (Key × V)} {is : List Int} (e : H a = some (.dK kvs)) (hv : kvs.map (·.2) = is.map V.int) (h : Q (.bl (if neg then !decide (i ∈ is) else decide (i ∈ is))) H) : iInV neg (.int i) (.ref a) H Q := ⟨i, a, kvs, is, rfl, rfl, e, hv, h⟩
theorem k_nInV {H : Hp} {Q : VK} {i : Int} {a : Addr} {kvs : List (Key × V)} {is : List Int} (e : H a = some (.dK kvs)) (hv : kvs.map (·.2) = is.map V.int) (h : Q (.bl (!decide (i ∈ is))) H) : iInV true (.int i) (.ref a) H Q := k_inV e hv h
end Cm
namespace HT
open PySem PySem.Spec PyProof.Rows L2
/-! ### sum(lists, start) -/
def lsO (vs : List Value) (e : Nat) : Obj := { cls := .type "list", data := .seq vs.toArray e }
/-- the first i rows behind a start -/
def rowsTo (start : List Value) (row : Nat → List Value) : Nat → List Value
  | 0 => start
  | i + 1 => rowsTo start row i ++ row i
theorem rowsTo_len {start : List Value} {row : Nat → List Value} : ∀ {i n : Nat}, i ≤ n → (rowsTo start row i).length ≤ (rowsTo start row n).length
  | i, 0, h => by
    obtain rfl : i = 0 := by omega
    exact Nat.le_refl _
  | i, n + 1, h => by
    by_cases c : i = n + 1
    · rw [c]; exact Nat.le_refl _
    · have := rowsTo_len (start := start) (row := row) (show i ≤ n by omega)
      rw [rowsTo, List.length_append]
      omega
theorem a2_sum (a b : Value) : argsOk "sum" ⟨[a, b], []⟩ := by unfold argsOk; kernel_rfl
section
variable {prog : Program} {w : World} {A : Around} {E : Value → Shared → Prop} {s : Shared}
theorem cat_all {I : Addr} {fp wr : List Addr} {n : Nat} {P : Nat → Value → Prop} {St : Nat → Heap → Prop} {R : Result → Shared → Prop} {cs : Nat → Addr} {start : List Value} {row : Nat → List Value} {S : Addr} {h0 : Heap}
    (W : Walks prog w A.in1 I fp wr n P St) (hin : ∀ i v, P i v → v = .ref (cs i)) (hS : S ∉ fp) (hw : ∀ i h, St i h → ∀ b ∈ wr, b < h.objs.size) (rows : ∀ i, i < n → cs i ∉ wr ∧ cs i ≠ S ∧ ∃ e, h0.get? (cs i) = some (lsO (row i) e)) (room : (rowsTo start row n).length ≤ sizeLine) :
    ∀ (left i : Nat) (z : Shared) (T : Addr) (c e : Nat), i + left = n → St i z.heap → (∀ b o, b ∉ wr → b ≠ S → h0.get? b = some o → z.heap.get? b = some o) → z.heap.get? S = some { cls := .type "list", dict := none, data := .seq #[.ref T] c, slots := #[] } → T ∉ wr → T ≠ S → z.heap.get? T = some (lsO (rowsTo start row i) e) →
      (∀ T' h' k e', (left = 0 → T' = T) → (0 < left → ∀ q ∈ wr, q < T') → (∀ b o, b ∉ wr → b ≠ S → z.heap.get? b = some o → h'.get? b = some o) → h'.get? T' = some (lsO (rowsTo start row n) e') → R (.ok (.ret (.ref T'))) { z with heap := h', toks := k }) →
      codeAny (model prog w) A (.builtin "sum.loop" ⟨[.ref I, .ref S, rawInt 2, rawInt 0], []⟩) R z := by
  have hSw : S ∉ wr := fun h => hS (W.sub _ h)
  intro left
  induction left with
  | zero =>
    intro i z T c e hi st kp0 hz Tw TS eT fin
    obtain rfl : i = n := hi
    refine codeAny_builtin F.entry_sum_loop ?_
    rw [Around.under_plainId F.plain_sum_loop _]
    show wpAny _ A.in1 (seqItems? (.ref S) >>= _) _ _ z
    refine wpAny_bind (wpAny_seqItems hz rfl ?_)
    show wpAny _ A.in1 (tryCatch (pyNext (.ref I)) _ >>= _) _ _ z
    refine wpAny_bind (wpAny_tryCatch (W.done z _ _ st fun h' k kp => ?_))
    exact wpAny_pure (fin T h' k e (fun _ => rfl) (fun y => by omega) (fun b o hb _ y => kp b o hb y) (kp T _ Tw eT))
  | succ left ih =>
    intro i z T c e hi st kp0 hz Tw TS eT fin
    obtain ⟨cw, cS, e1, ec⟩ := rows i (by omega)
    refine codeAny_builtin F.entry_sum_loop ?_
    rw [Around.under_plainId F.plain_sum_loop _]
    show wpAny _ A.in1 (seqItems? (.ref S) >>= _) _ _ z
    refine wpAny_bind (wpAny_seqItems hz rfl ?_)
    show wpAny _ A.in1 (tryCatch (pyNext (.ref I)) _ >>= _) _ _ z
    refine wpAny_bind (wpAny_tryCatch (W.item i z _ _ (by omega) st fun v h' k pv st' kp => ?_))
    obtain rfl := hin i v pv
    have eS := kp S _ hSw hz
    have eT' := kp T _ Tw eT
    have ecz := kp (cs i) _ cw (kp0 (cs i) _ cw cS ec)
    have big : (rowsTo start row i).length + (row i).length ≤ sizeLine := by
      have := rowsTo_len (start := start) (row := row) (show i + 1 ≤ n by omega)
      rw [rowsTo, List.length_append] at this
      omega
    show wpAny _ A.in1 ((holding [Value.ref (cs i)] (binaryOp .Add (.ref T) (.ref (cs i)))).attempt >>= _) _ _ _
    refine wpAny_bind (wpAny_attempt (wpAny_holding (PySem.P.add_list eT' ecz ?_ (by rw [List.size_toArray, List.size_toArray]; exact big))))
    have ep : (rowsTo start row i).toArray ++ (row i).toArray = (rowsTo start row (i + 1)).toArray := by simp [rowsTo]
    rw [ep]
    have nS : S ≠ h'.objs.size := Nat.ne_of_lt (Heap.lt_size eS)
    have up : ∀ b o, h'.get? b = some o → (h'.push (lsO (rowsTo start row (i + 1)) 0)).get? b = some o := fun b o y => Heap.get?_push_of_some _ y
    have ePS := up S _ eS
    show wpAny _ A.in1 (updateSeq S (fun _ => #[.ref h'.objs.size]) >>= _) _ _ _
    refine wpAny_bind (wpAny_updateSeq ePS rfl ?_)
    have eS2 := Heap.get?_update_self (Obj.mapSeq fun _ => #[Value.ref h'.objs.size]) ePS rfl
    refine wpAny_bind (wpAny_letGo ?_)
    have keep2 : ∀ b o, b ≠ S → h'.get? b = some o → (((h'.push (lsO (rowsTo start row (i + 1)) 0)).update S (Obj.mapSeq fun _ => #[Value.ref h'.objs.size])).update S (Obj.mapSeq fun _ => #[Value.ref h'.objs.size])).get? b = some o := fun b o hb y =>
      (Heap.get?_update_other _ _ (Ne.symm hb)).trans ((Heap.get?_update_other _ _ (Ne.symm hb)).trans (up b o y))
    have eT2 : (((h'.push (lsO (rowsTo start row (i + 1)) 0)).update S (Obj.mapSeq fun _ => #[Value.ref h'.objs.size])).update S (Obj.mapSeq fun _ => #[Value.ref h'.objs.size])).get? h'.objs.size = some (lsO (rowsTo start row (i + 1)) 0) :=
      (Heap.get?_update_other _ _ nS).trans ((Heap.get?_update_other _ _ nS).trans (Heap.get?_push_size _ rfl))
    have big2 : ∀ b, b < h'.objs.size → b < (((h'.push (lsO (rowsTo start row (i + 1)) 0)).update S (Obj.mapSeq fun _ => #[Value.ref h'.objs.size])).update S (Obj.mapSeq fun _ => #[Value.ref h'.objs.size])).objs.size := fun b hb => by
      rw [Heap.size_update, Heap.size_update, Heap.size_push]
      omega
    refine wpAny_bind (wpAny_updateSeq eS2 rfl (wpAny_pure ⟨plainId_quiet F.plain_sum_loop _, ih (i + 1) _ h'.objs.size _ 0 (by omega) (W.frame _ _ _ st' fun b hb o y => keep2 b o (fun c => hS (c ▸ hb)) y) (fun b o hb hb2 y => keep2 b o hb2 (kp b o hb (kp0 b o hb hb2 y))) (Heap.get?_update_self _ eS2 rfl) ?_ (Ne.symm nS) eT2 fun T' h2 k2 e' h3 h4 h5 h6 => ?_⟩))
    · exact fun y => Nat.lt_irrefl _ (hw _ _ st' _ y)
    · refine fin T' h2 k2 e' (fun y => by omega) (fun _ q hq => ?_) (fun b o hb hb2 y => h5 b o hb hb2 (keep2 b o hb2 (kp b o hb y))) h6
      by_cases c0 : left = 0
      · rw [h3 c0]
        exact hw _ _ st' q hq
      · exact h4 (by omega) q hq
theorem nl_str : isSubtype (.type "list") (.type "str") = pure false := by rw [isSubtype_type]; kernel_rfl
theorem nl_bytes : isSubtype (.type "list") (.type "bytes") = pure false := by rw [isSubtype_type]; kernel_rfl
theorem nl_barr : isSubtype (.type "list") (.type "bytearray") = pure false := by rw [isSubtype_type]; kernel_rfl
theorem call_sumL {l b : Addr} {items : Array Value} {cs : Nat → Addr} {start : List Value} {row : Nat → List Value} {Q : Value → Shared → Prop} (hh : A.handled = none) (hl : s.heap.IsList l items) (hb : ∃ e, s.heap.get? b = some (lsO start e)) (hin : ∀ (i : Nat) v, items[i]? = some v → v = .ref (cs i)) (rows : ∀ i, i < items.size → ∃ e, s.heap.get? (cs i) = some (lsO (row i) e)) (room : (rowsTo start row items.size).length ≤ sizeLine)
    (fin : ∀ T h' k e', (items.size = 0 → T = b) → (0 < items.size → s.heap.objs.size ≤ T) → (∀ c o, s.heap.get? c = some o → h'.get? c = some o) → h'.get? T = some (lsO (rowsTo start row items.size) e') → Q (.ref T) { s with heap := h', toks := k }) :
    wpAny (model prog w) A (call (.builtin "sum") [.ref l, .ref b]) Q E s := by
  obtain ⟨eb, hb⟩ := hb
  refine call_function_tree F.kind_sum F.plain_sum F.entry_sum (a2_sum _ _) ?_
  unfold Builtin.«sum»
  simp only [List.length_cons, List.length_nil]
  rw [if_neg (by decide)]
  refine wpAny_bind (wpAny_of_eq (show Builtin.Builtins.bindParams "sum" ["start"] 0 ⟨[.ref b], []⟩ = pure [some (.ref b)] from rfl) ?_)
  refine wpAny_bind (wpAny_pyIter_list hl ?_)
  have lt : ∀ {c o}, s.heap.get? c = some o → c < s.heap.objs.size := fun e => Heap.lt_size e
  have up : ∀ c o, s.heap.get? c = some o → (s.heap.push { cls := .type "list_iterator", data := .fields #[.ref l, .int 0 0] }).get? c = some o := fun c o y => Heap.get?_push_of_some _ y
  have ty : ({ s with heap := s.heap.push { cls := .type "list_iterator", data := .fields #[.ref l, .int 0 0] } } : Shared).TypeIs (.ref b) "list" := ⟨_, up b _ hb, rfl⟩
  refine wpAny_bind (wpAny_pure ?_)
  simp only [List.forIn_cons, List.forIn_nil]
  refine wpAny_bind (wpAny_bind (wpAny_bind (wpAny_isInstance (T := "list") (b := false) ty nl_str ?_)))
  simp only [Bool.false_eq_true, if_false]
  refine wpAny_pure (wpAny_bind (wpAny_bind (wpAny_isInstance (T := "list") (b := false) ty nl_bytes ?_)))
  simp only [Bool.false_eq_true, if_false]
  refine wpAny_pure (wpAny_bind (wpAny_bind (wpAny_isInstance (T := "list") (b := false) ty nl_barr ?_)))
  simp only [Bool.false_eq_true, if_false]
  refine wpAny_pure (wpAny_pure ?_)
  refine wpAny_bind (wpAny_newObj_type ?_)
  obtain ⟨ol, hol, _⟩ := id hl
  have ltl := lt hol
  have sz : (s.heap.push { cls := .type "list_iterator", data := .fields #[.ref l, .int 0 0] }).objs.size = s.heap.objs.size + 1 := Heap.size_push _ _
  refine wpAny_pure ⟨plainId_quiet F.plain_sum_loop _, ?_⟩
  have up2 : ∀ c o, s.heap.get? c = some o → ((s.heap.push { cls := .type "list_iterator", data := .fields #[.ref l, .int 0 0] }).push { cls := .type "list", data := .seq #[.ref b] }).get? c = some o := fun c o y => Heap.get?_push_of_some _ (up c o y)
  have ne0 : ∀ {c : Addr}, c < s.heap.objs.size → c ∉ [s.heap.objs.size] := fun h hc => Nat.ne_of_lt h (List.mem_singleton.mp hc)
  have ne1 : ∀ {c : Addr}, c < s.heap.objs.size → c ≠ s.heap.objs.size + 1 := fun h => Nat.ne_of_lt (Nat.lt_succ_of_lt h)
  refine cat_all (h0 := s.heap) (start := start) (row := row) (Walks.list (prog := prog) (w := w) (A := A.in1) hh s.heap.objs.size l (Nat.ne_of_lt ltl) items) hin ?_ ?_ (fun i hi => ?_) room items.size 0 _ b 0 eb (by omega) ⟨⟨_, Heap.get?_push_of_some _ (Heap.get?_push_size _ rfl), rfl, rfl⟩, (hl.push _).push _⟩ (fun c o _ _ y => up2 c o y) (Heap.get?_push_size _ rfl) ?_ ?_ (up2 b _ hb) (fun T h' k e' h3 h4 h5 h6 => ?_)
  · simp only [List.mem_cons, List.not_mem_nil, or_false, not_or]
    constructor
    · show (s.heap.push _).objs.size ≠ _
      rw [sz]
      exact Nat.succ_ne_self _
    · show (s.heap.push _).objs.size ≠ _
      rw [sz]
      exact (ne1 ltl).symm
  · intro i h st c hc
    rw [show c = s.heap.objs.size from List.mem_singleton.mp hc]
    obtain ⟨⟨o, ho, _⟩, _⟩ := st
    exact Heap.lt_size ho
  · obtain ⟨e, he⟩ := rows i hi
    refine ⟨ne0 (lt he), ?_, e, he⟩
    show cs i ≠ (s.heap.push _).objs.size
    rw [sz]
    exact ne1 (lt he)
  · exact ne0 (lt hb)
  · show b ≠ (s.heap.push _).objs.size
    rw [sz]
    exact ne1 (lt hb)
  · refine fin T h' k e' h3 (fun hp => Nat.le_of_lt (h4 hp _ (List.mem_singleton.mpr rfl))) (fun c o y => ?_) h6
    · refine h5 c o (ne0 (lt y)) ?_ (up2 c o y)
      show c ≠ (s.heap.push _).objs.size
      rw [sz]
      exact ne1 (lt y)
end
end HT
namespace Cm
open PySem PySem.Spec PyProof.Rows L2
def rSumL (K : PySem.W.Frag) : List V → Hp → VK → Prop := fun vs H Q => ∃ (a b : Addr) (cs : List Addr) (rows : List (List V)) (st : List V), vs = [V.ref a, V.ref b] ∧ SqL K H a (cs.map V.ref) ∧ H b = some (.lst st) ∧ cs.length = rows.length ∧ (∀ (i : Nat) c r, cs[i]? = some c → rows[i]? = some r → H c = some (.lst r)) ∧ (st ++ rows.flatten).length ≤ 100000 ∧
  (rows = [] → Q (.ref b) H) ∧ (rows ≠ [] → ∀ p, H p = none → Q (.ref p) (upd H p (.lst (st ++ rows.flatten))))
theorem vals_at {xs : List V} {us : List Value} (h : Vals xs us) : ∀ {i : Nat} {u : Value}, us[i]? = some u → ∃ x, xs[i]? = some x ∧ RelV x u := by
  induction h with
  | nil => intro i u e; simp at e
  | cons r t ih =>
    intro i u e
    cases i with
    | zero =>
      simp only [List.getElem?_cons_zero, Option.some.injEq] at e
      subst e
      exact ⟨_, rfl, r⟩
    | succ i => exact ih (by simpa using e)
theorem rows_vals {st : List V} {rows : List (List V)} {start : List Value} {row : Nat → List Value} (h0 : Vals st start) (hr : ∀ i, i < rows.length → Vals (rows.getD i []) (row i)) : ∀ i, i ≤ rows.length → Vals (st ++ (rows.take i).flatten) (HT.rowsTo start row i)
  | 0, _ => by
    show Vals (st ++ (rows.take 0).flatten) start
    simpa using h0
  | i + 1, h => by
    have ih := rows_vals h0 hr i (by omega)
    have e : rows.take (i + 1) = rows.take i ++ [rows.getD i []] := by
      rw [List.take_add_one, List.getD_eq_getElem?_getD, List.getElem?_eq_getElem (show i < rows.length by omega)]; rfl
    rw [e, List.flatten_append, ← List.append_assoc]
    show Vals _ (HT.rowsTo start row i ++ row i)
    simpa using ih.append (hr i (by omega))
open Classical in
theorem cr_sumL {X : Cx} (hc : X.calm = true) : CallR X (.builtin "sum") (rSumL X.K) := by
  intro pins s σ H vs us Q I r h
  obtain ⟨a, b, cs, rows, st, rfl, hs, hb, hl, hrow, hz, q0, q1⟩ := h
  obtain ⟨its, rv, isl, _⟩ := I.list hs
  obtain ⟨z1, start, e1, r1, l1, g1⟩ := I.lstM hb
  obtain ⟨u1, u2, rfl, ra, rb⟩ := vals2 r
  obtain rfl : u1 = Value.ref a := ra
  obtain rfl : u2 = Value.ref b := rb
  have ln : its.toArray.size = rows.length := by rw [List.size_toArray, ← rv.length, List.length_map, hl]
  have each : ∀ i, i < rows.length → ∃ vsi e, Vals (rows.getD i []) vsi ∧ s.heap.get? (cs.getD i 0) = some (HT.lsO vsi e) := fun i hi => by
    have hc' : cs[i]? = some (cs.getD i 0) := by rw [List.getD_eq_getElem?_getD, List.getElem?_eq_getElem (by omega)]; rfl
    have hr' : rows[i]? = some (rows.getD i []) := by rw [List.getD_eq_getElem?_getD, List.getElem?_eq_getElem hi]; rfl
    obtain ⟨_, its', n', r', _, g'⟩ := I.lstM (hrow i _ _ hc' hr')
    exact ⟨its', n', r', g'⟩
  let row : Nat → List Value := fun i => if h : i < rows.length then (each i h).choose else []
  have hrv : ∀ i, (h : i < rows.length) → Vals (rows.getD i []) (row i) ∧ ∃ e, s.heap.get? (cs.getD i 0) = some (HT.lsO (row i) e) := fun i h => by
    have := (each i h).choose_spec
    have er : row i = (each i h).choose := dif_pos h
    rw [er]
    obtain ⟨e, p1, p2⟩ := this
    exact ⟨p1, e, p2⟩
  have rvs := rows_vals r1 (fun i h => (hrv i h).1)
  have full := rvs rows.length (Nat.le_refl _)
  rw [List.take_length] at full
  have line : (st ++ rows.flatten).length ≤ sizeLine := sz hz
  refine HT.call_sumL (I.ok.hd hc) (cs := fun i => cs.getD i 0) (start := start) (row := row) isl.isList ⟨e1, g1⟩ (fun i v hv => ?_) (fun i hi => (hrv i (by omega)).2) (by rw [ln, ← full.length]; exact line) (fun T h' k e' t0 t1 kp eT => ?_)
  · obtain ⟨x, hx, rx⟩ := vals_at rv (by simpa using hv)
    rw [List.getElem?_map] at hx
    obtain ⟨c, hc', rfl⟩ := Option.map_eq_some_iff.mp hx
    rw [List.getD_eq_getElem?_getD, hc']
    exact rx
  · rw [ln] at eT t0 t1
    by_cases c : rows = []
    · rw [t0 (by rw [c]; rfl)]
      exact ⟨.ref b, H, I.kept kp, rfl, q0 c⟩
    · have lp : 0 < rows.length := List.length_pos_iff.mpr c
      have ge : s.heap.objs.size ≤ T := t1 lp
      exact ⟨.ref T, upd H T (.lst (st ++ rows.flatten)), I.laid kp ge ⟨line, _, e', full, eT⟩, rfl, q1 c T (I.hok.fresh ge)⟩
end Cm
namespace Cm
open PySem PySem.Spec PyProof.Rows L2
theorem k_sumL {K : PySem.W.Frag} {H : Hp} {Q : VK} {a b : Addr} {cs : List Addr} {rows : List (List V)} {st : List V} (hs : SqL K H a (cs.map V.ref)) (hb : H b = some (.lst st)) (hl : cs.length = rows.length) (hr : ∀ (i : Nat) c r, cs[i]? = some c → rows[i]? = some r → H c = some (.lst r)) (hz : (st ++ rows.flatten).length ≤ 100000)
    (h : ∀ p H', (p = b ∨ H p = none) → Same H H' → H' p = some (.lst (st ++ rows.flatten)) → Q (.ref p) H') : rSumL K [.ref a, .ref b] H Q :=
  ⟨a, b, cs, rows, st, rfl, hs, hb, hl, hr, hz, fun e => h b H (.inl rfl) (Same.refl _) (by rw [e]; simpa using hb), fun _ p np => h p _ (.inr np) (same_new np) upd_same⟩
end Cm
namespace Cm
open PySem PySem.Spec PyProof.Rows L2
/-! ### an own exception made as a value -/
theorem pe_of_mk {X : Cx} {e : Expr} {t : L2.St → Hp → XK → Prop} (he : PMk X e t) : PE X e (fun σ H Q => t σ H fun cls d H' => ∀ a, H' a = none → Q (.ref a) (upd H' a (ExV cls d a))) :=
  ⟨fun pins s σ H Q I h => wpAny_mono (he pins s σ H _ I h) (fun u s1 hu => by
    obtain ⟨a, oe, vs, sI, H', cls, d, rfl, J, k, hne, ha, hz, hd, h1, na, os, ag, r, q⟩ := hu
    exact ⟨.ref a, upd H' a (ExV cls d a), J.call' (ch := []) os (Un.laidN k hne na) (J.hok.laidN k na (exV_ok ha hz hd)) ag (fun b z => absurd z (by simp)), rfl, q a na⟩) fun _ _ x => x⟩
/-- C(e), C with an __init__ that keeps sp, as a value -/
def tMkV (C : Addr) (sp : Sp) (ta : TA) : TE := fun σ H Q => tMkO C sp [] ta σ H fun cls d H' => ∀ a, H' a = none → Q (.ref a) (upd H' a (ExV cls d a))
theorem k_mkV {C : Addr} {f : Str} {ta : TA} {v : V} {σ : L2.St} {H : Hp} {Q : VK} (hta : ∀ (R : List V → Hp → Prop), R [v] H → ta σ H R) (h : ∀ d a, H d = none → (upd H d (.xd [(f, v)])) a = none → Q (.ref a) (upd (upd H d (.xd [(f, v)])) a (ExV (.ref C) (some d) a))) : tMkV C (spInit C f) ta σ H Q :=
  k_raiseO (E := fun cls d H' => ∀ a, H' a = none → Q (.ref a) (upd H' a (ExV cls d a))) (D := ⟨fun _ _ => False, fun _ _ => False, fun _ _ => False, fun _ _ => False⟩) hta fun d nd a na => h d a nd na
end Cm
namespace Cm
open PySem PySem.Spec PyProof.Rows L2
/-! ### xs[::2] of a list -/
def evV {α : Type} : List α → List α
  | [] => []
  | [a] => [a]
  | a :: _ :: r => a :: evV r
theorem evV_len {α : Type} : ∀ l : List α, (evV l).length = (l.length + 1) / 2
  | [] => by show 0 = (0 + 1) / 2; rfl
  | [_] => by show 1 = (0 + 1 + 1) / 2; rfl
  | _ :: _ :: r => by show (evV r).length + 1 = (r.length + 1 + 1 + 1) / 2; rw [evV_len r]; omega
theorem evV_get {α : Type} : ∀ (l : List α) (i : Nat), (evV l)[i]? = l[2 * i]?
  | [], i => by simp [evV]
  | [a], 0 => rfl
  | [a], i + 1 => by simp [evV, show 2 * (i + 1) = 2 * i + 1 + 1 by omega]
  | a :: b :: r, 0 => rfl
  | a :: b :: r, i + 1 => by
    show (evV r)[i]? = (a :: b :: r)[2 * (i + 1)]?
    rw [evV_get r i, show 2 * (i + 1) = 2 * i + 1 + 1 by omega, List.getElem?_cons_succ, List.getElem?_cons_succ]
theorem evV_map {α β : Type} (f : α → β) : ∀ l : List α, (evV l).map f = evV (l.map f)
  | [] => rfl
  | [_] => rfl
  | a :: b :: r => by show f a :: (evV r).map f = f a :: evV (r.map f); rw [evV_map f r]
theorem evV_vals : ∀ {xs : List V} {us : List Value}, Vals xs us → Vals (evV xs) (evV us)
  | _, _, .nil => .nil
  | _, _, .cons h .nil => .cons h .nil
  | _, _, .cons h (.cons _ t) => .cons h (evV_vals t)
theorem evV_fm {α : Type} (l : List α) : ∀ k, k ≤ (evV l).length → (List.range k).filterMap (fun m => l[2 * m]?) = (evV l).take k
  | 0, _ => by simp
  | k + 1, h => by
    have ih := evV_fm l k (by omega)
    rw [List.range_succ, List.filterMap_append, ih, List.take_add_one, evV_get]
    have : 2 * k < l.length := by rw [evV_len] at h; omega
    rw [List.getElem?_eq_getElem this]
    simp [List.getElem?_eq_getElem this]
theorem pick_ev (items : Array Value) : slicePick items none none (some 2) = (evV items.toList).toArray := by
  unfold slicePick
  have e : sliceBounds none none (some 2) items.size = ((0 : Int), (items.size : Int), 2) := by
    simp [sliceBounds]
  rw [e]
  show ((sliceRange (0 : Int) (items.size : Int) 2).filterMap (items[·]?)).toArray = _
  congr 1
  unfold sliceRange
  have hc : (if (2 : Int) > 0 then (if (0 : Int) < (items.size : Int) then ((items.size : Int) - 0 + 2 - 1) / 2 else 0) else (if (0 : Int) > (items.size : Int) then ((0 : Int) - (items.size : Int) - 2 - 1) / (-2) else 0)).toNat = (evV items.toList).length := by
    rw [evV_len, Array.length_toList, if_pos (by decide)]
    split <;> omega
  show List.filterMap (fun x => items[x]?) (List.map (fun (k : Nat) => ((0 : Int) + 2 * (k : Int)).toNat) (List.range (if (2 : Int) > 0 then (if (0 : Int) < (items.size : Int) then ((items.size : Int) - 0 + 2 - 1) / 2 else 0) else (if (0 : Int) > (items.size : Int) then ((0 : Int) - (items.size : Int) - 2 - 1) / (-2) else 0)).toNat)) = _
  rw [hc, List.filterMap_map]
  have hf : ((fun x => items[x]?) ∘ fun (k : Nat) => ((0 : Int) + 2 * (k : Int)).toNat) = fun m : Nat => items.toList[2 * m]? := by
    funext m
    show items[((0 : Int) + 2 * (m : Int)).toNat]? = _
    rw [show ((0 : Int) + 2 * (m : Int)).toNat = 2 * m by omega, Array.getElem?_toList]
  rw [hf, evV_fm _ _ (Nat.le_refl _), List.take_length]
def rEvL (K : PySem.W.Frag) (x : V) (H : Hp) (Q : VK) : Prop := ∃ a xs, x = .ref a ∧ SqL K H a xs ∧ ∀ p, H p = none → Q (.ref p) (upd H p (.lst (evV xs)))
def tEvL (K : PySem.W.Frag) (te : TE) : TE := fun σ H Q => te σ H fun x H1 => rEvL K x H1 Q
section
variable {X : Cx}
theorem pe_evL {e : Expr} {te : TE} {k : Nat} {p1 p3 pos : Pos} (he : PE X e te) : PE X (.Subscript e (.Slice none none (some (.Constant (.int 2) k p1)) p3) pos) (tEvL X.K te) := by
  refine ⟨fun pins s σ H Q I h => ?_⟩
  refine Subscript_ (thn (he.run pins s σ H _ I h) fun v s1 ⟨x, H1, I1, r1, q1⟩ => ?_)
  obtain ⟨a, xs, ex, hx, q⟩ := q1
  subst ex
  cases r1
  have hst : PO X (some (.Constant (.int 2) k p1)) (tPart (tC (.int 2))) := po_some pe_int
  refine wpAny_Slice (thn (po_none.run pins s1 σ H1 (fun o H2 => o = none ∧ H2 = H1) I1 ⟨rfl, rfl⟩) fun vl s2 ⟨l, H2, I2, pl, el, e2⟩ => ?_)
  subst el e2
  refine thn (po_none.run pins s2 σ H2 (fun o H3 => o = none ∧ H3 = H2) I2 ⟨rfl, rfl⟩) fun vu s3 ⟨u, H3, I3, pu, eu, e3⟩ => ?_
  subst eu e3
  refine thn (hst.run pins s3 σ H3 (fun o H4 => o = some 2 ∧ H4 = H3) I3 ⟨2, rfl, rfl, rfl⟩) fun vs s4 ⟨o, H4, I4, ps, eo, e4⟩ => ?_
  subst eo e4
  have I5 : Inv X pins σ H4 { s4 with heap := s4.heap.push { cls := .type "slice", data := .fields #[vl, vu, vs] } } := I4.kept (t' := s4.toks) fun b ob q => Heap.get?_push_of_some _ q
  obtain ⟨its, r, ht, hz⟩ := I5.list hx
  have hlen := r.length
  show wpAny (model X.prog X.w) X.A (subscriptTail e (.Slice none none (some (.Constant (.int 2) k p1)) p3) (.ref a) (.ref s4.heap.objs.size)) (EP X pins σ Q) X.xe { s4 with heap := s4.heap.push { cls := .type "slice", data := .fields #[vl, vu, vs] } }
  refine tail_any (ops := [.ref a, .ref s4.heap.objs.size]) ht.isList.typeIs (PySem.slot_list_getitem.lookup) ?_ (by with_unfolding_all rfl)
  refine wpAny_getItem_list_slice ht.isList (Heap.IsSliceOf.new _ vl vu vs) pl pu ps (by decide) ?_ (by rw [List.size_toArray]; omega)
  rw [pick_ev]
  refine ⟨.ref _, _, I5.laid (t' := s4.toks) (o := .lst (evV xs)) (fun b ob q => Heap.get?_push_of_some _ q) (Nat.le_refl _) ?_, rfl, q _ (I5.hok.fresh (Nat.le_refl _))⟩
  exact ⟨by rw [evV_len]; omega, _, 0, evV_vals r, Heap.get?_push_size _ rfl⟩
end
instance {K : PySem.W.Frag} {σ : L2.St} {H : Hp} {Q : VK} {te : TE} : Stp (tEvL K te σ H Q) (te σ H fun x H1 => rEvL K x H1 Q) := ⟨id⟩
theorem k_evL {K : PySem.W.Frag} {H : Hp} {Q : VK} {a : Addr} {xs : List V} (hs : SqL K H a xs) (h : ∀ p H', H p = none → Same H H' → H' p = some (.lst (evV xs)) → Q (.ref p) H') : rEvL K (.ref a) H Q := ⟨a, xs, rfl, hs, fun p np => h p _ np (same_new np) upd_same⟩
end Cm

namespace Cm
open PySem PySem.Spec PyProof.Rows L2
/-! ### text * number -/
def xMulS : R2 := fun x y H Q => ∃ (s : Str) (k : Int), x = .str s ∧ y = .int k ∧ 2 ≤ k ∧ k ≤ 1000 ∧ 0 < s.length ∧ s.length ≤ 100 ∧ Q (.str (mkS (List.replicate k.toNat (sg s)).flatten)) H
theorem fold_app (a : Array Nat) : ∀ (n : Nat) (b : Array Nat), ((List.replicate n a).foldl (· ++ ·) b).toList = b.toList ++ (List.replicate n a.toList).flatten
  | 0, b => by simp
  | n + 1, b => by
    rw [List.replicate_succ, List.foldl_cons, fold_app a n (b ++ a), List.replicate_succ, List.flatten_cons, Array.toList_append, List.append_assoc]
theorem op_mulS {X : Cx} : OpR X (binaryOp .Mult) xMulS := by
  intro pins s σ H x y v u Q I rx ry h
  obtain ⟨a, k, rfl, rfl, h2, h3, h4, h5, q⟩ := h
  obtain ⟨t, rfl⟩ := rx
  obtain ⟨t', rfl⟩ := ry
  have e1 : (k == 1 || a.length == 0) = false := by
    rw [Bool.or_eq_false_iff]
    exact ⟨by simp; omega, by simp; omega⟩
  have big : a.length * k.toNat ≤ 100 * 1000 := Nat.mul_le_mul h5 (by omega)
  refine PySem.P.mul_str (by
      have z1 : ¬ k < -(2 ^ 63 : Int) := by omega
      have z2 : ¬ k ≥ (2 ^ 63 : Int) := by omega
      rw [decide_eq_false z1, decide_eq_false z2]; rfl) (fun _ _ => ?_) (fun _ _ => ?_) ?_
  · have : (2 ^ 63 - 1 : Int) / k ≥ 100 := by
      refine Int.le_ediv_of_mul_le (by omega) ?_
      have : (100 : Int) * k ≤ 100 * 1000 := by omega
      omega
    omega
  · exact decide_eq_false (Nat.not_lt.mpr (sz big))
  · rw [if_neg (by omega), if_neg (by rw [e1]; decide)]
    have eq : (⟨List.foldl (· ++ ·) #[] (List.replicate k.toNat a.cps)⟩ : Str) = mkS (List.replicate k.toNat (sg a)).flatten := TL.ext_tl (by
      show (List.foldl (· ++ ·) #[] (List.replicate k.toNat a.cps)).toList = _
      rw [fold_app]; rfl)
    have e2 : (List.foldl (· ++ ·) #[] (List.replicate k.toNat a.cps)) = (mkS (List.replicate k.toNat (sg a)).flatten).cps := congrArg Str.cps eq
    refine ⟨?_, ?_⟩
    · show (List.foldl (· ++ ·) #[] (List.replicate k.toNat a.cps)).size ≤ sizeLine
      rw [← Array.length_toList, fold_app, List.length_append, List.length_flatten, List.map_replicate, List.sum_replicate_nat]
      show 0 + k.toNat * a.cps.toList.length ≤ sizeLine
      rw [Nat.zero_add, Array.length_toList, Nat.mul_comm]
      exact sz big
    · exact ⟨.str (mkS (List.replicate k.toNat (sg a)).flatten), H, I.tok _, ⟨_, congrArg (fun z => Value.str z s.toks) eq⟩, q⟩
theorem k_mulS {K : PySem.W.Frag} {H : Hp} {Q : VK} {s : Str} {k : Int} (h1 : 2 ≤ k) (h2 : k ≤ 1000) (h3 : 0 < (sg s).length) (h4 : (sg s).length ≤ 100) (h : Q (.str (mkS (List.replicate k.toNat (sg s)).flatten)) H) : xMulS (.str s) (.int k) H Q :=
  ⟨s, k, rfl, rfl, h1, h2, by rw [len_sg]; exact h3, by rw [len_sg]; exact h4, h⟩
/-! ### int(text) -/
def rIntS : List V → Hp → VK → Prop := fun xs H Q => ∃ a n, xs = [.str a] ∧ PySem.intText? a = some n ∧ a.length ≤ 640 ∧ Q (.int n) H
theorem q_intS {X : Cx} : CallR X (.type "int") rIntS := call_int_str
theorem k_intS {H : Hp} {Q : VK} {l : List Nat} (h : l.all (fun c => decide (48 ≤ c) && decide (c ≤ 57)) = true) (ne : l ≠ []) (hl : l.length ≤ 600) (q : Q (.int (NumText.digitsVal l : Nat)) H) : rIntS [.str (mkS l)] H Q :=
  ⟨_, _, rfl, SX.int_S h ne (by omega), by rw [len_sg, sg_mkS]; omega, q⟩
/-! ### slices of texts -/
theorem mk_len (l : List Nat) : (mkS l).length = l.length := by rw [len_sg]; rfl
theorem cutS_to (l : List Nat) (k : Nat) : cutS (mkS l) none (some (k : Int)) = mkS (l.take k) := by
  show mkS ((l.drop (HT.sIx (mkS l).length 0 none)).take (HT.sIx (mkS l).length (mkS l).length (some (k : Int)) - HT.sIx (mkS l).length 0 none)) = _
  rw [HT.sIx_none, HT.sIx_nat, mk_len, List.drop_zero, Nat.sub_zero]
  congr 1
  by_cases h : k ≤ l.length
  · rw [Nat.min_eq_left h]
  · rw [Nat.min_eq_right (by omega), List.take_of_length_le (Nat.le_refl _), List.take_of_length_le (by omega)]
theorem cutS_from (l : List Nat) (k : Nat) : cutS (mkS l) (some (k : Int)) none = mkS (l.drop k) := by
  show mkS ((l.drop (HT.sIx (mkS l).length 0 (some (k : Int)))).take (HT.sIx (mkS l).length (mkS l).length none - HT.sIx (mkS l).length 0 (some (k : Int)))) = _
  rw [HT.sIx_none, HT.sIx_nat, mk_len]
  congr 1
  by_cases h : k ≤ l.length
  · rw [Nat.min_eq_left h]
    exact List.take_of_length_le (by simp)
  · rw [Nat.min_eq_right (by omega), List.drop_of_length_le (Nat.le_refl _), List.drop_of_length_le (by omega), List.take_nil]
section
variable {K : PySem.W.Frag} {H : Hp} {Q : VK}
theorem k_slS0 {l : List Nat} {k : Nat} (hl : l.length ≤ 100000) (h : Q (.str (mkS (l.take k))) H) : rSlS (.str (mkS l)) none (some (k : Int)) H Q := ⟨_, rfl, by rw [mk_len]; exact sz hl, by rw [cutS_to]; exact h⟩
theorem k_slS1 {l : List Nat} {k : Nat} (hl : l.length ≤ 100000) (h : Q (.str (mkS (l.drop k))) H) : rSlS (.str (mkS l)) (some (k : Int)) none H Q := ⟨_, rfl, by rw [mk_len]; exact sz hl, by rw [cutS_from]; exact h⟩
end
/-! ### texts cut at a sign -/
def splitL (s : Nat) : List Nat → List (List Nat)
  | [] => [[]]
  | c :: r => if c = s then [] :: splitL s r else match splitL s r with
    | [] => [[c]]
    | p :: ps => (c :: p) :: ps
theorem splitL_ne (s : Nat) : ∀ l, splitL s l ≠ []
  | [] => by unfold splitL; simp
  | c :: r => by
    unfold splitL
    split
    · simp
    · split <;> simp
theorem splitL_join (s : Nat) : ∀ l, TL.joinL [s] (splitL s l) = l
  | [] => rfl
  | c :: r => by
    have ih := splitL_join s r
    have ne := splitL_ne s r
    unfold splitL
    split
    · rename_i e
      subst e
      rw [joinL_cons]
      cases h : splitL c r with
      | nil => exact absurd h ne
      | cons p ps =>
        rw [h, joinL_cons] at ih
        rw [List.map_cons, List.flatten_cons, List.nil_append, List.append_assoc, ih]; rfl
    · cases h : splitL s r with
      | nil => exact absurd h ne
      | cons p ps =>
        rw [h, joinL_cons] at ih
        show TL.joinL [s] ((c :: p) :: ps) = _
        rw [joinL_cons, List.cons_append, ih]
theorem splitL_free (s : Nat) : ∀ l, ∀ p ∈ splitL s l, s ∉ p
  | [], p, h => by
    rw [splitL, List.mem_singleton] at h
    rw [h]; exact List.not_mem_nil
  | c :: r, p, h => by
    have ih := splitL_free s r
    unfold splitL at h
    split at h
    · rcases List.mem_cons.mp h with rfl | h
      · exact List.not_mem_nil
      · exact ih p h
    · rename_i ne
      cases hs : splitL s r with
      | nil => exact absurd hs (splitL_ne s r)
      | cons q qs =>
        rw [hs] at h ih
        rcases List.mem_cons.mp h with rfl | h
        · intro m
          rcases List.mem_cons.mp m with e | m
          · exact ne e.symm
          · exact ih q List.mem_cons_self m
        · exact ih p (List.mem_cons_of_mem _ h)
theorem splitL_len (s : Nat) : ∀ l, (splitL s l).length ≤ l.length + 1 ∧ ∀ p ∈ splitL s l, p.length ≤ l.length
  | [] => ⟨by rw [splitL]; simp, fun p h => by rw [splitL, List.mem_singleton] at h; rw [h]; simp⟩
  | c :: r => by
    obtain ⟨h1, h2⟩ := splitL_len s r
    unfold splitL
    split
    · refine ⟨by simp; omega, fun p h => ?_⟩
      rcases List.mem_cons.mp h with rfl | h
      · simp
      · have := h2 p h; simp; omega
    · cases hs : splitL s r with
      | nil => exact absurd hs (splitL_ne s r)
      | cons q qs =>
        rw [hs] at h1 h2
        refine ⟨by show (qs.length + 1) ≤ _; simp at h1 ⊢; omega, fun p h => ?_⟩
        rcases List.mem_cons.mp h with rfl | h
        · have := h2 q List.mem_cons_self; simp; omega
        · have := h2 p (List.mem_cons_of_mem _ h); simp; omega
theorem splitL_of {s : Nat} : ∀ {ps : List (List Nat)}, ps ≠ [] → (∀ p ∈ ps, s ∉ p) → splitL s (TL.joinL [s] ps) = ps
  | [], h, _ => absurd rfl h
  | [p], _, h => by
    have one : ∀ p : List Nat, s ∉ p → splitL s p = [p] := by
      intro p
      induction p with
      | nil => intro _; rfl
      | cons c r ih =>
        intro hp
        have h1 : c ≠ s := fun e => hp (by rw [e]; exact List.mem_cons_self)
        unfold splitL
        rw [if_neg h1, ih fun m => hp (List.mem_cons_of_mem _ m)]
    exact one p (h p List.mem_cons_self)
  | p :: q :: r, _, h => by
    have ih := splitL_of (ps := q :: r) (by simp) (fun x hx => h x (List.mem_cons_of_mem _ hx))
    have hp := h p List.mem_cons_self
    show splitL s (p ++ ([s] ++ TL.joinL [s] (q :: r))) = _
    have go : ∀ p : List Nat, s ∉ p → ∀ z, splitL s (p ++ (s :: z)) = p :: splitL s z := by
      intro p
      induction p with
      | nil => intro _ z; show splitL s (s :: z) = _; rw [splitL, if_pos rfl]
      | cons c t ih2 =>
        intro hp z
        have h1 : c ≠ s := fun e => hp (by rw [e]; exact List.mem_cons_self)
        rw [List.cons_append]
        show splitL s (c :: (t ++ s :: z)) = _
        rw [splitL, if_neg h1, ih2 fun m => hp (List.mem_cons_of_mem _ m)]
    rw [show [s] ++ TL.joinL [s] (q :: r) = s :: TL.joinL [s] (q :: r) from rfl, go p hp, ih]
theorem k_splitL {H : Hp} {Q : VK} {l : List Nat} {s : Nat} {t : Str} (ht : sg t = [s]) (hs : s < 256) (hl : l.length ≤ 90000) (h : ∀ p H', H p = none → Same H H' → H' p = some (.lst ((splitL s l).map fun q => V.str (mkS q))) → Q (.ref p) H') : rSplit (.str (mkS l)) [.str t] H Q := by
  have e : t = ⟨#[s]⟩ := by rw [← mkS_sg t, ht]; rfl
  subst e
  refine k_split (by omega) (by show 1 ≠ 0; decide) ?_ h
  have := split_one hs (splitL_ne s l) (splitL_free s l)
  rw [splitL_join] at this
  exact this
/-! ### comprehensions over a text -/
section
variable {K : PySem.W.Frag} {σ : L2.St} {H1 : Hp} {g : TG} {tt : TT} {te : TE} {vs : List Nat}
theorem lc_pureS {QD : Addr → Hp → Prop} {l : List Nat} (hz : l.length ≤ 50000) (f : Nat → Option V)
    (step : ∀ (i : Nat) c H', l[i]? = some c → Same H1 H' → ∀ (R : V → Hp → Prop) (R0 : Hp → Prop), (∀ y, f c = some y → R y H') → (f c = none → R0 H') →
      g (.str ⟨#[c]⟩) (wipe σ vs) H' fun σ2 H2 => wipe σ2 vs = wipe σ vs ∧ tt σ2 H2 fun b H3 => if b = true then te σ2 H3 R else R0 H3)
    (h : ∀ D H', H1 D = none → Same H1 H' → H' D = some (.lst (l.filterMap f)) → QD D H') :
    ∃ x, V.str (mkS l) = .str x ∧ ∀ D, H1 D = none → ∃ W : Nat → Nat → Hp → Prop, (∃ m, W 0 m (upd H1 D (.lst []))) ∧ ∀ i m H, W i m H →
      ((Its x).stop i H ∧ QD D H) ∨ ((Its x).go i H ∧ ∃ Nx : Hp → Prop, (∀ H', Nx H' → ∃ m', m' < m ∧ W (i + 1) m' H') ∧ ∀ x' H', (Its x).yld i H x' H' → g x' (wipe σ vs) H' fun σ2 H2 => wipe σ2 vs = wipe σ vs ∧ tt σ2 H2 fun b H3 =>
        if b = true then te σ2 H3 fun y H4 => ∃ acc, H4 D = some (.lst acc) ∧ acc.length < sizeLine ∧ Nx (upd H4 D (.lst (acc ++ [y]))) else Nx H3) := by
  refine ⟨mkS l, rfl, fun D nD => ?_⟩
  have ec : (mkS l).cps.size = l.length := mk_len l
  have eg : ∀ i : Nat, (mkS l).cps[i]? = l[i]? := fun i => by show l.toArray[i]? = _; simp
  let P : Nat → Hp → Prop := fun i H => Same H1 H ∧ H D = some (.lst ((l.take i).filterMap f))
  refine ⟨fun i m H => m = l.length - i ∧ i ≤ l.length ∧ P i H, ⟨l.length, by simp, Nat.zero_le _, same_new nD, by rw [upd_same]; simp⟩, ?_⟩
  rintro i m H ⟨rfl, hi, sm, hD⟩
  by_cases hlt : i < l.length
  · refine .inr ⟨by show i < (mkS l).cps.size; omega, P (i + 1), fun H' p' => ⟨l.length - (i + 1), by omega, rfl, hlt, p'⟩, fun x H' y => ?_⟩
    obtain ⟨e, c, hc, ex⟩ := y
    subst e ex
    rw [eg] at hc
    have tk := take_filterMap (f := f) hc
    refine step i c _ hc sm _ _ (fun y hy => ⟨_, hD, szl ?_, same_mut sm nD, ?_⟩) (fun hn => ⟨sm, ?_⟩)
    · have := List.length_filterMap_le f (l.take i)
      rw [List.length_take] at this
      omega
    · rw [upd_same, tk, hy]; rfl
    · rw [tk, hn, hD]; simp
  · have e : i = l.length := by omega
    subst e
    refine .inl ⟨by show (mkS l).cps.size ≤ l.length; omega, ?_⟩
    rw [List.take_length] at hD
    exact h D H nD sm hD
end
/-! ### try: .. except C: return .. -/
def tTryO (K : PySem.W.Frag) (c : Value) (ts : TS) (tb : WX → TS) : TS := fun D σ H => tb (wOnly K c (fun _ _ _ => ts) (fun _ _ _ _ => False) D) D σ H
instance {K : PySem.W.Frag} {c : Value} {ts : TS} {tb : WX → TS} {D : Ends} {σ : L2.St} {H : Hp} : Stp (tTryO K c ts tb D σ H) (tb (wOnly K c (fun _ _ _ => ts) (fun _ _ _ _ => False) D) D σ H) := ⟨id⟩
theorem k_only {K : PySem.W.Frag} {c cls : Value} {d : Option Addr} {ts : TS} {D : Ends} {σ : L2.St} {H : Hp} (hc : PySem.W.exmOne K cls c = some true) (h : ts D σ H) : wOnly K c (fun _ _ _ => ts) (fun _ _ _ _ => False) D cls d σ H := ⟨true, hc, fun _ _ _ => h, fun z => Bool.noConfusion z⟩
end Cm

namespace Pf
open PySem PySem.Spec PyProof.Rows L2 Cm
local macro_rules | `(tactic| wtm_at "smh") => `(tactic| with_reducible first
  | assumption
  | (refine Same.trans ?_ (by assumption); wtm_at "smx")
  | (refine Same.trans ?_ (hid_mono (by assumption)); wtm_at "smx"))
local macro_rules | `(tactic| wtm_at "smx") => `(tactic| with_reducible first
  | exact Same.refl _
  | assumption
  | exact hid_same _ _
  | (refine Same.trans ?_ (by assumption); wtm_at "smx")
  | (refine Same.trans ?_ (hid_mono (by assumption)); wtm_at "smx")
  | (apply hid_back; wtm_at "smh"))
local macro_rules | `(tactic| wtm_at "sm") => `(tactic| wtm_at "smx")
local macro_rules | `(tactic| wtm_at "at") => `(tactic| with_reducible first
  | assumption
  | exact upd_same
  | (refine at_same (by assumption) ?_; wtm_at "smx"))
local macro_rules | `(tactic| wtm_at "le") => `(tactic| with_reducible first
  | assumption
  | (refine Le.same (by assumption) ?_; wtm_at "smx"))
local macro_rules | `(tactic| wtm_at "dp") => `(tactic| with_reducible first
  | assumption
  | exact .int _
  | exact .str _
  | exact .bl _
  | (refine dp_same ?_ (by assumption); wtm_at "smx")
  | (refine dpa_same ?_ (by assumption); wtm_at "smx")
  | (refine dpI_at (by assumption) ?_; wtm_at "smx")
  | (refine dpP_at (by assumption) ?_; wtm_at "smx"))
local macro_rules | `(tactic| wtm_at "sq") => `(tactic| with_reducible first
  | assumption
  | exact sl (by assumption)
  | exact stp (by assumption)
  | (refine sl_at (by assumption) ?_; wtm_at "smx")
  | (refine st_at (by assumption) ?_; wtm_at "smx")
  | (refine Same.seq ?_ (by assumption); wtm_at "smx")
  | (refine same_seqT ?_ (by assumption); wtm_at "smx")
  | ((show SqL _ (upd _ _ _) _ _); exact sl upd_same)
  | ((show SqT _ (upd _ _ _) _ _); exact stp upd_same))
local macro_rules | `(tactic| wtm_at "cI") => `(tactic| first
  | (refine Or.inl ⟨?_, ?_⟩ <;> omega)
  | (refine Or.inr ⟨?_, ?_⟩ <;> omega)
  | (refine ⟨?_, ?_⟩ <;> omega)
  | decide)
local macro_rules | `(tactic| wtm_at "pf") => `(tactic| first | omega | decide)
local macro_rules | `(tactic| wtm_at "s2") => `(tactic| with_reducible first
  | ((show ite _ _ _); first
    | refine k_itDT (by with_unfolding_all wtm_at "pf") ?_
    | refine k_itDF (by with_unfolding_all wtm_at "pf") ?_
    | refine k_itNT (by with_unfolding_all wtm_at "pf") ?_
    | refine k_itNF (by with_unfolding_all wtm_at "pf") ?_)
  | ((show rLenX _ _ _ _); first
    | refine k_len0 (by assumption) ?_
    | refine k_lenI (by wtm_at "sq") ?_
    | refine k_len (by wtm_at "sq") ?_)
  | ((show gTup _ _ _ _ _ _ _); refine k_gtup (by wtm_at "sq") (by with_unfolding_all rfl) ?_)
  | ((show rIxT _ (V.ref _) (V.int _) _ _); refine k_ixT (by wtm_at "sq") (by with_unfolding_all rfl) ?_)
  | ((show wipe _ _ = wipe _ _ ∧ _); refine k_wipe (by with_unfolding_all rfl) ?_)
  | ((show rIn _ _ _ _ _ _); first
    | refine k_inI (by wtm_at "sq") ?_
    | refine k_notInI (by wtm_at "sq") ?_)
  | ((show rIsi _ _ _ _); refine k_isiL (by wtm_at "sq") ?_)
  | ((show xMod _ _ _ _); refine k_mod (by with_unfolding_all first | decide | omega) ?_)
  | ((show xMul _ _ _ _); refine k_mul (by with_unfolding_all wtm_at "cI") ?_)
  | ((show xDiv _ _ _ _); refine k_div (by with_unfolding_all wtm_at "cI") ?_)
  | ((show xPow _ _ _ _); refine k_pow (by with_unfolding_all exact ⟨by decide, by decide, by decide⟩) ?_)
  | ((show rMinT _ _ _ _); refine k_minT (by wtm_at "sq") ?_)
  | ((show rMaxT _ _ _ _); refine k_maxT (by wtm_at "sq") ?_)
  | ((show ∃ j' : Int, [V.int _] = [.int j'] ∧ _); refine k_rj1 (by with_unfolding_all omega) (by with_unfolding_all omega) ?_)
  | ((show ∃ i' j' : Int, [V.int _, V.int _] = [.int i', .int j'] ∧ _); refine k_rj2 (by with_unfolding_all omega) ?_))
local macro_rules | `(tactic| wtm_at "s1") => `(tactic| first
  | refine go ?_
  | wtm_at "s2")
local macro_rules | `(tactic| wtm_at "s") => `(tactic| repeat wtm_at "s1")
def topS (i : Nat) : Stmt := PySem.Challenge.pw_tiehues_k79_texts_of_no_net.main.body.getD i (.Pass ⟨0, 0, 0, 0⟩)
abbrev s_is_tree : Stmt := topS 19
theorem sc_is_tree : FnScope ["parents", "k"] ["parents"] (defScope s_is_tree) := ⟨rfl, rfl, rfl, by decide +kernel, rfl, by decide +kernel, by decide +kernel⟩
abbrev s_look_net : Stmt := topS 20
theorem sc_look_net : FnScope ["net", "kind", "size", "right"] ["net"] (defScope s_look_net) := ⟨rfl, rfl, rfl, by decide +kernel, rfl, by decide +kernel, by decide +kernel⟩
abbrev s_places_of : Stmt := topS 21
theorem sc_places_of : FnScope ["net"] ["net"] (defScope s_places_of) := ⟨rfl, rfl, rfl, by decide +kernel, rfl, by decide +kernel, by decide +kernel⟩
abbrev s_is_way : Stmt := topS 22
theorem sc_is_way : FnScope ["net", "way", "a", "b"] ["net", "way"] (defScope s_is_way) := ⟨rfl, rfl, rfl, by decide +kernel, rfl, by decide +kernel, by decide +kernel⟩
abbrev s_ties_on : Stmt := topS 23
theorem sc_ties_on : FnScope ["net", "way", "a", "b", "found"] ["net", "way"] (defScope s_ties_on) := ⟨rfl, rfl, rfl, by decide +kernel, rfl, by decide +kernel, by decide +kernel⟩
abbrev s_must_be_ways : Stmt := topS 24
theorem sc_must_be_ways : FnScope ["net", "ways", "k"] ["net", "ways"] (defScope s_must_be_ways) := ⟨rfl, rfl, rfl, by decide +kernel, rfl, by decide +kernel, by decide +kernel⟩
abbrev s_look_ways : Stmt := topS 25
theorem sc_look_ways : FnScope ["net", "ways"] ["net", "ways"] (defScope s_look_ways) := ⟨rfl, rfl, rfl, by decide +kernel, rfl, by decide +kernel, by decide +kernel⟩
abbrev s_first_clash : Stmt := topS 26
theorem sc_first_clash : FnScope ["lain", "hues", "i", "j", "tie"] ["lain", "hues"] (defScope s_first_clash) := ⟨rfl, rfl, rfl, by decide +kernel, rfl, by decide +kernel, by decide +kernel⟩
abbrev s_clash : Stmt := topS 27
theorem sc_clash : FnScope ["net", "ways", "hues", "way"] ["net", "ways", "hues"] (defScope s_clash) := ⟨rfl, rfl, rfl, by decide +kernel, rfl, by decide +kernel, by decide +kernel⟩
abbrev s_number_of : Stmt := topS 32
theorem sc_number_of : FnScope ["word", "number", "sign"] ["word"] (defScope s_number_of) := ⟨rfl, rfl, rfl, by decide +kernel, rfl, by decide +kernel, by decide +kernel⟩
abbrev s_numbers_of : Stmt := topS 33
theorem sc_numbers_of : FnScope ["words", "numbers", "word"] ["words"] (defScope s_numbers_of) := ⟨rfl, rfl, rfl, by decide +kernel, rfl, by decide +kernel, by decide +kernel⟩
abbrev s_net_of : Stmt := topS 34
theorem sc_net_of : FnScope ["words", "sizes", "net"] ["words"] (defScope s_net_of) := ⟨rfl, rfl, rfl, by decide +kernel, rfl, by decide +kernel, by decide +kernel⟩
abbrev s_way_of : Stmt := topS 35
theorem sc_way_of : FnScope ["net", "words", "ends"] ["net", "words"] (defScope s_way_of) := ⟨rfl, rfl, rfl, by decide +kernel, rfl, by decide +kernel, by decide +kernel⟩
abbrev s_hues_of : Stmt := topS 36
theorem sc_hues_of : FnScope ["net", "ways", "words", "hues"] ["net", "ways", "words"] (defScope s_hues_of) := ⟨rfl, rfl, rfl, by decide +kernel, rfl, by decide +kernel, by decide +kernel⟩
abbrev s_read_net : Stmt := topS 37
theorem sc_read_net : FnScope ["text", "rows", "net", "ways", "hues", "k", "words", "way"] ["text"] (defScope s_read_net) := ⟨rfl, rfl, rfl, by decide +kernel, rfl, by decide +kernel, by decide +kernel⟩
abbrev s_law_mix : Stmt := topS 39
theorem sc_law_mix : FnScope ["_law_number", "_law_k", "_law_mixed"] ["_law_number", "_law_k"] (defScope s_law_mix) := ⟨rfl, rfl, rfl, by decide +kernel, rfl, by decide +kernel, by decide +kernel⟩
abbrev s_law_left : Stmt := topS 40
theorem sc_law_left : FnScope ["_law_cell"] ["_law_cell"] (defScope s_law_left) := ⟨rfl, rfl, rfl, by decide +kernel, rfl, by decide +kernel, by decide +kernel⟩
abbrev s_law_draw : Stmt := topS 41
theorem sc_law_draw : FnScope ["_law_left_here", "_law_base", "_law_mixed", "_law_digit"] ["_law_left_here", "_law_base"] (defScope s_law_draw) := ⟨rfl, rfl, rfl, by decide +kernel, rfl, by decide +kernel, by decide +kernel⟩
abbrev s_law_whole : Stmt := topS 42
theorem sc_law_whole : FnScope ["_law_found"] ["_law_found"] (defScope s_law_whole) := ⟨rfl, rfl, rfl, by decide +kernel, rfl, by decide +kernel, by decide +kernel⟩
abbrev s_law_way : Stmt := topS 43
theorem sc_law_way : FnScope ["_law_left_here", "_law_many", "_law_a", "_law_b"] ["_law_left_here", "_law_many"] (defScope s_law_way) := ⟨rfl, rfl, rfl, by decide +kernel, rfl, by decide +kernel, by decide +kernel⟩
abbrev s_law_net : Stmt := topS 44
theorem sc_law_net : FnScope ["_law_left_here", "_law_kind_here", "_law_size_here", "_law_many", "_law_k"] ["_law_left_here"] (defScope s_law_net) := ⟨rfl, rfl, rfl, by decide +kernel, rfl, by decide +kernel, by decide +kernel⟩
abbrev s_law_size : Stmt := topS 45
theorem sc_law_size : FnScope ["_law_net_here"] ["_law_net_here"] (defScope s_law_size) := ⟨rfl, rfl, rfl, by decide +kernel, rfl, by decide +kernel, by decide +kernel⟩
abbrev s_law_ties : Stmt := topS 46
theorem sc_law_ties : FnScope ["_law_net_here", "_law_way_here", "_law_many", "_law_far", "_law_below", "_law_place", "_law_held", "_law_k"] ["_law_net_here", "_law_way_here"] (defScope s_law_ties) := ⟨rfl, rfl, rfl, by decide +kernel, rfl, by decide +kernel, by decide +kernel⟩
abbrev s_law_common : Stmt := topS 47
theorem sc_law_common : FnScope ["_law_one", "_law_other", "_law_tie"] ["_law_one", "_law_other"] (defScope s_law_common) := ⟨rfl, rfl, rfl, by decide +kernel, rfl, by decide +kernel, by decide +kernel⟩
abbrev s_law_hues : Stmt := topS 48
theorem sc_law_hues : FnScope ["_law_left_here", "_law_net_here", "_law_ways", "_law_lain", "_law_names", "_law_k", "_law_numbers", "_law_taken", "_law_way_here", "_law_j", "_law_number"] ["_law_left_here", "_law_net_here", "_law_ways"] (defScope s_law_hues) := ⟨rfl, rfl, rfl, by decide +kernel, rfl, by decide +kernel, by decide +kernel⟩
abbrev s_law_all : Stmt := topS 49
theorem sc_law_all : FnScope ["_law_left_here", "_law_net_here", "_law_many", "_law_ways", "_law_hues_here", "_law_k"] ["_law_left_here"] (defScope s_law_all) := ⟨rfl, rfl, rfl, by decide +kernel, rfl, by decide +kernel, by decide +kernel⟩
abbrev s_law_text : Stmt := topS 50
theorem sc_law_text : FnScope ["_law_net_here", "_law_ways", "_law_hues_here", "_law_size_here", "_law_text_here", "_law_a", "_law_b", "_law_number", "_law_hue"] ["_law_net_here", "_law_ways", "_law_hues_here"] (defScope s_law_text) := ⟨rfl, rfl, rfl, by decide +kernel, rfl, by decide +kernel, by decide +kernel⟩
abbrev s_law_kind : Stmt := topS 51
theorem sc_law_kind : FnScope ["_law_caught", "_law_found", "_law_names"] ["_law_caught"] (defScope s_law_kind) := ⟨rfl, rfl, rfl, by decide +kernel, rfl, by decide +kernel, by decide +kernel⟩
abbrev s_law_odd_row : Stmt := topS 52
theorem sc_law_odd_row : FnScope ["_law_left_here", "_law_some"] ["_law_left_here"] (defScope s_law_odd_row) := ⟨rfl, rfl, rfl, by decide +kernel, rfl, by decide +kernel, by decide +kernel⟩
abbrev s_law_bent_rows : Stmt := topS 53
theorem sc_law_bent_rows : FnScope ["_law_left_here", "_law_text_here", "_law_choice", "_law_rows", "_law_at", "_law_to"] ["_law_left_here", "_law_text_here", "_law_choice"] (defScope s_law_bent_rows) := ⟨rfl, rfl, rfl, by decide +kernel, rfl, by decide +kernel, by decide +kernel⟩
abbrev s_law_sign : Stmt := topS 54
theorem sc_law_sign : FnScope ["_law_left_here", "_law_some"] ["_law_left_here"] (defScope s_law_sign) := ⟨rfl, rfl, rfl, by decide +kernel, rfl, by decide +kernel, by decide +kernel⟩
abbrev s_law_bent : Stmt := topS 55
theorem sc_law_bent : FnScope ["_law_left_here", "_law_text_here", "_law_choice", "_law_at", "_law_sign_here"] ["_law_left_here", "_law_text_here"] (defScope s_law_bent) := ⟨rfl, rfl, rfl, by decide +kernel, rfl, by decide +kernel, by decide +kernel⟩
abbrev s_law_by_figures : Stmt := topS 56
theorem sc_law_by_figures : FnScope ["_law_word", "_law_sign_here"] ["_law_word"] (defScope s_law_by_figures) := ⟨rfl, rfl, rfl, by decide +kernel, rfl, by decide +kernel, by decide +kernel⟩
abbrev s_law_net_by : Stmt := topS 57
theorem sc_law_net_by : FnScope ["_law_words", "_law_numbers", "_law_word", "_law_k"] ["_law_words"] (defScope s_law_net_by) := ⟨rfl, rfl, rfl, by decide +kernel, rfl, by decide +kernel, by decide +kernel⟩
abbrev s_law_way_by : Stmt := topS 58
theorem sc_law_way_by : FnScope ["_law_net_here", "_law_words", "_law_numbers", "_law_word"] ["_law_net_here", "_law_words"] (defScope s_law_way_by) := ⟨rfl, rfl, rfl, by decide +kernel, rfl, by decide +kernel, by decide +kernel⟩
abbrev s_law_hues_by : Stmt := topS 59
theorem sc_law_hues_by : FnScope ["_law_net_here", "_law_ways", "_law_words", "_law_numbers", "_law_lain", "_law_one", "_law_other", "_law_word", "_law_way_here"] ["_law_net_here", "_law_ways", "_law_words"] (defScope s_law_hues_by) := ⟨rfl, rfl, rfl, by decide +kernel, rfl, by decide +kernel, by decide +kernel⟩
abbrev s_law_read : Stmt := topS 60
theorem sc_law_read : FnScope ["_law_text_here", "_law_rows", "_law_net_here", "_law_ways", "_law_hues_here", "_law_k", "_law_words"] ["_law_text_here"] (defScope s_law_read) := ⟨rfl, rfl, rfl, by decide +kernel, rfl, by decide +kernel, by decide +kernel⟩
abbrev s_law_right : Stmt := topS 61
theorem sc_law_right : FnScope ["_law_text_here", "_law_row", "_law_due", "_law_caught", "_law_told", "e"] ["_law_text_here"] (defScope s_law_right) := ⟨rfl, rfl, rfl, by decide +kernel, rfl, by decide +kernel, by decide +kernel⟩
abbrev s_law : Stmt := topS 62
theorem sc_law : FnScope ["_law_script", "_law_cell", "_law_left_here", "_law_net_here", "_law_ways", "_law_hues_here", "_law_text_here", "_law_again"] ["_law_script"] (defScope s_law) := ⟨rfl, rfl, rfl, by decide +kernel, rfl, by decide +kernel, by decide +kernel⟩
abbrev s_init_NoWay : Stmt := inClass (topS 4) 0
theorem sc_init_NoWay : FnScope ["self", "at"] ["self", "at"] (defScope s_init_NoWay) := ⟨rfl, rfl, rfl, by decide +kernel, rfl, by decide +kernel, by decide +kernel⟩
abbrev s_init_NoHues : Stmt := inClass (topS 6) 0
theorem sc_init_NoHues : FnScope ["self", "place"] ["self", "place"] (defScope s_init_NoHues) := ⟨rfl, rfl, rfl, by decide +kernel, rfl, by decide +kernel, by decide +kernel⟩
abbrev s_init_NoText : Stmt := inClass (topS 13) 0
theorem sc_init_NoText : FnScope ["self", "row"] ["self", "row"] (defScope s_init_NoText) := ⟨rfl, rfl, rfl, by decide +kernel, rfl, by decide +kernel, by decide +kernel⟩
structure Ad where
  c_TieError : Addr
  c_NoNet : Addr
  c_OtherNet : Addr
  c_NoWay : Addr
  c_TooMany : Addr
  c_NoHues : Addr
  c_NoCrossing : Addr
  c_NoLot : Addr
  c_NoPlace : Addr
  c_NoNumber : Addr
  c_NoTurning : Addr
  c_NoTie : Addr
  c_NoText : Addr
  c_NoRow : Addr
  c_NoName : Addr
  c_NoForm : Addr
  i_NoWay : Addr
  di_NoWay : FuncData
  i_NoHues : Addr
  di_NoHues : FuncData
  i_NoText : Addr
  di_NoText : FuncData
  a_is_tree : Addr
  d_is_tree : FuncData
  a_look_net : Addr
  d_look_net : FuncData
  a_places_of : Addr
  d_places_of : FuncData
  a_is_way : Addr
  d_is_way : FuncData
  a_ties_on : Addr
  d_ties_on : FuncData
  a_must_be_ways : Addr
  d_must_be_ways : FuncData
  a_look_ways : Addr
  d_look_ways : FuncData
  a_first_clash : Addr
  d_first_clash : FuncData
  a_clash : Addr
  d_clash : FuncData
  a_number_of : Addr
  d_number_of : FuncData
  a_numbers_of : Addr
  d_numbers_of : FuncData
  a_net_of : Addr
  d_net_of : FuncData
  a_way_of : Addr
  d_way_of : FuncData
  a_hues_of : Addr
  d_hues_of : FuncData
  a_read_net : Addr
  d_read_net : FuncData
  a_law_mix : Addr
  d_law_mix : FuncData
  a_law_left : Addr
  d_law_left : FuncData
  a_law_draw : Addr
  d_law_draw : FuncData
  a_law_whole : Addr
  d_law_whole : FuncData
  a_law_way : Addr
  d_law_way : FuncData
  a_law_net : Addr
  d_law_net : FuncData
  a_law_size : Addr
  d_law_size : FuncData
  a_law_ties : Addr
  d_law_ties : FuncData
  a_law_common : Addr
  d_law_common : FuncData
  a_law_hues : Addr
  d_law_hues : FuncData
  a_law_all : Addr
  d_law_all : FuncData
  a_law_text : Addr
  d_law_text : FuncData
  a_law_kind : Addr
  d_law_kind : FuncData
  a_law_odd_row : Addr
  d_law_odd_row : FuncData
  a_law_bent_rows : Addr
  d_law_bent_rows : FuncData
  a_law_sign : Addr
  d_law_sign : FuncData
  a_law_bent : Addr
  d_law_bent : FuncData
  a_law_by_figures : Addr
  d_law_by_figures : FuncData
  a_law_net_by : Addr
  d_law_net_by : FuncData
  a_law_way_by : Addr
  d_law_way_by : FuncData
  a_law_hues_by : Addr
  d_law_hues_by : FuncData
  a_law_read : Addr
  d_law_read : FuncData
  a_law_right : Addr
  d_law_right : FuncData
  a_law : Addr
  d_law : FuncData
structure Txt (K : PySem.W.Frag) (mg : Str → Option Value) (A : Ad) : Prop where
  g_is_tree : mg "is_tree" = some (.ref A.a_is_tree)
  F_is_tree : Fun K "is_tree" "is_tree" s_is_tree A.a_is_tree A.d_is_tree
  b_is_tree : Binds K A.d_is_tree ["parents"] []
  g_look_net : mg "look_net" = some (.ref A.a_look_net)
  F_look_net : Fun K "look_net" "look_net" s_look_net A.a_look_net A.d_look_net
  b_look_net : Binds K A.d_look_net ["net"] []
  g_places_of : mg "places_of" = some (.ref A.a_places_of)
  F_places_of : Fun K "places_of" "places_of" s_places_of A.a_places_of A.d_places_of
  b_places_of : Binds K A.d_places_of ["net"] []
  g_is_way : mg "is_way" = some (.ref A.a_is_way)
  F_is_way : Fun K "is_way" "is_way" s_is_way A.a_is_way A.d_is_way
  b_is_way : Binds K A.d_is_way ["net", "way"] []
  g_ties_on : mg "ties_on" = some (.ref A.a_ties_on)
  F_ties_on : Fun K "ties_on" "ties_on" s_ties_on A.a_ties_on A.d_ties_on
  b_ties_on : Binds K A.d_ties_on ["net", "way"] []
  g_must_be_ways : mg "must_be_ways" = some (.ref A.a_must_be_ways)
  F_must_be_ways : Fun K "must_be_ways" "must_be_ways" s_must_be_ways A.a_must_be_ways A.d_must_be_ways
  b_must_be_ways : Binds K A.d_must_be_ways ["net", "ways"] []
  g_look_ways : mg "look_ways" = some (.ref A.a_look_ways)
  F_look_ways : Fun K "look_ways" "look_ways" s_look_ways A.a_look_ways A.d_look_ways
  b_look_ways : Binds K A.d_look_ways ["net", "ways"] []
  g_first_clash : mg "first_clash" = some (.ref A.a_first_clash)
  F_first_clash : Fun K "first_clash" "first_clash" s_first_clash A.a_first_clash A.d_first_clash
  b_first_clash : Binds K A.d_first_clash ["lain", "hues"] []
  g_clash : mg "clash" = some (.ref A.a_clash)
  F_clash : Fun K "clash" "clash" s_clash A.a_clash A.d_clash
  b_clash : Binds K A.d_clash ["net", "ways", "hues"] []
  g_number_of : mg "number_of" = some (.ref A.a_number_of)
  F_number_of : Fun K "number_of" "number_of" s_number_of A.a_number_of A.d_number_of
  b_number_of : Binds K A.d_number_of ["word"] []
  g_numbers_of : mg "numbers_of" = some (.ref A.a_numbers_of)
  F_numbers_of : Fun K "numbers_of" "numbers_of" s_numbers_of A.a_numbers_of A.d_numbers_of
  b_numbers_of : Binds K A.d_numbers_of ["words"] []
  g_net_of : mg "net_of" = some (.ref A.a_net_of)
  F_net_of : Fun K "net_of" "net_of" s_net_of A.a_net_of A.d_net_of
  b_net_of : Binds K A.d_net_of ["words"] []
  g_way_of : mg "way_of" = some (.ref A.a_way_of)
  F_way_of : Fun K "way_of" "way_of" s_way_of A.a_way_of A.d_way_of
  b_way_of : Binds K A.d_way_of ["net", "words"] []
  g_hues_of : mg "hues_of" = some (.ref A.a_hues_of)
  F_hues_of : Fun K "hues_of" "hues_of" s_hues_of A.a_hues_of A.d_hues_of
  b_hues_of : Binds K A.d_hues_of ["net", "ways", "words"] []
  g_read_net : mg "read_net" = some (.ref A.a_read_net)
  F_read_net : Fun K "read_net" "read_net" s_read_net A.a_read_net A.d_read_net
  b_read_net : Binds K A.d_read_net ["text"] []
  g_law_mix : mg "_law_mix" = some (.ref A.a_law_mix)
  F_law_mix : Fun K "_law_mix" "_law_mix" s_law_mix A.a_law_mix A.d_law_mix
  b_law_mix : Binds K A.d_law_mix ["_law_number", "_law_k"] []
  g_law_left : mg "_law_left" = some (.ref A.a_law_left)
  F_law_left : Fun K "_law_left" "_law_left" s_law_left A.a_law_left A.d_law_left
  b_law_left : Binds K A.d_law_left ["_law_cell"] []
  g_law_draw : mg "_law_draw" = some (.ref A.a_law_draw)
  F_law_draw : Fun K "_law_draw" "_law_draw" s_law_draw A.a_law_draw A.d_law_draw
  b_law_draw : Binds K A.d_law_draw ["_law_left_here", "_law_base"] []
  g_law_whole : mg "_law_whole" = some (.ref A.a_law_whole)
  F_law_whole : Fun K "_law_whole" "_law_whole" s_law_whole A.a_law_whole A.d_law_whole
  b_law_whole : Binds K A.d_law_whole ["_law_found"] []
  g_law_way : mg "_law_way" = some (.ref A.a_law_way)
  F_law_way : Fun K "_law_way" "_law_way" s_law_way A.a_law_way A.d_law_way
  b_law_way : Binds K A.d_law_way ["_law_left_here", "_law_many"] []
  g_law_net : mg "_law_net" = some (.ref A.a_law_net)
  F_law_net : Fun K "_law_net" "_law_net" s_law_net A.a_law_net A.d_law_net
  b_law_net : Binds K A.d_law_net ["_law_left_here"] []
  g_law_size : mg "_law_size" = some (.ref A.a_law_size)
  F_law_size : Fun K "_law_size" "_law_size" s_law_size A.a_law_size A.d_law_size
  b_law_size : Binds K A.d_law_size ["_law_net_here"] []
  g_law_ties : mg "_law_ties" = some (.ref A.a_law_ties)
  F_law_ties : Fun K "_law_ties" "_law_ties" s_law_ties A.a_law_ties A.d_law_ties
  b_law_ties : Binds K A.d_law_ties ["_law_net_here", "_law_way_here"] []
  g_law_common : mg "_law_common" = some (.ref A.a_law_common)
  F_law_common : Fun K "_law_common" "_law_common" s_law_common A.a_law_common A.d_law_common
  b_law_common : Binds K A.d_law_common ["_law_one", "_law_other"] []
  g_law_hues : mg "_law_hues" = some (.ref A.a_law_hues)
  F_law_hues : Fun K "_law_hues" "_law_hues" s_law_hues A.a_law_hues A.d_law_hues
  b_law_hues : Binds K A.d_law_hues ["_law_left_here", "_law_net_here", "_law_ways"] []
  g_law_all : mg "_law_all" = some (.ref A.a_law_all)
  F_law_all : Fun K "_law_all" "_law_all" s_law_all A.a_law_all A.d_law_all
  b_law_all : Binds K A.d_law_all ["_law_left_here"] []
  g_law_text : mg "_law_text" = some (.ref A.a_law_text)
  F_law_text : Fun K "_law_text" "_law_text" s_law_text A.a_law_text A.d_law_text
  b_law_text : Binds K A.d_law_text ["_law_net_here", "_law_ways", "_law_hues_here"] []
  g_law_kind : mg "_law_kind" = some (.ref A.a_law_kind)
  F_law_kind : Fun K "_law_kind" "_law_kind" s_law_kind A.a_law_kind A.d_law_kind
  b_law_kind : Binds K A.d_law_kind ["_law_caught"] []
  g_law_odd_row : mg "_law_odd_row" = some (.ref A.a_law_odd_row)
  F_law_odd_row : Fun K "_law_odd_row" "_law_odd_row" s_law_odd_row A.a_law_odd_row A.d_law_odd_row
  b_law_odd_row : Binds K A.d_law_odd_row ["_law_left_here"] []
  g_law_bent_rows : mg "_law_bent_rows" = some (.ref A.a_law_bent_rows)
  F_law_bent_rows : Fun K "_law_bent_rows" "_law_bent_rows" s_law_bent_rows A.a_law_bent_rows A.d_law_bent_rows
  b_law_bent_rows : Binds K A.d_law_bent_rows ["_law_left_here", "_law_text_here", "_law_choice"] []
  g_law_sign : mg "_law_sign" = some (.ref A.a_law_sign)
  F_law_sign : Fun K "_law_sign" "_law_sign" s_law_sign A.a_law_sign A.d_law_sign
  b_law_sign : Binds K A.d_law_sign ["_law_left_here"] []
  g_law_bent : mg "_law_bent" = some (.ref A.a_law_bent)
  F_law_bent : Fun K "_law_bent" "_law_bent" s_law_bent A.a_law_bent A.d_law_bent
  b_law_bent : Binds K A.d_law_bent ["_law_left_here", "_law_text_here"] []
  g_law_by_figures : mg "_law_by_figures" = some (.ref A.a_law_by_figures)
  F_law_by_figures : Fun K "_law_by_figures" "_law_by_figures" s_law_by_figures A.a_law_by_figures A.d_law_by_figures
  b_law_by_figures : Binds K A.d_law_by_figures ["_law_word"] []
  g_law_net_by : mg "_law_net_by" = some (.ref A.a_law_net_by)
  F_law_net_by : Fun K "_law_net_by" "_law_net_by" s_law_net_by A.a_law_net_by A.d_law_net_by
  b_law_net_by : Binds K A.d_law_net_by ["_law_words"] []
  g_law_way_by : mg "_law_way_by" = some (.ref A.a_law_way_by)
  F_law_way_by : Fun K "_law_way_by" "_law_way_by" s_law_way_by A.a_law_way_by A.d_law_way_by
  b_law_way_by : Binds K A.d_law_way_by ["_law_net_here", "_law_words"] []
  g_law_hues_by : mg "_law_hues_by" = some (.ref A.a_law_hues_by)
  F_law_hues_by : Fun K "_law_hues_by" "_law_hues_by" s_law_hues_by A.a_law_hues_by A.d_law_hues_by
  b_law_hues_by : Binds K A.d_law_hues_by ["_law_net_here", "_law_ways", "_law_words"] []
  g_law_read : mg "_law_read" = some (.ref A.a_law_read)
  F_law_read : Fun K "_law_read" "_law_read" s_law_read A.a_law_read A.d_law_read
  b_law_read : Binds K A.d_law_read ["_law_text_here"] []
  g_law_right : mg "_law_right" = some (.ref A.a_law_right)
  F_law_right : Fun K "_law_right" "_law_right" s_law_right A.a_law_right A.d_law_right
  b_law_right : Binds K A.d_law_right ["_law_text_here"] []
  g_law : mg "law" = some (.ref A.a_law)
  F_law : Fun K "law" "law" s_law A.a_law A.d_law
  b_law : Binds K A.d_law ["_law_script"] []
  c_MOST_PLACES : mg "MOST_PLACES" = some (.int 60 (g_tok mg "MOST_PLACES"))
  c_FIGURES : mg "FIGURES" = some (.str (Str.ofString "0123456789") (g_tokS mg "FIGURES"))
  c_MOST_FIGURES : mg "MOST_FIGURES" = some (.int 30 (g_tok mg "MOST_FIGURES"))
  c_MOST_WAYS : mg "MOST_WAYS" = some (.int 40 (g_tok mg "MOST_WAYS"))
  z_ValueError : mg "ValueError" = none
  z_bool : mg "bool" = none
  z_int : mg "int" = none
  z_isinstance : mg "isinstance" = none
  z_len : mg "len" = none
  z_list : mg "list" = none
  z_max : mg "max" = none
  z_min : mg "min" = none
  z_range : mg "range" = none
  z_sorted : mg "sorted" = none
  z_str : mg "str" = none
  z_tuple : mg "tuple" = none
  k_TieError : mg "TieError" = some (.ref A.c_TieError)
  x_TieError : ExK K A.c_TieError
  t_TieError : PySem.W.typeIn K (.ref A.c_TieError) = some (.type "type")
  k_NoNet : mg "NoNet" = some (.ref A.c_NoNet)
  x_NoNet : ExK K A.c_NoNet
  t_NoNet : PySem.W.typeIn K (.ref A.c_NoNet) = some (.type "type")
  k_OtherNet : mg "OtherNet" = some (.ref A.c_OtherNet)
  x_OtherNet : ExK K A.c_OtherNet
  t_OtherNet : PySem.W.typeIn K (.ref A.c_OtherNet) = some (.type "type")
  k_NoWay : mg "NoWay" = some (.ref A.c_NoWay)
  x_NoWay : ExK K A.c_NoWay
  t_NoWay : PySem.W.typeIn K (.ref A.c_NoWay) = some (.type "type")
  k_TooMany : mg "TooMany" = some (.ref A.c_TooMany)
  x_TooMany : ExK K A.c_TooMany
  t_TooMany : PySem.W.typeIn K (.ref A.c_TooMany) = some (.type "type")
  k_NoHues : mg "NoHues" = some (.ref A.c_NoHues)
  x_NoHues : ExK K A.c_NoHues
  t_NoHues : PySem.W.typeIn K (.ref A.c_NoHues) = some (.type "type")
  k_NoCrossing : mg "NoCrossing" = some (.ref A.c_NoCrossing)
  x_NoCrossing : ExK K A.c_NoCrossing
  t_NoCrossing : PySem.W.typeIn K (.ref A.c_NoCrossing) = some (.type "type")
  k_NoLot : mg "NoLot" = some (.ref A.c_NoLot)
  x_NoLot : ExK K A.c_NoLot
  t_NoLot : PySem.W.typeIn K (.ref A.c_NoLot) = some (.type "type")
  k_NoPlace : mg "NoPlace" = some (.ref A.c_NoPlace)
  x_NoPlace : ExK K A.c_NoPlace
  t_NoPlace : PySem.W.typeIn K (.ref A.c_NoPlace) = some (.type "type")
  k_NoNumber : mg "NoNumber" = some (.ref A.c_NoNumber)
  x_NoNumber : ExK K A.c_NoNumber
  t_NoNumber : PySem.W.typeIn K (.ref A.c_NoNumber) = some (.type "type")
  k_NoTurning : mg "NoTurning" = some (.ref A.c_NoTurning)
  x_NoTurning : ExK K A.c_NoTurning
  t_NoTurning : PySem.W.typeIn K (.ref A.c_NoTurning) = some (.type "type")
  k_NoTie : mg "NoTie" = some (.ref A.c_NoTie)
  x_NoTie : ExK K A.c_NoTie
  t_NoTie : PySem.W.typeIn K (.ref A.c_NoTie) = some (.type "type")
  k_NoText : mg "NoText" = some (.ref A.c_NoText)
  x_NoText : ExK K A.c_NoText
  t_NoText : PySem.W.typeIn K (.ref A.c_NoText) = some (.type "type")
  k_NoRow : mg "NoRow" = some (.ref A.c_NoRow)
  x_NoRow : ExK K A.c_NoRow
  t_NoRow : PySem.W.typeIn K (.ref A.c_NoRow) = some (.type "type")
  k_NoName : mg "NoName" = some (.ref A.c_NoName)
  x_NoName : ExK K A.c_NoName
  t_NoName : PySem.W.typeIn K (.ref A.c_NoName) = some (.type "type")
  k_NoForm : mg "NoForm" = some (.ref A.c_NoForm)
  x_NoForm : ExK K A.c_NoForm
  t_NoForm : PySem.W.typeIn K (.ref A.c_NoForm) = some (.type "type")
  o_NoWay : OexC K A.c_NoWay
  in_NoWay : PySem.W.findIn K (.ref A.c_NoWay) "__init__" = some (some (.ref A.i_NoWay))
  ti_NoWay : PySem.W.typeIn K (.ref A.i_NoWay) = some (.type "function")
  Fi_NoWay : Fun K "__init__" "NoWay.__init__" s_init_NoWay A.i_NoWay A.di_NoWay
  bi_NoWay : Binds K A.di_NoWay ["self", "at"] []
  nf_NoWay : PySem.W.findIn K (.ref A.c_NoWay) "at" = some none
  o_NoHues : OexC K A.c_NoHues
  in_NoHues : PySem.W.findIn K (.ref A.c_NoHues) "__init__" = some (some (.ref A.i_NoHues))
  ti_NoHues : PySem.W.typeIn K (.ref A.i_NoHues) = some (.type "function")
  Fi_NoHues : Fun K "__init__" "NoHues.__init__" s_init_NoHues A.i_NoHues A.di_NoHues
  bi_NoHues : Binds K A.di_NoHues ["self", "place"] []
  nf_NoHues : PySem.W.findIn K (.ref A.c_NoHues) "place" = some none
  o_NoText : OexC K A.c_NoText
  in_NoText : PySem.W.findIn K (.ref A.c_NoText) "__init__" = some (some (.ref A.i_NoText))
  ti_NoText : PySem.W.typeIn K (.ref A.i_NoText) = some (.type "function")
  Fi_NoText : Fun K "__init__" "NoText.__init__" s_init_NoText A.i_NoText A.di_NoText
  bi_NoText : Binds K A.di_NoText ["self", "row"] []
  nf_NoText : PySem.W.findIn K (.ref A.c_NoText) "row" = some none
  base_ : BaseI K mg A.c_TieError "TieError"
  e_NoNet : PySem.W.excIn K A.c_NoNet [.type "ValueError", .type "Exception", .type "BaseException", .type "object"] "ValueError.__new__" = true
  p_NoNet : PySem.W.keepIn K (.ref A.c_NoNet) = true
  u_NoNet : PySem.W.subIn K (.ref A.c_NoNet) (.ref A.c_TieError) = some true
  s_NoNet : PySem.W.subIn K (.ref A.c_NoNet) (.ref A.c_NoNet) = some true
  q_NoNet_NoCrossing : PySem.W.kitOne K (.ref A.c_NoNet) (.ref A.c_NoCrossing) = some false
  q_NoNet_NoForm : PySem.W.kitOne K (.ref A.c_NoNet) (.ref A.c_NoForm) = some false
  q_NoNet_NoHues : PySem.W.kitOne K (.ref A.c_NoNet) (.ref A.c_NoHues) = some false
  q_NoNet_NoLot : PySem.W.kitOne K (.ref A.c_NoNet) (.ref A.c_NoLot) = some false
  q_NoNet_NoName : PySem.W.kitOne K (.ref A.c_NoNet) (.ref A.c_NoName) = some false
  q_NoNet_NoNet : PySem.W.kitOne K (.ref A.c_NoNet) (.ref A.c_NoNet) = some true
  q_NoNet_NoNumber : PySem.W.kitOne K (.ref A.c_NoNet) (.ref A.c_NoNumber) = some false
  q_NoNet_NoPlace : PySem.W.kitOne K (.ref A.c_NoNet) (.ref A.c_NoPlace) = some false
  q_NoNet_NoRow : PySem.W.kitOne K (.ref A.c_NoNet) (.ref A.c_NoRow) = some false
  q_NoNet_NoText : PySem.W.kitOne K (.ref A.c_NoNet) (.ref A.c_NoText) = some false
  q_NoNet_NoTie : PySem.W.kitOne K (.ref A.c_NoNet) (.ref A.c_NoTie) = some false
  q_NoNet_NoTurning : PySem.W.kitOne K (.ref A.c_NoNet) (.ref A.c_NoTurning) = some false
  q_NoNet_NoWay : PySem.W.kitOne K (.ref A.c_NoNet) (.ref A.c_NoWay) = some false
  q_NoNet_OtherNet : PySem.W.kitOne K (.ref A.c_NoNet) (.ref A.c_OtherNet) = some false
  q_NoNet_TooMany : PySem.W.kitOne K (.ref A.c_NoNet) (.ref A.c_TooMany) = some false
  q_NoNet_ValueError : PySem.W.kitOne K (.ref A.c_NoNet) (.type "ValueError") = some true
  u_NoText : PySem.W.subIn K (.ref A.c_NoText) (.ref A.c_TieError) = some true
  q_NoText_NoCrossing : PySem.W.kitOne K (.ref A.c_NoText) (.ref A.c_NoCrossing) = some false
  q_NoText_NoForm : PySem.W.kitOne K (.ref A.c_NoText) (.ref A.c_NoForm) = some false
  q_NoText_NoHues : PySem.W.kitOne K (.ref A.c_NoText) (.ref A.c_NoHues) = some false
  q_NoText_NoLot : PySem.W.kitOne K (.ref A.c_NoText) (.ref A.c_NoLot) = some false
  q_NoText_NoName : PySem.W.kitOne K (.ref A.c_NoText) (.ref A.c_NoName) = some false
  q_NoText_NoNet : PySem.W.kitOne K (.ref A.c_NoText) (.ref A.c_NoNet) = some false
  q_NoText_NoNumber : PySem.W.kitOne K (.ref A.c_NoText) (.ref A.c_NoNumber) = some false
  q_NoText_NoPlace : PySem.W.kitOne K (.ref A.c_NoText) (.ref A.c_NoPlace) = some false
  q_NoText_NoRow : PySem.W.kitOne K (.ref A.c_NoText) (.ref A.c_NoRow) = some false
  q_NoText_NoText : PySem.W.kitOne K (.ref A.c_NoText) (.ref A.c_NoText) = some true
  q_NoText_NoTie : PySem.W.kitOne K (.ref A.c_NoText) (.ref A.c_NoTie) = some false
  q_NoText_NoTurning : PySem.W.kitOne K (.ref A.c_NoText) (.ref A.c_NoTurning) = some false
  q_NoText_NoWay : PySem.W.kitOne K (.ref A.c_NoText) (.ref A.c_NoWay) = some false
  q_NoText_OtherNet : PySem.W.kitOne K (.ref A.c_NoText) (.ref A.c_OtherNet) = some false
  q_NoText_TooMany : PySem.W.kitOne K (.ref A.c_NoText) (.ref A.c_TooMany) = some false
  q_NoText_ValueError : PySem.W.kitOne K (.ref A.c_NoText) (.type "ValueError") = some true
  u_NoWay : PySem.W.subIn K (.ref A.c_NoWay) (.ref A.c_TieError) = some true
  q_NoWay_NoCrossing : PySem.W.kitOne K (.ref A.c_NoWay) (.ref A.c_NoCrossing) = some false
  q_NoWay_NoForm : PySem.W.kitOne K (.ref A.c_NoWay) (.ref A.c_NoForm) = some false
  q_NoWay_NoHues : PySem.W.kitOne K (.ref A.c_NoWay) (.ref A.c_NoHues) = some false
  q_NoWay_NoLot : PySem.W.kitOne K (.ref A.c_NoWay) (.ref A.c_NoLot) = some false
  q_NoWay_NoName : PySem.W.kitOne K (.ref A.c_NoWay) (.ref A.c_NoName) = some false
  q_NoWay_NoNet : PySem.W.kitOne K (.ref A.c_NoWay) (.ref A.c_NoNet) = some false
  q_NoWay_NoNumber : PySem.W.kitOne K (.ref A.c_NoWay) (.ref A.c_NoNumber) = some false
  q_NoWay_NoPlace : PySem.W.kitOne K (.ref A.c_NoWay) (.ref A.c_NoPlace) = some false
  q_NoWay_NoRow : PySem.W.kitOne K (.ref A.c_NoWay) (.ref A.c_NoRow) = some false
  q_NoWay_NoText : PySem.W.kitOne K (.ref A.c_NoWay) (.ref A.c_NoText) = some false
  q_NoWay_NoTie : PySem.W.kitOne K (.ref A.c_NoWay) (.ref A.c_NoTie) = some false
  q_NoWay_NoTurning : PySem.W.kitOne K (.ref A.c_NoWay) (.ref A.c_NoTurning) = some false
  q_NoWay_NoWay : PySem.W.kitOne K (.ref A.c_NoWay) (.ref A.c_NoWay) = some true
  q_NoWay_OtherNet : PySem.W.kitOne K (.ref A.c_NoWay) (.ref A.c_OtherNet) = some false
  q_NoWay_TooMany : PySem.W.kitOne K (.ref A.c_NoWay) (.ref A.c_TooMany) = some false
  q_NoWay_ValueError : PySem.W.kitOne K (.ref A.c_NoWay) (.type "ValueError") = some true
/-! ### nets -/
inductive Net where
  | line (n : Int)
  | ring (n : Int)
  | tree (ps : List Int)
def Net.kind : Net → Str
  | .line _ => Str.ofString "line"
  | .ring _ => Str.ofString "ring"
  | .tree _ => Str.ofString "tree"
def Net.size : Net → PyData
  | .line n => .int n
  | .ring n => .int n
  | .tree ps => dInts ps
abbrev Net.d (N : Net) : PyData := .tuple [.str N.kind, N.size]
def TreeOk (ps : List Int) : Prop := 1 ≤ ps.length ∧ ps.length < 60 ∧ ∀ k : Nat, k < ps.length → 0 ≤ ps.getD k 0 ∧ ps.getD k 0 ≤ k
def Net.ok : Net → Prop
  | .line n => 2 ≤ n ∧ n ≤ 60
  | .ring n => 3 ≤ n ∧ n ≤ 60
  | .tree ps => TreeOk ps
def Net.places : Net → Int
  | .line n => n
  | .ring n => n
  | .tree ps => ps.length + 1
theorem net_str {s t : Str} (h : decide (V.str s = V.str t) = true) : s = t := V.str.inj (of_decide_eq_true h)
/-- a net's tuple -/
theorem dp_net {K : PySem.W.Frag} {H : Hp} {v : V} {N : Net} (h : Dp K H v N.d) : ∃ a y, v = .ref a ∧ SqT K H a [.str N.kind, y] ∧ Dp K H y N.size := by
  obtain ⟨a, x, y, rfl, hs, hx, hy⟩ := dp_tup2 h
  obtain rfl := dp_str hx
  exact ⟨a, y, rfl, hs, hy⟩
theorem k_eqS {s t : Str} {H : Hp} {Q : VK} (h : Q (.bl (decide (s = t))) H) : rEq (.str s) (.str t) H Q := ⟨rfl, by
  have e : decide (V.str s = V.str t) = decide (s = t) := by
    by_cases c : s = t
    · rw [decide_eq_true c, decide_eq_true (by rw [c])]
    · rw [decide_eq_false c, decide_eq_false (fun z => c (V.str.inj z))]
  rw [e]; exact h⟩
theorem k_neS {s t : Str} {H : Hp} {Q : VK} (h : Q (.bl (!decide (s = t))) H) : rNe (.str s) (.str t) H Q := ⟨rfl, by
  have e : decide (V.str s = V.str t) = decide (s = t) := by
    by_cases c : s = t
    · rw [decide_eq_true c, decide_eq_true (by rw [c])]
    · rw [decide_eq_false c, decide_eq_false (fun z => c (V.str.inj z))]
  rw [e]; exact h⟩
theorem s_lt : decide (Str.ofString "line" = Str.ofString "tree") = false := by decide +kernel
theorem s_rt : decide (Str.ofString "ring" = Str.ofString "tree") = false := by decide +kernel
theorem s_lr : decide (Str.ofString "line" = Str.ofString "ring") = false := by decide +kernel
theorem s_rl : decide (Str.ofString "ring" = Str.ofString "line") = false := by decide +kernel
theorem s_tl : decide (Str.ofString "tree" = Str.ofString "line") = false := by decide +kernel
theorem s_tr : decide (Str.ofString "tree" = Str.ofString "ring") = false := by decide +kernel
theorem s_same (s : Str) : decide (s = s) = true := decide_eq_true rfl
/-- how far t lies up from a on a ring of n -/
def up (n a t : Int) : Int := if a ≤ t then t - a else t - a + n
/-- x lies in the part of the tree that hangs by k -/
def below (ps : List Int) (k : Nat) : Nat → Bool
  | 0 => decide (k = 0)
  | x + 1 => decide (k = x + 1) || (decide (k < x + 1) && if h : (ps.getD x 0).toNat < x + 1 then below ps k (ps.getD x 0).toNat else false)
termination_by x => x
decreasing_by exact h
def OnTie : Net → Int → Int → Int → Prop
  | .line _, a, b, t => min a b ≤ t ∧ t < max a b
  | .ring n, a, b, t => 0 ≤ t ∧ t < n ∧ up n a t < up n a b
  | .tree ps, a, b, t => 0 ≤ t ∧ t < ps.length ∧ below ps (t.toNat + 1) a.toNat ≠ below ps (t.toNat + 1) b.toNat
def Net.far : Net → Int → Int → List Int → Prop
  | .line _, a, b, ns => (ns.length : Int) = max a b - min a b
  | .ring n, a, b, ns => (ns.length : Int) = up n a b
  | .tree _, _, _, ns => ns.length < 120
def isWay (N : Net) (a b : Int) : Prop := a ≠ b ∧ 0 ≤ a ∧ 0 ≤ b ∧ a < N.places ∧ b < N.places
instance (N : Net) (a b : Int) : Decidable (isWay N a b) := by unfold isWay; infer_instance
structure TiesOf (N : Net) (a b : Int) (ns : List Int) : Prop where
  srt : ns.Pairwise (· < ·)
  mem : ∀ t, t ∈ ns ↔ OnTie N a b t
  far : N.far a b ns
/-! ### things that may be nets -/
structure ANet where
  kd : Str
  sz : Int ⊕ List Int
def szd : Int ⊕ List Int → PyData
  | .inl n => .int n
  | .inr ps => dInts ps
abbrev ANet.d (M : ANet) : PyData := .tuple [.str M.kd, szd M.sz]
def Net.a : Net → ANet
  | .line n => ⟨Str.ofString "line", .inl n⟩
  | .ring n => ⟨Str.ofString "ring", .inl n⟩
  | .tree ps => ⟨Str.ofString "tree", .inr ps⟩
theorem a_d (N : Net) : N.a.d = N.d := by cases N <;> rfl
theorem a_kd (N : Net) : N.a.kd = N.kind := by cases N <;> rfl
def ANet.ok (M : ANet) : Prop := ∃ N : Net, M = N.a ∧ N.ok
def ANet.lens (M : ANet) : Prop := ∀ ps, M.sz = .inr ps → ps.length ≤ 10000
theorem lens_l {k : Str} {n : Int} : ANet.lens ⟨k, .inl n⟩ := fun ps h => by cases h
theorem lens_r {k : Str} {ps : List Int} (h : ps.length ≤ 10000) : ANet.lens ⟨k, .inr ps⟩ := fun qs e => by cases e; exact h
theorem a_lens {N : Net} (ok : N.ok) : N.a.lens := by
  cases N with
  | line n => exact lens_l
  | ring n => exact lens_l
  | tree ps => exact lens_r (by have := ok.2.1; omega)
theorem sne {s t : Str} (h : decide (s = t) = false) : s ≠ t := of_decide_eq_false h
theorem aok_tl {n : Int} : ¬ ANet.ok ⟨Str.ofString "tree", .inl n⟩ := fun ⟨N, e, _⟩ => by
  cases N with
  | line m => exact sne s_tl (congrArg ANet.kd e)
  | ring m => exact sne s_tr (congrArg ANet.kd e)
  | tree ps => cases congrArg ANet.sz e
theorem aok_t {ps : List Int} : ANet.ok ⟨Str.ofString "tree", .inr ps⟩ ↔ TreeOk ps := ⟨fun ⟨N, e, h⟩ => by
  cases N with
  | line m => exact absurd (congrArg ANet.kd e) (sne s_tl)
  | ring m => exact absurd (congrArg ANet.kd e) (sne s_tr)
  | tree qs => cases congrArg ANet.sz e; exact h, fun h => ⟨.tree ps, rfl, h⟩⟩
theorem aok_l {n : Int} : ANet.ok ⟨Str.ofString "line", .inl n⟩ ↔ 2 ≤ n ∧ n ≤ 60 := ⟨fun ⟨N, e, h⟩ => by
  cases N with
  | line m => cases congrArg ANet.sz e; exact h
  | ring m => exact absurd (congrArg ANet.kd e) (sne s_lr)
  | tree qs => exact absurd (congrArg ANet.kd e) (sne s_lt), fun h => ⟨.line n, rfl, h⟩⟩
theorem aok_lr {ps : List Int} : ¬ ANet.ok ⟨Str.ofString "line", .inr ps⟩ := fun ⟨N, e, _⟩ => by
  cases N with
  | line m => cases congrArg ANet.sz e
  | ring m => cases congrArg ANet.sz e
  | tree qs => exact sne s_lt (congrArg ANet.kd e)
theorem aok_r {n : Int} : ANet.ok ⟨Str.ofString "ring", .inl n⟩ ↔ 3 ≤ n ∧ n ≤ 60 := ⟨fun ⟨N, e, h⟩ => by
  cases N with
  | line m => exact absurd (congrArg ANet.kd e) (sne s_rl)
  | ring m => cases congrArg ANet.sz e; exact h
  | tree qs => exact absurd (congrArg ANet.kd e) (sne s_rt), fun h => ⟨.ring n, rfl, h⟩⟩
theorem aok_rr {ps : List Int} : ¬ ANet.ok ⟨Str.ofString "ring", .inr ps⟩ := fun ⟨N, e, _⟩ => by
  cases N with
  | line m => cases congrArg ANet.sz e
  | ring m => cases congrArg ANet.sz e
  | tree qs => exact sne s_rt (congrArg ANet.kd e)
theorem aok_o {k : Str} {z : Int ⊕ List Int} (h1 : k ≠ Str.ofString "line") (h2 : k ≠ Str.ofString "ring") (h3 : k ≠ Str.ofString "tree") : ¬ ANet.ok ⟨k, z⟩ := fun ⟨N, e, _⟩ => by
  have e := congrArg ANet.kd e
  cases N with
  | line m => exact h1 e
  | ring m => exact h2 e
  | tree qs => exact h3 e
theorem dp_anet {K : PySem.W.Frag} {H : Hp} {v : V} {M : ANet} (h : Dp K H v M.d) : ∃ a y, v = .ref a ∧ SqT K H a [.str M.kd, y] ∧ Dp K H y (szd M.sz) := by
  obtain ⟨a, x, y, rfl, hs, hx, hy⟩ := dp_tup2 h
  obtain rfl := dp_str hx
  exact ⟨a, y, rfl, hs, hy⟩

variable {P : Program} {w : World} {K : PySem.W.Frag} {mg : Str → Option Value} {base : Heap} {A : Ad}
def pr_is_tree (K : PySem.W.Frag) (v0 : V) (H : Hp) (Q : VK) (_ : XK) : Prop := ∃ ps, Dp K H v0 (dInts ps) ∧ ps.length ≤ 10000 ∧ ∀ b, (b = true ↔ TreeOk ps) → Q (.bl b) H
def t_is_tree (K : PySem.W.Frag) : TS :=
  (tSeq (tIfS (tOr (tTest (tOp xLt (tCB (rLenX K) (tCons (tVar 0) tNil)) (tC (.int 1)))) (tTest (tOp xGe (tCB (rLenX K) (tCons (tVar 0) tNil)) (tC (.int 60))))) (tRet (tC (.bl false))) tNext)
    (tSeq (tFor (iRng1 (tCons (tCB (rLenX K) (tCons (tVar 0) tNil)) tNil)) (gName 1)
      (tIfS (tOr (tTest (tOp xLt (tOp (rIxL K) (tVar 0) (tVar 1)) (tC (.int 0)))) (tTest (tOp xGt (tOp (rIxL K) (tVar 0) (tVar 1)) (tVar 1)))) (tRet (tC (.bl false))) tNext))
    (tRet (tC (.bl true)))))
theorem pure_is_tree {v0 : V} {H : Hp} {Q : VK} {E : XK} (h : pr_is_tree K v0 H Q E) : t_is_tree K ⟨fun _ H' => Q .non H', Q, fun _ _ => False, fun _ _ => False⟩ [some v0, none] H := by
  obtain ⟨ps, hp, hz, q⟩ := h
  obtain ⟨a, rfl, ha⟩ := dp_ints hp
  unfold t_is_tree
  wtm_at "s"
  refine k_it (fun c1 => ?_) (fun c1 => ?_)
  · wtm_at "s"
    exact q _ (ff_iff fun z => absurd z.1 (by omega))
  wtm_at "s"
  refine k_it (fun c2 => ?_) (fun c2 => ?_)
  · wtm_at "s"
    exact q _ (ff_iff fun z => absurd z.2.1 (by omega))
  wtm_at "s"
  refine forR (fun i σ' H' => H' = H ∧ (∃ k, σ' = [some (.ref a), k]) ∧ ∀ k : Nat, k < i → 0 ≤ ps.getD k 0 ∧ ps.getD k 0 ≤ k) ⟨rfl, ⟨none, rfl⟩, fun k hk => absurd hk (by omega)⟩ ?_ ?_
  · rintro i σ' H' hi ⟨rfl, ⟨k, rfl⟩, hk⟩
    wtm_at "s"
    refine k_ixI ha (by omega) (by omega) ?_
    wtm_at "s"
    rw [show (0 + (i : Int)).toNat = i by omega]
    refine k_it (fun c3 => ?_) (fun c3 => ?_)
    · wtm_at "s"
      exact q _ (ff_iff fun z => absurd (z.2.2 i (by omega)).1 (by omega))
    wtm_at "s"
    refine k_ixI ha (by omega) (by omega) ?_
    wtm_at "s"
    rw [show (0 + (i : Int)).toNat = i by omega]
    refine k_it (fun c4 => ?_) (fun c4 => ?_)
    · wtm_at "s"
      exact q _ (ff_iff fun z => absurd (z.2.2 i (by omega)).2 (by omega))
    wtm_at "s"
    refine ⟨rfl, ⟨_, rfl⟩, fun k hk' => ?_⟩
    by_cases e : k = i
    · subst e; omega
    · exact hk k (by omega)
  · rintro σ' H' ⟨rfl, ⟨k, rfl⟩, hk⟩
    wtm_at "s"
    exact q _ (tt_iff ⟨by omega, by omega, fun k h => hk k (by omega)⟩)
abbrev sp_is_tree (K : PySem.W.Frag) : Sp := fun vs H Q E => ∃ v0, vs = [v0] ∧ pr_is_tree K v0 H Q E
theorem ok_is_tree (T : Txt K mg A) : FnOk P w K mg base CX0 1 A.a_is_tree A.d_is_tree ["parents"] (sp_is_tree K) := by
  refine T.F_is_tree.ok sc_is_tree (fun vs H Q E h => by obtain ⟨v0, rfl, _⟩ := h; rfl) (fun cdv A0 outer s H vs Q E hr h => ?_)
  obtain ⟨v0, rfl, h⟩ := h
  exact ⟨t_is_tree K, (pss_cons (ps_if (PW.pt (pw_or (pt_cmpR op_lt (pe_callB q_len (by rfl) T.z_len (by decide +kernel) (pa_cons (pv 0) pa_nil)) pe_int (nomark _)) (pw_or1 (pt_cmpR op_ge (pe_callB q_len (by rfl) T.z_len (by decide +kernel) (pa_cons (pv 0) pa_nil)) (pe_glob (v := .int 60) (by rfl) T.c_MOST_PLACES ⟨_, rfl⟩) (nomark _))))) (pss_one (ps_ret pe_bl)) pss_nil)
      (pss_cons (ps_for PassesOwn.never rfl (pi_range1 (by rfl) T.z_range (pa_cons (pe_callB q_len (by rfl) T.z_len (by decide +kernel) (pa_cons (pv 0) pa_nil)) pa_nil)) (pg_name (i := 1) sc_is_tree.nd rfl (Or.inl rfl))
      (pss_one (ps_if (PW.pt (pw_or (pt_cmpR op_lt (pe_ix ix_list (pv 0) (pv 1) (fun _ _ => rfl)) pe_int (nomark _)) (pw_or1 (pt_cmpR op_gt (pe_ix ix_list (pv 0) (pv 1) (fun _ _ => rfl)) (pv 1) (nomark _))))) (pss_one (ps_ret pe_bl)) pss_nil)))
      (pss_one (ps_ret pe_bl)))), pure_is_tree h⟩
def pr_look_net (K : PySem.W.Frag) (A : Ad) (v0 : V) (H : Hp) (Q : VK) (E : XK) : Prop := ∃ M : ANet, Dp K H v0 M.d ∧ M.lens ∧ ((¬ M.ok ∧ E (.ref A.c_NoNet) none H) ∨ (M.ok ∧ Q .non H))
def t_look_net (K : PySem.W.Frag) (A : Ad) (E : XK) : TS :=
  (tSeq (tAsg (tVar 0) (gTup K 2 (gCons (gName 1) (gCons (gName 2) gNil))))
    (tSeq (tIfS (tTest (tOp rEq (tVar 1) (tC (.str (Str.ofString "tree"))))) (tAsg (tAndV (tCB (rIsi K) (tCons (tVar 2) (tCons (tC (.ty "list")) tNil))) (tCall (sp_is_tree K) [] E0 (tCons (tVar 2) tNil))) (gName 3)) (tIfS (tOr (tTest (tOp rEq (tVar 1) (tC (.str (Str.ofString "line"))))) (tTest (tOp rEq (tVar 1) (tC (.str (Str.ofString "ring")))))) (tAsg (tAndV (tNotV (tCB (rIsi K) (tCons (tVar 2) (tCons (tC (.ty "list")) tNil)))) (tAndV (tOp xGe (tVar 2) (tOp xAdd (tC (.int 2)) (tCB rIntOf (tCons (tOp rEq (tVar 1) (tC (.str (Str.ofString "ring")))) tNil)))) (tOp xLe (tVar 2) (tC (.int 60))))) (gName 3)) (tAsg (tC (.bl false)) (gName 3))))
    (tIfS (tNot (tB (tVar 3))) (tRaiseP A.c_NoNet E) tNext)))
theorem pure_look_net {v0 : V} {H : Hp} {Q : VK} {E : XK} (h : pr_look_net K A v0 H Q E) : t_look_net K A E ⟨fun _ H' => Q .non H', Q, fun _ _ => False, fun _ _ => False⟩ [some v0, none, none, none] H := by
  obtain ⟨⟨kd, z⟩, hd, hlen, h⟩ := h
  have qq : ANet.ok ⟨kd, z⟩ → Q .non H := fun o => by
    rcases h with ⟨h1, _⟩ | ⟨_, h2⟩
    · exact absurd o h1
    · exact h2
  have qe : ¬ ANet.ok ⟨kd, z⟩ → E (.ref A.c_NoNet) none H := fun o => by
    rcases h with ⟨_, h1⟩ | ⟨h2, _⟩
    · exact h1
    · exact absurd h2 o
  clear h
  obtain ⟨a, y, rfl, hs, hy⟩ := dp_anet hd
  unfold t_look_net
  wtm_at "s"
  refine k_eqS ?_
  by_cases c1 : kd = Str.ofString "tree"
  · subst c1
    rw [s_same]
    cases z with
    | inl n =>
      obtain rfl := dp_int hy
      wtm_at "s"
      exact qe aok_tl
    | inr ps =>
      obtain ⟨b, rfl, hb⟩ := dp_ints hy
      wtm_at "s"
      refine ⟨_, rfl, ps, hy, hlen ps rfl, fun r hr => ?_⟩
      cases r with
      | true =>
        wtm_at "s"
        exact qq (aok_t.mpr (hr.mp rfl))
      | false =>
        wtm_at "s"
        exact qe fun o => by have := hr.mpr (aok_t.mp o); cases this
  · rw [decide_eq_false c1]
    wtm_at "s"
    refine k_eqS ?_
    by_cases c2 : kd = Str.ofString "line"
    · subst c2
      rw [s_same]
      cases z with
      | inl n =>
        obtain rfl := dp_int hy
        wtm_at "s"
        refine k_eqS ?_
        rw [s_lr]
        wtm_at "s"
        by_cases c : 2 ≤ n
        · have e1 : decide (2 + (if false = true then 1 else 0) ≤ n) = true := by simp; omega
          rw [e1]
          wtm_at "s"
          by_cases c' : n ≤ 60
          · wtm_at "s"
            exact qq (aok_l.mpr ⟨c, c'⟩)
          · wtm_at "s"
            exact qe fun o => c' (aok_l.mp o).2
        · have e1 : decide (2 + (if false = true then 1 else 0) ≤ n) = false := by simp; omega
          rw [e1]
          wtm_at "s"
          exact qe fun o => c (aok_l.mp o).1
      | inr ps =>
        obtain ⟨b, rfl, hb⟩ := dp_ints hy
        wtm_at "s"
        exact qe aok_lr
    · rw [decide_eq_false c2]
      wtm_at "s"
      refine k_eqS ?_
      by_cases c3 : kd = Str.ofString "ring"
      · subst c3
        rw [s_same]
        cases z with
        | inl n =>
          obtain rfl := dp_int hy
          wtm_at "s"
          refine k_eqS ?_
          rw [s_same]
          wtm_at "s"
          by_cases c : 3 ≤ n
          · have e1 : decide (2 + (if true = true then 1 else 0) ≤ n) = true := by simp; omega
            rw [e1]
            wtm_at "s"
            by_cases c' : n ≤ 60
            · wtm_at "s"
              exact qq (aok_r.mpr ⟨c, c'⟩)
            · wtm_at "s"
              exact qe fun o => c' (aok_r.mp o).2
          · have e1 : decide (2 + (if true = true then 1 else 0) ≤ n) = false := by simp; omega
            rw [e1]
            wtm_at "s"
            exact qe fun o => c (aok_r.mp o).1
        | inr ps =>
          obtain ⟨b, rfl, hb⟩ := dp_ints hy
          wtm_at "s"
          exact qe aok_rr
      · rw [decide_eq_false c3]
        wtm_at "s"
        exact qe (aok_o c2 c3 c1)
abbrev sp_look_net (K : PySem.W.Frag) (A : Ad) : Sp := fun vs H Q E => ∃ v0, vs = [v0] ∧ pr_look_net K A v0 H Q E
theorem ok_look_net (T : Txt K mg A) : FnOk P w K mg base (L2.CX P w) 3 A.a_look_net A.d_look_net ["net"] (sp_look_net K A) := by
  refine T.F_look_net.okX sc_look_net (fun vs H Q E h => by obtain ⟨v0, rfl, _⟩ := h; rfl) (fun cdv A0 outer s H vs Q E hr h => ?_)
  obtain ⟨v0, rfl, h⟩ := h
  exact ⟨t_look_net K A E, (pss_cons (ps_asg (pv 0) (pg_tup (by rfl) (pgs_cons (pg_name (i := 1) sc_look_net.nd rfl (Or.inl rfl)) (pgs_cons (pg_name (i := 2) sc_look_net.nd rfl (Or.inl rfl)) pgs_nil))))
      (pss_cons (ps_if (pt_cmpR op_eq (pv 1) pe_str (nomark _)) (pss_one (ps_set (i := 3) sc_look_net.nd rfl (Or.inl rfl) (pe_and (pe_callB q_isi (by rfl) T.z_isinstance (by decide +kernel) (pa_cons (pv 2) (pa_cons (pe_bltn (v := .ty "list") (by rfl) T.z_list (by decide +kernel) rfl) pa_nil))) (pe_one (pe_call (ok_is_tree T) (hr.mono (by decide)) (by rfl) T.g_is_tree T.F_is_tree.kp T.b_is_tree .nil pass0 (pa_cons (pv 2) pa_nil)))))) (pss_one (ps_if (PW.pt (pw_or (pt_cmpR op_eq (pv 1) pe_str (nomark _)) (pw_or1 (pt_cmpR op_eq (pv 1) pe_str (nomark _))))) (pss_one (ps_set (i := 3) sc_look_net.nd rfl (Or.inl rfl) (pe_and (pe_not (pe_callB q_isi (by rfl) T.z_isinstance (by decide +kernel) (pa_cons (pv 2) (pa_cons (pe_bltn (v := .ty "list") (by rfl) T.z_list (by decide +kernel) rfl) pa_nil)))) (pe_and (pe_cmpR op_ge (pv 2) (pe_op op_add pe_int (pe_callTy q_intB (by rfl) T.z_int (by decide +kernel) (pa_cons (pe_cmpR op_eq (pv 1) pe_str (nomark _)) pa_nil))) (nomark _)) (pe_one (pe_cmpR op_le (pv 2) (pe_glob (v := .int 60) (by rfl) T.c_MOST_PLACES ⟨_, rfl⟩) (nomark _))))))) (pss_one (ps_set (i := 3) sc_look_net.nd rfl (Or.inl rfl) pe_bl)))))
      (pss_one (ps_if (pt_not (pt_val (pv 3))) (pss_one (ps_raise rfl (takes_of rfl rfl rfl rfl) (pmk_own PySem.F.excBase_ValueError T.e_NoNet T.k_NoNet T.p_NoNet (raises_own T.x_NoNet.hs T.t_NoNet) (by rfl)))) pss_nil)))), pure_look_net h⟩


def pr_places_of (K : PySem.W.Frag) (v0 : V) (H : Hp) (Q : VK) (_ : XK) : Prop := ∃ N : Net, Dp K H v0 N.d ∧ Q (.int N.places) H
def t_places_of (K : PySem.W.Frag) : TS :=
  (tSeq (tIfS (tTest (tOp rEq (tOp (rIxT K) (tVar 0) (tC (.int 0))) (tC (.str (Str.ofString "tree"))))) (tRet (tOp xAdd (tCB (rLenX K) (tCons (tOp (rIxT K) (tVar 0) (tC (.int 1))) tNil)) (tC (.int 1)))) tNext)
    (tRet (tOp (rIxT K) (tVar 0) (tC (.int 1)))))
theorem pure_places_of {v0 : V} {H : Hp} {Q : VK} {E : XK} (h : pr_places_of K v0 H Q E) : t_places_of K ⟨fun _ H' => Q .non H', Q, fun _ _ => False, fun _ _ => False⟩ [some v0] H := by
  obtain ⟨N, hd, q⟩ := h
  obtain ⟨a, y, rfl, hs, hy⟩ := dp_net hd
  unfold t_places_of
  wtm_at "s"
  refine k_eqS ?_
  cases N with
  | line n =>
    obtain rfl := dp_int hy
    rw [show Net.kind (.line n) = Str.ofString "line" from rfl, s_lt]
    wtm_at "s"
    exact q
  | ring n =>
    obtain rfl := dp_int hy
    rw [show Net.kind (.ring n) = Str.ofString "ring" from rfl, s_rt]
    wtm_at "s"
    exact q
  | tree ps =>
    obtain ⟨b, rfl, hb⟩ := dp_ints hy
    rw [show Net.kind (.tree ps) = Str.ofString "tree" from rfl, s_same]
    wtm_at "s"
    exact q
abbrev sp_places_of (K : PySem.W.Frag) : Sp := fun vs H Q E => ∃ v0, vs = [v0] ∧ pr_places_of K v0 H Q E
theorem ok_places_of (T : Txt K mg A) : FnOk P w K mg base CX0 1 A.a_places_of A.d_places_of ["net"] (sp_places_of K) := by
  refine T.F_places_of.ok sc_places_of (fun vs H Q E h => by obtain ⟨v0, rfl, _⟩ := h; rfl) (fun cdv A0 outer s H vs Q E hr h => ?_)
  obtain ⟨v0, rfl, h⟩ := h
  exact ⟨t_places_of K, (pss_cons (ps_if (pt_cmpR op_eq (pe_ix ix_tup (pv 0) pe_int (fun _ _ => rfl)) pe_str (nomark _)) (pss_one (ps_ret (pe_op op_add (pe_callB q_len (by rfl) T.z_len (by decide +kernel) (pa_cons (pe_ix ix_tup (pv 0) pe_int (fun _ _ => rfl)) pa_nil)) pe_int))) pss_nil)
      (pss_one (ps_ret (pe_ix ix_tup (pv 0) pe_int (fun _ _ => rfl))))), pure_places_of h⟩
def pr_is_way (K : PySem.W.Frag) (v0 v1 : V) (H : Hp) (Q : VK) (_ : XK) : Prop := ∃ (N : Net) (a b : Int), Dp K H v0 N.d ∧ Dp K H v1 (dPair (a, b)) ∧ Q (.bl (decide (isWay N a b))) H
def t_is_way (K : PySem.W.Frag) : TS :=
  (tSeq (tAsg (tVar 1) (gTup K 2 (gCons (gName 2) (gCons (gName 3) gNil))))
    (tRet (tAndV (tOp rNe (tVar 2) (tVar 3)) (tAndV (tOp xGe (tCB rMin2 (tCons (tVar 2) (tCons (tVar 3) tNil))) (tC (.int 0))) (tOp xLt (tCB rMax2 (tCons (tVar 2) (tCons (tVar 3) tNil))) (tCall (sp_places_of K) [] E0 (tCons (tVar 0) tNil)))))))
theorem pure_is_way {v0 v1 : V} {H : Hp} {Q : VK} {E : XK} (h : pr_is_way K v0 v1 H Q E) : t_is_way K ⟨fun _ H' => Q .non H', Q, fun _ _ => False, fun _ _ => False⟩ [some v0, some v1, none, none] H := by
  obtain ⟨N, a, b, hd, hw, q⟩ := h
  obtain ⟨p, rfl, hp⟩ := dp_pair hw
  have kk : ∀ r : Bool, (r = true ↔ isWay N a b) → Q (.bl r) H := fun r hr => by
    have : r = decide (isWay N a b) := by
      by_cases c : isWay N a b
      · rw [decide_eq_true c]; exact hr.mpr c
      · rw [decide_eq_false c]
        cases r with
        | false => rfl
        | true => exact absurd (hr.mp rfl) c
    rw [this]; exact q
  unfold t_is_way
  wtm_at "s"
  refine k_itn (fun c1 => ?_) (fun c1 => ?_)
  · wtm_at "s"
    refine k_it (fun c2 => ?_) (fun c2 => ?_)
    · wtm_at "s"
      refine ⟨_, rfl, N, hd, ?_⟩
      wtm_at "s"
      refine kk _ ?_
      simp only [decide_eq_true_eq, isWay]
      constructor
      · intro z
        split at z <;> split at c2 <;> omega
      · intro z
        split <;> omega
    · wtm_at "s"
      refine kk _ (ff_iff fun z => c2 ?_)
      obtain ⟨z1, z2, z3, z4, z5⟩ := z
      split <;> omega
  · wtm_at "s"
    exact kk _ (ff_iff fun z => z.1 c1)
abbrev sp_is_way (K : PySem.W.Frag) : Sp := fun vs H Q E => ∃ v0 v1, vs = [v0, v1] ∧ pr_is_way K v0 v1 H Q E
theorem ok_is_way (T : Txt K mg A) : FnOk P w K mg base CX0 2 A.a_is_way A.d_is_way ["net", "way"] (sp_is_way K) := by
  refine T.F_is_way.ok sc_is_way (fun vs H Q E h => by obtain ⟨v0, v1, rfl, _⟩ := h; rfl) (fun cdv A0 outer s H vs Q E hr h => ?_)
  obtain ⟨v0, v1, rfl, h⟩ := h
  exact ⟨t_is_way K, (pss_cons (ps_asg (pv 1) (pg_tup (by rfl) (pgs_cons (pg_name (i := 2) sc_is_way.nd rfl (Or.inl rfl)) (pgs_cons (pg_name (i := 3) sc_is_way.nd rfl (Or.inl rfl)) pgs_nil))))
      (pss_one (ps_ret (pe_and (pe_cmpR op_ne (pv 2) (pv 3) (nomark _)) (pe_and (pe_cmpR op_ge (pe_callB (q_min2 (by rfl)) (by rfl) T.z_min (by decide +kernel) (pa_cons (pv 2) (pa_cons (pv 3) pa_nil))) pe_int (nomark _)) (pe_one (pe_cmpR op_lt (pe_callB (q_max2 (by rfl)) (by rfl) T.z_max (by decide +kernel) (pa_cons (pv 2) (pa_cons (pv 3) pa_nil))) (pe_call (ok_places_of T) (hr.mono (by decide)) (by rfl) T.g_places_of T.F_places_of.kp T.b_places_of .nil pass0 (pa_cons (pv 0) pa_nil)) (nomark _)))))))), pure_is_way h⟩


theorem below_lt {ps : List Int} {k : Nat} : ∀ x, x < k → below ps k x = false
  | 0, h => by unfold below; exact decide_eq_false (by omega)
  | x + 1, h => by
    unfold below
    rw [decide_eq_false (show ¬ k = x + 1 by omega), decide_eq_false (show ¬ k < x + 1 by omega)]; rfl
theorem below_self {ps : List Int} (k : Nat) : below ps k k = true := by
  cases k with
  | zero => unfold below; rfl
  | succ x => unfold below; rw [decide_eq_true rfl]; rfl
theorem below_step {ps : List Int} (h : TreeOk ps) {k x : Nat} (hx : x < ps.length) (hk : k ≠ x + 1) : below ps k (x + 1) = below ps k (ps.getD x 0).toNat := by
  have hp := h.2.2 x hx
  have hlt : (ps.getD x 0).toNat < x + 1 := by omega
  rw [below, decide_eq_false hk, Bool.false_or, dif_pos hlt]
  by_cases c : k < x + 1
  · rw [decide_eq_true c, Bool.true_and]
  · rw [decide_eq_false c, Bool.false_and, below_lt _ (by omega)]
theorem ring_step {n a b t : Int} (a0 : 0 ≤ a) (a1 : a < n) (b0 : 0 ≤ b) (b1 : b < n) (ne : a ≠ b) (t0 : 0 ≤ t) (t1 : t < n) :
    (up n a t < up n a b ↔ t = a ∨ up n ((a + 1) % n) t < up n ((a + 1) % n) b) ∧ (t = a → ¬ up n ((a + 1) % n) t < up n ((a + 1) % n) b) := by
  have e : (a + 1) % n = if a + 1 = n then 0 else a + 1 := by
    split
    · rename_i h; rw [h]; exact Int.emod_self
    · exact Int.emod_eq_of_lt (by omega) (by omega)
  rw [e]
  unfold up
  constructor
  · constructor
    · intro h; repeat' split at h
      all_goals repeat' split
      all_goals omega
    · intro h; repeat' split at h
      all_goals repeat' split
      all_goals omega
  · intro h; subst h
    repeat' split
    all_goals omega
theorem ring_far {n a b : Int} (a0 : 0 ≤ a) (a1 : a < n) (b0 : 0 ≤ b) (b1 : b < n) (ne : a ≠ b) : up n ((a + 1) % n) b = up n a b - 1 ∧ 0 ≤ (a + 1) % n ∧ (a + 1) % n < n ∧ 0 < up n a b ∧ up n a b < n := by
  have e : (a + 1) % n = if a + 1 = n then 0 else a + 1 := by
    split
    · rename_i h; rw [h]; exact Int.emod_self
    · exact Int.emod_eq_of_lt (by omega) (by omega)
  rw [e]
  unfold up
  refine ⟨?_, ?_, ?_, ?_, ?_⟩ <;> repeat' split
  all_goals omega
theorem up_self (n a : Int) : up n a a = 0 := by unfold up; split <;> omega
theorem up_nonneg {n a b : Int} (a0 : 0 ≤ a) (a1 : a < n) (b0 : 0 ≤ b) (b1 : b < n) : 0 ≤ up n a b := by unfold up; split <;> omega
/-- the greater end climbs -/
theorem tree_step {ps : List Int} (h : TreeOk ps) {x y t : Int} (x0 : 0 ≤ x) (x1 : x < ps.length + 1) (y0 : 0 ≤ y) (yx : y < x) (t0 : 0 ≤ t) :
    (below ps (t.toNat + 1) x.toNat ≠ below ps (t.toNat + 1) y.toNat ↔ t = x - 1 ∨ below ps (t.toNat + 1) (ps.getD (x - 1).toNat 0).toNat ≠ below ps (t.toNat + 1) y.toNat) ∧
    (t = x - 1 → ¬ below ps (t.toNat + 1) (ps.getD (x - 1).toNat 0).toNat ≠ below ps (t.toNat + 1) y.toNat) := by
  have hp := h.2.2 (x - 1).toNat (by omega)
  by_cases c : t = x - 1
  · subst c
    have e1 : (x - 1).toNat + 1 = x.toNat := by omega
    rw [e1, below_self, below_lt y.toNat (by omega), below_lt (ps.getD (x - 1).toNat 0).toNat (by omega)]
    simp
  · have e1 : x.toNat = (x - 1).toNat + 1 := by omega
    have := below_step h (k := t.toNat + 1) (x := (x - 1).toNat) (by omega) (by omega)
    rw [e1, this]
    simp [c]
theorem srt_of {fs ns : List Int} (nd : fs.Nodup) (pm : ns.Perm fs) (srt : ns.Pairwise (· ≤ ·)) : ns.Pairwise (· < ·) := by
  have := srt.and (pm.nodup_iff.mpr nd)
  exact this.imp fun ⟨a, b⟩ => by omega
def pr_ties_on (K : PySem.W.Frag) (v0 v1 : V) (H : Hp) (Q : VK) (_ : XK) : Prop := ∃ (N : Net) (a b : Int), Dp K H v0 N.d ∧ Dp K H v1 (dPair (a, b)) ∧ N.ok ∧ isWay N a b ∧ ∀ p ns H', H p = none → Same H H' → H' p = some (.lst (List.map V.int ns)) → TiesOf N a b ns → Q (.ref p) H'
def t_ties_on (K : PySem.W.Frag) : TS :=
  (tSeq (tAsg (tVar 1) (gTup K 2 (gCons (gName 2) (gCons (gName 3) gNil))))
    (tSeq (tAsg (tLst tNil) (gName 4))
    (tSeq (tIfS (tTest (tOp rEq (tOp (rIxT K) (tVar 0) (tC (.int 0))) (tC (.str (Str.ofString "line"))))) (tRet (tLstRg (tRg2 (tCB rMin2 (tCons (tVar 2) (tCons (tVar 3) tNil))) (tCB rMax2 (tCons (tVar 2) (tCons (tVar 3) tNil)))))) tNext)
    (tSeq (tWhile (tTest (tOp rNe (tVar 2) (tVar 3)))
      (tIfS (tTest (tOp rEq (tOp (rIxT K) (tVar 0) (tC (.int 0))) (tC (.str (Str.ofString "ring"))))) (tSeq (tDrop (tBM K "list" rAppend (tVar 4) (tCons (tVar 2) tNil)))
    (tAsg (tOp xMod (tOp xAdd (tVar 2) (tC (.int 1))) (tOp (rIxT K) (tVar 0) (tC (.int 1)))) (gName 2))) (tIfS (tTest (tOp xGt (tVar 2) (tVar 3))) (tSeq (tDrop (tBM K "list" rAppend (tVar 4) (tCons (tOp xSub (tVar 2) (tC (.int 1))) tNil)))
    (tAsg (tOp (rIxL K) (tOp (rIxT K) (tVar 0) (tC (.int 1))) (tOp xSub (tVar 2) (tC (.int 1)))) (gName 2))) (tSeq (tDrop (tBM K "list" rAppend (tVar 4) (tCons (tOp xSub (tVar 3) (tC (.int 1))) tNil)))
    (tAsg (tOp (rIxL K) (tOp (rIxT K) (tVar 0) (tC (.int 1))) (tOp xSub (tVar 3) (tC (.int 1)))) (gName 3))))))
    (tRet (tCB (rSortedI K) (tCons (tVar 4) tNil)))))))
def Net.far2 (N : Net) (a b a' b' : Int) (fs : List Int) (m : Nat) : Prop := match N with
  | .line _ => True
  | .ring n => (m : Int) = up n a' b' ∧ (fs.length : Int) + m = up n a b
  | .tree _ => (m : Int) = a' + b' ∧ (fs.length : Int) + m ≤ a + b
theorem pure_ties_on {v0 v1 : V} {H : Hp} {Q : VK} {E : XK} (h : pr_ties_on K v0 v1 H Q E) : t_ties_on K ⟨fun _ H' => Q .non H', Q, fun _ _ => False, fun _ _ => False⟩ [some v0, some v1, none, none, none] H := by
  obtain ⟨N, a, b, hd, hw, ok, ⟨w1, w2, w3, w4, w5⟩, q⟩ := h
  obtain ⟨c, y, rfl, hs, hy⟩ := dp_net hd
  obtain ⟨p, rfl, hp⟩ := dp_pair hw
  unfold t_ties_on
  wtm_at "s"
  refine ⟨sz (by simp), fun fo nfo => ?_⟩
  have s1 := same_new (o := .lst []) nfo
  have e1 : upd H fo (.lst []) fo = some (.lst (List.map V.int [])) := upd_same
  generalize upd H fo (.lst []) = H1 at s1 e1 ⊢
  wtm_at "s"
  refine k_eqS ?_
  have loop : ∀ (nx : L2.St → Hp → Prop) (bk ct : L2.St → Hp → Prop), (match N with | .line _ => False | _ => True) → ∀ (W : Nat → L2.St → Hp → Prop), True := fun _ _ _ _ _ => trivial
  cases N with
  | line n =>
    obtain rfl := dp_int hy
    rw [show Net.kind (.line n) = Str.ofString "line" from rfl, s_same]
    obtain ⟨o1, o2⟩ := ok
    have w4' : a < n := w4
    have w5' : b < n := w5
    wtm_at "s"
    have hmn : (if b < a then b else a) = min a b := by split <;> omega
    have hmx : (if b > a then b else a) = max a b := by split <;> omega
    rw [hmn, hmx]
    refine ⟨.of_le (by omega) (by omega) (by omega) (by omega), fun l nl => ?_⟩
    refine q l ((List.range (max a b - min a b).toNat).map fun i => min a b + (i : Nat)) _ (s1.free nl) (s1.trans (same_new nl)) (by rw [upd_same, rg_ints]) ⟨?_, fun t => ?_, ?_⟩
    · exact List.pairwise_map.mpr (List.pairwise_lt_range.imp fun h => by omega)
    · show _ ↔ min a b ≤ t ∧ t < max a b
      rw [List.mem_map]
      constructor
      · rintro ⟨i, hi, rfl⟩
        have := List.mem_range.mp hi
        omega
      · intro h
        exact ⟨(t - min a b).toNat, List.mem_range.mpr (by omega), by omega⟩
    · show ((List.map _ _).length : Int) = max a b - min a b
      rw [List.length_map, List.length_range]
      omega
  | ring n =>
    obtain rfl := dp_int hy
    rw [show Net.kind (.ring n) = Str.ofString "ring" from rfl] at hs ⊢
    rw [s_rl]
    obtain ⟨o1, o2⟩ := ok
    have w4' : a < n := w4
    have w5' : b < n := w5
    have u0 := up_nonneg w2 w4' w3 w5'
    wtm_at "s"
    refine ⟨fun m σ' H' => ∃ a' fs, σ' = [some (.ref c), some (.ref p), some (.int a'), some (.int b), some (.ref fo)] ∧ Same H H' ∧ H' fo = some (.lst (List.map V.int fs)) ∧ 0 ≤ a' ∧ a' < n ∧ fs.Nodup ∧ (m : Int) = up n a' b ∧ (fs.length : Int) + m = up n a b ∧
      (∀ t, OnTie (.ring n) a b t ↔ t ∈ fs ∨ OnTie (.ring n) a' b t) ∧ (∀ t, t ∈ fs → ¬ OnTie (.ring n) a' b t),
      ⟨(up n a b).toNat, a, [], rfl, s1, e1, w2, w4', List.nodup_nil, by omega, by simp; omega, fun t => by simp, fun t z => by cases z⟩, ?_⟩
    rintro m σ' H' ⟨a', fs, rfl, sm, hf, a0, a1, nd, hm, hfl, ht, hn⟩
    wtm_at "s"
    refine k_itn (fun c1 => ?_) (fun c1 => ?_)
    · obtain ⟨f1, f2, f3, f4, f5⟩ := ring_far a0 a1 w3 w5' c1
      have uab : up n a b < n := by unfold up; split <;> omega
      refine ⟨fun σ' H' => ∃ fs', σ' = [some (.ref c), some (.ref p), some (.int ((a' + 1) % n)), some (.int b), some (.ref fo)] ∧ Same H H' ∧ H' fo = some (.lst (List.map V.int fs')) ∧ fs'.Nodup ∧ (fs'.length : Int) + (m - 1 : Nat) = up n a b ∧
        (∀ t, OnTie (.ring n) a b t ↔ t ∈ fs' ∨ OnTie (.ring n) ((a' + 1) % n) b t) ∧ (∀ t, t ∈ fs' → ¬ OnTie (.ring n) ((a' + 1) % n) b t), fun σ' H' ⟨fs', e, g1, g2, g3, g4, g5, g6⟩ => ⟨m - 1, by omega, _, fs', e, g1, g2, f2, f3, g3, by omega, g4, g5, g6⟩, ?_⟩
      have hs' : SqT K H' c [.str (Str.ofString "ring"), .int n] := same_seqT sm hs
      wtm_at "s"
      refine k_eqS ?_
      rw [s_same]
      wtm_at "s"
      refine k_tyL (sl hf) ?_
      wtm_at "s"
      refine k_append hf (by rw [List.length_map]; omega) ?_
      have hs2 : SqT K (upd H' fo (.lst (List.map V.int fs ++ [.int a']))) c [.str (Str.ofString "ring"), .int n] := same_seqT (same_mut sm nfo) hs
      wtm_at "s"
      refine ⟨fs ++ [a'], rfl, same_mut sm nfo, by rw [upd_same, List.map_append]; rfl, ?_, ?_, fun t => ?_, fun t z => ?_⟩
      · refine List.nodup_append.mpr ⟨nd, by simp, fun x hx y hy e => ?_⟩
        have : y = a' := by simpa using hy
        subst this; subst e
        exact hn x hx ⟨a0, a1, by rw [up_self]; exact f4⟩
      · rw [List.length_append]; show ((fs.length + 1 : Nat) : Int) + _ = _; omega
      · rw [ht t, List.mem_append]
        show t ∈ fs ∨ (0 ≤ t ∧ t < n ∧ up n a' t < up n a' b) ↔ (t ∈ fs ∨ t ∈ [a']) ∨ (0 ≤ t ∧ t < n ∧ _)
        by_cases r : 0 ≤ t ∧ t < n
        · have st := (ring_step a0 a1 w3 w5' c1 r.1 r.2).1
          simp only [r.1, r.2, true_and, List.mem_singleton, st, or_assoc]
        · have : t ≠ a' := fun e => r (by omega)
          constructor
          · rintro (h | h)
            · exact .inl (.inl h)
            · exact absurd ⟨h.1, h.2.1⟩ r
          · rintro ((h | h) | h)
            · exact .inl h
            · exact absurd (by simpa using h) this
            · exact absurd ⟨h.1, h.2.1⟩ r
      · rcases List.mem_append.mp z with z | z
        · intro o
          obtain ⟨o1, o2, o3⟩ := o
          exact hn t z ⟨o1, o2, (ring_step a0 a1 w3 w5' c1 o1 o2).1.mpr (.inr o3)⟩
        · have e : t = a' := by simpa using z
          intro o
          obtain ⟨o1, o2, o3⟩ := o
          exact (ring_step a0 a1 w3 w5' c1 o1 o2).2 e o3
    · subst c1
      rw [up_self] at hm
      wtm_at "s"
      refine k_sortedI (sl hf) (fun ns l pm srt nl => ?_)
      refine q l ns _ (sm.free nl) (sm.trans (same_new nl)) upd_same ⟨srt_of nd pm srt, fun t => ?_, ?_⟩
      · rw [pm.mem_iff, ht t]
        constructor
        · exact .inl
        · rintro (h | h)
          · exact h
          · obtain ⟨_, _, h⟩ := h
            rw [up_self] at h
            have := up_nonneg a0 a1 (b := t) (by assumption) (by assumption)
            omega
      · show (ns.length : Int) = up n a a'
        rw [pm.length_eq]; omega
  | tree ps =>
    obtain ⟨d, rfl, hdl⟩ := dp_ints hy
    rw [show Net.kind (.tree ps) = Str.ofString "tree" from rfl] at hs ⊢
    rw [s_tl]
    have w4' : a < ps.length + 1 := w4
    have w5' : b < ps.length + 1 := w5
    have l60 := ok.2.1
    wtm_at "s"
    refine ⟨fun m σ' H' => ∃ a' b' fs, σ' = [some (.ref c), some (.ref p), some (.int a'), some (.int b'), some (.ref fo)] ∧ Same H H' ∧ H' fo = some (.lst (List.map V.int fs)) ∧ 0 ≤ a' ∧ a' < ps.length + 1 ∧ 0 ≤ b' ∧ b' < ps.length + 1 ∧ fs.Nodup ∧ (m : Int) = a' + b' ∧ (fs.length : Int) + m ≤ a + b ∧
      (∀ t, OnTie (.tree ps) a b t ↔ t ∈ fs ∨ OnTie (.tree ps) a' b' t) ∧ (∀ t, t ∈ fs → ¬ OnTie (.tree ps) a' b' t),
      ⟨(a + b).toNat, a, b, [], rfl, s1, e1, w2, w4', w3, w5', List.nodup_nil, by omega, by simp; omega, fun t => by simp, fun t z => by cases z⟩, ?_⟩
    rintro m σ' H' ⟨a', b', fs, rfl, sm, hf, a0, a1, b0, b1, nd, hm, hfl, ht, hn⟩
    wtm_at "s"
    refine k_itn (fun c1 => ?_) (fun c1 => ?_)
    · refine ⟨fun σ' H' => ∃ m' a2 b2 fs', m' < m ∧ σ' = [some (.ref c), some (.ref p), some (.int a2), some (.int b2), some (.ref fo)] ∧ Same H H' ∧ H' fo = some (.lst (List.map V.int fs')) ∧ 0 ≤ a2 ∧ a2 < ps.length + 1 ∧ 0 ≤ b2 ∧ b2 < ps.length + 1 ∧ fs'.Nodup ∧ (m' : Int) = a2 + b2 ∧ (fs'.length : Int) + m' ≤ a + b ∧
        (∀ t, OnTie (.tree ps) a b t ↔ t ∈ fs' ∨ OnTie (.tree ps) a2 b2 t) ∧ (∀ t, t ∈ fs' → ¬ OnTie (.tree ps) a2 b2 t), fun σ' H' ⟨m', a2, b2, fs', l, r⟩ => ⟨m', l, a2, b2, fs', r⟩, ?_⟩
      have hs' : SqT K H' c [.str (Str.ofString "tree"), .ref d] := same_seqT sm hs
      wtm_at "s"
      refine k_eqS ?_
      rw [s_tr]
      wtm_at "s"
      refine k_it (fun c2 => ?_) (fun c2 => ?_)
      · have hpa := ok.2.2 (a' - 1).toNat (by omega)
        wtm_at "s"
        refine k_tyL (sl hf) ?_
        wtm_at "s"
        refine k_append hf (by rw [List.length_map]; omega) ?_
        have sm2 : Same H (upd H' fo (.lst (List.map V.int fs ++ [.int (a' - 1)]))) := same_mut sm nfo
        have hs2 : SqT K (upd H' fo (.lst (List.map V.int fs ++ [.int (a' - 1)]))) c [.str (Str.ofString "tree"), .ref d] := same_seqT sm2 hs
        wtm_at "s"
        refine k_ixI (sm2.seq hdl) (by omega) (by omega) ?_
        wtm_at "s"
        refine ⟨(ps.getD (a' - 1).toNat 0 + b').toNat, _, _, fs ++ [a' - 1], by omega, rfl, sm2, by rw [upd_same, List.map_append]; rfl, by omega, by omega, b0, b1, ?_, by omega, ?_, fun t => ?_, fun t z => ?_⟩
        · refine List.nodup_append.mpr ⟨nd, by simp, fun x hx y hy e => ?_⟩
          have : y = a' - 1 := by simpa using hy
          subst this; subst e
          exact hn _ hx ⟨by omega, by omega, (tree_step ok a0 a1 b0 c2 (by omega)).1.mpr (.inl rfl)⟩
        · rw [List.length_append]; show ((fs.length + 1 : Nat) : Int) + _ ≤ _; omega
        · rw [ht t, List.mem_append]
          show t ∈ fs ∨ (0 ≤ t ∧ t < ps.length ∧ _) ↔ (t ∈ fs ∨ t ∈ [a' - 1]) ∨ (0 ≤ t ∧ t < ps.length ∧ _)
          by_cases r : 0 ≤ t ∧ t < ps.length
          · have st := (tree_step ok a0 a1 b0 c2 r.1).1
            simp only [r.1, r.2, true_and, List.mem_singleton, st, or_assoc]
          · have : t ≠ a' - 1 := fun e => r (by omega)
            constructor
            · rintro (h | h)
              · exact .inl (.inl h)
              · exact absurd ⟨h.1, h.2.1⟩ r
            · rintro ((h | h) | h)
              · exact .inl h
              · exact absurd (by simpa using h) this
              · exact absurd ⟨h.1, h.2.1⟩ r
        · rcases List.mem_append.mp z with z | z
          · rintro ⟨o1, o2, o3⟩
            exact hn t z ⟨o1, o2, (tree_step ok a0 a1 b0 c2 o1).1.mpr (.inr o3)⟩
          · have e : t = a' - 1 := by simpa using z
            rintro ⟨o1, o2, o3⟩
            exact (tree_step ok a0 a1 b0 c2 o1).2 e o3
      · have c3 : a' < b' := by omega
        have hpb := ok.2.2 (b' - 1).toNat (by omega)
        have sym : ∀ u v t, OnTie (.tree ps) u v t ↔ OnTie (.tree ps) v u t := fun u v t => by
          show (_ ∧ _ ∧ _ ≠ _) ↔ (_ ∧ _ ∧ _ ≠ _)
          constructor
          · rintro ⟨x1, x2, x3⟩; exact ⟨x1, x2, x3.symm⟩
          · rintro ⟨x1, x2, x3⟩; exact ⟨x1, x2, x3.symm⟩
        wtm_at "s"
        refine k_tyL (sl hf) ?_
        wtm_at "s"
        refine k_append hf (by rw [List.length_map]; omega) ?_
        have sm2 : Same H (upd H' fo (.lst (List.map V.int fs ++ [.int (b' - 1)]))) := same_mut sm nfo
        have hs2 : SqT K (upd H' fo (.lst (List.map V.int fs ++ [.int (b' - 1)]))) c [.str (Str.ofString "tree"), .ref d] := same_seqT sm2 hs
        wtm_at "s"
        refine k_ixI (sm2.seq hdl) (by omega) (by omega) ?_
        wtm_at "s"
        refine ⟨(a' + ps.getD (b' - 1).toNat 0).toNat, _, _, fs ++ [b' - 1], by omega, rfl, sm2, by rw [upd_same, List.map_append]; rfl, a0, a1, by omega, by omega, ?_, by omega, ?_, fun t => ?_, fun t z => ?_⟩
        · refine List.nodup_append.mpr ⟨nd, by simp, fun x hx y hy e => ?_⟩
          have : y = b' - 1 := by simpa using hy
          subst this; subst e
          exact hn _ hx ((sym _ _ _).mpr ⟨by omega, by omega, (tree_step ok b0 b1 a0 c3 (by omega)).1.mpr (.inl rfl)⟩)
        · rw [List.length_append]; show ((fs.length + 1 : Nat) : Int) + _ ≤ _; omega
        · rw [ht t, List.mem_append, sym a' b', sym a' (ps.getD (b' - 1).toNat 0)]
          show t ∈ fs ∨ (0 ≤ t ∧ t < ps.length ∧ _) ↔ (t ∈ fs ∨ t ∈ [b' - 1]) ∨ (0 ≤ t ∧ t < ps.length ∧ _)
          by_cases r : 0 ≤ t ∧ t < ps.length
          · have st := (tree_step ok b0 b1 a0 c3 r.1).1
            simp only [r.1, r.2, true_and, List.mem_singleton, st, or_assoc]
          · have : t ≠ b' - 1 := fun e => r (by omega)
            constructor
            · rintro (h | h)
              · exact .inl (.inl h)
              · exact absurd ⟨h.1, h.2.1⟩ r
            · rintro ((h | h) | h)
              · exact .inl h
              · exact absurd (by simpa using h) this
              · exact absurd ⟨h.1, h.2.1⟩ r
        · rw [sym]
          rcases List.mem_append.mp z with z | z
          · rintro ⟨o1, o2, o3⟩
            exact hn t z ((sym _ _ _).mpr ⟨o1, o2, (tree_step ok b0 b1 a0 c3 o1).1.mpr (.inr o3)⟩)
          · have e : t = b' - 1 := by simpa using z
            rintro ⟨o1, o2, o3⟩
            exact (tree_step ok b0 b1 a0 c3 o1).2 e o3
    · subst c1
      wtm_at "s"
      refine k_sortedI (sl hf) (fun ns l pm srt nl => ?_)
      refine q l ns _ (sm.free nl) (sm.trans (same_new nl)) upd_same ⟨srt_of nd pm srt, fun t => ?_, ?_⟩
      · rw [pm.mem_iff, ht t]
        constructor
        · exact .inl
        · rintro (h | h)
          · exact h
          · exact absurd rfl h.2.2
      · show ns.length < 120
        rw [pm.length_eq]; omega
abbrev sp_ties_on (K : PySem.W.Frag) : Sp := fun vs H Q E => ∃ v0 v1, vs = [v0, v1] ∧ pr_ties_on K v0 v1 H Q E
theorem ok_ties_on (T : Txt K mg A) : FnOk P w K mg base CX0 1 A.a_ties_on A.d_ties_on ["net", "way"] (sp_ties_on K) := by
  refine T.F_ties_on.ok sc_ties_on (fun vs H Q E h => by obtain ⟨v0, v1, rfl, _⟩ := h; rfl) (fun cdv A0 outer s H vs Q E hr h => ?_)
  obtain ⟨v0, v1, rfl, h⟩ := h
  exact ⟨t_ties_on K, (pss_cons (ps_asg (pv 1) (pg_tup (by rfl) (pgs_cons (pg_name (i := 2) sc_ties_on.nd rfl (Or.inl rfl)) (pgs_cons (pg_name (i := 3) sc_ties_on.nd rfl (Or.inl rfl)) pgs_nil))))
      (pss_cons (ps_set (i := 4) sc_ties_on.nd rfl (Or.inl rfl) (pe_lst pa_nil))
      (pss_cons (ps_if (pt_cmpR op_eq (pe_ix ix_tup (pv 0) pe_int (fun _ _ => rfl)) pe_str (nomark _)) (pss_one (ps_ret (pe_listRg (by rfl) (by rfl) T.z_list (prg_2 (by rfl) T.z_range (pe_callB (q_min2 (by rfl)) (by rfl) T.z_min (by decide +kernel) (pa_cons (pv 2) (pa_cons (pv 3) pa_nil))) (pe_callB (q_max2 (by rfl)) (by rfl) T.z_max (by decide +kernel) (pa_cons (pv 2) (pa_cons (pv 3) pa_nil))))))) pss_nil)
      (pss_cons (ps_while PassesOwn.never (pt_cmpR op_ne (pv 2) (pv 3) (nomark _))
      (pss_one (ps_if (pt_cmpR op_eq (pe_ix ix_tup (pv 0) pe_int (fun _ _ => rfl)) pe_str (nomark _)) (pss_cons (ps_expr (pe_bm PySem.F.plainAttrs_list PySem.F.slot_list_append PySem.F.type_list_append mt_append (pv 4) (pa_cons (pv 2) pa_nil)))
      (pss_one (ps_set (i := 2) sc_ties_on.nd rfl (Or.inl rfl) (pe_op op_mod (pe_op op_add (pv 2) pe_int) (pe_ix ix_tup (pv 0) pe_int (fun _ _ => rfl)))))) (pss_one (ps_if (pt_cmpR op_gt (pv 2) (pv 3) (nomark _)) (pss_cons (ps_expr (pe_bm PySem.F.plainAttrs_list PySem.F.slot_list_append PySem.F.type_list_append mt_append (pv 4) (pa_cons (pe_op op_sub (pv 2) pe_int) pa_nil)))
      (pss_one (ps_set (i := 2) sc_ties_on.nd rfl (Or.inl rfl) (pe_ix ix_list (pe_ix ix_tup (pv 0) pe_int (fun _ _ => rfl)) (pe_op op_sub (pv 2) pe_int) (fun _ _ => rfl))))) (pss_cons (ps_expr (pe_bm PySem.F.plainAttrs_list PySem.F.slot_list_append PySem.F.type_list_append mt_append (pv 4) (pa_cons (pe_op op_sub (pv 3) pe_int) pa_nil)))
      (pss_one (ps_set (i := 3) sc_ties_on.nd rfl (Or.inl rfl) (pe_ix ix_list (pe_ix ix_tup (pv 0) pe_int (fun _ _ => rfl)) (pe_op op_sub (pv 3) pe_int) (fun _ _ => rfl))))))))))
      (pss_one (ps_ret (pe_callB cr_sortedI (by rfl) T.z_sorted (by decide +kernel) (pa_cons (pv 4) pa_nil)))))))), pure_ties_on h⟩


theorem ok_init_NoWay (T : Txt K mg A) : FnOk P w K mg base CX0 1 A.i_NoWay A.di_NoWay ["self", "at"] (spInit A.c_NoWay (Str.ofString "at")) := by
  refine T.Fi_NoWay.ok sc_init_NoWay (fun vs H Q E h => by obtain ⟨v0, v1, rfl, _⟩ := h; rfl) (fun cdv A0 outer s H vs Q E hr h => ?_)
  obtain ⟨v0, v1, rfl, h⟩ := h
  exact ⟨_, pss_cons (ps_expr (pe_binit T.base_ (by rfl) (pa_cons (pv 0) (pa_cons pe_str pa_nil)))) (pss_one (ps_ost (pv 0) (pv 1))), init_reads (B := A.c_TieError) T.o_NoWay T.nf_NoWay h⟩
theorem ok_init_NoHues (T : Txt K mg A) : FnOk P w K mg base CX0 1 A.i_NoHues A.di_NoHues ["self", "place"] (spInit A.c_NoHues (Str.ofString "place")) := by
  refine T.Fi_NoHues.ok sc_init_NoHues (fun vs H Q E h => by obtain ⟨v0, v1, rfl, _⟩ := h; rfl) (fun cdv A0 outer s H vs Q E hr h => ?_)
  obtain ⟨v0, v1, rfl, h⟩ := h
  exact ⟨_, pss_cons (ps_expr (pe_binit T.base_ (by rfl) (pa_cons (pv 0) (pa_cons pe_str pa_nil)))) (pss_one (ps_ost (pv 0) (pv 1))), init_reads (B := A.c_TieError) T.o_NoHues T.nf_NoHues h⟩
theorem ok_init_NoText (T : Txt K mg A) : FnOk P w K mg base CX0 1 A.i_NoText A.di_NoText ["self", "row"] (spInit A.c_NoText (Str.ofString "row")) := by
  refine T.Fi_NoText.ok sc_init_NoText (fun vs H Q E h => by obtain ⟨v0, v1, rfl, _⟩ := h; rfl) (fun cdv A0 outer s H vs Q E hr h => ?_)
  obtain ⟨v0, v1, rfl, h⟩ := h
  exact ⟨_, pss_cons (ps_expr (pe_binit T.base_ (by rfl) (pa_cons (pv 0) (pa_cons pe_str pa_nil)))) (pss_one (ps_ost (pv 0) (pv 1))), init_reads (B := A.c_TieError) T.o_NoText T.nf_NoText h⟩
/-- the first of ws that is no way -/
def FirstBad (N : Net) (ws : List (Int × Int)) (i : Nat) : Prop := ∃ w, ws[i]? = some w ∧ ¬ isWay N w.1 w.2 ∧ ∀ j v, j < i → ws[j]? = some v → isWay N v.1 v.2
theorem no_bad {N : Net} {ws : List (Int × Int)} {i : Nat} (h : ∀ w ∈ ws, isWay N w.1 w.2) : ¬ FirstBad N ws i := fun ⟨w, h1, h2, _⟩ => h2 (h w (List.mem_of_getElem? h1))
theorem bad_one {N : Net} {ws : List (Int × Int)} {i j : Nat} (h1 : FirstBad N ws i) (h2 : FirstBad N ws j) : i = j := by
  obtain ⟨w1, x1, x2, x3⟩ := h1
  obtain ⟨w2, y1, y2, y3⟩ := h2
  by_cases c1 : i < j
  · exact absurd (y3 i w1 c1 x1) x2
  · by_cases c2 : j < i
    · exact absurd (x3 j w2 c2 y1) y2
    · omega
theorem bad_mid {N : Net} {ws vs : List (Int × Int)} {b : Int × Int} (h : ∀ w ∈ ws, isWay N w.1 w.2) (hb : ¬ isWay N b.1 b.2) : FirstBad N (ws ++ [b] ++ vs) ws.length := by
  refine ⟨b, by simp, hb, fun j v hj hv => ?_⟩
  rw [List.append_assoc, List.getElem?_append_left hj] at hv
  exact h v (List.mem_of_getElem? hv)
def pr_must_be_ways (K : PySem.W.Frag) (A : Ad) (v0 v1 : V) (H : Hp) (Q : VK) (E : XK) : Prop := ∃ (N : Net) (ws : List (Int × Int)), Dp K H v0 N.d ∧ Dp K H v1 (dPairs ws) ∧ ws.length ≤ 10000 ∧ ((∀ w ∈ ws, isWay N w.1 w.2) → Q .non H) ∧
  (∀ i, FirstBad N ws i → ∀ d, H d = none → E (.ref A.c_NoWay) (some d) (upd H d (.xd [(Str.ofString "at", .int i)])))
def t_must_be_ways (K : PySem.W.Frag) (A : Ad) (E : XK) : TS :=
  (tFor (iRng1 (tCons (tCB (rLenX K) (tCons (tVar 1) tNil)) tNil)) (gName 2)
      (tIfS (tNot (tB (tCall (sp_is_way K) [] E0 (tCons (tVar 0) (tCons (tOp (rIxL K) (tVar 1) (tVar 2)) tNil))))) (tRaiseO A.c_NoWay (spInit A.c_NoWay (Str.ofString "at")) (tCons (tVar 2) tNil) E) tNext))
theorem pure_must_be_ways {v0 v1 : V} {H : Hp} {Q : VK} {E : XK} (h : pr_must_be_ways K A v0 v1 H Q E) : t_must_be_ways K A E ⟨fun _ H' => Q .non H', Q, fun _ _ => False, fun _ _ => False⟩ [some v0, some v1, none] H := by
  obtain ⟨N, ws, hd, hw, hz, q, qx⟩ := h
  obtain ⟨b, xs, rfl, hb, hxs⟩ := dp_list hw
  have hl := dpa_len hxs
  rw [List.length_map] at hl
  unfold t_must_be_ways
  wtm_at "s"
  rw [hl]
  refine forR (fun i σ' H' => H' = H ∧ (∃ k, σ' = [some v0, some (.ref b), k]) ∧ ∀ (j : Nat) v, j < i → ws[j]? = some v → isWay N v.1 v.2) ⟨rfl, ⟨none, rfl⟩, fun j v hj => absurd hj (by omega)⟩ ?_ (fun σ' H' ⟨e, _, a⟩ => e ▸ q (fun w hw => by
    obtain ⟨j, hj, e⟩ := List.getElem_of_mem hw
    exact a j w (by simpa using hj) (by rw [List.getElem?_eq_getElem hj, e])))
  rintro i σ' H' hi ⟨rfl, ⟨k, rfl⟩, al⟩
  have hi' : i < xs.length := by omega
  obtain ⟨x, hx⟩ : ∃ x, xs[i]? = some x := ⟨xs[i], List.getElem?_eq_getElem hi'⟩
  obtain ⟨d, hd1, hd2⟩ := dpa_get hxs hx
  rw [List.getElem?_map] at hd1
  obtain ⟨w, hw1, rfl⟩ := Option.map_eq_some_iff.mp hd1
  wtm_at "s"
  refine k_ixL hb (by rw [Int.zero_add]; exact atI_nat hx) ?_
  wtm_at "s"
  refine ⟨_, _, rfl, N, w.1, w.2, hd, hd2, ?_⟩
  wtm_at "s"
  refine k_itn (fun c => ?_) (fun c => ?_)
  · refine k_raiseO (f := Str.ofString "at") (v := .int (0 + (i : Nat))) (fun R h => ?_) (fun d nd => ?_)
    · wtm_at "s"; exact h
    · rw [Int.zero_add]; exact qx i ⟨w, hw1, c, fun j v hj => al j v hj⟩ d nd
  · wtm_at "s"
    refine ⟨rfl, ⟨_, rfl⟩, fun j v hj hv => ?_⟩
    by_cases e : j = i
    · subst e; rw [hw1] at hv; cases hv; exact c
    · exact al j v (by omega) hv
abbrev sp_must_be_ways (K : PySem.W.Frag) (A : Ad) : Sp := fun vs H Q E => ∃ v0 v1, vs = [v0, v1] ∧ pr_must_be_ways K A v0 v1 H Q E
theorem ok_must_be_ways (T : Txt K mg A) : FnOk P w K mg base (L2.CX P w) 3 A.a_must_be_ways A.d_must_be_ways ["net", "ways"] (sp_must_be_ways K A) := by
  refine T.F_must_be_ways.okX sc_must_be_ways (fun vs H Q E h => by obtain ⟨v0, v1, rfl, _⟩ := h; rfl) (fun cdv A0 outer s H vs Q E hr h => ?_)
  obtain ⟨v0, v1, rfl, h⟩ := h
  exact ⟨t_must_be_ways K A E, (pss_one (ps_for (passes_of rfl) rfl (pi_range1 (by rfl) T.z_range (pa_cons (pe_callB q_len (by rfl) T.z_len (by decide +kernel) (pa_cons (pv 1) pa_nil)) pa_nil)) (pg_name (i := 2) sc_must_be_ways.nd rfl (Or.inl rfl))
      (pss_one (ps_if (pt_not (pt_val (pe_call (ok_is_way T) (hr.mono (by decide)) (by rfl) T.g_is_way T.F_is_way.kp T.b_is_way .nil pass0 (pa_cons (pv 0) (pa_cons (pe_ix ix_list (pv 1) (pv 2) (fun _ _ => rfl)) pa_nil))))) (pss_one (ps_raise rfl (takes_of rfl rfl rfl rfl) (pmk_oex T.o_NoWay T.in_NoWay T.ti_NoWay (ok_init_NoWay T) (hr.mono (by decide)) T.bi_NoWay .nil pass0 (by rfl) T.k_NoWay (pa_cons (pv 2) pa_nil)))) pss_nil)))), pure_must_be_ways h⟩
def pr_look_ways (K : PySem.W.Frag) (A : Ad) (v0 v1 : V) (H : Hp) (Q : VK) (E : XK) : Prop := ∃ (M : ANet) (ws : List (Int × Int)), Dp K H v0 M.d ∧ M.lens ∧ Dp K H v1 (dPairs ws) ∧ ws.length ≤ 10000 ∧ (¬ M.ok → E (.ref A.c_NoNet) none H) ∧
  ∀ N : Net, M = N.a → N.ok → ((∀ w ∈ ws, isWay N w.1 w.2) → Q .non H) ∧ (∀ i, FirstBad N ws i → ∀ d, H d = none → E (.ref A.c_NoWay) (some d) (upd H d (.xd [(Str.ofString "at", .int i)])))
def t_look_ways (K : PySem.W.Frag) (A : Ad) (E : XK) : TS :=
  (tSeq (tDrop (tCall (sp_look_net K A) [] E (tCons (tVar 0) tNil)))
    (tDrop (tCall (sp_must_be_ways K A) [] E (tCons (tVar 0) (tCons (tVar 1) tNil)))))
theorem pure_look_ways {v0 v1 : V} {H : Hp} {Q : VK} {E : XK} (h : pr_look_ways K A v0 v1 H Q E) : t_look_ways K A E ⟨fun _ H' => Q .non H', Q, fun _ _ => False, fun _ _ => False⟩ [some v0, some v1] H := by
  obtain ⟨M, ws, hd, hlen, hw, hz, q0, q1⟩ := h
  unfold t_look_ways
  wtm_at "s"
  by_cases c : M.ok
  · refine ⟨_, rfl, M, hd, hlen, .inr ⟨c, ?_⟩⟩
    obtain ⟨N, rfl, ok⟩ := c
    obtain ⟨q, qx⟩ := q1 N rfl ok
    wtm_at "s"
    rw [a_d] at hd
    exact ⟨_, _, rfl, N, ws, hd, hw, hz, q, qx⟩
  · exact ⟨_, rfl, M, hd, hlen, .inl ⟨c, q0 c⟩⟩
abbrev sp_look_ways (K : PySem.W.Frag) (A : Ad) : Sp := fun vs H Q E => ∃ v0 v1, vs = [v0, v1] ∧ pr_look_ways K A v0 v1 H Q E
theorem ok_look_ways (T : Txt K mg A) : FnOk P w K mg base (L2.CX P w) 4 A.a_look_ways A.d_look_ways ["net", "ways"] (sp_look_ways K A) := by
  refine T.F_look_ways.okX sc_look_ways (fun vs H Q E h => by obtain ⟨v0, v1, rfl, _⟩ := h; rfl) (fun cdv A0 outer s H vs Q E hr h => ?_)
  obtain ⟨v0, v1, rfl, h⟩ := h
  exact ⟨t_look_ways K A E, (pss_cons (ps_expr (pe_call (E := E) (ok_look_net T) (hr.mono (by decide)) (by rfl) T.g_look_net T.F_look_net.kp T.b_look_net .nil (passes_call (takes_of rfl rfl rfl rfl) (fun _ _ _ _ h => h)) (pa_cons (pv 0) pa_nil)))
      (pss_one (ps_expr (pe_call (E := E) (ok_must_be_ways T) (hr.mono (by decide)) (by rfl) T.g_must_be_ways T.F_must_be_ways.kp T.b_must_be_ways .nil (passes_call (takes_of rfl rfl rfl rfl) (fun _ _ _ _ h => h)) (pa_cons (pv 0) (pa_cons (pv 1) pa_nil)))))), pure_look_ways h⟩
theorem a_inj {N M : Net} (e : N.a = M.a) : N = M := by
  cases N <;> cases M <;> first
    | exact absurd (congrArg ANet.kd e) (sne s_lr)
    | exact absurd (congrArg ANet.kd e) (sne s_rl)
    | (cases congrArg ANet.sz e; rfl)
    | (cases congrArg ANet.sz e; done)
theorem lw_good {K : PySem.W.Frag} {A : Ad} {v0 v1 : V} {H : Hp} {Q : VK} {E : XK} {N : Net} {ws : List (Int × Int)} (hd : Dp K H v0 N.d) (ok : N.ok) (hw : Dp K H v1 (dPairs ws)) (hz : ws.length ≤ 10000) (hok : ∀ w ∈ ws, isWay N w.1 w.2) (q : Q .non H) : sp_look_ways K A [v0, v1] H Q E :=
  ⟨_, _, rfl, N.a, ws, (a_d N).symm ▸ hd, a_lens ok, hw, hz, fun c => absurd ⟨N, rfl, ok⟩ c, fun N' e _ => by
    obtain rfl := a_inj e
    exact ⟨fun _ => q, fun i fb => absurd fb (no_bad hok)⟩⟩


/-- two ways of one hue that meet, or a hue below 0 -/
def BadM (M : Nat → Nat → Prop) (n : Nat) (hs : List Int) (i j : Nat) : Prop := i ≤ j ∧ j < n ∧ if i = j then hs.getD i 0 < 0 else hs.getD i 0 = hs.getD j 0 ∧ M i j
def FirstM (M : Nat → Nat → Prop) (n : Nat) (hs : List Int) (i j : Nat) : Prop := BadM M n hs i j ∧ ∀ i' j', i' < i ∨ i' = i ∧ j' < j → ¬ BadM M n hs i' j'
def meetL (lain : List (List Int)) (i j : Nat) : Prop := ∃ t, t ∈ lain.getD i [] ∧ t ∈ lain.getD j []
def OutM (M : Nat → Nat → Prop) (n : Nat) (hs : List Int) (H : Hp) (Q : VK) : Prop := (hs.length ≠ n → ∀ p H', H p = none → Same H H' → H' p = some (.tup [.int (-1), .int (-1)]) → Q (.ref p) H') ∧
  (hs.length = n → (∀ i j, ¬ BadM M n hs i j) → ∀ H', Same H H' → Q .non H') ∧ (∀ i j, hs.length = n → FirstM M n hs i j → ∀ p H', H p = none → Same H H' → H' p = some (.tup [.int (i : Nat), .int (j : Nat)]) → Q (.ref p) H')
def pr_first_clash (K : PySem.W.Frag) (v0 v1 : V) (H : Hp) (Q : VK) (_ : XK) : Prop := ∃ (lain : List (List Int)) (hs : List Int) (M : Nat → Nat → Prop), Dp K H v0 (.list (lain.map dInts)) ∧ Dp K H v1 (dInts hs) ∧ lain.length ≤ 1000 ∧ (∀ l ∈ lain, l.length ≤ 1000) ∧
  (∀ i j, i < lain.length → j < lain.length → (meetL lain i j ↔ M i j)) ∧ OutM M lain.length hs H Q
def t_first_clash (K : PySem.W.Frag) : TS :=
  (tSeq (tIfS (tTest (tOp rNe (tCB (rLenX K) (tCons (tVar 1) tNil)) (tCB (rLenX K) (tCons (tVar 0) tNil)))) (tRet (tTup (tCons (tUn xNeg (tC (.int 1))) (tCons (tUn xNeg (tC (.int 1))) tNil)))) tNext)
    (tSeq (tFor (iRng1 (tCons (tCB (rLenX K) (tCons (tVar 0) tNil)) tNil)) (gName 2)
      (tSeq (tIfS (tTest (tOp xLt (tOp (rIxL K) (tVar 1) (tVar 2)) (tC (.int 0)))) (tRet (tTup (tCons (tVar 2) (tCons (tVar 2) tNil)))) tNext)
    (tFor (iRng2 (tCons (tOp xAdd (tVar 2) (tC (.int 1))) (tCons (tCB (rLenX K) (tCons (tVar 0) tNil)) tNil))) (gName 3)
      (tIfS (tAnd (tTest (tOp rEq (tOp (rIxL K) (tVar 1) (tVar 2)) (tOp (rIxL K) (tVar 1) (tVar 3)))) (tTest (tOp xGt (tCB (rLenX K) (tCons (tLc (iList K (tOp (rIxL K) (tVar 0) (tVar 2))) (gName 4) (tTest (tOp (rIn K false) (tVar 4) (tOp (rIxL K) (tVar 0) (tVar 3)))) (tVar 4) [4]) tNil)) (tC (.int 0))))) (tRet (tTup (tCons (tVar 2) (tCons (tVar 3) tNil)))) tNext))))
    (tRet (tC .non))))
theorem dlists_get {K : PySem.W.Frag} {H : Hp} {xs : List V} {ls : List (List Int)} {i : Nat} (hxs : DpAll K H xs (ls.map dInts)) (hi : i < ls.length) : ∃ c l, xs[i]? = some (.ref c) ∧ ls[i]? = some l ∧ SqL K H c (l.map V.int) := by
  have hl := dpa_len hxs
  rw [List.length_map] at hl
  have hx : xs[i]? = some (xs[i]'(by omega)) := List.getElem?_eq_getElem (by omega)
  obtain ⟨d, hd1, hd2⟩ := dpa_get hxs hx
  rw [List.getElem?_map] at hd1
  obtain ⟨l, h1, rfl⟩ := Option.map_eq_some_iff.mp hd1
  obtain ⟨c, e, h2⟩ := dp_ints hd2
  exact ⟨c, l, by rw [hx, e], h1, h2⟩
theorem getD_of {α : Type} {l : List α} {i : Nat} {x d : α} (h : l[i]? = some x) : l.getD i d = x := by rw [List.getD_eq_getElem?_getD, h]; rfl
theorem meet_fm (xs ys : List Int) : 0 < (xs.filterMap fun t => if t ∈ ys then some (V.int t) else none).length ↔ ∃ t, t ∈ xs ∧ t ∈ ys := by
  rw [List.length_pos_iff_exists_mem]
  constructor
  · rintro ⟨v, hv⟩
    obtain ⟨t, h1, h2⟩ := List.mem_filterMap.mp hv
    by_cases c : t ∈ ys
    · exact ⟨t, h1, c⟩
    · rw [if_neg c] at h2; cases h2
  · rintro ⟨t, h1, h2⟩
    exact ⟨.int t, List.mem_filterMap.mpr ⟨t, h1, by rw [if_pos h2]⟩⟩
theorem pure_first_clash {v0 v1 : V} {H : Hp} {Q : VK} {E : XK} (h : pr_first_clash K v0 v1 H Q E) : t_first_clash K ⟨fun _ H' => Q .non H', Q, fun _ _ => False, fun _ _ => False⟩ [some v0, some v1, none, none, none] H := by
  obtain ⟨lain, hs, M, hd, hh, n1, n2, hM, q0, q1, q2⟩ := h
  obtain ⟨b, xs, rfl, hb, hxs⟩ := dp_list hd
  obtain ⟨c, rfl, hc⟩ := dp_ints hh
  have hl := dpa_len hxs
  rw [List.length_map] at hl
  unfold t_first_clash
  wtm_at "s"
  refine k_itn (fun ne => ?_) (fun eq => ?_)
  · wtm_at "s"
    exact kT (by simp) (fun p H1 np s1 e1 => q0 (by omega) p H1 np s1 e1)
  have eq' : hs.length = lain.length := by omega
  clear eq q0 hh hd
  wtm_at "s"
  refine forR (fun i σ' H' => Same H H' ∧ (∃ k2 k3, σ' = [some (.ref b), some (.ref c), k2, k3, none]) ∧ ∀ i' j', i' < i → ¬ BadM M lain.length hs i' j') ⟨Same.refl _, ⟨none, none, rfl⟩, fun i' j' z => by omega⟩ ?_ ?_
  · rintro i σ' H1 hi ⟨s1, ⟨k2, k3, rfl⟩, no⟩
    rw [Int.zero_add]
    have hi' : i < lain.length := by omega
    obtain ⟨x, hx⟩ : ∃ x, hs[i]? = some x := ⟨hs[i], List.getElem?_eq_getElem (by omega)⟩
    obtain ⟨ci, li, hxi, hli, hci⟩ := dlists_get hxs hi'
    wtm_at "s"
    refine k_ixN (s1.seq hc) hx ?_
    wtm_at "s"
    refine k_it (fun neg => ?_) (fun pos => ?_)
    · wtm_at "s"
      refine kT (by simp) (fun p H2 np s2 e2 => q2 i i eq' ⟨⟨Nat.le_refl _, hi', by rw [if_pos rfl, getD_of hx]; exact neg⟩, fun i' j' z => ?_⟩ p H2 (s1.free np) (s1.trans s2) e2)
      rcases z with z | ⟨rfl, z⟩
      · exact no i' j' z
      · exact fun w => by have := w.1; omega
    · wtm_at "s"
      refine forR (fun t σ' H' => Same H H' ∧ (∃ k3, σ' = [some (.ref b), some (.ref c), some (.int (i : Nat)), k3, none]) ∧ ∀ j', j' < i + 1 + t → ¬ BadM M lain.length hs i j') ⟨s1, ⟨k3, rfl⟩, fun j' z w => ?_⟩ ?_ ?_
      · have e : i = j' := by have := w.1; omega
        subst e
        have := w.2.2
        rw [if_pos rfl, getD_of hx] at this
        exact pos this
      · rintro t σ' H2 ht ⟨s2, ⟨k3, rfl⟩, no2⟩
        rw [show (i : Int) + 1 + ((t : Nat) : Int) = ((i + 1 + t : Nat) : Int) by omega]
        have hj' : i + 1 + t < lain.length := by omega
        have step : ¬ BadM M lain.length hs i (i + 1 + t) → ∀ j', j' < i + 1 + (t + 1) → ¬ BadM M lain.length hs i j' := fun nb j' z => by
          by_cases e : j' = i + 1 + t
          · rw [e]; exact nb
          · exact no2 j' (by omega)
        obtain ⟨y, hy⟩ : ∃ y, hs[i + 1 + t]? = some y := ⟨hs[i + 1 + t], List.getElem?_eq_getElem (by omega)⟩
        obtain ⟨cj, lj, hxj, hlj, hcj⟩ := dlists_get hxs hj'
        have bad : BadM M lain.length hs i (i + 1 + t) ↔ x = y ∧ ∃ t, t ∈ li ∧ t ∈ lj := by
          unfold BadM
          rw [if_neg (by omega), getD_of hx, getD_of hy, ← hM i _ hi' hj']
          unfold meetL
          rw [getD_of hli, getD_of hlj]
          constructor
          · exact fun z => z.2.2
          · exact fun z => ⟨by omega, hj', z⟩
        generalize hje : i + 1 + t = j at hy hxj hlj bad step hj'
        wtm_at "s"
        refine k_ixN (s2.seq hc) hx ?_
        wtm_at "s"
        refine k_ixN (s2.seq hc) hy ?_
        wtm_at "s"
        refine k_it (fun e1 => ?_) (fun e1 => ?_)
        · wtm_at "s"
          refine k_ixL (s2.seq hb) (atI_nat hxi) ?_
          refine lc_pure (s2.seq hci) li (by simp) (by have := n2 li (List.mem_of_getElem? hli); omega) (fun t => if t ∈ lj then some (V.int t) else none) ?_ (fun D H3 nD s3 eD => ?_)
          · intro k z p H' hz hp sm R R0 h1 h2
            rw [List.getElem?_map, hp] at hz
            cases hz
            wtm_at "s"
            refine k_ixL (sm.seq (s2.seq hb)) (atI_nat hxj) ?_
            have hcj' := sm.seq (s2.seq hcj)
            wtm_at "s"
            refine k_it (fun w => ?_) (fun w => ?_)
            · wtm_at "s"
              exact h1 _ (by rw [if_pos w])
            · exact h2 (by rw [if_neg w])
          · wtm_at "s"
            refine k_it (fun w => ?_) (fun w => ?_)
            · wtm_at "s"
              have mt := (meet_fm li lj).mp (by omega)
              refine kT (by simp) (fun p H4 np s4 e4 => q2 i j eq' ⟨bad.mpr ⟨e1, mt⟩, fun i' j' z => ?_⟩ p H4 ((s2.trans s3).free np) (s2.trans (s3.trans s4)) e4)
              rcases z with z | ⟨rfl, z⟩
              · exact no i' j' z
              · exact no2 j' (by omega)
            · wtm_at "s"
              exact ⟨s2.trans s3, ⟨_, rfl⟩, step fun z => w (by have := (meet_fm li lj).mpr (bad.mp z).2; omega)⟩
        · wtm_at "s"
          exact ⟨s2, ⟨_, rfl⟩, step fun z => e1 (bad.mp z).1⟩
      · rintro σ' H2 ⟨s2, ⟨k3, rfl⟩, no2⟩
        refine ⟨s2, ⟨_, _, rfl⟩, fun i' j' z => ?_⟩
        by_cases e : i' = i
        · subst e
          by_cases hj : j' < lain.length
          · exact no2 j' (by omega)
          · exact fun w => hj w.2.1
        · exact no i' j' (by omega)
  · rintro σ' H1 ⟨s1, ⟨k2, k3, rfl⟩, no⟩
    wtm_at "s"
    exact q1 eq' (fun i j z => no i j (by have := z.1; have := z.2.1; omega) z) H1 s1
abbrev sp_first_clash (K : PySem.W.Frag) : Sp := fun vs H Q E => ∃ v0 v1, vs = [v0, v1] ∧ pr_first_clash K v0 v1 H Q E
theorem ok_first_clash (T : Txt K mg A) : FnOk P w K mg base CX0 1 A.a_first_clash A.d_first_clash ["lain", "hues"] (sp_first_clash K) := by
  refine T.F_first_clash.ok sc_first_clash (fun vs H Q E h => by obtain ⟨v0, v1, rfl, _⟩ := h; rfl) (fun cdv A0 outer s H vs Q E hr h => ?_)
  obtain ⟨v0, v1, rfl, h⟩ := h
  exact ⟨t_first_clash K, (pss_cons (ps_if (pt_cmpR op_ne (pe_callB q_len (by rfl) T.z_len (by decide +kernel) (pa_cons (pv 1) pa_nil)) (pe_callB q_len (by rfl) T.z_len (by decide +kernel) (pa_cons (pv 0) pa_nil)) (nomark _)) (pss_one (ps_ret (pe_tup (pa_cons (pe_un un_neg pe_int) (pa_cons (pe_un un_neg pe_int) pa_nil))))) pss_nil)
      (pss_cons (ps_for PassesOwn.never rfl (pi_range1 (by rfl) T.z_range (pa_cons (pe_callB q_len (by rfl) T.z_len (by decide +kernel) (pa_cons (pv 0) pa_nil)) pa_nil)) (pg_name (i := 2) sc_first_clash.nd rfl (Or.inl rfl))
      (pss_cons (ps_if (pt_cmpR op_lt (pe_ix ix_list (pv 1) (pv 2) (fun _ _ => rfl)) pe_int (nomark _)) (pss_one (ps_ret (pe_tup (pa_cons (pv 2) (pa_cons (pv 2) pa_nil))))) pss_nil)
      (pss_one (ps_for PassesOwn.never rfl (pi_range2 (by rfl) T.z_range (pa_cons (pe_op op_add (pv 2) pe_int) (pa_cons (pe_callB q_len (by rfl) T.z_len (by decide +kernel) (pa_cons (pv 0) pa_nil)) pa_nil))) (pg_name (i := 3) sc_first_clash.nd rfl (Or.inr rfl))
      (pss_one (ps_if (PW.pt (pw_and (pt_cmpR op_eq (pe_ix ix_list (pv 1) (pv 2) (fun _ _ => rfl)) (pe_ix ix_list (pv 1) (pv 3) (fun _ _ => rfl)) (nomark _)) (pw_and1 (pt_cmpR op_gt (pe_callB q_len (by rfl) T.z_len (by decide +kernel) (pa_cons (pe_lc (own := [("tie", 4)]) (by rfl) sc_first_clash.nd (pi_list (pe_ix ix_list (pv 0) (pv 2) (fun _ _ => rfl))) (blkOk_by (own := [("tie", 4)]) (N := ["lain", "hues", "i", "j", "tie"]) (sc := defScope s_first_clash) (by decide +kernel)) (fun _ _ _ _ _ => (pg_name (i := 4) sc_first_clash.nd rfl (Or.inl rfl))) (fun _ _ _ _ _ => (pts_one (pt_cmpR op_in_seq (pv 4) (pe_ix ix_list (pv 0) (pv 3) (fun _ _ => rfl)) (by rfl)))) (fun _ _ _ _ _ => (pv 4))) pa_nil)) pe_int (nomark _))))) (pss_one (ps_ret (pe_tup (pa_cons (pv 2) (pa_cons (pv 3) pa_nil))))) pss_nil))))))
      (pss_one (ps_ret pe_non)))), pure_first_clash h⟩


def meetW (N : Net) (ws : List (Int × Int)) (i j : Nat) : Prop := ∃ w v t, ws[i]? = some w ∧ ws[j]? = some v ∧ OnTie N w.1 w.2 t ∧ OnTie N v.1 v.2 t
def LainOf (N : Net) (ws : List (Int × Int)) (lain : List (List Int)) : Prop := lain.length = ws.length ∧ ∀ (i : Nat) w l, ws[i]? = some w → lain[i]? = some l → l.Pairwise (· < ·) ∧ ∀ t, t ∈ l ↔ OnTie N w.1 w.2 t
theorem LainOf.meet {N : Net} {ws : List (Int × Int)} {lain : List (List Int)} (h : LainOf N ws lain) {i j : Nat} (hi : i < lain.length) (hj : j < lain.length) : meetL lain i j ↔ meetW N ws i j := by
  obtain ⟨hl, h⟩ := h
  have e1 : ws[i]? = some (ws[i]'(by omega)) := List.getElem?_eq_getElem (by omega)
  have e2 : ws[j]? = some (ws[j]'(by omega)) := List.getElem?_eq_getElem (by omega)
  have e3 : lain[i]? = some lain[i] := List.getElem?_eq_getElem hi
  have e4 : lain[j]? = some lain[j] := List.getElem?_eq_getElem hj
  unfold meetL meetW
  rw [getD_of e3, getD_of e4]
  constructor
  · rintro ⟨t, h1, h2⟩
    exact ⟨_, _, t, e1, e2, ((h i _ _ e1 e3).2 t).mp h1, ((h j _ _ e2 e4).2 t).mp h2⟩
  · rintro ⟨w, v, t, f1, f2, h1, h2⟩
    rw [e1] at f1; rw [e2] at f2
    cases f1; cases f2
    exact ⟨t, ((h i _ _ e1 e3).2 t).mpr h1, ((h j _ _ e2 e4).2 t).mpr h2⟩
theorem ok_places {N : Net} (h : N.ok) : N.places ≤ 60 := by
  cases N with
  | line n => exact h.2
  | ring n => exact h.2
  | tree ps => show (ps.length : Int) + 1 ≤ 60; have := h.2.1; omega
/-- the ties of each way, one list for each -/
theorem lc_lainG {σ : L2.St} {vs : List Nat} {j : Nat} {te : TE} {a : Addr} {xs : List V} {N : Net} {ws : List (Int × Int)} {H1 : Hp} {QD : Addr → Hp → Prop} (S0 : List Addr) (hS : ∀ b ∈ S0, H1 b ≠ none) (hs : SqL K H1 a xs) (hxs : DpAll K H1 xs (ws.map dPair)) (hz : ws.length ≤ 1000)
    (step : ∀ c w H' (R : V → Hp → Prop), w ∈ ws → Same H1 H' → SqT K H' c [.int w.1, .int w.2] → (∀ p ns H'', H' p = none → Same H' H'' → H'' p = some (.lst (List.map V.int ns)) → ns.Pairwise (· < ·) → (∀ t, t ∈ ns ↔ OnTie N w.1 w.2 t) → R (.ref p) H'') → te ((wipe σ vs).set j (some (.ref c))) H' R)
    (hwp : ∀ x, wipe ((wipe σ vs).set j (some x)) vs = wipe σ vs)
    (h : ∀ D lain H', H1 D = none → Same H1 H' → Dp K (hid S0 H') (.ref D) (.list (lain.map dInts)) → LainOf N ws lain → QD D H') :
    ∃ a', V.ref a = .ref a' ∧ (∃ xs, SqL K H1 a' xs) ∧ ∀ D, H1 D = none → ∃ W : Nat → Nat → Hp → Prop, (∃ m, W 0 m (upd H1 D (.lst []))) ∧ ∀ t m H, W t m H →
      ((Itl K a').stop t H ∧ QD D H) ∨ ((Itl K a').go t H ∧ ∃ Nx : Hp → Prop, (∀ H', Nx H' → ∃ m', m' < m ∧ W (t + 1) m' H') ∧ ∀ x H', (Itl K a').yld t H x H' → gName j x (wipe σ vs) H' fun σ2 H2 => wipe σ2 vs = wipe σ vs ∧ tYes σ2 H2 fun b H3 =>
        if b = true then te σ2 H3 fun y H4 => ∃ acc, H4 D = some (.lst acc) ∧ acc.length < sizeLine ∧ Nx (upd H4 D (.lst (acc ++ [y]))) else Nx H3) := by
  have hl := dpa_len hxs
  rw [List.length_map] at hl
  refine ⟨a, rfl, ⟨xs, hs⟩, fun D nD => lc_list (xs := xs) (fun t H => Same H1 H ∧ ∃ ys lain, H D = some (.lst ys) ∧ DpAll K (hid (D :: S0) H) ys (lain.map dInts) ∧ LainOf N (ws.take t) lain) ⟨same_new nD, [], [], upd_same, .nil, ⟨by simp, fun i w l z => by simp at z⟩⟩ (fun t H _ e => e.1.seq hs) ?_ ?_⟩
  · rintro t x H hx ⟨sm, ys, lain, hD, hys, ⟨ll, hla⟩⟩
    have ht : t < ws.length := by rw [← hl]; exact (List.getElem?_eq_some_iff.mp hx).1
    obtain ⟨w, c, hw, rfl, hc⟩ := dpairs_get hxs hx
    refine k_gname (k_wipe (hwp _) ?_)
    refine k_yes (iteT (step c w H _ (List.mem_of_getElem? hw) sm (same_seqT sm hc) fun p ns H' np s' hp srt mem => ?_))
    have pD : p ∉ D :: S0 := fun z => by
      rcases List.mem_cons.mp z with z | z
      · rw [z, hD] at np; cases np
      · exact hS p z (sm.free np)
    have ly := dpa_len hys
    rw [List.length_map] at ly
    have lt : (ws.take t).length = t := by rw [List.length_take]; omega
    refine ⟨ys, s' _ _ hD, szl (by omega), same_mut (sm.trans s') nD, ys ++ [.ref p], lain ++ [ns], upd_same, ?_, ⟨?_, fun k w' l hk hkl => ?_⟩⟩
    · rw [hid_upd (by simp), List.map_append]
      exact dpa_app (dpa_same (hid_mono s') hys) (.cons (dp_of_ints (sl (by rw [hid_ne pD]; exact hp))) .nil)
    · rw [List.length_append, ll, List.take_add_one, hw]; simp
    · rw [List.take_add_one, hw] at hk
      by_cases ck : k < t
      · rw [List.getElem?_append_left (by omega)] at hk hkl
        exact hla k w' l hk hkl
      · have e : k = t := by
          have := (List.getElem?_eq_some_iff.mp hk).1
          rw [List.length_append, lt] at this
          simp at this; omega
        subst e
        rw [List.getElem?_append_right (by omega), lt] at hk
        rw [List.getElem?_append_right (by omega), ll, lt] at hkl
        simp at hk hkl
        subst hk; subst hkl
        exact ⟨srt, mem⟩
  · rintro H ⟨sm, ys, lain, hD, hys, hla⟩
    rw [hl, List.take_length] at hla
    refine h D lain H nD sm (.lst (sl (xs := ys) ?_) (dpa_same (hid_sub fun x hx => List.mem_cons_of_mem _ hx) hys)) hla
    rw [hid_ne fun z => hS D z nD]; exact hD
theorem ss_len60 : ∀ {xs : List Int} {lo hi : Int}, xs.Pairwise (· < ·) → (∀ t ∈ xs, lo ≤ t ∧ t < hi) → xs.length ≤ (hi - lo).toNat
  | [], _, _, _, _ => Nat.zero_le _
  | x :: xs, lo, hi, h, hb => by
    obtain ⟨a1, a2⟩ := List.pairwise_cons.mp h
    have := ss_len60 (lo := x + 1) (hi := hi) a2 fun t ht => ⟨by have := a1 t ht; omega, (hb t (List.mem_cons_of_mem _ ht)).2⟩
    have := hb x List.mem_cons_self
    rw [List.length_cons]; omega
theorem tie_in {N : Net} (ok : N.ok) {a b t : Int} (h : isWay N a b) (ht : OnTie N a b t) : 0 ≤ t ∧ t < 60 := by
  obtain ⟨w1, w2, w3, w4, w5⟩ := h
  cases N with
  | line n => have h1 : a < n := w4; have h2 : b < n := w5; have h3 : n ≤ 60 := ok.2; have h4 : min a b ≤ t ∧ t < max a b := ht; omega
  | ring n => have h3 : n ≤ 60 := ok.2; have h4 : 0 ≤ t ∧ t < n ∧ _ := ht; omega
  | tree ps => have h3 : ps.length < 60 := ok.2.1; have h4 : 0 ≤ t ∧ t < (ps.length : Int) ∧ _ := ht; omega
theorem LainOf.small {N : Net} {ws : List (Int × Int)} {lain : List (List Int)} (h : LainOf N ws lain) (ok : N.ok) (hok : ∀ w ∈ ws, isWay N w.1 w.2) : ∀ l ∈ lain, l.length ≤ 60 := fun l hl => by
  obtain ⟨i, hi, e⟩ := List.getElem_of_mem hl
  obtain ⟨h1, h2⟩ := h
  have e1 : ws[i]? = some (ws[i]'(by omega)) := List.getElem?_eq_getElem (by omega)
  obtain ⟨s, m⟩ := h2 i _ l e1 (by rw [List.getElem?_eq_getElem hi, e])
  exact ss_len60 (lo := 0) (hi := 60) s fun t ht => tie_in ok (hok _ (List.mem_of_getElem? e1)) ((m t).mp ht)
def pr_clash (K : PySem.W.Frag) (A : Ad) (v0 v1 v2 : V) (H : Hp) (Q : VK) (_ : XK) : Prop := ∃ (N : Net) (ws : List (Int × Int)) (hs : List Int), Dp K H v0 N.d ∧ N.ok ∧ Dp K H v1 (dPairs ws) ∧ ws.length ≤ 1000 ∧ (∀ w ∈ ws, isWay N w.1 w.2) ∧ Dp K H v2 (dInts hs) ∧ OutM (meetW N ws) ws.length hs H Q
def t_clash (K : PySem.W.Frag) (A : Ad) (E : XK) : TS :=
  (tSeq (tDrop (tCall (sp_look_ways K A) [] E (tCons (tVar 0) (tCons (tVar 1) tNil))))
    (tRet (tCall (sp_first_clash K) [] E0 (tCons (tLc (iList K (tVar 1)) (gName 3) tYes (tCall (sp_ties_on K) [] E0 (tCons (tVar 0) (tCons (tVar 3) tNil))) [3]) (tCons (tVar 2) tNil)))))
theorem pure_clash {v0 v1 v2 : V} {H : Hp} {Q : VK} {E : XK} (h : pr_clash K A v0 v1 v2 H Q E) : t_clash K A E ⟨fun _ H' => Q .non H', Q, fun _ _ => False, fun _ _ => False⟩ [some v0, some v1, some v2, none] H := by
  obtain ⟨N, ws, hs, hd, ok, hw, hz, hok, hh, q0, q1, q2⟩ := h
  unfold t_clash
  wtm_at "s"
  refine lw_good hd ok hw (by omega) hok ?_
  obtain ⟨b, xs, rfl, hb, hxs⟩ := dp_list hw
  wtm_at "s"
  refine lc_lainG (N := N) [] (fun _ z => by cases z) hb hxs hz (fun c w H' R hw' sm hc' hR => ?_) (fun _ => rfl) (fun D lain H1 nD s1 dD la => ?_)
  · wtm_at "s"
    exact ⟨_, _, rfl, N, w.1, w.2, dp_same sm hd, dp_of_pair hc', ok, hok w hw', fun p ns H'' np s' hp ti => hR p ns H'' np s' hp ti.srt ti.mem⟩
  wtm_at "s"
  refine ⟨_, _, rfl, lain, hs, meetW N ws, dp_same (hid_same _ _) dD, dp_same s1 hh, by rw [la.1]; omega, fun l hl => by have := la.small ok hok l hl; omega, fun i j hi hj => la.meet hi hj, ?_⟩
  rw [la.1]
  exact ⟨fun z p H' np sm e => q0 z p H' (s1.free np) (s1.trans sm) e, fun z1 z2 H' sm => q1 z1 z2 H' (s1.trans sm), fun i j z1 z2 p H' np sm e => q2 i j z1 z2 p H' (s1.free np) (s1.trans sm) e⟩
abbrev sp_clash (K : PySem.W.Frag) (A : Ad) : Sp := fun vs H Q E => ∃ v0 v1 v2, vs = [v0, v1, v2] ∧ pr_clash K A v0 v1 v2 H Q E
theorem ok_clash (T : Txt K mg A) : FnOk P w K mg base (L2.CX P w) 5 A.a_clash A.d_clash ["net", "ways", "hues"] (sp_clash K A) := by
  refine T.F_clash.okX sc_clash (fun vs H Q E h => by obtain ⟨v0, v1, v2, rfl, _⟩ := h; rfl) (fun cdv A0 outer s H vs Q E hr h => ?_)
  obtain ⟨v0, v1, v2, rfl, h⟩ := h
  exact ⟨t_clash K A E, (pss_cons (ps_expr (pe_call (E := E) (ok_look_ways T) (hr.mono (by decide)) (by rfl) T.g_look_ways T.F_look_ways.kp T.b_look_ways .nil (passes_call (takes_of rfl rfl rfl rfl) (fun _ _ _ _ h => h)) (pa_cons (pv 0) (pa_cons (pv 1) pa_nil))))
      (pss_one (ps_ret (pe_call (ok_first_clash T) (hr.mono (by decide)) (by rfl) T.g_first_clash T.F_first_clash.kp T.b_first_clash .nil pass0 (pa_cons (pe_lc (own := [("way", 3)]) (by rfl) sc_clash.nd (pi_list (pv 1)) (blkOk_by (own := [("way", 3)]) (N := ["net", "ways", "hues", "way"]) (sc := defScope s_clash) (by decide +kernel)) (fun _ _ _ _ _ => (pg_name (i := 3) sc_clash.nd rfl (Or.inl rfl))) (fun _ _ _ _ _ => pts_nil) (fun _ _ _ _ _ => (pe_call (ok_ties_on T) (hr.mono (by decide)) (by rfl) T.g_ties_on T.F_ties_on.kp T.b_ties_on .nil pass0 (pa_cons (pv 0) (pa_cons (pv 3) pa_nil))))) (pa_cons (pv 2) pa_nil)))))), pure_clash h⟩


/-- the signs of a row: a word, numbers -/
def rowL (w : List Nat) (ns : List Int) : List Nat := w ++ (ns.map fun n => 32 :: nu n).flatten
theorem num_small {n : Int} (h : Num30 n) : n.natAbs < 2 ^ 1900 ∧ (nu n).length ≤ 30 := by
  have h1 := h.1
  have h2 := h.2
  have h3 : (10 : Int) ^ 30 ≤ 2 ^ 200 := by decide +kernel
  have h4 : (2 : Nat) ^ 200 ≤ 2 ^ 1900 := Nat.pow_le_pow_right (by decide) (by decide)
  have h5 : ((2 ^ 200 : Nat) : Int) = 2 ^ 200 := by rw [Int.natCast_pow]; rfl
  have h6 : (n.natAbs : Int) = n := Int.natAbs_of_nonneg h1
  refine ⟨Nat.lt_of_lt_of_le ?_ h4, nu_len h1 (by decide) h2⟩
  have : (n.natAbs : Int) < ((2 ^ 200 : Nat) : Int) := by rw [h5, h6]; omega
  exact Int.ofNat_lt.mp this
theorem rowL_len {w : List Nat} {ns : List Int} (h : ∀ n ∈ ns, Num30 n) : (rowL w ns).length ≤ w.length + ns.length * 31 := by
  unfold rowL
  rw [List.length_append]
  have := flat_le (l := ns.map fun n => 32 :: nu n) (b := 31) fun x hx => by
    obtain ⟨n, hn, rfl⟩ := List.mem_map.mp hx
    have := (num_small (h n hn)).2
    rw [List.length_cons]; omega
  rw [List.length_map] at this
  omega
theorem sg_blank : sg (Str.ofString " ") = [32] := by rw [sg_str]; rfl
def Net.nums : Net → List Int
  | .line n => [n]
  | .ring n => [n]
  | .tree ps => ps
def wayL (w : Int × Int) : List Nat := rowL (sg (Str.ofString "way")) [w.1, w.2]
def rowsL (N : Net) (ws : List (Int × Int)) : List (List Nat) := rowL (sg N.kind) N.nums :: ws.map wayL
theorem num60 {n : Int} (h0 : 0 ≤ n) (h1 : n ≤ 100) : Num30 n := ⟨h0, Int.lt_of_le_of_lt h1 (by decide +kernel)⟩
theorem nums_ok {N : Net} (h : N.ok) : (∀ n ∈ N.nums, Num30 n) ∧ N.nums.length ≤ 60 := by
  cases N with
  | line n => exact ⟨fun m hm => by rw [List.mem_singleton.mp hm]; exact num60 (by have := h.1; omega) (by have := h.2; omega), by show 1 ≤ 60; decide⟩
  | ring n => exact ⟨fun m hm => by rw [List.mem_singleton.mp hm]; exact num60 (by have := h.1; omega) (by have := h.2; omega), by show 1 ≤ 60; decide⟩
  | tree ps =>
    refine ⟨fun m hm => ?_, by show ps.length ≤ 60; have := h.2.1; omega⟩
    obtain ⟨i, hi, e⟩ := List.getElem_of_mem hm
    have hi' : i < ps.length := hi
    have := h.2.2 i hi'
    rw [getD_of (List.getElem?_eq_getElem hi')] at this
    have e' : ps[i] = m := e
    have := h.2.1
    exact num60 (by omega) (by omega)
theorem way_num {N : Net} (ok : N.ok) {w : Int × Int} (h : isWay N w.1 w.2) : ∀ n ∈ [w.1, w.2], Num30 n := fun n hn => by
  obtain ⟨h1, h2, h3, h4, h5⟩ := h
  have := ok_places ok
  simp only [List.mem_cons, List.not_mem_nil, or_false] at hn
  rcases hn with rfl | rfl
  · exact num60 h2 (by omega)
  · exact num60 h3 (by omega)
theorem kind_len (N : Net) : (sg N.kind).length = 4 := by
  cases N <;> (show (sg (Str.ofString _)).length = 4; rw [sg_str]; rfl)
theorem way_len3 : (sg (Str.ofString "way")).length = 3 := by rw [sg_str]; rfl
/-- the signs of a net's text -/
def netL (N : Net) (ws : List (Int × Int)) (ho : Option (List Int)) : List Nat := ((rowsL N ws ++ ho.toList.map (rowL (sg (Str.ofString "hues")))).map fun r => r ++ [10]).flatten
def dHues : Option (List Int) → PyData
  | none => .none
  | some hs => dInts hs
def RightH (N : Net) (ws : List (Int × Int)) (hs : List Int) : Prop := hs.length = ws.length ∧ (∀ i j, ¬ BadM (meetW N ws) ws.length hs i j) ∧ ∀ h ∈ hs, Num30 h
theorem hues_len4 : (sg (Str.ofString "hues")).length = 4 := by rw [sg_str]; rfl
theorem sg_nl : sg (Str.ofString "\n") = [10] := by rw [sg_str]; rfl
theorem sg_none : sg (Str.ofString "") = [] := by rw [sg_str]; rfl
theorem rows_len {N : Net} {ws : List (Int × Int)} (ok : N.ok) (hok : ∀ w ∈ ws, isWay N w.1 w.2) : ∀ r ∈ rowsL N ws, r.length ≤ 4000 := fun r hr => by
  obtain ⟨nm, nl⟩ := nums_ok ok
  rcases List.mem_cons.mp hr with rfl | hr
  · have := rowL_len (w := sg N.kind) nm
    rw [kind_len] at this
    omega
  · obtain ⟨w, hw, rfl⟩ := List.mem_map.mp hr
    have := rowL_len (w := sg (Str.ofString "way")) (way_num ok (hok w hw))
    rw [way_len3] at this
    unfold wayL
    simp only [List.length_cons, List.length_nil] at this
    omega


/-! ### numbers from words -/
def isDig (c : Nat) : Bool := decide (c ∈ [48, 49, 50, 51, 52, 53, 54, 55, 56, 57])
def valL (l : List Nat) : Int := l.foldl (fun (t : Int) (c : Nat) => t * 10 + ((c : Int) - 48)) 0
def numOf (l : List Nat) : Option Int := if l = [] ∨ 30 < l.length ∨ (l.head? = some 48 ∧ l ≠ [48]) then none else if l.all isDig = true then some (valL l) else none
def optV : Option Int → V
  | none => .non
  | some n => .int n
theorem sg_fig : sg (Str.ofString "0123456789") = [48, 49, 50, 51, 52, 53, 54, 55, 56, 57] := by rw [sg_str]; rfl
theorem sg_zero : sg (Str.ofString "0") = [48] := by rw [sg_str]; rfl
theorem sg_emp : sg (Str.ofString "") = [] := by rw [sg_str]; rfl
theorem mk_eq {l : List Nat} {s : Str} : mkS l = s ↔ l = sg s := ⟨fun h => by rw [← h, sg_mkS], fun h => by rw [h, mkS_sg]⟩
theorem find_fig {c : Nat} (h : c ∈ [48, 49, 50, 51, 52, 53, 54, 55, 56, 57]) : Txt.find (Str.ofString "0123456789") ⟨#[c]⟩ = (c : Int) - 48 := by
  simp only [List.mem_cons, List.not_mem_nil, or_false] at h
  rcases h with rfl | rfl | rfl | rfl | rfl | rfl | rfl | rfl | rfl | rfl <;> decide +kernel
theorem forS {K : PySem.W.Frag} {σ : L2.St} {H : Hp} {nx : L2.St → Hp → Prop} {rt : VK} {l : List Nat} {g : TG} {tb : TS} (Pv : Nat → L2.St → Hp → Prop) (h0 : Pv 0 σ H)
    (hs : ∀ (i : Nat) c σ H, l[i]? = some c → Pv i σ H → g (.str ⟨#[c]⟩) σ H fun σ2 H2 => tb ⟨Pv (i + 1), rt, nx, Pv (i + 1)⟩ σ2 H2) (hd : ∀ σ H, Pv l.length σ H → nx σ H) :
    ∃ x, V.str (mkS l) = .str x ∧ ∃ W : Nat → Nat → L2.St → Hp → Prop, (∃ m, W 0 m σ H) ∧ ∀ i m σ H, W i m σ H →
      ((Its x).stop i H ∧ nx σ H) ∨ ((Its x).go i H ∧ ∃ N : L2.St → Hp → Prop, (∀ σ' H', N σ' H' → ∃ m', m' < m ∧ W (i + 1) m' σ' H') ∧ ∀ x' H', (Its x).yld i H x' H' → g x' σ H' fun σ2 H2 => tb ⟨N, rt, nx, N⟩ σ2 H2) := by
  have e : (mkS l).cps.size = l.length := by simp [mkS]
  refine ⟨mkS l, rfl, for_it (D := ⟨nx, rt, fun _ _ => False, fun _ _ => False⟩) (walk_str (z := mkS l)) Pv h0 (fun _ _ _ _ _ => trivial) (fun i x σ H H' hi p y => ?_) (fun σ H p => hd σ H (e ▸ p))⟩
  obtain ⟨rfl, c, hc, rfl⟩ := y
  exact hs i c σ _ (by simpa [mkS] using hc) p
def pr_number_of (K : PySem.W.Frag) (v0 : V) (H : Hp) (Q : VK) (_ : XK) : Prop := ∃ l : List Nat, v0 = .str (mkS l) ∧ l.length ≤ 90000 ∧ Q (optV (numOf l)) H
def t_number_of (K : PySem.W.Frag) : TS :=
  (tSeq (tIfS (tOr (tTest (tOp rEq (tVar 0) (tC (.str (Str.ofString ""))))) (tOr (tTest (tOp xGt (tCB rLenStr (tCons (tVar 0) tNil)) (tC (.int 30)))) (tAnd (tTest (tOp rEq (tOp rIxS (tVar 0) (tC (.int 0))) (tC (.str (Str.ofString "0"))))) (tTest (tOp rNe (tVar 0) (tC (.str (Str.ofString "0")))))))) (tRet (tC .non)) tNext)
    (tSeq (tAsg (tC (.int 0)) (gName 1))
    (tSeq (tFor (iStr (tVar 0)) (gName 2)
      (tSeq (tIfS (tTest (tOp xNotInS (tVar 2) (tC (.str (Str.ofString "0123456789"))))) (tRet (tC .non)) tNext)
    (tAsg (tOp xAdd (tOp xMul (tC (.int 10)) (tVar 1)) (tM1 rFind (tC (.str (Str.ofString "0123456789"))) (tVar 2))) (gName 1))))
    (tRet (tVar 1)))))
theorem all_take {l : List Nat} {i : Nat} {c : Nat} (h : l[i]? = some c) : (l.take (i + 1)).all isDig = ((l.take i).all isDig && isDig c) := by
  rw [List.take_add_one, h, List.all_append]
  simp
theorem val_take {l : List Nat} {i : Nat} {c : Nat} (h : l[i]? = some c) : valL (l.take (i + 1)) = valL (l.take i) * 10 + ((c : Int) - 48) := by
  unfold valL
  rw [List.take_add_one, h, List.foldl_append]
  rfl
theorem pure_number_of {v0 : V} {H : Hp} {Q : VK} {E : XK} (h : pr_number_of K v0 H Q E) : t_number_of K ⟨fun _ H' => Q .non H', Q, fun _ _ => False, fun _ _ => False⟩ [some v0, none, none] H := by
  obtain ⟨l, rfl, hl, q⟩ := h
  unfold t_number_of
  wtm_at "s"
  refine k_eqS ?_
  have bad : (l = [] ∨ 30 < l.length ∨ (l.head? = some 48 ∧ l ≠ [48])) → Q .non H := fun z => by
    unfold numOf at q
    rw [if_pos z] at q
    exact q
  by_cases c0 : l = []
  · rw [decide_eq_true (mk_eq.mpr (by rw [c0, sg_emp]))]
    wtm_at "s"
    exact bad (.inl c0)
  rw [decide_eq_false fun z => c0 (by have := mk_eq.mp z; rwa [sg_emp] at this)]
  obtain ⟨c, hc⟩ : ∃ c, l[0]? = some c := ⟨l[0]'(List.length_pos_iff.mpr c0), List.getElem?_eq_getElem _⟩
  wtm_at "s"
  refine k_lenS (by omega) ?_
  wtm_at "s"
  refine k_it (fun c1 => ?_) (fun c1 => ?_)
  · wtm_at "s"
    exact bad (.inr (.inl (by omega)))
  wtm_at "s"
  refine k_ixS (i := 0) (by omega) hc ?_
  wtm_at "s"
  refine k_eqS ?_
  have hd0 : l.head? = some c := by rw [List.head?_eq_getElem?]; exact hc
  have go : ¬ (l = [] ∨ 30 < l.length ∨ (l.head? = some 48 ∧ l ≠ [48])) → tSeq (tAsg (tC (.int 0)) (gName 1))
    (tSeq (tFor (iStr (tVar 0)) (gName 2)
      (tSeq (tIfS (tTest (tOp xNotInS (tVar 2) (tC (.str (Str.ofString "0123456789"))))) (tRet (tC .non)) tNext)
    (tAsg (tOp xAdd (tOp xMul (tC (.int 10)) (tVar 1)) (tM1 rFind (tC (.str (Str.ofString "0123456789"))) (tVar 2))) (gName 1))))
    (tRet (tVar 1))) ⟨fun _ H' => Q .non H', Q, fun _ _ => False, fun _ _ => False⟩ [some (.str (mkS l)), none, none] H := fun nb => by
    unfold numOf at q
    rw [if_neg nb] at q
    wtm_at "s"
    refine forS (K := K) (fun i σ' H' => H' = H ∧ (∃ k2, σ' = [some (.str (mkS l)), some (.int (valL (l.take i))), k2]) ∧ (l.take i).all isDig = true) ⟨rfl, ⟨none, rfl⟩, by simp⟩ ?_ ?_
    · rintro i c' σ' H' hc' ⟨rfl, ⟨k2, rfl⟩, al⟩
      have hi := (List.getElem?_eq_some_iff.mp hc').1
      wtm_at "s"
      rw [← mkS_sg (Str.ofString "0123456789"), sg_fig]
      refine k_notInS ?_
      wtm_at "s"
      refine k_itn (fun w => ?_) (fun w => ?_)
      · wtm_at "s"
        have nall : l.all isDig = false := by
          cases hb : l.all isDig with
          | false => rfl
          | true => exact absurd (of_decide_eq_true (List.all_eq_true.mp hb c' (List.mem_of_getElem? hc'))) w
        rw [nall] at q
        exact q
      · wtm_at "s"
        refine ⟨_, _, rfl, rfl, ?_⟩
        rw [← sg_fig, mkS_sg, find_fig w]
        wtm_at "s"
        refine ⟨rfl, ⟨some (.str ⟨#[c']⟩), ?_⟩, by rw [all_take hc', al]; exact decide_eq_true w⟩
        rw [val_take hc', Int.mul_comm]
    · rintro σ' H' ⟨rfl, ⟨k2, rfl⟩, al⟩
      rw [List.take_length] at al ⊢
      wtm_at "s"
      rw [if_pos al] at q
      exact q
  by_cases c2 : c = 48
  · subst c2
    rw [decide_eq_true (show (⟨#[48]⟩ : Str) = Str.ofString "0" from (mk_eq (l := [48])).mpr (by rw [sg_zero]))]
    wtm_at "s"
    refine k_neS ?_
    by_cases c3 : l = [48]
    · rw [decide_eq_true (mk_eq.mpr (by rw [c3, sg_zero]))]
      refine ⟨_, rfl, ?_⟩
      have := go (fun z => by
        rcases z with z | z | ⟨_, z⟩
        · exact c0 z
        · omega
        · exact z c3)
      exact this
    · rw [decide_eq_false fun z => c3 (by have := mk_eq.mp z; rwa [sg_zero] at this)]
      wtm_at "s"
      exact bad (.inr (.inr ⟨hd0, c3⟩))
  · rw [decide_eq_false fun z => c2 (by have := (mk_eq (l := [c])).mp z; rw [sg_zero] at this; cases this; rfl)]
    refine ⟨_, rfl, ?_⟩
    have := go (fun z => by
      rcases z with z | z | ⟨z, _⟩
      · exact c0 z
      · omega
      · rw [hd0] at z; exact c2 (Option.some.inj z))
    exact this
abbrev sp_number_of (K : PySem.W.Frag) : Sp := fun vs H Q E => ∃ v0, vs = [v0] ∧ pr_number_of K v0 H Q E
theorem ok_number_of (T : Txt K mg A) : FnOk P w K mg base CX0 1 A.a_number_of A.d_number_of ["word"] (sp_number_of K) := by
  refine T.F_number_of.ok sc_number_of (fun vs H Q E h => by obtain ⟨v0, rfl, _⟩ := h; rfl) (fun cdv A0 outer s H vs Q E hr h => ?_)
  obtain ⟨v0, rfl, h⟩ := h
  exact ⟨t_number_of K, (pss_cons (ps_if (PW.pt (pw_or (pt_cmpR op_eq (pv 0) pe_str (nomark _)) (pw_or (pt_cmpR op_gt (pe_callB q_lenS (by rfl) T.z_len (by decide +kernel) (pa_cons (pv 0) pa_nil)) (pe_glob (v := .int 30) (by rfl) T.c_MOST_FIGURES ⟨_, rfl⟩) (nomark _)) (pw_or1 (PW.pt (pw_and (pt_cmpR op_eq (pe_ix ix_str (pv 0) pe_int (fun _ _ => rfl)) pe_str (nomark _)) (pw_and1 (pt_cmpR op_ne (pv 0) pe_str (nomark _))))))))) (pss_one (ps_ret pe_non)) pss_nil)
      (pss_cons (ps_set (i := 1) sc_number_of.nd rfl (Or.inl rfl) pe_int)
      (pss_cons (ps_for PassesOwn.never rfl (pi_str (pv 0)) (pg_name (i := 2) sc_number_of.nd rfl (Or.inl rfl))
      (pss_cons (ps_if (pt_cmpR op_notin_str (pv 2) (pe_glob (v := .str (Str.ofString "0123456789")) (by rfl) T.c_FIGURES ⟨_, rfl⟩) (by rfl)) (pss_one (ps_ret pe_non)) pss_nil)
      (pss_one (ps_set (i := 1) sc_number_of.nd rfl (Or.inl rfl) (pe_op op_add (pe_op op_mul pe_int (pv 1)) (pe_m1 PySem.F.slot_str_find PySem.F.type_str_find mt_find (pe_glob (v := .str (Str.ofString "0123456789")) (by rfl) T.c_FIGURES ⟨_, rfl⟩) (pv 2)))))))
      (pss_one (ps_ret (pv 1)))))), pure_number_of h⟩
theorem numL_head : ∀ n : Nat, n ≠ 0 → (TL.numL n).head? ≠ some 48 := by
  intro n
  induction n using Nat.strongRecOn with
  | ind n ih =>
    intro h0
    by_cases c : n < 10
    · rw [TL.numL_lt c]; simp; omega
    · rw [TL.numL_step (by omega)]
      have ne := TL.numL_ne (n / 10)
      rw [List.head?_append]
      cases hx : (TL.numL (n / 10)).head? with
      | none => exact absurd (List.head?_eq_none_iff.mp hx) ne
      | some x =>
        have := ih (n / 10) (by omega) (by omega)
        rw [hx] at this
        simpa using this
theorem num_back {n : Int} (h : Num30 n) : numOf (nu n) = some n := by
  obtain ⟨h0, h1⟩ := h
  have hl := nu_len h0 (k := 30) (by decide) h1
  obtain ⟨m, rfl⟩ := Int.eq_ofNat_of_zero_le h0
  rw [nu_nat] at hl ⊢
  unfold numOf
  rw [if_neg, if_pos]
  · unfold valL; rw [TL.fold_num]
  · rw [List.all_eq_true]
    intro c hc
    have := TL.numL_digits m c hc
    refine decide_eq_true ?_
    simp only [List.mem_cons, List.not_mem_nil, or_false]
    omega
  · rintro (z | z | ⟨z1, z2⟩)
    · exact TL.numL_ne m z
    · omega
    · by_cases c : m = 0
      · subst c; exact z2 (by rw [TL.numL_lt (by decide)])
      · exact numL_head m c z1
def numsOf : List (List Nat) → Option (List Int)
  | [] => some []
  | l :: r => match numOf l, numsOf r with
    | some n, some ns => some (n :: ns)
    | _, _ => none
theorem numsOf_some : ∀ {ls : List (List Nat)} {ns : List Int}, numsOf ls = some ns → ls.map (fun l => optV (numOf l)) = ns.map V.int
  | [], ns, h => by cases h; rfl
  | l :: r, ns, h => by
    unfold numsOf at h
    cases h1 : numOf l with
    | none => rw [h1] at h; cases h
    | some n =>
      cases h2 : numsOf r with
      | none => rw [h1, h2] at h; cases h
      | some ms =>
        rw [h1, h2] at h
        cases h
        rw [List.map_cons, List.map_cons, numsOf_some h2, h1]; rfl
theorem numsOf_none : ∀ {ls : List (List Nat)}, numsOf ls = none → ∃ l ∈ ls, numOf l = none
  | [], h => by cases h
  | l :: r, h => by
    unfold numsOf at h
    cases h1 : numOf l with
    | none => exact ⟨l, List.mem_cons_self, h1⟩
    | some n =>
      cases h2 : numsOf r with
      | none =>
        obtain ⟨x, hx, e⟩ := numsOf_none h2
        exact ⟨x, List.mem_cons_of_mem _ hx, e⟩
      | some ms => rw [h1, h2] at h; cases h
theorem nums_back : ∀ {ns : List Int}, (∀ n ∈ ns, Num30 n) → numsOf (ns.map nu) = some ns
  | [], _ => rfl
  | n :: r, h => by
    show (match numOf (nu n), numsOf (r.map nu) with | some n, some ns => some (n :: ns) | _, _ => none) = _
    rw [num_back (h n List.mem_cons_self), nums_back fun m hm => h m (List.mem_cons_of_mem _ hm)]
theorem flat_opt (ls : List (List Nat)) : (ls.map fun l => optV (numOf l)).all flatV = true := by
  rw [List.all_eq_true]
  intro v hv
  obtain ⟨l, _, rfl⟩ := List.mem_map.mp hv
  cases numOf l <;> rfl
theorem in_opt (ls : List (List Nat)) : inV .non (ls.map fun l => optV (numOf l)) = decide (numsOf ls = none) := by
  induction ls with
  | nil => rfl
  | cons l r ih =>
    show (eqV (optV (numOf l)) .non || inV .non (r.map fun l => optV (numOf l))) = _
    rw [ih]
    cases h1 : numOf l with
    | none =>
      have : numsOf (l :: r) = none := by unfold numsOf; rw [h1]
      rw [decide_eq_true this]; rfl
    | some n =>
      cases h2 : numsOf r with
      | none =>
        have : numsOf (l :: r) = none := by unfold numsOf; rw [h1, h2]
        rw [decide_eq_true this]; rfl
      | some ms =>
        have : ¬ numsOf (l :: r) = none := by unfold numsOf; rw [h1, h2]; exact fun z => nomatch z
        rw [decide_eq_false this]; rfl
def strsV (ls : List (List Nat)) : List V := ls.map fun l => V.str (mkS l)
def pr_numbers_of (K : PySem.W.Frag) (v0 : V) (H : Hp) (Q : VK) (_ : XK) : Prop := ∃ (a : Addr) (ls : List (List Nat)), v0 = .ref a ∧ SqL K H a (strsV ls) ∧ ls.length ≤ 10000 ∧ (∀ l ∈ ls, l.length ≤ 90000) ∧ (numsOf ls = none → ∀ H', Same H H' → Q .non H') ∧
  (∀ ns, numsOf ls = some ns → ∀ p H', H p = none → Same H H' → H' p = some (.lst (List.map V.int ns)) → Q (.ref p) H')
def t_numbers_of (K : PySem.W.Frag) : TS :=
  (tSeq (tAsg (tLc (iList K (tVar 0)) (gName 2) tYes (tCall (sp_number_of K) [] E0 (tCons (tVar 2) tNil)) [2]) (gName 1))
    (tSeq (tIfS (tTest (tOp (rIn K false) (tC .non) (tVar 1))) (tRet (tC .non)) tNext)
    (tRet (tVar 1))))
theorem pure_numbers_of {v0 : V} {H : Hp} {Q : VK} {E : XK} (h : pr_numbers_of K v0 H Q E) : t_numbers_of K ⟨fun _ H' => Q .non H', Q, fun _ _ => False, fun _ _ => False⟩ [some v0, none, none] H := by
  obtain ⟨a, ls, rfl, ha, hz, hl, q0, q1⟩ := h
  unfold t_numbers_of
  wtm_at "s"
  refine lc_pure ha ls (by simp [strsV]) (by omega) (fun l => some (optV (numOf l))) ?_ (fun D H1 nD s1 eD => ?_)
  · intro k z l H' hz hp sm R R0 h1 h2
    unfold strsV at hz
    rw [List.getElem?_map, hp] at hz
    cases hz
    wtm_at "s"
    exact ⟨_, rfl, l, rfl, hl l (List.mem_of_getElem? hp), h1 _ rfl⟩
  · rw [fm_map] at eD
    wtm_at "s"
    refine ⟨D, _, rfl, .inl (sl eD), rfl, flat_opt ls, ?_⟩
    rw [if_neg Bool.false_ne_true, in_opt]
    wtm_at "s"
    refine k_it (fun c => ?_) (fun c => ?_)
    · wtm_at "s"
      exact q0 c H1 s1
    · wtm_at "s"
      cases hn : numsOf ls with
      | none => exact absurd hn c
      | some ns => exact q1 ns hn D H1 nD s1 (by rw [eD, numsOf_some hn])
abbrev sp_numbers_of (K : PySem.W.Frag) : Sp := fun vs H Q E => ∃ v0, vs = [v0] ∧ pr_numbers_of K v0 H Q E
theorem ok_numbers_of (T : Txt K mg A) : FnOk P w K mg base CX0 2 A.a_numbers_of A.d_numbers_of ["words"] (sp_numbers_of K) := by
  refine T.F_numbers_of.ok sc_numbers_of (fun vs H Q E h => by obtain ⟨v0, rfl, _⟩ := h; rfl) (fun cdv A0 outer s H vs Q E hr h => ?_)
  obtain ⟨v0, rfl, h⟩ := h
  exact ⟨t_numbers_of K, (pss_cons (ps_setLc (i := 1) (own := [("word", 2)]) (by rfl) sc_numbers_of.nd rfl rfl (sw_true rfl rfl rfl (by decide +kernel)) (pi_list (pv 0)) (blkOk_by (own := [("word", 2)]) (N := ["words", "numbers", "word"]) (sc := defScope s_numbers_of) (by decide +kernel)) (fun _ _ _ _ _ => (pg_name (i := 2) sc_numbers_of.nd rfl (Or.inl rfl))) (fun _ _ _ _ _ => pts_nil) (fun _ _ _ _ _ => (pe_call (ok_number_of T) (hr.mono (by decide)) (by rfl) T.g_number_of T.F_number_of.kp T.b_number_of .nil pass0 (pa_cons (pv 2) pa_nil))))
      (pss_cons (ps_if (pt_cmpR op_in_seq pe_non (pv 1) (by rfl)) (pss_one (ps_ret pe_non)) pss_nil)
      (pss_one (ps_ret (pv 1))))), pure_numbers_of h⟩


/-- a net that was just made -/
def NetNew (H H' : Hp) (v : V) : Net → Prop
  | .line n => ∃ p, v = .ref p ∧ H' p = some (.tup [.str (Str.ofString "line"), .int n])
  | .ring n => ∃ p, v = .ref p ∧ H' p = some (.tup [.str (Str.ofString "ring"), .int n])
  | .tree ps => ∃ p s, v = .ref p ∧ H' p = some (.tup [.str (Str.ofString "tree"), .ref s]) ∧ H s = none ∧ H' s = some (.lst (List.map V.int ps))
theorem NetNew.dp {K : PySem.W.Frag} {H H' : Hp} {v : V} {N : Net} (h : NetNew H H' v N) : Dp K H' v N.d := by
  cases N with
  | line n => obtain ⟨p, rfl, e⟩ := h; exact .tup (stp e) (.cons (.str _) (.cons (.int _) .nil))
  | ring n => obtain ⟨p, rfl, e⟩ := h; exact .tup (stp e) (.cons (.str _) (.cons (.int _) .nil))
  | tree ps => obtain ⟨p, s, rfl, e, _, e2⟩ := h; exact .tup (stp e) (.cons (.str _) (.cons (dp_of_ints (sl e2)) .nil))
theorem NetNew.same {H H1 H2 : Hp} {v : V} {N : Net} (h : NetNew H H1 v N) (s : Same H1 H2) : NetNew H H2 v N := by
  cases N with
  | line n => obtain ⟨p, rfl, e⟩ := h; exact ⟨p, rfl, s _ _ e⟩
  | ring n => obtain ⟨p, rfl, e⟩ := h; exact ⟨p, rfl, s _ _ e⟩
  | tree ps => obtain ⟨p, q, rfl, e, n, e2⟩ := h; exact ⟨p, q, rfl, s _ _ e, n, s _ _ e2⟩
theorem NetNew.old {H0 H H' : Hp} {v : V} {N : Net} (h : NetNew H H' v N) (s : Same H0 H) : NetNew H0 H' v N := by
  cases N with
  | line n => exact h
  | ring n => exact h
  | tree ps => obtain ⟨p, q, rfl, e, n, e2⟩ := h; exact ⟨p, q, rfl, e, s.free n, e2⟩
theorem nums_len30 {ns : List Int} (h : ∀ n ∈ ns, Num30 n) : ∀ l ∈ ns.map nu, l.length ≤ 90000 := fun l hl => by
  obtain ⟨n, hn, rfl⟩ := List.mem_map.mp hl
  have := (num_small (h n hn)).2
  omega
theorem strs_drop (w : List Nat) (ls : List (List Nat)) : cutV (strsV (w :: ls)) (some 1) none = strsV ls := by
  rw [show (1 : Int) = ((1 : Nat) : Int) from rfl, cut_from]; rfl
theorem strs_at0 (w : List Nat) (ls : List (List Nat)) : atI (strsV (w :: ls)) 0 = some (V.str (mkS w)) := atI_nat (j := 0) rfl
theorem eqv_ne {n : Int} {ns : List Int} : PyData.eqv (dInts (n :: ns)) (.list []) = false := rfl
def wayOf (N : Net) (w : List Nat) (ls : List (List Nat)) : Option (Int × Int) := if w = sg (Str.ofString "way") then match numsOf ls with
    | some [a, b] => if isWay N a b then some (a, b) else none
    | _ => none
  else none
def pr_way_of (K : PySem.W.Frag) (v0 v1 : V) (H : Hp) (Q : VK) (_ : XK) : Prop := ∃ (a : Addr) (N : Net) (w : List Nat) (ls : List (List Nat)), v1 = .ref a ∧ Dp K H v0 N.d ∧ SqL K H a (strsV (w :: ls)) ∧ ls.length ≤ 10000 ∧ (∀ l ∈ ls, l.length ≤ 90000) ∧ (wayOf N w ls = none → ∀ H', Same H H' → Q .non H') ∧
  (∀ x y, wayOf N w ls = some (x, y) → ∀ p H', H p = none → Same H H' → H' p = some (.tup [.int x, .int y]) → Q (.ref p) H')
def t_way_of (K : PySem.W.Frag) : TS :=
  (tSeq (tAsg (tCall (sp_numbers_of K) [] E0 (tCons (tSl (rSlL K) (tVar 1) (tPart (tC (.int 1))) tNoPart) tNil)) (gName 2))
    (tSeq (tIfS (tOr (tTest (tOp rNe (tOp (rIxL K) (tVar 1) (tC (.int 0))) (tC (.str (Str.ofString "way"))))) (tOr (tTest (tOp xIsN (tVar 2) (tC .non))) (tOr (tTest (tOp rNe (tCB (rLenX K) (tCons (tVar 2) tNil)) (tC (.int 2)))) (tNot (tB (tCall (sp_is_way K) [] E0 (tCons (tVar 0) (tCons (tTup (tCons (tOp (rIxL K) (tVar 2) (tC (.int 0))) (tCons (tOp (rIxL K) (tVar 2) (tC (.int 1))) tNil))) tNil)))))))) (tRet (tC .non)) tNext)
    (tRet (tTup (tCons (tOp (rIxL K) (tVar 2) (tC (.int 0))) (tCons (tOp (rIxL K) (tVar 2) (tC (.int 1))) tNil))))))
theorem pure_way_of {v0 v1 : V} {H : Hp} {Q : VK} {E : XK} (h : pr_way_of K v0 v1 H Q E) : t_way_of K ⟨fun _ H' => Q .non H', Q, fun _ _ => False, fun _ _ => False⟩ [some v0, some v1, none] H := by
  obtain ⟨a, N, w, ls, rfl, hd, ha, hz, hl, q0, q1⟩ := h
  unfold wayOf at q0 q1
  unfold t_way_of
  wtm_at "s"
  refine k_slL ha (fun w1 H1 nw1 s1 e1 => ?_)
  rw [strs_drop] at e1
  wtm_at "s"
  refine ⟨_, rfl, w1, ls, rfl, sl e1, hz, hl, fun hn H2 s2 => ?_, fun ns hn sz H2 nsz s2 esz => ?_⟩
  · have s12 := s1.trans s2
    wtm_at "s"
    refine k_ixL (s12.seq ha) (strs_at0 _ _) ?_
    wtm_at "s"
    refine k_neS ?_
    rw [hn] at q0
    by_cases c : w = sg (Str.ofString "way")
    · rw [decide_eq_true (mk_eq.mpr c)]
      wtm_at "s"
      exact q0 (by rw [if_pos c]) H2 s12
    · rw [decide_eq_false fun z => c (mk_eq.mp z)]
      wtm_at "s"
      exact q0 (by rw [if_neg c]) H2 s12
  · have s12 := s1.trans s2
    have nsz0 := s1.free nsz
    wtm_at "s"
    refine k_ixL (s12.seq ha) (strs_at0 _ _) ?_
    wtm_at "s"
    refine k_neS ?_
    rw [hn] at q0 q1
    by_cases c : w = sg (Str.ofString "way")
    · rw [decide_eq_true (mk_eq.mpr c)]
      rw [if_pos c] at q0 q1
      refine ⟨_, rfl, iteNT ?_⟩
      wtm_at "s"
      match ns, esz, q0, q1 with
      | [], esz, q0, q1 => wtm_at "s"; exact q0 rfl H2 s12
      | [x], esz, q0, q1 => wtm_at "s"; exact q0 rfl H2 s12
      | x :: y :: z :: r, esz, q0, q1 =>
        refine k_itNT (by simp; omega) ?_
        wtm_at "s"
        exact q0 rfl H2 s12
      | [x, y], esz, q0, q1 =>
        refine k_itNF rfl ?_
        wtm_at "s"
        refine k_ixL (sl esz) (v := .int x) rfl ?_
        wtm_at "s"
        refine k_ixL (sl esz) (v := .int y) rfl ?_
        wtm_at "s"
        refine kT (by simp) (fun t H3 nt s3 et => ?_)
        wtm_at "s"
        refine ⟨_, _, rfl, N, x, y, dp_same (s12.trans s3) hd, dp_of_pair (stp et), ?_⟩
        wtm_at "s"
        refine k_itn (fun d => ?_) (fun d => ?_)
        · wtm_at "s"
          exact q0 (by show (if isWay N x y then some (x, y) else none) = none; rw [if_neg d]) H3 (s12.trans s3)
        · wtm_at "s"
          refine k_ixL (sl (s3 _ _ esz)) (v := .int x) rfl ?_
          wtm_at "s"
          refine k_ixL (sl (s3 _ _ esz)) (v := .int y) rfl ?_
          wtm_at "s"
          exact kT (by simp) (fun p H4 np s4 e4 => q1 x y (by show (if isWay N x y then some (x, y) else none) = some (x, y); rw [if_pos d]) p H4 ((s12.trans s3).free np) (s12.trans (s3.trans s4)) e4)
    · rw [decide_eq_false fun z => c (mk_eq.mp z)]
      wtm_at "s"
      exact q0 (by rw [if_neg c]) H2 s12
abbrev sp_way_of (K : PySem.W.Frag) : Sp := fun vs H Q E => ∃ v0 v1, vs = [v0, v1] ∧ pr_way_of K v0 v1 H Q E
theorem ok_way_of (T : Txt K mg A) : FnOk P w K mg base CX0 3 A.a_way_of A.d_way_of ["net", "words"] (sp_way_of K) := by
  refine T.F_way_of.ok sc_way_of (fun vs H Q E h => by obtain ⟨v0, v1, rfl, _⟩ := h; rfl) (fun cdv A0 outer s H vs Q E hr h => ?_)
  obtain ⟨v0, v1, rfl, h⟩ := h
  exact ⟨t_way_of K, (pss_cons (ps_set (i := 2) sc_way_of.nd rfl (Or.inl rfl) (pe_call (ok_numbers_of T) (hr.mono (by decide)) (by rfl) T.g_numbers_of T.F_numbers_of.kp T.b_numbers_of .nil pass0 (pa_cons (pe_slice sl_list (pv 1) (po_some pe_int) po_none) pa_nil)))
      (pss_cons (ps_if (PW.pt (pw_or (pt_cmpR op_ne (pe_ix ix_list (pv 1) pe_int (fun _ _ => rfl)) pe_str (nomark _)) (pw_or (pt_cmpR op_isN (pv 2) pe_non (nomark _)) (pw_or (pt_cmpR op_ne (pe_callB q_len (by rfl) T.z_len (by decide +kernel) (pa_cons (pv 2) pa_nil)) pe_int (nomark _)) (pw_or1 (pt_not (pt_val (pe_call (ok_is_way T) (hr.mono (by decide)) (by rfl) T.g_is_way T.F_is_way.kp T.b_is_way .nil pass0 (pa_cons (pv 0) (pa_cons (pe_tup (pa_cons (pe_ix ix_list (pv 2) pe_int (fun _ _ => rfl)) (pa_cons (pe_ix ix_list (pv 2) pe_int (fun _ _ => rfl)) pa_nil))) pa_nil)))))))))) (pss_one (ps_ret pe_non)) pss_nil)
      (pss_one (ps_ret (pe_tup (pa_cons (pe_ix ix_list (pv 2) pe_int (fun _ _ => rfl)) (pa_cons (pe_ix ix_list (pv 2) pe_int (fun _ _ => rfl)) pa_nil))))))), pure_way_of h⟩


/-! ### what words tell -/
theorem num_nonneg {l : List Nat} {n : Int} (h : numOf l = some n) : 0 ≤ n ∧ n < 10 ^ 30 := by
  unfold numOf at h
  split at h
  · cases h
  · rename_i c
    split at h
    · rename_i al
      cases h
      have hl : l.length ≤ 30 := by
        refine Classical.byContradiction fun z => c (.inr (.inl (by omega)))
      have key : ∀ (m : List Nat) (t : Int) (k : Nat), m.all isDig = true → 0 ≤ t → t < 10 ^ k → 0 ≤ m.foldl (fun (t : Int) (c : Nat) => t * 10 + ((c : Int) - 48)) t ∧ m.foldl (fun (t : Int) (c : Nat) => t * 10 + ((c : Int) - 48)) t < 10 ^ (k + m.length) := by
        intro m
        induction m with
        | nil => intro t k _ h0 h1; exact ⟨h0, h1⟩
        | cons d r ih =>
          intro t k hd h0 h1
          rw [List.all_cons, Bool.and_eq_true] at hd
          have dd := of_decide_eq_true hd.1
          simp only [List.mem_cons, List.not_mem_nil, or_false] at dd
          have e : (10 : Int) ^ (k + 1) = 10 ^ k * 10 := Int.pow_succ 10 k
          have := ih (t * 10 + ((d : Int) - 48)) (k + 1) hd.2 (by omega) (by omega)
          rw [List.foldl_cons, List.length_cons, show k + (r.length + 1) = k + 1 + r.length by omega]
          exact this
      have := key l 0 0 al (by omega) (by decide)
      refine ⟨this.1, Int.lt_of_lt_of_le this.2 ?_⟩
      rw [Nat.zero_add]
      have : (10 : Nat) ^ l.length ≤ 10 ^ 30 := Nat.pow_le_pow_right (by decide) hl
      have e : ((10 ^ l.length : Nat) : Int) = (10 : Int) ^ l.length := Int.natCast_pow 10 l.length
      rw [← e]
      exact Int.ofNat_le.mpr this
    · cases h
theorem nums_nonneg : ∀ {ls : List (List Nat)} {ns : List Int}, numsOf ls = some ns → ns.length = ls.length ∧ ∀ n ∈ ns, Num30 n
  | [], ns, h => by cases h; exact ⟨rfl, fun n h => nomatch h⟩
  | l :: r, ns, h => by
    unfold numsOf at h
    cases h1 : numOf l with
    | none => rw [h1] at h; cases h
    | some n =>
      cases h2 : numsOf r with
      | none => rw [h1, h2] at h; cases h
      | some ms =>
        rw [h1, h2] at h
        cases h
        obtain ⟨a, b⟩ := nums_nonneg h2
        refine ⟨by simp [a], fun x hx => ?_⟩
        rcases List.mem_cons.mp hx with rfl | hx
        · exact num_nonneg h1
        · exact b x hx
instance (ps : List Int) : Decidable (TreeOk ps) := by unfold TreeOk; infer_instance
/-- the net that words tell -/
def netW (w : List Nat) (ls : List (List Nat)) : Option Net := match numsOf ls with
  | some (n :: r) => if w = sg (Str.ofString "tree") then if TreeOk (n :: r) then some (.tree (n :: r)) else none
    else if r = [] then if w = sg (Str.ofString "line") ∧ 2 ≤ n ∧ n ≤ 60 then some (.line n) else if w = sg (Str.ofString "ring") ∧ 3 ≤ n ∧ n ≤ 60 then some (.ring n) else none
    else none
  | _ => none
theorem netW_ok {w : List Nat} {ls : List (List Nat)} {N : Net} (h : netW w ls = some N) : N.ok := by
  unfold netW at h
  split at h
  · split at h
    · split at h
      · rename_i c; cases h; exact c
      · cases h
    · split at h
      · split at h
        · rename_i c; cases h; exact c.2
        · split at h
          · rename_i c; cases h; exact c.2
          · cases h
      · cases h
  · cases h
open Classical in
/-- the hues that words tell -/
noncomputable def huesW (N : Net) (ws : List (Int × Int)) (w : List Nat) (ls : List (List Nat)) : Option (List Int) := if w = sg (Str.ofString "hues") then match numsOf ls with
    | some hs => if RightH N ws hs then some hs else none
    | none => none
  else none
theorem huesW_right {N : Net} {ws : List (Int × Int)} {w : List Nat} {ls : List (List Nat)} {hs : List Int} (h : huesW N ws w ls = some hs) : RightH N ws hs := by
  unfold huesW at h
  split at h
  · split at h
    · split at h
      · rename_i c; cases h; exact c
      · cases h
    · cases h
  · cases h
def wordsL (r : List Nat) : List (List Nat) := splitL 32 r
/-- a row more -/
noncomputable def stepR (N : Net) (st : List (Int × Int) × Option (List Int)) (r : List Nat) : Option (List (Int × Int) × Option (List Int)) := match st.2 with
  | some _ => none
  | none => match wayOf N ((wordsL r).headD []) (wordsL r).tail with
    | some a => if st.1.length < 40 then some (st.1 ++ [a], none) else none
    | none => (huesW N st.1 ((wordsL r).headD []) (wordsL r).tail).map fun h => (st.1, some h)
noncomputable def runR (N : Net) : List (List Nat) → Nat → List (Int × Int) × Option (List Int) → Nat ⊕ (List (Int × Int) × Option (List Int))
  | [], _, st => .inr st
  | r :: rs, k, st => match stepR N st r with
    | none => .inl k
    | some st' => runR N rs (k + 1) st'
inductive ReadR where
  | bad (k : Nat)
  | good (N : Net) (ws : List (Int × Int)) (ho : Option (List Int))
def midR (rows : List (List Nat)) : List (List Nat) := (rows.drop 1).take (rows.length - 2)
def finR (rows : List (List Nat)) (N : Net) : Nat ⊕ (List (Int × Int) × Option (List Int)) → ReadR
  | .inl k => .bad k
  | .inr st => if rows.getLastD [] = [] then .good N st.1 st.2 else .bad (rows.length - 1)
noncomputable def readRows (rows : List (List Nat)) : ReadR := if rows.length = 1 then .bad 0 else match netW ((wordsL (rows.headD [])).headD []) (wordsL (rows.headD [])).tail with
  | none => .bad 0
  | some N => finR rows N (runR N (midR rows) 1 ([], none))
noncomputable def readS (l : List Nat) : ReadR := readRows (splitL 10 l)
theorem rr_one {rows : List (List Nat)} (h : rows.length = 1) : readRows rows = .bad 0 := if_pos h
theorem rr_none {rows : List (List Nat)} {r w : List Nat} {ls : List (List Nat)} (h : rows.length ≠ 1) (hd : rows.headD [] = r) (hw : wordsL r = w :: ls) (hn : netW w ls = none) : readRows rows = .bad 0 := by
  unfold readRows
  rw [if_neg h, hd, hw]
  show (match netW w ls with | none => ReadR.bad 0 | some N => finR rows N (runR N (midR rows) 1 ([], none))) = _
  rw [hn]
theorem rr_some {rows : List (List Nat)} {r w : List Nat} {ls : List (List Nat)} {N : Net} (h : rows.length ≠ 1) (hd : rows.headD [] = r) (hw : wordsL r = w :: ls) (hn : netW w ls = some N) : readRows rows = finR rows N (runR N (midR rows) 1 ([], none)) := by
  unfold readRows
  rw [if_neg h, hd, hw]
  show (match netW w ls with | none => ReadR.bad 0 | some N => finR rows N (runR N (midR rows) 1 ([], none))) = _
  rw [hn]
theorem step_eq {N : Net} {ws : List (Int × Int)} {r w : List Nat} {ls : List (List Nat)} (hw : wordsL r = w :: ls) : stepR N (ws, none) r = match wayOf N w ls with
    | some a => if ws.length < 40 then some (ws ++ [a], none) else none
    | none => (huesW N ws w ls).map fun h => (ws, some h) := by
  unfold stepR
  rw [hw]
  rfl
theorem run_stop {N : Net} {r : List Nat} : ∀ {rs : List (List Nat)} {k : Nat} {st st' : List (Int × Int) × Option (List Int)} {i : Nat}, rs[i]? = some r → runR N (rs.take i) k st = Sum.inr st' → stepR N st' r = none → runR N rs k st = Sum.inl (k + i)
  | [], _, _, _, _, h, _, _ => by cases h
  | q :: rs, k, st, st', 0, h, h1, h2 => by
    cases h
    cases h1
    show (match stepR N st r with | none => Sum.inl k | some st' => runR N rs (k + 1) st') = _
    rw [h2]; rfl
  | q :: rs, k, st, st', i + 1, h, h1, h2 => by
    rw [List.take_succ_cons] at h1
    unfold runR at h1 ⊢
    cases hs : stepR N st q with
    | none => rw [hs] at h1; cases h1
    | some s2 =>
      rw [hs] at h1
      have := run_stop (rs := rs) (k := k + 1) (i := i) h h1 h2
      show runR N rs (k + 1) s2 = _
      rw [this]
      congr 1; omega
theorem run_more {N : Net} {r : List Nat} : ∀ {rs : List (List Nat)} {k : Nat} {st st' s2 : List (Int × Int) × Option (List Int)} {i : Nat}, rs[i]? = some r → runR N (rs.take i) k st = Sum.inr st' → stepR N st' r = some s2 → runR N (rs.take (i + 1)) k st = Sum.inr s2
  | [], _, _, _, _, _, h, _, _ => by cases h
  | q :: rs, k, st, st', s2, 0, h, h1, h2 => by
    cases h
    cases h1
    show (match stepR N st r with | none => Sum.inl k | some st' => runR N [] (k + 1) st') = _
    rw [h2]; rfl
  | q :: rs, k, st, st', s2, i + 1, h, h1, h2 => by
    rw [List.take_succ_cons] at h1 ⊢
    unfold runR at h1 ⊢
    cases hs : stepR N st q with
    | none => rw [hs] at h1; cases h1
    | some s3 =>
      rw [hs] at h1
      exact run_more (rs := rs) (k := k + 1) (i := i) h h1 h2
/-- what stands so far -/
structure StOk (N : Net) (st : List (Int × Int) × Option (List Int)) : Prop where
  len : st.1.length ≤ 40
  way : ∀ w ∈ st.1, isWay N w.1 w.2
  hue : ∀ hs, st.2 = some hs → RightH N st.1 hs
theorem wayOf_ok {N : Net} {w : List Nat} {ls : List (List Nat)} {a : Int × Int} (h : wayOf N w ls = some a) : isWay N a.1 a.2 ∧ w = sg (Str.ofString "way") := by
  unfold wayOf at h
  split at h
  · rename_i c
    split at h
    · split at h
      · rename_i d; cases h; exact ⟨d, c⟩
      · cases h
    · cases h
  · cases h
theorem step_ok {N : Net} {st s2 : List (Int × Int) × Option (List Int)} {r : List Nat} (o : StOk N st) (h : stepR N st r = some s2) : StOk N s2 := by
  obtain ⟨ws, ho⟩ := st
  unfold stepR at h
  cases ho with
  | some hs => cases h
  | none =>
    simp only at h
    split at h
    · rename_i a ha
      split at h
      · rename_i c
        cases h
        refine ⟨by simp; omega, fun w hw => ?_, fun hs e => by cases e⟩
        rcases List.mem_append.mp hw with hw | hw
        · exact o.way w hw
        · rw [List.mem_singleton.mp hw]; exact (wayOf_ok ha).1
      · cases h
    · rename_i ha
      cases hh : huesW N ws ((wordsL r).headD []) (wordsL r).tail with
      | none => rw [hh] at h; cases h
      | some hs =>
        rw [hh] at h
        cases h
        exact ⟨o.len, o.way, fun hs' e => by cases e; exact huesW_right hh⟩
theorem run_ok {N : Net} : ∀ {rs : List (List Nat)} {k : Nat} {st s2 : List (Int × Int) × Option (List Int)}, StOk N st → runR N rs k st = Sum.inr s2 → StOk N s2
  | [], _, _, _, o, h => by cases h; exact o
  | r :: rs, k, st, s2, o, h => by
    unfold runR at h
    cases hs : stepR N st r with
    | none => rw [hs] at h; cases h
    | some s3 => rw [hs] at h; exact run_ok (step_ok o hs) h
theorem st0_ok (N : Net) : StOk N ([], none) := ⟨by decide, (fun w h => nomatch h), fun hs e => by cases e⟩
theorem read_ok {l : List Nat} {N : Net} {ws : List (Int × Int)} {ho : Option (List Int)} (h : readS l = .good N ws ho) : N.ok ∧ ws.length ≤ 40 ∧ (∀ w ∈ ws, isWay N w.1 w.2) ∧ ∀ hs, ho = some hs → RightH N ws hs := by
  unfold readS readRows at h
  split at h
  · cases h
  · split at h
    · cases h
    · rename_i M hM
      cases hr : runR M (midR (splitL 10 l)) 1 ([], none) with
      | inl k => rw [hr] at h; cases h
      | inr st =>
        rw [hr] at h
        replace h : (if (splitL 10 l).getLastD [] = [] then ReadR.good M st.1 st.2 else .bad ((splitL 10 l).length - 1)) = .good N ws ho := h
        by_cases c : (splitL 10 l).getLastD [] = []
        · rw [if_pos c] at h
          cases h
          have := run_ok (st0_ok _) hr
          exact ⟨netW_ok hM, this.len, this.way, this.hue⟩
        · rw [if_neg c] at h
          cases h
theorem words_ne (r : List Nat) : ∃ w ls, wordsL r = w :: ls := by
  have := splitL_ne 32 r
  cases h : wordsL r with
  | nil => exact absurd h this
  | cons w ls => exact ⟨w, ls, rfl⟩


def pr_net_of (K : PySem.W.Frag) (A : Ad) (v0 : V) (H : Hp) (Q : VK) (_ : XK) : Prop := ∃ (a : Addr) (w : List Nat) (ls : List (List Nat)), v0 = .ref a ∧ SqL K H a (strsV (w :: ls)) ∧ ls.length ≤ 9000 ∧ (∀ l ∈ ls, l.length ≤ 90000) ∧ (netW w ls = none → ∀ H', Same H H' → Q .non H') ∧ (∀ N, netW w ls = some N → ∀ v H', Same H H' → NetNew H H' v N → (∃ p, v = .ref p) → Q v H')
def t_net_of (K : PySem.W.Frag) (A : Ad) : TS :=
  (tSeq (tAsg (tCall (sp_numbers_of K) [] E0 (tCons (tSl (rSlL K) (tVar 0) (tPart (tC (.int 1))) tNoPart) tNil)) (gName 1))
    (tSeq (tIfS (tOr (tTest (tOp xIsN (tVar 1) (tC .non))) (tTest (tOp (rEqD K) (tVar 1) (tLst tNil)))) (tRet (tC .non)) tNext)
    (tSeq (tAsg (tTup (tCons (tC (.str (Str.ofString "tree"))) (tCons (tVar 1) tNil))) (gName 2))
    (tSeq (tIfS (tTest (tOp rNe (tOp (rIxL K) (tVar 0) (tC (.int 0))) (tC (.str (Str.ofString "tree"))))) (tSeq (tAsg (tTup (tCons (tOp (rIxL K) (tVar 0) (tC (.int 0))) (tCons (tOp (rIxL K) (tVar 1) (tC (.int 0))) tNil))) (gName 2))
    (tIfS (tTest (tOp xGt (tCB (rLenX K) (tCons (tVar 1) tNil)) (tC (.int 1)))) (tRet (tC .non)) tNext)) tNext)
    (tSeq (tTryO K (.ref A.c_NoNet) (tRet (tC .non)) fun W => (tDrop (tCallS (sp_look_net K A) (WE W) (tCons (tVar 2) tNil))))
    (tRet (tVar 2)))))))
theorem pure_net_of (T : Txt K mg A) {v0 : V} {H : Hp} {Q : VK} {E : XK} (h : pr_net_of K A v0 H Q E) : t_net_of K A ⟨fun _ H' => Q .non H', Q, fun _ _ => False, fun _ _ => False⟩ [some v0, none, none] H := by
  obtain ⟨a, w, ls, rfl, ha, hz, hl, q0, q1⟩ := h
  unfold netW at q0 q1
  unfold t_net_of
  wtm_at "s"
  refine k_slL ha (fun w1 H1 nw1 s1 e1 => ?_)
  rw [strs_drop] at e1
  wtm_at "s"
  refine ⟨_, rfl, w1, ls, rfl, sl e1, by omega, hl, fun hn H2 s2 => ?_, fun ns hn sz H2 nsz s2 esz => ?_⟩
  · rw [hn] at q0
    wtm_at "s"
    exact q0 rfl H2 (s1.trans s2)
  have s12 := s1.trans s2
  have nsz0 := s1.free nsz
  rw [hn] at q0 q1
  wtm_at "s"
  refine kL (by simp) (fun em H3 nem s3 eem => ?_)
  refine k_eqD (n := 4) (c := dInts ns) (d := .list []) (dpI_at esz s3) (.lst (sl eem) .nil) (sh_ints _) (sh_list fun d hd => by cases hd) (by decide) ?_
  cases ns with
  | nil =>
    rw [show PyData.eqv (dInts []) (.list []) = true from rfl]
    wtm_at "s"
    exact q0 rfl H3 (s12.trans s3)
  | cons n r =>
  rw [eqv_ne]
  wtm_at "s"
  refine kT (by simp) (fun t H4 nt s4 et => ?_)
  have s14 := s12.trans (s3.trans s4)
  have ez : H4 sz = some (.lst (List.map V.int (n :: r))) := (s3.trans s4) _ _ esz
  wtm_at "s"
  refine k_ixL (s14.seq ha) (strs_at0 _ _) ?_
  wtm_at "s"
  refine k_neS ?_
  have lr : r.length ≤ 9000 := by have := (nums_nonneg hn).1; simp at this; omega
  by_cases c : w = sg (Str.ofString "tree")
  · rw [decide_eq_true (mk_eq.mpr c)]
    simp only [if_pos c] at q0 q1
    wtm_at "s"
    have dT : Dp K H4 (.ref t) (ANet.d ⟨Str.ofString "tree", .inr (n :: r)⟩) := .tup (stp et) (.cons (.str _) (.cons (dp_of_ints (sl ez)) .nil))
    by_cases o : TreeOk (n :: r)
    · refine ⟨_, rfl, ⟨Str.ofString "tree", .inr (n :: r)⟩, dT, lens_r (by simp; omega), .inr ⟨aok_t.mpr o, ?_⟩⟩
      wtm_at "s"
      exact q1 (.tree (n :: r)) (if_pos o) _ H4 s14 ⟨t, sz, rfl, et, nsz0, ez⟩ ⟨t, rfl⟩
    · refine ⟨_, rfl, ⟨Str.ofString "tree", .inr (n :: r)⟩, dT, lens_r (by simp; omega), .inl ⟨fun z => o (aok_t.mp z), ?_⟩⟩
      refine k_only (PySem.W.exm_ref T.x_NoNet.hs T.x_NoNet.hd T.t_NoNet T.s_NoNet) ?_
      wtm_at "s"
      exact q0 (if_neg o) H4 s14
  · rw [decide_eq_false fun z => c (mk_eq.mp z)]
    simp only [if_neg c] at q0 q1
    wtm_at "s"
    refine k_ixL (s14.seq ha) (strs_at0 _ _) ?_
    wtm_at "s"
    refine k_ixL (sl ez) (v := .int n) (atI_nat (j := 0) rfl) ?_
    wtm_at "s"
    refine kT (by simp) (fun t2 H5 nt2 s5 et2 => ?_)
    have s15 := s14.trans s5
    wtm_at "s"
    cases r with
    | cons m r =>
      refine k_itDT (by show (1 : Int) < ((r.length + 1 + 1 : Nat) : Int); omega) ?_
      wtm_at "s"
      exact q0 (if_neg (by simp)) H5 s15
    | nil =>
    simp only [if_true] at q0 q1
    refine k_itDF (by show ¬ (1 : Int) < ((1 : Nat) : Int); decide) ?_
    have dM : Dp K H5 (.ref t2) (ANet.d ⟨mkS w, .inl n⟩) := .tup (stp et2) (.cons (.str _) (.cons (.int _) .nil))
    by_cases cl : w = sg (Str.ofString "line") ∧ 2 ≤ n ∧ n ≤ 60
    · have ew : mkS w = Str.ofString "line" := mk_eq.mpr cl.1
      rw [ew] at dM et2
      wtm_at "s"
      refine ⟨_, rfl, ⟨Str.ofString "line", .inl n⟩, dM, lens_l, .inr ⟨aok_l.mpr cl.2, ?_⟩⟩
      wtm_at "s"
      exact q1 (.line n) (if_pos cl) _ H5 s15 ⟨t2, rfl, et2⟩ ⟨t2, rfl⟩
    · by_cases cr : w = sg (Str.ofString "ring") ∧ 3 ≤ n ∧ n ≤ 60
      · have ew : mkS w = Str.ofString "ring" := mk_eq.mpr cr.1
        rw [ew] at dM et2
        wtm_at "s"
        refine ⟨_, rfl, ⟨Str.ofString "ring", .inl n⟩, dM, lens_l, .inr ⟨aok_r.mpr cr.2, ?_⟩⟩
        wtm_at "s"
        exact q1 (.ring n) (by rw [if_neg cl, if_pos cr]) _ H5 s15 ⟨t2, rfl, et2⟩ ⟨t2, rfl⟩
      · have no : ¬ ANet.ok ⟨mkS w, .inl n⟩ := fun o => by
          by_cases x1 : mkS w = Str.ofString "line"
          · rw [x1] at o; exact cl ⟨mk_eq.mp x1, aok_l.mp o⟩
          · by_cases x2 : mkS w = Str.ofString "ring"
            · rw [x2] at o; exact cr ⟨mk_eq.mp x2, aok_r.mp o⟩
            · exact aok_o x1 x2 (fun z => c (mk_eq.mp z)) o
        wtm_at "s"
        refine ⟨_, rfl, ⟨mkS w, .inl n⟩, dM, lens_l, .inl ⟨no, ?_⟩⟩
        refine k_only (PySem.W.exm_ref T.x_NoNet.hs T.x_NoNet.hd T.t_NoNet T.s_NoNet) ?_
        wtm_at "s"
        exact q0 (by rw [if_neg cl, if_neg cr]) H5 s15
abbrev sp_net_of (K : PySem.W.Frag) (A : Ad) : Sp := fun vs H Q E => ∃ v0, vs = [v0] ∧ pr_net_of K A v0 H Q E
theorem ok_net_of (T : Txt K mg A) : FnOk P w K mg base CX0 4 A.a_net_of A.d_net_of ["words"] (sp_net_of K A) := by
  refine T.F_net_of.ok sc_net_of (fun vs H Q E h => by obtain ⟨v0, rfl, _⟩ := h; rfl) (fun cdv A0 outer s H vs Q E hr h => ?_)
  obtain ⟨v0, rfl, h⟩ := h
  exact ⟨t_net_of K A, (pss_cons (ps_set (i := 1) sc_net_of.nd rfl (Or.inl rfl) (pe_call (ok_numbers_of T) (hr.mono (by decide)) (by rfl) T.g_numbers_of T.F_numbers_of.kp T.b_numbers_of .nil pass0 (pa_cons (pe_slice sl_list (pv 0) (po_some pe_int) po_none) pa_nil)))
      (pss_cons (ps_if (PW.pt (pw_or (pt_cmpR op_isN (pv 1) pe_non (nomark _)) (pw_or1 (pt_cmpR (op_eqD hr.units) (pv 1) (pe_lst pa_nil) (nomark _))))) (pss_one (ps_ret pe_non)) pss_nil)
      (pss_cons (ps_set (i := 2) sc_net_of.nd rfl (Or.inl rfl) (pe_tup (pa_cons pe_str (pa_cons (pv 1) pa_nil))))
      (pss_cons (ps_if (pt_cmpR op_ne (pe_ix ix_list (pv 0) pe_int (fun _ _ => rfl)) pe_str (nomark _)) (pss_cons (ps_set (i := 2) sc_net_of.nd rfl (Or.inl rfl) (pe_tup (pa_cons (pe_ix ix_list (pv 0) pe_int (fun _ _ => rfl)) (pa_cons (pe_ix ix_list (pv 1) pe_int (fun _ _ => rfl)) pa_nil))))
      (pss_one (ps_if (pt_cmpR op_gt (pe_callB q_len (by rfl) T.z_len (by decide +kernel) (pa_cons (pv 1) pa_nil)) pe_int (nomark _)) (pss_one (ps_ret pe_non)) pss_nil))) pss_nil)
      (pss_cons (ps_try_only (tb := fun W => (tDrop (tCallS (sp_look_net K A) (WE W) (tCons (tVar 2) tNil)))) (ts := fun _ _ _ => tRet (tC .non)) (Wout := fun _ _ _ _ => False) rfl rfl ⟨by rfl, by decide, Or.inl T.k_NoNet⟩ takes0
      (fun W pn xe tk _ => (pss_one (ps_expr (pe_callS (ok_look_net T) (hr.mono (by decide)) (by rfl) T.g_look_net T.F_look_net.kp T.b_look_net (fun σ => passAt tk σ) (pa_cons (pv 2) pa_nil)))))
      (fun a oe cls d pn hz hf => (pss_one (ps_ret pe_non))))
      (pss_one (ps_ret (pv 2)))))))), pure_net_of T h⟩


def pr_hues_of (K : PySem.W.Frag) (A : Ad) (v0 v1 v2 : V) (H : Hp) (Q : VK) (_ : XK) : Prop := ∃ (a : Addr) (N : Net) (ws : List (Int × Int)) (w : List Nat) (ls : List (List Nat)), v2 = .ref a ∧ Dp K H v0 N.d ∧ N.ok ∧ Dp K H v1 (dPairs ws) ∧ ws.length ≤ 1000 ∧ (∀ w ∈ ws, isWay N w.1 w.2) ∧ SqL K H a (strsV (w :: ls)) ∧ ls.length ≤ 9000 ∧ (∀ l ∈ ls, l.length ≤ 90000) ∧
  (huesW N ws w ls = none → ∀ H', Same H H' → Q .non H') ∧ ∀ hs, huesW N ws w ls = some hs → ∀ p H', H p = none → Same H H' → H' p = some (.lst (List.map V.int hs)) → Q (.ref p) H'
def t_hues_of (K : PySem.W.Frag) (A : Ad) (E : XK) : TS :=
  (tSeq (tAsg (tCall (sp_numbers_of K) [] E0 (tCons (tSl (rSlL K) (tVar 2) (tPart (tC (.int 1))) tNoPart) tNil)) (gName 3))
    (tSeq (tIfS (tOr (tTest (tOp rNe (tOp (rIxL K) (tVar 2) (tC (.int 0))) (tC (.str (Str.ofString "hues"))))) (tOr (tTest (tOp xIsN (tVar 3) (tC .non))) (tTest (tOp xNotN (tCall (sp_clash K A) [] E (tCons (tVar 0) (tCons (tVar 1) (tCons (tVar 3) tNil)))) (tC .non))))) (tRet (tC .non)) tNext)
    (tRet (tVar 3))))
theorem pure_hues_of {v0 v1 v2 : V} {H : Hp} {Q : VK} {E : XK} (h : pr_hues_of K A v0 v1 v2 H Q E) : t_hues_of K A E ⟨fun _ H' => Q .non H', Q, fun _ _ => False, fun _ _ => False⟩ [some v0, some v1, some v2, none] H := by
  obtain ⟨a, N, ws, w, ls, rfl, hd, ok, hw, hz, hok, ha, hz2, hl, q0, q1⟩ := h
  unfold huesW at q0 q1
  unfold t_hues_of
  wtm_at "s"
  refine k_slL ha (fun w1 H1 nw1 s1 e1 => ?_)
  rw [strs_drop] at e1
  wtm_at "s"
  refine ⟨_, rfl, w1, ls, rfl, sl e1, by omega, hl, fun hn H2 s2 => ?_, fun ns hn sz H2 nsz s2 esz => ?_⟩
  · have s12 := s1.trans s2
    rw [hn] at q0
    wtm_at "s"
    refine k_ixL (s12.seq ha) (strs_at0 _ _) ?_
    wtm_at "s"
    refine k_neS ?_
    by_cases c : w = sg (Str.ofString "hues")
    · rw [decide_eq_true (mk_eq.mpr c)]
      wtm_at "s"
      exact q0 (if_pos c) H2 s12
    · rw [decide_eq_false fun z => c (mk_eq.mp z)]
      wtm_at "s"
      exact q0 (if_neg c) H2 s12
  have s12 := s1.trans s2
  have nsz0 := s1.free nsz
  rw [hn] at q0 q1
  wtm_at "s"
  refine k_ixL (s12.seq ha) (strs_at0 _ _) ?_
  wtm_at "s"
  refine k_neS ?_
  by_cases c : w = sg (Str.ofString "hues")
  · rw [decide_eq_true (mk_eq.mpr c)]
    simp only [if_pos c] at q0 q1
    wtm_at "s"
    refine ⟨_, _, _, rfl, N, ws, ns, dp_same s12 hd, ok, dp_same s12 hw, by omega, hok, dp_of_ints (sl esz), fun z p H3 np s3 e3 => ?_, fun z1 z2 H3 s3 => ?_, fun i j z1 z2 p H3 np s3 e3 => ?_⟩
    · wtm_at "s"
      exact q0 (if_neg fun r => z r.1) H3 (s12.trans s3)
    · wtm_at "s"
      exact q1 ns (if_pos ⟨z1, z2, (nums_nonneg hn).2⟩) sz H3 nsz0 (s12.trans s3) (s3 _ _ esz)
    · wtm_at "s"
      exact q0 (if_neg fun r => r.2.1 i j z2.1) H3 (s12.trans s3)
  · rw [decide_eq_false fun z => c (mk_eq.mp z)]
    wtm_at "s"
    exact q0 (if_neg c) H2 s12
abbrev sp_hues_of (K : PySem.W.Frag) (A : Ad) : Sp := fun vs H Q E => ∃ v0 v1 v2, vs = [v0, v1, v2] ∧ pr_hues_of K A v0 v1 v2 H Q E
theorem ok_hues_of (T : Txt K mg A) : FnOk P w K mg base (L2.CX P w) 6 A.a_hues_of A.d_hues_of ["net", "ways", "words"] (sp_hues_of K A) := by
  refine T.F_hues_of.okX sc_hues_of (fun vs H Q E h => by obtain ⟨v0, v1, v2, rfl, _⟩ := h; rfl) (fun cdv A0 outer s H vs Q E hr h => ?_)
  obtain ⟨v0, v1, v2, rfl, h⟩ := h
  exact ⟨t_hues_of K A E, (pss_cons (ps_set (i := 3) sc_hues_of.nd rfl (Or.inl rfl) (pe_call (ok_numbers_of T) (hr.mono (by decide)) (by rfl) T.g_numbers_of T.F_numbers_of.kp T.b_numbers_of .nil pass0 (pa_cons (pe_slice sl_list (pv 2) (po_some pe_int) po_none) pa_nil)))
      (pss_cons (ps_if (PW.pt (pw_or (pt_cmpR op_ne (pe_ix ix_list (pv 2) pe_int (fun _ _ => rfl)) pe_str (nomark _)) (pw_or (pt_cmpR op_isN (pv 3) pe_non (nomark _)) (pw_or1 (pt_cmpR op_notN (pe_call (E := E) (ok_clash T) (hr.mono (by decide)) (by rfl) T.g_clash T.F_clash.kp T.b_clash .nil (passes_call (takes_of rfl rfl rfl rfl) (fun _ _ _ _ h => h)) (pa_cons (pv 0) (pa_cons (pv 1) (pa_cons (pv 3) pa_nil)))) pe_non (nomark _)))))) (pss_one (ps_ret pe_non)) pss_nil)
      (pss_one (ps_ret (pv 3))))), pure_hues_of h⟩


theorem mid_len (rows : List (List Nat)) : (midR rows).length = rows.length - 2 := by unfold midR; rw [List.length_take, List.length_drop]; omega
theorem mid_at {rows : List (List Nat)} {i : Nat} (h : i + 2 < rows.length) : (midR rows)[i]? = rows[1 + i]? := by
  unfold midR
  rw [List.getElem?_take_of_lt (by omega), List.getElem?_drop]
theorem words_len (r : List Nat) : (wordsL r).length ≤ r.length + 1 ∧ ∀ p ∈ wordsL r, p.length ≤ r.length := splitL_len 32 r
theorem sg_sp : sg (Str.ofString " ") = [32] := by rw [sg_str]; rfl
def HueIs (H : Hp) (hv : V) : Option (List Int) → Prop
  | none => hv = .non
  | some hs => ∃ p, hv = .ref p ∧ H p = some (.lst (hs.map V.int))
theorem HueIs.dp {K : PySem.W.Frag} {H H' : Hp} {hv : V} {ho : Option (List Int)} (h : HueIs H hv ho) (s : Same H H') : Dp K H' hv (dHues ho) := by
  cases ho with
  | none => rw [show hv = .non from h]; exact .non
  | some hs => obtain ⟨p, rfl, e⟩ := h; exact dp_of_ints (sl (s _ _ e))
/-- what read_net does: told, or refused with the row -/
def pr_read_net (K : PySem.W.Frag) (A : Ad) (v0 : V) (H : Hp) (Q : VK) (E : XK) : Prop := ∃ l : List Nat, v0 = .str (mkS l) ∧ l.length ≤ 8000 ∧
  (∀ k, readS l = .bad k → ∀ d H', H d = none → Same H H' → H' d = some (.xd [(Str.ofString "row", .int (k : Nat))]) → E (.ref A.c_NoText) (some d) H') ∧
  ∀ N ws ho, readS l = .good N ws ho → ∀ t H', Same H H' → Dp K H' (.ref t) (.tuple [N.d, dPairs ws, dHues ho]) → Q (.ref t) H'
def t_read_net (K : PySem.W.Frag) (A : Ad) (E : XK) : TS :=
  (tSeq (tAsg (tM1 rSplit (tVar 0) (tC (.str (Str.ofString "\n")))) (gName 1))
    (tSeq (tIfS (tTest (tOp rEq (tCB (rLenX K) (tCons (tVar 1) tNil)) (tC (.int 1)))) (tRaiseO A.c_NoText (spInit A.c_NoText (Str.ofString "row")) (tCons (tC (.int 0)) tNil) E) tNext)
    (tSeq (tAsg (tCall (sp_net_of K A) [] E0 (tCons (tM1 rSplit (tOp (rIxL K) (tVar 1) (tC (.int 0))) (tC (.str (Str.ofString " ")))) tNil)) (gName 2))
    (tSeq (tIfS (tTest (tOp xIsN (tVar 2) (tC .non))) (tRaiseO A.c_NoText (spInit A.c_NoText (Str.ofString "row")) (tCons (tC (.int 0)) tNil) E) tNext)
    (tSeq (tAsg (tLst tNil) (gName 3))
    (tSeq (tAsg (tC .non) (gName 4))
    (tSeq (tFor (iRng2 (tCons (tC (.int 1)) (tCons (tOp xSub (tCB (rLenX K) (tCons (tVar 1) tNil)) (tC (.int 1))) tNil))) (gName 5)
      (tSeq (tAsg (tM1 rSplit (tOp (rIxL K) (tVar 1) (tVar 5)) (tC (.str (Str.ofString " ")))) (gName 6))
    (tSeq (tAsg (tCall (sp_way_of K) [] E0 (tCons (tVar 2) (tCons (tVar 6) tNil))) (gName 7))
    (tIfS (tAnd (tTest (tOp xIsN (tVar 4) (tC .non))) (tAnd (tTest (tOp xNotN (tVar 7) (tC .non))) (tTest (tOp xLt (tCB (rLenX K) (tCons (tVar 3) tNil)) (tC (.int 40)))))) (tDrop (tBM K "list" rAppend (tVar 3) (tCons (tVar 7) tNil))) (tIfS (tAnd (tTest (tOp xIsN (tVar 4) (tC .non))) (tTest (tOp xIsN (tVar 7) (tC .non)))) (tSeq (tAsg (tCall (sp_hues_of K A) [] E (tCons (tVar 2) (tCons (tVar 3) (tCons (tVar 6) tNil)))) (gName 4))
    (tIfS (tTest (tOp xIsN (tVar 4) (tC .non))) (tRaiseO A.c_NoText (spInit A.c_NoText (Str.ofString "row")) (tCons (tVar 5) tNil) E) tNext)) (tRaiseO A.c_NoText (spInit A.c_NoText (Str.ofString "row")) (tCons (tVar 5) tNil) E))))))
    (tSeq (tIfS (tTest (tOp rNe (tOp (rIxL K) (tVar 1) (tUn xNeg (tC (.int 1)))) (tC (.str (Str.ofString ""))))) (tRaiseO A.c_NoText (spInit A.c_NoText (Str.ofString "row")) (tCons (tOp xSub (tCB (rLenX K) (tCons (tVar 1) tNil)) (tC (.int 1))) tNil) E) tNext)
    (tRet (tTup (tCons (tVar 2) (tCons (tVar 3) (tCons (tVar 4) tNil)))))))))))))
theorem pure_read_net {v0 : V} {H : Hp} {Q : VK} {E : XK} (h : pr_read_net K A v0 H Q E) : t_read_net K A E ⟨fun _ H' => Q .non H', Q, fun _ _ => False, fun _ _ => False⟩ [some v0, none, none, none, none, none, none, none] H := by
  obtain ⟨l, rfl, hl, qe, qq⟩ := h
  unfold readS at qe qq
  have rl := splitL_len 10 l
  have rne := splitL_ne 10 l
  unfold t_read_net
  wtm_at "s"
  refine k_splitL (s := 10) sg_nl (by decide) (by omega) (fun rp H1 nrp s1 e1 => ?_)
  generalize splitL 10 l = rows at rl rne e1 qe qq
  have rowAt : ∀ {i r}, rows[i]? = some r → (rows.map fun q => V.str (mkS q))[i]? = some (V.str (mkS r)) := fun {i r} hr => by rw [List.getElem?_map, hr]; rfl
  have lr : (rows.map fun q => V.str (mkS q)).length = rows.length := List.length_map _
  have r0 : 0 < rows.length := List.length_pos_iff.mpr rne
  wtm_at "s"
  by_cases c1 : rows.length = 1
  · rw [decide_eq_true (by rw [lr]; omega)]
    wtm_at "s"
    exact k_raiseO (fun R z => by wtm_at "s"; exact z) fun d nd => qe 0 (rr_one c1) d _ (s1.free nd) (s1.trans (same_new nd)) upd_same
  rw [decide_eq_false (by rw [lr]; omega)]
  obtain ⟨r, er⟩ : ∃ r, rows[0]? = some r := ⟨rows[0], List.getElem?_eq_getElem r0⟩
  have hr : r ∈ rows := List.mem_of_getElem? er
  have hd : rows.headD [] = r := by cases rows with | nil => cases er | cons a b => cases er; rfl
  wtm_at "s"
  refine k_ixL (sl e1) (atI_nat (j := 0) (rowAt er)) ?_
  wtm_at "s"
  refine k_splitL (s := 32) sg_sp (by decide) (by have := rl.2 r hr; omega) (fun w0 H2 nw0 s2 e2 => ?_)
  obtain ⟨w, ls, ew⟩ := words_ne r
  have wl := words_len r
  rw [ew] at wl
  rw [show splitL 32 r = w :: ls from ew] at e2
  have r8 := rl.2 r hr
  have lls : ls.length ≤ 8000 := by have := wl.1; simp at this; omega
  wtm_at "s"
  have s02 := s1.trans s2
  refine ⟨_, rfl, w0, w, ls, rfl, sl e2, by omega, fun x hx => by have := wl.2 x (List.mem_cons_of_mem _ hx); omega, fun hn H3 s3 => ?_, fun N hn nv H3 s3 nn nvr => ?_⟩
  · wtm_at "s"
    exact k_raiseO (fun R z => by wtm_at "s"; exact z) fun d nd => qe 0 (rr_none c1 hd ew hn) d _ ((s02.trans s3).free nd) ((s02.trans s3).trans (same_new nd)) upd_same
  obtain ⟨np, rfl⟩ := nvr
  have okN := netW_ok hn
  have s03 := s02.trans s3
  have dN := NetNew.dp (K := K) nn
  have e1' := (s2.trans s3) _ _ e1
  rw [rr_some c1 hd ew hn] at qe qq
  have bad : ∀ {i : Nat} {r' : List Nat} {st : List (Int × Int) × Option (List Int)}, i + 2 < rows.length → rows[1 + i]? = some r' → runR N ((midR rows).take i) 1 ([], none) = Sum.inr st → stepR N st r' = none → ∀ d H', H d = none → Same H H' → H' d = some (.xd [(Str.ofString "row", .int (1 + (i : Nat)))]) → E (.ref A.c_NoText) (some d) H' := fun {i r' st} hi hr' hrun hst d H' nd s e => by
    have := run_stop (by rw [mid_at hi]; exact hr') hrun hst
    refine qe (1 + i) (by rw [this]; rfl) d H' nd s ?_
    rw [e, show ((1 + i : Nat) : Int) = 1 + (i : Nat) by omega]
  clear er hr hd ew wl r8 lls e2 e1 s1 s2 s3 s02 nw0 nrp hn nn
  wtm_at "s"
  refine kL (by simp) (fun wl4 H4 nwl s4 e4 => ?_)
  wtm_at "s"
  rw [lr]
  refine forR (fun i σ' H' => Same H3 H' ∧ ∃ (ys : List V) (ws : List (Int × Int)) (hv : V) (ho : Option (List Int)) (k5 k6 k7 : Option V), H' wl4 = some (.lst ys) ∧ DpAll K (hid [wl4] H') ys (ws.map dPair) ∧ HueIs H' hv ho ∧ runR N ((midR rows).take i) 1 ([], none) = Sum.inr (ws, ho) ∧ σ' = [some (.str (mkS l)), some (.ref rp), some (.ref np), some (.ref wl4), some hv, k5, k6, k7]) ⟨s4, [], [], .non, none, _, _, _, e4, .nil, rfl, rfl, rfl⟩ ?_ ?_
  · clear s4 e4
    rintro i σ' H5 hi ⟨s5, ys, ws, hv, ho, k5, k6, k7, e5, d5, hh, hrun, rfl⟩
    have hi2 : i + 2 < rows.length := by omega
    obtain ⟨r', er'⟩ : ∃ r, rows[1 + i]? = some r := ⟨rows[1 + i]'(by omega), List.getElem?_eq_getElem (by omega)⟩
    have stok := run_ok (st0_ok N) hrun
    have ly : ys.length = ws.length := by rw [dpa_len d5, List.length_map]
    have l40 : ws.length ≤ 40 := stok.len
    obtain ⟨w', ls', ew'⟩ := words_ne r'
    have wl' := words_len r'
    rw [ew'] at wl'
    have r8 := rl.2 r' (List.mem_of_getElem? er')
    have lls' : ls'.length ≤ 8000 := by have := wl'.1; simp at this; omega
    have ste := step_eq (N := N) (ws := ws) ew'
    wtm_at "s"
    refine k_ixL (sl (s5 _ _ e1')) (by rw [show (1 : Int) + (i : Nat) = ((1 + i : Nat) : Int) by omega]; exact atI_nat (rowAt er')) ?_
    wtm_at "s"
    refine k_splitL (s := 32) sg_sp (by decide) (by omega) (fun w1 H6 nw1 s6 e6 => ?_)
    rw [show splitL 32 r' = w' :: ls' from ew'] at e6
    wtm_at "s"
    refine ⟨_, _, rfl, w1, N, w', ls', rfl, dp_same (s5.trans s6) dN, sl e6, by omega, fun x hx => by have := wl'.2 x (List.mem_cons_of_mem _ hx); omega, fun hn H7 s7 => ?_, fun x y hxy tp H7 ntp s7 e7 => ?_⟩
    · have s57 := s6.trans s7
      rw [hn] at ste
      cases ho with
      | some hs =>
        obtain ⟨hp, rfl, ehp⟩ := hh
        wtm_at "s"
        exact k_raiseO (fun R z => by wtm_at "s"; exact z) fun d nd => bad hi2 er' hrun rfl d _ ((s03.trans (s5.trans s57)).free nd) ((s03.trans (s5.trans s57)).trans (same_new nd)) upd_same
      | none =>
        have e : hv = .non := hh
        subst e
        wtm_at "s"
        refine ⟨_, _, _, rfl, w1, N, ws, w', ls', rfl, dp_same (s5.trans s57) dN, okN, .lst (sl (s57 _ _ e5)) (dpa_same ((hid_same _ _).trans s57) d5), by omega, stok.way, sl (s7 _ _ e6), by omega, fun x hx => by have := wl'.2 x (List.mem_cons_of_mem _ hx); omega, fun hw H8 s8 => ?_, fun hs hw hp H8 nhp s8 e8 => ?_⟩
        · rw [hw] at ste
          wtm_at "s"
          exact k_raiseO (fun R z => by wtm_at "s"; exact z) fun d nd => bad hi2 er' hrun ste d _ ((s03.trans (s5.trans (s57.trans s8))).free nd) ((s03.trans (s5.trans (s57.trans s8))).trans (same_new nd)) upd_same
        · rw [hw] at ste
          wtm_at "s"
          exact ⟨s5.trans (s57.trans s8), ys, ws, .ref hp, some hs, _, _, _, (s57.trans s8) _ _ e5, dpa_same (hid_mono (s57.trans s8)) d5, ⟨hp, rfl, e8⟩, run_more (by rw [mid_at hi2]; exact er') hrun ste, rfl⟩
    · have s57 := s6.trans s7
      rw [hxy] at ste
      cases ho with
      | some hs =>
        obtain ⟨hp, rfl, ehp⟩ := hh
        wtm_at "s"
        exact k_raiseO (fun R z => by wtm_at "s"; exact z) fun d nd => bad hi2 er' hrun rfl d _ ((s03.trans (s5.trans s57)).free nd) ((s03.trans (s5.trans s57)).trans (same_new nd)) upd_same
      | none =>
        have e : hv = .non := hh
        subst e
        by_cases c4 : ws.length < 40
        · replace ste : stepR N (ws, none) r' = if ws.length < 40 then some (ws ++ [(x, y)], none) else none := ste
          rw [if_pos c4] at ste
          have e57 := s57 _ _ e5
          wtm_at "s"
          refine k_tyL (sl e57) ?_
          wtm_at "s"
          refine k_append e57 (by omega) ?_
          have tw : tp ≠ wl4 := fun z => by rw [z, s6 _ _ e5] at ntp; cases ntp
          refine ⟨same_mut (s5.trans s57) nwl, ys ++ [.ref tp], ws ++ [(x, y)], .non, none, _, _, _, upd_same, ?_, rfl, run_more (by rw [mid_at hi2]; exact er') hrun ste, rfl⟩
          rw [hid_upd (by simp), List.map_append]
          exact dpa_app (dpa_same (hid_mono s57) d5) (.cons (dp_of_pair (x := x) (y := y) (stp (by rw [hid_ne (by simpa using tw)]; exact e7))) .nil)
        · replace ste : stepR N (ws, none) r' = if ws.length < 40 then some (ws ++ [(x, y)], none) else none := ste
          rw [if_neg c4] at ste
          wtm_at "s"
          exact k_raiseO (fun R z => by wtm_at "s"; exact z) fun d nd => bad hi2 er' hrun ste d _ ((s03.trans (s5.trans s57)).free nd) ((s03.trans (s5.trans s57)).trans (same_new nd)) upd_same
  · clear s4 e4
    rintro σ' H5 ⟨s5, ys, ws, hv, ho, k5, k6, k7, e5, d5, hh, hrun, rfl⟩
    rw [show ((rows.length : Int) - 1 - 1).toNat = (midR rows).length by rw [mid_len]; omega, List.take_length] at hrun
    rw [hrun] at qe qq
    obtain ⟨z, ez⟩ : ∃ z, rows[rows.length - 1]? = some z := ⟨rows[rows.length - 1]'(by omega), List.getElem?_eq_getElem (by omega)⟩
    have gz : rows.getLastD [] = z := by
      rw [List.getLastD_eq_getLast?, List.getLast?_eq_getElem?, ez]; rfl
    unfold finR at qe qq
    rw [gz] at qe qq
    have hat : atI (rows.map fun q => V.str (mkS q)) (-1) = some (V.str (mkS z)) := by
      unfold atI
      rw [lr, ixN_last r0]
      exact rowAt ez
    wtm_at "s"
    refine k_ixL (sl (s5 _ _ e1')) hat ?_
    wtm_at "s"
    refine k_neS ?_
    by_cases c5 : z = []
    · rw [decide_eq_true (mk_eq.mpr (by rw [c5, sg_emp]))]
      wtm_at "s"
      refine kT (by simp) (fun t H6 nt s6 e6 => ?_)
      refine qq N ws ho (if_pos c5) t H6 (s03.trans (s5.trans s6)) (.tup (stp e6) (.cons (dp_same (s5.trans s6) dN) (.cons (.lst (sl (s6 _ _ e5)) (dpa_same ((hid_same _ _).trans s6) d5)) (.cons ?_ .nil))))
      exact hh.dp (K := K) s6
    · rw [decide_eq_false fun y => c5 (by have := mk_eq.mp y; rwa [sg_emp] at this)]
      wtm_at "s"
      refine k_raiseO (fun R z => by wtm_at "s"; exact z) fun d nd => ?_
      refine qe (rows.length - 1) (if_neg c5) d _ ((s03.trans s5).free nd) ((s03.trans s5).trans (same_new nd)) ?_
      rw [upd_same, show ((rows.length - 1 : Nat) : Int) = (rows.length : Int) - 1 by omega, lr]
abbrev sp_read_net (K : PySem.W.Frag) (A : Ad) : Sp := fun vs H Q E => ∃ v0, vs = [v0] ∧ pr_read_net K A v0 H Q E
theorem ok_read_net (T : Txt K mg A) : FnOk P w K mg base (L2.CX P w) 7 A.a_read_net A.d_read_net ["text"] (sp_read_net K A) := by
  refine T.F_read_net.okX sc_read_net (fun vs H Q E h => by obtain ⟨v0, rfl, _⟩ := h; rfl) (fun cdv A0 outer s H vs Q E hr h => ?_)
  obtain ⟨v0, rfl, h⟩ := h
  exact ⟨t_read_net K A E, (pss_cons (ps_set (i := 1) sc_read_net.nd rfl (Or.inl rfl) (pe_split (pv 0) pe_str))
      (pss_cons (ps_if (pt_cmpR op_eq (pe_callB q_len (by rfl) T.z_len (by decide +kernel) (pa_cons (pv 1) pa_nil)) pe_int (nomark _)) (pss_one (ps_raise rfl (takes_of rfl rfl rfl rfl) (pmk_oex T.o_NoText T.in_NoText T.ti_NoText (ok_init_NoText T) (hr.mono (by decide)) T.bi_NoText .nil pass0 (by rfl) T.k_NoText (pa_cons pe_int pa_nil)))) pss_nil)
      (pss_cons (ps_set (i := 2) sc_read_net.nd rfl (Or.inl rfl) (pe_call (ok_net_of T) (hr.mono (by decide)) (by rfl) T.g_net_of T.F_net_of.kp T.b_net_of .nil pass0 (pa_cons (pe_split (pe_ix ix_list (pv 1) pe_int (fun _ _ => rfl)) pe_str) pa_nil)))
      (pss_cons (ps_if (pt_cmpR op_isN (pv 2) pe_non (nomark _)) (pss_one (ps_raise rfl (takes_of rfl rfl rfl rfl) (pmk_oex T.o_NoText T.in_NoText T.ti_NoText (ok_init_NoText T) (hr.mono (by decide)) T.bi_NoText .nil pass0 (by rfl) T.k_NoText (pa_cons pe_int pa_nil)))) pss_nil)
      (pss_cons (ps_set (i := 3) sc_read_net.nd rfl (Or.inl rfl) (pe_lst pa_nil))
      (pss_cons (ps_set (i := 4) sc_read_net.nd rfl (Or.inl rfl) pe_non)
      (pss_cons (ps_for (passes_of rfl) rfl (pi_range2 (by rfl) T.z_range (pa_cons pe_int (pa_cons (pe_op op_sub (pe_callB q_len (by rfl) T.z_len (by decide +kernel) (pa_cons (pv 1) pa_nil)) pe_int) pa_nil))) (pg_name (i := 5) sc_read_net.nd rfl (Or.inl rfl))
      (pss_cons (ps_set (i := 6) sc_read_net.nd rfl (Or.inl rfl) (pe_split (pe_ix ix_list (pv 1) (pv 5) (fun _ _ => rfl)) pe_str))
      (pss_cons (ps_set (i := 7) sc_read_net.nd rfl (Or.inl rfl) (pe_call (ok_way_of T) (hr.mono (by decide)) (by rfl) T.g_way_of T.F_way_of.kp T.b_way_of .nil pass0 (pa_cons (pv 2) (pa_cons (pv 6) pa_nil))))
      (pss_one (ps_if (PW.pt (pw_and (pt_cmpR op_isN (pv 4) pe_non (nomark _)) (pw_and (pt_cmpR op_notN (pv 7) pe_non (nomark _)) (pw_and1 (pt_cmpR op_lt (pe_callB q_len (by rfl) T.z_len (by decide +kernel) (pa_cons (pv 3) pa_nil)) (pe_glob (v := .int 40) (by rfl) T.c_MOST_WAYS ⟨_, rfl⟩) (nomark _)))))) (pss_one (ps_expr (pe_bm PySem.F.plainAttrs_list PySem.F.slot_list_append PySem.F.type_list_append mt_append (pv 3) (pa_cons (pv 7) pa_nil)))) (pss_one (ps_if (PW.pt (pw_and (pt_cmpR op_isN (pv 4) pe_non (nomark _)) (pw_and1 (pt_cmpR op_isN (pv 7) pe_non (nomark _))))) (pss_cons (ps_set (i := 4) sc_read_net.nd rfl (Or.inl rfl) (pe_call (E := E) (ok_hues_of T) (hr.mono (by decide)) (by rfl) T.g_hues_of T.F_hues_of.kp T.b_hues_of .nil (passes_call (takes_of rfl rfl rfl rfl) (fun _ _ _ _ h => h)) (pa_cons (pv 2) (pa_cons (pv 3) (pa_cons (pv 6) pa_nil)))))
      (pss_one (ps_if (pt_cmpR op_isN (pv 4) pe_non (nomark _)) (pss_one (ps_raise rfl (takes_of rfl rfl rfl rfl) (pmk_oex T.o_NoText T.in_NoText T.ti_NoText (ok_init_NoText T) (hr.mono (by decide)) T.bi_NoText .nil pass0 (by rfl) T.k_NoText (pa_cons (pv 5) pa_nil)))) pss_nil))) (pss_one (ps_raise rfl (takes_of rfl rfl rfl rfl) (pmk_oex T.o_NoText T.in_NoText T.ti_NoText (ok_init_NoText T) (hr.mono (by decide)) T.bi_NoText .nil pass0 (by rfl) T.k_NoText (pa_cons (pv 5) pa_nil)))))))))))
      (pss_cons (ps_if (pt_cmpR op_ne (pe_ix ix_list (pv 1) (pe_un un_neg pe_int) (fun _ _ => rfl)) pe_str (nomark _)) (pss_one (ps_raise rfl (takes_of rfl rfl rfl rfl) (pmk_oex T.o_NoText T.in_NoText T.ti_NoText (ok_init_NoText T) (hr.mono (by decide)) T.bi_NoText .nil pass0 (by rfl) T.k_NoText (pa_cons (pe_op op_sub (pe_callB q_len (by rfl) T.z_len (by decide +kernel) (pa_cons (pv 1) pa_nil)) pe_int) pa_nil)))) pss_nil)
      (pss_one (ps_ret (pe_tup (pa_cons (pv 2) (pa_cons (pv 3) (pa_cons (pv 4) pa_nil)))))))))))))), pure_read_net h⟩


def pr_law_mix (K : PySem.W.Frag) (v0 v1 : V) (H : Hp) (Q : VK) (_ : XK) : Prop := ∃ x k : Int, v0 = .int x ∧ v1 = .int k ∧ 0 ≤ x ∧ x < 2147483629 ∧ 0 ≤ k ∧ k < 10000000 ∧ ∀ r, 0 ≤ r → r < 2147483587 → Q (.int r) H
def t_law_mix (K : PySem.W.Frag) : TS :=
  (tSeq (tAsg (tOp xMod (tOp xMul (tOp xAdd (tOp xAdd (tOp xMul (tVar 0) (tVar 0)) (tOp xMul (tVar 1) (tVar 0))) (tOp xMul (tOp xMul (tC (.int 7)) (tVar 1)) (tVar 1))) (tC (.int 1103515245))) (tC (.int 2147483629))) (gName 2))
    (tRet (tOp xMod (tOp xMul (tVar 2) (tVar 2)) (tC (.int 2147483587)))))
theorem pure_law_mix {v0 v1 : V} {H : Hp} {Q : VK} {E : XK} (h : pr_law_mix K v0 v1 H Q E) : t_law_mix K ⟨fun _ H' => Q .non H', Q, fun _ _ => False, fun _ _ => False⟩ [some v0, some v1, none] H := by
  obtain ⟨x, k, rfl, rfl, x0, x1, k0, k1, q⟩ := h
  unfold t_law_mix
  wtm_at "s"
  exact q _ (Int.emod_nonneg _ (by decide)) (Int.emod_lt_of_pos _ (by decide))
abbrev sp_law_mix (K : PySem.W.Frag) : Sp := fun vs H Q E => ∃ v0 v1, vs = [v0, v1] ∧ pr_law_mix K v0 v1 H Q E
theorem ok_law_mix (T : Txt K mg A) : FnOk P w K mg base CX0 1 A.a_law_mix A.d_law_mix ["_law_number", "_law_k"] (sp_law_mix K) := by
  refine T.F_law_mix.ok sc_law_mix (fun vs H Q E h => by obtain ⟨v0, v1, rfl, _⟩ := h; rfl) (fun cdv A0 outer s H vs Q E hr h => ?_)
  obtain ⟨v0, v1, rfl, h⟩ := h
  exact ⟨t_law_mix K, (pss_cons (ps_set (i := 2) sc_law_mix.nd rfl (Or.inl rfl) (pe_op op_mod (pe_op op_mul (pe_op op_add (pe_op op_add (pe_op op_mul (pv 0) (pv 0)) (pe_op op_mul (pv 1) (pv 0))) (pe_op op_mul (pe_op op_mul pe_int (pv 1)) (pv 1))) pe_int) pe_int))
      (pss_one (ps_ret (pe_op op_mod (pe_op op_mul (pv 2) (pv 2)) pe_int)))), pure_law_mix h⟩
def pr_law_left (K : PySem.W.Frag) (v0 : V) (H : Hp) (Q : VK) (_ : XK) : Prop := ∃ x : Int, v0 = .int x ∧ ∀ p H', H p = none → Same H H' → Le H' p 0 → Q (.ref p) H'
def t_law_left (K : PySem.W.Frag) : TS :=
  (tSeq (tIfS (tTest (tOp xLt (tVar 0) (tOp xPow (tC (.int 10)) (tC (.int 18))))) (tRet (tLst (tCons (tOp xMod (tVar 0) (tC (.int 2147483629))) (tCons (tC (.int 0)) (tCons (tC (.int 0)) tNil))))) tNext)
    (tRet (tLst (tCons (tOp xSub (tVar 0) (tOp xPow (tC (.int 10)) (tC (.int 18)))) (tCons (tC (.int 1)) (tCons (tC (.int 0)) tNil))))))
theorem pure_law_left {v0 : V} {H : Hp} {Q : VK} {E : XK} (h : pr_law_left K v0 H Q E) : t_law_left K ⟨fun _ H' => Q .non H', Q, fun _ _ => False, fun _ _ => False⟩ [some v0] H := by
  obtain ⟨x, rfl, q⟩ := h
  unfold t_law_left
  wtm_at "s"
  refine k_it (fun c => ?_) (fun c => ?_)
  · wtm_at "s"
    refine ⟨sz (by simp), fun p np => ?_⟩
    exact q p _ np (same_new np) ⟨⟨_, _, upd_same, fun _ => ⟨Int.emod_nonneg _ (by decide), Int.emod_lt_of_pos _ (by decide)⟩⟩, by decide⟩
  · wtm_at "s"
    refine ⟨sz (by simp), fun p np => ?_⟩
    exact q p _ np (same_new np) ⟨⟨_, _, upd_same, fun z => absurd z (by decide)⟩, by decide⟩
abbrev sp_law_left (K : PySem.W.Frag) : Sp := fun vs H Q E => ∃ v0, vs = [v0] ∧ pr_law_left K v0 H Q E
theorem ok_law_left (T : Txt K mg A) : FnOk P w K mg base CX0 1 A.a_law_left A.d_law_left ["_law_cell"] (sp_law_left K) := by
  refine T.F_law_left.ok sc_law_left (fun vs H Q E h => by obtain ⟨v0, rfl, _⟩ := h; rfl) (fun cdv A0 outer s H vs Q E hr h => ?_)
  obtain ⟨v0, rfl, h⟩ := h
  exact ⟨t_law_left K, (pss_cons (ps_if (pt_cmpR op_lt (pv 0) (pe_op op_pow pe_int pe_int) (nomark _)) (pss_one (ps_ret (pe_lst (pa_cons (pe_op op_mod (pv 0) pe_int) (pa_cons pe_int (pa_cons pe_int pa_nil)))))) pss_nil)
      (pss_one (ps_ret (pe_lst (pa_cons (pe_op op_sub (pv 0) (pe_op op_pow pe_int pe_int)) (pa_cons pe_int (pa_cons pe_int pa_nil))))))), pure_law_left h⟩
def pr_law_draw (K : PySem.W.Frag) (v0 v1 : V) (H : Hp) (Q : VK) (_ : XK) : Prop := ∃ (pu : Addr) (k m : Int), v0 = .ref pu ∧ v1 = .int m ∧ Le H pu k ∧ k < 1000000 ∧ 0 < m ∧ m < 2 ^ 200 ∧ ∀ r H', 0 ≤ r → r < m → Le H' pu (k + 1) → Same (hid [pu] H) (hid [pu] H') → Q (.int r) H'
def t_law_draw (K : PySem.W.Frag) : TS :=
  (tSeq (tAsg (tOp xAdd (tOp (rIxL K) (tVar 0) (tC (.int 2))) (tC (.int 1))) (gSub (tVar 0) (tC (.int 2)) rSetL))
    (tSeq (tIfS (tTest (tOp rEq (tOp (rIxL K) (tVar 0) (tC (.int 1))) (tC (.int 0)))) (tSeq (tAsg (tCall (sp_law_mix K) [] E0 (tCons (tOp (rIxL K) (tVar 0) (tC (.int 0))) (tCons (tOp (rIxL K) (tVar 0) (tC (.int 2))) tNil))) (gName 2))
    (tSeq (tIfS (tTest (tOp xGt (tVar 1) (tOp xPow (tC (.int 10)) (tC (.int 9))))) (tRet (tOp xMod (tOp xMul (tVar 2) (tOp xAdd (tOp xPow (tCall (sp_law_mix K) [] E0 (tCons (tOp (rIxL K) (tVar 0) (tC (.int 0))) (tCons (tOp xAdd (tOp (rIxL K) (tVar 0) (tC (.int 2))) (tC (.int 500))) tNil))) (tC (.int 3))) (tC (.int 1)))) (tVar 1))) tNext)
    (tRet (tOp xMod (tOp xMod (tOp xMul (tVar 2) (tOp xAdd (tVar 2) (tC (.int 2)))) (tC (.int 2147483579))) (tVar 1))))) tNext)
    (tSeq (tAsg (tOp xMod (tOp (rIxL K) (tVar 0) (tC (.int 0))) (tVar 1)) (gName 3))
    (tSeq (tAsg (tOp xDivW (tOp (rIxL K) (tVar 0) (tC (.int 0))) (tVar 1)) (gSub (tVar 0) (tC (.int 0)) rSetL))
    (tRet (tVar 3))))))
theorem pure_law_draw {v0 v1 : V} {H : Hp} {Q : VK} {E : XK} (h : pr_law_draw K v0 v1 H Q E) : t_law_draw K ⟨fun _ H' => Q .non H', Q, fun _ _ => False, fun _ _ => False⟩ [some v0, some v1, none, none] H := by
  obtain ⟨pu, k, m, rfl, rfl, hL, k1, m0, m1, q⟩ := h
  obtain ⟨⟨x, f, hp, hx⟩, k0⟩ := hL
  unfold t_law_draw
  wtm_at "s"
  refine k_ixL (sl hp) rfl ?_
  wtm_at "s"
  refine k_setL hp (j := 2) rfl ?_
  have e1 : upd H pu (.lst [.int x, .int f, .int (k + 1)]) pu = some (.lst [.int x, .int f, .int (k + 1)]) := upd_same
  have S1 : Same (hid [pu] H) (hid [pu] (upd H pu (.lst [.int x, .int f, .int (k + 1)]))) := same_hid_upd (Same.refl _) (by simp)
  rw [show [V.int x, V.int f, V.int k].set 2 (V.int (k + 1)) = [.int x, .int f, .int (k + 1)] from rfl]
  generalize upd H pu (.lst [.int x, .int f, .int (k + 1)]) = H1 at e1 S1 ⊢
  wtm_at "s"
  refine k_ixL (sl e1) rfl ?_
  wtm_at "s"
  refine k_it (fun c => ?_) (fun c => ?_)
  · obtain ⟨x0, x1⟩ := hx c
    have L1 : Le H1 pu (k + 1) := ⟨⟨x, f, e1, hx⟩, by omega⟩
    wtm_at "s"
    refine k_ixL (sl e1) rfl ?_
    wtm_at "s"
    refine k_ixL (sl e1) rfl ?_
    wtm_at "s"
    refine ⟨_, _, rfl, x, k + 1, rfl, rfl, x0, x1, by omega, by omega, fun r r0 r1 => ?_⟩
    wtm_at "s"
    refine k_it (fun c2 => ?_) (fun c2 => ?_)
    · wtm_at "s"
      refine k_ixL (sl e1) rfl ?_
      wtm_at "s"
      refine k_ixL (sl e1) rfl ?_
      wtm_at "s"
      refine ⟨_, _, rfl, x, k + 1 + 500, rfl, rfl, x0, x1, by omega, by omega, fun r2 r20 r21 => ?_⟩
      wtm_at "s"
      refine k_pow ⟨by decide, by decide, by omega⟩ ?_
      wtm_at "s"
      exact q _ _ (Int.emod_nonneg _ (by omega)) (Int.emod_lt_of_pos _ m0) L1 S1
    · wtm_at "s"
      exact q _ _ (Int.emod_nonneg _ (by omega)) (Int.emod_lt_of_pos _ m0) L1 S1
  · wtm_at "s"
    refine k_ixL (sl e1) rfl ?_
    wtm_at "s"
    refine k_ixL (sl e1) rfl ?_
    wtm_at "s"
    refine k_divW (wide_div m0 (b := 201) (by omega) (by decide) (by decide)) ?_
    wtm_at "s"
    refine k_setL e1 (j := 0) rfl ?_
    wtm_at "s"
    exact q _ _ (Int.emod_nonneg _ (by omega)) (Int.emod_lt_of_pos _ m0) ⟨⟨x / m, f, upd_same, fun z => absurd z c⟩, by omega⟩ (same_hid_upd S1 (by simp))
abbrev sp_law_draw (K : PySem.W.Frag) : Sp := fun vs H Q E => ∃ v0 v1, vs = [v0, v1] ∧ pr_law_draw K v0 v1 H Q E
theorem ok_law_draw (T : Txt K mg A) : FnOk P w K mg base CX0 2 A.a_law_draw A.d_law_draw ["_law_left_here", "_law_base"] (sp_law_draw K) := by
  refine T.F_law_draw.ok sc_law_draw (fun vs H Q E h => by obtain ⟨v0, v1, rfl, _⟩ := h; rfl) (fun cdv A0 outer s H vs Q E hr h => ?_)
  obtain ⟨v0, v1, rfl, h⟩ := h
  exact ⟨t_law_draw K, (pss_cons (ps_asg (pe_op op_add (pe_ix ix_list (pv 0) pe_int (fun _ _ => rfl)) pe_int) (pg_sub (pv 0) pe_int set_list))
      (pss_cons (ps_if (pt_cmpR op_eq (pe_ix ix_list (pv 0) pe_int (fun _ _ => rfl)) pe_int (nomark _)) (pss_cons (ps_set (i := 2) sc_law_draw.nd rfl (Or.inl rfl) (pe_call (ok_law_mix T) (hr.mono (by decide)) (by rfl) T.g_law_mix T.F_law_mix.kp T.b_law_mix .nil pass0 (pa_cons (pe_ix ix_list (pv 0) pe_int (fun _ _ => rfl)) (pa_cons (pe_ix ix_list (pv 0) pe_int (fun _ _ => rfl)) pa_nil))))
      (pss_cons (ps_if (pt_cmpR op_gt (pv 1) (pe_op op_pow pe_int pe_int) (nomark _)) (pss_one (ps_ret (pe_op op_mod (pe_op op_mul (pv 2) (pe_op op_add (pe_op op_pow (pe_call (ok_law_mix T) (hr.mono (by decide)) (by rfl) T.g_law_mix T.F_law_mix.kp T.b_law_mix .nil pass0 (pa_cons (pe_ix ix_list (pv 0) pe_int (fun _ _ => rfl)) (pa_cons (pe_op op_add (pe_ix ix_list (pv 0) pe_int (fun _ _ => rfl)) pe_int) pa_nil))) pe_int) pe_int)) (pv 1)))) pss_nil)
      (pss_one (ps_ret (pe_op op_mod (pe_op op_mod (pe_op op_mul (pv 2) (pe_op op_add (pv 2) pe_int)) pe_int) (pv 1)))))) pss_nil)
      (pss_cons (ps_set (i := 3) sc_law_draw.nd rfl (Or.inl rfl) (pe_op op_mod (pe_ix ix_list (pv 0) pe_int (fun _ _ => rfl)) (pv 1)))
      (pss_cons (ps_asg (pe_op op_fdivW (pe_ix ix_list (pv 0) pe_int (fun _ _ => rfl)) (pv 1)) (pg_sub (pv 0) pe_int set_list))
      (pss_one (ps_ret (pv 3))))))), pure_law_draw h⟩
def pr_law_way (K : PySem.W.Frag) (v0 v1 : V) (H : Hp) (Q : VK) (_ : XK) : Prop := ∃ (pu : Addr) (k m : Int), v0 = .ref pu ∧ v1 = .int m ∧ Le H pu k ∧ k < 900000 ∧ 2 ≤ m ∧ m < 2 ^ 100 ∧
  ∀ p a b H', H p = none → p ∉ [pu] → Le H' pu (k + 2) → Same (hid [pu] H) (hid [pu] H') → H' p = some (.tup [.int a, .int b]) → a ≠ b → 0 ≤ a → a < m → 0 ≤ b → b < m → Q (.ref p) H'
def t_law_way (K : PySem.W.Frag) : TS :=
  (tSeq (tAsg (tCall (sp_law_draw K) [] E0 (tCons (tVar 0) (tCons (tVar 1) tNil))) (gName 2))
    (tSeq (tAsg (tCall (sp_law_draw K) [] E0 (tCons (tVar 0) (tCons (tOp xSub (tVar 1) (tC (.int 1))) tNil))) (gName 3))
    (tRet (tTup (tCons (tVar 2) (tCons (tOp xAdd (tVar 3) (tCB rIntOf (tCons (tOp xGe (tVar 3) (tVar 2)) tNil))) tNil))))))
theorem pure_law_way {v0 v1 : V} {H : Hp} {Q : VK} {E : XK} (h : pr_law_way K v0 v1 H Q E) : t_law_way K ⟨fun _ H' => Q .non H', Q, fun _ _ => False, fun _ _ => False⟩ [some v0, some v1, none, none] H := by
  obtain ⟨pu, k, m, rfl, rfl, hL, k1, m0, m1, q⟩ := h
  unfold t_law_way
  wtm_at "s"
  refine ⟨_, _, rfl, pu, k, m, rfl, rfl, hL, by omega, by omega, by omega, fun r H1 r0 r1 L1 S1 => ?_⟩
  wtm_at "s"
  refine ⟨_, _, rfl, pu, k + 1, m - 1, rfl, rfl, L1, by omega, by omega, by omega, fun r2 H2 r20 r21 L2 S2 => ?_⟩
  wtm_at "s"
  refine ⟨sz (by simp), fun p np => ?_⟩
  have np' := L2.fresh np
  have S3 := S1.trans S2
  have e : (if decide (r ≤ r2) = true then (1 : Int) else 0) = if r ≤ r2 then 1 else 0 := by simp
  refine q p r _ _ (fresh_hid S3 np np') np' (show Le _ pu (k + 2) from (show k + 1 + 1 = k + 2 by omega) ▸ L2.upd np') (S3.trans (same_hid_new np)) upd_same ?_ r0 r1 ?_ ?_
  all_goals rw [e]; split <;> omega
abbrev sp_law_way (K : PySem.W.Frag) : Sp := fun vs H Q E => ∃ v0 v1, vs = [v0, v1] ∧ pr_law_way K v0 v1 H Q E
theorem ok_law_way (T : Txt K mg A) : FnOk P w K mg base CX0 3 A.a_law_way A.d_law_way ["_law_left_here", "_law_many"] (sp_law_way K) := by
  refine T.F_law_way.ok sc_law_way (fun vs H Q E h => by obtain ⟨v0, v1, rfl, _⟩ := h; rfl) (fun cdv A0 outer s H vs Q E hr h => ?_)
  obtain ⟨v0, v1, rfl, h⟩ := h
  exact ⟨t_law_way K, (pss_cons (ps_set (i := 2) sc_law_way.nd rfl (Or.inl rfl) (pe_call (ok_law_draw T) (hr.mono (by decide)) (by rfl) T.g_law_draw T.F_law_draw.kp T.b_law_draw .nil pass0 (pa_cons (pv 0) (pa_cons (pv 1) pa_nil))))
      (pss_cons (ps_set (i := 3) sc_law_way.nd rfl (Or.inl rfl) (pe_call (ok_law_draw T) (hr.mono (by decide)) (by rfl) T.g_law_draw T.F_law_draw.kp T.b_law_draw .nil pass0 (pa_cons (pv 0) (pa_cons (pe_op op_sub (pv 1) pe_int) pa_nil))))
      (pss_one (ps_ret (pe_tup (pa_cons (pv 2) (pa_cons (pe_op op_add (pv 3) (pe_callTy q_intB (by rfl) T.z_int (by decide +kernel) (pa_cons (pe_cmpR op_ge (pv 3) (pv 2) (nomark _)) pa_nil))) pa_nil))))))), pure_law_way h⟩


def pr_law_net (K : PySem.W.Frag) (v0 : V) (H : Hp) (Q : VK) (_ : XK) : Prop := ∃ (pu : Addr) (k : Int), v0 = .ref pu ∧ Le H pu k ∧ k < 900000 ∧
  ∀ v (N : Net) k' H', Le H' pu k' → k' ≤ k + 100 → Same (hid [pu] H) (hid [pu] H') → Dp K (hid [pu] H') v N.d → N.ok → Q v H'
def t_law_net (K : PySem.W.Frag) : TS :=
  (tSeq (tAsg (tOp (rIxL K) (tLst (tCons (tC (.str (Str.ofString "line"))) (tCons (tC (.str (Str.ofString "ring"))) (tCons (tC (.str (Str.ofString "tree"))) tNil)))) (tCall (sp_law_draw K) [] E0 (tCons (tVar 0) (tCons (tC (.int 3)) tNil)))) (gName 1))
    (tSeq (tAsg (tOp (rIxL K) (tLst (tCons (tC (.int 4)) (tCons (tC (.int 9)) (tCons (tC (.int 58)) tNil)))) (tCall (sp_law_draw K) [] E0 (tCons (tVar 0) (tCons (tC (.int 3)) tNil)))) (gName 2))
    (tSeq (tAsg (tCall (sp_law_draw K) [] E0 (tCons (tVar 0) (tCons (tVar 2) tNil))) (gName 3))
    (tSeq (tIfS (tTest (tOp rEq (tVar 1) (tC (.str (Str.ofString "line"))))) (tRet (tTup (tCons (tC (.str (Str.ofString "line"))) (tCons (tOp xAdd (tC (.int 2)) (tVar 3)) tNil)))) tNext)
    (tSeq (tIfS (tTest (tOp rEq (tVar 1) (tC (.str (Str.ofString "ring"))))) (tRet (tTup (tCons (tC (.str (Str.ofString "ring"))) (tCons (tOp xAdd (tC (.int 3)) (tVar 3)) tNil)))) tNext)
    (tRet (tTup (tCons (tC (.str (Str.ofString "tree"))) (tCons (tLc (iRng1 (tCons (tOp xAdd (tC (.int 1)) (tVar 3)) tNil)) (gName 4) tYes (tCall (sp_law_draw K) [] E0 (tCons (tVar 0) (tCons (tOp xAdd (tVar 4) (tC (.int 1))) tNil))) [4]) tNil)))))))))
theorem tree_more {us : List Int} {i : Nat} {r : Int} (h : ∀ j : Nat, j < us.length → 0 ≤ us.getD j 0 ∧ us.getD j 0 ≤ j) (hl : us.length = i) (r0 : 0 ≤ r) (r1 : r < i + 1) : ∀ j : Nat, j < (us ++ [r]).length → 0 ≤ (us ++ [r]).getD j 0 ∧ (us ++ [r]).getD j 0 ≤ j := by
  intro j hj
  by_cases c : j < us.length
  · have e : (us ++ [r]).getD j 0 = us.getD j 0 := by rw [List.getD_eq_getElem?_getD, List.getD_eq_getElem?_getD, List.getElem?_append_left c]
    rw [e]; exact h j c
  · have hj' : j = us.length := by simp at hj; omega
    subst hj'
    have e : (us ++ [r]).getD us.length 0 = r := by rw [List.getD_eq_getElem?_getD, List.getElem?_append_right (Nat.le_refl _)]; simp
    rw [e]; omega
theorem pure_law_net {v0 : V} {H : Hp} {Q : VK} {E : XK} (h : pr_law_net K v0 H Q E) : t_law_net K ⟨fun _ H' => Q .non H', Q, fun _ _ => False, fun _ _ => False⟩ [some v0, none, none, none, none] H := by
  obtain ⟨pu, k, rfl, hL, hk, q⟩ := h
  unfold t_law_net
  wtm_at "s"
  refine ⟨sz (by simp), fun dl ndl => ?_⟩
  have ndl' := hL.fresh ndl
  wtm_at "s"
  refine ⟨_, _, rfl, pu, k, 3, rfl, rfl, hL.upd ndl', by omega, by decide, by decide, fun r H1 r0 r1 L1 S1 => ?_⟩
  have e1 := keeps S1 upd_same ndl'
  have S1' : Same (hid [pu] H) (hid [pu] H1) := (same_hid_new ndl).trans S1
  obtain ⟨s, hat, hs⟩ : ∃ s, atI [V.str (Str.ofString "line"), .str (Str.ofString "ring"), .str (Str.ofString "tree")] r = some (.str s) ∧ (s = Str.ofString "line" ∨ s = Str.ofString "ring" ∨ s = Str.ofString "tree") := by
    have c : r = 0 ∨ r = 1 ∨ r = 2 := by omega
    rcases c with rfl | rfl | rfl
    · exact ⟨_, rfl, .inl rfl⟩
    · exact ⟨_, rfl, .inr (.inl rfl)⟩
    · exact ⟨_, rfl, .inr (.inr rfl)⟩
  refine k_ixL (sl e1) hat ?_
  clear e1 hat S1 r0 r1 r
  wtm_at "s"
  refine ⟨sz (by simp), fun d2 nd2 => ?_⟩
  have nd2' := L1.fresh nd2
  wtm_at "s"
  refine ⟨_, _, rfl, pu, k + 1, 3, rfl, rfl, L1.upd nd2', by omega, by decide, by decide, fun r2 H2 r20 r21 L2 S2 => ?_⟩
  have e2 : H2 d2 = some (.lst (List.map V.int [4, 9, 58])) := keeps S2 upd_same nd2'
  have S2' : Same (hid [pu] H) (hid [pu] H2) := S1'.trans ((same_hid_new nd2).trans S2)
  refine k_ixI (sl e2) r20 (by simpa using r21) ?_
  have hv := getD_memI (ns := [4, 9, 58]) r20 (by simpa using r21)
  generalize ([4, 9, 58] : List Int).getD r2.toNat 0 = b at hv ⊢
  have hb : 1 ≤ b ∧ b ≤ 58 := by
    simp only [List.mem_cons, List.not_mem_nil, or_false] at hv
    rcases hv with rfl | rfl | rfl <;> omega
  clear hv e2 S2 r20 r21 S1'
  wtm_at "s"
  refine ⟨_, _, rfl, pu, k + 1 + 1, b, rfl, rfl, L2, by omega, by omega, by omega, fun m H3 m0 m1 L3 S3 => ?_⟩
  have S3' := S2'.trans S3
  clear S3 S2' L2 L1
  wtm_at "s"
  refine k_eqS ?_
  rcases hs with rfl | rfl | rfl
  · rw [s_same]
    wtm_at "s"
    refine ⟨sz (by simp), fun p np => ?_⟩
    have np' := L3.fresh np
    exact q (.ref p) (.line (2 + m)) (k + 1 + 1 + 1) _ (L3.upd np') (by omega) (S3'.trans (same_hid_new np)) (.tup (stp (by rw [hid_ne np', upd_same]; rfl)) (.cons (.str _) (.cons (.int _) .nil))) ⟨by omega, by omega⟩
  · rw [s_rl]
    wtm_at "s"
    refine k_eqS ?_
    rw [s_same]
    wtm_at "s"
    refine ⟨sz (by simp), fun p np => ?_⟩
    have np' := L3.fresh np
    exact q (.ref p) (.ring (3 + m)) (k + 1 + 1 + 1) _ (L3.upd np') (by omega) (S3'.trans (same_hid_new np)) (.tup (stp (by rw [hid_ne np', upd_same]; rfl)) (.cons (.str _) (.cons (.int _) .nil))) ⟨by omega, by omega⟩
  · rw [s_tl]
    wtm_at "s"
    refine k_eqS ?_
    rw [s_tr]
    wtm_at "s"
    intro D nD
    have nD' := L3.fresh nD
    have fr : hid [pu] H3 D = none := by rw [hid_ne nD']; exact nD
    refine lc_range (fun t H => Le H pu (k + 3 + t) ∧ Same (hid [pu] H3) (hid [pu] H) ∧ ∃ us, H D = some (.lst (List.map V.int us)) ∧ us.length = t ∧ ∀ j : Nat, j < us.length → 0 ≤ us.getD j 0 ∧ us.getD j 0 ≤ j) ⟨by
      have := L3.upd (o := .lst []) nD'
      rw [show k + 3 + ((0 : Nat) : Int) = k + 1 + 1 + 1 by omega]; exact this, same_hid_new nD, [], upd_same, rfl, fun j hj => by simp at hj⟩ ?_ ?_
    · rintro t H5 ht ⟨Lt, St, us, hD, hl, hok⟩
      wtm_at "s"
      refine ⟨_, _, rfl, pu, k + 3 + t, 0 + (t : Int) + 1, rfl, rfl, Lt, by omega, by omega, by omega, fun r H6 r0 r1 L6 S6 => ?_⟩
      refine ⟨_, keeps S6 hD nD', szl (by rw [List.length_map]; omega), ?_, ?_, us ++ [r], ?_, by simp [hl], tree_more hok hl r0 (by omega)⟩
      · rw [show k + 3 + ((t + 1 : Nat) : Int) = k + 3 + t + 1 by omega]; exact L6.upd nD'
      · exact same_hid_mut (St.trans S6) fr
      · rw [upd_same, List.map_append]; rfl
    · rintro H5 ⟨Lt, St, us, hD, hl, hok⟩
      wtm_at "s"
      refine ⟨sz (by simp), fun p np => ?_⟩
      have np' := Lt.fresh np
      have pd : D ≠ p := ne_of_none hD np
      refine q (.ref p) (.tree us) _ _ (Lt.upd np') (by omega) (S3'.trans (St.trans (same_hid_new np))) (.tup (xs := [.str (Str.ofString "tree"), .ref D]) (stp (by rw [hid_ne np', upd_same])) (.cons (.str _) (.cons (dp_of_ints (sl ?_)) .nil))) ⟨by omega, by omega, hok⟩
      rw [hid_ne nD', upd_ne pd]; exact hD
abbrev sp_law_net (K : PySem.W.Frag) : Sp := fun vs H Q E => ∃ v0, vs = [v0] ∧ pr_law_net K v0 H Q E
theorem ok_law_net (T : Txt K mg A) : FnOk P w K mg base CX0 3 A.a_law_net A.d_law_net ["_law_left_here"] (sp_law_net K) := by
  refine T.F_law_net.ok sc_law_net (fun vs H Q E h => by obtain ⟨v0, rfl, _⟩ := h; rfl) (fun cdv A0 outer s H vs Q E hr h => ?_)
  obtain ⟨v0, rfl, h⟩ := h
  exact ⟨t_law_net K, (pss_cons (ps_set (i := 1) sc_law_net.nd rfl (Or.inl rfl) (pe_ix ix_list (pe_lst (pa_cons pe_str (pa_cons pe_str (pa_cons pe_str pa_nil)))) (pe_call (ok_law_draw T) (hr.mono (by decide)) (by rfl) T.g_law_draw T.F_law_draw.kp T.b_law_draw .nil pass0 (pa_cons (pv 0) (pa_cons pe_int pa_nil))) (fun _ _ => rfl)))
      (pss_cons (ps_set (i := 2) sc_law_net.nd rfl (Or.inl rfl) (pe_ix ix_list (pe_lst (pa_cons pe_int (pa_cons pe_int (pa_cons pe_int pa_nil)))) (pe_call (ok_law_draw T) (hr.mono (by decide)) (by rfl) T.g_law_draw T.F_law_draw.kp T.b_law_draw .nil pass0 (pa_cons (pv 0) (pa_cons pe_int pa_nil))) (fun _ _ => rfl)))
      (pss_cons (ps_set (i := 3) sc_law_net.nd rfl (Or.inl rfl) (pe_call (ok_law_draw T) (hr.mono (by decide)) (by rfl) T.g_law_draw T.F_law_draw.kp T.b_law_draw .nil pass0 (pa_cons (pv 0) (pa_cons (pv 2) pa_nil))))
      (pss_cons (ps_if (pt_cmpR op_eq (pv 1) pe_str (nomark _)) (pss_one (ps_ret (pe_tup (pa_cons pe_str (pa_cons (pe_op op_add pe_int (pv 3)) pa_nil))))) pss_nil)
      (pss_cons (ps_if (pt_cmpR op_eq (pv 1) pe_str (nomark _)) (pss_one (ps_ret (pe_tup (pa_cons pe_str (pa_cons (pe_op op_add pe_int (pv 3)) pa_nil))))) pss_nil)
      (pss_one (ps_ret (pe_tup (pa_cons pe_str (pa_cons (pe_lc (own := [("_law_k", 4)]) (by rfl) sc_law_net.nd (pi_range1 (by rfl) T.z_range (pa_cons (pe_op op_add pe_int (pv 3)) pa_nil)) (blkOk_by (own := [("_law_k", 4)]) (N := ["_law_left_here", "_law_kind_here", "_law_size_here", "_law_many", "_law_k"]) (sc := defScope s_law_net) (by decide +kernel)) (fun _ _ _ _ _ => (pg_name (i := 4) sc_law_net.nd rfl (Or.inl rfl))) (fun _ _ _ _ _ => pts_nil) (fun _ _ _ _ _ => (pe_call (ok_law_draw T) (hr.mono (by decide)) (by rfl) T.g_law_draw T.F_law_draw.kp T.b_law_draw .nil pass0 (pa_cons (pv 0) (pa_cons (pe_op op_add (pv 4) pe_int) pa_nil))))) pa_nil)))))))))), pure_law_net h⟩
def pr_law_size (K : PySem.W.Frag) (v0 : V) (H : Hp) (Q : VK) (_ : XK) : Prop := ∃ N : Net, Dp K H v0 N.d ∧ Q (.int N.places) H
def t_law_size (K : PySem.W.Frag) : TS :=
  (tSeq (tIfS (tTest (tOp rEq (tOp (rIxT K) (tVar 0) (tC (.int 0))) (tC (.str (Str.ofString "tree"))))) (tRet (tOp xAdd (tCB (rLenX K) (tCons (tOp (rIxT K) (tVar 0) (tC (.int 1))) tNil)) (tC (.int 1)))) tNext)
    (tRet (tOp (rIxT K) (tVar 0) (tC (.int 1)))))
theorem pure_law_size {v0 : V} {H : Hp} {Q : VK} {E : XK} (h : pr_law_size K v0 H Q E) : t_law_size K ⟨fun _ H' => Q .non H', Q, fun _ _ => False, fun _ _ => False⟩ [some v0] H := by
  obtain ⟨N, hd, q⟩ := h
  obtain ⟨a, y, rfl, hs, hy⟩ := dp_net hd
  unfold t_law_size
  wtm_at "s"
  refine k_eqS ?_
  cases N with
  | line n =>
    obtain rfl := dp_int hy
    rw [show Net.kind (.line n) = Str.ofString "line" from rfl, s_lt]
    wtm_at "s"
    exact q
  | ring n =>
    obtain rfl := dp_int hy
    rw [show Net.kind (.ring n) = Str.ofString "ring" from rfl, s_rt]
    wtm_at "s"
    exact q
  | tree ps =>
    obtain ⟨b, rfl, hb⟩ := dp_ints hy
    rw [show Net.kind (.tree ps) = Str.ofString "tree" from rfl, s_same]
    wtm_at "s"
    exact q
abbrev sp_law_size (K : PySem.W.Frag) : Sp := fun vs H Q E => ∃ v0, vs = [v0] ∧ pr_law_size K v0 H Q E
theorem ok_law_size (T : Txt K mg A) : FnOk P w K mg base CX0 1 A.a_law_size A.d_law_size ["_law_net_here"] (sp_law_size K) := by
  refine T.F_law_size.ok sc_law_size (fun vs H Q E h => by obtain ⟨v0, rfl, _⟩ := h; rfl) (fun cdv A0 outer s H vs Q E hr h => ?_)
  obtain ⟨v0, rfl, h⟩ := h
  exact ⟨t_law_size K, (pss_cons (ps_if (pt_cmpR op_eq (pe_ix ix_tup (pv 0) pe_int (fun _ _ => rfl)) pe_str (nomark _)) (pss_one (ps_ret (pe_op op_add (pe_callB q_len (by rfl) T.z_len (by decide +kernel) (pa_cons (pe_ix ix_tup (pv 0) pe_int (fun _ _ => rfl)) pa_nil)) pe_int))) pss_nil)
      (pss_one (ps_ret (pe_ix ix_tup (pv 0) pe_int (fun _ _ => rfl))))), pure_law_size h⟩
def WayIn (m : Int) (w : Int × Int) : Prop := w.1 ≠ w.2 ∧ 0 ≤ w.1 ∧ w.1 < m ∧ 0 ≤ w.2 ∧ w.2 < m
/-- a list of drawn ways -/
theorem lc_ways {σ : L2.St} {vs : List Nat} {i j l : Nat} {pu : Addr} {m kk lo : Int} {n : Nat} {H1 : Hp} {QD : Addr → Hp → Prop}
    (hi : ∀ x, ((wipe σ vs).set l (some x))[i]? = some (some (.ref pu))) (hj : ∀ x, ((wipe σ vs).set l (some x))[j]? = some (some (.int m))) (hwp : ∀ x, wipe ((wipe σ vs).set l (some x)) vs = wipe σ vs)
    (L : Le H1 pu kk) (hk : kk + 2 * n < 900000) (m0 : 2 ≤ m) (m1 : m < 2 ^ 100) (hn : n ≤ 10000)
    (h : ∀ D ys ws H', H1 D = none → D ∉ [pu] → Le H' pu (kk + 2 * n) → Same (hid [pu] H1) (hid [pu] H') → H' D = some (.lst ys) → DpAll K (hid [pu, D] H') ys (List.map dPair ws) → ws.length = n → (∀ w ∈ ws, WayIn m w) → QD D H') :
    ∀ D, H1 D = none → ∃ W : Nat → Nat → Hp → Prop, (∃ m, W 0 m (upd H1 D (.lst []))) ∧ ∀ t m' H, W t m' H →
      ((Itr lo n).stop t H ∧ QD D H) ∨ ((Itr lo n).go t H ∧ ∃ Nx : Hp → Prop, (∀ H', Nx H' → ∃ m'', m'' < m' ∧ W (t + 1) m'' H') ∧ ∀ x H', (Itr lo n).yld t H x H' → gName l x (wipe σ vs) H' fun σ2 H2 => wipe σ2 vs = wipe σ vs ∧ tYes σ2 H2 fun b H3 =>
        if b = true then tCall (sp_law_way K) [] E0 (tCons (tVar i) (tCons (tVar j) tNil)) σ2 H3 fun y H4 => ∃ acc, H4 D = some (.lst acc) ∧ acc.length < sizeLine ∧ Nx (upd H4 D (.lst (acc ++ [y]))) else Nx H3) := by
  intro D nD
  have nD' := L.fresh nD
  have fr : hid [pu] H1 D = none := by rw [hid_ne nD']; exact nD
  refine lc_range (fun t H => Le H pu (kk + 2 * t) ∧ Same (hid [pu] H1) (hid [pu] H) ∧ ∃ ys ws, H D = some (.lst ys) ∧ DpAll K (hid [pu, D] H) ys (List.map dPair ws) ∧ ws.length = t ∧ ∀ w ∈ ws, WayIn m w) ⟨by simpa using L.upd nD', same_hid_new nD, [], [], upd_same, .nil, rfl, fun _ z => by cases z⟩ ?_ ?_
  · rintro t H ht ⟨Lt, St, ys, ws, hD, hys, hl, hok⟩
    have ly := dpa_len hys
    rw [List.length_map] at ly
    refine ⟨hwp _, ?_⟩
    refine k_yes (iteT (k_call (k_cons (k_var (hi _) (k_cons (k_var (hj _) (k_nil ?_)))))))
    refine ⟨_, _, rfl, pu, kk + 2 * t, m, rfl, rfl, Lt, by omega, m0, m1, fun p a b H' np np' L' S' hp ne a0 a1 b0 b1 => ?_⟩
    have pd : p ≠ D := fun e => by rw [e, hD] at np; cases np
    refine ⟨ys, keeps S' hD nD', szl (by omega), ?_, ?_, ys ++ [.ref p], ws ++ [(a, b)], upd_same, ?_, by simp [hl], fun w hw => ?_⟩
    · have e : kk + 2 * ((t + 1 : Nat) : Int) = kk + 2 * t + 2 := by omega
      rw [e]; exact L'.upd nD'
    · exact same_hid_mut (St.trans S') fr
    · rw [hid_upd (by simp), List.map_append]
      refine dpa_app (dpa_same (hid_more S' (by simp)) hys) (.cons (dp_of_pair (stp ?_)) .nil)
      rw [hid_ne (not_in2 (fun e => np' (by rw [e]; simp)) pd)]; exact hp
    · rcases List.mem_append.mp hw with hw | hw
      · exact hok w hw
      · have e : w = (a, b) := by simpa using hw
        subst e
        exact ⟨ne, a0, a1, b0, b1⟩
  · rintro H ⟨Lt, St, ys, ws, hD, hys, hl, hok⟩
    exact h D ys ws H nD nD' Lt St hD hys hl hok
/-- draw(left, [..][draw(left, n)]) -/
theorem rd_pick {σ : L2.St} {i : Nat} {pu : Addr} {kk : Int} {cs : List Int} {ta : TA} {hi : Int} {H : Hp} {Q : VK} (hv : σ[i]? = some (some (.ref pu))) (L : Le H pu kk) (hk : kk < 900000)
    (hta : ∀ (H : Hp) (R : List V → Hp → Prop), R (cs.map V.int) H → ta σ H R) (hc : cs.length ≤ 100) (c0 : 0 < cs.length) (hb : ∀ c ∈ cs, 1 ≤ c ∧ c ≤ hi) (hh : hi < 2 ^ 100)
    (q : ∀ d H', 0 ≤ d → d < hi → Le H' pu (kk + 2) → Same (hid [pu] H) (hid [pu] H') → Q (.int d) H') :
    tCall (sp_law_draw K) [] E0 (tCons (tVar i) (tCons (tOp (rIxL K) (tLst ta) (tCall (sp_law_draw K) [] E0 (tCons (tVar i) (tCons (tC (.int cs.length)) tNil)))) tNil)) σ H Q := by
  refine k_call (k_cons (k_var hv (k_cons (k_op (k_lst (hta _ _ ⟨sz (by rw [List.length_map]; omega), fun dl ndl => ?_⟩))))))
  refine k_call (k_cons (k_var hv (k_cons (k_c (k_nil ?_)))))
  have ndl' := L.fresh ndl
  refine ⟨_, _, rfl, pu, kk, cs.length, rfl, rfl, L.upd ndl', by omega, by omega, by omega, fun r H2 r0 r1 L2 S2 => ?_⟩
  refine k_ixI (sl (keeps S2 upd_same ndl')) r0 r1 ?_
  have hm := hb _ (getD_memI r0 r1)
  refine k_nil ?_
  refine ⟨_, _, rfl, pu, kk + 1, _, rfl, rfl, L2, by omega, by omega, by omega, fun d H3 d0 d1 L3 S3 => ?_⟩
  refine q d H3 d0 (by omega) ?_ ((same_hid_new ndl).trans (S2.trans S3))
  rw [show kk + 2 = kk + 1 + 1 by omega]; exact L3


def pr_law_ties (K : PySem.W.Frag) (v0 v1 : V) (H : Hp) (Q : VK) (_ : XK) : Prop := ∃ (N : Net) (a b : Int), Dp K H v0 N.d ∧ N.ok ∧ Dp K H v1 (dPair (a, b)) ∧ isWay N a b ∧ ∀ p ns H', H p = none → Same H H' → H' p = some (.lst (List.map V.int ns)) → ns.Pairwise (· < ·) → (∀ t, t ∈ ns ↔ OnTie N a b t) → Q (.ref p) H'
def t_law_ties (K : PySem.W.Frag) : TS :=
  (tSeq (tAsg (tCall (sp_law_size K) [] E0 (tCons (tVar 0) tNil)) (gName 2))
    (tSeq (tIfS (tTest (tOp rEq (tOp (rIxT K) (tVar 0) (tC (.int 0))) (tC (.str (Str.ofString "line"))))) (tRet (tLc (iRng1 (tCons (tOp xSub (tVar 2) (tC (.int 1))) tNil)) (gName 7) (tAnd (tTest (tOp xLe (tCB (rMinT K) (tCons (tVar 1) tNil)) (tVar 7))) (tTest (tOp xLt (tVar 7) (tCB (rMaxT K) (tCons (tVar 1) tNil))))) (tVar 7) [7])) tNext)
    (tSeq (tIfS (tTest (tOp rEq (tOp (rIxT K) (tVar 0) (tC (.int 0))) (tC (.str (Str.ofString "ring"))))) (tSeq (tAsg (tOp xMod (tOp xSub (tOp (rIxT K) (tVar 1) (tC (.int 1))) (tOp (rIxT K) (tVar 1) (tC (.int 0)))) (tVar 2)) (gName 3))
    (tRet (tLc (iRng1 (tCons (tVar 2) tNil)) (gName 7) (tTest (tOp xLt (tOp xMod (tOp xSub (tVar 7) (tOp (rIxT K) (tVar 1) (tC (.int 0)))) (tVar 2)) (tVar 3))) (tVar 7) [7]))) tNext)
    (tSeq (tAsg (tLst tNil) (gName 4))
    (tSeq (tFor (iTup K (tVar 1)) (gName 5)
      (tSeq (tAsg (tLst (tCons (tVar 5) tNil)) (gName 6))
    (tSeq (tWhile (tTest (tOp xGt (tOp (rIxL K) (tVar 6) (tUn xNeg (tC (.int 1)))) (tC (.int 0))))
      (tDrop (tBM K "list" rAppend (tVar 6) (tCons (tOp (rIxL K) (tOp (rIxT K) (tVar 0) (tC (.int 1))) (tOp xSub (tOp (rIxL K) (tVar 6) (tUn xNeg (tC (.int 1)))) (tC (.int 1)))) tNil))))
    (tDrop (tBM K "list" rAppend (tVar 4) (tCons (tVar 6) tNil))))))
    (tRet (tLc (iRng1 (tCons (tOp xSub (tVar 2) (tC (.int 1))) tNil)) (gName 7) (tTest (tOp rNe (tOp (rIn K false) (tOp xAdd (tVar 7) (tC (.int 1))) (tOp (rIxL K) (tVar 4) (tC (.int 0)))) (tOp (rIn K false) (tOp xAdd (tVar 7) (tC (.int 1))) (tOp (rIxL K) (tVar 4) (tC (.int 1)))))) (tVar 7) [7])))))))
theorem forT {K : PySem.W.Frag} {σ : L2.St} {H : Hp} {nx : L2.St → Hp → Prop} {rt : VK} {b : Addr} {xs : List V} {g : TG} {tb : TS} (hs0 : SqT K H b xs) (Pv : Nat → L2.St → Hp → Prop) (h0 : Pv 0 σ H) (hl : ∀ i σ H, i ≤ xs.length → Pv i σ H → SqT K H b xs)
    (hs : ∀ (i : Nat) x σ H, xs[i]? = some x → Pv i σ H → g x σ H fun σ2 H2 => tb ⟨Pv (i + 1), rt, nx, Pv (i + 1)⟩ σ2 H2) (hd : ∀ σ H, Pv xs.length σ H → nx σ H) :
    ∃ a, V.ref b = .ref a ∧ (∃ xs, SqT K H a xs) ∧ ∃ W : Nat → Nat → L2.St → Hp → Prop, (∃ m, W 0 m σ H) ∧ ∀ i m σ H, W i m σ H →
      ((Itt K a).stop i H ∧ nx σ H) ∨ ((Itt K a).go i H ∧ ∃ N : L2.St → Hp → Prop, (∀ σ' H', N σ' H' → ∃ m', m' < m ∧ W (i + 1) m' σ' H') ∧ ∀ x H', (Itt K a).yld i H x H' → g x σ H' fun σ2 H2 => tb ⟨N, rt, nx, N⟩ σ2 H2) :=
  ⟨b, rfl, ⟨xs, hs0⟩, for_tup (D := ⟨nx, rt, fun _ _ => False, fun _ _ => False⟩) Pv h0 hl hs hd⟩
/-- the numbers below n that P takes -/
def keepI (n : Nat) (P : Nat → Bool) : List Int := ((List.range n).filter P).map fun (i : Nat) => (i : Int)
theorem keepI_fm (n : Nat) (P : Nat → Bool) : (List.range n).filterMap (fun i => if P i = true then some (V.int (0 + (i : Nat))) else none) = List.map V.int (keepI n P) := by
  unfold keepI
  rw [List.map_map]
  induction (List.range n) with
  | nil => rfl
  | cons x r ih =>
    by_cases c : P x = true
    · rw [List.filterMap_cons, if_pos c, List.filter_cons, if_pos c]
      simp only [List.map_cons]
      rw [ih]
      simp
    · rw [List.filterMap_cons, if_neg c, List.filter_cons, if_neg c]
      exact ih
theorem keepI_srt (n : Nat) (P : Nat → Bool) : (keepI n P).Pairwise (· < ·) := by
  unfold keepI
  exact List.pairwise_map.mpr ((List.pairwise_lt_range.filter P).imp fun h => by omega)
theorem keepI_mem {n : Nat} {P : Nat → Bool} {t : Int} : t ∈ keepI n P ↔ 0 ≤ t ∧ t < n ∧ P t.toNat = true := by
  unfold keepI
  rw [List.mem_map]
  constructor
  · rintro ⟨i, hi, rfl⟩
    obtain ⟨h1, h2⟩ := List.mem_filter.mp hi
    have := List.mem_range.mp h1
    exact ⟨by omega, by omega, by rw [Int.toNat_natCast]; exact h2⟩
  · rintro ⟨h0, h1, h2⟩
    exact ⟨t.toNat, List.mem_filter.mpr ⟨List.mem_range.mpr (by omega), h2⟩, by omega⟩
/-- hs: the places from x up to the root -/
def Chain (ps : List Int) (x : Int) (hs : List Int) : Prop := ∀ k : Nat, 1 ≤ k → ((k : Int) ∈ hs ↔ below ps k x.toNat = true)
theorem up_mod {n a t : Int} (a0 : 0 ≤ a) (a1 : a < n) (t0 : 0 ≤ t) (t1 : t < n) : (t - a) % n = up n a t := by
  unfold up
  split
  · exact Int.emod_eq_of_lt (by omega) (by omega)
  · rw [← Int.add_emod_right]
    exact Int.emod_eq_of_lt (by omega) (by omega)
theorem pure_law_ties {v0 v1 : V} {H : Hp} {Q : VK} {E : XK} (h : pr_law_ties K v0 v1 H Q E) : t_law_ties K ⟨fun _ H' => Q .non H', Q, fun _ _ => False, fun _ _ => False⟩ [some v0, some v1, none, none, none, none, none, none] H := by
  obtain ⟨N, a, b, hd, ok, hw, ⟨w1, w2, w3, w4, w5⟩, q⟩ := h
  unfold t_law_ties
  wtm_at "s"
  refine ⟨_, rfl, N, hd, ?_⟩
  obtain ⟨c, y, rfl, hs, hy⟩ := dp_net hd
  obtain ⟨p, rfl, hp⟩ := dp_pair hw
  wtm_at "s"
  refine k_eqS ?_
  cases N with
  | line n =>
    obtain rfl := dp_int hy
    obtain ⟨o1, o2⟩ := ok
    have w4' : a < n := w4
    have w5' : b < n := w5
    rw [show Net.kind (.line n) = Str.ofString "line" from rfl, show Net.places (.line n) = n from rfl, s_same]
    wtm_at "s"
    refine lc_pureR (by omega) (fun i => if decide (min a b ≤ (i : Int) ∧ (i : Int) < max a b) = true then some (V.int (0 + (i : Nat))) else none) ?_ (fun D H' nD sm hD => ?_)
    · intro i H' hi sm R R0 h1 h2
      have hp' := same_seqT sm hp
      have e0 : (0 + (i : Int)) = i := by omega
      refine k_gname (k_wipe (by with_unfolding_all rfl) ?_)
      wtm_at "s"
      rw [e0]
      by_cases c1 : min a b ≤ (i : Int)
      · rw [if_pos (decide_eq_true c1)]
        wtm_at "s"
        by_cases c2 : (i : Int) < max a b
        · rw [if_pos (decide_eq_true c2)]
          wtm_at "s"
          exact h1 _ (by rw [if_pos (decide_eq_true ⟨c1, c2⟩), e0])
        · rw [decide_eq_false c2]
          exact iteF (h2 (by rw [if_neg]; simp only [decide_eq_true_eq]; exact fun z => c2 z.2))
      · rw [decide_eq_false c1]
        exact iteF (iteF (h2 (by rw [if_neg]; simp only [decide_eq_true_eq]; exact fun z => c1 z.1)))
    · rw [keepI_fm _ (fun i => decide (min a b ≤ (i : Int) ∧ (i : Int) < max a b))] at hD
      refine q D _ H' nD sm hD (keepI_srt _ _) fun t => ?_
      rw [keepI_mem]
      show 0 ≤ t ∧ t < _ ∧ _ ↔ min a b ≤ t ∧ t < max a b
      simp only [decide_eq_true_eq]
      omega
  | ring n =>
    obtain rfl := dp_int hy
    obtain ⟨o1, o2⟩ := ok
    have w4' : a < n := w4
    have w5' : b < n := w5
    rw [show Net.kind (.ring n) = Str.ofString "ring" from rfl] at hs ⊢
    rw [show Net.places (.ring n) = n from rfl, s_rl]
    wtm_at "s"
    refine k_eqS ?_
    rw [s_same]
    wtm_at "s"
    rw [up_mod w2 w4' w3 w5']
    refine lc_pureR (by omega) (fun i => if decide (up n a (i : Int) < up n a b) = true then some (V.int (0 + (i : Nat))) else none) ?_ (fun D H' nD sm hD => ?_)
    · intro i H' hi sm R R0 h1 h2
      have hp' := same_seqT sm hp
      refine k_gname (k_wipe (by with_unfolding_all rfl) ?_)
      wtm_at "s"
      rw [show (0 + (i : Int)) - a = i - a by omega, up_mod w2 w4' (by omega) (by omega)]
      by_cases c1 : up n a (i : Int) < up n a b
      · rw [if_pos (decide_eq_true c1)]
        wtm_at "s"
        exact h1 _ (by rw [if_pos (decide_eq_true c1)])
      · rw [decide_eq_false c1]
        exact iteF (h2 (by rw [if_neg]; simp only [decide_eq_true_eq]; exact c1))
    · rw [keepI_fm _ (fun i => decide (up n a (i : Int) < up n a b))] at hD
      refine q D _ H' nD sm hD (keepI_srt _ _) fun t => ?_
      rw [keepI_mem]
      show 0 ≤ t ∧ t < _ ∧ _ ↔ 0 ≤ t ∧ t < n ∧ up n a t < up n a b
      constructor
      · rintro ⟨h0, h1, h2⟩
        refine ⟨h0, by omega, ?_⟩
        have := of_decide_eq_true h2
        rw [show ((t.toNat : Nat) : Int) = t by omega] at this
        exact this
      · rintro ⟨h0, h1, h2⟩
        refine ⟨h0, by omega, decide_eq_true ?_⟩
        rw [show ((t.toNat : Nat) : Int) = t by omega]
        exact h2
  | tree ps =>
    obtain ⟨d, rfl, hdl⟩ := dp_ints hy
    rw [show Net.kind (.tree ps) = Str.ofString "tree" from rfl] at hs ⊢
    rw [s_tl]
    have w4' : a < ps.length + 1 := w4
    have w5' : b < ps.length + 1 := w5
    have l60 := ok.2.1
    wtm_at "s"
    refine k_eqS ?_
    rw [s_tr]
    wtm_at "s"
    refine ⟨sz (by simp), fun fo nfo => ?_⟩
    have s1 := same_new (o := .lst []) nfo
    have e1 : upd H fo (.lst []) fo = some (.lst (List.map V.ref [])) := upd_same
    generalize upd H fo (.lst []) = H1 at s1 e1 ⊢
    wtm_at "s"
    have pl : ∀ (i : Nat) x, [V.int a, V.int b][i]? = some x → ∃ z, x = .int z ∧ z = [a, b].getD i 0 ∧ 0 ≤ z ∧ z < ps.length + 1 := by
      intro i x hx
      match i, hx with
      | 0, hx => exact ⟨a, by simpa using hx.symm, rfl, w2, w4'⟩
      | 1, hx => exact ⟨b, by simpa using hx.symm, rfl, w3, w5'⟩
    refine forT (same_seqT s1 hp) (fun i σ' H' => ∃ k5 k6 ds, σ' = [some (.ref c), some (.ref p), some (.int (Net.tree ps).places), none, some (.ref fo), k5, k6, none] ∧ Same H H' ∧ H' fo = some (.lst (List.map V.ref ds)) ∧ ds.length = i ∧
      ∀ (j : Nat) (e : Addr), ds[j]? = some e → H e = none ∧ e ≠ fo ∧ ∃ hs, H' e = some (.lst (List.map V.int hs)) ∧ Chain ps ([a, b].getD j 0) hs) ⟨_, _, [], rfl, s1, e1, rfl, fun j e he => by simp at he⟩ (fun i σ' H' _ ⟨_, _, _, _, sm, _⟩ => same_seqT sm hp) ?_ ?_
    · rintro i x σ' H2 hx ⟨k5, k6, ds, rfl, sm, hfo, hl, hds⟩
      have hi : i < 2 := (List.getElem?_eq_some_iff.mp hx).1
      obtain ⟨z, rfl, hz, z0, z1⟩ := pl i x hx
      wtm_at "s"
      refine ⟨sz (by simp), fun he nhe => ?_⟩
      have s2 := same_new (o := .lst [.int z]) nhe
      have e2 : upd H2 he (.lst [.int z]) he = some (.lst (List.map V.int ([] ++ [z]))) := upd_same
      have nhe0 := sm.free nhe
      have foN : fo ≠ he := ne_of_none hfo nhe
      have s2' : ∀ b o, H2 b = some o → b ≠ he := fun b o h => ne_of_none h nhe
      generalize upd H2 he (.lst [.int z]) = H3 at s2 e2 ⊢
      wtm_at "s"
      refine ⟨fun m σ' H' => ∃ (x : Int) (l : List Int), σ' = [some (.ref c), some (.ref p), some (.int (Net.tree ps).places), none, some (.ref fo), some (.int z), some (.ref he), none] ∧ Same H2 H' ∧ H' he = some (.lst (List.map V.int (l ++ [x]))) ∧ (m : Int) = x ∧ x ≤ z ∧ (l.length : Int) + x ≤ z ∧
        ∀ k : Nat, 1 ≤ k → (below ps k z.toNat = true ↔ (k : Int) ∈ l ++ [x] ∨ below ps k x.toNat = true), ⟨z.toNat, z, [], rfl, s2, e2, by omega, by omega, by simp, fun k hk => by
          constructor
          · exact .inr
          · rintro (h | h)
            · have : (k : Int) = z := by simpa using h
              rw [show z.toNat = k by omega]; exact below_self k
            · exact h⟩, ?_⟩
      rintro m σ' H4 ⟨x, l, rfl, s4, e4, hm, hxz, hlx, hc⟩
      have at4 : atI (List.map V.int (l ++ [x])) (-1) = some (.int x) := by rw [List.map_append]; exact atI_last _ _
      wtm_at "s"
      refine k_ixL (sl e4) at4 ?_
      wtm_at "s"
      refine k_it (fun c1 => ?_) (fun c1 => ?_)
      · have hpx := ok.2.2 (x - 1).toNat (by omega)
        refine ⟨fun σ' H' => ∃ m', m' < m ∧ ∃ (x : Int) (l : List Int), σ' = [some (.ref c), some (.ref p), some (.int (Net.tree ps).places), none, some (.ref fo), some (.int z), some (.ref he), none] ∧ Same H2 H' ∧ H' he = some (.lst (List.map V.int (l ++ [x]))) ∧ (m' : Int) = x ∧ x ≤ z ∧ (l.length : Int) + x ≤ z ∧
          ∀ k : Nat, 1 ≤ k → (below ps k z.toNat = true ↔ (k : Int) ∈ l ++ [x] ∨ below ps k x.toNat = true), fun σ' H' h => h, ?_⟩
        have s04 := sm.trans s4
        have hs4 := same_seqT s04 hs
        wtm_at "s"
        refine k_tyL (sl e4) ?_
        wtm_at "s"
        refine k_ixL (sl e4) at4 ?_
        wtm_at "s"
        refine k_ixI (s04.seq hdl) (by omega) (by omega) ?_
        wtm_at "s"
        refine k_append e4 (by simp; omega) ?_
        wtm_at "s"
        generalize hx' : ps.getD (x - 1).toNat 0 = x' at hpx ⊢
        refine ⟨x'.toNat, by omega, x', l ++ [x], rfl, same_mut s4 nhe, by rw [upd_same, List.map_append (l₂ := [x'])]; rfl, by omega, by omega, by simp; omega, fun k hk => ?_⟩
        rw [hc k hk]
        have ex : x.toNat = (x - 1).toNat + 1 := by omega
        constructor
        · rintro (h | h)
          · exact .inl (List.mem_append_left _ h)
          · by_cases ck : k = x.toNat
            · exact .inl (List.mem_append_left _ (List.mem_append_right _ (by simp; omega)))
            · rw [ex, below_step ok (by omega) (by omega), hx'] at h
              exact .inr h
        · rintro (h | h)
          · rcases List.mem_append.mp h with h | h
            · exact .inl h
            · have : (k : Int) = x' := by simpa using h
              refine .inr ?_
              rw [ex, below_step ok (by omega) (by omega), hx', show x'.toNat = k by omega]
              exact below_self k
          · by_cases ck : k = x.toNat
            · exact .inl (List.mem_append_right _ (by simp; omega))
            · refine .inr ?_
              rw [ex, below_step ok (by omega) (by omega), hx']
              exact h
      · have x0 : x = 0 := by omega
        subst x0
        have fo4 := s4 _ _ hfo
        wtm_at "s"
        refine k_tyL (sl fo4) ?_
        wtm_at "s"
        refine k_append fo4 (by rw [List.length_map]; omega) ?_
        wtm_at "s"
        refine ⟨_, _, ds ++ [he], rfl, same_mut (sm.trans s4) nfo, by rw [upd_same, List.map_append]; rfl, by simp [hl], fun j e hj => ?_⟩
        by_cases cj : j < ds.length
        · rw [List.getElem?_append_left cj] at hj
          obtain ⟨g1, g2, hs', g3, g4⟩ := hds j e hj
          exact ⟨g1, g2, hs', by rw [upd_ne g2]; exact s4 _ _ g3, g4⟩
        · have hj' : j = ds.length := by
            have := (List.getElem?_eq_some_iff.mp hj).1
            simp at this; omega
          subst hj'
          have he' : e = he := by simpa using hj.symm
          subst he'
          refine ⟨nhe0, foN.symm, l ++ [0], by rw [upd_ne foN.symm]; exact e4, ?_⟩
          rw [hl, ← hz]
          intro k hk
          rw [hc k hk]
          constructor
          · exact .inl
          · rintro (h | h)
            · exact h
            · rw [show (0 : Int).toNat = 0 from rfl, below_lt 0 (by omega)] at h; cases h
    · rintro σ' H2 ⟨k5, k6, ds, rfl, sm, hfo, hl, hds⟩
      match ds, hl with
      | [d1, d2], _ =>
      obtain ⟨_, _, h1, e1, c1⟩ := hds 0 d1 rfl
      obtain ⟨_, _, h2, e2, c2⟩ := hds 1 d2 rfl
      have hfo' : H2 fo = some (.lst [.ref d1, .ref d2]) := hfo
      have hpl : (Net.tree ps).places = ps.length + 1 := rfl
      wtm_at "s"
      rw [hpl]
      refine lc_pureR (by omega) (fun i => if decide (¬ (((i : Int) + 1 ∈ h1) ↔ ((i : Int) + 1 ∈ h2))) = true then some (V.int (0 + (i : Nat))) else none) ?_ (fun D H' nD sm2 hD => ?_)
      · intro i H' hi sm2 R R0 g1 g2
        have e0 : (0 + (i : Int)) = i := by omega
        have hfo2 := sm2 _ _ hfo'
        have e1' := sm2 _ _ e1
        have e2' := sm2 _ _ e2
        refine k_gname (k_wipe (by with_unfolding_all rfl) ?_)
        wtm_at "s"
        refine k_ixL (sl hfo2) (v := .ref d1) rfl ?_
        wtm_at "s"
        refine k_ixL (sl hfo2) (v := .ref d2) rfl ?_
        wtm_at "s"
        rw [e0]
        by_cases c : ((i : Int) + 1 ∈ h1) ↔ ((i : Int) + 1 ∈ h2)
        · refine k_itNF (decide_eq_decide.mpr c) ?_
          exact g2 (by rw [if_neg]; simp only [decide_eq_true_eq]; exact fun z => z c)
        · refine k_itNT (fun z => c (decide_eq_decide.mp z)) ?_
          wtm_at "s"
          exact g1 _ (by rw [if_pos (decide_eq_true c), e0])
      · rw [keepI_fm _ (fun i => decide (¬ (((i : Int) + 1 ∈ h1) ↔ ((i : Int) + 1 ∈ h2))))] at hD
        refine q D _ H' (sm.free nD) (sm.trans sm2) hD (keepI_srt _ _) fun t => ?_
        rw [keepI_mem]
        show 0 ≤ t ∧ t < _ ∧ _ ↔ 0 ≤ t ∧ t < ps.length ∧ below ps (t.toNat + 1) a.toNat ≠ below ps (t.toNat + 1) b.toNat
        have c1' := c1 (t.toNat + 1) (by omega)
        have c2' := c2 (t.toNat + 1) (by omega)
        rw [show ((t.toNat + 1 : Nat) : Int) = (t.toNat : Int) + 1 by omega] at c1' c2'
        rw [decide_eq_true_eq, c1', c2']
        show 0 ≤ t ∧ t < _ ∧ ¬ (below ps (t.toNat + 1) a.toNat = true ↔ below ps (t.toNat + 1) b.toNat = true) ↔ _
        rw [← Bool.eq_iff_iff]
        constructor
        · rintro ⟨x1, x2, x3⟩; exact ⟨x1, by omega, x3⟩
        · rintro ⟨x1, x2, x3⟩; exact ⟨x1, by omega, x3⟩
abbrev sp_law_ties (K : PySem.W.Frag) : Sp := fun vs H Q E => ∃ v0 v1, vs = [v0, v1] ∧ pr_law_ties K v0 v1 H Q E
theorem ok_law_ties (T : Txt K mg A) : FnOk P w K mg base CX0 2 A.a_law_ties A.d_law_ties ["_law_net_here", "_law_way_here"] (sp_law_ties K) := by
  refine T.F_law_ties.ok sc_law_ties (fun vs H Q E h => by obtain ⟨v0, v1, rfl, _⟩ := h; rfl) (fun cdv A0 outer s H vs Q E hr h => ?_)
  obtain ⟨v0, v1, rfl, h⟩ := h
  exact ⟨t_law_ties K, (pss_cons (ps_set (i := 2) sc_law_ties.nd rfl (Or.inr rfl) (pe_call (ok_law_size T) (hr.mono (by decide)) (by rfl) T.g_law_size T.F_law_size.kp T.b_law_size .nil pass0 (pa_cons (pv 0) pa_nil)))
      (pss_cons (ps_if (pt_cmpR op_eq (pe_ix ix_tup (pv 0) pe_int (fun _ _ => rfl)) pe_str (nomark _)) (pss_one (ps_ret (pe_lc (own := [("_law_k", 7)]) (by rfl) sc_law_ties.nd (pi_range1 (by rfl) T.z_range (pa_cons (pe_op op_sub (pv 2) pe_int) pa_nil)) (blkOk_by (own := [("_law_k", 7)]) (N := ["_law_net_here", "_law_way_here", "_law_many", "_law_far", "_law_below", "_law_place", "_law_held", "_law_k"]) (sc := defScope s_law_ties) (by decide +kernel)) (fun _ _ _ _ _ => (pg_name (i := 7) sc_law_ties.nd rfl (Or.inl rfl))) (fun _ _ _ _ _ => (pts_one (PW.pt (pw_and (pt_cmpR op_le (pe_callB (q_minT (by rfl) hr.units) (by rfl) T.z_min (by decide +kernel) (pa_cons (pv 1) pa_nil)) (pv 7) (nomark _)) (pw_and1 (pt_cmpR op_lt (pv 7) (pe_callB (q_maxT (by rfl) hr.units) (by rfl) T.z_max (by decide +kernel) (pa_cons (pv 1) pa_nil)) (nomark _))))))) (fun _ _ _ _ _ => (pv 7))))) pss_nil)
      (pss_cons (ps_if (pt_cmpR op_eq (pe_ix ix_tup (pv 0) pe_int (fun _ _ => rfl)) pe_str (nomark _)) (pss_cons (ps_set (i := 3) sc_law_ties.nd rfl (Or.inr rfl) (pe_op op_mod (pe_op op_sub (pe_ix ix_tup (pv 1) pe_int (fun _ _ => rfl)) (pe_ix ix_tup (pv 1) pe_int (fun _ _ => rfl))) (pv 2)))
      (pss_one (ps_ret (pe_lc (own := [("_law_k", 7)]) (by rfl) sc_law_ties.nd (pi_range1 (by rfl) T.z_range (pa_cons (pv 2) pa_nil)) (blkOk_by (own := [("_law_k", 7)]) (N := ["_law_net_here", "_law_way_here", "_law_many", "_law_far", "_law_below", "_law_place", "_law_held", "_law_k"]) (sc := defScope s_law_ties) (by decide +kernel)) (fun _ _ _ _ _ => (pg_name (i := 7) sc_law_ties.nd rfl (Or.inl rfl))) (fun _ _ _ _ _ => (pts_one (pt_cmpR op_lt (pe_op op_mod (pe_op op_sub (pv 7) (pe_ix ix_tup (pv 1) pe_int (fun _ _ => rfl))) (pv 2)) (pv 3) (nomark _)))) (fun _ _ _ _ _ => (pv 7)))))) pss_nil)
      (pss_cons (ps_set (i := 4) sc_law_ties.nd rfl (Or.inr rfl) (pe_lst pa_nil))
      (pss_cons (ps_for PassesOwn.never rfl (pi_tup (pv 1)) (pg_name (i := 5) sc_law_ties.nd rfl (Or.inl rfl))
      (pss_cons (ps_set (i := 6) sc_law_ties.nd rfl (Or.inl rfl) (pe_lst (pa_cons (pv 5) pa_nil)))
      (pss_cons (ps_while PassesOwn.never (pt_cmpR op_gt (pe_ix ix_list (pv 6) (pe_un un_neg pe_int) (fun _ _ => rfl)) pe_int (nomark _))
      (pss_one (ps_expr (pe_bm PySem.F.plainAttrs_list PySem.F.slot_list_append PySem.F.type_list_append mt_append (pv 6) (pa_cons (pe_ix ix_list (pe_ix ix_tup (pv 0) pe_int (fun _ _ => rfl)) (pe_op op_sub (pe_ix ix_list (pv 6) (pe_un un_neg pe_int) (fun _ _ => rfl)) pe_int) (fun _ _ => rfl)) pa_nil)))))
      (pss_one (ps_expr (pe_bm PySem.F.plainAttrs_list PySem.F.slot_list_append PySem.F.type_list_append mt_append (pv 4) (pa_cons (pv 6) pa_nil)))))))
      (pss_one (ps_ret (pe_lc (own := [("_law_k", 7)]) (by rfl) sc_law_ties.nd (pi_range1 (by rfl) T.z_range (pa_cons (pe_op op_sub (pv 2) pe_int) pa_nil)) (blkOk_by (own := [("_law_k", 7)]) (N := ["_law_net_here", "_law_way_here", "_law_many", "_law_far", "_law_below", "_law_place", "_law_held", "_law_k"]) (sc := defScope s_law_ties) (by decide +kernel)) (fun _ _ _ _ _ => (pg_name (i := 7) sc_law_ties.nd rfl (Or.inl rfl))) (fun _ _ _ _ _ => (pts_one (pt_cmpR op_ne (pe_cmpR op_in_seq (pe_op op_add (pv 7) pe_int) (pe_ix ix_list (pv 4) pe_int (fun _ _ => rfl)) (by rfl)) (pe_cmpR op_in_seq (pe_op op_add (pv 7) pe_int) (pe_ix ix_list (pv 4) pe_int (fun _ _ => rfl)) (by rfl)) (nomark _)))) (fun _ _ _ _ _ => (pv 7)))))))))), pure_law_ties h⟩
def commonB (xs ys : List Int) : Bool := xs.any fun t => decide (t ∈ ys)
theorem common_iff {xs ys : List Int} : commonB xs ys = true ↔ ∃ t, t ∈ xs ∧ t ∈ ys := by
  unfold commonB
  rw [List.any_eq_true]
  constructor
  · rintro ⟨t, h1, h2⟩; exact ⟨t, h1, of_decide_eq_true h2⟩
  · rintro ⟨t, h1, h2⟩; exact ⟨t, h1, decide_eq_true h2⟩
def pr_law_common (K : PySem.W.Frag) (v0 v1 : V) (H : Hp) (Q : VK) (_ : XK) : Prop := ∃ (a b : Addr) (xs ys : List Int), v0 = .ref a ∧ v1 = .ref b ∧ SqL K H a (xs.map V.int) ∧ SqL K H b (ys.map V.int) ∧ xs.length ≤ 1000 ∧ ∀ H', Same H H' → Q (.bl (commonB xs ys)) H'
def t_law_common (K : PySem.W.Frag) : TS :=
  (tRet (tOp xGt (tCB (rLenX K) (tCons (tLc (iList K (tVar 0)) (gName 2) (tTest (tOp (rIn K false) (tVar 2) (tVar 1))) (tVar 2) [2]) tNil)) (tC (.int 0))))
theorem pure_law_common {v0 v1 : V} {H : Hp} {Q : VK} {E : XK} (h : pr_law_common K v0 v1 H Q E) : t_law_common K ⟨fun _ H' => Q .non H', Q, fun _ _ => False, fun _ _ => False⟩ [some v0, some v1, none] H := by
  obtain ⟨a, b, xs, ys, rfl, rfl, ha, hb, hz, q⟩ := h
  unfold t_law_common
  wtm_at "s"
  refine lc_pure ha xs (by simp) (by omega) (fun t => if t ∈ ys then some (V.int t) else none) ?_ (fun D H1 nD s1 eD => ?_)
  · intro k z p H' hz hp sm R R0 h1 h2
    rw [List.getElem?_map, hp] at hz
    cases hz
    have hb' := sm.seq hb
    wtm_at "s"
    refine k_it (fun w => ?_) (fun w => ?_)
    · wtm_at "s"
      exact h1 _ (by rw [if_pos w])
    · exact h2 (by rw [if_neg w])
  · wtm_at "s"
    have e : decide ((0 : Int) < ((xs.filterMap fun t => if t ∈ ys then some (V.int t) else none).length : Nat)) = commonB xs ys := by
      cases hc : commonB xs ys with
      | true => exact decide_eq_true (by have := (meet_fm xs ys).mpr (common_iff.mp hc); omega)
      | false => exact decide_eq_false fun z => by
                   have := common_iff.mpr ((meet_fm xs ys).mp (by omega))
                   rw [hc] at this; cases this
    rw [e]
    exact q H1 s1
abbrev sp_law_common (K : PySem.W.Frag) : Sp := fun vs H Q E => ∃ v0 v1, vs = [v0, v1] ∧ pr_law_common K v0 v1 H Q E
theorem ok_law_common (T : Txt K mg A) : FnOk P w K mg base CX0 1 A.a_law_common A.d_law_common ["_law_one", "_law_other"] (sp_law_common K) := by
  refine T.F_law_common.ok sc_law_common (fun vs H Q E h => by obtain ⟨v0, v1, rfl, _⟩ := h; rfl) (fun cdv A0 outer s H vs Q E hr h => ?_)
  obtain ⟨v0, v1, rfl, h⟩ := h
  exact ⟨t_law_common K, (pss_one (ps_ret (pe_cmpR op_gt (pe_callB q_len (by rfl) T.z_len (by decide +kernel) (pa_cons (pe_lc (own := [("_law_tie", 2)]) (by rfl) sc_law_common.nd (pi_list (pv 0)) (blkOk_by (own := [("_law_tie", 2)]) (N := ["_law_one", "_law_other", "_law_tie"]) (sc := defScope s_law_common) (by decide +kernel)) (fun _ _ _ _ _ => (pg_name (i := 2) sc_law_common.nd rfl (Or.inl rfl))) (fun _ _ _ _ _ => (pts_one (pt_cmpR op_in_seq (pv 2) (pv 1) (by rfl)))) (fun _ _ _ _ _ => (pv 2))) pa_nil)) pe_int (nomark _)))), pure_law_common h⟩


/-- a number that is not there -/
theorem missing : ∀ (n : Nat) (l : List Int), l.length < n → ∃ j : Nat, j < n ∧ (j : Int) ∉ l
  | 0, _, h => by omega
  | n + 1, l, h => by
    by_cases c : (n : Int) ∈ l
    · obtain ⟨j, h1, h2⟩ := missing n (l.erase n) (by rw [List.length_erase_of_mem c]; have := List.length_pos_of_mem c; omega)
      exact ⟨j, by omega, fun z => h2 ((List.mem_erase_of_ne (by omega)).mpr z)⟩
    · exact ⟨n, by omega, c⟩
theorem rise_get {ms : List Int} (h : ms.Pairwise (· < ·)) {i j : Nat} (hij : i < j) (hj : j < ms.length) : ms.getD i 0 < ms.getD j 0 := by
  rw [getD_of (List.getElem?_eq_getElem (show i < ms.length by omega)), getD_of (List.getElem?_eq_getElem hj)]
  exact List.pairwise_iff_getElem.mp h i j _ _ hij
/-- the law's greedy numbers -/
def Greedy (N : Net) (ws : List (Int × Int)) (us : List Int) : Prop := (∀ j : Nat, j < us.length → 0 ≤ us.getD j 0 ∧ us.getD j 0 ≤ j) ∧ ∀ j' j : Nat, j' < j → j < us.length → meetW N ws j' j → us.getD j' 0 ≠ us.getD j 0
theorem getD_app {us : List Int} {x : Int} {j : Nat} (h : j < us.length) : (us ++ [x]).getD j 0 = us.getD j 0 := by rw [List.getD_eq_getElem?_getD, List.getD_eq_getElem?_getD, List.getElem?_append_left h]
theorem getD_app_last {us : List Int} {x : Int} : (us ++ [x]).getD us.length 0 = x := by rw [List.getD_eq_getElem?_getD, List.getElem?_append_right (Nat.le_refl _)]; simp
theorem Greedy.more {N : Net} {ws : List (Int × Int)} {us : List Int} {x : Int} (g : Greedy N ws us) (h0 : 0 ≤ x) (h1 : x ≤ us.length) (hm : ∀ j' : Nat, j' < us.length → meetW N ws j' us.length → us.getD j' 0 ≠ x) : Greedy N ws (us ++ [x]) := by
  refine ⟨fun j hj => ?_, fun j' j hlt hj mt => ?_⟩
  · by_cases c : j < us.length
    · rw [getD_app c]; exact g.1 j c
    · have e : j = us.length := by simp at hj; omega
      subst e
      rw [getD_app_last]; omega
  · by_cases c : j < us.length
    · rw [getD_app c, getD_app (by omega)]; exact g.2 j' j hlt c mt
    · have e : j = us.length := by simp at hj; omega
      subst e
      rw [getD_app_last, getD_app hlt]; exact hm j' hlt mt
def Names (ms : List Int) : Prop := ms.Pairwise (· < ·) ∧ ∀ m ∈ ms, 0 ≤ m ∧ m ≤ (ms.length - 1 : Nat) * (10 ^ 27 + 1)
theorem Names.more {l : List Int} {x d : Int} (h : Names (l ++ [x])) (d0 : 0 ≤ d) (d1 : d < 10 ^ 27) : Names (l ++ [x] ++ [x + 1 + d]) := by
  obtain ⟨h1, h2⟩ := h
  have hx := h2 x (by simp)
  refine ⟨List.pairwise_append.mpr ⟨h1, by simp, fun a ha b hb => ?_⟩, fun m hm => ?_⟩
  · have e : b = x + 1 + d := by simpa using hb
    subst e
    have : a ≤ x := by
      rcases List.mem_append.mp ha with ha | ha
      · have := (List.pairwise_append.mp h1).2.2 a ha x (by simp); omega
      · have : a = x := by simpa using ha
        omega
    omega
  · have e1 : (l ++ [x]).length - 1 = l.length := by simp
    have e2 : (l ++ [x] ++ [x + 1 + d]).length - 1 = l.length + 1 := by simp
    rw [e1] at h2 hx
    rw [e2, show ((l.length + 1 : Nat) : Int) = (l.length : Int) + 1 by omega, Int.add_mul]
    rcases List.mem_append.mp hm with hm | hm
    · have := h2 m hm; omega
    · have : m = x + 1 + d := by simpa using hm
      omega
def pr_law_hues (K : PySem.W.Frag) (v0 v1 v2 : V) (H : Hp) (Q : VK) (_ : XK) : Prop := ∃ (pu : Addr) (k : Int) (N : Net) (ws : List (Int × Int)), v0 = .ref pu ∧ Le H pu k ∧ k < 800000 ∧ Dp K (hid [pu] H) v1 N.d ∧ N.ok ∧ Dp K (hid [pu] H) v2 (dPairs ws) ∧ ws.length ≤ 100 ∧ (∀ w ∈ ws, isWay N w.1 w.2) ∧
  ∀ p hs k' H', H p = none → p ∉ [pu] → Le H' pu k' → k' ≤ k + 300 → Same (hid [pu] H) (hid [pu] H') → H' p = some (.lst (List.map V.int hs)) → RightH N ws hs → Q (.ref p) H'
theorem right_of {N : Net} {ws : List (Int × Int)} {ms us : List Int} (hn : Names ms) (hl : ms.length = ws.length + 1) (hu : us.length = ws.length) (hz : ws.length ≤ 100) (g : Greedy N ws us) : RightH N ws (us.map fun u => ms.getD u.toNat 0) := by
  obtain ⟨n1, n2⟩ := hn
  have get : ∀ j, j < ws.length → (us.map fun u => ms.getD u.toNat 0).getD j 0 = ms.getD (us.getD j 0).toNat 0 := fun j hj => by
    have e : us[j]? = some (us[j]'(by omega)) := List.getElem?_eq_getElem (by omega)
    rw [getD_of e, List.getD_eq_getElem?_getD, List.getElem?_map, e]; rfl
  have mem : ∀ j, j < ms.length → 0 ≤ ms.getD j 0 ∧ ms.getD j 0 < 10 ^ 30 := fun j hj => by
    have e : ms[j]? = some ms[j] := List.getElem?_eq_getElem hj
    rw [getD_of e]
    have := n2 _ (List.mem_of_getElem? e)
    have e3 : ((ms.length - 1 : Nat) : Int) * (10 ^ 27 + 1) ≤ 100 * (10 ^ 27 + 1) := Int.mul_le_mul_of_nonneg_right (by omega) (by decide)
    have e4 : (100 : Int) * (10 ^ 27 + 1) < 10 ^ 30 := by decide +kernel
    omega
  refine ⟨by simp [hu], fun i j z => ?_, fun h hh => ?_⟩
  · obtain ⟨z1, z2, z3⟩ := z
    have gi := g.1 i (by omega)
    have gj := g.1 j (by omega)
    by_cases c : i = j
    · subst c
      rw [if_pos rfl, get i z2] at z3
      have := mem (us.getD i 0).toNat (by omega)
      omega
    · rw [if_neg c, get i (by omega), get j z2] at z3
      have ne := g.2 i j (by omega) (by omega) z3.2
      have : (us.getD i 0).toNat < (us.getD j 0).toNat ∨ (us.getD j 0).toNat < (us.getD i 0).toNat := by omega
      rcases this with y | y
      · have := rise_get n1 y (by omega); omega
      · have := rise_get n1 y (by omega); omega
  · obtain ⟨u, hu', rfl⟩ := List.mem_map.mp hh
    obtain ⟨j, hj, e⟩ := List.getElem_of_mem hu'
    have gj := g.1 j hj
    rw [getD_of (List.getElem?_eq_getElem hj), e] at gj
    exact mem u.toNat (by omega)
def t_law_hues (K : PySem.W.Frag) : TS :=
  (tSeq (tAsg (tLc (iList K (tVar 2)) (gName 8) tYes (tCall (sp_law_ties K) [] E0 (tCons (tVar 1) (tCons (tVar 8) tNil))) [8]) (gName 3))
    (tSeq (tAsg (tLst (tCons (tC (.int 0)) tNil)) (gName 4))
    (tSeq (tFor (iRng1 (tCons (tCB (rLenX K) (tCons (tVar 2) tNil)) tNil)) (gName 5)
      (tDrop (tBM K "list" rAppend (tVar 4) (tCons (tOp xAdd (tOp xAdd (tOp (rIxL K) (tVar 4) (tUn xNeg (tC (.int 1)))) (tC (.int 1))) (tCall (sp_law_draw K) [] E0 (tCons (tVar 0) (tCons (tOp (rIxL K) (tLst (tCons (tC (.int 1)) (tCons (tC (.int 3)) (tCons (tOp xPow (tC (.int 10)) (tC (.int 27))) tNil)))) (tCall (sp_law_draw K) [] E0 (tCons (tVar 0) (tCons (tC (.int 3)) tNil)))) tNil)))) tNil))))
    (tSeq (tAsg (tLst tNil) (gName 6))
    (tSeq (tFor (iRng1 (tCons (tCB (rLenX K) (tCons (tVar 2) tNil)) tNil)) (gName 5)
      (tSeq (tAsg (tLc (iRng1 (tCons (tVar 5) tNil)) (gName 9) (tB (tCall (sp_law_common K) [] E0 (tCons (tOp (rIxL K) (tVar 3) (tVar 5)) (tCons (tOp (rIxL K) (tVar 3) (tVar 9)) tNil)))) (tOp (rIxL K) (tVar 6) (tVar 9)) [9]) (gName 7))
    (tDrop (tBM K "list" rAppend (tVar 6) (tCons (tOp (rIxL K) (tLc (iRng1 (tCons (tOp xAdd (tVar 5) (tC (.int 1))) tNil)) (gName 10) (tTest (tOp (rIn K true) (tVar 10) (tVar 7))) (tVar 10) [10]) (tC (.int 0))) tNil)))))
    (tRet (tLc (iList K (tVar 6)) (gName 10) tYes (tOp (rIxL K) (tVar 4) (tVar 10)) [10])))))))
theorem pure_law_hues {v0 v1 v2 : V} {H : Hp} {Q : VK} {E : XK} (h : pr_law_hues K v0 v1 v2 H Q E) : t_law_hues K ⟨fun _ H' => Q .non H', Q, fun _ _ => False, fun _ _ => False⟩ [some v0, some v1, some v2, none, none, none, none, none, none, none, none] H := by
  obtain ⟨pu, k, N, ws, rfl, L, hk, hd, ok, hw, hz, hok, q⟩ := h
  obtain ⟨b, xs, rfl, hb, hxs⟩ := dp_list hw
  have hl := dpa_len hxs
  rw [List.length_map] at hl
  have pe : ∀ x ∈ [pu], H x ≠ none := fun x hx => by
    obtain ⟨x1, f, hp, _⟩ := L.hp
    rw [List.mem_singleton.mp hx, hp]; exact fun z => nomatch z
  unfold t_law_hues
  wtm_at "s"
  refine lc_lainG (N := N) [pu] pe ((hid_same _ _).seq hb) (dpa_same (hid_same _ _) hxs) (by omega) (fun c w H' R hw' sm hc' hR => ?_) (fun _ => rfl) (fun D lain H1 nD s1 dD la => ?_)
  · wtm_at "s"
    exact ⟨_, _, rfl, N, w.1, w.2, dp_same ((hid_same _ _).trans sm) hd, ok, dp_of_pair hc', hok w hw', fun p ns H'' np s' hp srt mem => hR p ns H'' np s' hp srt mem⟩
  have lsm := la.small ok hok
  have L1 := L.same s1
  have S1 : Same (hid [pu] H) (hid [pu] H1) := hid_mono s1
  wtm_at "s"
  refine kL (by simp) (fun nm H2 nnm s2 e2 => ?_)
  have nnm' := L1.fresh nnm
  have frn : hid [pu] H1 nm = none := by rw [hid_ne nnm']; exact nnm
  have L2 := L1.same s2
  wtm_at "s"
  refine forR (fun i σ' H' => Le H' pu (k + 2 * (i : Nat)) ∧ Same (hid [pu] H1) (hid [pu] H') ∧ (∃ ms, H' nm = some (.lst (List.map V.int ms)) ∧ ms.length = i + 1 ∧ Names ms) ∧ ∃ k5, σ' = [some (.ref pu), some v1, some (.ref b), some (.ref D), some (.ref nm), k5, none, none, none, none, none])
    ⟨by simpa using L2, hid_mono s2, ⟨[0], e2, rfl, by simp, fun m hm => by rw [List.mem_singleton.mp hm]; decide⟩, none, rfl⟩ ?_ ?_
  · rintro i σ' H3 hi ⟨L3, S3, ⟨ms, e3, lm, nam⟩, k5, rfl⟩
    obtain ⟨l0, x, rfl⟩ : ∃ l x, ms = l ++ [x] := by
      rcases List.eq_nil_or_concat ms with e | ⟨l, x, e⟩
      · rw [e] at lm; simp at lm
      · exact ⟨l, x, by simpa using e⟩
    wtm_at "s"
    refine k_tyL (sl e3) ?_
    wtm_at "s"
    refine k_ixL (sl e3) (v := .int x) (by rw [List.map_append]; exact atI_last _ _) ?_
    wtm_at "s"
    refine kL (by simp) (fun dl H4 ndl s4 e4 => ?_)
    have ndl' := L3.fresh ndl
    have L4 := L3.same s4
    wtm_at "s"
    refine ⟨_, _, rfl, pu, _, 3, rfl, rfl, L4, by omega, by decide, by decide, fun r H5 r0 r1 L5 S5 => ?_⟩
    have e5 : H5 dl = some (.lst (List.map V.int [1, 3, 10 ^ (27 : Int).toNat])) := keeps S5 e4 ndl'
    refine k_ixI (sl e5) r0 (by simpa using r1) ?_
    have hv := getD_memI (ns := [1, 3, 10 ^ (27 : Int).toNat]) r0 (by simpa using r1)
    generalize ([1, 3, 10 ^ (27 : Int).toNat] : List Int).getD r.toNat 0 = bs at hv ⊢
    have hbs : 1 ≤ bs ∧ bs ≤ 10 ^ 27 := by
      simp only [List.mem_cons, List.not_mem_nil, or_false] at hv
      rcases hv with rfl | rfl | rfl <;> decide +kernel
    have p27 : (10 : Int) ^ 27 < 2 ^ 200 := by decide +kernel
    wtm_at "s"
    refine ⟨_, _, rfl, pu, _, bs, rfl, rfl, L5, by omega, by omega, by omega, fun d H6 d0 d1 L6 S6 => ?_⟩
    wtm_at "s"
    have e6 := keeps S6 (keeps S5 (s4 _ _ e3) nnm') nnm'
    refine k_append e6 (by simp at lm ⊢; omega) ?_
    refine ⟨?_, ?_, ⟨l0 ++ [x] ++ [x + 1 + d], ?_, by simp at lm ⊢; omega, nam.more d0 (by omega)⟩, _, rfl⟩
    · rw [show k + 2 * ((i + 1 : Nat) : Int) = k + 2 * (i : Nat) + 1 + 1 by omega]; exact L6.upd nnm'
    · exact same_hid_mut (S3.trans ((hid_mono s4).trans (S5.trans S6))) frn
    · rw [upd_same, List.map_append (l₂ := [x + 1 + d])]; rfl
  · rintro σ' H3 ⟨L3, S3, ⟨ms, e3, lm, nam⟩, k5, rfl⟩
    have dD3 := dp_same S3 dD
    have hb3 := (S1.trans S3).seq hb
    clear S1 dD e2 L1 L2
    obtain ⟨D', ys, eD', hD, hys⟩ := dp_list (dp_same (hid_same _ _) dD3)
    cases eD'
    wtm_at "s"
    refine kL (by simp) (fun nb H4 nnb s4 e4 => ?_)
    have hb4 : SqL K H4 b xs := ((hid_same _ _).trans s4).seq hb3
    wtm_at "s"
    refine forR (fun i σ' H' => Same H3 H' ∧ (∃ us, H' nb = some (.lst (List.map V.int us)) ∧ us.length = i ∧ Greedy N ws us) ∧ ∃ k5 k7, σ' = [some (.ref pu), some v1, some (.ref b), some (.ref D), some (.ref nm), k5, some (.ref nb), k7, none, none, none])
      ⟨s4, ⟨[], e4, rfl, fun j hj => by simp at hj, fun j' j _ hj => by simp at hj⟩, _, _, rfl⟩ ?_ ?_
    · rintro i σ' H5 hi ⟨s5, ⟨us, e5, lu, gr⟩, k5', k7, rfl⟩
      rw [Int.zero_add]
      have hiw : i < lain.length := by rw [la.1]; omega
      have lainAt : ∀ j, j < lain.length → ∀ H', Same H5 H' → ∃ c l, ys[j]? = some (.ref c) ∧ lain[j]? = some l ∧ SqL K H' c (l.map V.int) := fun j hj H' s' => by
        obtain ⟨c, l, h1, h2, h3⟩ := dlists_get hys hj
        exact ⟨c, l, h1, h2, (s5.trans s').seq h3⟩
      have DAt : ∀ H', Same H5 H' → SqL K H' D ys := fun H' s' => (s5.trans s').seq hD
      wtm_at "s"
      refine lc_growR (by omega) (fun j => (if commonB (lain.getD i []) (lain.getD j []) = true then some (us.getD j 0) else none).map V.int) ?_ (fun tk H6 ntk s6 e6 => ?_)
      · intro j H' hj sm R R0 h1 h2
        rw [Int.zero_add]
        have hj' : j < lain.length := by omega
        obtain ⟨ci, li, f1, f2, f3⟩ := lainAt i hiw H' sm
        obtain ⟨cj, lj, g1, g2, g3⟩ := lainAt j hj' H' sm
        wtm_at "s"
        refine k_ixL (DAt H' sm) (atI_nat f1) ?_
        wtm_at "s"
        refine k_ixL (DAt H' sm) (atI_nat g1) ?_
        wtm_at "s"
        refine ⟨_, _, rfl, ci, cj, li, lj, rfl, rfl, f3, g3, by have := lsm li (List.mem_of_getElem? f2); omega, fun H'' s'' => ?_⟩
        rw [getD_of f2, getD_of g2] at h1 h2
        obtain ⟨u, hu⟩ : ∃ u, us[j]? = some u := ⟨us[j]'(by omega), List.getElem?_eq_getElem (by omega)⟩
        wtm_at "s"
        refine k_itb (fun c => ?_) (fun c => ?_)
        · wtm_at "s"
          refine k_ixN (sl ((sm.trans s'') _ _ e5)) hu ?_
          exact h1 _ _ (by rw [if_pos c, getD_of hu]; rfl) s''
        · exact h2 _ (by rw [if_neg (by rw [c]; decide)]; rfl) s''
      · rw [← List.map_filterMap] at e6
        have lt : ((List.range ((i : Nat) : Int).toNat).filterMap fun j => if commonB (lain.getD i []) (lain.getD j []) = true then some (us.getD j 0) else none).length ≤ i := by
          refine Nat.le_trans (List.length_filterMap_le _ _) ?_
          simp
        have tkm : ∀ j : Nat, j < us.length → meetW N ws j us.length → us.getD j 0 ∈ ((List.range ((i : Nat) : Int).toNat).filterMap fun j => if commonB (lain.getD i []) (lain.getD j []) = true then some (us.getD j 0) else none) := fun j hj mt => by
          refine List.mem_filterMap.mpr ⟨j, List.mem_range.mpr (by omega), ?_⟩
          rw [lu] at mt
          obtain ⟨t, t1, t2⟩ := (la.meet (i := j) (j := i) (by omega) hiw).mpr mt
          rw [if_pos (common_iff.mpr ⟨t, t2, t1⟩)]
        generalize ((List.range ((i : Nat) : Int).toNat).filterMap fun j => if commonB (lain.getD i []) (lain.getD j []) = true then some (us.getD j 0) else none) = ts at e6 lt tkm
        wtm_at "s"
        refine k_tyL (sl (at_same e5 s6)) ?_
        wtm_at "s"
        refine lc_pureR (by omega) (fun j => if (fun j : Nat => !decide ((j : Int) ∈ ts)) j = true then some (V.int (0 + (j : Nat))) else none) ?_ (fun fr H7 nfr s7 e7 => ?_)
        · intro j H' hj sm R R0 h1 h2
          have e6' := sm _ _ e6
          wtm_at "s"
          rw [Int.zero_add] at h1 ⊢
          refine k_itn (fun c => ?_) (fun c => ?_)
          · wtm_at "s"
            exact h1 _ (by rw [if_pos (by simp [c])])
          · exact h2 (by rw [if_neg (by simp [c])])
        · rw [keepI_fm] at e7
          obtain ⟨j0, j1, j2⟩ := missing (i + 1) ts (by omega)
          have hmem : (j0 : Int) ∈ keepI (((i : Nat) : Int) + 1).toNat (fun j : Nat => !decide ((j : Int) ∈ ts)) := keepI_mem.mpr ⟨by omega, by omega, by simp [j2]⟩
          cases hk0 : keepI (((i : Nat) : Int) + 1).toNat (fun j : Nat => !decide ((j : Int) ∈ ts)) with
          | nil => rw [hk0] at hmem; cases hmem
          | cons x r =>
            have hx : x ∈ keepI (((i : Nat) : Int) + 1).toNat (fun j : Nat => !decide ((j : Int) ∈ ts)) := by rw [hk0]; simp
            obtain ⟨x0, x1, x2⟩ := keepI_mem.mp hx
            rw [hk0] at e7
            wtm_at "s"
            refine k_ixL (sl e7) (v := .int x) (atI_nat (j := 0) rfl) ?_
            wtm_at "s"
            refine k_append (at_same e5 (s6.trans s7)) (by simp; omega) ?_
            have xn : x ∉ ts := fun z => by
              rw [show ((x.toNat : Nat) : Int) = x by omega] at x2
              simp [z] at x2
            exact ⟨same_mut (s5.trans (s6.trans s7)) nnb, ⟨us ++ [x], by rw [upd_same, List.map_append]; rfl, by simp [lu], gr.more x0 (by omega) fun j hj mt e => xn (e ▸ tkm j hj mt)⟩, _, _, rfl⟩
    · rintro σ' H5 ⟨s5, ⟨us, e5, lu, gr⟩, k5', k7, rfl⟩
      wtm_at "s"
      refine lc_pure (sl e5) us (by simp) (by omega) (fun u => some (V.int (ms.getD u.toNat 0))) ?_ (fun p H6 np s6 e6 => ?_)
      · intro j x u H' hx hp sm R R0 h1 h2
        rw [List.getElem?_map, hp] at hx
        cases hx
        have g1 := gr.1 j (List.getElem?_eq_some_iff.mp hp).1
        rw [getD_of hp] at g1
        have hj := (List.getElem?_eq_some_iff.mp hp).1
        have e3' := sm _ _ (s5 _ _ e3)
        wtm_at "s"
        refine k_ixI (sl e3') g1.1 (by omega) ?_
        exact h1 _ rfl
      · rw [fm_map] at e6
        have e6' : H6 p = some (.lst (List.map V.int (us.map fun u => ms.getD u.toNat 0))) := by rw [e6, List.map_map]; rfl
        have L6 := L3.same (s5.trans s6)
        have np5 := s5.free np
        have np' := L3.fresh np5
        have St : Same (hid [pu] H) (hid [pu] H6) := (hid_mono s1).trans (S3.trans (hid_mono (s5.trans s6)))
        refine q p _ _ H6 (fresh_hid ((hid_mono s1).trans S3) np5 np') np' L6 (by omega) St e6' (right_of nam (by omega) (by omega) hz gr)
abbrev sp_law_hues (K : PySem.W.Frag) : Sp := fun vs H Q E => ∃ v0 v1 v2, vs = [v0, v1, v2] ∧ pr_law_hues K v0 v1 v2 H Q E
theorem ok_law_hues (T : Txt K mg A) : FnOk P w K mg base CX0 3 A.a_law_hues A.d_law_hues ["_law_left_here", "_law_net_here", "_law_ways"] (sp_law_hues K) := by
  refine T.F_law_hues.ok sc_law_hues (fun vs H Q E h => by obtain ⟨v0, v1, v2, rfl, _⟩ := h; rfl) (fun cdv A0 outer s H vs Q E hr h => ?_)
  obtain ⟨v0, v1, v2, rfl, h⟩ := h
  exact ⟨t_law_hues K, (pss_cons (ps_set (i := 3) sc_law_hues.nd rfl (Or.inr rfl) (pe_lc (own := [("_law_way_here", 8)]) (by rfl) sc_law_hues.nd (pi_list (pv 2)) (blkOk_by (own := [("_law_way_here", 8)]) (N := ["_law_left_here", "_law_net_here", "_law_ways", "_law_lain", "_law_names", "_law_k", "_law_numbers", "_law_taken", "_law_way_here", "_law_j", "_law_number"]) (sc := defScope s_law_hues) (by decide +kernel)) (fun _ _ _ _ _ => (pg_name (i := 8) sc_law_hues.nd rfl (Or.inl rfl))) (fun _ _ _ _ _ => pts_nil) (fun _ _ _ _ _ => (pe_call (ok_law_ties T) (hr.mono (by decide)) (by rfl) T.g_law_ties T.F_law_ties.kp T.b_law_ties .nil pass0 (pa_cons (pv 1) (pa_cons (pv 8) pa_nil))))))
      (pss_cons (ps_set (i := 4) sc_law_hues.nd rfl (Or.inr rfl) (pe_lst (pa_cons pe_int pa_nil)))
      (pss_cons (ps_for PassesOwn.never rfl (pi_range1 (by rfl) T.z_range (pa_cons (pe_callB q_len (by rfl) T.z_len (by decide +kernel) (pa_cons (pv 2) pa_nil)) pa_nil)) (pg_name (i := 5) sc_law_hues.nd rfl (Or.inr rfl))
      (pss_one (ps_expr (pe_bm PySem.F.plainAttrs_list PySem.F.slot_list_append PySem.F.type_list_append mt_append (pv 4) (pa_cons (pe_op op_add (pe_op op_add (pe_ix ix_list (pv 4) (pe_un un_neg pe_int) (fun _ _ => rfl)) pe_int) (pe_call (ok_law_draw T) (hr.mono (by decide)) (by rfl) T.g_law_draw T.F_law_draw.kp T.b_law_draw .nil pass0 (pa_cons (pv 0) (pa_cons (pe_ix ix_list (pe_lst (pa_cons pe_int (pa_cons pe_int (pa_cons (pe_op op_pow pe_int pe_int) pa_nil)))) (pe_call (ok_law_draw T) (hr.mono (by decide)) (by rfl) T.g_law_draw T.F_law_draw.kp T.b_law_draw .nil pass0 (pa_cons (pv 0) (pa_cons pe_int pa_nil))) (fun _ _ => rfl)) pa_nil)))) pa_nil)))))
      (pss_cons (ps_set (i := 6) sc_law_hues.nd rfl (Or.inr rfl) (pe_lst pa_nil))
      (pss_cons (ps_for PassesOwn.never rfl (pi_range1 (by rfl) T.z_range (pa_cons (pe_callB q_len (by rfl) T.z_len (by decide +kernel) (pa_cons (pv 2) pa_nil)) pa_nil)) (pg_name (i := 5) sc_law_hues.nd rfl (Or.inr rfl))
      (pss_cons (ps_set (i := 7) sc_law_hues.nd rfl (Or.inr rfl) (pe_lc (own := [("_law_j", 9)]) (by rfl) sc_law_hues.nd (pi_range1 (by rfl) T.z_range (pa_cons (pv 5) pa_nil)) (blkOk_by (own := [("_law_j", 9)]) (N := ["_law_left_here", "_law_net_here", "_law_ways", "_law_lain", "_law_names", "_law_k", "_law_numbers", "_law_taken", "_law_way_here", "_law_j", "_law_number"]) (sc := defScope s_law_hues) (by decide +kernel)) (fun _ _ _ _ _ => (pg_name (i := 9) sc_law_hues.nd rfl (Or.inl rfl))) (fun _ _ _ _ _ => (pts_one (pt_val (pe_call (ok_law_common T) (hr.mono (by decide)) (by rfl) T.g_law_common T.F_law_common.kp T.b_law_common .nil pass0 (pa_cons (pe_ix ix_list (pv 3) (pv 5) (fun _ _ => rfl)) (pa_cons (pe_ix ix_list (pv 3) (pv 9) (fun _ _ => rfl)) pa_nil)))))) (fun _ _ _ _ _ => (pe_ix ix_list (pv 6) (pv 9) (fun _ _ => rfl)))))
      (pss_one (ps_expr (pe_bm PySem.F.plainAttrs_list PySem.F.slot_list_append PySem.F.type_list_append mt_append (pv 6) (pa_cons (pe_ix ix_list (pe_lc (own := [("_law_number", 10)]) (by rfl) sc_law_hues.nd (pi_range1 (by rfl) T.z_range (pa_cons (pe_op op_add (pv 5) pe_int) pa_nil)) (blkOk_by (own := [("_law_number", 10)]) (N := ["_law_left_here", "_law_net_here", "_law_ways", "_law_lain", "_law_names", "_law_k", "_law_numbers", "_law_taken", "_law_way_here", "_law_j", "_law_number"]) (sc := defScope s_law_hues) (by decide +kernel)) (fun _ _ _ _ _ => (pg_name (i := 10) sc_law_hues.nd rfl (Or.inl rfl))) (fun _ _ _ _ _ => (pts_one (pt_cmpR op_notIn_seq (pv 10) (pv 7) (by rfl)))) (fun _ _ _ _ _ => (pv 10))) pe_int (fun _ _ => rfl)) pa_nil))))))
      (pss_one (ps_ret (pe_lc (own := [("_law_number", 10)]) (by rfl) sc_law_hues.nd (pi_list (pv 6)) (blkOk_by (own := [("_law_number", 10)]) (N := ["_law_left_here", "_law_net_here", "_law_ways", "_law_lain", "_law_names", "_law_k", "_law_numbers", "_law_taken", "_law_way_here", "_law_j", "_law_number"]) (sc := defScope s_law_hues) (by decide +kernel)) (fun _ _ _ _ _ => (pg_name (i := 10) sc_law_hues.nd rfl (Or.inl rfl))) (fun _ _ _ _ _ => pts_nil) (fun _ _ _ _ _ => (pe_ix ix_list (pv 4) (pv 10) (fun _ _ => rfl))))))))))), pure_law_hues h⟩


def pr_law_all (K : PySem.W.Frag) (v0 : V) (H : Hp) (Q : VK) (_ : XK) : Prop := ∃ (pu : Addr) (k : Int), v0 = .ref pu ∧ Le H pu k ∧ k < 700000 ∧
  ∀ t v1 v2 v3 N ws ho k' H', Le H' pu k' → k' ≤ k + 1000 → Same (hid [pu] H) (hid [pu] H') → hid [pu] H' t = some (.tup [v1, v2, v3]) → Dp K (hid [pu] H') v1 (Net.d N) → N.ok → Dp K (hid [pu] H') v2 (dPairs ws) → ws.length ≤ 40 → (∀ w ∈ ws, isWay N w.1 w.2) →
    Dp K (hid [pu] H') v3 (dHues ho) → (∀ hs, ho = some hs → RightH N ws hs) → Q (.ref t) H'
def t_law_all (K : PySem.W.Frag) : TS :=
  (tSeq (tAsg (tCall (sp_law_net K) [] E0 (tCons (tVar 0) tNil)) (gName 1))
    (tSeq (tAsg (tCall (sp_law_size K) [] E0 (tCons (tVar 1) tNil)) (gName 2))
    (tSeq (tAsg (tLc (iRng1 (tCons (tCall (sp_law_draw K) [] E0 (tCons (tVar 0) (tCons (tOp (rIxL K) (tLst (tCons (tC (.int 6)) (tCons (tC (.int 41)) tNil))) (tCall (sp_law_draw K) [] E0 (tCons (tVar 0) (tCons (tC (.int 2)) tNil)))) tNil))) tNil)) (gName 5) tYes (tCall (sp_law_way K) [] E0 (tCons (tVar 0) (tCons (tVar 2) tNil))) [5]) (gName 3))
    (tSeq (tAsg (tC .non) (gName 4))
    (tSeq (tIfS (tTest (tOp xGt (tCall (sp_law_draw K) [] E0 (tCons (tVar 0) (tCons (tC (.int 3)) tNil))) (tC (.int 0)))) (tAsg (tCall (sp_law_hues K) [] E0 (tCons (tVar 0) (tCons (tVar 1) (tCons (tVar 3) tNil)))) (gName 4)) tNext)
    (tRet (tTup (tCons (tVar 1) (tCons (tVar 3) (tCons (tVar 4) tNil))))))))))
theorem places_lo {N : Net} (h : N.ok) : 2 ≤ N.places := by
  cases N with
  | line n => exact h.1
  | ring n => have : 3 ≤ n := h.1; show 2 ≤ n; omega
  | tree ps => show 2 ≤ (ps.length : Int) + 1; have := h.1; omega
theorem pure_law_all {v0 : V} {H : Hp} {Q : VK} {E : XK} (h : pr_law_all K v0 H Q E) : t_law_all K ⟨fun _ H' => Q .non H', Q, fun _ _ => False, fun _ _ => False⟩ [some v0, none, none, none, none, none] H := by
  obtain ⟨pu, k, rfl, L, hk, q⟩ := h
  unfold t_law_all
  wtm_at "s"
  refine ⟨_, rfl, pu, k, rfl, L, by omega, fun v N k1 H1 L1 hk1 S1 dN ok => ?_⟩
  wtm_at "s"
  refine ⟨_, rfl, N, dp_same (hid_same _ _) dN, ?_⟩
  have p2 := places_lo ok
  have p60 := ok_places ok
  wtm_at "s"
  refine kL (by simp) (fun dl H2 ndl s2 e2 => ?_)
  have ndl' := L1.fresh ndl
  have L2 := L1.same s2
  wtm_at "s"
  refine ⟨_, _, rfl, pu, _, 2, rfl, rfl, L2, by omega, by decide, by decide, fun r H3 r0 r1 L3 S3 => ?_⟩
  have e3 : H3 dl = some (.lst (List.map V.int [6, 41])) := keeps S3 e2 ndl'
  refine k_ixI (sl e3) r0 (by simpa using r1) ?_
  have hv := getD_memI (ns := [6, 41]) r0 (by simpa using r1)
  generalize ([6, 41] : List Int).getD r.toNat 0 = bs at hv ⊢
  have hbs : 1 ≤ bs ∧ bs ≤ 41 := by
    simp only [List.mem_cons, List.not_mem_nil, or_false] at hv
    rcases hv with rfl | rfl <;> omega
  wtm_at "s"
  refine ⟨_, _, rfl, pu, _, bs, rfl, rfl, L3, by omega, by omega, by omega, fun d H4 d0 d1 L4 S4 => ?_⟩
  have S4' : Same (hid [pu] H1) (hid [pu] H4) := (hid_mono s2).trans (S3.trans S4)
  wtm_at "s"
  refine lc_ways (i := 0) (j := 2) (l := 5) (pu := pu) (m := N.places) (fun _ => rfl) (fun _ => rfl) (fun _ => rfl) L4 (by omega) p2 (by omega) (by omega) (fun D ys ws H5 nD nD' L5 S5 eD hys lw hok => ?_)
  have okw : ∀ w ∈ ws, isWay N w.1 w.2 := fun w hw => by
    obtain ⟨z1, z2, z3, z4, z5⟩ := hok w hw
    exact ⟨z1, z2, z4, z3, z5⟩
  have S5' : Same (hid [pu] H) (hid [pu] H5) := S1.trans (S4'.trans S5)
  have dN5 := dp_same (S4'.trans S5) dN
  have dW5 : Dp K (hid [pu] H5) (.ref D) (dPairs ws) := .lst (sl (hat nD' eD)) (dpa_same (hid_sub (by simp)) hys)
  refine k_gname (k_seq (k_set (k_c (k_seq (ifsjoin (fun σ' H6 => ∃ x ho kk, σ' = [some (.ref pu), some v, some (.int N.places), some (.ref D), some x, none] ∧ Same (hid [pu] H5) (hid [pu] H6) ∧ Le H6 pu kk ∧ kk ≤ k + 1000 ∧ Dp K (hid [pu] H6) x (dHues ho) ∧ ∀ hs, ho = some hs → RightH N ws hs) ?_ (fun main => ?_))))))
  · rintro σ' H6 ⟨x, ho, kk, rfl, S6, L6, hkk, dx, hr⟩
    wtm_at "s"
    refine kTp L6 (by simp) (fun t H7 nt s7 e7 => ?_)
    exact q t _ _ _ N ws ho _ H7 (L6.same s7) hkk (S5'.trans (S6.trans (hid_mono s7))) e7 (dp_same (S6.trans (hid_mono s7)) dN5) ok (dp_same (S6.trans (hid_mono s7)) dW5) (by omega) okw (dp_same (hid_mono s7) dx) hr
  · wtm_at "s"
    refine ⟨_, _, rfl, pu, _, 3, rfl, rfl, L5, by omega, by decide, by decide, fun c H6 c0 c1 L6 S6 => ?_⟩
    refine ⟨_, _, rfl, rfl, _, rfl, ?_⟩
    refine k_it (fun z => ?_) (fun z => ?_)
    · wtm_at "s"
      refine ⟨_, _, _, rfl, pu, _, N, ws, rfl, L6, by omega, dp_same S6 dN5, ok, dp_same S6 dW5, by omega, okw, fun p hs k' H7 np np' L7 hk7 S7 e7 hr => ?_⟩
      exact main _ _ ⟨.ref p, some hs, _, rfl, S6.trans S7, L7, by omega, dp_of_ints (sl (hat np' e7)), fun hs' e => by cases e; exact hr⟩
    · exact k_next (main _ _ ⟨.non, none, _, rfl, S6, L6, by omega, .non, fun hs' e => by cases e⟩)
abbrev sp_law_all (K : PySem.W.Frag) : Sp := fun vs H Q E => ∃ v0, vs = [v0] ∧ pr_law_all K v0 H Q E
theorem ok_law_all (T : Txt K mg A) : FnOk P w K mg base CX0 4 A.a_law_all A.d_law_all ["_law_left_here"] (sp_law_all K) := by
  refine T.F_law_all.ok sc_law_all (fun vs H Q E h => by obtain ⟨v0, rfl, _⟩ := h; rfl) (fun cdv A0 outer s H vs Q E hr h => ?_)
  obtain ⟨v0, rfl, h⟩ := h
  exact ⟨t_law_all K, (pss_cons (ps_set (i := 1) sc_law_all.nd rfl (Or.inl rfl) (pe_call (ok_law_net T) (hr.mono (by decide)) (by rfl) T.g_law_net T.F_law_net.kp T.b_law_net .nil pass0 (pa_cons (pv 0) pa_nil)))
      (pss_cons (ps_set (i := 2) sc_law_all.nd rfl (Or.inr rfl) (pe_call (ok_law_size T) (hr.mono (by decide)) (by rfl) T.g_law_size T.F_law_size.kp T.b_law_size .nil pass0 (pa_cons (pv 1) pa_nil)))
      (pss_cons (ps_setLc (i := 3) (own := [("_law_k", 5)]) (by rfl) sc_law_all.nd rfl rfl (sw_true rfl rfl rfl (by decide +kernel)) (pi_range1 (by rfl) T.z_range (pa_cons (pe_call (ok_law_draw T) (hr.mono (by decide)) (by rfl) T.g_law_draw T.F_law_draw.kp T.b_law_draw .nil pass0 (pa_cons (pv 0) (pa_cons (pe_ix ix_list (pe_lst (pa_cons pe_int (pa_cons pe_int pa_nil))) (pe_call (ok_law_draw T) (hr.mono (by decide)) (by rfl) T.g_law_draw T.F_law_draw.kp T.b_law_draw .nil pass0 (pa_cons (pv 0) (pa_cons pe_int pa_nil))) (fun _ _ => rfl)) pa_nil))) pa_nil)) (blkOk_by (own := [("_law_k", 5)]) (N := ["_law_left_here", "_law_net_here", "_law_many", "_law_ways", "_law_hues_here", "_law_k"]) (sc := defScope s_law_all) (by decide +kernel)) (fun _ _ _ _ _ => (pg_name (i := 5) sc_law_all.nd rfl (Or.inl rfl))) (fun _ _ _ _ _ => pts_nil) (fun _ _ _ _ _ => (pe_call (ok_law_way T) (hr.mono (by decide)) (by rfl) T.g_law_way T.F_law_way.kp T.b_law_way .nil pass0 (pa_cons (pv 0) (pa_cons (pv 2) pa_nil)))))
      (pss_cons (ps_set (i := 4) sc_law_all.nd rfl (Or.inl rfl) pe_non)
      (pss_cons (ps_if (pt_cmpR op_gt (pe_call (ok_law_draw T) (hr.mono (by decide)) (by rfl) T.g_law_draw T.F_law_draw.kp T.b_law_draw .nil pass0 (pa_cons (pv 0) (pa_cons pe_int pa_nil))) pe_int (nomark _)) (pss_one (ps_set (i := 4) sc_law_all.nd rfl (Or.inl rfl) (pe_call (ok_law_hues T) (hr.mono (by decide)) (by rfl) T.g_law_hues T.F_law_hues.kp T.b_law_hues .nil pass0 (pa_cons (pv 0) (pa_cons (pv 1) (pa_cons (pv 3) pa_nil)))))) pss_nil)
      (pss_one (ps_ret (pe_tup (pa_cons (pv 1) (pa_cons (pv 3) (pa_cons (pv 4) pa_nil))))))))))), pure_law_all h⟩


theorem sg_way4 : sg (Str.ofString "way ") = sg (Str.ofString "way") ++ [32] := by rw [sg_str, sg_str]; rfl
theorem netL_eq (N : Net) (ws : List (Int × Int)) (ho : Option (List Int)) : netL N ws ho = rowL (sg N.kind) N.nums ++ [10] ++ (ws.map fun w => wayL w ++ [10]).flatten ++ (ho.toList.map fun hs => rowL (sg (Str.ofString "hues")) hs ++ [10]).flatten := by
  unfold netL rowsL
  simp [List.map_append, List.flatten_append, List.map_map, Function.comp_def]
def HuesOk (ho : Option (List Int)) : Prop := ∀ hs, ho = some hs → hs.length ≤ 100 ∧ ∀ h ∈ hs, Num30 h
def pr_law_text (K : PySem.W.Frag) (v0 v1 v2 : V) (H : Hp) (Q : VK) (_ : XK) : Prop := ∃ (N : Net) (ws : List (Int × Int)) (ho : Option (List Int)), Dp K H v0 N.d ∧ N.ok ∧ Dp K H v1 (dPairs ws) ∧ ws.length ≤ 100 ∧ (∀ w ∈ ws, isWay N w.1 w.2) ∧ Dp K H v2 (dHues ho) ∧ HuesOk ho ∧ ∀ H', Same H H' → Q (.str (mkS (netL N ws ho))) H'
def t_law_text (K : PySem.W.Frag) : TS :=
  (tSeq (tAsg (tLst (tCons (tOp (rIxT K) (tVar 0) (tC (.int 1))) tNil)) (gName 3))
    (tSeq (tIfS (tTest (tOp rEq (tOp (rIxT K) (tVar 0) (tC (.int 0))) (tC (.str (Str.ofString "tree"))))) (tAsg (tOp (rIxT K) (tVar 0) (tC (.int 1))) (gName 3)) tNext)
    (tSeq (tAsg (tOp xAddS (tOp xAddS (tOp (rIxT K) (tVar 0) (tC (.int 0))) (tM1 (rJoin K) (tC (.str (Str.ofString ""))) (tLc (iList K (tVar 3)) (gName 7) tYes (tOp xAddS (tC (.str (Str.ofString " "))) (tCB rStrInt (tCons (tVar 7) tNil))) [7]))) (tC (.str (Str.ofString "\n")))) (gName 4))
    (tSeq (tFor (iList K (tVar 1)) (gTup K 2 (gCons (gName 5) (gCons (gName 6) gNil)))
      (tAsg (tOp xAddS (tOp xAddS (tOp xAddS (tOp xAddS (tOp xAddS (tVar 4) (tC (.str (Str.ofString "way ")))) (tCB rStrInt (tCons (tVar 5) tNil))) (tC (.str (Str.ofString " ")))) (tCB rStrInt (tCons (tVar 6) tNil))) (tC (.str (Str.ofString "\n")))) (gName 4)))
    (tSeq (tIfS (tTest (tOp xNotN (tVar 2) (tC .non))) (tAsg (tOp xAddS (tOp xAddS (tOp xAddS (tVar 4) (tC (.str (Str.ofString "hues")))) (tM1 (rJoin K) (tC (.str (Str.ofString ""))) (tLc (iList K (tVar 2)) (gName 8) tYes (tOp xAddS (tC (.str (Str.ofString " "))) (tCB rStrInt (tCons (tVar 8) tNil))) [8]))) (tC (.str (Str.ofString "\n")))) (gName 4)) tNext)
    (tRet (tVar 4)))))))
/-- the signs of numbers, a blank ahead of each -/
theorem lc_blanks {σ : L2.St} {vs : List Nat} {j : Nat} {H1 : Hp} {QD : Addr → Hp → Prop} {a : Addr} {ns : List Int} (hs : SqL K H1 a (ns.map V.int)) (hz : ns.length ≤ 100) (hok : ∀ n ∈ ns, Num30 n)
    (hj : ∀ x, ((wipe σ vs).set j (some x))[j]? = some (some x)) (hwp : ∀ x, wipe ((wipe σ vs).set j (some x)) vs = wipe σ vs)
    (h : ∀ D H', H1 D = none → Same H1 H' → (∀ Q : VK, Q (.str (mkS (ns.map fun n => 32 :: nu n).flatten)) H' → rJoin K (.str (Str.ofString "")) [.ref D] H' Q) → QD D H') :
    ∃ a', V.ref a = .ref a' ∧ (∃ xs, SqL K H1 a' xs) ∧ ∀ D, H1 D = none → ∃ W : Nat → Nat → Hp → Prop, (∃ m, W 0 m (upd H1 D (.lst []))) ∧ ∀ t m H, W t m H →
      ((Itl K a').stop t H ∧ QD D H) ∨ ((Itl K a').go t H ∧ ∃ Nx : Hp → Prop, (∀ H', Nx H' → ∃ m', m' < m ∧ W (t + 1) m' H') ∧ ∀ x H', (Itl K a').yld t H x H' → gName j x (wipe σ vs) H' fun σ2 H2 => wipe σ2 vs = wipe σ vs ∧ tYes σ2 H2 fun b H3 =>
        if b = true then tOp xAddS (tC (.str (Str.ofString " "))) (tCB rStrInt (tCons (tVar j) tNil)) σ2 H3 fun y H4 => ∃ acc, H4 D = some (.lst acc) ∧ acc.length < sizeLine ∧ Nx (upd H4 D (.lst (acc ++ [y]))) else Nx H3) := by
  refine lc_grow hs ns (by simp) (by omega) (fun n => some (V.str (mkS (32 :: nu n)))) ?_ (fun D H2 nD s2 eD => ?_)
  · intro i x n H' hx hp sm R R0 h1 h2
    rw [List.getElem?_map, hp] at hx
    cases hx
    obtain ⟨n1, n2⟩ := num_small (hok n (List.mem_of_getElem? hp))
    refine k_gname (k_wipe (hwp _) ?_)
    refine k_yes (iteT ?_)
    refine k_op (k_c (k_cb (k_cons (k_var (hj _) ?_))))
    refine k_nil (k_strI n1 ?_)
    refine k_addS (by rw [sg_blank, sg_mkS]; simp; omega) ?_
    rw [sg_blank, sg_mkS]
    exact h1 _ _ rfl (Same.refl _)
  · rw [fm_map] at eD
    have e4 : H2 D = some (.lst ((ns.map fun n => mkS (32 :: nu n)).map V.str)) := by rw [eD, List.map_map]; rfl
    refine h D H2 nD s2 fun Q q => k_join (sl e4) ?_ ?_
    · have := sum_le (l := (ns.map fun n => mkS (32 :: nu n)).map (·.length)) (b := 100) fun x hx => by
        obtain ⟨y, hy, rfl⟩ := List.mem_map.mp hx
        obtain ⟨n, hn', rfl⟩ := List.mem_map.mp hy
        have := (num_small (hok n hn')).2
        rw [len_sg, sg_mkS]; simp; omega
      rw [List.length_map, List.length_map] at this
      rw [len_sg, sg_none]
      simp only [List.length_map, List.length_nil] at this ⊢
      omega
    · rw [sg_none, joinL_nil, List.map_map]
      exact q
theorem blanks_len {ns : List Int} (h : ∀ n ∈ ns, Num30 n) : ((ns.map fun n => 32 :: nu n).flatten).length ≤ ns.length * 31 := by
  have := rowL_len (w := []) h
  simpa [rowL] using this
theorem pure_law_text {v0 v1 v2 : V} {H : Hp} {Q : VK} {E : XK} (h : pr_law_text K v0 v1 v2 H Q E) : t_law_text K ⟨fun _ H' => Q .non H', Q, fun _ _ => False, fun _ _ => False⟩ [some v0, some v1, some v2, none, none, none, none, none, none] H := by
  obtain ⟨N, ws, ho, hd, ok, hw, hz, hok, hh, hho, q⟩ := h
  rw [netL_eq] at q
  obtain ⟨c, y, rfl, hs, hy⟩ := dp_net hd
  obtain ⟨b, xs, rfl, hb, hxs⟩ := dp_list hw
  have hl := dpa_len hxs
  rw [List.length_map] at hl
  obtain ⟨nm, nl⟩ := nums_ok ok
  have kl := kind_len N
  have bl := blanks_len nm
  unfold t_law_text
  wtm_at "s"
  refine kL (by simp) (fun s0 H1 ns0 s1 e1 => ?_)
  refine k_gname (k_seq (ifsjoin (fun σ' H2 => H2 = H1 ∧ ∃ a, SqL K H1 a (N.nums.map V.int) ∧ σ' = [some (.ref c), some (.ref b), some v2, some (.ref a), none, none, none, none, none]) ?_ (fun main => ?_)))
  · rintro σ' H2 ⟨rfl, a, ha, rfl⟩
    have hs1 := same_seqT s1 hs
    wtm_at "s"
    refine lc_blanks ha (by omega) nm (fun _ => rfl) (fun _ => rfl) (fun D H3 nD s3 jn => ?_)
    wtm_at "s"
    refine jn _ ?_
    refine k_addS (by rw [sg_mkS]; omega) ?_
    wtm_at "s"
    rw [sg_mkS]
    refine k_addS (by simp only [sg_mkS, sg_nl, List.length_append, List.length_cons, List.length_nil]; omega) ?_
    rw [sg_mkS, sg_nl]
    wtm_at "s"
    refine forL (by wtm_at "sq") (fun i σ' H' => Same H3 H' ∧ ∃ k5 k6, σ' = [some (.ref c), some (.ref b), some v2, some (.ref a), some (.str (mkS (rowL (sg N.kind) N.nums ++ [10] ++ ((ws.take i).map fun w => wayL w ++ [10]).flatten))), k5, k6, none, none]) ⟨Same.refl _, none, none, by simp [rowL]⟩ (fun i σ' H' _ e => by have := e.1; wtm_at "sq") ?_ ?_
    · rintro i x σ' H4 hx ⟨s4, k5, k6, rfl⟩
      obtain ⟨w, cw, hw', rfl, hcw⟩ := dpairs_get hxs hx
      have hi : i < ws.length := (List.getElem?_eq_some_iff.mp hw').1
      have wn := way_num ok (hok w (List.mem_of_getElem? hw'))
      obtain ⟨a1, a2⟩ := num_small (wn w.1 (by simp))
      obtain ⟨b1, b2⟩ := num_small (wn w.2 (by simp))
      have len : (rowL (sg N.kind) N.nums ++ [10] ++ ((ws.take i).map fun w => wayL w ++ [10]).flatten).length ≤ 2000 + 100 * i := by
        have h1 := rowL_len (w := sg N.kind) nm
        have h2 := flat_le (l := (ws.take i).map fun w => wayL w ++ [10]) (b := 100) fun r hr => by
          obtain ⟨w', hw2, rfl⟩ := List.mem_map.mp hr
          have := rowL_len (w := sg (Str.ofString "way")) (way_num ok (hok w' (List.mem_of_mem_take hw2)))
          rw [way_len3] at this
          unfold wayL
          simp only [List.length_cons, List.length_nil, List.length_append] at this ⊢
          omega
        rw [List.length_map, List.length_take] at h2
        rw [List.length_append, List.length_append]
        simp only [List.length_cons, List.length_nil]
        have : min i ws.length = i := by omega
        rw [this] at h2
        omega
      have nx : rowL (sg N.kind) N.nums ++ [10] ++ ((ws.take (i + 1)).map fun w => wayL w ++ [10]).flatten = (rowL (sg N.kind) N.nums ++ [10] ++ ((ws.take i).map fun w => wayL w ++ [10]).flatten) ++ (wayL w ++ [10]) := by
        rw [List.take_add_one, hw']; simp
      rw [nx]
      generalize (rowL (sg N.kind) N.nums ++ [10] ++ ((ws.take i).map fun w => wayL w ++ [10]).flatten) = tx at len ⊢
      have hcw4 : SqT K H4 cw [.int w.1, .int w.2] := by wtm_at "sq"
      have w4 : (sg (Str.ofString "way ")).length = 4 := by rw [sg_way4, List.length_append, way_len3]; rfl
      wtm_at "s"
      refine k_addS (by simp only [sg_mkS, sg_blank, sg_nl, List.length_append, w4, List.length_cons, List.length_nil]; omega) ?_
      wtm_at "s"
      refine k_strI a1 ?_
      refine k_addS (by simp only [sg_mkS, sg_blank, sg_nl, List.length_append, w4, List.length_cons, List.length_nil]; omega) ?_
      wtm_at "s"
      refine k_addS (by simp only [sg_mkS, sg_blank, sg_nl, List.length_append, w4, List.length_cons, List.length_nil]; omega) ?_
      wtm_at "s"
      refine k_strI b1 ?_
      refine k_addS (by simp only [sg_mkS, sg_blank, List.length_append, w4, List.length_cons, List.length_nil]; omega) ?_
      wtm_at "s"
      refine k_addS (by simp only [sg_mkS, sg_blank, sg_nl, List.length_append, w4, List.length_cons, List.length_nil]; omega) ?_
      wtm_at "s"
      refine ⟨s4, some (.int w.1), some (.int w.2), ?_⟩
      simp only [sg_mkS, sg_blank, sg_nl, sg_way4, wayL, rowL]
      simp
    · rintro σ' H4 ⟨s4, k5, k6, rfl⟩
      rw [hl, List.take_length]
      have len : (rowL (sg N.kind) N.nums ++ [10] ++ ((ws).map fun w => wayL w ++ [10]).flatten).length ≤ 20000 := by
        have h1 := rowL_len (w := sg N.kind) nm
        have h2 := flat_le (l := (ws).map fun w => wayL w ++ [10]) (b := 100) fun r hr => by
          obtain ⟨w', hw2, rfl⟩ := List.mem_map.mp hr
          have := rowL_len (w := sg (Str.ofString "way")) (way_num ok (hok w' hw2))
          rw [way_len3] at this
          unfold wayL
          simp only [List.length_cons, List.length_nil, List.length_append] at this ⊢
          omega
        rw [List.length_map] at h2
        rw [List.length_append, List.length_append]
        simp only [List.length_cons, List.length_nil]
        omega
      generalize (rowL (sg N.kind) N.nums ++ [10] ++ ((ws).map fun w => wayL w ++ [10]).flatten) = tx at len q ⊢
      have sm : Same H H4 := s1.trans (s3.trans s4)
      cases ho with
      | none =>
        cases hh
        wtm_at "s"
        simpa using q H4 sm
      | some hs' =>
        obtain ⟨e, rfl, he⟩ := dp_ints hh
        obtain ⟨l1, l2⟩ := hho hs' rfl
        have bl2 := blanks_len l2
        wtm_at "s"
        refine k_addS (by rw [sg_mkS, hues_len4]; omega) ?_
        wtm_at "s"
        refine lc_blanks (sm.seq he) l1 l2 (fun _ => rfl) (fun _ => rfl) (fun D2 H5 nD2 s5 jn2 => ?_)
        wtm_at "s"
        refine jn2 _ ?_
        refine k_addS (by simp only [sg_mkS, List.length_append, hues_len4]; omega) ?_
        wtm_at "s"
        refine k_addS (by simp only [sg_mkS, sg_nl, List.length_append, hues_len4, List.length_cons, List.length_nil]; omega) ?_
        wtm_at "s"
        simp only [sg_mkS, sg_nl]
        have := q H5 (sm.trans s5)
        simpa [rowL] using this
  · wtm_at "s"
    refine k_eqS ?_
    cases N with
    | line n =>
      obtain rfl := dp_int hy
      rw [show Net.kind (.line n) = Str.ofString "line" from rfl, s_lt]
      exact ⟨_, rfl, iteF (k_next (main _ _ ⟨rfl, s0, sl e1, rfl⟩))⟩
    | ring n =>
      obtain rfl := dp_int hy
      rw [show Net.kind (.ring n) = Str.ofString "ring" from rfl, s_rt]
      exact ⟨_, rfl, iteF (k_next (main _ _ ⟨rfl, s0, sl e1, rfl⟩))⟩
    | tree ps =>
      obtain ⟨a, rfl, ha⟩ := dp_ints hy
      rw [show Net.kind (.tree ps) = Str.ofString "tree" from rfl, s_same]
      have hs1 := same_seqT s1 hs
      refine ⟨_, rfl, iteT (k_set (k_op (k_var rfl (k_c (k_ixT hs1 rfl ?_)))))⟩
      exact main _ _ ⟨rfl, a, s1.seq ha, rfl⟩
abbrev sp_law_text (K : PySem.W.Frag) : Sp := fun vs H Q E => ∃ v0 v1 v2, vs = [v0, v1, v2] ∧ pr_law_text K v0 v1 v2 H Q E
theorem ok_law_text (T : Txt K mg A) : FnOk P w K mg base CX0 1 A.a_law_text A.d_law_text ["_law_net_here", "_law_ways", "_law_hues_here"] (sp_law_text K) := by
  refine T.F_law_text.ok sc_law_text (fun vs H Q E h => by obtain ⟨v0, v1, v2, rfl, _⟩ := h; rfl) (fun cdv A0 outer s H vs Q E hr h => ?_)
  obtain ⟨v0, v1, v2, rfl, h⟩ := h
  exact ⟨t_law_text K, (pss_cons (ps_set (i := 3) sc_law_text.nd rfl (Or.inl rfl) (pe_lst (pa_cons (pe_ix ix_tup (pv 0) pe_int (fun _ _ => rfl)) pa_nil)))
      (pss_cons (ps_if (pt_cmpR op_eq (pe_ix ix_tup (pv 0) pe_int (fun _ _ => rfl)) pe_str (nomark _)) (pss_one (ps_set (i := 3) sc_law_text.nd rfl (Or.inl rfl) (pe_ix ix_tup (pv 0) pe_int (fun _ _ => rfl)))) pss_nil)
      (pss_cons (ps_set (i := 4) sc_law_text.nd rfl (Or.inl rfl) (pe_op op_add_str (pe_op op_add_str (pe_ix ix_tup (pv 0) pe_int (fun _ _ => rfl)) (pe_join pe_str (pe_lc (own := [("_law_number", 7)]) (by rfl) sc_law_text.nd (pi_list (pv 3)) (blkOk_by (own := [("_law_number", 7)]) (N := ["_law_net_here", "_law_ways", "_law_hues_here", "_law_size_here", "_law_text_here", "_law_a", "_law_b", "_law_number", "_law_hue"]) (sc := defScope s_law_text) (by decide +kernel)) (fun _ _ _ _ _ => (pg_name (i := 7) sc_law_text.nd rfl (Or.inl rfl))) (fun _ _ _ _ _ => pts_nil) (fun _ _ _ _ _ => (pe_op op_add_str pe_str (pe_callTy q_strI (by rfl) T.z_str (by decide +kernel) (pa_cons (pv 7) pa_nil))))))) pe_str))
      (pss_cons (ps_for PassesOwn.never rfl (pi_list (pv 1)) (pg_tup (by rfl) (pgs_cons (pg_name (i := 5) sc_law_text.nd rfl (Or.inl rfl)) (pgs_cons (pg_name (i := 6) sc_law_text.nd rfl (Or.inl rfl)) pgs_nil)))
      (pss_one (ps_set (i := 4) sc_law_text.nd rfl (Or.inl rfl) (pe_op op_add_str (pe_op op_add_str (pe_op op_add_str (pe_op op_add_str (pe_op op_add_str (pv 4) pe_str) (pe_callTy q_strI (by rfl) T.z_str (by decide +kernel) (pa_cons (pv 5) pa_nil))) pe_str) (pe_callTy q_strI (by rfl) T.z_str (by decide +kernel) (pa_cons (pv 6) pa_nil))) pe_str))))
      (pss_cons (ps_if (pt_cmpR op_notN (pv 2) pe_non (nomark _)) (pss_one (ps_set (i := 4) sc_law_text.nd rfl (Or.inl rfl) (pe_op op_add_str (pe_op op_add_str (pe_op op_add_str (pv 4) pe_str) (pe_join pe_str (pe_lc (own := [("_law_hue", 8)]) (by rfl) sc_law_text.nd (pi_list (pv 2)) (blkOk_by (own := [("_law_hue", 8)]) (N := ["_law_net_here", "_law_ways", "_law_hues_here", "_law_size_here", "_law_text_here", "_law_a", "_law_b", "_law_number", "_law_hue"]) (sc := defScope s_law_text) (by decide +kernel)) (fun _ _ _ _ _ => (pg_name (i := 8) sc_law_text.nd rfl (Or.inl rfl))) (fun _ _ _ _ _ => pts_nil) (fun _ _ _ _ _ => (pe_op op_add_str pe_str (pe_callTy q_strI (by rfl) T.z_str (by decide +kernel) (pa_cons (pv 8) pa_nil))))))) pe_str))) pss_nil)
      (pss_one (ps_ret (pv 4)))))))), pure_law_text h⟩


/-- an exception's class D is the i-th of the kinds -/
structure KindOf (K : PySem.W.Frag) (A : Ad) (D : Addr) (i : Nat) : Prop where
  lt : i < 15
  ve : PySem.W.kitOne K (.ref D) (.type "ValueError") = some true
  k0 : PySem.W.kitOne K (.ref D) (.ref A.c_NoNet) = some (decide (i = 0))
  k1 : PySem.W.kitOne K (.ref D) (.ref A.c_OtherNet) = some (decide (i = 1))
  k2 : PySem.W.kitOne K (.ref D) (.ref A.c_NoWay) = some (decide (i = 2))
  k3 : PySem.W.kitOne K (.ref D) (.ref A.c_TooMany) = some (decide (i = 3))
  k4 : PySem.W.kitOne K (.ref D) (.ref A.c_NoHues) = some (decide (i = 4))
  k5 : PySem.W.kitOne K (.ref D) (.ref A.c_NoCrossing) = some (decide (i = 5))
  k6 : PySem.W.kitOne K (.ref D) (.ref A.c_NoLot) = some (decide (i = 6))
  k7 : PySem.W.kitOne K (.ref D) (.ref A.c_NoPlace) = some (decide (i = 7))
  k8 : PySem.W.kitOne K (.ref D) (.ref A.c_NoNumber) = some (decide (i = 8))
  k9 : PySem.W.kitOne K (.ref D) (.ref A.c_NoTurning) = some (decide (i = 9))
  k10 : PySem.W.kitOne K (.ref D) (.ref A.c_NoTie) = some (decide (i = 10))
  k11 : PySem.W.kitOne K (.ref D) (.ref A.c_NoText) = some (decide (i = 11))
  k12 : PySem.W.kitOne K (.ref D) (.ref A.c_NoRow) = some (decide (i = 12))
  k13 : PySem.W.kitOne K (.ref D) (.ref A.c_NoName) = some (decide (i = 13))
  k14 : PySem.W.kitOne K (.ref D) (.ref A.c_NoForm) = some (decide (i = 14))
def kindName (i : Nat) : Str := Str.ofString (["net", "other", "way", "many", "hues", "crossing", "lot", "place", "number", "turning", "tie", "text", "row", "name", "form"].getD i "")
theorem kept_same {H H' : Hp} {a D : Addr} (k : KeptAt H a D) (s : Same H H') : KeptAt H' a D := by
  obtain ⟨d, e, h⟩ := k
  refine ⟨d, s _ _ e, ?_⟩
  rcases h with h | ⟨dd, fs, h1, h2⟩
  · exact .inl h
  · exact .inr ⟨dd, fs, h1, s _ _ h2⟩
def pr_law_kind (K : PySem.W.Frag) (A : Ad) (v0 : V) (H : Hp) (Q : VK) (_ : XK) : Prop := ∃ (a D : Addr) (i : Nat), v0 = .ref a ∧ KeptAt H a D ∧ ExK K D ∧ KindOf K A D i ∧ ∀ H', Same H H' → Q (.str (kindName i)) H'
def t_law_kind (K : PySem.W.Frag) (A : Ad) : TS :=
  (tSeq (tAsg (tLst (tCons (tCB (rIsA K) (tCons (tVar 0) (tCons (tC (.ref A.c_NoNet)) tNil))) (tCons (tCB (rIsA K) (tCons (tVar 0) (tCons (tC (.ref A.c_OtherNet)) tNil))) (tCons (tCB (rIsA K) (tCons (tVar 0) (tCons (tC (.ref A.c_NoWay)) tNil))) tNil)))) (gName 1))
    (tSeq (tAsg (tOp rCat (tVar 1) (tLst (tCons (tCB (rIsA K) (tCons (tVar 0) (tCons (tC (.ref A.c_TooMany)) tNil))) (tCons (tCB (rIsA K) (tCons (tVar 0) (tCons (tC (.ref A.c_NoHues)) tNil))) (tCons (tCB (rIsA K) (tCons (tVar 0) (tCons (tC (.ref A.c_NoCrossing)) tNil))) tNil))))) (gName 1))
    (tSeq (tAsg (tOp rCat (tVar 1) (tLst (tCons (tCB (rIsA K) (tCons (tVar 0) (tCons (tC (.ref A.c_NoLot)) tNil))) (tCons (tCB (rIsA K) (tCons (tVar 0) (tCons (tC (.ref A.c_NoPlace)) tNil))) (tCons (tCB (rIsA K) (tCons (tVar 0) (tCons (tC (.ref A.c_NoNumber)) tNil))) tNil))))) (gName 1))
    (tSeq (tAsg (tOp rCat (tVar 1) (tLst (tCons (tCB (rIsA K) (tCons (tVar 0) (tCons (tC (.ref A.c_NoTurning)) tNil))) (tCons (tCB (rIsA K) (tCons (tVar 0) (tCons (tC (.ref A.c_NoTie)) tNil))) (tCons (tCB (rIsA K) (tCons (tVar 0) (tCons (tC (.ref A.c_NoText)) tNil))) tNil))))) (gName 1))
    (tSeq (tAsg (tOp rCat (tVar 1) (tLst (tCons (tCB (rIsA K) (tCons (tVar 0) (tCons (tC (.ref A.c_NoRow)) tNil))) (tCons (tCB (rIsA K) (tCons (tVar 0) (tCons (tC (.ref A.c_NoName)) tNil))) (tCons (tCB (rIsA K) (tCons (tVar 0) (tCons (tC (.ref A.c_NoForm)) tNil))) tNil))))) (gName 1))
    (tSeq (tAsg (tLst (tCons (tC (.str (Str.ofString "net"))) (tCons (tC (.str (Str.ofString "other"))) (tCons (tC (.str (Str.ofString "way"))) (tCons (tC (.str (Str.ofString "many"))) (tCons (tC (.str (Str.ofString "hues"))) (tCons (tC (.str (Str.ofString "crossing"))) (tCons (tC (.str (Str.ofString "lot"))) (tCons (tC (.str (Str.ofString "place"))) (tCons (tC (.str (Str.ofString "number"))) (tCons (tC (.str (Str.ofString "turning"))) (tCons (tC (.str (Str.ofString "tie"))) (tCons (tC (.str (Str.ofString "text"))) tNil))))))))))))) (gName 2))
    (tSeq (tIfS (tOr (tNot (tB (tCB (rIsA K) (tCons (tVar 0) (tCons (tC (.ty "ValueError")) tNil))))) (tTest (tOp rNe (tBM K "list" (rCntV K) (tVar 1) (tCons (tC (.bl true)) tNil)) (tC (.int 1))))) (tRet (tC (.str (Str.ofString "none")))) tNext)
    (tRet (tOp (rIxL K) (tOp rCat (tVar 2) (tLst (tCons (tC (.str (Str.ofString "row"))) (tCons (tC (.str (Str.ofString "name"))) (tCons (tC (.str (Str.ofString "form"))) tNil))))) (tBM K "list" (rIndex K) (tVar 1) (tCons (tC (.bl true)) tNil)))))))))))
def kBools (i : Nat) : List V := [.bl (decide (i = 0)), .bl (decide (i = 1)), .bl (decide (i = 2)), .bl (decide (i = 3)), .bl (decide (i = 4)), .bl (decide (i = 5)), .bl (decide (i = 6)), .bl (decide (i = 7)), .bl (decide (i = 8)), .bl (decide (i = 9)), .bl (decide (i = 10)), .bl (decide (i = 11)), .bl (decide (i = 12)), .bl (decide (i = 13)), .bl (decide (i = 14))]
theorem kBools_all : ∀ i, i < 15 → cntV (.bl true) (kBools i) = 1 ∧ (kBools i).all flatV = true ∧ (kBools i)[i]? = some (.bl true) ∧ ∀ m z', m < i → (kBools i)[m]? = some z' → eqV z' (.bl true) = false := by
  intro i hi
  have h : i = 0 ∨ i = 1 ∨ i = 2 ∨ i = 3 ∨ i = 4 ∨ i = 5 ∨ i = 6 ∨ i = 7 ∨ i = 8 ∨ i = 9 ∨ i = 10 ∨ i = 11 ∨ i = 12 ∨ i = 13 ∨ i = 14 := by omega
  refine ⟨?_, ?_, ?_, ?_⟩
  · rcases h with rfl | rfl | rfl | rfl | rfl | rfl | rfl | rfl | rfl | rfl | rfl | rfl | rfl | rfl | rfl <;> decide
  · rcases h with rfl | rfl | rfl | rfl | rfl | rfl | rfl | rfl | rfl | rfl | rfl | rfl | rfl | rfl | rfl <;> decide
  · rcases h with rfl | rfl | rfl | rfl | rfl | rfl | rfl | rfl | rfl | rfl | rfl | rfl | rfl | rfl | rfl <;> rfl
  · intro m z' hm hz
    have : m = 0 ∨ m = 1 ∨ m = 2 ∨ m = 3 ∨ m = 4 ∨ m = 5 ∨ m = 6 ∨ m = 7 ∨ m = 8 ∨ m = 9 ∨ m = 10 ∨ m = 11 ∨ m = 12 ∨ m = 13 ∨ m = 14 := by omega
    have e : ∀ j, i ≠ j → decide (i = j) = false := fun j hj => decide_eq_false hj
    rcases this with rfl | rfl | rfl | rfl | rfl | rfl | rfl | rfl | rfl | rfl | rfl | rfl | rfl | rfl | rfl <;> (cases hz; rw [e _ (by omega)]; rfl)
theorem kName_at : ∀ i, i < 15 → atI [V.str (Str.ofString "net"), V.str (Str.ofString "other"), V.str (Str.ofString "way"), V.str (Str.ofString "many"), V.str (Str.ofString "hues"), V.str (Str.ofString "crossing"), V.str (Str.ofString "lot"), V.str (Str.ofString "place"), V.str (Str.ofString "number"), V.str (Str.ofString "turning"), V.str (Str.ofString "tie"), V.str (Str.ofString "text"), V.str (Str.ofString "row"), V.str (Str.ofString "name"), V.str (Str.ofString "form")] (i : Nat) = some (.str (kindName i)) := by
  intro i hi
  have h : i = 0 ∨ i = 1 ∨ i = 2 ∨ i = 3 ∨ i = 4 ∨ i = 5 ∨ i = 6 ∨ i = 7 ∨ i = 8 ∨ i = 9 ∨ i = 10 ∨ i = 11 ∨ i = 12 ∨ i = 13 ∨ i = 14 := by omega
  rcases h with rfl | rfl | rfl | rfl | rfl | rfl | rfl | rfl | rfl | rfl | rfl | rfl | rfl | rfl | rfl <;> rfl
theorem pure_law_kind (T : Txt K mg A) {v0 : V} {H : Hp} {Q : VK} {E : XK} (h : pr_law_kind K A v0 H Q E) : t_law_kind K A ⟨fun _ H' => Q .non H', Q, fun _ _ => False, fun _ _ => False⟩ [some v0, none, none] H := by
  obtain ⟨a, D, i, rfl, kp, xk, kd, q⟩ := h
  unfold t_law_kind
  wtm_at "s"
  refine k_isXone (xs := []) (kept_same kp (by wtm_at "sm")) xk (.own _) kd.k0 ?_
  wtm_at "s"
  refine k_isXone (xs := []) (kept_same kp (by wtm_at "sm")) xk (.own _) kd.k1 ?_
  wtm_at "s"
  refine k_isXone (xs := []) (kept_same kp (by wtm_at "sm")) xk (.own _) kd.k2 ?_
  wtm_at "s"
  refine kL (by simp) (fun l0 G0 n0 s0 e0 => ?_)
  wtm_at "s"
  wtm_at "s"
  refine k_isXone (xs := []) (kept_same kp (by wtm_at "sm")) xk (.own _) kd.k3 ?_
  wtm_at "s"
  refine k_isXone (xs := []) (kept_same kp (by wtm_at "sm")) xk (.own _) kd.k4 ?_
  wtm_at "s"
  refine k_isXone (xs := []) (kept_same kp (by wtm_at "sm")) xk (.own _) kd.k5 ?_
  wtm_at "s"
  refine kL (by simp) (fun l1 G1 n1 s1 e1 => ?_)
  wtm_at "s"
  refine k_catN (by wtm_at "at") (by wtm_at "at") (by simp) (fun m1 F1 x1 y1 f1 => ?_)
  wtm_at "s"
  refine k_isXone (xs := []) (kept_same kp (by wtm_at "sm")) xk (.own _) kd.k6 ?_
  wtm_at "s"
  refine k_isXone (xs := []) (kept_same kp (by wtm_at "sm")) xk (.own _) kd.k7 ?_
  wtm_at "s"
  refine k_isXone (xs := []) (kept_same kp (by wtm_at "sm")) xk (.own _) kd.k8 ?_
  wtm_at "s"
  refine kL (by simp) (fun l2 G2 n2 s2 e2 => ?_)
  wtm_at "s"
  refine k_catN (by wtm_at "at") (by wtm_at "at") (by simp) (fun m2 F2 x2 y2 f2 => ?_)
  wtm_at "s"
  refine k_isXone (xs := []) (kept_same kp (by wtm_at "sm")) xk (.own _) kd.k9 ?_
  wtm_at "s"
  refine k_isXone (xs := []) (kept_same kp (by wtm_at "sm")) xk (.own _) kd.k10 ?_
  wtm_at "s"
  refine k_isXone (xs := []) (kept_same kp (by wtm_at "sm")) xk (.own _) kd.k11 ?_
  wtm_at "s"
  refine kL (by simp) (fun l3 G3 n3 s3 e3 => ?_)
  wtm_at "s"
  refine k_catN (by wtm_at "at") (by wtm_at "at") (by simp) (fun m3 F3 x3 y3 f3 => ?_)
  wtm_at "s"
  refine k_isXone (xs := []) (kept_same kp (by wtm_at "sm")) xk (.own _) kd.k12 ?_
  wtm_at "s"
  refine k_isXone (xs := []) (kept_same kp (by wtm_at "sm")) xk (.own _) kd.k13 ?_
  wtm_at "s"
  refine k_isXone (xs := []) (kept_same kp (by wtm_at "sm")) xk (.own _) kd.k14 ?_
  wtm_at "s"
  refine kL (by simp) (fun l4 G4 n4 s4 e4 => ?_)
  wtm_at "s"
  refine k_catN (by wtm_at "at") (by wtm_at "at") (by simp) (fun m4 F4 x4 y4 f4 => ?_)
  obtain ⟨c1, c2, c3, c4⟩ := kBools_all i kd.lt
  have f5 : F4 m4 = some (.lst (kBools i)) := f4
  wtm_at "s"
  refine kL (by simp) (fun l5 G5 n5 s5 e5 => ?_)
  wtm_at "s"
  refine k_isXone (xs := []) (kept_same kp (by wtm_at "sm")) xk (.ty _) kd.ve ?_
  wtm_at "s"
  refine k_tyL (by wtm_at "sq") ?_
  wtm_at "s"
  refine k_cntV (ys := kBools i) (sl_at f5 (by wtm_at "sm")) rfl c2 ?_
  rw [c1]
  wtm_at "s"
  refine kL (by simp) (fun l6 G6 n6 s6 e6 => ?_)
  wtm_at "s"
  refine k_catN (by wtm_at "at") (by wtm_at "at") (by simp) (fun m6 F6 x6 y6 f6 => ?_)
  wtm_at "s"
  refine k_tyL (by wtm_at "sq") ?_
  wtm_at "s"
  refine k_indexV (ys := kBools i) (sl_at f5 (by wtm_at "sm")) rfl c2 c3 rfl c4 ?_
  refine k_ixL (sl f6) (kName_at i kd.lt) ?_
  exact q _ (by wtm_at "sm")
abbrev sp_law_kind (K : PySem.W.Frag) (A : Ad) : Sp := fun vs H Q E => ∃ v0, vs = [v0] ∧ pr_law_kind K A v0 H Q E
theorem ok_law_kind (T : Txt K mg A) : FnOk P w K mg base CX0 1 A.a_law_kind A.d_law_kind ["_law_caught"] (sp_law_kind K A) := by
  refine T.F_law_kind.ok sc_law_kind (fun vs H Q E h => by obtain ⟨v0, rfl, _⟩ := h; rfl) (fun cdv A0 outer s H vs Q E hr h => ?_)
  obtain ⟨v0, rfl, h⟩ := h
  exact ⟨t_law_kind K A, (pss_cons (ps_set (i := 1) sc_law_kind.nd rfl (Or.inl rfl) (pe_lst (pa_cons (pe_callB q_isA (by rfl) T.z_isinstance (by decide +kernel) (pa_cons (pv 0) (pa_cons (pe_glob (v := .ref A.c_NoNet) (by rfl) T.k_NoNet rfl) pa_nil))) (pa_cons (pe_callB q_isA (by rfl) T.z_isinstance (by decide +kernel) (pa_cons (pv 0) (pa_cons (pe_glob (v := .ref A.c_OtherNet) (by rfl) T.k_OtherNet rfl) pa_nil))) (pa_cons (pe_callB q_isA (by rfl) T.z_isinstance (by decide +kernel) (pa_cons (pv 0) (pa_cons (pe_glob (v := .ref A.c_NoWay) (by rfl) T.k_NoWay rfl) pa_nil))) pa_nil)))))
      (pss_cons (ps_set (i := 1) sc_law_kind.nd rfl (Or.inl rfl) (pe_op op_cat (pv 1) (pe_lst (pa_cons (pe_callB q_isA (by rfl) T.z_isinstance (by decide +kernel) (pa_cons (pv 0) (pa_cons (pe_glob (v := .ref A.c_TooMany) (by rfl) T.k_TooMany rfl) pa_nil))) (pa_cons (pe_callB q_isA (by rfl) T.z_isinstance (by decide +kernel) (pa_cons (pv 0) (pa_cons (pe_glob (v := .ref A.c_NoHues) (by rfl) T.k_NoHues rfl) pa_nil))) (pa_cons (pe_callB q_isA (by rfl) T.z_isinstance (by decide +kernel) (pa_cons (pv 0) (pa_cons (pe_glob (v := .ref A.c_NoCrossing) (by rfl) T.k_NoCrossing rfl) pa_nil))) pa_nil))))))
      (pss_cons (ps_set (i := 1) sc_law_kind.nd rfl (Or.inl rfl) (pe_op op_cat (pv 1) (pe_lst (pa_cons (pe_callB q_isA (by rfl) T.z_isinstance (by decide +kernel) (pa_cons (pv 0) (pa_cons (pe_glob (v := .ref A.c_NoLot) (by rfl) T.k_NoLot rfl) pa_nil))) (pa_cons (pe_callB q_isA (by rfl) T.z_isinstance (by decide +kernel) (pa_cons (pv 0) (pa_cons (pe_glob (v := .ref A.c_NoPlace) (by rfl) T.k_NoPlace rfl) pa_nil))) (pa_cons (pe_callB q_isA (by rfl) T.z_isinstance (by decide +kernel) (pa_cons (pv 0) (pa_cons (pe_glob (v := .ref A.c_NoNumber) (by rfl) T.k_NoNumber rfl) pa_nil))) pa_nil))))))
      (pss_cons (ps_set (i := 1) sc_law_kind.nd rfl (Or.inl rfl) (pe_op op_cat (pv 1) (pe_lst (pa_cons (pe_callB q_isA (by rfl) T.z_isinstance (by decide +kernel) (pa_cons (pv 0) (pa_cons (pe_glob (v := .ref A.c_NoTurning) (by rfl) T.k_NoTurning rfl) pa_nil))) (pa_cons (pe_callB q_isA (by rfl) T.z_isinstance (by decide +kernel) (pa_cons (pv 0) (pa_cons (pe_glob (v := .ref A.c_NoTie) (by rfl) T.k_NoTie rfl) pa_nil))) (pa_cons (pe_callB q_isA (by rfl) T.z_isinstance (by decide +kernel) (pa_cons (pv 0) (pa_cons (pe_glob (v := .ref A.c_NoText) (by rfl) T.k_NoText rfl) pa_nil))) pa_nil))))))
      (pss_cons (ps_set (i := 1) sc_law_kind.nd rfl (Or.inl rfl) (pe_op op_cat (pv 1) (pe_lst (pa_cons (pe_callB q_isA (by rfl) T.z_isinstance (by decide +kernel) (pa_cons (pv 0) (pa_cons (pe_glob (v := .ref A.c_NoRow) (by rfl) T.k_NoRow rfl) pa_nil))) (pa_cons (pe_callB q_isA (by rfl) T.z_isinstance (by decide +kernel) (pa_cons (pv 0) (pa_cons (pe_glob (v := .ref A.c_NoName) (by rfl) T.k_NoName rfl) pa_nil))) (pa_cons (pe_callB q_isA (by rfl) T.z_isinstance (by decide +kernel) (pa_cons (pv 0) (pa_cons (pe_glob (v := .ref A.c_NoForm) (by rfl) T.k_NoForm rfl) pa_nil))) pa_nil))))))
      (pss_cons (ps_set (i := 2) sc_law_kind.nd rfl (Or.inl rfl) (pe_lst (pa_cons pe_str (pa_cons pe_str (pa_cons pe_str (pa_cons pe_str (pa_cons pe_str (pa_cons pe_str (pa_cons pe_str (pa_cons pe_str (pa_cons pe_str (pa_cons pe_str (pa_cons pe_str (pa_cons pe_str pa_nil))))))))))))))
      (pss_cons (ps_if (PW.pt (pw_or (pt_not (pt_val (pe_callB q_isA (by rfl) T.z_isinstance (by decide +kernel) (pa_cons (pv 0) (pa_cons (pe_bltn (v := .ty "ValueError") (by rfl) T.z_ValueError (by decide +kernel) rfl) pa_nil))))) (pw_or1 (pt_cmpR op_ne (pe_bm PySem.F.plainAttrs_list PySem.F.slot_list_count PySem.F.type_list_count mt_lcountV (pv 1) (pa_cons pe_bl pa_nil)) pe_int (nomark _))))) (pss_one (ps_ret pe_str)) pss_nil)
      (pss_one (ps_ret (pe_ix ix_list (pe_op op_cat (pv 2) (pe_lst (pa_cons pe_str (pa_cons pe_str (pa_cons pe_str pa_nil))))) (pe_bm PySem.F.plainAttrs_list PySem.F.slot_list_index PySem.F.type_list_index mt_index (pv 1) (pa_cons pe_bl pa_nil)) (fun _ _ => rfl))))))))))), pure_law_kind T h⟩

theorem kind_NoText (T : Txt K mg A) : KindOf K A A.c_NoText 11 := ⟨by decide, T.q_NoText_ValueError, T.q_NoText_NoNet, T.q_NoText_OtherNet, T.q_NoText_NoWay, T.q_NoText_TooMany, T.q_NoText_NoHues, T.q_NoText_NoCrossing, T.q_NoText_NoLot, T.q_NoText_NoPlace, T.q_NoText_NoNumber, T.q_NoText_NoTurning, T.q_NoText_NoTie, T.q_NoText_NoText, T.q_NoText_NoRow, T.q_NoText_NoName, T.q_NoText_NoForm⟩

def pr_law_sign (K : PySem.W.Frag) (v0 : V) (H : Hp) (Q : VK) (_ : XK) : Prop := ∃ (pu : Addr) (k : Int), v0 = .ref pu ∧ Le H pu k ∧ k < 100000 ∧ ∀ (c : Nat) H', Le H' pu (k + 2) → Same (hid [pu] H) (hid [pu] H') → Q (.str (mkS [c])) H'
theorem sgA : (sg (Str.ofString "0123456789 \nwayhuesltrn-+W")).length = 26 := by rw [sg_str]; rfl
theorem sgB : (sg (Str.ofString " !\"#$&'()*+,-./0123456789:;<=>?@ABCDEFGHIJKLMNOPQRSTUVWXYZ")).length = 58 := by rw [sg_str]; rfl
theorem sgC : (sg (Str.ofString "[\\]^_`abcdefghijklmnopqrstuvwxyz{|}~")).length = 36 := by rw [sg_str]; rfl
def t_law_sign (K : PySem.W.Frag) : TS :=
  (tSeq (tIfS (tTest (tOp rEq (tCall (sp_law_draw K) [] E0 (tCons (tVar 0) (tCons (tC (.int 2)) tNil))) (tC (.int 0)))) (tRet (tOp rIxS (tC (.str (Str.ofString "0123456789 \nwayhuesltrn-+W"))) (tCall (sp_law_draw K) [] E0 (tCons (tVar 0) (tCons (tC (.int 26)) tNil))))) tNext)
    (tSeq (tAsg (tC (.str (Str.ofString " !\"#$&'()*+,-./0123456789:;<=>?@ABCDEFGHIJKLMNOPQRSTUVWXYZ"))) (gName 1))
    (tSeq (tAsg (tOp xAddS (tVar 1) (tC (.str (Str.ofString "[\\]^_`abcdefghijklmnopqrstuvwxyz{|}~")))) (gName 1))
    (tRet (tOp rIxS (tVar 1) (tCall (sp_law_draw K) [] E0 (tCons (tVar 0) (tCons (tCB rLenStr (tCons (tVar 1) tNil)) tNil))))))))
theorem pure_law_sign {v0 : V} {H : Hp} {Q : VK} {E : XK} (h : pr_law_sign K v0 H Q E) : t_law_sign K ⟨fun _ H' => Q .non H', Q, fun _ _ => False, fun _ _ => False⟩ [some v0, none] H := by
  obtain ⟨pu, k, rfl, L, k1, q⟩ := h
  unfold t_law_sign
  wtm_at "s"
  refine ⟨_, _, rfl, pu, k, 2, rfl, rfl, L, by omega, by decide, by decide, fun r H1 r0 r1 L1 S1 => ?_⟩
  wtm_at "s"
  refine k_it (fun c => ?_) (fun c => ?_)
  · wtm_at "s"
    refine ⟨_, _, rfl, pu, _, 26, rfl, rfl, L1, by omega, by decide, by decide, fun i H2 i0 i1 L2 S2 => ?_⟩
    obtain ⟨j, rfl⟩ : ∃ j : Nat, i = j := ⟨i.toNat, by omega⟩
    obtain ⟨c, hc⟩ : ∃ c, (sg (Str.ofString "0123456789 \nwayhuesltrn-+W"))[j]? = some c := ⟨_, List.getElem?_eq_getElem (by rw [sgA]; omega)⟩
    rw [← mkS_sg (Str.ofString "0123456789 \nwayhuesltrn-+W")]
    wtm_at "s"
    refine k_ixS (by rw [sgA]; omega) hc ?_
    exact q c H2 (by rw [show k + 2 = k + 1 + 1 by omega]; exact L2) (S1.trans S2)
  · wtm_at "s"
    refine k_addS (by rw [sgB, sgC]; omega) ?_
    have lab : (sg (Str.ofString " !\"#$&'()*+,-./0123456789:;<=>?@ABCDEFGHIJKLMNOPQRSTUVWXYZ") ++ sg (Str.ofString "[\\]^_`abcdefghijklmnopqrstuvwxyz{|}~")).length = 94 := by rw [List.length_append, sgB, sgC]
    generalize sg (Str.ofString " !\"#$&'()*+,-./0123456789:;<=>?@ABCDEFGHIJKLMNOPQRSTUVWXYZ") ++ sg (Str.ofString "[\\]^_`abcdefghijklmnopqrstuvwxyz{|}~") = la at lab
    wtm_at "s"
    refine k_lenS (by omega) ?_
    wtm_at "s"
    refine ⟨_, _, rfl, pu, _, (la.length : Int), rfl, rfl, L1, by omega, by omega, by omega, fun i H2 i0 i1 L2 S2 => ?_⟩
    obtain ⟨j, rfl⟩ : ∃ j : Nat, i = j := ⟨i.toNat, by omega⟩
    obtain ⟨c, hc⟩ : ∃ c, la[j]? = some c := ⟨_, List.getElem?_eq_getElem (by omega)⟩
    wtm_at "s"
    refine k_ixS (by omega) hc ?_
    exact q c H2 (by rw [show k + 2 = k + 1 + 1 by omega]; exact L2) (S1.trans S2)
abbrev sp_law_sign (K : PySem.W.Frag) : Sp := fun vs H Q E => ∃ v0, vs = [v0] ∧ pr_law_sign K v0 H Q E
theorem ok_law_sign (T : Txt K mg A) : FnOk P w K mg base CX0 3 A.a_law_sign A.d_law_sign ["_law_left_here"] (sp_law_sign K) := by
  refine T.F_law_sign.ok sc_law_sign (fun vs H Q E h => by obtain ⟨v0, rfl, _⟩ := h; rfl) (fun cdv A0 outer s H vs Q E hr h => ?_)
  obtain ⟨v0, rfl, h⟩ := h
  exact ⟨t_law_sign K, (pss_cons (ps_if (pt_cmpR op_eq (pe_call (ok_law_draw T) (hr.mono (by decide)) (by rfl) T.g_law_draw T.F_law_draw.kp T.b_law_draw .nil pass0 (pa_cons (pv 0) (pa_cons pe_int pa_nil))) pe_int (nomark _)) (pss_one (ps_ret (pe_ix ix_str pe_str (pe_call (ok_law_draw T) (hr.mono (by decide)) (by rfl) T.g_law_draw T.F_law_draw.kp T.b_law_draw .nil pass0 (pa_cons (pv 0) (pa_cons pe_int pa_nil))) (fun _ _ => rfl)))) pss_nil)
      (pss_cons (ps_set (i := 1) sc_law_sign.nd rfl (Or.inl rfl) pe_str)
      (pss_cons (ps_set (i := 1) sc_law_sign.nd rfl (Or.inl rfl) (pe_op op_add_str (pv 1) pe_str))
      (pss_one (ps_ret (pe_ix ix_str (pv 1) (pe_call (ok_law_draw T) (hr.mono (by decide)) (by rfl) T.g_law_draw T.F_law_draw.kp T.b_law_draw .nil pass0 (pa_cons (pv 0) (pa_cons (pe_callB q_lenS (by rfl) T.z_len (by decide +kernel) (pa_cons (pv 1) pa_nil)) pa_nil))) (fun _ _ => rfl))))))), pure_law_sign h⟩


def pr_law_odd_row (K : PySem.W.Frag) (v0 : V) (H : Hp) (Q : VK) (_ : XK) : Prop := ∃ (pu : Addr) (k : Int), v0 = .ref pu ∧ Le H pu k ∧ k < 100000 ∧ ∀ (l : List Nat) H', l.length ≤ 200 → Le H' pu (k + 1) → Same (hid [pu] H) (hid [pu] H') → Q (.str (mkS l)) H'
/-- texts of up to two hundred signs -/
def Sh200 (v : V) : Prop := ∃ l : List Nat, v = .str (mkS l) ∧ l.length ≤ 200
theorem s200 (s : String) (h : s.toList.length ≤ 200) : Sh200 (.str (Str.ofString s)) := ⟨sg (Str.ofString s), by rw [mkS_sg], by rw [sg_str, List.length_map]; exact h⟩
theorem s200_cat {xs : List V} {i : Nat} {v : V} (h : ∀ x ∈ xs, Sh200 x) (e : xs[i]? = some v) : Sh200 v := h v (List.mem_of_getElem? e)
theorem nilC {P : V → Prop} : ∀ x ∈ ([] : List V), P x := fun x h => nomatch h
theorem allC {P : V → Prop} {a : V} {r : List V} (h : P a) (t : ∀ x ∈ r, P x) : ∀ x ∈ a :: r, P x := fun x hx => by
  rcases List.mem_cons.mp hx with rfl | hx
  · exact h
  · exact t x hx
theorem k_addmul {K : PySem.W.Frag} {H : Hp} {Q : VK} {a b : Str} {n : Int} (n2 : 2 ≤ n) (n3 : n ≤ 90) (b1 : 0 < (sg b).length) (b2 : (sg b).length ≤ 2) (a1 : (sg a).length ≤ 10) (h : ∀ v, Sh200 v → Q v H) : xMulS (.str b) (.int n) H fun y H2 => xAddS (.str a) y H2 Q := by
  have hl : (List.replicate n.toNat (sg b)).flatten.length ≤ 180 := by
    rw [List.length_flatten, List.map_replicate, List.sum_replicate_nat]
    have : n.toNat * (sg b).length ≤ 90 * 2 := Nat.mul_le_mul (by omega) b2
    omega
  refine k_mulS (K := K) n2 (by omega) b1 (by omega) ?_
  refine k_addS (by rw [sg_mkS]; omega) ?_
  exact h _ ⟨_, rfl, by rw [sg_mkS, List.length_append]; omega⟩
def t_law_odd_row (K : PySem.W.Frag) : TS :=
  (tSeq (tAsg (tLst (tCons (tC (.str (Str.ofString ""))) (tCons (tC (.str (Str.ofString " "))) (tCons (tC (.str (Str.ofString "line 1"))) (tCons (tC (.str (Str.ofString "line 2"))) (tCons (tC (.str (Str.ofString "line 60"))) (tCons (tC (.str (Str.ofString "line 61"))) (tCons (tC (.str (Str.ofString "ring 2"))) (tCons (tC (.str (Str.ofString "ring 3"))) (tCons (tC (.str (Str.ofString "ring 61"))) (tCons (tC (.str (Str.ofString "tree"))) (tCons (tC (.str (Str.ofString "tree 1"))) tNil)))))))))))) (gName 1))
    (tSeq (tAsg (tOp rCat (tVar 1) (tLst (tCons (tC (.str (Str.ofString "tree 0 2"))) (tCons (tC (.str (Str.ofString "tree 0 1 2"))) (tCons (tOp xAddS (tC (.str (Str.ofString "tree"))) (tOp xMulS (tC (.str (Str.ofString " 0"))) (tC (.int 59)))) (tCons (tOp xAddS (tC (.str (Str.ofString "tree"))) (tOp xMulS (tC (.str (Str.ofString " 0"))) (tC (.int 60)))) (tCons (tC (.str (Str.ofString "line 5 5"))) (tCons (tC (.str (Str.ofString "circle 5"))) (tCons (tC (.str (Str.ofString "Line 5"))) tNil))))))))) (gName 1))
    (tSeq (tAsg (tOp rCat (tVar 1) (tLst (tCons (tC (.str (Str.ofString "line  5"))) (tCons (tC (.str (Str.ofString "line 5 "))) (tCons (tC (.str (Str.ofString " line 5"))) (tCons (tC (.str (Str.ofString "line 05"))) (tCons (tOp xAddS (tC (.str (Str.ofString "line 5"))) (tOp xMulS (tC (.str (Str.ofString "0"))) (tC (.int 29)))) (tCons (tOp xAddS (tC (.str (Str.ofString "line 5"))) (tOp xMulS (tC (.str (Str.ofString "0"))) (tC (.int 30)))) (tCons (tC (.str (Str.ofString "way 0 1"))) tNil))))))))) (gName 1))
    (tSeq (tAsg (tOp rCat (tVar 1) (tLst (tCons (tC (.str (Str.ofString "way 1 0"))) (tCons (tC (.str (Str.ofString "way 0 0"))) (tCons (tC (.str (Str.ofString "way 0"))) (tCons (tC (.str (Str.ofString "way 0 1 2"))) (tCons (tC (.str (Str.ofString "way 0 60"))) (tCons (tC (.str (Str.ofString "way 0 01"))) (tCons (tC (.str (Str.ofString "way 0 -1"))) (tCons (tOp xAddS (tC (.str (Str.ofString "way 0 1"))) (tOp xMulS (tC (.str (Str.ofString "0"))) (tC (.int 30)))) tNil)))))))))) (gName 1))
    (tSeq (tAsg (tOp rCat (tVar 1) (tLst (tCons (tC (.str (Str.ofString "ways 0 1"))) (tCons (tC (.str (Str.ofString "hues"))) (tCons (tC (.str (Str.ofString "hues "))) (tCons (tC (.str (Str.ofString "hues 0"))) (tCons (tC (.str (Str.ofString "hues 0 0"))) (tCons (tC (.str (Str.ofString "hues 00"))) (tCons (tC (.str (Str.ofString "hues -1"))) tNil))))))))) (gName 1))
    (tRet (tOp (rIxL K) (tVar 1) (tCall (sp_law_draw K) [] E0 (tCons (tVar 0) (tCons (tC (.int 40)) tNil))))))))))
theorem pure_law_odd_row {v0 : V} {H : Hp} {Q : VK} {E : XK} (h : pr_law_odd_row K v0 H Q E) : t_law_odd_row K ⟨fun _ H' => Q .non H', Q, fun _ _ => False, fun _ _ => False⟩ [some v0, none] H := by
  obtain ⟨pu, k, rfl, L, k1, q⟩ := h
  unfold t_law_odd_row
  wtm_at "s"
  refine kL (by simp) (fun a1 H1 n1 s1 e1 => ?_)
  obtain ⟨xs, hxs, lxs, e⟩ : ∃ xs : List V, H1 a1 = some (.lst xs) ∧ xs.length = 11 ∧ ∀ x ∈ xs, Sh200 x := ⟨_, e1, rfl, (allC (s200 "" (by decide)) (allC (s200 " " (by decide)) (allC (s200 "line 1" (by decide)) (allC (s200 "line 2" (by decide)) (allC (s200 "line 60" (by decide)) (allC (s200 "line 61" (by decide)) (allC (s200 "ring 2" (by decide)) (allC (s200 "ring 3" (by decide)) (allC (s200 "ring 61" (by decide)) (allC (s200 "tree" (by decide)) (allC (s200 "tree 1" (by decide)) nilC)))))))))))⟩
  clear e1
  wtm_at "s"
  refine k_addmul (K := K) (by decide) (by decide) (by rw [sg_str]; decide) (by rw [sg_str]; decide) (by rw [sg_str]; decide) (fun v1 w1 => ?_)
  wtm_at "s"
  refine k_addmul (K := K) (by decide) (by decide) (by rw [sg_str]; decide) (by rw [sg_str]; decide) (by rw [sg_str]; decide) (fun v2 w2 => ?_)
  wtm_at "s"
  refine kL (by simp) (fun b1 G1 nb1 sb1 eb1 => ?_)
  wtm_at "s"
  refine k_catN (sb1 _ _ hxs) eb1 (by simp; omega) (fun c1 F1 nc1 sc1 ec1 => ?_)
  replace e := fun x hx => (List.mem_append.mp hx).elim (e x) ((allC (s200 "tree 0 2" (by decide)) (allC (s200 "tree 0 1 2" (by decide)) (allC w1 (allC w2 (allC (s200 "line 5 5" (by decide)) (allC (s200 "circle 5" (by decide)) (allC (s200 "Line 5" (by decide)) nilC))))))) x)
  generalize hxs1 : xs ++ _ = ys1 at ec1 e
  have lxs : ys1.length = 18 := by rw [← hxs1, List.length_append, lxs]; rfl
  clear hxs1
  wtm_at "s"
  refine k_addmul (K := K) (by decide) (by decide) (by rw [sg_str]; decide) (by rw [sg_str]; decide) (by rw [sg_str]; decide) (fun v3 w3 => ?_)
  wtm_at "s"
  refine k_addmul (K := K) (by decide) (by decide) (by rw [sg_str]; decide) (by rw [sg_str]; decide) (by rw [sg_str]; decide) (fun v4 w4 => ?_)
  wtm_at "s"
  refine kL (by simp) (fun b2 G2 nb2 sb2 eb2 => ?_)
  wtm_at "s"
  refine k_catN (sb2 _ _ ec1) eb2 (by simp; omega) (fun c2 F2 nc2 sc2 ec2 => ?_)
  replace e := fun x hx => (List.mem_append.mp hx).elim (e x) ((allC (s200 "line  5" (by decide)) (allC (s200 "line 5 " (by decide)) (allC (s200 " line 5" (by decide)) (allC (s200 "line 05" (by decide)) (allC w3 (allC w4 (allC (s200 "way 0 1" (by decide)) nilC))))))) x)
  generalize hxs2 : ys1 ++ _ = ys2 at ec2 e
  have lxs : ys2.length = 25 := by rw [← hxs2, List.length_append, lxs]; rfl
  clear hxs2
  wtm_at "s"
  refine k_addmul (K := K) (by decide) (by decide) (by rw [sg_str]; decide) (by rw [sg_str]; decide) (by rw [sg_str]; decide) (fun v5 w5 => ?_)
  wtm_at "s"
  refine kL (by simp) (fun b3 G3 nb3 sb3 eb3 => ?_)
  wtm_at "s"
  refine k_catN (sb3 _ _ ec2) eb3 (by simp; omega) (fun c3 F3 nc3 sc3 ec3 => ?_)
  replace e := fun x hx => (List.mem_append.mp hx).elim (e x) ((allC (s200 "way 1 0" (by decide)) (allC (s200 "way 0 0" (by decide)) (allC (s200 "way 0" (by decide)) (allC (s200 "way 0 1 2" (by decide)) (allC (s200 "way 0 60" (by decide)) (allC (s200 "way 0 01" (by decide)) (allC (s200 "way 0 -1" (by decide)) (allC w5 nilC)))))))) x)
  generalize hxs3 : ys2 ++ _ = ys3 at ec3 e
  have lxs : ys3.length = 33 := by rw [← hxs3, List.length_append, lxs]; rfl
  clear hxs3
  wtm_at "s"
  refine kL (by simp) (fun b4 G4 nb4 sb4 eb4 => ?_)
  wtm_at "s"
  refine k_catN (sb4 _ _ ec3) eb4 (by simp; omega) (fun c4 F4 nc4 sc4 ec4 => ?_)
  replace e := fun x hx => (List.mem_append.mp hx).elim (e x) ((allC (s200 "ways 0 1" (by decide)) (allC (s200 "hues" (by decide)) (allC (s200 "hues " (by decide)) (allC (s200 "hues 0" (by decide)) (allC (s200 "hues 0 0" (by decide)) (allC (s200 "hues 00" (by decide)) (allC (s200 "hues -1" (by decide)) nilC))))))) x)
  generalize hxs4 : ys3 ++ _ = ys4 at ec4 e
  have lxs : ys4.length = 40 := by rw [← hxs4, List.length_append, lxs]; rfl
  clear hxs4
  wtm_at "s"
  have S0 : Same H F4 := s1.trans (sb1.trans (sc1.trans (sb2.trans (sc2.trans (sb3.trans (sc3.trans (sb4.trans sc4)))))))
  refine ⟨_, _, rfl, pu, k, 40, rfl, rfl, L.same S0, by omega, by decide, by decide, fun i H9 i0 i1 L9 S9 => ?_⟩
  obtain ⟨j, rfl⟩ : ∃ j : Nat, i = j := ⟨i.toNat, by omega⟩
  obtain ⟨v, hv⟩ : ∃ v, ys4[j]? = some v := ⟨_, List.getElem?_eq_getElem (by omega)⟩
  have nc : c4 ∉ [pu] := (L.same (s1.trans (sb1.trans (sc1.trans (sb2.trans (sc2.trans (sb3.trans (sc3.trans sb4)))))))).fresh nc4
  obtain ⟨l, rfl, hl⟩ := e v (List.mem_of_getElem? hv)
  wtm_at "s"
  refine k_ixL (sl (keeps S9 ec4 nc)) (atI_nat hv) ?_
  exact q l H9 hl L9 ((hid_mono S0).trans S9)
abbrev sp_law_odd_row (K : PySem.W.Frag) : Sp := fun vs H Q E => ∃ v0, vs = [v0] ∧ pr_law_odd_row K v0 H Q E
theorem ok_law_odd_row (T : Txt K mg A) : FnOk P w K mg base CX0 3 A.a_law_odd_row A.d_law_odd_row ["_law_left_here"] (sp_law_odd_row K) := by
  refine T.F_law_odd_row.ok sc_law_odd_row (fun vs H Q E h => by obtain ⟨v0, rfl, _⟩ := h; rfl) (fun cdv A0 outer s H vs Q E hr h => ?_)
  obtain ⟨v0, rfl, h⟩ := h
  exact ⟨t_law_odd_row K, (pss_cons (ps_set (i := 1) sc_law_odd_row.nd rfl (Or.inl rfl) (pe_lst (pa_cons pe_str (pa_cons pe_str (pa_cons pe_str (pa_cons pe_str (pa_cons pe_str (pa_cons pe_str (pa_cons pe_str (pa_cons pe_str (pa_cons pe_str (pa_cons pe_str (pa_cons pe_str pa_nil)))))))))))))
      (pss_cons (ps_set (i := 1) sc_law_odd_row.nd rfl (Or.inl rfl) (pe_op op_cat (pv 1) (pe_lst (pa_cons pe_str (pa_cons pe_str (pa_cons (pe_op op_add_str pe_str (pe_op op_mulS pe_str pe_int)) (pa_cons (pe_op op_add_str pe_str (pe_op op_mulS pe_str pe_int)) (pa_cons pe_str (pa_cons pe_str (pa_cons pe_str pa_nil))))))))))
      (pss_cons (ps_set (i := 1) sc_law_odd_row.nd rfl (Or.inl rfl) (pe_op op_cat (pv 1) (pe_lst (pa_cons pe_str (pa_cons pe_str (pa_cons pe_str (pa_cons pe_str (pa_cons (pe_op op_add_str pe_str (pe_op op_mulS pe_str pe_int)) (pa_cons (pe_op op_add_str pe_str (pe_op op_mulS pe_str pe_int)) (pa_cons pe_str pa_nil))))))))))
      (pss_cons (ps_set (i := 1) sc_law_odd_row.nd rfl (Or.inl rfl) (pe_op op_cat (pv 1) (pe_lst (pa_cons pe_str (pa_cons pe_str (pa_cons pe_str (pa_cons pe_str (pa_cons pe_str (pa_cons pe_str (pa_cons pe_str (pa_cons (pe_op op_add_str pe_str (pe_op op_mulS pe_str pe_int)) pa_nil)))))))))))
      (pss_cons (ps_set (i := 1) sc_law_odd_row.nd rfl (Or.inl rfl) (pe_op op_cat (pv 1) (pe_lst (pa_cons pe_str (pa_cons pe_str (pa_cons pe_str (pa_cons pe_str (pa_cons pe_str (pa_cons pe_str (pa_cons pe_str pa_nil))))))))))
      (pss_one (ps_ret (pe_ix ix_list (pv 1) (pe_call (ok_law_draw T) (hr.mono (by decide)) (by rfl) T.g_law_draw T.F_law_draw.kp T.b_law_draw .nil pass0 (pa_cons (pv 0) (pa_cons pe_int pa_nil))) (fun _ _ => rfl))))))))), pure_law_odd_row h⟩


theorem val_digits : ∀ {l : List Nat}, l.all isDig = true → ((NumText.digitsVal l : Nat) : Int) = valL l := by
  have key : ∀ (l : List Nat) (t : Nat), l.all isDig = true → ((l.foldl (fun acc c => acc * 10 + (c - 48)) t : Nat) : Int) = l.foldl (fun (t : Int) (c : Nat) => t * 10 + ((c : Int) - 48)) (t : Int) := by
    intro l
    induction l with
    | nil => intro t _; rfl
    | cons c r ih =>
      intro t h
      rw [List.all_cons, Bool.and_eq_true] at h
      have d := of_decide_eq_true h.1
      simp only [List.mem_cons, List.not_mem_nil, or_false] at d
      rw [List.foldl_cons, List.foldl_cons, ih _ h.2]
      congr 1
      omega
  intro l h
  exact key l 0 h
theorem fm_dig {l : List Nat} : (l.filterMap fun c => if isDig c = true then none else some (V.str ⟨#[c]⟩)).length = 0 ↔ l.all isDig = true := by
  induction l with
  | nil => simp
  | cons c r ih =>
    rw [List.filterMap_cons, List.all_cons]
    by_cases h : isDig c = true
    · rw [if_pos h, h, Bool.true_and]; exact ih
    · rw [if_neg h]
      have : isDig c = false := by cases hh : isDig c with | true => exact absurd hh h | false => rfl
      rw [this, Bool.false_and]
      constructor
      · intro z; simp at z
      · intro z; cases z
def pr_law_by_figures (K : PySem.W.Frag) (v0 : V) (H : Hp) (Q : VK) (_ : XK) : Prop := ∃ l : List Nat, v0 = .str (mkS l) ∧ l.length ≤ 40000 ∧ ∀ H', Same H H' → Q (optV (numOf l)) H'
def t_law_by_figures (K : PySem.W.Frag) : TS :=
  (tSeq (tIfS (tOr (tTest (tOp rEq (tVar 0) (tC (.str (Str.ofString ""))))) (tOr (tTest (tOp xGt (tCB rLenStr (tCons (tVar 0) tNil)) (tC (.int 30)))) (tTest (tOp xGt (tCB (rLenX K) (tCons (tLc (iStr (tVar 0)) (gName 1) (tTest (tOp xNotInS (tVar 1) (tC (.str (Str.ofString "0123456789"))))) (tVar 1) [1]) tNil)) (tC (.int 0)))))) (tRet (tC .non)) tNext)
    (tSeq (tIfS (tAnd (tTest (tOp xGt (tCB rLenStr (tCons (tVar 0) tNil)) (tC (.int 1)))) (tTest (tOp rEq (tOp rIxS (tVar 0) (tC (.int 0))) (tC (.str (Str.ofString "0")))))) (tRet (tC .non)) tNext)
    (tRet (tCB rIntS (tCons (tVar 0) tNil)))))
theorem pure_law_by_figures {v0 : V} {H : Hp} {Q : VK} {E : XK} (h : pr_law_by_figures K v0 H Q E) : t_law_by_figures K ⟨fun _ H' => Q .non H', Q, fun _ _ => False, fun _ _ => False⟩ [some v0, none] H := by
  obtain ⟨l, rfl, hl, q⟩ := h
  unfold t_law_by_figures
  wtm_at "s"
  refine k_eqS ?_
  by_cases c0 : l = []
  · rw [decide_eq_true (mk_eq.mpr (by rw [c0, sg_emp]))]
    wtm_at "s"
    have : numOf l = none := if_pos (.inl c0)
    rw [this] at q
    exact q H (Same.refl _)
  rw [decide_eq_false fun z => c0 (by have := mk_eq.mp z; rwa [sg_emp] at this)]
  obtain ⟨c, hc⟩ : ∃ c, l[0]? = some c := ⟨l[0]'(List.length_pos_iff.mpr c0), List.getElem?_eq_getElem _⟩
  wtm_at "s"
  refine k_lenS (by omega) ?_
  wtm_at "s"
  refine k_it (fun c1 => ?_) (fun c1 => ?_)
  · wtm_at "s"
    have : numOf l = none := if_pos (.inr (.inl (by omega)))
    rw [this] at q
    exact q H (Same.refl _)
  wtm_at "s"
  refine lc_pureS (by omega) (fun c => if isDig c = true then none else some (V.str ⟨#[c]⟩)) ?_ (fun D H1 nD s1 eD => ?_)
  · intro i c H' hc sm R R0 g1 g2
    wtm_at "s"
    rw [← mkS_sg (Str.ofString "0123456789"), sg_fig]
    refine k_notInS ?_
    wtm_at "s"
    refine k_itn (fun w => ?_) (fun w => ?_)
    · wtm_at "s"
      exact g1 _ (if_neg fun z => w (of_decide_eq_true z))
    · exact g2 (if_pos (decide_eq_true w))
  wtm_at "s"
  by_cases al : l.all isDig = true
  · rw [fm_dig.mpr al]
    wtm_at "s"
    refine k_lenS (by omega) ?_
    have hd0 : l.head? = some c := by rw [List.head?_eq_getElem?]; exact hc
    have fin : ¬ (l = [] ∨ 30 < l.length ∨ (l.head? = some 48 ∧ l ≠ [48])) → rIntS [.str (mkS l)] H1 Q := fun nb => by
      unfold numOf at q
      rw [if_neg nb, if_pos al] at q
      refine k_intS (List.all_eq_true.mpr fun x hx => ?_) c0 (by omega) ?_
      · have d := of_decide_eq_true (List.all_eq_true.mp al x hx)
        simp only [List.mem_cons, List.not_mem_nil, or_false] at d
        rw [Bool.and_eq_true]
        exact ⟨decide_eq_true (by omega), decide_eq_true (by omega)⟩
      · rw [val_digits al]
        exact q H1 s1
    wtm_at "s"
    refine k_it (fun c2 => ?_) (fun c2 => ?_)
    · wtm_at "s"
      refine k_ixS (i := 0) (by omega) hc ?_
      wtm_at "s"
      refine k_eqS ?_
      by_cases c3 : c = 48
      · subst c3
        rw [decide_eq_true (show (⟨#[48]⟩ : Str) = Str.ofString "0" from (mk_eq (l := [48])).mpr (by rw [sg_zero]))]
        wtm_at "s"
        have : numOf l = none := if_pos (.inr (.inr ⟨hd0, fun z => by rw [z] at c2; simp at c2⟩))
        rw [this] at q
        exact q H1 s1
      · rw [decide_eq_false fun z => c3 (by have := (mk_eq (l := [c])).mp z; rw [sg_zero] at this; cases this; rfl)]
        wtm_at "s"
        refine fin fun z => ?_
        rcases z with z | z | ⟨z, _⟩
        · exact c0 z
        · omega
        · rw [hd0] at z; exact c3 (Option.some.inj z)
    · wtm_at "s"
      refine fin fun z => ?_
      rcases z with z | z | ⟨z, y⟩
      · exact c0 z
      · omega
      · rw [hd0] at z
        refine y ?_
        match l, c0, hc, c2 with
        | [x], _, hc, _ => cases hc; cases z; rfl
        | x :: x2 :: r, _, _, c2 => simp at c2; omega
  · have lp : 0 < (l.filterMap fun c => if isDig c = true then none else some (V.str ⟨#[c]⟩)).length := by
      refine Nat.pos_of_ne_zero fun z => al (fm_dig.mp z)
    wtm_at "s"
    have : numOf l = none := by
      unfold numOf
      split
      · rfl
      · first | rfl | rw [if_neg al]
    rw [this] at q
    exact q H1 s1
abbrev sp_law_by_figures (K : PySem.W.Frag) : Sp := fun vs H Q E => ∃ v0, vs = [v0] ∧ pr_law_by_figures K v0 H Q E
theorem ok_law_by_figures (T : Txt K mg A) : FnOk P w K mg base CX0 1 A.a_law_by_figures A.d_law_by_figures ["_law_word"] (sp_law_by_figures K) := by
  refine T.F_law_by_figures.ok sc_law_by_figures (fun vs H Q E h => by obtain ⟨v0, rfl, _⟩ := h; rfl) (fun cdv A0 outer s H vs Q E hr h => ?_)
  obtain ⟨v0, rfl, h⟩ := h
  exact ⟨t_law_by_figures K, (pss_cons (ps_if (PW.pt (pw_or (pt_cmpR op_eq (pv 0) pe_str (nomark _)) (pw_or (pt_cmpR op_gt (pe_callB q_lenS (by rfl) T.z_len (by decide +kernel) (pa_cons (pv 0) pa_nil)) pe_int (nomark _)) (pw_or1 (pt_cmpR op_gt (pe_callB q_len (by rfl) T.z_len (by decide +kernel) (pa_cons (pe_lc (own := [("_law_sign_here", 1)]) (by rfl) sc_law_by_figures.nd (pi_str (pv 0)) (blkOk_by (own := [("_law_sign_here", 1)]) (N := ["_law_word", "_law_sign_here"]) (sc := defScope s_law_by_figures) (by decide +kernel)) (fun _ _ _ _ _ => (pg_name (i := 1) sc_law_by_figures.nd rfl (Or.inl rfl))) (fun _ _ _ _ _ => (pts_one (pt_cmpR op_notin_str (pv 1) pe_str (by rfl)))) (fun _ _ _ _ _ => (pv 1))) pa_nil)) pe_int (nomark _)))))) (pss_one (ps_ret pe_non)) pss_nil)
      (pss_cons (ps_if (PW.pt (pw_and (pt_cmpR op_gt (pe_callB q_lenS (by rfl) T.z_len (by decide +kernel) (pa_cons (pv 0) pa_nil)) pe_int (nomark _)) (pw_and1 (pt_cmpR op_eq (pe_ix ix_str (pv 0) pe_int (fun _ _ => rfl)) pe_str (nomark _))))) (pss_one (ps_ret pe_non)) pss_nil)
      (pss_one (ps_ret (pe_callTy q_intS (by rfl) T.z_int (by decide +kernel) (pa_cons (pv 0) pa_nil)))))), pure_law_by_figures h⟩


def optD : Option Int → PyData
  | none => .none
  | some n => .int n
theorem dp_opts {K : PySem.W.Frag} {H : Hp} : ∀ ls : List (List Nat), DpAll K H (ls.map fun l => optV (numOf l)) (ls.map fun l => optD (numOf l))
  | [] => .nil
  | l :: r => .cons (by
    show Dp K H (optV (numOf l)) (optD (numOf l))
    cases h : numOf l with | none => exact .non | some n => exact .int n) (dp_opts r)
theorem sh_opts {n : Nat} (ls : List (List Nat)) : Sh (n + 1) (.list (ls.map fun l => optD (numOf l))) := sh_list fun d hd => by
  obtain ⟨l, _, rfl⟩ := List.mem_map.mp hd
  cases numOf l with
  | none => exact sh_none
  | some n => exact sh_int
theorem k_inSt {K : PySem.W.Frag} {H : Hp} {Q : VK} {p : Addr} {s a b : Str} (hs : SqL K H p [.str a, .str b]) (h : Q (.bl (decide (s = a ∨ s = b))) H) : rIn K false (.str s) (.ref p) H Q := ⟨p, _, rfl, .inl hs, rfl, rfl, by
  rw [if_neg Bool.false_ne_true]
  have e : inV (.str s) [.str a, .str b] = decide (s = a ∨ s = b) := by
    show ((a == s) || ((b == s) || false)) = _
    rw [Bool.or_false, Bool.eq_iff_iff, Bool.or_eq_true, decide_eq_true_iff, beq_iff_eq, beq_iff_eq]
    exact ⟨fun h => h.imp Eq.symm Eq.symm, fun h => h.imp Eq.symm Eq.symm⟩
  rw [e]; exact h⟩
theorem next_ {D : Ends} {σ : L2.St} {H : Hp} (h : D.nx σ H) : tNext D σ H := h
def pr_law_net_by (K : PySem.W.Frag) (v0 : V) (H : Hp) (Q : VK) (_ : XK) : Prop := ∃ (a : Addr) (w : List Nat) (ls : List (List Nat)), v0 = .ref a ∧ SqL K H a (strsV (w :: ls)) ∧ ls.length ≤ 9000 ∧ (∀ l ∈ ls, l.length ≤ 40000) ∧ (netW w ls = none → ∀ H', Same H H' → Q .non H') ∧ (∀ N, netW w ls = some N → ∀ p H', Same H H' → NetNew H H' (.ref p) N → Q (.ref p) H')
def t_law_net_by (K : PySem.W.Frag) : TS :=
  (tSeq (tAsg (tLc (iList K (tSl (rSlL K) (tVar 0) (tPart (tC (.int 1))) tNoPart)) (gName 2) tYes (tCall (sp_law_by_figures K) [] E0 (tCons (tVar 2) tNil)) [2]) (gName 1))
    (tSeq (tIfS (tOr (tTest (tOp (rEqD K) (tVar 1) (tLst tNil))) (tTest (tOp (rIn K false) (tC .non) (tVar 1)))) (tRet (tC .non)) tNext)
    (tSeq (tIfS (tAnd (tTest (tOp rEq (tOp (rIxL K) (tVar 0) (tC (.int 0))) (tC (.str (Str.ofString "tree"))))) (tTest (tOp xLt (tCB (rLenX K) (tCons (tVar 1) tNil)) (tC (.int 60))))) (tIfS (tTest (tOp (rEqD K) (tLc (iRng1 (tCons (tCB (rLenX K) (tCons (tVar 1) tNil)) tNil)) (gName 3) (tTest (tOp xGt (tOp (rIxL K) (tVar 1) (tVar 3)) (tVar 3))) (tVar 3) [3]) (tLst tNil))) (tRet (tTup (tCons (tC (.str (Str.ofString "tree"))) (tCons (tVar 1) tNil)))) tNext) tNext)
    (tSeq (tIfS (tAnd (tTest (tOp (rIn K false) (tOp (rIxL K) (tVar 0) (tC (.int 0))) (tLst (tCons (tC (.str (Str.ofString "line"))) (tCons (tC (.str (Str.ofString "ring"))) tNil))))) (tTest (tOp rEq (tCB (rLenX K) (tCons (tVar 1) tNil)) (tC (.int 1))))) (tIfS (tAnd (tTest (tOp xLe (tOp (rIxL K) (tVar 1) (tC (.int 0))) (tC (.int 60)))) (tTest (tOp xGe (tOp (rIxL K) (tVar 1) (tC (.int 0))) (tOp xAdd (tC (.int 2)) (tCB rIntOf (tCons (tOp rEq (tOp (rIxL K) (tVar 0) (tC (.int 0))) (tC (.str (Str.ofString "ring")))) tNil)))))) (tRet (tTup (tCons (tOp (rIxL K) (tVar 0) (tC (.int 0))) (tCons (tOp (rIxL K) (tVar 1) (tC (.int 0))) tNil)))) tNext) tNext)
    (tRet (tC .non))))))
theorem pure_law_net_by {v0 : V} {H : Hp} {Q : VK} {E : XK} (h : pr_law_net_by K v0 H Q E) : t_law_net_by K ⟨fun _ H' => Q .non H', Q, fun _ _ => False, fun _ _ => False⟩ [some v0, none, none, none] H := by
  obtain ⟨a, w, ls, rfl, ha, hz, hl, q0, q1⟩ := h
  unfold netW at q0 q1
  unfold t_law_net_by
  wtm_at "s"
  refine k_slL ha (fun w1 H1 nw1 s1 e1 => ?_)
  rw [strs_drop] at e1
  wtm_at "s"
  refine lc_grow (sl e1) ls (by simp [strsV]) (by omega) (fun l => some (optV (numOf l))) ?_ (fun D H2 nD s2 eD => ?_)
  · intro i z l H' hz' hp sm R R0 g1 g2
    unfold strsV at hz'
    rw [List.getElem?_map, hp] at hz'
    cases hz'
    wtm_at "s"
    exact ⟨_, rfl, l, rfl, hl l (List.mem_of_getElem? hp), fun H'' s => g1 _ _ rfl s⟩
  rw [fm_map] at eD
  have s12 := s1.trans s2
  wtm_at "s"
  refine kL (by simp) (fun em H3 nem s3 eem => ?_)
  refine k_eqD (n := 4) (c := .list (ls.map fun l => optD (numOf l))) (d := .list []) (.lst (sl (s3 _ _ eD)) (dp_opts ls)) (.lst (sl eem) .nil) (sh_opts ls) (sh_list fun d hd => by cases hd) (by decide) ?_
  have eD3 := s3 _ _ eD
  have s13 := s12.trans s3
  cases ls with
  | nil =>
    rw [show PyData.eqv (.list (([] : List (List Nat)).map fun l => optD (numOf l))) (.list []) = true from rfl]
    wtm_at "s"
    exact q0 rfl H3 s13
  | cons l0 lr =>
  rw [show PyData.eqv (.list ((l0 :: lr).map fun l => optD (numOf l))) (.list []) = false from rfl]
  wtm_at "s"
  refine ⟨D, _, rfl, .inl (sl eD3), rfl, flat_opt (l0 :: lr), ?_⟩
  rw [if_neg Bool.false_ne_true, in_opt]
  cases hn : numsOf (l0 :: lr) with
  | none =>
    rw [hn] at q0
    wtm_at "s"
    exact q0 rfl H3 s13
  | some ns =>
  rw [hn] at q0 q1
  obtain ⟨ln, nn⟩ := nums_nonneg hn
  rw [numsOf_some hn] at eD3
  cases ns with
  | nil => simp at ln
  | cons n r =>
  have lr9 : r.length ≤ 9000 := by simp at ln hz; omega
  clear eD eem hn
  rw [decide_eq_false (fun z => by cases z)]
  refine ⟨false, rfl, ?_⟩
  rw [if_neg (by decide)]
  refine next_ ?_
  dsimp only
  have ha3 := s13.seq ha
  refine seqO (fun σ' H' => Same H3 H' ∧ (w = sg (Str.ofString "tree") → ¬ TreeOk (n :: r)) ∧ σ' = [some (.ref a), some (.ref D), none, none]) ?_ (fun nx1 go1 => ?_)
  rotate_left
  · wtm_at "s"
    refine k_ixL ha3 (strs_at0 _ _) ?_
    wtm_at "s"
    refine k_eqS ?_
    by_cases c : w = sg (Str.ofString "tree")
    · rw [decide_eq_true (mk_eq.mpr c)]
      simp only [if_pos c] at q0 q1
      wtm_at "s"
      refine k_it (fun c2 => ?_) (fun c2 => ?_)
      · wtm_at "s"
        refine lc_pureR (by simp; omega) (fun i => if ((n :: r).getD i 0) > (i : Int) then some (V.int (0 + (i : Nat))) else none) ?_ (fun D4 H4 nD4 s4 eD4 => ?_)
        · intro i H' hi sm R R0 g1 g2
          have hi' : i < (n :: r).length := by simp at hi ⊢; omega
          wtm_at "s"
          refine k_ixI (sl (sm _ _ eD3)) (by omega) (by omega) ?_
          rw [show (0 + (i : Int)).toNat = i by omega]
          wtm_at "s"
          refine k_it (fun c3 => ?_) (fun c3 => ?_)
          · wtm_at "s"
            exact g1 _ (if_pos (by omega))
          · exact g2 (if_neg (by omega))
        have s34 := s4
        wtm_at "s"
        refine kL (by simp) (fun l5 H5 nl5 s5 e5 => ?_)
        have lenD : ((n :: r).length : Int).toNat = (n :: r).length := by omega
        obtain ⟨is, eis⟩ : ∃ is : List Int, (List.range ((n :: r).length : Int).toNat).filterMap (fun i => if ((n :: r).getD i 0) > (i : Int) then some (V.int (0 + (i : Nat))) else none) = is.map V.int ∧ (is = [] ↔ ∀ i, i < (n :: r).length → (n :: r).getD i 0 ≤ (i : Int)) := by
          rw [lenD]
          refine ⟨keepI (n :: r).length (fun i => decide ((n :: r).getD i 0 > (i : Int))), ?_, ?_⟩
          · rw [← keepI_fm]
            congr 1
            funext i
            by_cases hh : ((n :: r).getD i 0) > (i : Int)
            · rw [if_pos hh, if_pos (decide_eq_true hh)]
            · rw [if_neg hh, if_neg (fun z => hh (of_decide_eq_true z))]
          · unfold keepI
            rw [List.map_eq_nil_iff, List.filter_eq_nil_iff]
            constructor
            · intro z i hi
              have := z i (List.mem_range.mpr hi)
              rw [decide_eq_true_iff] at this
              omega
            · intro z i hi y
              have := z i (List.mem_range.mp hi)
              have := of_decide_eq_true y
              omega
        rw [eis.1] at eD4
        refine k_eqD (n := 4) (c := dInts is) (d := .list []) (dp_of_ints (sl (s5 _ _ eD4))) (.lst (sl e5) .nil) (sh_ints _) (sh_list fun d hd => by cases hd) (by decide) ?_
        have T_iff : TreeOk (n :: r) ↔ is = [] := by
          rw [eis.2]
          constructor
          · exact fun t i hi => (t.2.2 i hi).2
          · refine fun t => ⟨by simp, by simp at c2 ⊢; omega, fun i hi => ⟨?_, t i hi⟩⟩
            rw [List.getD_eq_getElem?_getD, List.getElem?_eq_getElem hi]
            exact (nn _ (List.getElem_mem hi)).1
        have s35 := s4.trans s5
        cases is with
        | nil =>
          rw [show PyData.eqv (dInts []) (.list []) = true from rfl]
          wtm_at "s"
          refine kT (by simp) (fun t H6 nt s6 e6 => ?_)
          exact q1 (.tree (n :: r)) (if_pos (T_iff.mpr rfl)) t H6 (s13.trans (s35.trans s6)) ⟨t, D, rfl, e6, s1.free nD, (s35.trans s6) _ _ eD3⟩
        | cons i0 ir =>
          rw [eqv_ne]
          wtm_at "s"
          exact go1 _ _ ⟨s35, fun _ t => (by cases T_iff.mp t), rfl⟩
      · wtm_at "s"
        exact go1 _ _ ⟨Same.refl _, fun _ t => by have := t.2.1; simp at c2 this; omega, rfl⟩
    · rw [decide_eq_false fun z => c (mk_eq.mp z)]
      wtm_at "s"
      exact go1 _ _ ⟨Same.refl _, fun z => absurd z c, rfl⟩
  rintro _ H4 ⟨s4, nt, rfl⟩
  have s14 := s13.trans s4
  have eD4 := s4 _ _ eD3
  wtm_at "s"
  refine k_ixL (s14.seq ha) (strs_at0 _ _) ?_
  wtm_at "s"
  refine kL (by simp) (fun l5 H5 nl5 s5 e5 => ?_)
  have eD5 := s5 _ _ eD4
  have s15 := s14.trans s5
  refine k_inSt (sl e5) ?_
  by_cases c : w = sg (Str.ofString "tree")
  · have ew : mkS w = Str.ofString "tree" := mk_eq.mpr c
    rw [decide_eq_false (by rw [ew]; exact fun z => z.elim (sne s_tl) (sne s_tr))]
    wtm_at "s"
    exact q0 (by show (if w = sg (Str.ofString "tree") then _ else _) = none; rw [if_pos c, if_neg (nt c)]) H5 s15
  replace q0 : (if r = [] then if w = sg (Str.ofString "line") ∧ 2 ≤ n ∧ n ≤ 60 then some (Net.line n) else if w = sg (Str.ofString "ring") ∧ 3 ≤ n ∧ n ≤ 60 then some (Net.ring n) else none else none) = none → ∀ H', Same H H' → Q .non H' := fun z => q0 (by show (if w = sg (Str.ofString "tree") then _ else _) = none; rw [if_neg c]; exact z)
  replace q1 : ∀ N : Net, (if r = [] then if w = sg (Str.ofString "line") ∧ 2 ≤ n ∧ n ≤ 60 then some (Net.line n) else if w = sg (Str.ofString "ring") ∧ 3 ≤ n ∧ n ≤ 60 then some (Net.ring n) else none else none) = some N → ∀ p H', Same H H' → NetNew H H' (.ref p) N → Q (.ref p) H' := fun N z => q1 N (by show (if w = sg (Str.ofString "tree") then _ else _) = some N; rw [if_neg c]; exact z)
  by_cases cc : mkS w = Str.ofString "line" ∨ mkS w = Str.ofString "ring"
  · rw [decide_eq_true cc]
    cases r with
    | cons m r =>
      wtm_at "s"
      exact q0 (if_neg (by simp)) H5 s15
    | nil =>
    simp only [if_true] at q0 q1
    replace eD5 : H5 D = some (.lst [V.int n]) := eD5
    wtm_at "s"
    refine k_itDT (by simp) ?_
    wtm_at "s"
    refine k_ixL (sl eD5) (v := .int n) rfl ?_
    wtm_at "s"
    refine k_it (fun c6 => ?_) (fun c6 => ?_)
    · wtm_at "s"
      refine k_ixL (sl eD5) (v := .int n) rfl ?_
      wtm_at "s"
      refine k_ixL (s15.seq ha) (strs_at0 _ _) ?_
      wtm_at "s"
      refine k_eqS ?_
      rcases cc with cc | cc
      · rw [cc, s_lr]
        have wl := mk_eq.mp cc
        wtm_at "s"
        refine k_it (fun c7 => ?_) (fun c7 => ?_)
        · wtm_at "s"
          refine k_ixL (s15.seq ha) (strs_at0 _ _) ?_
          wtm_at "s"
          refine k_ixL (sl eD5) (v := .int n) rfl ?_
          wtm_at "s"
          refine kT (by simp) (fun t H6 nt6 s6 e6 => ?_)
          rw [cc] at e6
          exact q1 (.line n) (if_pos ⟨wl, by simp at c7; omega, c6⟩) t H6 (s15.trans s6) ⟨t, rfl, e6⟩
        · wtm_at "s"
          refine q0 ?_ H5 s15
          rw [if_neg (fun z => by simp at c7; omega), if_neg (fun z => ?_)]
          have := z.1
          rw [wl] at this
          exact sne s_lr (by rw [← mkS_sg (Str.ofString "line"), this, mkS_sg])
      · rw [cc, s_same]
        have wl := mk_eq.mp cc
        wtm_at "s"
        have nl : ¬ (w = sg (Str.ofString "line") ∧ 2 ≤ n ∧ n ≤ 60) := fun z => by
          have := z.1
          rw [wl] at this
          exact sne s_rl (by rw [← mkS_sg (Str.ofString "ring"), this, mkS_sg])
        refine k_it (fun c7 => ?_) (fun c7 => ?_)
        · wtm_at "s"
          refine k_ixL (s15.seq ha) (strs_at0 _ _) ?_
          wtm_at "s"
          refine k_ixL (sl eD5) (v := .int n) rfl ?_
          wtm_at "s"
          refine kT (by simp) (fun t H6 nt6 s6 e6 => ?_)
          rw [cc] at e6
          exact q1 (.ring n) (by rw [if_neg nl, if_pos ⟨wl, by simp at c7; omega, c6⟩]) t H6 (s15.trans s6) ⟨t, rfl, e6⟩
        · wtm_at "s"
          refine q0 ?_ H5 s15
          rw [if_neg nl, if_neg (fun z => by simp at c7; omega)]
    · wtm_at "s"
      refine q0 ?_ H5 s15
      rw [if_neg (fun z => by omega), if_neg (fun z => by omega)]
  · rw [decide_eq_false cc]
    wtm_at "s"
    refine q0 ?_ H5 s15
    split
    · rw [if_neg (fun z => cc (.inl (mk_eq.mpr z.1))), if_neg (fun z => cc (.inr (mk_eq.mpr z.1)))]
    · rfl
abbrev sp_law_net_by (K : PySem.W.Frag) : Sp := fun vs H Q E => ∃ v0, vs = [v0] ∧ pr_law_net_by K v0 H Q E
theorem ok_law_net_by (T : Txt K mg A) : FnOk P w K mg base CX0 2 A.a_law_net_by A.d_law_net_by ["_law_words"] (sp_law_net_by K) := by
  refine T.F_law_net_by.ok sc_law_net_by (fun vs H Q E h => by obtain ⟨v0, rfl, _⟩ := h; rfl) (fun cdv A0 outer s H vs Q E hr h => ?_)
  obtain ⟨v0, rfl, h⟩ := h
  exact ⟨t_law_net_by K, (pss_cons (ps_set (i := 1) sc_law_net_by.nd rfl (Or.inr rfl) (pe_lc (own := [("_law_word", 2)]) (by rfl) sc_law_net_by.nd (pi_list (pe_slice sl_list (pv 0) (po_some pe_int) po_none)) (blkOk_by (own := [("_law_word", 2)]) (N := ["_law_words", "_law_numbers", "_law_word", "_law_k"]) (sc := defScope s_law_net_by) (by decide +kernel)) (fun _ _ _ _ _ => (pg_name (i := 2) sc_law_net_by.nd rfl (Or.inl rfl))) (fun _ _ _ _ _ => pts_nil) (fun _ _ _ _ _ => (pe_call (ok_law_by_figures T) (hr.mono (by decide)) (by rfl) T.g_law_by_figures T.F_law_by_figures.kp T.b_law_by_figures .nil pass0 (pa_cons (pv 2) pa_nil)))))
      (pss_cons (ps_if (PW.pt (pw_or (pt_cmpR (op_eqD hr.units) (pv 1) (pe_lst pa_nil) (nomark _)) (pw_or1 (pt_cmpR op_in_seq pe_non (pv 1) (by rfl))))) (pss_one (ps_ret pe_non)) pss_nil)
      (pss_cons (ps_if (PW.pt (pw_and (pt_cmpR op_eq (pe_ix ix_list (pv 0) pe_int (fun _ _ => rfl)) pe_str (nomark _)) (pw_and1 (pt_cmpR op_lt (pe_callB q_len (by rfl) T.z_len (by decide +kernel) (pa_cons (pv 1) pa_nil)) pe_int (nomark _))))) (pss_one (ps_if (pt_cmpR (op_eqD hr.units) (pe_lc (own := [("_law_k", 3)]) (by rfl) sc_law_net_by.nd (pi_range1 (by rfl) T.z_range (pa_cons (pe_callB q_len (by rfl) T.z_len (by decide +kernel) (pa_cons (pv 1) pa_nil)) pa_nil)) (blkOk_by (own := [("_law_k", 3)]) (N := ["_law_words", "_law_numbers", "_law_word", "_law_k"]) (sc := defScope s_law_net_by) (by decide +kernel)) (fun _ _ _ _ _ => (pg_name (i := 3) sc_law_net_by.nd rfl (Or.inl rfl))) (fun _ _ _ _ _ => (pts_one (pt_cmpR op_gt (pe_ix ix_list (pv 1) (pv 3) (fun _ _ => rfl)) (pv 3) (nomark _)))) (fun _ _ _ _ _ => (pv 3))) (pe_lst pa_nil) (nomark _)) (pss_one (ps_ret (pe_tup (pa_cons pe_str (pa_cons (pv 1) pa_nil))))) pss_nil)) pss_nil)
      (pss_cons (ps_if (PW.pt (pw_and (pt_cmpR op_in_seq (pe_ix ix_list (pv 0) pe_int (fun _ _ => rfl)) (pe_lst (pa_cons pe_str (pa_cons pe_str pa_nil))) (by rfl)) (pw_and1 (pt_cmpR op_eq (pe_callB q_len (by rfl) T.z_len (by decide +kernel) (pa_cons (pv 1) pa_nil)) pe_int (nomark _))))) (pss_one (ps_if (PW.pt (pw_and (pt_cmpR op_le (pe_ix ix_list (pv 1) pe_int (fun _ _ => rfl)) pe_int (nomark _)) (pw_and1 (pt_cmpR op_ge (pe_ix ix_list (pv 1) pe_int (fun _ _ => rfl)) (pe_op op_add pe_int (pe_callTy q_intB (by rfl) T.z_int (by decide +kernel) (pa_cons (pe_cmpR op_eq (pe_ix ix_list (pv 0) pe_int (fun _ _ => rfl)) pe_str (nomark _)) pa_nil))) (nomark _))))) (pss_one (ps_ret (pe_tup (pa_cons (pe_ix ix_list (pv 0) pe_int (fun _ _ => rfl)) (pa_cons (pe_ix ix_list (pv 1) pe_int (fun _ _ => rfl)) pa_nil))))) pss_nil)) pss_nil)
      (pss_one (ps_ret pe_non)))))), pure_law_net_by h⟩


def pr_law_way_by (K : PySem.W.Frag) (v0 v1 : V) (H : Hp) (Q : VK) (_ : XK) : Prop := ∃ (a : Addr) (N : Net) (w : List Nat) (ls : List (List Nat)), v1 = .ref a ∧ Dp K H v0 N.d ∧ SqL K H a (strsV (w :: ls)) ∧ ls.length ≤ 9000 ∧ (∀ l ∈ ls, l.length ≤ 40000) ∧ (wayOf N w ls = none → ∀ H', Same H H' → Q .non H') ∧ (∀ x y, wayOf N w ls = some (x, y) → ∀ p H', H p = none → Same H H' → H' p = some (.tup [.int x, .int y]) → Q (.ref p) H')
def t_law_way_by (K : PySem.W.Frag) : TS :=
  (tSeq (tAsg (tLc (iList K (tSl (rSlL K) (tVar 1) (tPart (tC (.int 1))) tNoPart)) (gName 3) tYes (tCall (sp_law_by_figures K) [] E0 (tCons (tVar 3) tNil)) [3]) (gName 2))
    (tSeq (tIfS (tOr (tTest (tOp rNe (tOp (rIxL K) (tVar 1) (tC (.int 0))) (tC (.str (Str.ofString "way"))))) (tOr (tTest (tOp rNe (tCB (rLenX K) (tCons (tVar 2) tNil)) (tC (.int 2)))) (tOr (tTest (tOp (rIn K false) (tC .non) (tVar 2))) (tTest (tOp rEq (tOp (rIxL K) (tVar 2) (tC (.int 0))) (tOp (rIxL K) (tVar 2) (tC (.int 1)))))))) (tRet (tC .non)) tNext)
    (tSeq (tIfS (tTest (tOp xGe (tCB (rMax K) (tCons (tVar 2) tNil)) (tCall (sp_law_size K) [] E0 (tCons (tVar 0) tNil)))) (tRet (tC .non)) tNext)
    (tRet (tTup (tCons (tOp (rIxL K) (tVar 2) (tC (.int 0))) (tCons (tOp (rIxL K) (tVar 2) (tC (.int 1))) tNil)))))))
theorem pure_law_way_by {v0 v1 : V} {H : Hp} {Q : VK} {E : XK} (h : pr_law_way_by K v0 v1 H Q E) : t_law_way_by K ⟨fun _ H' => Q .non H', Q, fun _ _ => False, fun _ _ => False⟩ [some v0, some v1, none, none] H := by
  obtain ⟨a, N, w, ls, rfl, hd, ha, hz, hl, q0, q1⟩ := h
  unfold wayOf at q0 q1
  unfold t_law_way_by
  wtm_at "s"
  refine k_slL ha (fun w1 H1 nw1 s1 e1 => ?_)
  rw [strs_drop] at e1
  wtm_at "s"
  refine lc_grow (sl e1) ls (by simp [strsV]) (by omega) (fun l => some (optV (numOf l))) ?_ (fun D H2 nD s2 eD => ?_)
  · intro i z l H' hz' hp sm R R0 g1 g2
    unfold strsV at hz'
    rw [List.getElem?_map, hp] at hz'
    cases hz'
    wtm_at "s"
    exact ⟨_, rfl, l, rfl, hl l (List.mem_of_getElem? hp), fun H'' s => g1 _ _ rfl s⟩
  rw [fm_map] at eD
  have s12 := s1.trans s2
  wtm_at "s"
  refine k_ixL (s12.seq ha) (strs_at0 _ _) ?_
  wtm_at "s"
  refine k_neS ?_
  by_cases c : w = sg (Str.ofString "way")
  · rw [decide_eq_true (mk_eq.mpr c)]
    simp only [if_pos c] at q0 q1
    wtm_at "s"
    by_cases c2 : ls.length = 2
    · rw [decide_eq_true (by rw [List.length_map]; omega)]
      wtm_at "s"
      refine ⟨D, _, rfl, .inl (sl eD), rfl, flat_opt ls, ?_⟩
      rw [if_neg Bool.false_ne_true, in_opt]
      cases hn : numsOf ls with
      | none =>
        rw [hn] at q0
        wtm_at "s"
        exact q0 rfl H2 s12
      | some ns =>
      rw [hn] at q0 q1
      obtain ⟨ln, nn⟩ := nums_nonneg hn
      rw [numsOf_some hn] at eD
      obtain ⟨x, y, rfl⟩ : ∃ x y, ns = [x, y] := by
        have l2 : ns.length = 2 := by omega
        cases ns with
        | nil => cases l2
        | cons x r => cases r with
          | nil => cases l2
          | cons y r => cases r with
            | nil => exact ⟨x, y, rfl⟩
            | cons z r => simp at l2
      replace eD : H2 D = some (.lst [V.int x, .int y]) := eD
      have nx := (nn x (by simp)).1
      have ny := (nn y (by simp)).1
      replace q0 : (if isWay N x y then some (x, y) else none) = none → ∀ H', Same H H' → Q .non H' := q0
      replace q1 : ∀ x' y', (if isWay N x y then some (x, y) else none) = some (x', y') → ∀ p H', H p = none → Same H H' → H' p = some (.tup [.int x', .int y']) → Q (.ref p) H' := q1
      rw [decide_eq_false (fun z => by cases z)]
      wtm_at "s"
      refine k_ixL (sl eD) (v := .int x) rfl ?_
      wtm_at "s"
      refine k_ixL (sl eD) (v := .int y) rfl ?_
      wtm_at "s"
      refine k_it (fun c3 => ?_) (fun c3 => ?_)
      · wtm_at "s"
        exact q0 (if_neg fun z => z.1 c3) H2 s12
      · wtm_at "s"
        refine k_max (ns := [x, y]) (sl eD) (by simp) (fun m m1 m2 => ?_)
        wtm_at "s"
        refine ⟨_, rfl, N, dp_same s12 hd, ?_⟩
        wtm_at "s"
        have m1' : m = x ∨ m = y := by simpa using m1
        have mx := m2 x (by simp)
        have my := m2 y (by simp)
        refine k_it (fun c4 => ?_) (fun c4 => ?_)
        · wtm_at "s"
          exact q0 (if_neg fun z => by
            obtain ⟨_, _, _, z4, z5⟩ := z
            omega) H2 s12
        · wtm_at "s"
          refine k_ixL (sl eD) (v := .int x) rfl ?_
          wtm_at "s"
          refine k_ixL (sl eD) (v := .int y) rfl ?_
          wtm_at "s"
          exact kT (by simp) (fun p H4 np s4 e4 => q1 x y (if_pos ⟨c3, nx, ny, by omega, by omega⟩) p H4 (s12.free np) (s12.trans s4) e4)
    · rw [decide_eq_false (by rw [List.length_map]; omega)]
      wtm_at "s"
      refine q0 ?_ H2 s12
      cases hn : numsOf ls with
      | none => rfl
      | some ns =>
        have ln := (nums_nonneg hn).1
        match ns, ln with
        | [], _ => rfl
        | [_], _ => rfl
        | [_, _], ln => exact absurd ln.symm (by simpa using c2)
        | _ :: _ :: _ :: _, _ => rfl
  · rw [decide_eq_false fun z => c (mk_eq.mp z)]
    wtm_at "s"
    exact q0 (if_neg c) H2 s12
abbrev sp_law_way_by (K : PySem.W.Frag) : Sp := fun vs H Q E => ∃ v0 v1, vs = [v0, v1] ∧ pr_law_way_by K v0 v1 H Q E
theorem ok_law_way_by (T : Txt K mg A) : FnOk P w K mg base CX0 2 A.a_law_way_by A.d_law_way_by ["_law_net_here", "_law_words"] (sp_law_way_by K) := by
  refine T.F_law_way_by.ok sc_law_way_by (fun vs H Q E h => by obtain ⟨v0, v1, rfl, _⟩ := h; rfl) (fun cdv A0 outer s H vs Q E hr h => ?_)
  obtain ⟨v0, v1, rfl, h⟩ := h
  exact ⟨t_law_way_by K, (pss_cons (ps_setLc (i := 2) (own := [("_law_word", 3)]) (by rfl) sc_law_way_by.nd rfl rfl (sw_true rfl rfl rfl (by decide +kernel)) (pi_list (pe_slice sl_list (pv 1) (po_some pe_int) po_none)) (blkOk_by (own := [("_law_word", 3)]) (N := ["_law_net_here", "_law_words", "_law_numbers", "_law_word"]) (sc := defScope s_law_way_by) (by decide +kernel)) (fun _ _ _ _ _ => (pg_name (i := 3) sc_law_way_by.nd rfl (Or.inl rfl))) (fun _ _ _ _ _ => pts_nil) (fun _ _ _ _ _ => (pe_call (ok_law_by_figures T) (hr.mono (by decide)) (by rfl) T.g_law_by_figures T.F_law_by_figures.kp T.b_law_by_figures .nil pass0 (pa_cons (pv 3) pa_nil))))
      (pss_cons (ps_if (PW.pt (pw_or (pt_cmpR op_ne (pe_ix ix_list (pv 1) pe_int (fun _ _ => rfl)) pe_str (nomark _)) (pw_or (pt_cmpR op_ne (pe_callB q_len (by rfl) T.z_len (by decide +kernel) (pa_cons (pv 2) pa_nil)) pe_int (nomark _)) (pw_or (pt_cmpR op_in_seq pe_non (pv 2) (by rfl)) (pw_or1 (pt_cmpR op_eq (pe_ix ix_list (pv 2) pe_int (fun _ _ => rfl)) (pe_ix ix_list (pv 2) pe_int (fun _ _ => rfl)) (nomark _))))))) (pss_one (ps_ret pe_non)) pss_nil)
      (pss_cons (ps_if (pt_cmpR op_ge (pe_callB (cr_max (by rfl)) (by rfl) T.z_max (by decide +kernel) (pa_cons (pv 2) pa_nil)) (pe_call (ok_law_size T) (hr.mono (by decide)) (by rfl) T.g_law_size T.F_law_size.kp T.b_law_size .nil pass0 (pa_cons (pv 0) pa_nil)) (nomark _)) (pss_one (ps_ret pe_non)) pss_nil)
      (pss_one (ps_ret (pe_tup (pa_cons (pe_ix ix_list (pv 2) pe_int (fun _ _ => rfl)) (pa_cons (pe_ix ix_list (pv 2) pe_int (fun _ _ => rfl)) pa_nil)))))))), pure_law_way_by h⟩


theorem meet_comm {N : Net} {ws : List (Int × Int)} {i j : Nat} (h : meetW N ws i j) : meetW N ws j i := by
  obtain ⟨w, v, t, h1, h2, h3, h4⟩ := h
  exact ⟨v, w, t, h2, h1, h4, h3⟩
def pr_law_hues_by (K : PySem.W.Frag) (v0 v1 v2 : V) (H : Hp) (Q : VK) (_ : XK) : Prop := ∃ (a : Addr) (N : Net) (ws : List (Int × Int)) (w : List Nat) (ls : List (List Nat)), v2 = .ref a ∧ Dp K H v0 N.d ∧ N.ok ∧ Dp K H v1 (dPairs ws) ∧ ws.length ≤ 100 ∧ (∀ w ∈ ws, isWay N w.1 w.2) ∧ SqL K H a (strsV (w :: ls)) ∧ ls.length ≤ 9000 ∧ (∀ l ∈ ls, l.length ≤ 40000) ∧
  (huesW N ws w ls = none → ∀ H', Same H H' → Q .non H') ∧ ∀ hs, huesW N ws w ls = some hs → ∀ p H', H p = none → Same H H' → H' p = some (.lst (List.map V.int hs)) → Q (.ref p) H'
def t_law_hues_by (K : PySem.W.Frag) : TS :=
  (tSeq (tAsg (tLc (iList K (tSl (rSlL K) (tVar 2) (tPart (tC (.int 1))) tNoPart)) (gName 7) tYes (tCall (sp_law_by_figures K) [] E0 (tCons (tVar 7) tNil)) [7]) (gName 3))
    (tSeq (tIfS (tOr (tTest (tOp rNe (tOp (rIxL K) (tVar 2) (tC (.int 0))) (tC (.str (Str.ofString "hues"))))) (tOr (tTest (tOp rNe (tCB (rLenX K) (tCons (tVar 3) tNil)) (tCB (rLenX K) (tCons (tVar 1) tNil)))) (tTest (tOp (rIn K false) (tC .non) (tVar 3))))) (tRet (tC .non)) tNext)
    (tSeq (tAsg (tLc (iList K (tVar 1)) (gName 8) tYes (tCall (sp_law_ties K) [] E0 (tCons (tVar 0) (tCons (tVar 8) tNil))) [8]) (gName 4))
    (tSeq (tFor (iRng1 (tCons (tCB (rLenX K) (tCons (tVar 1) tNil)) tNil)) (gName 5)
      (tFor (iRng1 (tCons (tVar 5) tNil)) (gName 6)
      (tIfS (tAnd (tTest (tOp rEq (tOp (rIxL K) (tVar 3) (tVar 5)) (tOp (rIxL K) (tVar 3) (tVar 6)))) (tB (tCall (sp_law_common K) [] E0 (tCons (tOp (rIxL K) (tVar 4) (tVar 5)) (tCons (tOp (rIxL K) (tVar 4) (tVar 6)) tNil))))) (tRet (tC .non)) tNext)))
    (tRet (tVar 3))))))
theorem pure_law_hues_by {v0 v1 v2 : V} {H : Hp} {Q : VK} {E : XK} (h : pr_law_hues_by K v0 v1 v2 H Q E) : t_law_hues_by K ⟨fun _ H' => Q .non H', Q, fun _ _ => False, fun _ _ => False⟩ [some v0, some v1, some v2, none, none, none, none, none, none] H := by
  obtain ⟨a, N, ws, w, ls, rfl, hd, ok, hw, hz, hok, ha, hz2, hl2, q0, q1⟩ := h
  obtain ⟨b, xs, rfl, hb, hxs⟩ := dp_list hw
  have hl := dpa_len hxs
  rw [List.length_map] at hl
  unfold huesW at q0 q1
  unfold t_law_hues_by
  wtm_at "s"
  refine k_slL ha (fun w1 H1 nw1 s1 e1 => ?_)
  rw [strs_drop] at e1
  wtm_at "s"
  refine lc_grow (sl e1) ls (by simp [strsV]) (by omega) (fun l => some (optV (numOf l))) ?_ (fun c H2 nc s2 eD => ?_)
  · intro i z l H' hz' hp sm R R0 g1 g2
    unfold strsV at hz'
    rw [List.getElem?_map, hp] at hz'
    cases hz'
    wtm_at "s"
    exact ⟨_, rfl, l, rfl, hl2 l (List.mem_of_getElem? hp), fun H'' s => g1 _ _ rfl s⟩
  rw [fm_map] at eD
  have s12 := s1.trans s2
  have nc0 : H c = none := s1.free nc
  wtm_at "s"
  refine k_ixL (s12.seq ha) (strs_at0 _ _) ?_
  wtm_at "s"
  refine k_neS ?_
  by_cases c1 : w = sg (Str.ofString "hues")
  · rw [decide_eq_true (mk_eq.mpr c1)]
    simp only [if_pos c1] at q0 q1
    wtm_at "s"
    by_cases c2 : ls.length = ws.length
    · rw [decide_eq_true (by rw [List.length_map]; omega)]
      wtm_at "s"
      refine ⟨c, _, rfl, .inl (sl eD), rfl, flat_opt ls, ?_⟩
      rw [if_neg Bool.false_ne_true, in_opt]
      cases hn : numsOf ls with
      | none =>
        rw [hn] at q0
        wtm_at "s"
        exact q0 rfl H2 s12
      | some hs =>
      rw [hn] at q0 q1
      obtain ⟨ln, nn⟩ := nums_nonneg hn
      rw [numsOf_some hn] at eD
      rw [decide_eq_false (fun z => by cases z)]
      replace q0 : ¬ RightH N ws hs → ∀ H', Same H H' → Q .non H' := fun z => q0 (if_neg z)
      replace q1 : RightH N ws hs → ∀ p H', H p = none → Same H H' → H' p = some (.lst (List.map V.int hs)) → Q (.ref p) H' := fun z => q1 hs (if_pos z)
      have eq' : hs.length = ws.length := by omega
      replace hd := dp_same s12 hd
      replace hb := s12.seq hb
      replace hxs := dpa_same s12 hxs
      replace q0 : ¬ RightH N ws hs → ∀ H', Same H2 H' → Q .non H' := fun z H' s => q0 z H' (s12.trans s)
      replace q1 : RightH N ws hs → ∀ H', Same H2 H' → Q (.ref c) H' := fun z H' s => q1 z c H' nc0 (s12.trans s) (s _ _ eD)
      have hc : SqL K H2 c (hs.map V.int) := sl eD
      clear s1 s2 s12 e1 nw1 ha nc nc0 eD hw hn hl2 hz2
      wtm_at "s"
      refine lc_lainG (N := N) [] (fun _ z => by cases z) hb hxs (by omega) (fun c w H' R hw' sm hc' hR => ?_) (fun _ => rfl) (fun D lain H1 nD s1 dD la => ?_)
      · wtm_at "s"
        exact ⟨_, _, rfl, N, w.1, w.2, dp_same sm hd, ok, dp_of_pair hc', hok w hw', fun p ns H'' np s' hp srt mem => hR p ns H'' np s' hp srt mem⟩
      have lsm := la.small ok hok
      obtain ⟨D', ys, eD, hD, hys⟩ := dp_list (dp_same (hid_same _ _) dD)
      cases eD
      wtm_at "s"
      refine forR (fun i σ' H' => Same H1 H' ∧ (∃ k4 k5, σ' = [some v0, some (.ref b), some (.ref a), some (.ref c), some (.ref D), k4, k5, none, none]) ∧ ∀ j' j, j < i → ¬ BadM (meetW N ws) ws.length hs j' j) ⟨Same.refl _, ⟨none, none, rfl⟩, fun j' j z => by omega⟩ ?_ ?_
      · rintro i σ' H2 hi ⟨s2, ⟨k4, k5, rfl⟩, no⟩
        rw [Int.zero_add]
        have hi' : i < lain.length := by rw [la.1]; omega
        obtain ⟨x, hx⟩ : ∃ x, hs[i]? = some x := ⟨hs[i]'(by omega), List.getElem?_eq_getElem (by omega)⟩
        obtain ⟨ci, li, hxi, hli, hci⟩ := dlists_get hys hi'
        have pos : ¬ x < 0 := by have := (nn x (List.mem_of_getElem? hx)).1; omega
        wtm_at "s"
        refine forR (fun t σ' H' => Same H1 H' ∧ (∃ k5, σ' = [some v0, some (.ref b), some (.ref a), some (.ref c), some (.ref D), some (.int (i : Nat)), k5, none, none]) ∧ ∀ j', j' < t → ¬ BadM (meetW N ws) ws.length hs j' i) ⟨s2, ⟨k5, rfl⟩, fun j' z => by omega⟩ ?_ ?_
        · rintro t σ' H3 ht ⟨s3, ⟨k5, rfl⟩, no2⟩
          rw [Int.zero_add]
          have hj' : t < lain.length := by omega
          obtain ⟨y, hy⟩ : ∃ y, hs[t]? = some y := ⟨hs[t]'(by omega), List.getElem?_eq_getElem (by omega)⟩
          obtain ⟨cj, lj, hxj, hlj, hcj⟩ := dlists_get hys hj'
          have bad : BadM (meetW N ws) ws.length hs t i ↔ x = y ∧ commonB li lj = true := by
            unfold BadM
            rw [if_neg (by omega), getD_of hx, getD_of hy, ← la.meet hj' hi', common_iff]
            unfold meetL
            rw [getD_of hli, getD_of hlj]
            constructor
            · rintro ⟨_, _, e, t, h1, h2⟩; exact ⟨e.symm, t, h2, h1⟩
            · rintro ⟨e, t, h1, h2⟩; exact ⟨by omega, by omega, e.symm, t, h2, h1⟩
          have step : ¬ BadM (meetW N ws) ws.length hs t i → ∀ j', j' < t + 1 → ¬ BadM (meetW N ws) ws.length hs j' i := fun nb j' z => by
            by_cases e : j' = t
            · rw [e]; exact nb
            · exact no2 j' (by omega)
          have s13 := s1.trans s3
          wtm_at "s"
          refine k_ixN (s13.seq hc) hx ?_
          wtm_at "s"
          refine k_ixN (s13.seq hc) hy ?_
          wtm_at "s"
          refine k_it (fun e1 => ?_) (fun e1 => ?_)
          · wtm_at "s"
            refine k_ixL (s3.seq hD) (atI_nat hxi) ?_
            wtm_at "s"
            refine k_ixL (s3.seq hD) (atI_nat hxj) ?_
            wtm_at "s"
            refine ⟨_, _, rfl, ci, cj, li, lj, rfl, rfl, s3.seq hci, s3.seq hcj, by have := lsm li (List.mem_of_getElem? hli); omega, fun H4 s4 => ?_⟩
            wtm_at "s"
            refine k_itb (fun w => ?_) (fun w => ?_)
            · wtm_at "s"
              exact q0 (fun r => r.2.1 t i (bad.mpr ⟨e1, w⟩)) H4 (s13.trans s4)
            · wtm_at "s"
              exact ⟨s3.trans s4, ⟨_, rfl⟩, step fun z => by have := (bad.mp z).2; rw [w] at this; cases this⟩
          · wtm_at "s"
            exact ⟨s3, ⟨_, rfl⟩, step fun z => e1 (bad.mp z).1⟩
        · rintro σ' H3 ⟨s3, ⟨k5, rfl⟩, no2⟩
          refine ⟨s3, ⟨_, _, rfl⟩, fun j' j z => ?_⟩
          by_cases e : j = i
          · subst e
            by_cases e2 : j' = j
            · subst e2
              intro w
              have := w.2.2
              rw [if_pos rfl, getD_of hx] at this
              exact pos this
            · by_cases e3 : j' < j
              · exact no2 j' (by omega)
              · exact fun w => by have := w.1; omega
          · exact no j' j (by omega)
      · rintro σ' H2 ⟨s2, ⟨k4, k5, rfl⟩, no⟩
        wtm_at "s"
        exact q1 ⟨eq', fun i j z => no i j (by have := z.2.1; omega) z, nn⟩ _ (s1.trans s2)
    · rw [decide_eq_false (by rw [List.length_map]; omega)]
      wtm_at "s"
      refine q0 ?_ H2 s12
      cases hn : numsOf ls with
      | none => rfl
      | some hs => exact if_neg fun z => c2 (by have := z.1; have := (nums_nonneg hn).1; omega)
  · rw [decide_eq_false fun z => c1 (mk_eq.mp z)]
    wtm_at "s"
    exact q0 (if_neg c1) H2 s12
abbrev sp_law_hues_by (K : PySem.W.Frag) : Sp := fun vs H Q E => ∃ v0 v1 v2, vs = [v0, v1, v2] ∧ pr_law_hues_by K v0 v1 v2 H Q E
theorem ok_law_hues_by (T : Txt K mg A) : FnOk P w K mg base CX0 3 A.a_law_hues_by A.d_law_hues_by ["_law_net_here", "_law_ways", "_law_words"] (sp_law_hues_by K) := by
  refine T.F_law_hues_by.ok sc_law_hues_by (fun vs H Q E h => by obtain ⟨v0, v1, v2, rfl, _⟩ := h; rfl) (fun cdv A0 outer s H vs Q E hr h => ?_)
  obtain ⟨v0, v1, v2, rfl, h⟩ := h
  exact ⟨t_law_hues_by K, (pss_cons (ps_setLc (i := 3) (own := [("_law_word", 7)]) (by rfl) sc_law_hues_by.nd rfl rfl (sw_true rfl rfl rfl (by decide +kernel)) (pi_list (pe_slice sl_list (pv 2) (po_some pe_int) po_none)) (blkOk_by (own := [("_law_word", 7)]) (N := ["_law_net_here", "_law_ways", "_law_words", "_law_numbers", "_law_lain", "_law_one", "_law_other", "_law_word", "_law_way_here"]) (sc := defScope s_law_hues_by) (by decide +kernel)) (fun _ _ _ _ _ => (pg_name (i := 7) sc_law_hues_by.nd rfl (Or.inl rfl))) (fun _ _ _ _ _ => pts_nil) (fun _ _ _ _ _ => (pe_call (ok_law_by_figures T) (hr.mono (by decide)) (by rfl) T.g_law_by_figures T.F_law_by_figures.kp T.b_law_by_figures .nil pass0 (pa_cons (pv 7) pa_nil))))
      (pss_cons (ps_if (PW.pt (pw_or (pt_cmpR op_ne (pe_ix ix_list (pv 2) pe_int (fun _ _ => rfl)) pe_str (nomark _)) (pw_or (pt_cmpR op_ne (pe_callB q_len (by rfl) T.z_len (by decide +kernel) (pa_cons (pv 3) pa_nil)) (pe_callB q_len (by rfl) T.z_len (by decide +kernel) (pa_cons (pv 1) pa_nil)) (nomark _)) (pw_or1 (pt_cmpR op_in_seq pe_non (pv 3) (by rfl)))))) (pss_one (ps_ret pe_non)) pss_nil)
      (pss_cons (ps_setLc (i := 4) (own := [("_law_way_here", 8)]) (by rfl) sc_law_hues_by.nd rfl rfl (sw_true rfl rfl rfl (by decide +kernel)) (pi_list (pv 1)) (blkOk_by (own := [("_law_way_here", 8)]) (N := ["_law_net_here", "_law_ways", "_law_words", "_law_numbers", "_law_lain", "_law_one", "_law_other", "_law_word", "_law_way_here"]) (sc := defScope s_law_hues_by) (by decide +kernel)) (fun _ _ _ _ _ => (pg_name (i := 8) sc_law_hues_by.nd rfl (Or.inl rfl))) (fun _ _ _ _ _ => pts_nil) (fun _ _ _ _ _ => (pe_call (ok_law_ties T) (hr.mono (by decide)) (by rfl) T.g_law_ties T.F_law_ties.kp T.b_law_ties .nil pass0 (pa_cons (pv 0) (pa_cons (pv 8) pa_nil)))))
      (pss_cons (ps_for PassesOwn.never rfl (pi_range1 (by rfl) T.z_range (pa_cons (pe_callB q_len (by rfl) T.z_len (by decide +kernel) (pa_cons (pv 1) pa_nil)) pa_nil)) (pg_name (i := 5) sc_law_hues_by.nd rfl (Or.inl rfl))
      (pss_one (ps_for PassesOwn.never rfl (pi_range1 (by rfl) T.z_range (pa_cons (pv 5) pa_nil)) (pg_name (i := 6) sc_law_hues_by.nd rfl (Or.inl rfl))
      (pss_one (ps_if (PW.pt (pw_and (pt_cmpR op_eq (pe_ix ix_list (pv 3) (pv 5) (fun _ _ => rfl)) (pe_ix ix_list (pv 3) (pv 6) (fun _ _ => rfl)) (nomark _)) (pw_and1 (pt_val (pe_call (ok_law_common T) (hr.mono (by decide)) (by rfl) T.g_law_common T.F_law_common.kp T.b_law_common .nil pass0 (pa_cons (pe_ix ix_list (pv 4) (pv 5) (fun _ _ => rfl)) (pa_cons (pe_ix ix_list (pv 4) (pv 6) (fun _ _ => rfl)) pa_nil))))))) (pss_one (ps_ret pe_non)) pss_nil)))))
      (pss_one (ps_ret (pv 3))))))), pure_law_hues_by h⟩


theorem NetNew.upd {H H' : Hp} {v : V} {N : Net} {wl : Addr} {xs ys zs : List V} (h : NetNew H H' v N) (e0 : H wl = some (.lst xs)) (e : H' wl = some (.lst ys)) : NetNew H (upd H' wl (.lst zs)) v N := by
  cases N with
  | line n => obtain ⟨p, rfl, e1⟩ := h; exact ⟨p, rfl, by rw [upd_ne (fun z => by rw [z, e] at e1; cases e1)]; exact e1⟩
  | ring n => obtain ⟨p, rfl, e1⟩ := h; exact ⟨p, rfl, by rw [upd_ne (fun z => by rw [z, e] at e1; cases e1)]; exact e1⟩
  | tree ps => obtain ⟨p, s, rfl, e1, n, e2⟩ := h; exact ⟨p, s, rfl, by rw [upd_ne (fun z => by rw [z, e] at e1; cases e1)]; exact e1, n, by rw [upd_ne (fun z => by rw [z, e0] at n; cases n)]; exact e2⟩
def pr_law_read (K : PySem.W.Frag) (v0 : V) (H : Hp) (Q : VK) (_ : XK) : Prop := ∃ l : List Nat, v0 = .str (mkS l) ∧ l.length ≤ 8000 ∧ (∀ k, readS l = .bad k → ∀ t H', Same H H' → H' t = some (.tup [.int (k : Nat), .non]) → Q (.ref t) H') ∧
  ∀ N ws ho, readS l = .good N ws ho → ∀ t d H', Same H H' → H' t = some (.tup [.int (-1), d]) → Dp K H' d (.tuple [N.d, dPairs ws, dHues ho]) → Q (.ref t) H'
def t_law_read (K : PySem.W.Frag) : TS :=
  (tSeq (tAsg (tM1 rSplit (tVar 0) (tC (.str (Str.ofString "\n")))) (gName 1))
    (tSeq (tAsg (tC .non) (gName 2))
    (tSeq (tAsg (tLst tNil) (gName 3))
    (tSeq (tAsg (tC .non) (gName 4))
    (tSeq (tFor (iRng1 (tCons (tOp xSub (tCB (rLenX K) (tCons (tVar 1) tNil)) (tC (.int 1))) tNil)) (gName 5)
      (tSeq (tAsg (tM1 rSplit (tOp (rIxL K) (tVar 1) (tVar 5)) (tC (.str (Str.ofString " ")))) (gName 6))
    (tIfS (tTest (tOp rEq (tVar 5) (tC (.int 0)))) (tSeq (tAsg (tCall (sp_law_net_by K) [] E0 (tCons (tVar 6) tNil)) (gName 2))
    (tIfS (tTest (tOp xIsN (tVar 2) (tC .non))) (tRet (tTup (tCons (tC (.int 0)) (tCons (tC .non) tNil)))) tNext)) (tIfS (tTest (tOp xNotN (tVar 4) (tC .non))) (tRet (tTup (tCons (tVar 5) (tCons (tC .non) tNil)))) (tIfS (tTest (tOp rEq (tOp (rIxL K) (tVar 6) (tC (.int 0))) (tC (.str (Str.ofString "way"))))) (tSeq (tDrop (tBM K "list" rAppend (tVar 3) (tCons (tCall (sp_law_way_by K) [] E0 (tCons (tVar 2) (tCons (tVar 6) tNil))) tNil)))
    (tIfS (tOr (tTest (tOp xIsN (tOp (rIxL K) (tVar 3) (tUn xNeg (tC (.int 1)))) (tC .non))) (tTest (tOp xGt (tCB (rLenX K) (tCons (tVar 3) tNil)) (tC (.int 40))))) (tRet (tTup (tCons (tVar 5) (tCons (tC .non) tNil)))) tNext)) (tSeq (tAsg (tCall (sp_law_hues_by K) [] E0 (tCons (tVar 2) (tCons (tVar 3) (tCons (tVar 6) tNil)))) (gName 4))
    (tIfS (tTest (tOp xIsN (tVar 4) (tC .non))) (tRet (tTup (tCons (tVar 5) (tCons (tC .non) tNil)))) tNext)))))))
    (tSeq (tIfS (tOr (tTest (tOp rNe (tOp (rIxL K) (tVar 1) (tUn xNeg (tC (.int 1)))) (tC (.str (Str.ofString ""))))) (tTest (tOp rEq (tCB (rLenX K) (tCons (tVar 1) tNil)) (tC (.int 1))))) (tRet (tTup (tCons (tOp xSub (tCB (rLenX K) (tCons (tVar 1) tNil)) (tC (.int 1))) (tCons (tC .non) tNil)))) tNext)
    (tRet (tTup (tCons (tUn xNeg (tC (.int 1))) (tCons (tTup (tCons (tVar 2) (tCons (tVar 3) (tCons (tVar 4) tNil)))) tNil))))))))))
theorem pure_law_read {v0 : V} {H : Hp} {Q : VK} {E : XK} (h : pr_law_read K v0 H Q E) : t_law_read K ⟨fun _ H' => Q .non H', Q, fun _ _ => False, fun _ _ => False⟩ [some v0, none, none, none, none, none, none] H := by
  obtain ⟨l, rfl, hl, qe, qq⟩ := h
  unfold readS at qe qq
  have rl := splitL_len 10 l
  have rne := splitL_ne 10 l
  unfold t_law_read
  wtm_at "s"
  refine k_splitL (s := 10) sg_nl (by decide) (by omega) (fun rp H1 nrp s1 e1 => ?_)
  generalize splitL 10 l = rows at rl rne e1 qe qq
  have rowAt : ∀ {i r}, rows[i]? = some r → (rows.map fun q => V.str (mkS q))[i]? = some (V.str (mkS r)) := fun {i r} hr => by rw [List.getElem?_map, hr]; rfl
  have lr : (rows.map fun q => V.str (mkS q)).length = rows.length := List.length_map _
  have r0 : 0 < rows.length := List.length_pos_iff.mpr rne
  obtain ⟨r, er⟩ : ∃ r, rows[0]? = some r := ⟨rows[0], List.getElem?_eq_getElem r0⟩
  have hd : rows.headD [] = r := by cases rows with | nil => cases er | cons a b => cases er; rfl
  obtain ⟨w, ls, ew⟩ := words_ne r
  wtm_at "s"
  refine kL (by simp) (fun wl H2 nwl s2 e2 => ?_)
  wtm_at "s"
  rw [lr]
  refine forR (fun i σ' H' => Same H1 H' ∧ ∃ (nv hv : V) (ys : List V) (k5 k6 : Option V), σ' = [some (.str (mkS l)), some (.ref rp), some nv, some (.ref wl), some hv, k5, k6] ∧ H' wl = some (.lst ys) ∧ ((i = 0 ∧ nv = .non ∧ hv = .non ∧ ys = []) ∨ ∃ (N : Net) (ws : List (Int × Int)) (ho : Option (List Int)) (np : Addr) (Hb : Hp) (zs : List V), nv = .ref np ∧ 1 ≤ i ∧ netW w ls = some N ∧ Hb wl = some (.lst zs) ∧ NetNew Hb H' (.ref np) N ∧ DpAll K (hid [wl] H') ys (ws.map dPair) ∧ HueIs H' hv ho ∧ runR N ((midR rows).take (i - 1)) 1 ([], none) = Sum.inr (ws, ho))) ⟨s2, .non, .non, [], _, _, rfl, e2, .inl ⟨rfl, rfl, rfl, rfl⟩⟩ ?_ ?_
  · clear s2 e2
    rintro i σ' H3 hi ⟨s3, nv, hv, ys, k5, k6, rfl, e3, inv⟩
    have hi1 : i + 1 < rows.length := by omega
    have c1 : rows.length ≠ 1 := by omega
    obtain ⟨r', er'⟩ : ∃ r, rows[i]? = some r := ⟨rows[i]'(by omega), List.getElem?_eq_getElem (by omega)⟩
    have r8 := rl.2 r' (List.mem_of_getElem? er')
    obtain ⟨w', ls', ew'⟩ := words_ne r'
    have wl' := words_len r'
    rw [ew'] at wl'
    have lls' : ls'.length ≤ 8000 := by have := wl'.1; simp at this; omega
    have lens' : ∀ x ∈ ls', x.length ≤ 40000 := fun x hx => by have := wl'.2 x (List.mem_cons_of_mem _ hx); omega
    wtm_at "s"
    rw [Int.zero_add]
    refine k_ixL (sl (s3 _ _ e1)) (atI_nat (rowAt er')) ?_
    wtm_at "s"
    refine k_splitL (s := 32) sg_sp (by decide) (by omega) (fun w0 H4 nw0 s4 e4 => ?_)
    rw [show splitL 32 r' = w' :: ls' from ew'] at e4
    have s34 := s3.trans s4
    wtm_at "s"
    rcases inv with ⟨rfl, rfl, rfl, rfl⟩ | ⟨N, ws, ho, np, Hb, zs, rfl, hi2, hn, eb, nn, dys, hh, hrun⟩
    · rw [er] at er'
      cases er'
      rw [ew] at ew'
      cases ew'
      wtm_at "s"
      refine ⟨_, rfl, w0, w, ls, rfl, sl e4, by omega, lens', fun hn H5 s5 => ?_, fun N hn np H5 s5 nn => ?_⟩
      · wtm_at "s"
        exact kT (by simp) (fun t H6 nt s6 e6 => qe 0 (rr_none c1 hd ew hn) t H6 (s1.trans (s34.trans (s5.trans s6))) e6)
      · wtm_at "s"
        exact ⟨s34.trans s5, .ref np, .non, [], _, _, rfl, (s4.trans s5) _ _ e3, .inr ⟨N, [], none, np, H4, [], rfl, by omega, hn, s4 _ _ e3, nn, .nil, rfl, rfl⟩⟩
    have er2 : rows[1 + (i - 1)]? = some r' := by rw [show 1 + (i - 1) = i by omega]; exact er'
    have mid : (midR rows)[i - 1]? = some r' := by rw [mid_at (by omega)]; exact er2
    have stok := run_ok (st0_ok N) hrun
    have ly : ys.length = ws.length := by rw [dpa_len dys, List.length_map]
    have l40 : ws.length ≤ 40 := stok.len
    have okN := netW_ok hn
    rw [rr_some c1 hd ew hn] at qe qq
    have bad : stepR N (ws, ho) r' = none → ∀ t H', Same H1 H' → H' t = some (.tup [.int (i : Nat), .non]) → Q (.ref t) H' := fun hst t H' s e => by
      have := run_stop mid hrun hst
      refine qe (1 + (i - 1)) (by rw [this]; rfl) t H' (s1.trans s) ?_
      rw [e, show 1 + (i - 1) = i by omega]
    have more : ∀ {st2}, stepR N (ws, ho) r' = some st2 → runR N ((midR rows).take (i + 1 - 1)) 1 ([], none) = Sum.inr st2 := fun {st2} hst => by
      have := run_more mid hrun hst
      rwa [show i - 1 + 1 = i + 1 - 1 by omega] at this
    have i0 : i ≠ 0 := by omega
    have e3' := s4 _ _ e3
    have dN4 := NetNew.dp (K := K) (nn.same s4)
    cases ho with
    | some hs =>
      obtain ⟨hp, rfl, ehp⟩ := hh
      wtm_at "s"
      exact kT (by simp) (fun t H6 nt s6 e6 => bad rfl t H6 (s34.trans s6) e6)
    | none =>
      have e : hv = .non := hh
      subst e
      have ste := step_eq (N := N) (ws := ws) ew'
      wtm_at "s"
      refine k_ixL (sl e4) (strs_at0 _ _) ?_
      wtm_at "s"
      refine k_eqS ?_
      by_cases c : w' = sg (Str.ofString "way")
      · rw [decide_eq_true (mk_eq.mpr c)]
        have nh : huesW N ws w' ls' = none := if_neg (by rw [c, sg_str, sg_str]; decide)
        rw [nh] at ste
        wtm_at "s"
        refine k_tyL (sl e3') ?_
        wtm_at "s"
        refine ⟨_, _, rfl, w0, N, w', ls', rfl, dN4, sl e4, by omega, lens', fun hw H5 s5 => ?_, fun x y hw p H5 np5 s5 e5 => ?_⟩
        · rw [hw] at ste
          wtm_at "s"
          refine k_append (s5 _ _ e3') (by omega) ?_
          wtm_at "s"
          refine k_ixL (sl upd_same) (atI_last _ _) ?_
          wtm_at "s"
          exact kT (by simp) (fun t H6 nt s6 e6 => bad ste t H6 ((same_mut (s34.trans s5) nwl).trans s6) e6)
        · rw [hw] at ste
          replace ste : stepR N (ws, none) r' = if ws.length < 40 then some (ws ++ [(x, y)], none) else none := ste
          have e35 := s5 _ _ e3'
          have pw : p ≠ wl := fun z => by rw [z, e3'] at np5; cases np5
          wtm_at "s"
          refine k_append e35 (by omega) ?_
          wtm_at "s"
          refine k_ixL (sl upd_same) (atI_last _ _) ?_
          wtm_at "s"
          refine k_it (fun c4 => ?_) (fun c4 => ?_)
          · wtm_at "s"
            rw [if_neg (by simp at c4; omega)] at ste
            exact kT (by simp) (fun t H6 nt s6 e6 => bad ste t H6 ((same_mut (s34.trans s5) nwl).trans s6) e6)
          · wtm_at "s"
            rw [if_pos (by simp at c4; omega)] at ste
            refine ⟨same_mut (s34.trans s5) nwl, .ref np, .non, ys ++ [.ref p], _, _, rfl, upd_same, .inr ⟨N, ws ++ [(x, y)], none, np, Hb, zs, rfl, by omega, hn, eb, (nn.same (s4.trans s5)).upd eb e35, ?_, rfl, more ste⟩⟩
            rw [hid_upd (by simp), List.map_append]
            exact dpa_app (dpa_same (hid_mono (s4.trans s5)) dys) (.cons (dp_of_pair (x := x) (y := y) (stp (by rw [hid_ne (by simpa using pw)]; exact e5))) .nil)
      · rw [decide_eq_false fun z => c (mk_eq.mp z)]
        have nw : wayOf N w' ls' = none := if_neg c
        rw [nw] at ste
        wtm_at "s"
        refine ⟨_, _, _, rfl, w0, N, ws, w', ls', rfl, dN4, okN, .lst (sl e3') (dpa_same ((hid_same _ _).trans s4) dys), by omega, stok.way, sl e4, by omega, lens', fun hw H5 s5 => ?_, fun hs hw hp H5 nhp s5 e5 => ?_⟩
        · rw [hw] at ste
          wtm_at "s"
          exact kT (by simp) (fun t H6 nt s6 e6 => bad ste t H6 (s34.trans (s5.trans s6)) e6)
        · rw [hw] at ste
          wtm_at "s"
          exact ⟨s34.trans s5, .ref np, .ref hp, ys, _, _, rfl, s5 _ _ e3', .inr ⟨N, ws, some hs, np, Hb, zs, rfl, by omega, hn, eb, nn.same (s4.trans s5), dpa_same (hid_mono (s4.trans s5)) dys, ⟨hp, rfl, e5⟩, more ste⟩⟩
  · clear s2 e2
    rintro σ' H3 ⟨s3, nv, hv, ys, k5, k6, rfl, e3, inv⟩
    obtain ⟨z, ez⟩ : ∃ z, rows[rows.length - 1]? = some z := ⟨rows[rows.length - 1]'(by omega), List.getElem?_eq_getElem (by omega)⟩
    have gz : rows.getLastD [] = z := by
      rw [List.getLastD_eq_getLast?, List.getLast?_eq_getElem?, ez]; rfl
    have hat : atI (rows.map fun q => V.str (mkS q)) (-1) = some (V.str (mkS z)) := by
      unfold atI
      rw [lr, ixN_last r0]
      exact rowAt ez
    wtm_at "s"
    refine k_ixL (sl (s3 _ _ e1)) hat ?_
    wtm_at "s"
    refine k_neS ?_
    rcases inv with ⟨i0, rfl, rfl, rfl⟩ | ⟨N, ws, ho, np, Hb, zs, rfl, hi2, hn, eb, nn, dys, hh, hrun⟩
    · have c1 : rows.length = 1 := by omega
      have fin : ∀ t H6, Same H3 H6 → H6 t = some (.tup [.int ((rows.length : Int) - 1), .non]) → Q (.ref t) H6 := fun t H6 s6 e6 => qe 0 (rr_one c1) t H6 (s1.trans (s3.trans s6)) (by rw [e6, c1]; rfl)
      by_cases c5 : z = []
      · rw [decide_eq_true (mk_eq.mpr (by rw [c5, sg_emp]))]
        wtm_at "s"
        exact kT (by simp) (fun t H6 nt s6 e6 => fin t H6 s6 (by rw [e6, lr]))
      · rw [decide_eq_false fun y => c5 (by have := mk_eq.mp y; rwa [sg_emp] at this)]
        wtm_at "s"
        exact kT (by simp) (fun t H6 nt s6 e6 => fin t H6 s6 (by rw [e6, lr]))
    · have c1 : rows.length ≠ 1 := by omega
      rw [rr_some c1 hd ew hn] at qe qq
      rw [show ((rows.length : Int) - 1).toNat - 1 = (midR rows).length by rw [mid_len]; omega, List.take_length] at hrun
      rw [hrun] at qe qq
      unfold finR at qe qq
      rw [gz] at qe qq
      by_cases c5 : z = []
      · rw [decide_eq_true (mk_eq.mpr (by rw [c5, sg_emp]))]
        wtm_at "s"
        refine kT (by simp) (fun d H6 nd s6 e6 => ?_)
        wtm_at "s"
        refine kT (by simp) (fun t H7 nt s7 e7 => ?_)
        refine qq N ws ho (if_pos c5) t (.ref d) H7 (s1.trans (s3.trans (s6.trans s7))) e7 (.tup (stp (s7 _ _ e6)) (.cons (NetNew.dp (K := K) (nn.same (s6.trans s7))) (.cons (.lst (sl ((s6.trans s7) _ _ e3)) (dpa_same ((hid_same _ _).trans (s6.trans s7)) dys)) (.cons (hh.dp (K := K) (s6.trans s7)) .nil))))
      · rw [decide_eq_false fun y => c5 (by have := mk_eq.mp y; rwa [sg_emp] at this)]
        wtm_at "s"
        exact kT (by simp) (fun t H6 nt s6 e6 => qe (rows.length - 1) (if_neg c5) t H6 (s1.trans (s3.trans s6)) (by rw [e6, lr, show ((rows.length - 1 : Nat) : Int) = (rows.length : Int) - 1 by omega]))
abbrev sp_law_read (K : PySem.W.Frag) : Sp := fun vs H Q E => ∃ v0, vs = [v0] ∧ pr_law_read K v0 H Q E
theorem ok_law_read (T : Txt K mg A) : FnOk P w K mg base CX0 4 A.a_law_read A.d_law_read ["_law_text_here"] (sp_law_read K) := by
  refine T.F_law_read.ok sc_law_read (fun vs H Q E h => by obtain ⟨v0, rfl, _⟩ := h; rfl) (fun cdv A0 outer s H vs Q E hr h => ?_)
  obtain ⟨v0, rfl, h⟩ := h
  exact ⟨t_law_read K, (pss_cons (ps_set (i := 1) sc_law_read.nd rfl (Or.inl rfl) (pe_split (pv 0) pe_str))
      (pss_cons (ps_set (i := 2) sc_law_read.nd rfl (Or.inl rfl) pe_non)
      (pss_cons (ps_set (i := 3) sc_law_read.nd rfl (Or.inl rfl) (pe_lst pa_nil))
      (pss_cons (ps_set (i := 4) sc_law_read.nd rfl (Or.inl rfl) pe_non)
      (pss_cons (ps_for PassesOwn.never rfl (pi_range1 (by rfl) T.z_range (pa_cons (pe_op op_sub (pe_callB q_len (by rfl) T.z_len (by decide +kernel) (pa_cons (pv 1) pa_nil)) pe_int) pa_nil)) (pg_name (i := 5) sc_law_read.nd rfl (Or.inl rfl))
      (pss_cons (ps_set (i := 6) sc_law_read.nd rfl (Or.inl rfl) (pe_split (pe_ix ix_list (pv 1) (pv 5) (fun _ _ => rfl)) pe_str))
      (pss_one (ps_if (pt_cmpR op_eq (pv 5) pe_int (nomark _)) (pss_cons (ps_set (i := 2) sc_law_read.nd rfl (Or.inl rfl) (pe_call (ok_law_net_by T) (hr.mono (by decide)) (by rfl) T.g_law_net_by T.F_law_net_by.kp T.b_law_net_by .nil pass0 (pa_cons (pv 6) pa_nil)))
      (pss_one (ps_if (pt_cmpR op_isN (pv 2) pe_non (nomark _)) (pss_one (ps_ret (pe_tup (pa_cons pe_int (pa_cons pe_non pa_nil))))) pss_nil))) (pss_one (ps_if (pt_cmpR op_notN (pv 4) pe_non (nomark _)) (pss_one (ps_ret (pe_tup (pa_cons (pv 5) (pa_cons pe_non pa_nil))))) (pss_one (ps_if (pt_cmpR op_eq (pe_ix ix_list (pv 6) pe_int (fun _ _ => rfl)) pe_str (nomark _)) (pss_cons (ps_expr (pe_bm PySem.F.plainAttrs_list PySem.F.slot_list_append PySem.F.type_list_append mt_append (pv 3) (pa_cons (pe_call (ok_law_way_by T) (hr.mono (by decide)) (by rfl) T.g_law_way_by T.F_law_way_by.kp T.b_law_way_by .nil pass0 (pa_cons (pv 2) (pa_cons (pv 6) pa_nil))) pa_nil)))
      (pss_one (ps_if (PW.pt (pw_or (pt_cmpR op_isN (pe_ix ix_list (pv 3) (pe_un un_neg pe_int) (fun _ _ => rfl)) pe_non (nomark _)) (pw_or1 (pt_cmpR op_gt (pe_callB q_len (by rfl) T.z_len (by decide +kernel) (pa_cons (pv 3) pa_nil)) pe_int (nomark _))))) (pss_one (ps_ret (pe_tup (pa_cons (pv 5) (pa_cons pe_non pa_nil))))) pss_nil))) (pss_cons (ps_set (i := 4) sc_law_read.nd rfl (Or.inl rfl) (pe_call (ok_law_hues_by T) (hr.mono (by decide)) (by rfl) T.g_law_hues_by T.F_law_hues_by.kp T.b_law_hues_by .nil pass0 (pa_cons (pv 2) (pa_cons (pv 3) (pa_cons (pv 6) pa_nil)))))
      (pss_one (ps_if (pt_cmpR op_isN (pv 4) pe_non (nomark _)) (pss_one (ps_ret (pe_tup (pa_cons (pv 5) (pa_cons pe_non pa_nil))))) pss_nil)))))))))))
      (pss_cons (ps_if (PW.pt (pw_or (pt_cmpR op_ne (pe_ix ix_list (pv 1) (pe_un un_neg pe_int) (fun _ _ => rfl)) pe_str (nomark _)) (pw_or1 (pt_cmpR op_eq (pe_callB q_len (by rfl) T.z_len (by decide +kernel) (pa_cons (pv 1) pa_nil)) pe_int (nomark _))))) (pss_one (ps_ret (pe_tup (pa_cons (pe_op op_sub (pe_callB q_len (by rfl) T.z_len (by decide +kernel) (pa_cons (pv 1) pa_nil)) pe_int) (pa_cons pe_non pa_nil))))) pss_nil)
      (pss_one (ps_ret (pe_tup (pa_cons (pe_un un_neg pe_int) (pa_cons (pe_tup (pa_cons (pv 2) (pa_cons (pv 3) (pa_cons (pv 4) pa_nil)))) pa_nil))))))))))), pure_law_read h⟩


def pr_law_whole (K : PySem.W.Frag) (v0 : V) (H : Hp) (Q : VK) (_ : XK) : Prop := ∃ x : Int, v0 = .int x ∧ Q (.bl true) H
def t_law_whole (K : PySem.W.Frag) : TS :=
  (tRet (tAndV (tCB (rIsi K) (tCons (tVar 0) (tCons (tC (.ty "int")) tNil))) (tNotV (tCB (rIsi K) (tCons (tVar 0) (tCons (tC (.ty "bool")) tNil))))))
theorem pure_law_whole {v0 : V} {H : Hp} {Q : VK} {E : XK} (h : pr_law_whole K v0 H Q E) : t_law_whole K ⟨fun _ H' => Q .non H', Q, fun _ _ => False, fun _ _ => False⟩ [some v0] H := by
  obtain ⟨x, rfl, q⟩ := h
  unfold t_law_whole
  wtm_at "s"
  exact q
abbrev sp_law_whole (K : PySem.W.Frag) : Sp := fun vs H Q E => ∃ v0, vs = [v0] ∧ pr_law_whole K v0 H Q E
theorem ok_law_whole (T : Txt K mg A) : FnOk P w K mg base CX0 1 A.a_law_whole A.d_law_whole ["_law_found"] (sp_law_whole K) := by
  refine T.F_law_whole.ok sc_law_whole (fun vs H Q E h => by obtain ⟨v0, rfl, _⟩ := h; rfl) (fun cdv A0 outer s H vs Q E hr h => ?_)
  obtain ⟨v0, rfl, h⟩ := h
  exact ⟨t_law_whole K, (pss_one (ps_ret (pe_and (pe_callB q_isi (by rfl) T.z_isinstance (by decide +kernel) (pa_cons (pv 0) (pa_cons (pe_bltn (v := .ty "int") (by rfl) T.z_int (by decide +kernel) rfl) pa_nil))) (pe_one (pe_not (pe_callB q_isi (by rfl) T.z_isinstance (by decide +kernel) (pa_cons (pv 0) (pa_cons (pe_bltn (v := .ty "bool") (by rfl) T.z_bool (by decide +kernel) rfl) pa_nil)))))))), pure_law_whole h⟩
theorem ty_tup {K : PySem.W.Frag} {H : Hp} {p : Addr} {xs : List V} (h : SqT K H p xs) : TyX K H (.ref p) (.type "tuple") := by
  rcases h with (h | ⟨o, h⟩) | ⟨o, its, n, h, c, _⟩
  · exact .base (.tup h)
  · exact .fTuple h
  · exact .kTuple h c
theorem k_isiTp {K : PySem.W.Frag} {H : Hp} {Q : VK} {p : Addr} {xs : List V} (hs : SqT K H p xs) (h : Q (.bl true) H) : rIsi K [.ref p, .ty "tuple"] H Q := k_isi (ty_tup hs) (by decide +kernel) h
abbrev dTold (N : Net) (ws : List (Int × Int)) (ho : Option (List Int)) : PyData := .tuple [N.d, dPairs ws, dHues ho]
theorem str_ok79 (s : Str) (h : PyData.strOk s = true) {n : Nat} : Sh n (.str s) := ⟨h, Nat.zero_le _⟩
theorem sh_net79 (N : Net) : Sh 4 N.d := by
  cases N with
  | line n => exact sh_two (str_ok79 _ (by show PyData.strOk (Str.ofString "line") = true; decide +kernel)) sh_int
  | ring n => exact sh_two (str_ok79 _ (by show PyData.strOk (Str.ofString "ring") = true; decide +kernel)) sh_int
  | tree ps => exact sh_two (str_ok79 _ (by show PyData.strOk (Str.ofString "tree") = true; decide +kernel)) (sh_ints ps)
theorem sh_told79 (N : Net) (ws : List (Int × Int)) (ho : Option (List Int)) : Sh 5 (dTold N ws ho) := sh_tup fun x hx => by
  simp only [List.mem_cons, List.not_mem_nil, or_false] at hx
  rcases hx with rfl | rfl | rfl
  · exact sh_net79 N
  · exact sh_pairs _
  · cases ho with
    | none => exact sh_none
    | some hs => exact sh_ints hs
def pr_law_right (K : PySem.W.Frag) (A : Ad) (v0 : V) (H : Hp) (Q : VK) (_ : XK) : Prop := ∃ l : List Nat, v0 = .str (mkS l) ∧ l.length ≤ 8000 ∧ ∀ H', Same H H' → Q (.bl true) H'
def t_law_right (K : PySem.W.Frag) (A : Ad) : TS :=
  (tSeq (tAsg (tCall (sp_law_read K) [] E0 (tCons (tVar 0) tNil)) (gTup K 2 (gCons (gName 1) (gCons (gName 2) gNil))))
    (tSeq (tAsg (tC .non) (gName 3))
    (tSeq (tAsg (tC .non) (gName 4))
    (tSeq (tTryK K (.ref A.c_TieError) 5 3 fun W => (tAsg (tCallS (sp_read_net K A) (WE W) (tCons (tVar 0) tNil)) (gName 4)))
    (tSeq (tIfS (tTest (tOp xLt (tVar 1) (tC (.int 0)))) (tRet (tAndV (tOp xIsN (tVar 3) (tC .non)) (tAndV (tCB (rIsi K) (tCons (tVar 4) (tCons (tC (.ty "tuple")) tNil))) (tOp (rEqD K) (tVar 4) (tVar 2))))) tNext)
    (tRet (tAndV (tOp rEq (tCall (sp_law_kind K A) [] E0 (tCons (tVar 3) tNil)) (tC (.str (Str.ofString "text")))) (tAndV (tCall (sp_law_whole K) [] E0 (tCons (tXat K (Str.ofString "row") (tVar 3)) tNil)) (tOp (rEqD K) (tXat K (Str.ofString "row") (tVar 3)) (tVar 1))))))))))
theorem pure_law_right (T : Txt K mg A) {v0 : V} {H : Hp} {Q : VK} {E : XK} (h : pr_law_right K A v0 H Q E) : t_law_right K A ⟨fun _ H' => Q .non H', Q, fun _ _ => False, fun _ _ => False⟩ [some v0, none, none, none, none, none] H := by
  obtain ⟨l, rfl, hl, q⟩ := h
  unfold t_law_right
  wtm_at "s"
  refine ⟨_, rfl, l, rfl, hl, fun k hk t H1 s1 e1 => ?_, fun N ws ho hg t d H1 s1 e1 dd => ?_⟩
  · wtm_at "s"
    refine ⟨_, rfl, l, rfl, hl, fun k2 hk2 dx H2 ndx s2 ex => ?_, fun N ws ho hg => by rw [hk] at hg; cases hg⟩
    obtain rfl : k2 = k := by rw [hk] at hk2; cases hk2; rfl
    refine k_caught (by show 5 < 6; decide) (PySem.W.exm_ref T.x_TieError.hs T.x_TieError.hd T.t_TieError T.u_NoText) (fun e' ne => ?_)
    have s6 := s2.trans (same_new (o := ExV (.ref A.c_NoText) (some dx) e') ne)
    have f1 : upd H2 e' (ExV (.ref A.c_NoText) (some dx) e') e' = some (ExV (.ref A.c_NoText) (some dx) e') := upd_same
    have f2 : upd H2 e' (ExV (.ref A.c_NoText) (some dx) e') dx = some (.xd [(Str.ofString "row", V.int (k2 : Nat))]) := same_new ne _ _ ex
    generalize upd H2 e' (ExV (.ref A.c_NoText) (some dx) e') = H6 at s6 f1 f2 ⊢
    have k0 : ¬ ((k2 : Int) < 0) := by omega
    wtm_at "s"
    refine ⟨_, rfl, e', A.c_NoText, 11, rfl, ⟨_, f1, .inr ⟨_, _, rfl, f2⟩⟩, T.x_NoText, kind_NoText T, fun H8 s8 => ?_⟩
    wtm_at "s"
    refine k_eqS ?_
    rw [show kindName 11 = Str.ofString "text" from rfl, s_same]
    have f18 := s8 _ _ f1
    have f28 := s8 _ _ f2
    wtm_at "s"
    refine ⟨e', A.c_NoText, dx, _, _, rfl, f18, T.x_NoText.xf, T.nf_NoText, f28, rfl, ?_⟩
    wtm_at "s"
    refine ⟨_, rfl, _, rfl, ?_⟩
    wtm_at "s"
    refine ⟨e', A.c_NoText, dx, _, _, rfl, f18, T.x_NoText.xf, T.nf_NoText, f28, rfl, ?_⟩
    wtm_at "s"
    refine k_eqD1 (c := .int (k2 : Nat)) (n := 1) (.int _) (.int _) sh_int (by decide) ?_
    exact q H8 (s1.trans (s6.trans s8))
  · wtm_at "s"
    refine ⟨_, rfl, l, rfl, hl, fun k2 hk2 => (by rw [hg] at hk2; cases hk2), fun M us uo hg2 t2 H2 s2 d2 => ?_⟩
    rw [hg] at hg2
    cases hg2
    wtm_at "s"
    obtain ⟨p2, xs2, e0, hs2, _⟩ := dp_tup d2
    cases e0
    refine k_isiTp hs2 ?_
    wtm_at "s"
    refine k_eqD1 (c := dTold N ws ho) (n := 5) d2 (dp_same s2 dd) (sh_told79 N ws ho) (by decide) ?_
    exact q H2 (s1.trans s2)
abbrev sp_law_right (K : PySem.W.Frag) (A : Ad) : Sp := fun vs H Q E => ∃ v0, vs = [v0] ∧ pr_law_right K A v0 H Q E
theorem ok_law_right (T : Txt K mg A) : FnOk P w K mg base CX0 8 A.a_law_right A.d_law_right ["_law_text_here"] (sp_law_right K A) := by
  refine T.F_law_right.ok sc_law_right (fun vs H Q E h => by obtain ⟨v0, rfl, _⟩ := h; rfl) (fun cdv A0 outer s H vs Q E hr h => ?_)
  obtain ⟨v0, rfl, h⟩ := h
  exact ⟨t_law_right K A, (pss_cons (ps_asg (pe_call (ok_law_read T) (hr.mono (by decide)) (by rfl) T.g_law_read T.F_law_read.kp T.b_law_read .nil pass0 (pa_cons (pv 0) pa_nil)) (pg_tup (by rfl) (pgs_cons (pg_name (i := 1) sc_law_right.nd rfl (Or.inl rfl)) (pgs_cons (pg_name (i := 2) sc_law_right.nd rfl (Or.inl rfl)) pgs_nil))))
      (pss_cons (ps_set (i := 3) sc_law_right.nd rfl (Or.inl rfl) pe_non)
      (pss_cons (ps_set (i := 4) sc_law_right.nd rfl (Or.inl rfl) pe_non)
      (pss_cons (ps_try_kept (i := 5) (tb := fun W => (tAsg (tCallS (sp_read_net K A) (WE W) (tCons (tVar 0) tNil)) (gName 4))) (ts := fun _ _ _ => tAsg (tVar 5) (gName 3)) (Wout := fun _ _ _ _ => False) rfl rfl rfl sc_law_right.nd rfl rfl ⟨by rfl, by decide, Or.inl T.k_TieError⟩ takes0
      (fun W pn xe tk _ => (pss_one (ps_set (i := 4) sc_law_right.nd rfl (Or.inl rfl) (pe_callS (ok_read_net T) (hr.mono (by decide)) (by rfl) T.g_read_net T.F_read_net.kp T.b_read_net (fun σ => passAt tk σ) (pa_cons (pv 0) pa_nil)))))
      (fun a oe cls d pn hz hf => (pss_one (ps_set (i := 3) sc_law_right.nd rfl (Or.inl rfl) (pv 5)))))
      (pss_cons (ps_if (pt_cmpR op_lt (pv 1) pe_int (nomark _)) (pss_one (ps_ret (pe_and (pe_cmpR op_isN (pv 3) pe_non (nomark _)) (pe_and (pe_callB q_isi (by rfl) T.z_isinstance (by decide +kernel) (pa_cons (pv 4) (pa_cons (pe_bltn (v := .ty "tuple") (by rfl) T.z_tuple (by decide +kernel) rfl) pa_nil))) (pe_one (pe_cmpR (op_eqD hr.units) (pv 4) (pv 2) (nomark _))))))) pss_nil)
      (pss_one (ps_ret (pe_and (pe_cmpR op_eq (pe_call (ok_law_kind T) (hr.mono (by decide)) (by rfl) T.g_law_kind T.F_law_kind.kp T.b_law_kind .nil pass0 (pa_cons (pv 3) pa_nil)) pe_str (nomark _)) (pe_and (pe_call (ok_law_whole T) (hr.mono (by decide)) (by rfl) T.g_law_whole T.F_law_whole.kp T.b_law_whole .nil pass0 (pa_cons (pe_xat (pv 3)) pa_nil)) (pe_one (pe_cmpR (op_eqD hr.units) (pe_xat (pv 3)) (pv 1) (nomark _)))))))))))), pure_law_right T h⟩


/-- rows with their line ends -/
def tot (rs : List (List Nat)) : Nat := (rs.map fun r => r.length + 1).sum
theorem tot_app (a b : List (List Nat)) : tot (a ++ b) = tot a + tot b := by simp [tot]
theorem tot_one (r : List Nat) : tot [r] = r.length + 1 := by simp [tot]
theorem tot_td (rs : List (List Nat)) (k : Nat) : tot (rs.take k) + tot (rs.drop k) = tot rs := by rw [← tot_app, List.take_append_drop]
theorem tot_drop (rs : List (List Nat)) (k : Nat) : tot (rs.drop k) ≤ tot rs := by have := tot_td rs k; omega
theorem tot_len : ∀ rs : List (List Nat), rs.length ≤ tot rs
  | [] => Nat.zero_le _
  | r :: rs => by have := tot_len rs; have e : tot (r :: rs) = r.length + 1 + tot rs := by simp [tot]
                  rw [e, List.length_cons]; omega
theorem tot_mem {rs : List (List Nat)} {r : List Nat} (h : r ∈ rs) : r.length + 1 ≤ tot rs := by
  induction rs with
  | nil => cases h
  | cons a t ih =>
    have e : tot (a :: t) = a.length + 1 + tot t := by simp [tot]
    rcases List.mem_cons.mp h with rfl | h
    · omega
    · have := ih h; omega
theorem join_tot (s : Nat) : ∀ rs : List (List Nat), rs ≠ [] → (TL.joinL [s] rs).length + 1 = tot rs
  | [], h => absurd rfl h
  | [p], _ => by simp [TL.joinL, tot]
  | p :: q :: r, _ => by
    have ih := join_tot s (q :: r) (by simp)
    show (p ++ ([s] ++ TL.joinL [s] (q :: r))).length + 1 = _
    rw [List.length_append, List.length_append]
    have e : tot (p :: q :: r) = p.length + 1 + tot (q :: r) := by simp [tot]
    rw [e]; simp only [List.length_singleton]; omega
theorem join_tot' (s : Nat) (rs : List (List Nat)) : (TL.joinL [s] rs).length ≤ tot rs := by
  cases rs with
  | nil => exact Nat.zero_le _
  | cons a t => have := join_tot s (a :: t) (by simp); omega
theorem tot_erase {rs : List (List Nat)} {i : Nat} {r : List Nat} (h : rs[i]? = some r) : tot (rs.eraseIdx i) + (r.length + 1) = tot rs := by
  have hi := (List.getElem?_eq_some_iff.mp h)
  obtain ⟨h1, h2⟩ := hi
  rw [List.eraseIdx_eq_take_drop_succ, tot_app]
  have e := tot_td rs i
  rw [List.drop_eq_getElem_cons h1, h2] at e
  have e2 : tot (r :: rs.drop (i + 1)) = r.length + 1 + tot (rs.drop (i + 1)) := by simp [tot]
  omega
theorem tot_rep (k : Nat) (r : List Nat) : tot (List.replicate k [r]).flatten = k * (r.length + 1) := by
  induction k with
  | zero => simp [tot]
  | succ k ih => rw [List.replicate_succ, List.flatten_cons, tot_app, tot_one, ih, Nat.succ_mul]; omega
abbrev rowV (rs : List (List Nat)) : List V := rs.map fun q => V.str (mkS q)
theorem k_slT {K : PySem.W.Frag} {H : Hp} {Q : VK} {a : Addr} {rs : List (List Nat)} {k : Nat} (hs : H a = some (.lst (rowV rs))) (h : ∀ p H', H p = none → Same H H' → H' p = some (.lst (rowV (rs.take k))) → Q (.ref p) H') : rSlL K (.ref a) none (some ((k : Nat) : Int)) H Q :=
  k_slL (sl hs) fun p H' np s e => h p H' np s (by rw [e, cut_to, ← List.map_take])
theorem k_slD {K : PySem.W.Frag} {H : Hp} {Q : VK} {a : Addr} {rs : List (List Nat)} {k : Nat} (hs : H a = some (.lst (rowV rs))) (h : ∀ p H', H p = none → Same H H' → H' p = some (.lst (rowV (rs.drop k))) → Q (.ref p) H') : rSlL K (.ref a) (some ((k : Nat) : Int)) none H Q :=
  k_slL (sl hs) fun p H' np s e => h p H' np s (by rw [e, cut_from, ← List.map_drop])
theorem cut_12 (xs : List V) : cutV xs (some 1) (some 2) = (xs.take 2).drop 1 := by
  rcases xs with _ | ⟨a, _ | ⟨b, t⟩⟩
  · rfl
  · rfl
  · unfold cutV
    have e1 : HT.sIx (a :: b :: t).length 0 (some 1) = 1 := by simp [HT.sIx]
    have e2 : HT.sIx (a :: b :: t).length (a :: b :: t).length (some 2) = 2 := by simp [HT.sIx]
    rw [e1, e2]; rfl
theorem k_sl12 {K : PySem.W.Frag} {H : Hp} {Q : VK} {a : Addr} {rs : List (List Nat)} (hs : H a = some (.lst (rowV rs))) (h : ∀ p H', H p = none → Same H H' → H' p = some (.lst (rowV ((rs.take 2).drop 1))) → Q (.ref p) H') : rSlL K (.ref a) (some 1) (some 2) H Q :=
  k_slL (sl hs) fun p H' np s e => h p H' np s (by rw [e, cut_12, ← List.map_take, ← List.map_drop])
theorem k_catR {H : Hp} {Q : VK} {p q : Addr} {xs ys : List (List Nat)} (hp : H p = some (.lst (rowV xs))) (hq : H q = some (.lst (rowV ys))) (hz : tot xs + tot ys ≤ 100000) (h : ∀ l H', H l = none → Same H H' → H' l = some (.lst (rowV (xs ++ ys))) → Q (.ref l) H') : rCat (.ref p) (.ref q) H Q :=
  k_catN hp hq (by have := tot_len xs; have := tot_len ys; rw [List.length_map, List.length_map]; omega) fun l H' n s e => h l H' n s (by rw [e]; simp only [rowV, List.map_append])
theorem k_ixR {K : PySem.W.Frag} {H : Hp} {Q : VK} {p : Addr} {rs : List (List Nat)} {i : Nat} {r : List Nat} (hs : H p = some (.lst (rowV rs))) (ha : rs[i]? = some r) (h : Q (.str (mkS r)) H) : rIxL K (.ref p) (.int (i : Nat)) H Q :=
  k_ixL (sl hs) (atI_nat (by rw [List.getElem?_map, ha]; rfl)) h
theorem k_popR {H : Hp} {Q : VK} {p : Addr} {rs : List (List Nat)} {i : Nat} {r : List Nat} (hp : H p = some (.lst (rowV rs))) (ha : rs[i]? = some r) (hi : i < 1000000) (h : Q (.str (mkS r)) (upd H p (.lst (rowV (rs.eraseIdx i))))) : rPopAt (.ref p) [.int (i : Nat)] H Q := by
  have h1 := (List.getElem?_eq_some_iff.mp ha).1
  refine ⟨p, _, (i : Nat), i, .str (mkS r), rfl, rfl, hp, by omega, by omega, ?_, ?_, ?_⟩
  · have := (ixN_seq (ixN_of (i := ((i : Nat) : Int)) (n := (rowV rs).length) (by omega) (by rw [List.length_map]; omega))).1
    rwa [Int.toNat_natCast] at this
  · rw [List.getElem?_map, ha]; rfl
  · have e : (rowV rs).eraseIdx i = rowV (rs.eraseIdx i) := by
      rw [List.eraseIdx_eq_take_drop_succ, List.eraseIdx_eq_take_drop_succ]; simp [rowV]
    rw [e]; exact h
theorem k_insR {H : Hp} {Q : VK} {p : Addr} {rs : List (List Nat)} {i : Nat} {r : List Nat} (hp : H p = some (.lst (rowV rs))) (hl : tot rs < 100000) (hi : i < 1000000) (h : Q .non (upd H p (.lst (rowV (rs.take i ++ [r] ++ rs.drop i))))) : rIns (.ref p) [.int (i : Nat), .str (mkS r)] H Q := by
  refine k_ins hp (by have := tot_len rs; rw [List.length_map]; omega) (by omega) (by omega) ?_
  rw [Int.toNat_natCast]
  have e : (rowV rs).take i ++ [V.str (mkS r)] ++ (rowV rs).drop i = rowV (rs.take i ++ [r] ++ rs.drop i) := by simp [rowV]
  rw [e]; exact h
theorem rows_sum (rs : List (List Nat)) : ((rs.map mkS).map (·.length)).sum + (rs.map mkS).length * (Str.ofString "\n").length = tot rs := by
  have l1 : (Str.ofString "\n").length = 1 := by rw [len_sg, sg_nl]; rfl
  rw [l1, List.length_map, Nat.mul_one, List.map_map]
  induction rs with
  | nil => rfl
  | cons a t ih =>
    have e : tot (a :: t) = a.length + 1 + tot t := by simp [tot]
    rw [e, List.map_cons, List.sum_cons, List.length_cons]
    have e2 : ((·.length) ∘ mkS) a = a.length := mk_len a
    rw [e2]; omega
theorem k_joinR {K : PySem.W.Frag} {H : Hp} {Q : VK} {p : Addr} {rs : List (List Nat)} (hp : H p = some (.lst (rowV rs))) (hz : tot rs ≤ 20000) (h : ∀ m : List Nat, m.length ≤ 20000 → Q (.str (mkS m)) H) : rJoin K (.str (Str.ofString "\n")) [.ref p] H Q := by
  have e : rowV rs = (rs.map mkS).map V.str := by simp [rowV]
  rw [e] at hp
  refine k_join (sl hp) ?_ ?_
  · rw [rows_sum]; omega
  · refine h _ ?_
    rw [sg_nl, List.map_map]
    have e2 : rs.map (sg ∘ mkS) = rs := by simp [Function.comp_def, sg_mkS]
    rw [e2]
    have := join_tot' 10 rs
    omega
def pr_law_bent_rows (K : PySem.W.Frag) (v0 v1 v2 : V) (H : Hp) (Q : VK) (_ : XK) : Prop := ∃ (pu : Addr) (k : Int) (l : List Nat) (c : Int), v0 = .ref pu ∧ Le H pu k ∧ k < 90000 ∧ v1 = .str (mkS l) ∧ l.length ≤ 8000 ∧ v2 = .int c ∧ 3 ≤ c ∧ c ≤ 8 ∧ ∀ (m : List Nat) H' k', k' ≤ k + 3 → m.length ≤ 20000 → Le H' pu k' → Same (hid [pu] H) (hid [pu] H') → Q (.str (mkS m)) H'
def t_law_bent_rows (K : PySem.W.Frag) : TS :=
  (tSeq (tAsg (tM1 rSplit (tVar 1) (tC (.str (Str.ofString "\n")))) (gName 3))
    (tSeq (tAsg (tCall (sp_law_draw K) [] E0 (tCons (tVar 0) (tCons (tCB (rLenX K) (tCons (tVar 3) tNil)) tNil))) (gName 4))
    (tSeq (tAsg (tCall (sp_law_draw K) [] E0 (tCons (tVar 0) (tCons (tCB (rLenX K) (tCons (tVar 3) tNil)) tNil))) (gName 5))
    (tSeq (tIfS (tTest (tOp rEq (tVar 2) (tC (.int 3)))) (tAsg (tOp rCat (tOp rCat (tSl (rSlL K) (tVar 3) tNoPart (tPart (tVar 4))) (tLst (tCons (tOp (rIxL K) (tVar 3) (tVar 4)) tNil))) (tSl (rSlL K) (tVar 3) (tPart (tVar 4)) tNoPart)) (gName 3)) tNext)
    (tSeq (tIfS (tTest (tOp rEq (tVar 2) (tC (.int 4)))) (tAsg (tOp rCat (tSl (rSlL K) (tVar 3) tNoPart (tPart (tVar 4))) (tSl (rSlL K) (tVar 3) (tPart (tOp xAdd (tVar 4) (tC (.int 1)))) tNoPart)) (gName 3)) tNext)
    (tSeq (tIfS (tTest (tOp rEq (tVar 2) (tC (.int 5)))) (tDrop (tBM K "list" rIns (tVar 3) (tCons (tVar 5) (tCons (tBM K "list" rPopAt (tVar 3) (tCons (tVar 4) tNil)) tNil)))) tNext)
    (tSeq (tIfS (tOr (tTest (tOp rEq (tVar 2) (tC (.int 6)))) (tTest (tOp rEq (tVar 2) (tC (.int 7))))) (tAsg (tOp rCat (tOp rCat (tSl (rSlL K) (tVar 3) tNoPart (tPart (tVar 4))) (tLst (tCons (tCall (sp_law_odd_row K) [] E0 (tCons (tVar 0) tNil)) tNil))) (tSl (rSlL K) (tVar 3) (tPart (tOp xSub (tOp xAdd (tVar 4) (tVar 2)) (tC (.int 6)))) tNoPart)) (gName 3)) tNext)
    (tSeq (tIfS (tAnd (tTest (tOp rEq (tVar 2) (tC (.int 8)))) (tAnd (tTest (tOp rEq (tCB (rLenX K) (tCons (tSl (rSlL K) (tVar 3) (tPart (tC (.int 1))) (tPart (tC (.int 2)))) tNil)) (tC (.int 1)))) (tTest (tOp xLt (tCB rLenStr (tCons (tOp (rIxL K) (tVar 3) (tC (.int 1))) tNil)) (tC (.int 12)))))) (tAsg (tOp rCat (tOp rCat (tSl (rSlL K) (tVar 3) tNoPart (tPart (tC (.int 1)))) (tOp rRep (tSl (rSlL K) (tVar 3) (tPart (tC (.int 1))) (tPart (tC (.int 2)))) (tC (.int 41)))) (tSl (rSlL K) (tVar 3) (tPart (tC (.int 2))) tNoPart)) (gName 3)) tNext)
    (tRet (tM1 (rJoin K) (tC (.str (Str.ofString "\n"))) (tVar 3)))))))))))
theorem pure_law_bent_rows {v0 v1 v2 : V} {H : Hp} {Q : VK} {E : XK} (h : pr_law_bent_rows K v0 v1 v2 H Q E) : t_law_bent_rows K ⟨fun _ H' => Q .non H', Q, fun _ _ => False, fun _ _ => False⟩ [some v0, some v1, some v2, none, none, none] H := by
  obtain ⟨pu, k, l, c, rfl, L, k1, rfl, hl, rfl, c3, c8, q⟩ := h
  have rne := splitL_ne 10 l
  have rt : tot (splitL 10 l) = l.length + 1 := by rw [← join_tot 10 _ rne, splitL_join]
  unfold t_law_bent_rows
  wtm_at "s"
  refine k_splitL (s := 10) sg_nl (by decide) (by omega) (fun rp H1 nrp s1 e1 => ?_)
  generalize hrows : splitL 10 l = rows at rne rt e1
  have rl : rows.length ≤ tot rows := tot_len rows
  have rp0 : 0 < rows.length := List.length_pos_iff.mpr rne
  have L1 := L.same s1
  have nr : rp ∉ [pu] := L.fresh nrp
  wtm_at "s"
  refine ⟨_, _, rfl, pu, _, _, rfl, rfl, L1, by omega, by rw [List.length_map]; omega, by rw [List.length_map]; omega, fun at' H2 a0 a1 L2 S2 => ?_⟩
  have e2 := keeps S2 e1 nr
  obtain ⟨at', rfl⟩ : ∃ j : Nat, at' = j := ⟨at'.toNat, by omega⟩
  rw [List.length_map] at a1
  have ha : at' < rows.length := by omega
  obtain ⟨r, hr⟩ : ∃ r, rows[at']? = some r := ⟨_, List.getElem?_eq_getElem ha⟩
  have tr := tot_mem (List.mem_of_getElem? hr)
  wtm_at "s"
  refine ⟨_, _, rfl, pu, _, _, rfl, rfl, L2, by omega, by rw [List.length_map]; omega, by rw [List.length_map]; omega, fun to H3 t0 t1 L3 S3 => ?_⟩
  have e3 := keeps S3 e2 nr
  obtain ⟨to, rfl⟩ : ∃ j : Nat, to = j := ⟨to.toNat, by omega⟩
  rw [List.length_map] at t1
  have ht : to < rows.length := by omega
  have S13 : Same (hid [pu] H) (hid [pu] H3) := (hid_mono s1).trans (S2.trans S3)
  have nH3 : ∀ {p : Addr}, H3 p = none → p ∉ [pu] := fun np => L3.fresh np
  have td := tot_td rows at'
  have tdd := tot_drop rows
  have fin : ∀ (rs' : List (List Nat)) (p : Addr) (H' : Hp) (k' : Int), H' p = some (.lst (rowV rs')) → tot rs' ≤ 20000 → k' ≤ k + 3 → Le H' pu k' → Same (hid [pu] H) (hid [pu] H') → rJoin K (.str (Str.ofString "\n")) [.ref p] H' Q := fun rs' p H' k' e t kk L' S' => k_joinR e t fun m hm => q m H' k' kk hm L' S'
  rcases (show c = 3 ∨ c = 4 ∨ c = 5 ∨ c = 6 ∨ c = 7 ∨ c = 8 by omega) with rfl | rfl | rfl | rfl | rfl | rfl
  · wtm_at "s"
    refine k_slT e3 (fun p1 G1 n1 h1 f1 => ?_)
    wtm_at "s"
    refine k_ixR (h1 _ _ e3) hr ?_
    wtm_at "s"
    refine kL (by simp) (fun p2 G2 n2 h2 f2 => ?_)
    wtm_at "s"
    refine k_catR (xs := rows.take at') (ys := [r]) (h2 _ _ f1) f2 (by rw [tot_one]; omega) (fun p3 G3 n3 h3 f3 => ?_)
    wtm_at "s"
    refine k_slD (h3 _ _ (h2 _ _ (h1 _ _ e3))) (fun p4 G4 n4 h4 f4 => ?_)
    wtm_at "s"
    refine k_catR (h4 _ _ f3) f4 (by rw [tot_app, tot_one]; omega) (fun p5 G5 n5 h5 f5 => ?_)
    wtm_at "s"
    have Z := h1.trans (h2.trans (h3.trans (h4.trans h5)))
    exact fin _ p5 G5 _ f5 (by rw [tot_app, tot_app, tot_one]; omega) (by omega) (L3.same Z) (S13.trans (hid_mono Z))
  · wtm_at "s"
    refine k_slT e3 (fun p1 G1 n1 h1 f1 => ?_)
    wtm_at "s"
    refine k_slD (k := at' + 1) (h1 _ _ e3) (fun p4 G4 n4 h4 f4 => ?_)
    wtm_at "s"
    have := tdd (at' + 1)
    refine k_catR (h4 _ _ f1) f4 (by omega) (fun p5 G5 n5 h5 f5 => ?_)
    wtm_at "s"
    have Z := h1.trans (h4.trans h5)
    exact fin _ p5 G5 _ f5 (by rw [tot_app]; omega) (by omega) (L3.same Z) (S13.trans (hid_mono Z))
  · wtm_at "s"
    refine k_tyL (sl e3) ?_
    wtm_at "s"
    refine k_tyL (sl e3) ?_
    wtm_at "s"
    refine k_popR e3 hr (by omega) ?_
    wtm_at "s"
    have te := tot_erase hr
    refine k_insR upd_same (by omega) (by omega) ?_
    wtm_at "s"
    have tt := tot_td (rows.eraseIdx at') to
    have fr : hid [pu] H rp = none := by rw [hid_ne nr]; exact nrp
    exact fin _ rp _ _ upd_same (by rw [tot_app, tot_app, tot_one]; omega) (by omega) ((L3.upd nr).upd nr) (same_hid_mut (same_hid_mut S13 fr) fr)
  · wtm_at "s"
    refine k_slT e3 (fun p1 G1 n1 h1 f1 => ?_)
    wtm_at "s"
    refine ⟨_, rfl, pu, _, rfl, L3.same h1, by omega, fun m G2 hm L4 h2 => ?_⟩
    have g1 := keeps h2 f1 (nH3 n1)
    have g3 := keeps h2 (h1 _ _ e3) nr
    wtm_at "s"
    refine kL (by simp) (fun p2 G3 n2 h3 f2 => ?_)
    wtm_at "s"
    refine k_catR (xs := rows.take at') (ys := [m]) (h3 _ _ g1) f2 (by rw [tot_one]; omega) (fun p3 G4 n3 h4 f3 => ?_)
    wtm_at "s"
    rw [show ((at' : Nat) : Int) + 6 - 6 = ((at' : Nat) : Int) by omega]
    refine k_slD (k := at') (h4 _ _ (h3 _ _ g3)) (fun p4 G5 n4 h5 f4 => ?_)
    wtm_at "s"
    refine k_catR (h5 _ _ f3) f4 (by rw [tot_app, tot_one]; omega) (fun p5 G6 n5 h6 f5 => ?_)
    wtm_at "s"
    have Z := h3.trans (h4.trans (h5.trans h6))
    exact fin _ p5 G6 _ f5 (by rw [tot_app, tot_app, tot_one]; omega) (by omega) (L4.same Z) (S13.trans ((hid_mono h1).trans (h2.trans (hid_mono Z))))
  · wtm_at "s"
    refine k_slT e3 (fun p1 G1 n1 h1 f1 => ?_)
    wtm_at "s"
    refine ⟨_, rfl, pu, _, rfl, L3.same h1, by omega, fun m G2 hm L4 h2 => ?_⟩
    have g1 := keeps h2 f1 (nH3 n1)
    have g3 := keeps h2 (h1 _ _ e3) nr
    wtm_at "s"
    refine kL (by simp) (fun p2 G3 n2 h3 f2 => ?_)
    wtm_at "s"
    refine k_catR (xs := rows.take at') (ys := [m]) (h3 _ _ g1) f2 (by rw [tot_one]; omega) (fun p3 G4 n3 h4 f3 => ?_)
    wtm_at "s"
    have := tdd (at' + 1)
    rw [show ((at' : Nat) : Int) + 7 - 6 = ((at' + 1 : Nat) : Int) by omega]
    refine k_slD (k := at' + 1) (h4 _ _ (h3 _ _ g3)) (fun p4 G5 n4 h5 f4 => ?_)
    wtm_at "s"
    refine k_catR (h5 _ _ f3) f4 (by rw [tot_app, tot_one]; omega) (fun p5 G6 n5 h6 f5 => ?_)
    wtm_at "s"
    have Z := h3.trans (h4.trans (h5.trans h6))
    exact fin _ p5 G6 _ f5 (by rw [tot_app, tot_app, tot_one]; omega) (by omega) (L4.same Z) (S13.trans ((hid_mono h1).trans (h2.trans (hid_mono Z))))
  · wtm_at "s"
    refine k_sl12 e3 (fun p1 G1 n1 h1 f1 => ?_)
    wtm_at "s"
    rcases rows with _ | ⟨x0, _ | ⟨x1, rest⟩⟩
    · exact absurd rfl rne
    · rw [if_neg (by simp [rowV])]
      wtm_at "s"
      exact fin _ rp G1 _ (h1 _ _ e3) (by omega) (by omega) (L3.same h1) (S13.trans (hid_mono h1))
    · rw [if_pos (by simp [rowV])]
      have e4 := h1 _ _ e3
      have m1 : (x0 :: x1 :: rest)[1]? = some x1 := rfl
      have t1 := tot_mem (List.mem_of_getElem? m1)
      wtm_at "s"
      refine k_ixR (i := 1) e4 m1 ?_
      wtm_at "s"
      refine k_lenS (by omega) ?_
      wtm_at "s"
      by_cases h12 : (x1.length : Int) < 12
      · rw [if_pos (by simpa using h12)]
        wtm_at "s"
        refine k_slT (k := 1) e4 (fun p2 G2 n2 h2 f2 => ?_)
        wtm_at "s"
        refine k_sl12 (h2 _ _ e4) (fun p3 G3 n3 h3 f3 => ?_)
        wtm_at "s"
        refine k_repN f3 (by decide) (by decide) (by simp [rowV]) (fun p4 G4 n4 h4 f4 => ?_)
        have fe : (List.replicate (41 : Int).toNat (rowV (List.drop 1 (List.take 2 (x0 :: x1 :: rest))))).flatten = rowV (List.replicate 41 [x1]).flatten := by
          show _ = List.map _ _
          rw [List.map_flatten, List.map_replicate]; rfl
        rw [fe] at f4
        have tr4 := tot_rep 41 x1
        have tx0 : tot (List.take 1 (x0 :: x1 :: rest)) ≤ tot (x0 :: x1 :: rest) := by have := tot_td (x0 :: x1 :: rest) 1; omega
        wtm_at "s"
        refine k_catR (h4 _ _ (h3 _ _ f2)) f4 (by omega) (fun p5 G5 n5 h5 f5 => ?_)
        wtm_at "s"
        have := tdd 2
        refine k_slD (k := 2) (h5 _ _ (h4 _ _ (h3 _ _ (h2 _ _ e4)))) (fun p6 G6 n6 h6 f6 => ?_)
        wtm_at "s"
        refine k_catR (h6 _ _ f5) f6 (by rw [tot_app]; omega) (fun p7 G7 n7 h7 f7 => ?_)
        wtm_at "s"
        have Z := h1.trans (h2.trans (h3.trans (h4.trans (h5.trans (h6.trans h7)))))
        exact fin _ p7 G7 _ f7 (by rw [tot_app, tot_app]; omega) (by omega) (L3.same Z) (S13.trans (hid_mono Z))
      · rw [if_neg (by simpa using h12)]
        wtm_at "s"
        exact fin _ rp G1 _ e4 (by omega) (by omega) (L3.same h1) (S13.trans (hid_mono h1))
abbrev sp_law_bent_rows (K : PySem.W.Frag) : Sp := fun vs H Q E => ∃ v0 v1 v2, vs = [v0, v1, v2] ∧ pr_law_bent_rows K v0 v1 v2 H Q E
theorem ok_law_bent_rows (T : Txt K mg A) : FnOk P w K mg base CX0 4 A.a_law_bent_rows A.d_law_bent_rows ["_law_left_here", "_law_text_here", "_law_choice"] (sp_law_bent_rows K) := by
  refine T.F_law_bent_rows.ok sc_law_bent_rows (fun vs H Q E h => by obtain ⟨v0, v1, v2, rfl, _⟩ := h; rfl) (fun cdv A0 outer s H vs Q E hr h => ?_)
  obtain ⟨v0, v1, v2, rfl, h⟩ := h
  exact ⟨t_law_bent_rows K, (pss_cons (ps_set (i := 3) sc_law_bent_rows.nd rfl (Or.inl rfl) (pe_split (pv 1) pe_str))
      (pss_cons (ps_set (i := 4) sc_law_bent_rows.nd rfl (Or.inl rfl) (pe_call (ok_law_draw T) (hr.mono (by decide)) (by rfl) T.g_law_draw T.F_law_draw.kp T.b_law_draw .nil pass0 (pa_cons (pv 0) (pa_cons (pe_callB q_len (by rfl) T.z_len (by decide +kernel) (pa_cons (pv 3) pa_nil)) pa_nil))))
      (pss_cons (ps_set (i := 5) sc_law_bent_rows.nd rfl (Or.inl rfl) (pe_call (ok_law_draw T) (hr.mono (by decide)) (by rfl) T.g_law_draw T.F_law_draw.kp T.b_law_draw .nil pass0 (pa_cons (pv 0) (pa_cons (pe_callB q_len (by rfl) T.z_len (by decide +kernel) (pa_cons (pv 3) pa_nil)) pa_nil))))
      (pss_cons (ps_if (pt_cmpR op_eq (pv 2) pe_int (nomark _)) (pss_one (ps_set (i := 3) sc_law_bent_rows.nd rfl (Or.inl rfl) (pe_op op_cat (pe_op op_cat (pe_slice sl_list (pv 3) po_none (po_some (pv 4))) (pe_lst (pa_cons (pe_ix ix_list (pv 3) (pv 4) (fun _ _ => rfl)) pa_nil))) (pe_slice sl_list (pv 3) (po_some (pv 4)) po_none)))) pss_nil)
      (pss_cons (ps_if (pt_cmpR op_eq (pv 2) pe_int (nomark _)) (pss_one (ps_set (i := 3) sc_law_bent_rows.nd rfl (Or.inl rfl) (pe_op op_cat (pe_slice sl_list (pv 3) po_none (po_some (pv 4))) (pe_slice sl_list (pv 3) (po_some (pe_op op_add (pv 4) pe_int)) po_none)))) pss_nil)
      (pss_cons (ps_if (pt_cmpR op_eq (pv 2) pe_int (nomark _)) (pss_one (ps_expr (pe_bm PySem.F.plainAttrs_list PySem.F.slot_list_insert PySem.F.type_list_insert mt_insert (pv 3) (pa_cons (pv 5) (pa_cons (pe_bm PySem.F.plainAttrs_list PySem.F.slot_list_pop PySem.F.type_list_pop mt_popAt (pv 3) (pa_cons (pv 4) pa_nil)) pa_nil))))) pss_nil)
      (pss_cons (ps_if (PW.pt (pw_or (pt_cmpR op_eq (pv 2) pe_int (nomark _)) (pw_or1 (pt_cmpR op_eq (pv 2) pe_int (nomark _))))) (pss_one (ps_set (i := 3) sc_law_bent_rows.nd rfl (Or.inl rfl) (pe_op op_cat (pe_op op_cat (pe_slice sl_list (pv 3) po_none (po_some (pv 4))) (pe_lst (pa_cons (pe_call (ok_law_odd_row T) (hr.mono (by decide)) (by rfl) T.g_law_odd_row T.F_law_odd_row.kp T.b_law_odd_row .nil pass0 (pa_cons (pv 0) pa_nil)) pa_nil))) (pe_slice sl_list (pv 3) (po_some (pe_op op_sub (pe_op op_add (pv 4) (pv 2)) pe_int)) po_none)))) pss_nil)
      (pss_cons (ps_if (PW.pt (pw_and (pt_cmpR op_eq (pv 2) pe_int (nomark _)) (pw_and (pt_cmpR op_eq (pe_callB q_len (by rfl) T.z_len (by decide +kernel) (pa_cons (pe_slice sl_list (pv 3) (po_some pe_int) (po_some pe_int)) pa_nil)) pe_int (nomark _)) (pw_and1 (pt_cmpR op_lt (pe_callB q_lenS (by rfl) T.z_len (by decide +kernel) (pa_cons (pe_ix ix_list (pv 3) pe_int (fun _ _ => rfl)) pa_nil)) pe_int (nomark _)))))) (pss_one (ps_set (i := 3) sc_law_bent_rows.nd rfl (Or.inl rfl) (pe_op op_cat (pe_op op_cat (pe_slice sl_list (pv 3) po_none (po_some pe_int)) (pe_op op_rep (pe_slice sl_list (pv 3) (po_some pe_int) (po_some pe_int)) pe_int)) (pe_slice sl_list (pv 3) (po_some pe_int) po_none)))) pss_nil)
      (pss_one (ps_ret (pe_join pe_str (pv 3)))))))))))), pure_law_bent_rows h⟩


theorem k_slAny {l : List Nat} {lo hi : Option Int} {H : Hp} {Q : VK} (hl : l.length ≤ 100000) (h : ∀ m : List Nat, m.length ≤ l.length → Q (.str (mkS m)) H) : rSlS (.str (mkS l)) lo hi H Q := by
  refine ⟨_, rfl, by rw [mk_len]; exact sz hl, ?_⟩
  obtain ⟨m, e, hm⟩ : ∃ m : List Nat, cutS (mkS l) lo hi = mkS m ∧ m.length ≤ l.length := by
    exact ⟨_, rfl, by rw [List.length_take, List.length_drop]; show min _ (l.length - _) ≤ _; omega⟩
  rw [e]; exact h m hm
/-- a text of up to twenty thousand signs -/
def Sh20k (v : V) : Prop := ∃ l : List Nat, v = .str (mkS l) ∧ l.length ≤ 20000
def pr_law_bent (K : PySem.W.Frag) (v0 v1 : V) (H : Hp) (Q : VK) (_ : XK) : Prop := ∃ (pu : Addr) (k : Int) (l : List Nat), v0 = .ref pu ∧ Le H pu k ∧ k < 80000 ∧ v1 = .str (mkS l) ∧ l.length ≤ 8000 ∧ ∀ (m : List Nat) H' k', k' ≤ k + 4 → m.length ≤ 20000 → Le H' pu k' → Same (hid [pu] H) (hid [pu] H') → Q (.str (mkS m)) H'
def t_law_bent (K : PySem.W.Frag) : TS :=
  (tSeq (tAsg (tCall (sp_law_draw K) [] E0 (tCons (tVar 0) (tCons (tC (.int 10)) tNil))) (gName 2))
    (tSeq (tIfS (tAnd (tTest (tOp xGt (tVar 2) (tC (.int 2)))) (tTest (tOp xLt (tVar 2) (tC (.int 9))))) (tRet (tCall (sp_law_bent_rows K) [] E0 (tCons (tVar 0) (tCons (tVar 1) (tCons (tVar 2) tNil))))) tNext)
    (tSeq (tIfS (tTest (tOp rEq (tVar 2) (tC (.int 9)))) (tRet (tSl rSlS (tVar 1) tNoPart (tPart (tOp xSub (tCB rLenStr (tCons (tVar 1) tNil)) (tC (.int 1)))))) tNext)
    (tSeq (tAsg (tCall (sp_law_draw K) [] E0 (tCons (tVar 0) (tCons (tOp xAdd (tCB rLenStr (tCons (tVar 1) tNil)) (tC (.int 1))) tNil))) (gName 3))
    (tSeq (tAsg (tCall (sp_law_sign K) [] E0 (tCons (tVar 0) tNil)) (gName 4))
    (tRet (tOp (rIxL K) (tLst (tCons (tOp xAddS (tSl rSlS (tVar 1) tNoPart (tPart (tVar 3))) (tSl rSlS (tVar 1) (tPart (tOp xAdd (tVar 3) (tC (.int 1)))) tNoPart)) (tCons (tOp xAddS (tOp xAddS (tSl rSlS (tVar 1) tNoPart (tPart (tVar 3))) (tVar 4)) (tSl rSlS (tVar 1) (tPart (tVar 3)) tNoPart)) (tCons (tOp xAddS (tOp xAddS (tSl rSlS (tVar 1) tNoPart (tPart (tVar 3))) (tVar 4)) (tSl rSlS (tVar 1) (tPart (tOp xAdd (tVar 3) (tC (.int 1)))) tNoPart)) tNil)))) (tVar 2))))))))
theorem pure_law_bent {v0 v1 : V} {H : Hp} {Q : VK} {E : XK} (h : pr_law_bent K v0 v1 H Q E) : t_law_bent K ⟨fun _ H' => Q .non H', Q, fun _ _ => False, fun _ _ => False⟩ [some v0, some v1, none, none, none] H := by
  obtain ⟨pu, k, l, rfl, L, k1, rfl, hl, q⟩ := h
  unfold t_law_bent
  wtm_at "s"
  refine ⟨_, _, rfl, pu, k, 10, rfl, rfl, L, by omega, by decide, by decide, fun c H1 c0 c1 L1 S1 => ?_⟩
  wtm_at "s"
  by_cases h2 : 2 < c
  · rw [if_pos (by simpa using h2)]
    wtm_at "s"
    by_cases h9 : c < 9
    · rw [if_pos (by simpa using h9)]
      wtm_at "s"
      exact ⟨_, _, _, rfl, pu, _, l, c, rfl, L1, by omega, rfl, hl, rfl, by omega, by omega, fun m H2 k2 kk hm L2 S2 => q m H2 k2 (by omega) hm L2 (S1.trans S2)⟩
    · rw [if_neg (by simpa using h9)]
      obtain rfl : c = 9 := by omega
      wtm_at "s"
      refine k_lenS (by omega) ?_
      wtm_at "s"
      exact k_slAny (by omega) fun m hm => q m H1 _ (by omega) (by omega) L1 S1
  · rw [if_neg (by simpa using h2)]
    wtm_at "s"
    refine k_lenS (by omega) ?_
    wtm_at "s"
    refine ⟨_, _, rfl, pu, _, _, rfl, rfl, L1, by omega, by omega, by omega, fun at' H2 a0 a1 L2 S2 => ?_⟩
    obtain ⟨at', rfl⟩ : ∃ j : Nat, at' = j := ⟨at'.toNat, by omega⟩
    wtm_at "s"
    refine ⟨_, rfl, pu, _, rfl, L2, by omega, fun z H3 L3 S3 => ?_⟩
    wtm_at "s"
    refine k_slAny (by omega) fun m1 hm1 => ?_
    wtm_at "s"
    refine k_slAny (by omega) fun m2 hm2 => ?_
    wtm_at "s"
    refine k_addS (by simp only [sg_mkS, List.length_append, List.length_singleton]; omega) ?_
    wtm_at "s"
    refine k_slAny (by omega) fun m3 hm3 => ?_
    wtm_at "s"
    refine k_addS (by simp only [sg_mkS, List.length_append, List.length_singleton]; omega) ?_
    wtm_at "s"
    refine k_slAny (by omega) fun m4 hm4 => ?_
    wtm_at "s"
    refine k_addS (by simp only [sg_mkS, List.length_append, List.length_singleton]; omega) ?_
    wtm_at "s"
    refine k_slAny (by omega) fun m5 hm5 => ?_
    wtm_at "s"
    refine k_addS (by simp only [sg_mkS, List.length_append, List.length_singleton]; omega) ?_
    wtm_at "s"
    refine k_slAny (by omega) fun m6 hm6 => ?_
    wtm_at "s"
    refine k_addS (by simp only [sg_mkS, List.length_append, List.length_singleton]; omega) ?_
    wtm_at "s"
    refine kL (by simp) (fun p G1 np h1 e1 => ?_)
    wtm_at "s"
    have fin : ∀ v, Sh20k v → Q v G1 := fun v ⟨m, e, hm⟩ => e ▸ q m G1 _ (by omega) hm (L3.same h1) (S1.trans (S2.trans (S3.trans (hid_mono h1))))
    rcases (show c = 0 ∨ c = 1 ∨ c = 2 by omega) with rfl | rfl | rfl
    · exact k_ixL (sl e1) (show atI _ _ = some _ from atI_nat (j := 0) rfl) (fin _ ⟨_, rfl, by simp only [sg_mkS, List.length_append, List.length_singleton]; omega⟩)
    · exact k_ixL (sl e1) (show atI _ _ = some _ from atI_nat (j := 1) rfl) (fin _ ⟨_, rfl, by simp only [sg_mkS, List.length_append, List.length_singleton]; omega⟩)
    · exact k_ixL (sl e1) (show atI _ _ = some _ from atI_nat (j := 2) rfl) (fin _ ⟨_, rfl, by simp only [sg_mkS, List.length_append, List.length_singleton]; omega⟩)
abbrev sp_law_bent (K : PySem.W.Frag) : Sp := fun vs H Q E => ∃ v0 v1, vs = [v0, v1] ∧ pr_law_bent K v0 v1 H Q E
theorem ok_law_bent (T : Txt K mg A) : FnOk P w K mg base CX0 5 A.a_law_bent A.d_law_bent ["_law_left_here", "_law_text_here"] (sp_law_bent K) := by
  refine T.F_law_bent.ok sc_law_bent (fun vs H Q E h => by obtain ⟨v0, v1, rfl, _⟩ := h; rfl) (fun cdv A0 outer s H vs Q E hr h => ?_)
  obtain ⟨v0, v1, rfl, h⟩ := h
  exact ⟨t_law_bent K, (pss_cons (ps_set (i := 2) sc_law_bent.nd rfl (Or.inl rfl) (pe_call (ok_law_draw T) (hr.mono (by decide)) (by rfl) T.g_law_draw T.F_law_draw.kp T.b_law_draw .nil pass0 (pa_cons (pv 0) (pa_cons pe_int pa_nil))))
      (pss_cons (ps_if (PW.pt (pw_and (pt_cmpR op_gt (pv 2) pe_int (nomark _)) (pw_and1 (pt_cmpR op_lt (pv 2) pe_int (nomark _))))) (pss_one (ps_ret (pe_call (ok_law_bent_rows T) (hr.mono (by decide)) (by rfl) T.g_law_bent_rows T.F_law_bent_rows.kp T.b_law_bent_rows .nil pass0 (pa_cons (pv 0) (pa_cons (pv 1) (pa_cons (pv 2) pa_nil)))))) pss_nil)
      (pss_cons (ps_if (pt_cmpR op_eq (pv 2) pe_int (nomark _)) (pss_one (ps_ret (pe_slice sl_str (pv 1) po_none (po_some (pe_op op_sub (pe_callB q_lenS (by rfl) T.z_len (by decide +kernel) (pa_cons (pv 1) pa_nil)) pe_int))))) pss_nil)
      (pss_cons (ps_set (i := 3) sc_law_bent.nd rfl (Or.inl rfl) (pe_call (ok_law_draw T) (hr.mono (by decide)) (by rfl) T.g_law_draw T.F_law_draw.kp T.b_law_draw .nil pass0 (pa_cons (pv 0) (pa_cons (pe_op op_add (pe_callB q_lenS (by rfl) T.z_len (by decide +kernel) (pa_cons (pv 1) pa_nil)) pe_int) pa_nil))))
      (pss_cons (ps_set (i := 4) sc_law_bent.nd rfl (Or.inl rfl) (pe_call (ok_law_sign T) (hr.mono (by decide)) (by rfl) T.g_law_sign T.F_law_sign.kp T.b_law_sign .nil pass0 (pa_cons (pv 0) pa_nil)))
      (pss_one (ps_ret (pe_ix ix_list (pe_lst (pa_cons (pe_op op_add_str (pe_slice sl_str (pv 1) po_none (po_some (pv 3))) (pe_slice sl_str (pv 1) (po_some (pe_op op_add (pv 3) pe_int)) po_none)) (pa_cons (pe_op op_add_str (pe_op op_add_str (pe_slice sl_str (pv 1) po_none (po_some (pv 3))) (pv 4)) (pe_slice sl_str (pv 1) (po_some (pv 3)) po_none)) (pa_cons (pe_op op_add_str (pe_op op_add_str (pe_slice sl_str (pv 1) po_none (po_some (pv 3))) (pv 4)) (pe_slice sl_str (pv 1) (po_some (pe_op op_add (pv 3) pe_int)) po_none)) pa_nil)))) (pv 2) (fun _ _ => rfl))))))))), pure_law_bent h⟩


/-- the law's outer loop, with what comes behind it: over [c] + script[:z] -/
theorem law_frameR {BODY rest : TS} {c z : Int} {N : Nat} {m : Nat} {a : Addr} {ns : List Int} {H : Hp} {Q : VK} {n0 : L2.St → Hp → Prop} {bk ct : L2.St → Hp → Prop} (hz : z = N) (hn : ns.length ≤ 63) (ha : SqL K H a (ns.map V.int)) (q : ∀ (l' : List (Option V)) H', l'.length = m + 1 → rest ⟨n0, Q, bk, ct⟩ (some (.ref a) :: l') H')
    (body : ∀ (cell : Int) (l : List (Option V)) (H3 H4 : Hp) (nx : L2.St → Hp → Prop), l.length = m → Same H3 H4 →
      BODY ⟨fun σ' H' => Same H3 H' ∧ ∃ l' : List (Option V), l'.length = m + 1 ∧ σ' = some (.ref a) :: l', Q, nx, fun σ' H' => Same H3 H' ∧ ∃ l' : List (Option V), l'.length = m + 1 ∧ σ' = some (.ref a) :: l'⟩ (some (.ref a) :: some (.int cell) :: l) H4) :
    tSeq (tFor (iList K (tOp rCat (tLst (tCons (tC (.int c)) tNil)) (tSl (rSlL K) (tVar 0) tNoPart (tPart (tC (.int z)))))) (gName 1) BODY) rest ⟨n0, Q, bk, ct⟩ (some (.ref a) :: List.replicate (m + 1) none) H := by
  wtm_at "s"
  refine ⟨sz (by simp), fun l1 n1 => ?_⟩
  have s1 := same_new (o := .lst [.int c]) n1
  have e1 := upd_same (H := H) (a := l1) (o := .lst [.int c])
  generalize upd H l1 (.lst [.int c]) = H1 at s1 e1 ⊢
  wtm_at "s"
  refine ⟨a, _, rfl, s1.seq ha, fun l2 n2 => ?_⟩
  rw [hz, cutTo N]
  have s2 := same_new (o := .lst ((ns.take N).map V.int)) n2
  have e2 := upd_same (H := H1) (a := l2) (o := .lst ((ns.take N).map V.int))
  generalize upd H1 l2 (.lst ((ns.take N).map V.int)) = H2 at s2 e2 ⊢
  refine k_cat (s2 _ _ e1) e2 (by simp; omega) (fun l3 n3 => ?_)
  have e3 : upd H2 l3 (.lst ([.int c] ++ (ns.take N).map V.int)) l3 = some (.lst ((c :: ns.take N).map V.int)) := upd_same
  generalize upd H2 l3 (.lst ([.int c] ++ (ns.take N).map V.int)) = H3 at e3 ⊢
  wtm_at "s"
  refine forL (sl e3) (fun i σ' H' => Same H3 H' ∧ ∃ l' : List (Option V), l'.length = m + 1 ∧ σ' = some (.ref a) :: l') ⟨Same.refl _, List.replicate (m + 1) none, by simp, rfl⟩ (fun i σ' H' _ e => e.1.seq (sl e3)) ?_ ?_
  · rintro i x σ' H4 hx ⟨sm, l', hl', rfl⟩
    rw [List.getElem?_map] at hx
    obtain ⟨cell, _, rfl⟩ := Option.map_eq_some_iff.mp hx
    cases l' with
    | nil => simp at hl'
    | cons y l => exact body cell l H3 H4 _ (by simpa using hl') sm
  · rintro σ' H' ⟨sm, l', hl', rfl⟩
    exact q _ _ hl'

def sp_law (K : PySem.W.Frag) : Sp := fun vs H Q _ => ∃ (a : Addr) (ns : List Int), vs = [.ref a] ∧ SqL K H a (ns.map V.int) ∧ ns.length ≤ 63 ∧ ∀ H', Q (.bl true) H'
theorem flat_len {L : List (List Nat)} {b : Nat} (h : ∀ x ∈ L, x.length ≤ b) : L.flatten.length ≤ L.length * b := by
  rw [List.length_flatten]
  have := sum_le (l := L.map List.length) (b := b) fun x hx => by
    obtain ⟨y, hy, rfl⟩ := List.mem_map.mp hx
    exact h y hy
  rwa [List.length_map] at this
theorem netL_8000 {N : Net} {ws : List (Int × Int)} {ho : Option (List Int)} (ok : N.ok) (hok : ∀ w ∈ ws, isWay N w.1 w.2) (hz : ws.length ≤ 40) (hh : ∀ hs, ho = some hs → RightH N ws hs) : (netL N ws ho).length ≤ 8000 := by
  obtain ⟨nm, nl⟩ := nums_ok ok
  have b1 := rowL_len (w := sg N.kind) nm
  rw [kind_len] at b1
  have b2 := flat_len (L := ws.map fun w => wayL w ++ [10]) (b := 66) fun x hx => by
    obtain ⟨w, hw, rfl⟩ := List.mem_map.mp hx
    have := rowL_len (w := sg (Str.ofString "way")) (way_num ok (hok w hw))
    rw [way_len3] at this
    unfold wayL
    rw [List.length_append]
    simp only [List.length_cons, List.length_nil] at this ⊢
    omega
  rw [List.length_map] at b2
  have b3 : (ho.toList.map fun hs => rowL (sg (Str.ofString "hues")) hs ++ [10]).flatten.length ≤ 1300 := by
    cases ho with
    | none => simp
    | some hs =>
      obtain ⟨r1, _, r3⟩ := hh hs rfl
      have := rowL_len (w := sg (Str.ofString "hues")) r3
      rw [hues_len4] at this
      simp only [Option.toList_some, List.map_cons, List.map_nil, List.flatten_cons, List.flatten_nil, List.append_nil, List.length_append, List.length_singleton]
      omega
  rw [netL_eq, List.length_append, List.length_append, List.length_append, List.length_singleton]
  omega
def t_law (K : PySem.W.Frag) (A : Ad) : TS :=
  (tSeq (tFor (iList K (tOp rCat (tLst (tCons (tC (.int 14)) tNil)) (tSl (rSlL K) (tVar 0) tNoPart (tPart (tC (.int 20)))))) (gName 1)
      (tSeq (tAsg (tCall (sp_law_left K) [] E0 (tCons (tVar 1) tNil)) (gName 2))
    (tSeq (tAsg (tCall (sp_law_all K) [] E0 (tCons (tVar 2) tNil)) (gTup K 3 (gCons (gName 3) (gCons (gName 4) (gCons (gName 5) gNil)))))
    (tSeq (tAsg (tCall (sp_law_text K) [] E0 (tCons (tVar 3) (tCons (tVar 4) (tCons (tVar 5) tNil)))) (gName 6))
    (tFor (iRng1 (tCons (tOp xAdd (tC (.int 1)) (tCall (sp_law_draw K) [] E0 (tCons (tVar 2) (tCons (tC (.int 3)) tNil)))) tNil)) (gName 7)
      (tSeq (tAsg (tSl rSlS (tCall (sp_law_bent K) [] E0 (tCons (tVar 2) (tCons (tVar 6) tNil))) tNoPart (tPart (tC (.int 4000)))) (gName 6))
    (tIfS (tNot (tB (tCall (sp_law_right K A) [] E0 (tCons (tVar 6) tNil)))) (tRet (tC (.bl false))) tNext)))))))
    (tRet (tAndV (tCall (sp_law_right K A) [] E0 (tCons (tC (.str (Str.ofString ""))) tNil)) (tCall (sp_law_right K A) [] E0 (tCons (tC (.str (Str.ofString "\n"))) tNil)))))
theorem pure_law (T : Txt K mg A) {v0 : V} {H : Hp} {Q : VK} (h : ∃ (a : Addr) (ns : List Int), v0 = .ref a ∧ SqL K H a (ns.map V.int) ∧ ns.length ≤ 63 ∧ ∀ H', Q (.bl true) H') : t_law K A ⟨fun _ H' => Q .non H', Q, fun _ _ => False, fun _ _ => False⟩ [some v0, none, none, none, none, none, none, none] H := by
  obtain ⟨a, ns, rfl, ha, hz, q⟩ := h
  unfold t_law
  refine law_frameR (m := 6) (N := 20) rfl hz ha ?_ ?_
  · intro l' H' hl
    wtm_at "s"
    refine ⟨_, rfl, [], by rw [← mkS_sg (Str.ofString ""), sg_none], by simp, fun H1 _ => ⟨true, rfl, iteT ?_⟩⟩
    wtm_at "s"
    exact ⟨_, rfl, [10], by rw [← mkS_sg (Str.ofString "\n"), sg_nl], by simp, fun H2 _ => q H2⟩
  clear ha hz q H ns
  intro cell l H3 H4 nx hl sm
  match l, hl with
  | [k2, k3, k4, k5, k6, k7], _ =>
  wtm_at "s"
  refine ⟨_, rfl, cell, rfl, fun pu H5 npu s5 L5 => ?_⟩
  have h0 : Same H4 (hid [pu] H5) := (hid_free1 npu).trans (hid_mono s5)
  wtm_at "s"
  refine ⟨_, rfl, pu, 0, rfl, L5, by decide, fun t v1 v2 v3 N ws ho k' H6 L6 hk' S6 et d1 ok d2 lw okw d3 hr => ?_⟩
  have s6 : Same H3 (hid [pu] H6) := sm.trans (h0.trans S6)
  have hok : HuesOk ho := fun hs e => by
    obtain ⟨r1, _, r3⟩ := hr hs e
    exact ⟨by omega, r3⟩
  have e6 : H6 t = some (.tup [v1, v2, v3]) := hid_same _ _ _ _ et
  wtm_at "s"
  refine ⟨_, _, _, rfl, N, ws, ho, dp_same (hid_same _ _) d1, ok, dp_same (hid_same _ _) d2, by omega, okw, dp_same (hid_same _ _) d3, hok, fun H7 s7 => ?_⟩
  have l8 := netL_8000 ok okw lw hr
  have L7 := L6.same s7
  have s7' : Same H3 (hid [pu] H7) := s6.trans (hid_mono s7)
  generalize netL N ws ho = l0 at l8
  clear s6 h0 s5 L5 L6 S6 et d1 d2 d3 hr hok e6 s7 sm
  wtm_at "s"
  refine ⟨_, _, rfl, pu, k', 3, rfl, rfl, L7, by omega, by decide, by decide, fun r H8 r0 r1 L8 S8 => ?_⟩
  wtm_at "s"
  refine forR (fun i σ' H' => Same H3 (hid [pu] H') ∧ ∃ (kk : Int) (l : List Nat) (k8 : Option V), kk ≤ 1001 + 4 * i ∧ Le H' pu kk ∧ l.length ≤ 8000 ∧ σ' = [some (.ref a), some (.int cell), some (.ref pu), some v1, some v2, some v3, some (.str (mkS l)), k8]) ⟨s7'.trans S8, _, l0, _, by omega, L8, l8, rfl⟩ ?_ ?_
  · rintro i σ' H9 hi ⟨s9, kk, l, k8, hk, L9, hl9, rfl⟩
    wtm_at "s"
    refine ⟨_, _, rfl, pu, kk, l, rfl, L9, by omega, rfl, hl9, fun m HA k2 hk2 hm LA SA => ?_⟩
    wtm_at "s"
    refine k_slS0 (k := 4000) (by omega) ?_
    have lt : (m.take 4000).length ≤ 4000 := by rw [List.length_take]; omega
    wtm_at "s"
    refine ⟨_, rfl, _, rfl, by omega, fun HB SB => ⟨true, rfl, ?_⟩⟩
    wtm_at "s"
    exact ⟨(s9.trans SA).trans (hid_mono SB), k2, _, _, by omega, LA.same SB, by omega, rfl⟩
  · rintro σ' H9 ⟨s9, kk, l, k8, hk, L9, hl9, rfl⟩
    exact ⟨s9.trans (hid_same _ _), _, rfl, rfl⟩
theorem ok_law (T : Txt K mg A) : FnOk P w K mg base CX0 9 A.a_law A.d_law ["_law_script"] (sp_law K) := by
  refine T.F_law.ok sc_law (fun vs H Q E h => by obtain ⟨a, ns, rfl, _⟩ := h; rfl) (fun cdv A0 outer s H vs Q E hr h => ?_)
  obtain ⟨a, ns, rfl, h⟩ := h
  exact ⟨t_law K A, (pss_cons (ps_for PassesOwn.never rfl (pi_list (pe_op op_cat (pe_lst (pa_cons pe_int pa_nil)) (pe_slice sl_list (pv 0) po_none (po_some pe_int)))) (pg_name (i := 1) sc_law.nd rfl (Or.inl rfl))
      (pss_cons (ps_set (i := 2) sc_law.nd rfl (Or.inl rfl) (pe_call (ok_law_left T) (hr.mono (by decide)) (by rfl) T.g_law_left T.F_law_left.kp T.b_law_left .nil pass0 (pa_cons (pv 1) pa_nil)))
      (pss_cons (ps_asg (pe_call (ok_law_all T) (hr.mono (by decide)) (by rfl) T.g_law_all T.F_law_all.kp T.b_law_all .nil pass0 (pa_cons (pv 2) pa_nil)) (pg_tup (by rfl) (pgs_cons (pg_name (i := 3) sc_law.nd rfl (Or.inl rfl)) (pgs_cons (pg_name (i := 4) sc_law.nd rfl (Or.inl rfl)) (pgs_cons (pg_name (i := 5) sc_law.nd rfl (Or.inl rfl)) pgs_nil)))))
      (pss_cons (ps_set (i := 6) sc_law.nd rfl (Or.inl rfl) (pe_call (ok_law_text T) (hr.mono (by decide)) (by rfl) T.g_law_text T.F_law_text.kp T.b_law_text .nil pass0 (pa_cons (pv 3) (pa_cons (pv 4) (pa_cons (pv 5) pa_nil)))))
      (pss_one (ps_for PassesOwn.never rfl (pi_range1 (by rfl) T.z_range (pa_cons (pe_op op_add pe_int (pe_call (ok_law_draw T) (hr.mono (by decide)) (by rfl) T.g_law_draw T.F_law_draw.kp T.b_law_draw .nil pass0 (pa_cons (pv 2) (pa_cons pe_int pa_nil)))) pa_nil)) (pg_name (i := 7) sc_law.nd rfl (Or.inl rfl))
      (pss_cons (ps_set (i := 6) sc_law.nd rfl (Or.inl rfl) (pe_slice sl_str (pe_call (ok_law_bent T) (hr.mono (by decide)) (by rfl) T.g_law_bent T.F_law_bent.kp T.b_law_bent .nil pass0 (pa_cons (pv 2) (pa_cons (pv 6) pa_nil))) po_none (po_some pe_int)))
      (pss_one (ps_if (pt_not (pt_val (pe_call (ok_law_right T) (hr.mono (by decide)) (by rfl) T.g_law_right T.F_law_right.kp T.b_law_right .nil pass0 (pa_cons (pv 6) pa_nil)))) (pss_one (ps_ret pe_bl)) pss_nil)))))))))
      (pss_one (ps_ret (pe_and (pe_call (ok_law_right T) (hr.mono (by decide)) (by rfl) T.g_law_right T.F_law_right.kp T.b_law_right .nil pass0 (pa_cons pe_str pa_nil)) (pe_one (pe_call (ok_law_right T) (hr.mono (by decide)) (by rfl) T.g_law_right T.F_law_right.kp T.b_law_right .nil pass0 (pa_cons pe_str pa_nil))))))), pure_law T ⟨a, ns, rfl, h⟩⟩

theorem all_mk {l : PySem.W.OpenLaw} {w : World} {K : PySem.W.Frag} {h : Heap} {mg : Str → Option Value} {fa : Addr} {f0 f1 f2 f3 f4 f5 f6 f7 f8 f9 f10 f11 f12 f13 f14 f15 f16 f17 f18 f19 f20 f21 f22 f23 f24 f25 f26 f27 f28 f29 f30 f31 f32 f33 f34 f35 f36 f37 f38 : Addr} (X : K.In h) (G : h.Ns mainGlobals mg) (hfa : mg "law" = some (.ref fa))
    {od0 an0 od1 an1 od2 an2 od3 an3 od4 an4 od5 an5 od6 an6 od7 an7 od8 an8 od9 an9 od10 an10 od11 an11 od12 an12 od13 an13 od14 an14 od15 an15 od16 an16 od17 an17 od18 an18 od19 an19 od20 an20 od21 an21 od22 an22 od23 an23 od24 an24 od25 an25 od26 an26 od27 an27 od28 an28 od29 an29 od30 an30 od31 an31 od32 an32 od33 an33 od34 an34 od35 an35 od36 an36 od37 an37 od38 an38 : Option Addr} {sl0 sl1 sl2 sl3 sl4 sl5 sl6 sl7 sl8 sl9 sl10 sl11 sl12 sl13 sl14 sl15 sl16 sl17 sl18 sl19 sl20 sl21 sl22 sl23 sl24 sl25 sl26 sl27 sl28 sl29 sl30 sl31 sl32 sl33 sl34 sl35 sl36 sl37 sl38 : Array (Option Value)} {oc0 kV0 dc0 pm0 cd0 ct0 oc1 kV1 dc1 pm1 cd1 ct1 oc2 kV2 dc2 pm2 cd2 ct2 oc3 kV3 dc3 pm3 cd3 ct3 oc4 kV4 dc4 pm4 cd4 ct4 oc5 kV5 dc5 pm5 cd5 ct5 oc6 kV6 dc6 pm6 cd6 ct6 oc7 kV7 dc7 pm7 cd7 ct7 oc8 kV8 dc8 pm8 cd8 ct8 oc9 kV9 dc9 pm9 cd9 ct9 oc10 kV10 dc10 pm10 cd10 ct10 oc11 kV11 dc11 pm11 cd11 ct11 oc12 kV12 dc12 pm12 cd12 ct12 oc13 kV13 dc13 pm13 cd13 ct13 oc14 kV14 dc14 pm14 cd14 ct14 oc15 kV15 dc15 pm15 cd15 ct15 oc16 kV16 dc16 pm16 cd16 ct16 oc17 kV17 dc17 pm17 cd17 ct17 oc18 kV18 dc18 pm18 cd18 ct18 oc19 kV19 dc19 pm19 cd19 ct19 oc20 kV20 dc20 pm20 cd20 ct20 oc21 kV21 dc21 pm21 cd21 ct21 oc22 kV22 dc22 pm22 cd22 ct22 oc23 kV23 dc23 pm23 cd23 ct23 oc24 kV24 dc24 pm24 cd24 ct24 oc25 kV25 dc25 pm25 cd25 ct25 oc26 kV26 dc26 pm26 cd26 ct26 oc27 kV27 dc27 pm27 cd27 ct27 oc28 kV28 dc28 pm28 cd28 ct28 oc29 kV29 dc29 pm29 cd29 ct29 oc30 kV30 dc30 pm30 cd30 ct30 oc31 kV31 dc31 pm31 cd31 ct31 oc32 kV32 dc32 pm32 cd32 ct32 oc33 kV33 dc33 pm33 cd33 ct33 oc34 kV34 dc34 pm34 cd34 ct34 oc35 kV35 dc35 pm35 cd35 ct35 oc36 kV36 dc36 pm36 cd36 ct36 oc37 kV37 dc37 pm37 cd37 ct37 oc38 kV38 dc38 pm38 cd38 ct38 : Value}
    {tk0 tk1 tk2 tk3 : Tok}
    (a0 : PySem.W.nsIn K mainGlobals "is_tree" = some (some (.ref f0))) (l0 : K.lookup f0 = some ⟨oc0, od0, .func (PySem.W.fnOf "is_tree" "is_tree" (defArgs s_is_tree) (defBody s_is_tree) (defScope s_is_tree) .none kV0 dc0 pm0 an0 cd0 ct0), sl0⟩) (c0 : PySem.W.codeIn K cd0 "is_tree" = true) (k0 : PySem.W.keepIn K (.ref f0) = true)
    (a1 : PySem.W.nsIn K mainGlobals "look_net" = some (some (.ref f1))) (l1 : K.lookup f1 = some ⟨oc1, od1, .func (PySem.W.fnOf "look_net" "look_net" (defArgs s_look_net) (defBody s_look_net) (defScope s_look_net) .none kV1 dc1 pm1 an1 cd1 ct1), sl1⟩) (c1 : PySem.W.codeIn K cd1 "look_net" = true) (k1 : PySem.W.keepIn K (.ref f1) = true)
    (a2 : PySem.W.nsIn K mainGlobals "places_of" = some (some (.ref f2))) (l2 : K.lookup f2 = some ⟨oc2, od2, .func (PySem.W.fnOf "places_of" "places_of" (defArgs s_places_of) (defBody s_places_of) (defScope s_places_of) .none kV2 dc2 pm2 an2 cd2 ct2), sl2⟩) (c2 : PySem.W.codeIn K cd2 "places_of" = true) (k2 : PySem.W.keepIn K (.ref f2) = true)
    (a3 : PySem.W.nsIn K mainGlobals "is_way" = some (some (.ref f3))) (l3 : K.lookup f3 = some ⟨oc3, od3, .func (PySem.W.fnOf "is_way" "is_way" (defArgs s_is_way) (defBody s_is_way) (defScope s_is_way) .none kV3 dc3 pm3 an3 cd3 ct3), sl3⟩) (c3 : PySem.W.codeIn K cd3 "is_way" = true) (k3 : PySem.W.keepIn K (.ref f3) = true)
    (a4 : PySem.W.nsIn K mainGlobals "ties_on" = some (some (.ref f4))) (l4 : K.lookup f4 = some ⟨oc4, od4, .func (PySem.W.fnOf "ties_on" "ties_on" (defArgs s_ties_on) (defBody s_ties_on) (defScope s_ties_on) .none kV4 dc4 pm4 an4 cd4 ct4), sl4⟩) (c4 : PySem.W.codeIn K cd4 "ties_on" = true) (k4 : PySem.W.keepIn K (.ref f4) = true)
    (a5 : PySem.W.nsIn K mainGlobals "must_be_ways" = some (some (.ref f5))) (l5 : K.lookup f5 = some ⟨oc5, od5, .func (PySem.W.fnOf "must_be_ways" "must_be_ways" (defArgs s_must_be_ways) (defBody s_must_be_ways) (defScope s_must_be_ways) .none kV5 dc5 pm5 an5 cd5 ct5), sl5⟩) (c5 : PySem.W.codeIn K cd5 "must_be_ways" = true) (k5 : PySem.W.keepIn K (.ref f5) = true)
    (a6 : PySem.W.nsIn K mainGlobals "look_ways" = some (some (.ref f6))) (l6 : K.lookup f6 = some ⟨oc6, od6, .func (PySem.W.fnOf "look_ways" "look_ways" (defArgs s_look_ways) (defBody s_look_ways) (defScope s_look_ways) .none kV6 dc6 pm6 an6 cd6 ct6), sl6⟩) (c6 : PySem.W.codeIn K cd6 "look_ways" = true) (k6 : PySem.W.keepIn K (.ref f6) = true)
    (a7 : PySem.W.nsIn K mainGlobals "first_clash" = some (some (.ref f7))) (l7 : K.lookup f7 = some ⟨oc7, od7, .func (PySem.W.fnOf "first_clash" "first_clash" (defArgs s_first_clash) (defBody s_first_clash) (defScope s_first_clash) .none kV7 dc7 pm7 an7 cd7 ct7), sl7⟩) (c7 : PySem.W.codeIn K cd7 "first_clash" = true) (k7 : PySem.W.keepIn K (.ref f7) = true)
    (a8 : PySem.W.nsIn K mainGlobals "clash" = some (some (.ref f8))) (l8 : K.lookup f8 = some ⟨oc8, od8, .func (PySem.W.fnOf "clash" "clash" (defArgs s_clash) (defBody s_clash) (defScope s_clash) .none kV8 dc8 pm8 an8 cd8 ct8), sl8⟩) (c8 : PySem.W.codeIn K cd8 "clash" = true) (k8 : PySem.W.keepIn K (.ref f8) = true)
    (a9 : PySem.W.nsIn K mainGlobals "number_of" = some (some (.ref f9))) (l9 : K.lookup f9 = some ⟨oc9, od9, .func (PySem.W.fnOf "number_of" "number_of" (defArgs s_number_of) (defBody s_number_of) (defScope s_number_of) .none kV9 dc9 pm9 an9 cd9 ct9), sl9⟩) (c9 : PySem.W.codeIn K cd9 "number_of" = true) (k9 : PySem.W.keepIn K (.ref f9) = true)
    (a10 : PySem.W.nsIn K mainGlobals "numbers_of" = some (some (.ref f10))) (l10 : K.lookup f10 = some ⟨oc10, od10, .func (PySem.W.fnOf "numbers_of" "numbers_of" (defArgs s_numbers_of) (defBody s_numbers_of) (defScope s_numbers_of) .none kV10 dc10 pm10 an10 cd10 ct10), sl10⟩) (c10 : PySem.W.codeIn K cd10 "numbers_of" = true) (k10 : PySem.W.keepIn K (.ref f10) = true)
    (a11 : PySem.W.nsIn K mainGlobals "net_of" = some (some (.ref f11))) (l11 : K.lookup f11 = some ⟨oc11, od11, .func (PySem.W.fnOf "net_of" "net_of" (defArgs s_net_of) (defBody s_net_of) (defScope s_net_of) .none kV11 dc11 pm11 an11 cd11 ct11), sl11⟩) (c11 : PySem.W.codeIn K cd11 "net_of" = true) (k11 : PySem.W.keepIn K (.ref f11) = true)
    (a12 : PySem.W.nsIn K mainGlobals "way_of" = some (some (.ref f12))) (l12 : K.lookup f12 = some ⟨oc12, od12, .func (PySem.W.fnOf "way_of" "way_of" (defArgs s_way_of) (defBody s_way_of) (defScope s_way_of) .none kV12 dc12 pm12 an12 cd12 ct12), sl12⟩) (c12 : PySem.W.codeIn K cd12 "way_of" = true) (k12 : PySem.W.keepIn K (.ref f12) = true)
    (a13 : PySem.W.nsIn K mainGlobals "hues_of" = some (some (.ref f13))) (l13 : K.lookup f13 = some ⟨oc13, od13, .func (PySem.W.fnOf "hues_of" "hues_of" (defArgs s_hues_of) (defBody s_hues_of) (defScope s_hues_of) .none kV13 dc13 pm13 an13 cd13 ct13), sl13⟩) (c13 : PySem.W.codeIn K cd13 "hues_of" = true) (k13 : PySem.W.keepIn K (.ref f13) = true)
    (a14 : PySem.W.nsIn K mainGlobals "read_net" = some (some (.ref f14))) (l14 : K.lookup f14 = some ⟨oc14, od14, .func (PySem.W.fnOf "read_net" "read_net" (defArgs s_read_net) (defBody s_read_net) (defScope s_read_net) .none kV14 dc14 pm14 an14 cd14 ct14), sl14⟩) (c14 : PySem.W.codeIn K cd14 "read_net" = true) (k14 : PySem.W.keepIn K (.ref f14) = true)
    (a15 : PySem.W.nsIn K mainGlobals "_law_mix" = some (some (.ref f15))) (l15 : K.lookup f15 = some ⟨oc15, od15, .func (PySem.W.fnOf "_law_mix" "_law_mix" (defArgs s_law_mix) (defBody s_law_mix) (defScope s_law_mix) .none kV15 dc15 pm15 an15 cd15 ct15), sl15⟩) (c15 : PySem.W.codeIn K cd15 "_law_mix" = true) (k15 : PySem.W.keepIn K (.ref f15) = true)
    (a16 : PySem.W.nsIn K mainGlobals "_law_left" = some (some (.ref f16))) (l16 : K.lookup f16 = some ⟨oc16, od16, .func (PySem.W.fnOf "_law_left" "_law_left" (defArgs s_law_left) (defBody s_law_left) (defScope s_law_left) .none kV16 dc16 pm16 an16 cd16 ct16), sl16⟩) (c16 : PySem.W.codeIn K cd16 "_law_left" = true) (k16 : PySem.W.keepIn K (.ref f16) = true)
    (a17 : PySem.W.nsIn K mainGlobals "_law_draw" = some (some (.ref f17))) (l17 : K.lookup f17 = some ⟨oc17, od17, .func (PySem.W.fnOf "_law_draw" "_law_draw" (defArgs s_law_draw) (defBody s_law_draw) (defScope s_law_draw) .none kV17 dc17 pm17 an17 cd17 ct17), sl17⟩) (c17 : PySem.W.codeIn K cd17 "_law_draw" = true) (k17 : PySem.W.keepIn K (.ref f17) = true)
    (a18 : PySem.W.nsIn K mainGlobals "_law_whole" = some (some (.ref f18))) (l18 : K.lookup f18 = some ⟨oc18, od18, .func (PySem.W.fnOf "_law_whole" "_law_whole" (defArgs s_law_whole) (defBody s_law_whole) (defScope s_law_whole) .none kV18 dc18 pm18 an18 cd18 ct18), sl18⟩) (c18 : PySem.W.codeIn K cd18 "_law_whole" = true) (k18 : PySem.W.keepIn K (.ref f18) = true)
    (a19 : PySem.W.nsIn K mainGlobals "_law_way" = some (some (.ref f19))) (l19 : K.lookup f19 = some ⟨oc19, od19, .func (PySem.W.fnOf "_law_way" "_law_way" (defArgs s_law_way) (defBody s_law_way) (defScope s_law_way) .none kV19 dc19 pm19 an19 cd19 ct19), sl19⟩) (c19 : PySem.W.codeIn K cd19 "_law_way" = true) (k19 : PySem.W.keepIn K (.ref f19) = true)
    (a20 : PySem.W.nsIn K mainGlobals "_law_net" = some (some (.ref f20))) (l20 : K.lookup f20 = some ⟨oc20, od20, .func (PySem.W.fnOf "_law_net" "_law_net" (defArgs s_law_net) (defBody s_law_net) (defScope s_law_net) .none kV20 dc20 pm20 an20 cd20 ct20), sl20⟩) (c20 : PySem.W.codeIn K cd20 "_law_net" = true) (k20 : PySem.W.keepIn K (.ref f20) = true)
    (a21 : PySem.W.nsIn K mainGlobals "_law_size" = some (some (.ref f21))) (l21 : K.lookup f21 = some ⟨oc21, od21, .func (PySem.W.fnOf "_law_size" "_law_size" (defArgs s_law_size) (defBody s_law_size) (defScope s_law_size) .none kV21 dc21 pm21 an21 cd21 ct21), sl21⟩) (c21 : PySem.W.codeIn K cd21 "_law_size" = true) (k21 : PySem.W.keepIn K (.ref f21) = true)
    (a22 : PySem.W.nsIn K mainGlobals "_law_ties" = some (some (.ref f22))) (l22 : K.lookup f22 = some ⟨oc22, od22, .func (PySem.W.fnOf "_law_ties" "_law_ties" (defArgs s_law_ties) (defBody s_law_ties) (defScope s_law_ties) .none kV22 dc22 pm22 an22 cd22 ct22), sl22⟩) (c22 : PySem.W.codeIn K cd22 "_law_ties" = true) (k22 : PySem.W.keepIn K (.ref f22) = true)
    (a23 : PySem.W.nsIn K mainGlobals "_law_common" = some (some (.ref f23))) (l23 : K.lookup f23 = some ⟨oc23, od23, .func (PySem.W.fnOf "_law_common" "_law_common" (defArgs s_law_common) (defBody s_law_common) (defScope s_law_common) .none kV23 dc23 pm23 an23 cd23 ct23), sl23⟩) (c23 : PySem.W.codeIn K cd23 "_law_common" = true) (k23 : PySem.W.keepIn K (.ref f23) = true)
    (a24 : PySem.W.nsIn K mainGlobals "_law_hues" = some (some (.ref f24))) (l24 : K.lookup f24 = some ⟨oc24, od24, .func (PySem.W.fnOf "_law_hues" "_law_hues" (defArgs s_law_hues) (defBody s_law_hues) (defScope s_law_hues) .none kV24 dc24 pm24 an24 cd24 ct24), sl24⟩) (c24 : PySem.W.codeIn K cd24 "_law_hues" = true) (k24 : PySem.W.keepIn K (.ref f24) = true)
    (a25 : PySem.W.nsIn K mainGlobals "_law_all" = some (some (.ref f25))) (l25 : K.lookup f25 = some ⟨oc25, od25, .func (PySem.W.fnOf "_law_all" "_law_all" (defArgs s_law_all) (defBody s_law_all) (defScope s_law_all) .none kV25 dc25 pm25 an25 cd25 ct25), sl25⟩) (c25 : PySem.W.codeIn K cd25 "_law_all" = true) (k25 : PySem.W.keepIn K (.ref f25) = true)
    (a26 : PySem.W.nsIn K mainGlobals "_law_text" = some (some (.ref f26))) (l26 : K.lookup f26 = some ⟨oc26, od26, .func (PySem.W.fnOf "_law_text" "_law_text" (defArgs s_law_text) (defBody s_law_text) (defScope s_law_text) .none kV26 dc26 pm26 an26 cd26 ct26), sl26⟩) (c26 : PySem.W.codeIn K cd26 "_law_text" = true) (k26 : PySem.W.keepIn K (.ref f26) = true)
    (a27 : PySem.W.nsIn K mainGlobals "_law_kind" = some (some (.ref f27))) (l27 : K.lookup f27 = some ⟨oc27, od27, .func (PySem.W.fnOf "_law_kind" "_law_kind" (defArgs s_law_kind) (defBody s_law_kind) (defScope s_law_kind) .none kV27 dc27 pm27 an27 cd27 ct27), sl27⟩) (c27 : PySem.W.codeIn K cd27 "_law_kind" = true) (k27 : PySem.W.keepIn K (.ref f27) = true)
    (a28 : PySem.W.nsIn K mainGlobals "_law_odd_row" = some (some (.ref f28))) (l28 : K.lookup f28 = some ⟨oc28, od28, .func (PySem.W.fnOf "_law_odd_row" "_law_odd_row" (defArgs s_law_odd_row) (defBody s_law_odd_row) (defScope s_law_odd_row) .none kV28 dc28 pm28 an28 cd28 ct28), sl28⟩) (c28 : PySem.W.codeIn K cd28 "_law_odd_row" = true) (k28 : PySem.W.keepIn K (.ref f28) = true)
    (a29 : PySem.W.nsIn K mainGlobals "_law_bent_rows" = some (some (.ref f29))) (l29 : K.lookup f29 = some ⟨oc29, od29, .func (PySem.W.fnOf "_law_bent_rows" "_law_bent_rows" (defArgs s_law_bent_rows) (defBody s_law_bent_rows) (defScope s_law_bent_rows) .none kV29 dc29 pm29 an29 cd29 ct29), sl29⟩) (c29 : PySem.W.codeIn K cd29 "_law_bent_rows" = true) (k29 : PySem.W.keepIn K (.ref f29) = true)
    (a30 : PySem.W.nsIn K mainGlobals "_law_sign" = some (some (.ref f30))) (l30 : K.lookup f30 = some ⟨oc30, od30, .func (PySem.W.fnOf "_law_sign" "_law_sign" (defArgs s_law_sign) (defBody s_law_sign) (defScope s_law_sign) .none kV30 dc30 pm30 an30 cd30 ct30), sl30⟩) (c30 : PySem.W.codeIn K cd30 "_law_sign" = true) (k30 : PySem.W.keepIn K (.ref f30) = true)
    (a31 : PySem.W.nsIn K mainGlobals "_law_bent" = some (some (.ref f31))) (l31 : K.lookup f31 = some ⟨oc31, od31, .func (PySem.W.fnOf "_law_bent" "_law_bent" (defArgs s_law_bent) (defBody s_law_bent) (defScope s_law_bent) .none kV31 dc31 pm31 an31 cd31 ct31), sl31⟩) (c31 : PySem.W.codeIn K cd31 "_law_bent" = true) (k31 : PySem.W.keepIn K (.ref f31) = true)
    (a32 : PySem.W.nsIn K mainGlobals "_law_by_figures" = some (some (.ref f32))) (l32 : K.lookup f32 = some ⟨oc32, od32, .func (PySem.W.fnOf "_law_by_figures" "_law_by_figures" (defArgs s_law_by_figures) (defBody s_law_by_figures) (defScope s_law_by_figures) .none kV32 dc32 pm32 an32 cd32 ct32), sl32⟩) (c32 : PySem.W.codeIn K cd32 "_law_by_figures" = true) (k32 : PySem.W.keepIn K (.ref f32) = true)
    (a33 : PySem.W.nsIn K mainGlobals "_law_net_by" = some (some (.ref f33))) (l33 : K.lookup f33 = some ⟨oc33, od33, .func (PySem.W.fnOf "_law_net_by" "_law_net_by" (defArgs s_law_net_by) (defBody s_law_net_by) (defScope s_law_net_by) .none kV33 dc33 pm33 an33 cd33 ct33), sl33⟩) (c33 : PySem.W.codeIn K cd33 "_law_net_by" = true) (k33 : PySem.W.keepIn K (.ref f33) = true)
    (a34 : PySem.W.nsIn K mainGlobals "_law_way_by" = some (some (.ref f34))) (l34 : K.lookup f34 = some ⟨oc34, od34, .func (PySem.W.fnOf "_law_way_by" "_law_way_by" (defArgs s_law_way_by) (defBody s_law_way_by) (defScope s_law_way_by) .none kV34 dc34 pm34 an34 cd34 ct34), sl34⟩) (c34 : PySem.W.codeIn K cd34 "_law_way_by" = true) (k34 : PySem.W.keepIn K (.ref f34) = true)
    (a35 : PySem.W.nsIn K mainGlobals "_law_hues_by" = some (some (.ref f35))) (l35 : K.lookup f35 = some ⟨oc35, od35, .func (PySem.W.fnOf "_law_hues_by" "_law_hues_by" (defArgs s_law_hues_by) (defBody s_law_hues_by) (defScope s_law_hues_by) .none kV35 dc35 pm35 an35 cd35 ct35), sl35⟩) (c35 : PySem.W.codeIn K cd35 "_law_hues_by" = true) (k35 : PySem.W.keepIn K (.ref f35) = true)
    (a36 : PySem.W.nsIn K mainGlobals "_law_read" = some (some (.ref f36))) (l36 : K.lookup f36 = some ⟨oc36, od36, .func (PySem.W.fnOf "_law_read" "_law_read" (defArgs s_law_read) (defBody s_law_read) (defScope s_law_read) .none kV36 dc36 pm36 an36 cd36 ct36), sl36⟩) (c36 : PySem.W.codeIn K cd36 "_law_read" = true) (k36 : PySem.W.keepIn K (.ref f36) = true)
    (a37 : PySem.W.nsIn K mainGlobals "_law_right" = some (some (.ref f37))) (l37 : K.lookup f37 = some ⟨oc37, od37, .func (PySem.W.fnOf "_law_right" "_law_right" (defArgs s_law_right) (defBody s_law_right) (defScope s_law_right) .none kV37 dc37 pm37 an37 cd37 ct37), sl37⟩) (c37 : PySem.W.codeIn K cd37 "_law_right" = true) (k37 : PySem.W.keepIn K (.ref f37) = true)
    (a38 : PySem.W.nsIn K mainGlobals "law" = some (some (.ref f38))) (l38 : K.lookup f38 = some ⟨oc38, od38, .func (PySem.W.fnOf "law" "law" (defArgs s_law) (defBody s_law) (defScope s_law) .none kV38 dc38 pm38 an38 cd38 ct38), sl38⟩) (c38 : PySem.W.codeIn K cd38 "law" = true) (k38 : PySem.W.keepIn K (.ref f38) = true)
    (e0 : PySem.W.nsIn K mainGlobals "MOST_PLACES" = some (some (.int 60 tk0)))
    (e1 : PySem.W.nsIn K mainGlobals "FIGURES" = some (some (.str (Str.ofString "0123456789") tk1)))
    (e2 : PySem.W.nsIn K mainGlobals "MOST_FIGURES" = some (some (.int 30 tk2)))
    (e3 : PySem.W.nsIn K mainGlobals "MOST_WAYS" = some (some (.int 40 tk3)))
    (z0 : PySem.W.nsIn K mainGlobals "ValueError" = some none)
    (z1 : PySem.W.nsIn K mainGlobals "bool" = some none)
    (z2 : PySem.W.nsIn K mainGlobals "int" = some none)
    (z3 : PySem.W.nsIn K mainGlobals "isinstance" = some none)
    (z4 : PySem.W.nsIn K mainGlobals "len" = some none)
    (z5 : PySem.W.nsIn K mainGlobals "list" = some none)
    (z6 : PySem.W.nsIn K mainGlobals "max" = some none)
    (z7 : PySem.W.nsIn K mainGlobals "min" = some none)
    (z8 : PySem.W.nsIn K mainGlobals "range" = some none)
    (z9 : PySem.W.nsIn K mainGlobals "sorted" = some none)
    (z10 : PySem.W.nsIn K mainGlobals "str" = some none)
    (z11 : PySem.W.nsIn K mainGlobals "tuple" = some none)
    {cc0 cc1 cc2 cc3 cc4 cc5 cc6 cc7 cc8 cc9 cc10 cc11 cc12 cc13 cc14 cc15 : Addr}
    (kk0 : PySem.W.nsIn K mainGlobals "TieError" = some (some (.ref cc0))) (xx0 : exkB K cc0 = true) (tt0 : PySem.W.typeIn K (.ref cc0) = some (.type "type"))
    (kk1 : PySem.W.nsIn K mainGlobals "NoNet" = some (some (.ref cc1))) (xx1 : exkB K cc1 = true) (tt1 : PySem.W.typeIn K (.ref cc1) = some (.type "type"))
    (kk2 : PySem.W.nsIn K mainGlobals "OtherNet" = some (some (.ref cc2))) (xx2 : exkB K cc2 = true) (tt2 : PySem.W.typeIn K (.ref cc2) = some (.type "type"))
    (kk3 : PySem.W.nsIn K mainGlobals "NoWay" = some (some (.ref cc3))) (xx3 : exkB K cc3 = true) (tt3 : PySem.W.typeIn K (.ref cc3) = some (.type "type"))
    (kk4 : PySem.W.nsIn K mainGlobals "TooMany" = some (some (.ref cc4))) (xx4 : exkB K cc4 = true) (tt4 : PySem.W.typeIn K (.ref cc4) = some (.type "type"))
    (kk5 : PySem.W.nsIn K mainGlobals "NoHues" = some (some (.ref cc5))) (xx5 : exkB K cc5 = true) (tt5 : PySem.W.typeIn K (.ref cc5) = some (.type "type"))
    (kk6 : PySem.W.nsIn K mainGlobals "NoCrossing" = some (some (.ref cc6))) (xx6 : exkB K cc6 = true) (tt6 : PySem.W.typeIn K (.ref cc6) = some (.type "type"))
    (kk7 : PySem.W.nsIn K mainGlobals "NoLot" = some (some (.ref cc7))) (xx7 : exkB K cc7 = true) (tt7 : PySem.W.typeIn K (.ref cc7) = some (.type "type"))
    (kk8 : PySem.W.nsIn K mainGlobals "NoPlace" = some (some (.ref cc8))) (xx8 : exkB K cc8 = true) (tt8 : PySem.W.typeIn K (.ref cc8) = some (.type "type"))
    (kk9 : PySem.W.nsIn K mainGlobals "NoNumber" = some (some (.ref cc9))) (xx9 : exkB K cc9 = true) (tt9 : PySem.W.typeIn K (.ref cc9) = some (.type "type"))
    (kk10 : PySem.W.nsIn K mainGlobals "NoTurning" = some (some (.ref cc10))) (xx10 : exkB K cc10 = true) (tt10 : PySem.W.typeIn K (.ref cc10) = some (.type "type"))
    (kk11 : PySem.W.nsIn K mainGlobals "NoTie" = some (some (.ref cc11))) (xx11 : exkB K cc11 = true) (tt11 : PySem.W.typeIn K (.ref cc11) = some (.type "type"))
    (kk12 : PySem.W.nsIn K mainGlobals "NoText" = some (some (.ref cc12))) (xx12 : exkB K cc12 = true) (tt12 : PySem.W.typeIn K (.ref cc12) = some (.type "type"))
    (kk13 : PySem.W.nsIn K mainGlobals "NoRow" = some (some (.ref cc13))) (xx13 : exkB K cc13 = true) (tt13 : PySem.W.typeIn K (.ref cc13) = some (.type "type"))
    (kk14 : PySem.W.nsIn K mainGlobals "NoName" = some (some (.ref cc14))) (xx14 : exkB K cc14 = true) (tt14 : PySem.W.typeIn K (.ref cc14) = some (.type "type"))
    (kk15 : PySem.W.nsIn K mainGlobals "NoForm" = some (some (.ref cc15))) (xx15 : exkB K cc15 = true) (tt15 : PySem.W.typeIn K (.ref cc15) = some (.type "type"))
    {nm3 q3 : Str} {N3 : Addr} {bs3 : List Value} {sn3 : List Str} {su3 : List Value} {ab3 : Bool} {co3 : Option Bool} {dd3 : Option Addr} {ma3 mb3 mc3 md3 me3 : Option Value} {fi3 : Addr} {odi3 ani3 : Option Addr} {sli3 : Array (Option Value)} {oci3 kVi3 dci3 pmi3 cdi3 cti3 : Value}
    (la3 : K.lookup cc3 = some (excClassObj nm3 q3 cc3 N3 bs3 [.ref cc0, .type "ValueError", .type "Exception", .type "BaseException", .type "object"] true sn3 su3 ab3 co3 dd3 ma3 mb3 mc3 md3 me3 "ValueError.__new__"))
    (sa3 : PySem.W.findIn K (.ref cc3) "__setattr__" = some (some (.builtin "object.__setattr__"))) (ee3 : PySem.W.subIn K (.ref cc3) (.type "BaseException") = some true) (ke3 : PySem.W.keepIn K (.ref cc3) = true)
    (ai3 : PySem.W.findIn K (.ref cc3) "__init__" = some (some (.ref fi3))) (ti3 : PySem.W.typeIn K (.ref fi3) = some (.type "function")) (li3 : K.lookup fi3 = some ⟨oci3, odi3, .func (PySem.W.fnOf "__init__" "NoWay.__init__" (defArgs s_init_NoWay) (defBody s_init_NoWay) (defScope s_init_NoWay) .none kVi3 dci3 pmi3 ani3 cdi3 cti3), sli3⟩) (ci3 : PySem.W.codeIn K cdi3 "NoWay.__init__" = true) (ki3 : PySem.W.keepIn K (.ref fi3) = true) (nf3 : PySem.W.findIn K (.ref cc3) "at" = some none)
    {nm5 q5 : Str} {N5 : Addr} {bs5 : List Value} {sn5 : List Str} {su5 : List Value} {ab5 : Bool} {co5 : Option Bool} {dd5 : Option Addr} {ma5 mb5 mc5 md5 me5 : Option Value} {fi5 : Addr} {odi5 ani5 : Option Addr} {sli5 : Array (Option Value)} {oci5 kVi5 dci5 pmi5 cdi5 cti5 : Value}
    (la5 : K.lookup cc5 = some (excClassObj nm5 q5 cc5 N5 bs5 [.ref cc0, .type "ValueError", .type "Exception", .type "BaseException", .type "object"] true sn5 su5 ab5 co5 dd5 ma5 mb5 mc5 md5 me5 "ValueError.__new__"))
    (sa5 : PySem.W.findIn K (.ref cc5) "__setattr__" = some (some (.builtin "object.__setattr__"))) (ee5 : PySem.W.subIn K (.ref cc5) (.type "BaseException") = some true) (ke5 : PySem.W.keepIn K (.ref cc5) = true)
    (ai5 : PySem.W.findIn K (.ref cc5) "__init__" = some (some (.ref fi5))) (ti5 : PySem.W.typeIn K (.ref fi5) = some (.type "function")) (li5 : K.lookup fi5 = some ⟨oci5, odi5, .func (PySem.W.fnOf "__init__" "NoHues.__init__" (defArgs s_init_NoHues) (defBody s_init_NoHues) (defScope s_init_NoHues) .none kVi5 dci5 pmi5 ani5 cdi5 cti5), sli5⟩) (ci5 : PySem.W.codeIn K cdi5 "NoHues.__init__" = true) (ki5 : PySem.W.keepIn K (.ref fi5) = true) (nf5 : PySem.W.findIn K (.ref cc5) "place" = some none)
    {nm12 q12 : Str} {N12 : Addr} {bs12 : List Value} {sn12 : List Str} {su12 : List Value} {ab12 : Bool} {co12 : Option Bool} {dd12 : Option Addr} {ma12 mb12 mc12 md12 me12 : Option Value} {fi12 : Addr} {odi12 ani12 : Option Addr} {sli12 : Array (Option Value)} {oci12 kVi12 dci12 pmi12 cdi12 cti12 : Value}
    (la12 : K.lookup cc12 = some (excClassObj nm12 q12 cc12 N12 bs12 [.ref cc0, .type "ValueError", .type "Exception", .type "BaseException", .type "object"] true sn12 su12 ab12 co12 dd12 ma12 mb12 mc12 md12 me12 "ValueError.__new__"))
    (sa12 : PySem.W.findIn K (.ref cc12) "__setattr__" = some (some (.builtin "object.__setattr__"))) (ee12 : PySem.W.subIn K (.ref cc12) (.type "BaseException") = some true) (ke12 : PySem.W.keepIn K (.ref cc12) = true)
    (ai12 : PySem.W.findIn K (.ref cc12) "__init__" = some (some (.ref fi12))) (ti12 : PySem.W.typeIn K (.ref fi12) = some (.type "function")) (li12 : K.lookup fi12 = some ⟨oci12, odi12, .func (PySem.W.fnOf "__init__" "NoText.__init__" (defArgs s_init_NoText) (defBody s_init_NoText) (defScope s_init_NoText) .none kVi12 dci12 pmi12 ani12 cdi12 cti12), sli12⟩) (ci12 : PySem.W.codeIn K cdi12 "NoText.__init__" = true) (ki12 : PySem.W.keepIn K (.ref fi12) = true) (nf12 : PySem.W.findIn K (.ref cc12) "row" = some none)
    (rr0 : PySem.W.readsIn K cc0 (.type "type") = true) (rr1 : PySem.W.specialIn K (.ref cc0) "__getattribute__" = some (some (.builtin "type.__getattribute__"))) (rr2 : PySem.W.findCls K (.ref cc0) (.type "type") "__init__" = some (.val (.builtin "ValueError.__init__")))
    (ex1 : PySem.W.excIn K cc1 [.type "ValueError", .type "Exception", .type "BaseException", .type "object"] "ValueError.__new__" = true) (pp1 : PySem.W.keepIn K (.ref cc1) = true)
    (uu1 : PySem.W.subIn K (.ref cc1) (.ref cc0) = some true)
    (ss1 : PySem.W.subIn K (.ref cc1) (.ref cc1) = some true)
    (qq1_0 : PySem.W.kitOne K (.ref cc1) (.ref cc6) = some false)
    (qq1_1 : PySem.W.kitOne K (.ref cc1) (.ref cc15) = some false)
    (qq1_2 : PySem.W.kitOne K (.ref cc1) (.ref cc5) = some false)
    (qq1_3 : PySem.W.kitOne K (.ref cc1) (.ref cc7) = some false)
    (qq1_4 : PySem.W.kitOne K (.ref cc1) (.ref cc14) = some false)
    (qq1_5 : PySem.W.kitOne K (.ref cc1) (.ref cc1) = some true)
    (qq1_6 : PySem.W.kitOne K (.ref cc1) (.ref cc9) = some false)
    (qq1_7 : PySem.W.kitOne K (.ref cc1) (.ref cc8) = some false)
    (qq1_8 : PySem.W.kitOne K (.ref cc1) (.ref cc13) = some false)
    (qq1_9 : PySem.W.kitOne K (.ref cc1) (.ref cc12) = some false)
    (qq1_10 : PySem.W.kitOne K (.ref cc1) (.ref cc11) = some false)
    (qq1_11 : PySem.W.kitOne K (.ref cc1) (.ref cc10) = some false)
    (qq1_12 : PySem.W.kitOne K (.ref cc1) (.ref cc3) = some false)
    (qq1_13 : PySem.W.kitOne K (.ref cc1) (.ref cc2) = some false)
    (qq1_14 : PySem.W.kitOne K (.ref cc1) (.ref cc4) = some false)
    (qq1_15 : PySem.W.kitOne K (.ref cc1) (.type "ValueError") = some true)
    (uu12 : PySem.W.subIn K (.ref cc12) (.ref cc0) = some true)
    (qq12_0 : PySem.W.kitOne K (.ref cc12) (.ref cc6) = some false)
    (qq12_1 : PySem.W.kitOne K (.ref cc12) (.ref cc15) = some false)
    (qq12_2 : PySem.W.kitOne K (.ref cc12) (.ref cc5) = some false)
    (qq12_3 : PySem.W.kitOne K (.ref cc12) (.ref cc7) = some false)
    (qq12_4 : PySem.W.kitOne K (.ref cc12) (.ref cc14) = some false)
    (qq12_5 : PySem.W.kitOne K (.ref cc12) (.ref cc1) = some false)
    (qq12_6 : PySem.W.kitOne K (.ref cc12) (.ref cc9) = some false)
    (qq12_7 : PySem.W.kitOne K (.ref cc12) (.ref cc8) = some false)
    (qq12_8 : PySem.W.kitOne K (.ref cc12) (.ref cc13) = some false)
    (qq12_9 : PySem.W.kitOne K (.ref cc12) (.ref cc12) = some true)
    (qq12_10 : PySem.W.kitOne K (.ref cc12) (.ref cc11) = some false)
    (qq12_11 : PySem.W.kitOne K (.ref cc12) (.ref cc10) = some false)
    (qq12_12 : PySem.W.kitOne K (.ref cc12) (.ref cc3) = some false)
    (qq12_13 : PySem.W.kitOne K (.ref cc12) (.ref cc2) = some false)
    (qq12_14 : PySem.W.kitOne K (.ref cc12) (.ref cc4) = some false)
    (qq12_15 : PySem.W.kitOne K (.ref cc12) (.type "ValueError") = some true)
    (uu3 : PySem.W.subIn K (.ref cc3) (.ref cc0) = some true)
    (qq3_0 : PySem.W.kitOne K (.ref cc3) (.ref cc6) = some false)
    (qq3_1 : PySem.W.kitOne K (.ref cc3) (.ref cc15) = some false)
    (qq3_2 : PySem.W.kitOne K (.ref cc3) (.ref cc5) = some false)
    (qq3_3 : PySem.W.kitOne K (.ref cc3) (.ref cc7) = some false)
    (qq3_4 : PySem.W.kitOne K (.ref cc3) (.ref cc14) = some false)
    (qq3_5 : PySem.W.kitOne K (.ref cc3) (.ref cc1) = some false)
    (qq3_6 : PySem.W.kitOne K (.ref cc3) (.ref cc9) = some false)
    (qq3_7 : PySem.W.kitOne K (.ref cc3) (.ref cc8) = some false)
    (qq3_8 : PySem.W.kitOne K (.ref cc3) (.ref cc13) = some false)
    (qq3_9 : PySem.W.kitOne K (.ref cc3) (.ref cc12) = some false)
    (qq3_10 : PySem.W.kitOne K (.ref cc3) (.ref cc11) = some false)
    (qq3_11 : PySem.W.kitOne K (.ref cc3) (.ref cc10) = some false)
    (qq3_12 : PySem.W.kitOne K (.ref cc3) (.ref cc3) = some true)
    (qq3_13 : PySem.W.kitOne K (.ref cc3) (.ref cc2) = some false)
    (qq3_14 : PySem.W.kitOne K (.ref cc3) (.ref cc4) = some false)
    (qq3_15 : PySem.W.kitOne K (.ref cc3) (.type "ValueError") = some true)
    : ∃ fd : FuncData, (∀ (s : Shared) (v : Value), BindsTo s fd ⟨[v], []⟩ [("_law_script", v)]) ∧ ∀ base : Heap, K.In base → base.Ns mainGlobals mg → FnOk l.prog w K mg base CX0 9 fa fd ["_law_script"] (sp_law K) := by
  have e := hfa.symm.trans (PySem.W.mg_of X G a38)
  cases e
  have F0 := fun_mk (st := s_is_tree) l0 c0 k0
  have b0 := F0.binds (ps := ["parents"]) fun _ _ _ _ _ _ us hl => match us, hl with | [_], _ => rfl
  have F1 := fun_mk (st := s_look_net) l1 c1 k1
  have b1 := F1.binds (ps := ["net"]) fun _ _ _ _ _ _ us hl => match us, hl with | [_], _ => rfl
  have F2 := fun_mk (st := s_places_of) l2 c2 k2
  have b2 := F2.binds (ps := ["net"]) fun _ _ _ _ _ _ us hl => match us, hl with | [_], _ => rfl
  have F3 := fun_mk (st := s_is_way) l3 c3 k3
  have b3 := F3.binds (ps := ["net", "way"]) fun _ _ _ _ _ _ us hl => match us, hl with | [_, _], _ => rfl
  have F4 := fun_mk (st := s_ties_on) l4 c4 k4
  have b4 := F4.binds (ps := ["net", "way"]) fun _ _ _ _ _ _ us hl => match us, hl with | [_, _], _ => rfl
  have F5 := fun_mk (st := s_must_be_ways) l5 c5 k5
  have b5 := F5.binds (ps := ["net", "ways"]) fun _ _ _ _ _ _ us hl => match us, hl with | [_, _], _ => rfl
  have F6 := fun_mk (st := s_look_ways) l6 c6 k6
  have b6 := F6.binds (ps := ["net", "ways"]) fun _ _ _ _ _ _ us hl => match us, hl with | [_, _], _ => rfl
  have F7 := fun_mk (st := s_first_clash) l7 c7 k7
  have b7 := F7.binds (ps := ["lain", "hues"]) fun _ _ _ _ _ _ us hl => match us, hl with | [_, _], _ => rfl
  have F8 := fun_mk (st := s_clash) l8 c8 k8
  have b8 := F8.binds (ps := ["net", "ways", "hues"]) fun _ _ _ _ _ _ us hl => match us, hl with | [_, _, _], _ => rfl
  have F9 := fun_mk (st := s_number_of) l9 c9 k9
  have b9 := F9.binds (ps := ["word"]) fun _ _ _ _ _ _ us hl => match us, hl with | [_], _ => rfl
  have F10 := fun_mk (st := s_numbers_of) l10 c10 k10
  have b10 := F10.binds (ps := ["words"]) fun _ _ _ _ _ _ us hl => match us, hl with | [_], _ => rfl
  have F11 := fun_mk (st := s_net_of) l11 c11 k11
  have b11 := F11.binds (ps := ["words"]) fun _ _ _ _ _ _ us hl => match us, hl with | [_], _ => rfl
  have F12 := fun_mk (st := s_way_of) l12 c12 k12
  have b12 := F12.binds (ps := ["net", "words"]) fun _ _ _ _ _ _ us hl => match us, hl with | [_, _], _ => rfl
  have F13 := fun_mk (st := s_hues_of) l13 c13 k13
  have b13 := F13.binds (ps := ["net", "ways", "words"]) fun _ _ _ _ _ _ us hl => match us, hl with | [_, _, _], _ => rfl
  have F14 := fun_mk (st := s_read_net) l14 c14 k14
  have b14 := F14.binds (ps := ["text"]) fun _ _ _ _ _ _ us hl => match us, hl with | [_], _ => rfl
  have F15 := fun_mk (st := s_law_mix) l15 c15 k15
  have b15 := F15.binds (ps := ["_law_number", "_law_k"]) fun _ _ _ _ _ _ us hl => match us, hl with | [_, _], _ => rfl
  have F16 := fun_mk (st := s_law_left) l16 c16 k16
  have b16 := F16.binds (ps := ["_law_cell"]) fun _ _ _ _ _ _ us hl => match us, hl with | [_], _ => rfl
  have F17 := fun_mk (st := s_law_draw) l17 c17 k17
  have b17 := F17.binds (ps := ["_law_left_here", "_law_base"]) fun _ _ _ _ _ _ us hl => match us, hl with | [_, _], _ => rfl
  have F18 := fun_mk (st := s_law_whole) l18 c18 k18
  have b18 := F18.binds (ps := ["_law_found"]) fun _ _ _ _ _ _ us hl => match us, hl with | [_], _ => rfl
  have F19 := fun_mk (st := s_law_way) l19 c19 k19
  have b19 := F19.binds (ps := ["_law_left_here", "_law_many"]) fun _ _ _ _ _ _ us hl => match us, hl with | [_, _], _ => rfl
  have F20 := fun_mk (st := s_law_net) l20 c20 k20
  have b20 := F20.binds (ps := ["_law_left_here"]) fun _ _ _ _ _ _ us hl => match us, hl with | [_], _ => rfl
  have F21 := fun_mk (st := s_law_size) l21 c21 k21
  have b21 := F21.binds (ps := ["_law_net_here"]) fun _ _ _ _ _ _ us hl => match us, hl with | [_], _ => rfl
  have F22 := fun_mk (st := s_law_ties) l22 c22 k22
  have b22 := F22.binds (ps := ["_law_net_here", "_law_way_here"]) fun _ _ _ _ _ _ us hl => match us, hl with | [_, _], _ => rfl
  have F23 := fun_mk (st := s_law_common) l23 c23 k23
  have b23 := F23.binds (ps := ["_law_one", "_law_other"]) fun _ _ _ _ _ _ us hl => match us, hl with | [_, _], _ => rfl
  have F24 := fun_mk (st := s_law_hues) l24 c24 k24
  have b24 := F24.binds (ps := ["_law_left_here", "_law_net_here", "_law_ways"]) fun _ _ _ _ _ _ us hl => match us, hl with | [_, _, _], _ => rfl
  have F25 := fun_mk (st := s_law_all) l25 c25 k25
  have b25 := F25.binds (ps := ["_law_left_here"]) fun _ _ _ _ _ _ us hl => match us, hl with | [_], _ => rfl
  have F26 := fun_mk (st := s_law_text) l26 c26 k26
  have b26 := F26.binds (ps := ["_law_net_here", "_law_ways", "_law_hues_here"]) fun _ _ _ _ _ _ us hl => match us, hl with | [_, _, _], _ => rfl
  have F27 := fun_mk (st := s_law_kind) l27 c27 k27
  have b27 := F27.binds (ps := ["_law_caught"]) fun _ _ _ _ _ _ us hl => match us, hl with | [_], _ => rfl
  have F28 := fun_mk (st := s_law_odd_row) l28 c28 k28
  have b28 := F28.binds (ps := ["_law_left_here"]) fun _ _ _ _ _ _ us hl => match us, hl with | [_], _ => rfl
  have F29 := fun_mk (st := s_law_bent_rows) l29 c29 k29
  have b29 := F29.binds (ps := ["_law_left_here", "_law_text_here", "_law_choice"]) fun _ _ _ _ _ _ us hl => match us, hl with | [_, _, _], _ => rfl
  have F30 := fun_mk (st := s_law_sign) l30 c30 k30
  have b30 := F30.binds (ps := ["_law_left_here"]) fun _ _ _ _ _ _ us hl => match us, hl with | [_], _ => rfl
  have F31 := fun_mk (st := s_law_bent) l31 c31 k31
  have b31 := F31.binds (ps := ["_law_left_here", "_law_text_here"]) fun _ _ _ _ _ _ us hl => match us, hl with | [_, _], _ => rfl
  have F32 := fun_mk (st := s_law_by_figures) l32 c32 k32
  have b32 := F32.binds (ps := ["_law_word"]) fun _ _ _ _ _ _ us hl => match us, hl with | [_], _ => rfl
  have F33 := fun_mk (st := s_law_net_by) l33 c33 k33
  have b33 := F33.binds (ps := ["_law_words"]) fun _ _ _ _ _ _ us hl => match us, hl with | [_], _ => rfl
  have F34 := fun_mk (st := s_law_way_by) l34 c34 k34
  have b34 := F34.binds (ps := ["_law_net_here", "_law_words"]) fun _ _ _ _ _ _ us hl => match us, hl with | [_, _], _ => rfl
  have F35 := fun_mk (st := s_law_hues_by) l35 c35 k35
  have b35 := F35.binds (ps := ["_law_net_here", "_law_ways", "_law_words"]) fun _ _ _ _ _ _ us hl => match us, hl with | [_, _, _], _ => rfl
  have F36 := fun_mk (st := s_law_read) l36 c36 k36
  have b36 := F36.binds (ps := ["_law_text_here"]) fun _ _ _ _ _ _ us hl => match us, hl with | [_], _ => rfl
  have F37 := fun_mk (st := s_law_right) l37 c37 k37
  have b37 := F37.binds (ps := ["_law_text_here"]) fun _ _ _ _ _ _ us hl => match us, hl with | [_], _ => rfl
  have F38 := fun_mk (st := s_law) l38 c38 k38
  have b38 := F38.binds (ps := ["_law_script"]) fun _ _ _ _ _ _ us hl => match us, hl with | [_], _ => rfl
  have Fi3 := fun_mk (st := s_init_NoWay) li3 ci3 ki3
  have bi3 := Fi3.binds (ps := ["self", "at"]) fun _ _ _ _ _ _ us hl => match us, hl with | [_, _], _ => rfl
  have Fi5 := fun_mk (st := s_init_NoHues) li5 ci5 ki5
  have bi5 := Fi5.binds (ps := ["self", "place"]) fun _ _ _ _ _ _ us hl => match us, hl with | [_, _], _ => rfl
  have Fi12 := fun_mk (st := s_init_NoText) li12 ci12 ki12
  have bi12 := Fi12.binds (ps := ["self", "row"]) fun _ _ _ _ _ _ us hl => match us, hl with | [_, _], _ => rfl
  have T : Txt K mg ⟨cc0, cc1, cc2, cc3, cc4, cc5, cc6, cc7, cc8, cc9, cc10, cc11, cc12, cc13, cc14, cc15, fi3, _, fi5, _, fi12, _, f0, _, f1, _, f2, _, f3, _, f4, _, f5, _, f6, _, f7, _, f8, _, f9, _, f10, _, f11, _, f12, _, f13, _, f14, _, f15, _, f16, _, f17, _, f18, _, f19, _, f20, _, f21, _, f22, _, f23, _, f24, _, f25, _, f26, _, f27, _, f28, _, f29, _, f30, _, f31, _, f32, _, f33, _, f34, _, f35, _, f36, _, f37, _, fa, _⟩ :=
    ⟨PySem.W.mg_of X G a0, F0, b0, PySem.W.mg_of X G a1, F1, b1, PySem.W.mg_of X G a2, F2, b2, PySem.W.mg_of X G a3, F3, b3, PySem.W.mg_of X G a4, F4, b4, PySem.W.mg_of X G a5, F5, b5, PySem.W.mg_of X G a6, F6, b6, PySem.W.mg_of X G a7, F7, b7, PySem.W.mg_of X G a8, F8, b8, PySem.W.mg_of X G a9, F9, b9, PySem.W.mg_of X G a10, F10, b10, PySem.W.mg_of X G a11, F11, b11, PySem.W.mg_of X G a12, F12, b12, PySem.W.mg_of X G a13, F13, b13, PySem.W.mg_of X G a14, F14, b14, PySem.W.mg_of X G a15, F15, b15, PySem.W.mg_of X G a16, F16, b16, PySem.W.mg_of X G a17, F17, b17, PySem.W.mg_of X G a18, F18, b18, PySem.W.mg_of X G a19, F19, b19, PySem.W.mg_of X G a20, F20, b20, PySem.W.mg_of X G a21, F21, b21, PySem.W.mg_of X G a22, F22, b22, PySem.W.mg_of X G a23, F23, b23, PySem.W.mg_of X G a24, F24, b24, PySem.W.mg_of X G a25, F25, b25, PySem.W.mg_of X G a26, F26, b26, PySem.W.mg_of X G a27, F27, b27, PySem.W.mg_of X G a28, F28, b28, PySem.W.mg_of X G a29, F29, b29, PySem.W.mg_of X G a30, F30, b30, PySem.W.mg_of X G a31, F31, b31, PySem.W.mg_of X G a32, F32, b32, PySem.W.mg_of X G a33, F33, b33, PySem.W.mg_of X G a34, F34, b34, PySem.W.mg_of X G a35, F35, b35, PySem.W.mg_of X G a36, F36, b36, PySem.W.mg_of X G a37, F37, b37, PySem.W.mg_of X G a38, F38, b38, tok_mk (PySem.W.mg_of X G e0), tok_mkS (PySem.W.mg_of X G e1), tok_mk (PySem.W.mg_of X G e2), tok_mk (PySem.W.mg_of X G e3), PySem.W.mg_none_of X G z0, PySem.W.mg_none_of X G z1, PySem.W.mg_none_of X G z2, PySem.W.mg_none_of X G z3, PySem.W.mg_none_of X G z4, PySem.W.mg_none_of X G z5, PySem.W.mg_none_of X G z6, PySem.W.mg_none_of X G z7, PySem.W.mg_none_of X G z8, PySem.W.mg_none_of X G z9, PySem.W.mg_none_of X G z10, PySem.W.mg_none_of X G z11, PySem.W.mg_of X G kk0, exkB_ok xx0, tt0, PySem.W.mg_of X G kk1, exkB_ok xx1, tt1, PySem.W.mg_of X G kk2, exkB_ok xx2, tt2, PySem.W.mg_of X G kk3, exkB_ok xx3, tt3, PySem.W.mg_of X G kk4, exkB_ok xx4, tt4, PySem.W.mg_of X G kk5, exkB_ok xx5, tt5, PySem.W.mg_of X G kk6, exkB_ok xx6, tt6, PySem.W.mg_of X G kk7, exkB_ok xx7, tt7, PySem.W.mg_of X G kk8, exkB_ok xx8, tt8, PySem.W.mg_of X G kk9, exkB_ok xx9, tt9, PySem.W.mg_of X G kk10, exkB_ok xx10, tt10, PySem.W.mg_of X G kk11, exkB_ok xx11, tt11, PySem.W.mg_of X G kk12, exkB_ok xx12, tt12, PySem.W.mg_of X G kk13, exkB_ok xx13, tt13, PySem.W.mg_of X G kk14, exkB_ok xx14, tt14, PySem.W.mg_of X G kk15, exkB_ok xx15, tt15, ⟨⟨nm3, q3, N3, bs3, _, sn3, su3, ab3, co3, dd3, ma3, mb3, mc3, md3, me3, la3, rfl⟩, sa3, ee3, tt3, ke3⟩, ai3, ti3, Fi3, bi3, nf3, ⟨⟨nm5, q5, N5, bs5, _, sn5, su5, ab5, co5, dd5, ma5, mb5, mc5, md5, me5, la5, rfl⟩, sa5, ee5, tt5, ke5⟩, ai5, ti5, Fi5, bi5, nf5, ⟨⟨nm12, q12, N12, bs12, _, sn12, su12, ab12, co12, dd12, ma12, mb12, mc12, md12, me12, la12, rfl⟩, sa12, ee12, tt12, ke12⟩, ai12, ti12, Fi12, bi12, nf12, ⟨PySem.W.mg_of X G kk0, rr0, rr1, rr2⟩, ex1, pp1, uu1, ss1, qq1_0, qq1_1, qq1_2, qq1_3, qq1_4, qq1_5, qq1_6, qq1_7, qq1_8, qq1_9, qq1_10, qq1_11, qq1_12, qq1_13, qq1_14, qq1_15, uu12, qq12_0, qq12_1, qq12_2, qq12_3, qq12_4, qq12_5, qq12_6, qq12_7, qq12_8, qq12_9, qq12_10, qq12_11, qq12_12, qq12_13, qq12_14, qq12_15, uu3, qq3_0, qq3_1, qq3_2, qq3_3, qq3_4, qq3_5, qq3_6, qq3_7, qq3_8, qq3_9, qq3_10, qq3_11, qq3_12, qq3_13, qq3_14, qq3_15⟩
  exact ⟨_, fun s v => .of_eq rfl, fun base _ _ => ok_law T⟩
end Pf
open PySem PySem.W PyProof.Rows
set_option maxHeartbeats 0 in
theorem PySem.Challenge.cw_tiehues_k79_texts_of_no_net_holds : PySem.Challenge.rw_tiehues_k79_texts_of_no_net.Holds := by
  w_on; o_law; k_head; (case hw => w_witness2)
  k_fill
  refine L2.walk_ofK (l := PySem.Challenge.rw_tiehues_k79_texts_of_no_net) (n := 63) (k := 9) (x := "_law_script") (CX := L2.CX0) (sp := Pf.sp_law) rfl (by decide) rfl ⟨rfl, by decide, by decide⟩ (fun w h Y => PySem.W.kIn_of Y) ?F (fun _ _ a ns hl _ hS => ⟨a, ns, rfl, hS, hl, fun _ => rfl⟩) (fun _ _ _ _ h => h)
  case F =>
    intro w mg fa h KX G hmg
    refine' Pf.all_mk KX G hmg ?a0 ?l0 ?c0 ?k0 ?a1 ?l1 ?c1 ?k1 ?a2 ?l2 ?c2 ?k2 ?a3 ?l3 ?c3 ?k3 ?a4 ?l4 ?c4 ?k4 ?a5 ?l5 ?c5 ?k5 ?a6 ?l6 ?c6 ?k6 ?a7 ?l7 ?c7 ?k7 ?a8 ?l8 ?c8 ?k8 ?a9 ?l9 ?c9 ?k9 ?a10 ?l10 ?c10 ?k10 ?a11 ?l11 ?c11 ?k11 ?a12 ?l12 ?c12 ?k12 ?a13 ?l13 ?c13 ?k13 ?a14 ?l14 ?c14 ?k14 ?a15 ?l15 ?c15 ?k15 ?a16 ?l16 ?c16 ?k16 ?a17 ?l17 ?c17 ?k17 ?a18 ?l18 ?c18 ?k18 ?a19 ?l19 ?c19 ?k19 ?a20 ?l20 ?c20 ?k20 ?a21 ?l21 ?c21 ?k21 ?a22 ?l22 ?c22 ?k22 ?a23 ?l23 ?c23 ?k23 ?a24 ?l24 ?c24 ?k24 ?a25 ?l25 ?c25 ?k25 ?a26 ?l26 ?c26 ?k26 ?a27 ?l27 ?c27 ?k27 ?a28 ?l28 ?c28 ?k28 ?a29 ?l29 ?c29 ?k29 ?a30 ?l30 ?c30 ?k30 ?a31 ?l31 ?c31 ?k31 ?a32 ?l32 ?c32 ?k32 ?a33 ?l33 ?c33 ?k33 ?a34 ?l34 ?c34 ?k34 ?a35 ?l35 ?c35 ?k35 ?a36 ?l36 ?c36 ?k36 ?a37 ?l37 ?c37 ?k37 ?a38 ?l38 ?c38 ?k38 ?e0 ?e1 ?e2 ?e3 ?z0 ?z1 ?z2 ?z3 ?z4 ?z5 ?z6 ?z7 ?z8 ?z9 ?z10 ?z11 ?kk0 ?xx0 ?tt0 ?kk1 ?xx1 ?tt1 ?kk2 ?xx2 ?tt2 ?kk3 ?xx3 ?tt3 ?kk4 ?xx4 ?tt4 ?kk5 ?xx5 ?tt5 ?kk6 ?xx6 ?tt6 ?kk7 ?xx7 ?tt7 ?kk8 ?xx8 ?tt8 ?kk9 ?xx9 ?tt9 ?kk10 ?xx10 ?tt10 ?kk11 ?xx11 ?tt11 ?kk12 ?xx12 ?tt12 ?kk13 ?xx13 ?tt13 ?kk14 ?xx14 ?tt14 ?kk15 ?xx15 ?tt15 ?la3 ?sa3 ?ee3 ?ke3 ?ai3 ?ti3 ?li3 ?ci3 ?ki3 ?nf3 ?la5 ?sa5 ?ee5 ?ke5 ?ai5 ?ti5 ?li5 ?ci5 ?ki5 ?nf5 ?la12 ?sa12 ?ee12 ?ke12 ?ai12 ?ti12 ?li12 ?ci12 ?ki12 ?nf12 ?rr0 ?rr1 ?rr2 ?ex1 ?pp1 ?uu1 ?ss1 ?qq1_0 ?qq1_1 ?qq1_2 ?qq1_3 ?qq1_4 ?qq1_5 ?qq1_6 ?qq1_7 ?qq1_8 ?qq1_9 ?qq1_10 ?qq1_11 ?qq1_12 ?qq1_13 ?qq1_14 ?qq1_15 ?uu12 ?qq12_0 ?qq12_1 ?qq12_2 ?qq12_3 ?qq12_4 ?qq12_5 ?qq12_6 ?qq12_7 ?qq12_8 ?qq12_9 ?qq12_10 ?qq12_11 ?qq12_12 ?qq12_13 ?qq12_14 ?qq12_15 ?uu3 ?qq3_0 ?qq3_1 ?qq3_2 ?qq3_3 ?qq3_4 ?qq3_5 ?qq3_6 ?qq3_7 ?qq3_8 ?qq3_9 ?qq3_10 ?qq3_11 ?qq3_12 ?qq3_13 ?qq3_14 ?qq3_15
    (case a0 => k_is); (case l0 => k_is); (case c0 => k_is); (case k0 => k_is); (case a1 => k_is); (case l1 => k_is); (case c1 => k_is); (case k1 => k_is); (case a2 => k_is); (case l2 => k_is); (case c2 => k_is); (case k2 => k_is); (case a3 => k_is); (case l3 => k_is); (case c3 => k_is); (case k3 => k_is); (case a4 => k_is); (case l4 => k_is); (case c4 => k_is); (case k4 => k_is); (case a5 => k_is); (case l5 => k_is); (case c5 => k_is); (case k5 => k_is); (case a6 => k_is); (case l6 => k_is); (case c6 => k_is); (case k6 => k_is); (case a7 => k_is); (case l7 => k_is); (case c7 => k_is); (case k7 => k_is); (case a8 => k_is); (case l8 => k_is); (case c8 => k_is); (case k8 => k_is); (case a9 => k_is); (case l9 => k_is); (case c9 => k_is); (case k9 => k_is); (case a10 => k_is); (case l10 => k_is); (case c10 => k_is); (case k10 => k_is); (case a11 => k_is); (case l11 => k_is); (case c11 => k_is); (case k11 => k_is); (case a12 => k_is); (case l12 => k_is); (case c12 => k_is); (case k12 => k_is); (case a13 => k_is); (case l13 => k_is); (case c13 => k_is); (case k13 => k_is); (case a14 => k_is); (case l14 => k_is); (case c14 => k_is); (case k14 => k_is); (case a15 => k_is); (case l15 => k_is); (case c15 => k_is); (case k15 => k_is); (case a16 => k_is); (case l16 => k_is); (case c16 => k_is); (case k16 => k_is); (case a17 => k_is); (case l17 => k_is); (case c17 => k_is); (case k17 => k_is); (case a18 => k_is); (case l18 => k_is); (case c18 => k_is); (case k18 => k_is); (case a19 => k_is); (case l19 => k_is); (case c19 => k_is); (case k19 => k_is); (case a20 => k_is); (case l20 => k_is); (case c20 => k_is); (case k20 => k_is); (case a21 => k_is); (case l21 => k_is); (case c21 => k_is); (case k21 => k_is); (case a22 => k_is); (case l22 => k_is); (case c22 => k_is); (case k22 => k_is); (case a23 => k_is); (case l23 => k_is); (case c23 => k_is); (case k23 => k_is); (case a24 => k_is); (case l24 => k_is); (case c24 => k_is); (case k24 => k_is); (case a25 => k_is); (case l25 => k_is); (case c25 => k_is); (case k25 => k_is); (case a26 => k_is); (case l26 => k_is); (case c26 => k_is); (case k26 => k_is); (case a27 => k_is); (case l27 => k_is); (case c27 => k_is); (case k27 => k_is); (case a28 => k_is); (case l28 => k_is); (case c28 => k_is); (case k28 => k_is); (case a29 => k_is); (case l29 => k_is); (case c29 => k_is); (case k29 => k_is); (case a30 => k_is); (case l30 => k_is); (case c30 => k_is); (case k30 => k_is); (case a31 => k_is); (case l31 => k_is); (case c31 => k_is); (case k31 => k_is); (case a32 => k_is); (case l32 => k_is); (case c32 => k_is); (case k32 => k_is); (case a33 => k_is); (case l33 => k_is); (case c33 => k_is); (case k33 => k_is); (case a34 => k_is); (case l34 => k_is); (case c34 => k_is); (case k34 => k_is); (case a35 => k_is); (case l35 => k_is); (case c35 => k_is); (case k35 => k_is); (case a36 => k_is); (case l36 => k_is); (case c36 => k_is); (case k36 => k_is); (case a37 => k_is); (case l37 => k_is); (case c37 => k_is); (case k37 => k_is); (case a38 => k_is); (case l38 => k_is); (case c38 => k_is); (case k38 => k_is); (case e0 => k_is); (case e1 => k_is); (case e2 => k_is); (case e3 => k_is); (case z0 => k_is); (case z1 => k_is); (case z2 => k_is); (case z3 => k_is); (case z4 => k_is); (case z5 => k_is); (case z6 => k_is); (case z7 => k_is); (case z8 => k_is); (case z9 => k_is); (case z10 => k_is); (case z11 => k_is); (case kk0 => k_is); (case xx0 => kernel_rfl); (case tt0 => k_is); (case kk1 => k_is); (case xx1 => kernel_rfl); (case tt1 => k_is); (case kk2 => k_is); (case xx2 => kernel_rfl); (case tt2 => k_is); (case kk3 => k_is); (case xx3 => kernel_rfl); (case tt3 => k_is); (case kk4 => k_is); (case xx4 => kernel_rfl); (case tt4 => k_is); (case kk5 => k_is); (case xx5 => kernel_rfl); (case tt5 => k_is); (case kk6 => k_is); (case xx6 => kernel_rfl); (case tt6 => k_is); (case kk7 => k_is); (case xx7 => kernel_rfl); (case tt7 => k_is); (case kk8 => k_is); (case xx8 => kernel_rfl); (case tt8 => k_is); (case kk9 => k_is); (case xx9 => kernel_rfl); (case tt9 => k_is); (case kk10 => k_is); (case xx10 => kernel_rfl); (case tt10 => k_is); (case kk11 => k_is); (case xx11 => kernel_rfl); (case tt11 => k_is); (case kk12 => k_is); (case xx12 => kernel_rfl); (case tt12 => k_is); (case kk13 => k_is); (case xx13 => kernel_rfl); (case tt13 => k_is); (case kk14 => k_is); (case xx14 => kernel_rfl); (case tt14 => k_is); (case kk15 => k_is); (case xx15 => kernel_rfl); (case tt15 => k_is); (case la3 => k_is); (case sa3 => k_is); (case ee3 => k_is); (case ke3 => k_is); (case ai3 => k_is); (case ti3 => k_is); (case li3 => k_is); (case ci3 => k_is); (case ki3 => k_is); (case nf3 => k_is); (case la5 => k_is); (case sa5 => k_is); (case ee5 => k_is); (case ke5 => k_is); (case ai5 => k_is); (case ti5 => k_is); (case li5 => k_is); (case ci5 => k_is); (case ki5 => k_is); (case nf5 => k_is); (case la12 => k_is); (case sa12 => k_is); (case ee12 => k_is); (case ke12 => k_is); (case ai12 => k_is); (case ti12 => k_is); (case li12 => k_is); (case ci12 => k_is); (case ki12 => k_is); (case nf12 => k_is); (case rr0 => k_is); (case rr1 => k_is); (case rr2 => k_is); (case ex1 => k_exc); (case pp1 => k_is); (case uu1 => k_is); (case ss1 => k_is); (case qq1_0 => kernel_rfl); (case qq1_1 => kernel_rfl); (case qq1_2 => kernel_rfl); (case qq1_3 => kernel_rfl); (case qq1_4 => kernel_rfl); (case qq1_5 => kernel_rfl); (case qq1_6 => kernel_rfl); (case qq1_7 => kernel_rfl); (case qq1_8 => kernel_rfl); (case qq1_9 => kernel_rfl); (case qq1_10 => kernel_rfl); (case qq1_11 => kernel_rfl); (case qq1_12 => kernel_rfl); (case qq1_13 => kernel_rfl); (case qq1_14 => kernel_rfl); (case qq1_15 => kernel_rfl); (case uu12 => k_is); (case qq12_0 => kernel_rfl); (case qq12_1 => kernel_rfl); (case qq12_2 => kernel_rfl); (case qq12_3 => kernel_rfl); (case qq12_4 => kernel_rfl); (case qq12_5 => kernel_rfl); (case qq12_6 => kernel_rfl); (case qq12_7 => kernel_rfl); (case qq12_8 => kernel_rfl); (case qq12_9 => kernel_rfl); (case qq12_10 => kernel_rfl); (case qq12_11 => kernel_rfl); (case qq12_12 => kernel_rfl); (case qq12_13 => kernel_rfl); (case qq12_14 => kernel_rfl); (case qq12_15 => kernel_rfl); (case uu3 => k_is); (case qq3_0 => kernel_rfl); (case qq3_1 => kernel_rfl); (case qq3_2 => kernel_rfl); (case qq3_3 => kernel_rfl); (case qq3_4 => kernel_rfl); (case qq3_5 => kernel_rfl); (case qq3_6 => kernel_rfl); (case qq3_7 => kernel_rfl); (case qq3_8 => kernel_rfl); (case qq3_9 => kernel_rfl); (case qq3_10 => kernel_rfl); (case qq3_11 => kernel_rfl); (case qq3_12 => kernel_rfl); (case qq3_13 => kernel_rfl); (case qq3_14 => kernel_rfl); (case qq3_15 => kernel_rfl)
