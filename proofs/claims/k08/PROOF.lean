import PyProof.Rows.All
import Wide.All
import OpenK.AllK
import Wide.FinOn
import HandS.ForMost
import HandS.ForExc
import HandS.Evl
import HandS.SortInts
import HandS.IsInst
import HandS.Strs
import HandS.Style
import HandS.TupLe
import HandS.Conv
import HandS.RevRange
import HandS.StrMore
import HandS.SortRule
import HandS.SetFor
import HandS.ExcIs
import HandS.CallLocal
import HandS.HotCalls
import KE.RegKIsAll
import HandS.SuiteRaise
import PySem.Challenge.RW_squarefield_k08_written
set_option Elab.async false
set_option linter.all false
set_option maxRecDepth 100000
set_option maxHeartbeats 4000000
/-! ### A layer of our own over the hand layer: what an expression evaluates to, as data (EvD); statements by it -/
namespace Sq
open PySem PySem.Spec PyProof.Rows L2 Evl

/-! #### operators with one kind of operand -/
section
variable {X : Cx}
def rEqI : R2 := rI0 fun i j => .bl (decide (i = j))
def rNeI : R2 := rI0 fun i j => .bl (!decide (i = j))
def rEqB : R2 := fun x y H Q => ∃ a b, x = .bl a ∧ y = .bl b ∧ Q (.bl (decide (a = b))) H
def rNeB : R2 := fun x y H Q => ∃ a b, x = .bl a ∧ y = .bl b ∧ Q (.bl (!decide (a = b))) H
def rEqS : R2 := fun x y H Q => ∃ a b, x = .str a ∧ y = .str b ∧ Q (.bl (decide (a = b))) H
def rNeS : R2 := fun x y H Q => ∃ a b, x = .str a ∧ y = .str b ∧ Q (.bl (!decide (a = b))) H
theorem dec_int (i j : Int) : decide (V.int i = V.int j) = decide (i = j) := by
  by_cases h : i = j
  · rw [decide_eq_true h, decide_eq_true (by rw [h])]
  · rw [decide_eq_false h, decide_eq_false (fun z => h (V.int.inj z))]
theorem dec_bl (i j : Bool) : decide (V.bl i = V.bl j) = decide (i = j) := by
  by_cases h : i = j
  · rw [decide_eq_true h, decide_eq_true (by rw [h])]
  · rw [decide_eq_false h, decide_eq_false (fun z => h (V.bl.inj z))]
theorem dec_str (i j : Str) : decide (V.str i = V.str j) = decide (i = j) := by
  by_cases h : i = j
  · rw [decide_eq_true h, decide_eq_true (by rw [h])]
  · rw [decide_eq_false h, decide_eq_false (fun z => h (V.str.inj z))]
theorem op_eqI : OpR X (compareOp .Eq) rEqI := fun pins s σ H x y v u Q I rx ry h => by
  obtain ⟨i, j, rfl, rfl, q⟩ := h
  exact op_eq pins s σ H _ _ v u Q I rx ry ⟨rfl, by rw [dec_int]; exact q⟩
theorem op_neI : OpR X (compareOp .NotEq) rNeI := fun pins s σ H x y v u Q I rx ry h => by
  obtain ⟨i, j, rfl, rfl, q⟩ := h
  exact op_ne pins s σ H _ _ v u Q I rx ry ⟨rfl, by rw [dec_int]; exact q⟩
theorem op_eqB : OpR X (compareOp .Eq) rEqB := fun pins s σ H x y v u Q I rx ry h => by
  obtain ⟨i, j, rfl, rfl, q⟩ := h
  exact op_eq pins s σ H _ _ v u Q I rx ry ⟨rfl, by rw [dec_bl]; exact q⟩
theorem op_neB : OpR X (compareOp .NotEq) rNeB := fun pins s σ H x y v u Q I rx ry h => by
  obtain ⟨i, j, rfl, rfl, q⟩ := h
  exact op_ne pins s σ H _ _ v u Q I rx ry ⟨rfl, by rw [dec_bl]; exact q⟩
theorem op_eqS : OpR X (compareOp .Eq) rEqS := fun pins s σ H x y v u Q I rx ry h => by
  obtain ⟨i, j, rfl, rfl, q⟩ := h
  exact op_eq pins s σ H _ _ v u Q I rx ry ⟨rfl, by rw [dec_str]; exact q⟩
theorem op_neS : OpR X (compareOp .NotEq) rNeS := fun pins s σ H x y v u Q I rx ry h => by
  obtain ⟨i, j, rfl, rfl, q⟩ := h
  exact op_ne pins s σ H _ _ v u Q I rx ry ⟨rfl, by rw [dec_str]; exact q⟩
def ipD (C : Int → Int → Prop) (f : Int → Int → Int) : TIp := rI C fun i j => .int (f i j)
theorem ip_fdv : PIp X .FloorDiv (ipD CDiv fun i j => i / j) := iop_fdiv
/-- one of two readings -/
def tOr2 (t u : TE) : TE := fun σ H Q => t σ H Q ∨ u σ H Q
theorem pe_or2 {e : Expr} {t u : TE} (h1 : PE X e t) (h2 : PE X e u) : PE X e (tOr2 t u) := ⟨fun pins s σ H Q I h => by
  rcases h with h | h
  · exact h1.run pins s σ H Q I h
  · exact h2.run pins s σ H Q I h⟩
end

/-! #### the layer's rules that name X.K, with K told -/
section
variable {X : Cx} {K : PySem.W.Frag}
def rLenQ (K : PySem.W.Frag) : List V → Hp → VK → Prop := fun xs H Q => ∃ p ys, xs = [.ref p] ∧ (SqL K H p ys ∨ SqT K H p ys) ∧ Q (.int ys.length) H
def rListQ (K : PySem.W.Frag) : List V → Hp → VK → Prop := fun xs H Q => ∃ p ys, xs = [.ref p] ∧ (SqL K H p ys ∨ SqT K H p ys) ∧ ∀ l, H l = none → Q (.ref l) (upd H l (.lst ys))
def rTupQ (K : PySem.W.Frag) : List V → Hp → VK → Prop := fun xs H Q => ∃ p ys, xs = [.ref p] ∧ ((SqL K H p ys ∧ ∀ l, H l = none → Q (.ref l) (upd H l (.tup ys))) ∨ (SqT K H p ys ∧ Q (.ref p) H))
theorem isiQ (e : X.K = K := by rfl) : CallR X (.builtin "isinstance") (rIsi K) := e ▸ call_isi
theorem lenQ (e : X.K = K := by rfl) : CallR X (.builtin "len") (rLenQ K) := e ▸ call_len_seq
theorem listQ (e : X.K = K := by rfl) : CallR X (.type "list") (rListQ K) := e ▸ call_list_of
theorem tupleQ (e : X.K = K := by rfl) : CallR X (.type "tuple") (rTupQ K) := e ▸ call_tuple_of
theorem sumQ (hc : X.calm = true) (e : X.K = K := by rfl) : CallR X (.builtin "sum") (rSum K) := e ▸ cr_sum hc
theorem minQ (hc : X.calm = true) (e : X.K = K := by rfl) : CallR X (.builtin "min") (rMin K) := e ▸ cr_min hc
theorem maxQ (hc : X.calm = true) (e : X.K = K := by rfl) : CallR X (.builtin "max") (rMax K) := e ▸ cr_max hc
theorem allQ (hc : X.calm = true) (e : X.K = K := by rfl) : CallR X (.builtin "all") (rAll K) := e ▸ cr_all hc
theorem anyQ (hc : X.calm = true) (e : X.K = K := by rfl) : CallR X (.builtin "any") (rAny K) := e ▸ cr_any hc
theorem sortedQ (e : X.K = K := by rfl) : CallR X (.builtin "sorted") (rSortedI K) := e ▸ cr_sortedI
theorem ixlQ (e : X.K = K := by rfl) : IxR X (rIxL K) := e ▸ ix_list
theorem ixtQ (e : X.K = K := by rfl) : IxR X (rIxT K) := e ▸ ix_tup
theorem eqdQ (hu : X.A.units + 64 < cLine) (e : X.K = K := by rfl) : OpR X (compareOp .Eq) (rEqD K) := e ▸ op_eqD hu
theorem nedQ (hu : X.A.units + 64 < cLine) (e : X.K = K := by rfl) : OpR X (compareOp .NotEq) (rNeD K) := e ▸ op_neD hu
theorem insQ (e : X.K = K := by rfl) : OpR X (compareOp .In) (rIn K false) := e ▸ op_in_seq
theorem ninsQ (e : X.K = K := by rfl) : OpR X (compareOp .NotIn) (rIn K true) := e ▸ op_notIn_seq
theorem sllQ (e : X.K = K := by rfl) : SlR X (rSlL K) := e ▸ sl_list
theorem pilQ {tg l : Expr} {tl : TE} (hl : PE X l tl) (e : X.K = K := by rfl) : PI X tg l (iList K tl) := e ▸ pi_list hl
theorem pitQ {tg l : Expr} {tl : TE} (hl : PE X l tl) (e : X.K = K := by rfl) : PI X tg l (iTup K tl) := e ▸ pi_tup hl
theorem fldQ {o : Expr} {f : Str} {pos : Pos} {ta : TE} (he : PE X o ta) (hb : attributeBase o f X.env (eval o X.env) = eval o X.env) (e : X.K = K := by rfl) : PE X (.Attribute o f pos) (tFld K ta f) := e ▸ pe_fld he hb
end

/-! #### data: a value is such a datum in the heap (all its lists and tuples tracked) -/
mutual
inductive Rp (H : Hp) : V → PyData → Prop
  | non : Rp H .non .none
  | bl (b : Bool) : Rp H (.bl b) (.bool b)
  | int (i : Int) : Rp H (.int i) (.int i)
  | str (x : Str) : Rp H (.str x) (.str x)
  | lst {a : Addr} {xs : List V} {ds : List PyData} : H a = some (.lst xs) → RpAll H xs ds → Rp H (.ref a) (.list ds)
  | tup {a : Addr} {xs : List V} {ds : List PyData} : H a = some (.tup xs) → RpAll H xs ds → Rp H (.ref a) (.tuple ds)
inductive RpAll (H : Hp) : List V → List PyData → Prop
  | nil : RpAll H [] []
  | cons {v : V} {vs : List V} {d : PyData} {ds : List PyData} : Rp H v d → RpAll H vs ds → RpAll H (v :: vs) (d :: ds)
end
section
variable {K : PySem.W.Frag} {σ : L2.St} {H H' : Hp} {ta tb tc te tx : TE} {t u : TT} {v x y : V} {d d1 d2 : PyData}
mutual
theorem rp_dp : ∀ {v : V} {d : PyData}, Rp H v d → Dp K H v d
  | _, _, .non => .non
  | _, _, .bl b => .bl b
  | _, _, .int i => .int i
  | _, _, .str x => .str x
  | _, _, .lst h a => .lst (SqL.of h) (rpa_dp a)
  | _, _, .tup h a => .tup (SqT.of h) (rpa_dp a)
theorem rpa_dp : ∀ {vs : List V} {ds : List PyData}, RpAll H vs ds → DpAll K H vs ds
  | _, _, .nil => .nil
  | _, _, .cons a b => .cons (rp_dp a) (rpa_dp b)
end
mutual
theorem dp_mono (e : Ex H H') : ∀ {v : V} {d : PyData}, Rp H v d → Rp H' v d
  | _, _, .non => .non
  | _, _, .bl b => .bl b
  | _, _, .int i => .int i
  | _, _, .str x => .str x
  | _, _, .lst h a => .lst (e _ _ h) (dpa_mono e a)
  | _, _, .tup h a => .tup (e _ _ h) (dpa_mono e a)
theorem dpa_mono (e : Ex H H') : ∀ {vs : List V} {ds : List PyData}, RpAll H vs ds → RpAll H' vs ds
  | _, _, .nil => .nil
  | _, _, .cons a b => .cons (dp_mono e a) (dpa_mono e b)
end
theorem dp_int {i : Int} (h : Rp H v (.int i)) : v = .int i := by cases h; rfl
theorem dp_bl {b : Bool} (h : Rp H v (.bool b)) : v = .bl b := by cases h; rfl
theorem dp_str {s : Str} (h : Rp H v (.str s)) : v = .str s := by cases h; rfl
theorem dp_non (h : Rp H v .none) : v = .non := by cases h; rfl
theorem dp_list {ds : List PyData} (h : Rp H v (.list ds)) : ∃ a xs, v = .ref a ∧ H a = some (.lst xs) ∧ RpAll H xs ds := by
  cases h with
  | lst h a => exact ⟨_, _, rfl, h, a⟩
theorem dp_tup {ds : List PyData} (h : Rp H v (.tuple ds)) : ∃ a xs, v = .ref a ∧ H a = some (.tup xs) ∧ RpAll H xs ds := by
  cases h with
  | tup h a => exact ⟨_, _, rfl, h, a⟩
theorem dpa_len {vs : List V} {ds : List PyData} : RpAll H vs ds → vs.length = ds.length
  | .nil => rfl
  | .cons _ b => by rw [List.length_cons, List.length_cons, dpa_len b]
theorem dpa_get : ∀ {vs : List V} {ds : List PyData} {i : Nat} {d : PyData}, RpAll H vs ds → ds[i]? = some d → ∃ v, vs[i]? = some v ∧ Rp H v d
  | _, _, 0, _, .cons a _, e => ⟨_, rfl, by
      have e' := Option.some.inj e
      rw [← e']; exact a⟩
  | _, _, i + 1, _, .cons _ b, e => by
      obtain ⟨v, h1, h2⟩ := dpa_get (i := i) b (by simpa using e)
      exact ⟨v, by simpa using h1, h2⟩
  | _, _, _, _, .nil, e => by simp at e
theorem dpa_get' : ∀ {vs : List V} {ds : List PyData} {i : Nat} {v : V}, RpAll H vs ds → vs[i]? = some v → ∃ d, ds[i]? = some d ∧ Rp H v d
  | _, _, 0, _, .cons a _, e => ⟨_, rfl, by
      have e' := Option.some.inj e
      rw [← e']; exact a⟩
  | _, _, i + 1, _, .cons _ b, e => by
      obtain ⟨v, h1, h2⟩ := dpa_get' (i := i) b (by simpa using e)
      exact ⟨v, by simpa using h1, h2⟩
  | _, _, _, _, .nil, e => by simp at e
theorem dpa_app : ∀ {vs ws : List V} {ds es : List PyData}, RpAll H vs ds → RpAll H ws es → RpAll H (vs ++ ws) (ds ++ es)
  | _, _, _, _, .nil, b => b
  | _, _, _, _, .cons a r, b => .cons a (dpa_app r b)
theorem dpa_cons {vs : List V} {ds : List PyData} (h : RpAll H vs (d :: ds)) : ∃ v r, vs = v :: r ∧ Rp H v d ∧ RpAll H r ds := by
  cases h with
  | cons a b => exact ⟨_, _, rfl, a, b⟩
theorem dpa_nil {vs : List V} (h : RpAll H vs []) : vs = [] := by cases h; rfl
theorem dpa_one {vs : List V} (h : RpAll H vs [d]) : ∃ v, vs = [v] ∧ Rp H v d := by
  obtain ⟨v, r, rfl, h1, h2⟩ := dpa_cons h
  cases dpa_nil h2
  exact ⟨v, rfl, h1⟩
theorem dpa_two {vs : List V} (h : RpAll H vs [d, d1]) : ∃ v w, vs = [v, w] ∧ Rp H v d ∧ Rp H w d1 := by
  obtain ⟨v, r, rfl, h1, h2⟩ := dpa_cons h
  obtain ⟨w, rfl, h3⟩ := dpa_one h2
  exact ⟨v, w, rfl, h1, h3⟩
theorem dpa_three {vs : List V} (h : RpAll H vs [d, d1, d2]) : ∃ v w z, vs = [v, w, z] ∧ Rp H v d ∧ Rp H w d1 ∧ Rp H z d2 := by
  obtain ⟨v, r, rfl, h1, h2⟩ := dpa_cons h
  obtain ⟨w, z, rfl, h3, h4⟩ := dpa_two h2
  exact ⟨v, w, z, rfl, h1, h3, h4⟩
theorem dpa_ints : ∀ {vs : List V} {ns : List Int}, RpAll H vs (ns.map .int) → vs = ns.map V.int
  | _, [], h => dpa_nil h
  | _, n :: ns, h => by
    obtain ⟨v, r, rfl, h1, h2⟩ := dpa_cons (d := .int n) (ds := ns.map .int) h
    rw [dp_int h1, dpa_ints h2, List.map_cons]
theorem dpa_of_ints (H : Hp) : ∀ ns : List Int, RpAll H (ns.map V.int) (ns.map .int)
  | [] => .nil
  | n :: ns => .cons (.int n) (dpa_of_ints H ns)
theorem dpa_bls : ∀ {vs : List V} {ns : List Bool}, RpAll H vs (ns.map .bool) → vs = ns.map V.bl
  | _, [], h => dpa_nil h
  | _, n :: ns, h => by
    obtain ⟨v, r, rfl, h1, h2⟩ := dpa_cons (d := .bool n) (ds := ns.map .bool) h
    rw [dp_bl h1, dpa_bls h2, List.map_cons]
theorem dpa_of_bls (H : Hp) : ∀ ns : List Bool, RpAll H (ns.map V.bl) (ns.map .bool)
  | [] => .nil
  | n :: ns => .cons (.bl n) (dpa_of_bls H ns)
theorem dpa_strs : ∀ {vs : List V} {ns : List Str}, RpAll H vs (ns.map .str) → vs = ns.map V.str
  | _, [], h => dpa_nil h
  | _, n :: ns, h => by
    obtain ⟨v, r, rfl, h1, h2⟩ := dpa_cons (d := .str n) (ds := ns.map .str) h
    rw [dp_str h1, dpa_strs h2, List.map_cons]
theorem dpa_of_strs (H : Hp) : ∀ ns : List Str, RpAll H (ns.map V.str) (ns.map .str)
  | [] => .nil
  | n :: ns => .cons (.str n) (dpa_of_strs H ns)

/-! what is evaluated, as data -/
def EvD (te : TE) (σ : L2.St) (H : Hp) (d : PyData) : Prop := ∀ H1, Ex H H1 → ∀ Q : VK, (∀ v H2, Ex H1 H2 → Rp H2 v d → Q v H2) → te σ H1 Q
def EvDA (ta : TA) (σ : L2.St) (H : Hp) (ds : List PyData) : Prop := ∀ H1, Ex H H1 → ∀ Q : List V → Hp → Prop, (∀ vs H2, Ex H1 H2 → RpAll H2 vs ds → Q vs H2) → ta σ H1 Q
theorem EvD.mono (e : Ex H H') (h : EvD te σ H d) : EvD te σ H' d := fun H1 a Q q => h H1 (e.trans a) Q q
theorem ed_is (h : EvD te σ H d) (e : d = d1) : EvD te σ H d1 := e ▸ h
theorem ed_var {i : Nat} (h : σ[i]? = some (some v)) (hd : Rp H v d) : EvD (tVar i) σ H d := fun H1 e _ q => ⟨v, h, q v H1 (Ex.refl H1) (dp_mono e hd)⟩
theorem ed_ci {i : Int} : EvD (tC (.int i)) σ H (.int i) := fun H1 _ _ q => q _ H1 (Ex.refl H1) (.int i)
theorem ed_cb {b : Bool} : EvD (tC (.bl b)) σ H (.bool b) := fun H1 _ _ q => q _ H1 (Ex.refl H1) (.bl b)
theorem ed_cs {s : Str} : EvD (tC (.str s)) σ H (.str s) := fun H1 _ _ q => q _ H1 (Ex.refl H1) (.str s)
theorem ed_cn : EvD (tC .non) σ H .none := fun H1 _ _ q => q _ H1 (Ex.refl H1) .non
theorem da_nil : EvDA tNil σ H [] := fun H1 _ _ q => q [] H1 (Ex.refl H1) .nil
theorem da_cons {tr : TA} {ds : List PyData} (h : EvD ta σ H d) (hr : EvDA tr σ H ds) : EvDA (tCons ta tr) σ H (d :: ds) := fun H1 e _ q =>
  h H1 e _ fun v H2 e2 hv => hr H2 (e.trans e2) _ fun vs H3 e3 hvs => q _ H3 (e2.trans e3) (.cons (dp_mono e3 hv) hvs)
theorem ed_tup {ta : TA} {ds : List PyData} (h : EvDA ta σ H ds) (hl : ds.length ≤ 100000) : EvD (tTup ta) σ H (.tuple ds) := fun H1 e _ q =>
  h H1 e _ fun vs H2 e2 hvs => ⟨by rw [dpa_len hvs]; exact sz_of hl, fun p hp => q _ _ (e2.trans (Ex.new hp)) (.tup upd_same (dpa_mono (Ex.new hp) hvs))⟩
theorem ed_lst {ta : TA} {ds : List PyData} (h : EvDA ta σ H ds) (hl : ds.length ≤ 100000) : EvD (tLst ta) σ H (.list ds) := fun H1 e _ q =>
  h H1 e _ fun vs H2 e2 hvs => ⟨by rw [dpa_len hvs]; exact sz_of hl, fun p hp => q _ _ (e2.trans (Ex.new hp)) (.lst upd_same (dpa_mono (Ex.new hp) hvs))⟩
/-! operators -/
theorem ed_op {r : R2} (ha : EvD ta σ H d1) (hb : EvD tb σ H d2) (hr : ∀ v w H1, Ex H H1 → Rp H1 v d1 → Rp H1 w d2 → ∀ Q : VK, (∀ z H2, Ex H1 H2 → Rp H2 z d → Q z H2) → r v w H1 Q) : EvD (tOp r ta tb) σ H d := fun H1 e Q q =>
  ha H1 e _ fun v H2 e2 hv => hb H2 (e.trans e2) _ fun w H3 e3 hw => hr v w H3 ((e.trans e2).trans e3) (dp_mono e3 hv) hw Q fun z H4 e4 hz => q z H4 ((e2.trans e3).trans e4) hz
theorem ed_I0i {f : Int → Int → Int} {i j : Int} (ha : EvD ta σ H (.int i)) (hb : EvD tb σ H (.int j)) : EvD (tOp (rI0 fun i j => .int (f i j)) ta tb) σ H (.int (f i j)) :=
  ed_op ha hb fun _ _ H1 _ h1 h2 _ q => ⟨i, j, dp_int h1, dp_int h2, q _ H1 (Ex.refl H1) (.int _)⟩
theorem ed_I0b {f : Int → Int → Bool} {i j : Int} (ha : EvD ta σ H (.int i)) (hb : EvD tb σ H (.int j)) : EvD (tOp (rI0 fun i j => .bl (f i j)) ta tb) σ H (.bool (f i j)) :=
  ed_op ha hb fun _ _ H1 _ h1 h2 _ q => ⟨i, j, dp_int h1, dp_int h2, q _ H1 (Ex.refl H1) (.bl _)⟩
theorem ed_eqI {i j : Int} (ha : EvD ta σ H (.int i)) (hb : EvD tb σ H (.int j)) : EvD (tOp rEqI ta tb) σ H (.bool (decide (i = j))) := ed_I0b ha hb
theorem ed_neI {i j : Int} (ha : EvD ta σ H (.int i)) (hb : EvD tb σ H (.int j)) : EvD (tOp rNeI ta tb) σ H (.bool (!decide (i = j))) := ed_I0b (f := fun i j => !decide (i = j)) ha hb
theorem ed_eqB {i j : Bool} (ha : EvD ta σ H (.bool i)) (hb : EvD tb σ H (.bool j)) : EvD (tOp rEqB ta tb) σ H (.bool (decide (i = j))) :=
  ed_op ha hb fun _ _ H1 _ h1 h2 _ q => ⟨i, j, dp_bl h1, dp_bl h2, q _ H1 (Ex.refl H1) (.bl _)⟩
theorem ed_neB {i j : Bool} (ha : EvD ta σ H (.bool i)) (hb : EvD tb σ H (.bool j)) : EvD (tOp rNeB ta tb) σ H (.bool (!decide (i = j))) :=
  ed_op ha hb fun _ _ H1 _ h1 h2 _ q => ⟨i, j, dp_bl h1, dp_bl h2, q _ H1 (Ex.refl H1) (.bl _)⟩
theorem ed_eqS {i j : Str} (ha : EvD ta σ H (.str i)) (hb : EvD tb σ H (.str j)) : EvD (tOp rEqS ta tb) σ H (.bool (decide (i = j))) :=
  ed_op ha hb fun _ _ H1 _ h1 h2 _ q => ⟨i, j, dp_str h1, dp_str h2, q _ H1 (Ex.refl H1) (.bl _)⟩
theorem ed_neS {i j : Str} (ha : EvD ta σ H (.str i)) (hb : EvD tb σ H (.str j)) : EvD (tOp rNeS ta tb) σ H (.bool (!decide (i = j))) :=
  ed_op ha hb fun _ _ H1 _ h1 h2 _ q => ⟨i, j, dp_str h1, dp_str h2, q _ H1 (Ex.refl H1) (.bl _)⟩
theorem ed_isB {i j : Bool} (ha : EvD ta σ H (.bool i)) (hb : EvD tb σ H (.bool j)) : EvD (tOp (fun x y H Q => ∃ a b, x = .bl a ∧ y = .bl b ∧ Q (.bl (decide (a = b))) H) ta tb) σ H (.bool (decide (i = j))) :=
  ed_op ha hb fun _ _ H1 _ h1 h2 _ q => ⟨i, j, dp_bl h1, dp_bl h2, q _ H1 (Ex.refl H1) (.bl _)⟩
theorem ed_isnB {i j : Bool} (ha : EvD ta σ H (.bool i)) (hb : EvD tb σ H (.bool j)) : EvD (tOp (fun x y H Q => ∃ a b, x = .bl a ∧ y = .bl b ∧ Q (.bl (!decide (a = b))) H) ta tb) σ H (.bool (!decide (i = j))) :=
  ed_op ha hb fun _ _ H1 _ h1 h2 _ q => ⟨i, j, dp_bl h1, dp_bl h2, q _ H1 (Ex.refl H1) (.bl _)⟩
theorem ed_Ii {C : Int → Int → Prop} {f : Int → Int → Int} {i j : Int} (ha : EvD ta σ H (.int i)) (hb : EvD tb σ H (.int j)) (hc : C i j) : EvD (tOp (rI C fun i j => .int (f i j)) ta tb) σ H (.int (f i j)) :=
  ed_op ha hb fun _ _ H1 _ h1 h2 _ q => ⟨i, j, dp_int h1, dp_int h2, hc, q _ H1 (Ex.refl H1) (.int _)⟩
theorem ed_mul {i j : Int} (ha : EvD ta σ H (.int i)) (hb : EvD tb σ H (.int j)) (hc : (-(2 ^ 64) < i ∧ i < 2 ^ 64) ∨ (-(2 ^ 64) < j ∧ j < 2 ^ 64)) : EvD (tOp (rI CMul fun i j => .int (i * j)) ta tb) σ H (.int (i * j)) :=
  ed_Ii (f := fun i j => i * j) ha hb hc
theorem ed_mod {i j : Int} (ha : EvD ta σ H (.int i)) (hb : EvD tb σ H (.int j)) (hc : 0 < j) : EvD (tOp (rI (fun _ j => 0 < j) fun i j => .int (i % j)) ta tb) σ H (.int (i % j)) :=
  ed_Ii (C := fun _ j => 0 < j) (f := fun i j => i % j) ha hb hc
theorem ed_fdiv {i j : Int} (ha : EvD ta σ H (.int i)) (hb : EvD tb σ H (.int j)) (hc : 0 < j ∧ j < 1073741824) : EvD (tOp (rI CDiv fun i j => .int (i / j)) ta tb) σ H (.int (i / j)) :=
  ed_Ii (f := fun i j => i / j) ha hb hc
theorem ed_pow {i j : Int} (ha : EvD ta σ H (.int i)) (hb : EvD tb σ H (.int j)) (hc : 0 ≤ j ∧ j ≤ 1000000 ∧ i.natAbs < 2 ^ 64) : EvD (tOp (rI CPow fun i j => .int (i ^ j.toNat)) ta tb) σ H (.int (i ^ j.toNat)) :=
  ed_Ii (f := fun i j => i ^ j.toNat) ha hb hc
theorem ed_shl {i j : Int} (ha : EvD ta σ H (.int i)) (hb : EvD tb σ H (.int j)) (hc : 0 ≤ j ∧ j ≤ 1000000 ∧ i.natAbs < 2 ^ 64) : EvD (tOp (rI CPow fun i j => .int (i * 2 ^ j.toNat)) ta tb) σ H (.int (i * 2 ^ j.toNat)) :=
  ed_Ii (f := fun i j => i * 2 ^ j.toNat) ha hb hc
theorem ed_neg {i : Int} (ha : EvD ta σ H (.int i)) : EvD (tUn (rU fun i => .int (-i)) ta) σ H (.int (-i)) := fun H1 e _ q =>
  ha H1 e _ fun _ H2 e2 h => ⟨i, dp_int h, q _ H2 e2 (.int _)⟩
theorem ed_eqD {a b : PyData} (ha : EvD ta σ H a) (hb : EvD tb σ H b) (h1 : SeqAt.shaped a = true) (h2 : SeqAt.shaped b = true) : EvD (tOp (rEqD K) ta tb) σ H (.bool (PyData.eqv a b)) :=
  ed_op ha hb fun _ _ H1 _ d1 d2 _ q => ⟨a, b, rp_dp d1, rp_dp d2, h1, h2, q _ H1 (Ex.refl H1) (.bl _)⟩
theorem ed_neD {a b : PyData} (ha : EvD ta σ H a) (hb : EvD tb σ H b) (h1 : SeqAt.shaped a = true) (h2 : SeqAt.shaped b = true) : EvD (tOp (rNeD K) ta tb) σ H (.bool (!PyData.eqv a b)) :=
  ed_op ha hb fun _ _ H1 _ d1 d2 _ q => ⟨a, b, rp_dp d1, rp_dp d2, h1, h2, q _ H1 (Ex.refl H1) (.bl _)⟩
theorem ed_adds {a b : Str} (ha : EvD ta σ H (.str a)) (hb : EvD tb σ H (.str b)) (hl : a.length + b.length ≤ sizeLine) :
    EvD (tOp (fun x y H Q => ∃ i j, x = .str i ∧ y = .str j ∧ i.length + j.length ≤ sizeLine ∧ Q (.str (i ++ j)) H) ta tb) σ H (.str (a ++ b)) :=
  ed_op ha hb fun _ _ H1 _ d1 d2 _ q => ⟨a, b, dp_str d1, dp_str d2, hl, q _ H1 (Ex.refl H1) (.str _)⟩
/-! places -/
theorem ed_ixL {ds : List PyData} {i : Int} (ha : EvD ta σ H (.list ds)) (hb : EvD tb σ H (.int i)) (h0 : 0 ≤ i) (hd : ds[i.toNat]? = some d) : EvD (tOp (rIxL K) ta tb) σ H d :=
  ed_op ha hb fun _ _ H1 _ d1 d2 _ q => by
    obtain ⟨a, xs, rfl, hs, hx⟩ := dp_list d1
    obtain ⟨v, hv, dv⟩ := dpa_get hx hd
    have e := atI_nat hv
    rw [Int.toNat_of_nonneg h0] at e
    exact ⟨a, xs, i, v, rfl, dp_int d2, SqL.of hs, e, q _ H1 (Ex.refl H1) dv⟩
theorem ed_ixT {ds : List PyData} {i : Int} (ha : EvD ta σ H (.tuple ds)) (hb : EvD tb σ H (.int i)) (h0 : 0 ≤ i) (hd : ds[i.toNat]? = some d) : EvD (tOp (rIxT K) ta tb) σ H d :=
  ed_op ha hb fun _ _ H1 _ d1 d2 _ q => by
    obtain ⟨a, xs, rfl, hs, hx⟩ := dp_tup d1
    obtain ⟨v, hv, dv⟩ := dpa_get hx hd
    have e := atI_nat hv
    rw [Int.toNat_of_nonneg h0] at e
    exact ⟨a, xs, i, v, rfl, dp_int d2, SqT.of hs, e, q _ H1 (Ex.refl H1) dv⟩
/-! truths -/
theorem ed_and {a b : Bool} (h1 : EvD ta σ H (.bool a)) (h2 : a = true → EvD tb σ H (.bool b)) : EvD (tAndV ta tb) σ H (.bool (a && b)) := fun H1 e Q q => h1 H1 e _ fun v H2 e2 hv => ⟨a, dp_bl hv, by
  cases a with
  | true =>
    show tb σ H2 Q
    exact h2 rfl H2 (e.trans e2) Q fun w H3 e3 hw => q w H3 (e2.trans e3) hw
  | false =>
    show Q (.bl false) H2
    exact q _ H2 e2 (.bl _)⟩
theorem ed_or {a b : Bool} (h1 : EvD ta σ H (.bool a)) (h2 : a = false → EvD tb σ H (.bool b)) : EvD (tOrV ta tb) σ H (.bool (a || b)) := fun H1 e Q q => h1 H1 e _ fun v H2 e2 hv => ⟨a, dp_bl hv, by
  cases a with
  | true =>
    show Q (.bl true) H2
    exact q _ H2 e2 (.bl _)
  | false =>
    show tb σ H2 Q
    exact h2 rfl H2 (e.trans e2) Q fun w H3 e3 hw => q w H3 (e2.trans e3) hw⟩
theorem ed_not {a : Bool} (h1 : EvD ta σ H (.bool a)) : EvD (tNotV ta) σ H (.bool (!a)) := fun H1 e _ q => h1 H1 e _ fun _ H2 e2 hv => ⟨a, dp_bl hv, q _ H2 e2 (.bl _)⟩
theorem ed_if {b : Bool} (h : EvT t σ H b) (h1 : b = true → EvD ta σ H d) (h2 : b = false → EvD tb σ H d) : EvD (tIf t ta tb) σ H d := fun H1 e Q q => h H1 e _ fun H2 e2 => by
  cases b with
  | true =>
    show ta σ H2 Q
    exact h1 rfl H2 (e.trans e2) Q fun w H3 e3 hw => q w H3 (e2.trans e3) hw
  | false =>
    show tb σ H2 Q
    exact h2 rfl H2 (e.trans e2) Q fun w H3 e3 hw => q w H3 (e2.trans e3) hw
/-- a chain of two comparisons of whole numbers -/
theorem ed_chain {f g : Int → Int → Bool} {i j k : Int} (ha : EvD ta σ H (.int i)) (hb : EvD tb σ H (.int j)) (hc : f i j = true → EvD tc σ H (.int k)) :
    EvD (tChain (rI0 fun i j => .bl (f i j)) (rI0 fun i j => .bl (g i j)) ta tb tc) σ H (.bool (f i j && g j k)) := fun H1 e Q q =>
  ha H1 e _ fun v H2 e2 hv => hb H2 (e.trans e2) _ fun w H3 e3 hw => ⟨i, j, dp_int hv, dp_int hw, f i j, rfl, by
    cases hf : f i j with
    | true =>
      show tc σ H3 _
      refine hc hf H3 ((e.trans e2).trans e3) _ fun z H4 e4 hz => ⟨j, k, dp_int hw, dp_int hz, ?_⟩
      exact q _ H4 ((e2.trans e3).trans e4) (by rw [hf]; exact .bl _)
    | false =>
      show Q (.bl false) H3
      exact q _ H3 (e2.trans e3) (by rw [hf]; exact .bl _)⟩
/-! tests -/
theorem dt_test {b : Bool} (h : EvD te σ H (.bool b)) : EvT (tTest te) σ H b := fun H1 e _ q => h H1 e _ fun _ H2 e2 hv => ⟨b, dp_bl hv, q H2 e2⟩
theorem dt_B {b : Bool} (h : EvD te σ H (.bool b)) : EvT (tB te) σ H b := fun H1 e _ q => h H1 e _ fun _ H2 e2 hv => ⟨b, dp_bl hv, q H2 e2⟩
theorem dt_truI {i : Int} (h : EvD te σ H (.int i)) : EvT (fun σ H Q => te σ H fun x H' => ∃ k, TruV K x H' k ∧ Q k H') σ H (i != 0) := fun H1 e _ q => h H1 e _ fun v H2 e2 hv => by
  cases dp_int hv
  exact ⟨_, rfl, q H2 e2⟩
/-! calls -/
/-- a promise over data: R tells what comes back for what goes in -/
def spR (R : List PyData → PyData → Prop) : Sp := fun vs H Q _ => ∃ ds d, RpAll H vs ds ∧ R ds d ∧ ∀ v H2, Ex H H2 → Rp H2 v d → Q v H2
theorem ed_call {R : List PyData → PyData → Prop} {E : XK} {ta : TA} {ds : List PyData} (h : EvDA ta σ H ds) (hR : R ds d) : EvD (tCall (spR R) [] E ta) σ H d := fun H1 e _ q =>
  h H1 e _ fun vs H2 e2 hv => ⟨ds, d, by rw [List.append_nil]; exact hv, hR, fun v H3 e3 hd => q v H3 (e2.trans e3) hd⟩
theorem ed_cb1 {r : List V → Hp → VK → Prop} {ta : TA} {ds : List PyData} (h : EvDA ta σ H ds) (hr : ∀ vs H1, Ex H H1 → RpAll H1 vs ds → ∀ Q : VK, (∀ z H2, Ex H1 H2 → Rp H2 z d → Q z H2) → r vs H1 Q) : EvD (tCB r ta) σ H d := fun H1 e Q q =>
  h H1 e _ fun vs H2 e2 hv => hr vs H2 (e.trans e2) hv Q fun z H3 e3 hz => q z H3 (e2.trans e3) hz
theorem ed_len {ds : List PyData} (h : EvD te σ H (.list ds)) : EvD (tCB (rLenQ K) (tCons te tNil)) σ H (.int ds.length) :=
  ed_cb1 (da_cons h da_nil) fun _ H1 _ hv _ q => by
    obtain ⟨v, rfl, rv⟩ := dpa_one hv
    obtain ⟨a, xs, rfl, hs, hx⟩ := dp_list rv
    exact ⟨a, xs, rfl, .inl (SqL.of hs), q _ H1 (Ex.refl H1) (by rw [dpa_len hx]; exact .int _)⟩
theorem ed_lenT {ds : List PyData} (h : EvD te σ H (.tuple ds)) : EvD (tCB (rLenQ K) (tCons te tNil)) σ H (.int ds.length) :=
  ed_cb1 (da_cons h da_nil) fun _ H1 _ hv _ q => by
    obtain ⟨v, rfl, rv⟩ := dpa_one hv
    obtain ⟨a, xs, rfl, hs, hx⟩ := dp_tup rv
    exact ⟨a, xs, rfl, .inr (SqT.of hs), q _ H1 (Ex.refl H1) (by rw [dpa_len hx]; exact .int _)⟩
theorem ed_lenS {s : Str} (h : EvD te σ H (.str s)) (hl : s.length ≤ sizeLine) : EvD (tCB (fun xs H Q => ∃ z, xs = [.str z] ∧ z.length ≤ sizeLine ∧ Q (.int z.length) H) (tCons te tNil)) σ H (.int s.length) :=
  ed_cb1 (da_cons h da_nil) fun _ H1 _ hv _ q => by
    obtain ⟨v, rfl, rv⟩ := dpa_one hv
    cases dp_str rv
    exact ⟨s, rfl, hl, q _ H1 (Ex.refl H1) (.int _)⟩
def absI (i : Int) : Int := if i < 0 then -i else i
theorem ed_abs {i : Int} (h : EvD te σ H (.int i)) : EvD (tCB (fun xs H Q => ∃ i, xs = [.int i] ∧ Q (.int (if i < 0 then -i else i)) H) (tCons te tNil)) σ H (.int (absI i)) :=
  ed_cb1 (da_cons h da_nil) fun _ H1 _ hv _ q => by
    obtain ⟨v, rfl, rv⟩ := dpa_one hv
    cases dp_int rv
    exact ⟨i, rfl, q _ H1 (Ex.refl H1) (.int _)⟩
theorem ed_min2 {i j : Int} (ha : EvD ta σ H (.int i)) (hb : EvD tb σ H (.int j)) : EvD (tCB (fun xs H Q => ∃ i j, xs = [.int i, .int j] ∧ Q (.int (if j < i then j else i)) H) (tCons ta (tCons tb tNil))) σ H (.int (if j < i then j else i)) :=
  ed_cb1 (da_cons ha (da_cons hb da_nil)) fun _ H1 _ hv _ q => by
    obtain ⟨v, w, rfl, rv, rw1⟩ := dpa_two hv
    cases dp_int rv
    cases dp_int rw1
    exact ⟨i, j, rfl, q _ H1 (Ex.refl H1) (.int _)⟩
theorem ed_max2 {i j : Int} (ha : EvD ta σ H (.int i)) (hb : EvD tb σ H (.int j)) : EvD (tCB (fun xs H Q => ∃ i j, xs = [.int i, .int j] ∧ Q (.int (if j > i then j else i)) H) (tCons ta (tCons tb tNil))) σ H (.int (if j > i then j else i)) :=
  ed_cb1 (da_cons ha (da_cons hb da_nil)) fun _ H1 _ hv _ q => by
    obtain ⟨v, w, rfl, rv, rw1⟩ := dpa_two hv
    cases dp_int rv
    cases dp_int rw1
    exact ⟨i, j, rfl, q _ H1 (Ex.refl H1) (.int _)⟩
/-- the intsD of data -/
def intsD : List PyData → List Int
  | .int i :: r => i :: intsD r
  | _ => []
theorem ints_map : ∀ ns : List Int, intsD (ns.map .int) = ns
  | [] => rfl
  | n :: ns => by
    show n :: intsD (ns.map .int) = n :: ns
    rw [ints_map ns]
def bls : List PyData → List Bool
  | .bool i :: r => i :: bls r
  | _ => []
theorem bls_map : ∀ ns : List Bool, bls (ns.map .bool) = ns
  | [] => rfl
  | n :: ns => by
    show n :: bls (ns.map .bool) = n :: ns
    rw [bls_map ns]
theorem dp_ints {ds : List PyData} (he : (intsD ds).map .int = ds) (h : Rp H v (.list ds)) : ∃ a, v = .ref a ∧ H a = some (.lst ((intsD ds).map V.int)) := by
  obtain ⟨a, xs, rfl, hs, hx⟩ := dp_list h
  rw [← he] at hx
  have e := dpa_ints hx
  exact ⟨a, rfl, e ▸ hs⟩
theorem ed_sum {ds : List PyData} (h : EvD te σ H (.list ds)) (he : (intsD ds).map .int = ds) : EvD (tCB (rSum K) (tCons te tNil)) σ H (.int (intsD ds).sum) :=
  ed_cb1 (da_cons h da_nil) fun _ H1 _ hv _ q => by
    obtain ⟨v, rfl, rv⟩ := dpa_one hv
    obtain ⟨a, rfl, hs⟩ := dp_ints he rv
    exact ⟨a, _, rfl, SqL.of hs, q _ H1 (Ex.refl H1) (.int _)⟩
theorem dp_bls {ds : List PyData} (he : (bls ds).map .bool = ds) (h : Rp H v (.list ds)) : ∃ a, v = .ref a ∧ H a = some (.lst ((bls ds).map V.bl)) := by
  obtain ⟨a, xs, rfl, hs, hx⟩ := dp_list h
  rw [← he] at hx
  have e := dpa_bls hx
  exact ⟨a, rfl, e ▸ hs⟩
theorem ed_all {ds : List PyData} (h : EvD te σ H (.list ds)) (he : (bls ds).map .bool = ds) : EvD (tCB (rAll K) (tCons te tNil)) σ H (.bool ((bls ds).all id)) :=
  ed_cb1 (da_cons h da_nil) fun _ H1 _ hv _ q => by
    obtain ⟨v, rfl, rv⟩ := dpa_one hv
    obtain ⟨a, rfl, hs⟩ := dp_bls he rv
    exact ⟨a, _, rfl, SqL.of hs, q _ H1 (Ex.refl H1) (.bl _)⟩
theorem ed_any {ds : List PyData} (h : EvD te σ H (.list ds)) (he : (bls ds).map .bool = ds) : EvD (tCB (rAny K) (tCons te tNil)) σ H (.bool ((bls ds).any id)) :=
  ed_cb1 (da_cons h da_nil) fun _ H1 _ hv _ q => by
    obtain ⟨v, rfl, rv⟩ := dpa_one hv
    obtain ⟨a, rfl, hs⟩ := dp_bls he rv
    exact ⟨a, _, rfl, SqL.of hs, q _ H1 (Ex.refl H1) (.bl _)⟩
/-- sorting, as a function -/
def ins (x : Int) : List Int → List Int
  | [] => [x]
  | y :: r => if x ≤ y then x :: y :: r else y :: ins x r
def srt : List Int → List Int
  | [] => []
  | x :: r => ins x (srt r)
theorem ins_perm (x : Int) : ∀ l, (ins x l).Perm (x :: l)
  | [] => .refl _
  | y :: r => by
    unfold ins
    split
    · exact .refl _
    · exact ((ins_perm x r).cons y).trans (.swap x y r)
theorem srt_perm : ∀ l, (srt l).Perm l
  | [] => .refl _
  | x :: r => (ins_perm x (srt r)).trans ((srt_perm r).cons x)
theorem ins_sorted (x : Int) : ∀ l : List Int, l.Pairwise (· ≤ ·) → (ins x l).Pairwise (· ≤ ·)
  | [], _ => List.pairwise_singleton _ _
  | y :: r, h => by
    obtain ⟨h1, h2⟩ := List.pairwise_cons.mp h
    unfold ins
    split
    · rename_i hxy
      refine List.pairwise_cons.mpr ⟨fun z hz => ?_, h⟩
      rcases List.mem_cons.mp hz with rfl | hz
      · exact hxy
      · exact Int.le_trans hxy (h1 z hz)
    · rename_i hxy
      refine List.pairwise_cons.mpr ⟨fun z hz => ?_, ins_sorted x r h2⟩
      rcases List.mem_cons.mp ((ins_perm x r).mem_iff.mp hz) with rfl | hz
      · omega
      · exact h1 z hz
theorem srt_sorted : ∀ l : List Int, (srt l).Pairwise (· ≤ ·)
  | [] => List.Pairwise.nil
  | x :: r => ins_sorted x _ (srt_sorted r)
theorem sorted_unique : ∀ {l l' : List Int}, l.Perm l' → l.Pairwise (· ≤ ·) → l'.Pairwise (· ≤ ·) → l = l'
  | [], l', p, _, _ => (p.nil_eq)
  | x :: r, [], p, _, _ => by cases p.eq_nil
  | x :: r, y :: r', p, h, h' => by
    obtain ⟨h1, h2⟩ := List.pairwise_cons.mp h
    obtain ⟨h1', h2'⟩ := List.pairwise_cons.mp h'
    have e : x = y := by
      have a : y ≤ x := by
        rcases List.mem_cons.mp (p.mem_iff.mp List.mem_cons_self) with e | m
        · omega
        · exact h1' x m
      have b : x ≤ y := by
        rcases List.mem_cons.mp (p.mem_iff.mpr List.mem_cons_self) with e | m
        · omega
        · exact h1 y m
      omega
    subst e
    rw [sorted_unique (List.Perm.cons_inv p) h2 h2']
theorem srt_eq {l l' : List Int} (p : l'.Perm l) (h : l'.Pairwise (· ≤ ·)) : l' = srt l := sorted_unique (p.trans (srt_perm l).symm) h (srt_sorted l)
theorem srt_id {l : List Int} (h : l.Pairwise (· ≤ ·)) : srt l = l := (srt_eq (.refl l) h).symm
theorem ed_sorted {ds : List PyData} (h : EvD te σ H (.list ds)) (he : (intsD ds).map .int = ds) : EvD (tCB (rSortedI K) (tCons te tNil)) σ H (.list ((srt (intsD ds)).map .int)) :=
  ed_cb1 (da_cons h da_nil) fun _ H1 _ hv _ q => by
    obtain ⟨v, rfl, rv⟩ := dpa_one hv
    obtain ⟨a, rfl, hs⟩ := dp_ints he rv
    exact ⟨a, _, rfl, SqL.of hs, fun ns' p hp hsr hn => by
      rw [srt_eq hp hsr]
      exact q _ _ (Ex.new hn) (.lst upd_same (dpa_of_ints _ _))⟩
def minL : Int → List Int → Int
  | x, [] => x
  | x, y :: r => minL (if y < x then y else x) r
def maxL : Int → List Int → Int
  | x, [] => x
  | x, y :: r => maxL (if x < y then y else x) r
theorem minL_mem : ∀ (x : Int) (r : List Int), minL x r ∈ x :: r
  | x, [] => List.mem_cons_self
  | x, y :: r => by
    show minL (if y < x then y else x) r ∈ x :: y :: r
    have h := minL_mem (if y < x then y else x) r
    rcases List.mem_cons.mp h with h | h
    · rw [h]
      split
      · exact List.mem_cons_of_mem _ List.mem_cons_self
      · exact List.mem_cons_self
    · exact List.mem_cons_of_mem _ (List.mem_cons_of_mem _ h)
theorem minL_le : ∀ (x : Int) (r : List Int), ∀ z ∈ x :: r, minL x r ≤ z
  | x, [], z, hz => by
    cases List.mem_singleton.mp hz
    exact Int.le_refl _
  | x, y :: r, z, hz => by
    show minL (if y < x then y else x) r ≤ z
    have h := minL_le (if y < x then y else x) r
    have h0 := h _ List.mem_cons_self
    rcases List.mem_cons.mp hz with rfl | hz
    · split at h0 <;> split <;> omega
    · rcases List.mem_cons.mp hz with rfl | hz
      · split at h0 <;> split <;> omega
      · exact h z (List.mem_cons_of_mem _ hz)
theorem maxL_mem : ∀ (x : Int) (r : List Int), maxL x r ∈ x :: r
  | x, [] => List.mem_cons_self
  | x, y :: r => by
    show maxL (if x < y then y else x) r ∈ x :: y :: r
    have h := maxL_mem (if x < y then y else x) r
    rcases List.mem_cons.mp h with h | h
    · rw [h]
      split
      · exact List.mem_cons_of_mem _ List.mem_cons_self
      · exact List.mem_cons_self
    · exact List.mem_cons_of_mem _ (List.mem_cons_of_mem _ h)
theorem maxL_ge : ∀ (x : Int) (r : List Int), ∀ z ∈ x :: r, z ≤ maxL x r
  | x, [], z, hz => by
    cases List.mem_singleton.mp hz
    exact Int.le_refl _
  | x, y :: r, z, hz => by
    show z ≤ maxL (if x < y then y else x) r
    have h := maxL_ge (if x < y then y else x) r
    have h0 := h _ List.mem_cons_self
    rcases List.mem_cons.mp hz with rfl | hz
    · split at h0 <;> split <;> omega
    · rcases List.mem_cons.mp hz with rfl | hz
      · split at h0 <;> split <;> omega
      · exact h z (List.mem_cons_of_mem _ hz)
theorem ed_minL {a : Int} {ns : List Int} (h : EvD te σ H (.list (.int a :: ns.map .int))) : EvD (tCB (rMin K) (tCons te tNil)) σ H (.int (minL a ns)) :=
  ed_cb1 (da_cons h da_nil) fun _ H1 _ hv _ q => by
    obtain ⟨v, rfl, rv⟩ := dpa_one hv
    obtain ⟨a', xs, rfl, hs, hx⟩ := dp_list rv
    have e := dpa_ints (ns := a :: ns) hx
    refine ⟨a', a :: ns, rfl, SqL.of (e ▸ hs), Nat.zero_lt_succ _, fun m hm hle => ?_⟩
    have e2 : m = minL a ns := Int.le_antisymm (hle _ (minL_mem a ns)) (minL_le a ns m hm)
    rw [e2]
    exact q _ H1 (Ex.refl H1) (.int _)
theorem ed_maxL {a : Int} {ns : List Int} (h : EvD te σ H (.list (.int a :: ns.map .int))) : EvD (tCB (rMax K) (tCons te tNil)) σ H (.int (maxL a ns)) :=
  ed_cb1 (da_cons h da_nil) fun _ H1 _ hv _ q => by
    obtain ⟨v, rfl, rv⟩ := dpa_one hv
    obtain ⟨a', xs, rfl, hs, hx⟩ := dp_list rv
    have e := dpa_ints (ns := a :: ns) hx
    refine ⟨a', a :: ns, rfl, SqL.of (e ▸ hs), Nat.zero_lt_succ _, fun m hm hle => ?_⟩
    have e2 : m = maxL a ns := Int.le_antisymm (maxL_ge a ns m hm) (hle _ (maxL_mem a ns))
    rw [e2]
    exact q _ H1 (Ex.refl H1) (.int _)
theorem ed_min_2 {a b : Int} (h : EvD te σ H (.list [.int a, .int b])) : EvD (tCB (rMin K) (tCons te tNil)) σ H (.int (if b < a then b else a)) := ed_minL (ns := [b]) h
theorem ed_max_2 {a b : Int} (h : EvD te σ H (.list [.int a, .int b])) : EvD (tCB (rMax K) (tCons te tNil)) σ H (.int (if a < b then b else a)) := ed_maxL (ns := [b]) h
/-- list(xs), tuple(xs) -/
theorem ed_listof {ds : List PyData} (h : EvD te σ H (.list ds)) : EvD (tCB (rListQ K) (tCons te tNil)) σ H (.list ds) :=
  ed_cb1 (da_cons h da_nil) fun _ H1 _ hv _ q => by
    obtain ⟨v, rfl, rv⟩ := dpa_one hv
    obtain ⟨a, xs, rfl, hs, hx⟩ := dp_list rv
    exact ⟨a, xs, rfl, .inl (SqL.of hs), fun l hl => q _ _ (Ex.new hl) (.lst upd_same (dpa_mono (Ex.new hl) hx))⟩
theorem ed_tupof {ds : List PyData} (h : EvD te σ H (.list ds)) : EvD (tCB (rTupQ K) (tCons te tNil)) σ H (.tuple ds) :=
  ed_cb1 (da_cons h da_nil) fun _ H1 _ hv _ q => by
    obtain ⟨v, rfl, rv⟩ := dpa_one hv
    obtain ⟨a, xs, rfl, hs, hx⟩ := dp_list rv
    exact ⟨a, xs, rfl, .inl ⟨SqL.of hs, fun l hl => q _ _ (Ex.new hl) (.tup upd_same (dpa_mono (Ex.new hl) hx))⟩⟩
theorem ed_strof {i : Int} (h : EvD te σ H (.int i)) (hl : i.natAbs.log2 < 1920) : EvD (tCB (fun xs H Q => ∃ i, xs = [.int i] ∧ i.natAbs.log2 < 1920 ∧ Q (.str (toString i)) H) (tCons te tNil)) σ H (.str (toString i)) :=
  ed_cb1 (da_cons h da_nil) fun _ H1 _ hv _ q => by
    obtain ⟨v, rfl, rv⟩ := dpa_one hv
    cases dp_int rv
    exact ⟨i, rfl, hl, q _ H1 (Ex.refl H1) (.str _)⟩
/-- xs + ys -/
theorem ed_cat {ds es : List PyData} (ha : EvD ta σ H (.list ds)) (hb : EvD tb σ H (.list es)) (hl : ds.length + es.length ≤ 100000) : EvD (tOp rCat ta tb) σ H (.list (ds ++ es)) :=
  ed_op ha hb fun _ _ H1 _ d1 d2 _ q => by
    obtain ⟨a, xs, rfl, hs, hx⟩ := dp_list d1
    obtain ⟨b, ys, rfl, ht, hy⟩ := dp_list d2
    exact ⟨a, b, xs, ys, rfl, rfl, hs, ht, by rw [dpa_len hx, dpa_len hy]; exact sz_of hl, fun p hp => q _ _ (Ex.new hp) (.lst upd_same (dpa_mono (Ex.new hp) (dpa_app hx hy)))⟩
/-- isinstance with a built-in class, of data -/
def tyOf : PyData → String
  | .none => "NoneType"
  | .bool _ => "bool"
  | .int _ => "int"
  | .str _ => "str"
  | .list _ => "list"
  | .tuple _ => "tuple"
  | .dict _ => "dict"
theorem rp_ty : ∀ {v : V} {d : PyData}, Rp H v d → TyX K H v (.type (tyOf d))
  | _, _, .non => .base .non
  | _, _, .bl b => .base (.bl b)
  | _, _, .int i => .base (.int i)
  | _, _, .str s => .base (.str s)
  | _, _, .lst h _ => .base (.lst h)
  | _, _, .tup h _ => .base (.tup h)
def isi_int : PyData → Bool
  | .int _ => true
  | .bool _ => true
  | _ => false
def isi_bool : PyData → Bool
  | .bool _ => true
  | _ => false
def isi_tuple : PyData → Bool
  | .tuple _ => true
  | _ => false
def isi_list : PyData → Bool
  | .list _ => true
  | _ => false
def isi_str : PyData → Bool
  | .str _ => true
  | _ => false
theorem kit_int : ∀ d : PyData, kitB (tyOf d) "int" = some (isi_int d)
  | .none => (by decide +kernel : kitB "NoneType" "int" = some false)
  | .bool _ => (by decide +kernel : kitB "bool" "int" = some true)
  | .int _ => (by decide +kernel : kitB "int" "int" = some true)
  | .str _ => (by decide +kernel : kitB "str" "int" = some false)
  | .list _ => (by decide +kernel : kitB "list" "int" = some false)
  | .tuple _ => (by decide +kernel : kitB "tuple" "int" = some false)
  | .dict _ => (by decide +kernel : kitB "dict" "int" = some false)
theorem kit_bool : ∀ d : PyData, kitB (tyOf d) "bool" = some (isi_bool d)
  | .none => (by decide +kernel : kitB "NoneType" "bool" = some false)
  | .bool _ => (by decide +kernel : kitB "bool" "bool" = some true)
  | .int _ => (by decide +kernel : kitB "int" "bool" = some false)
  | .str _ => (by decide +kernel : kitB "str" "bool" = some false)
  | .list _ => (by decide +kernel : kitB "list" "bool" = some false)
  | .tuple _ => (by decide +kernel : kitB "tuple" "bool" = some false)
  | .dict _ => (by decide +kernel : kitB "dict" "bool" = some false)
theorem kit_tuple : ∀ d : PyData, kitB (tyOf d) "tuple" = some (isi_tuple d)
  | .none => (by decide +kernel : kitB "NoneType" "tuple" = some false)
  | .bool _ => (by decide +kernel : kitB "bool" "tuple" = some false)
  | .int _ => (by decide +kernel : kitB "int" "tuple" = some false)
  | .str _ => (by decide +kernel : kitB "str" "tuple" = some false)
  | .list _ => (by decide +kernel : kitB "list" "tuple" = some false)
  | .tuple _ => (by decide +kernel : kitB "tuple" "tuple" = some true)
  | .dict _ => (by decide +kernel : kitB "dict" "tuple" = some false)
theorem kit_list : ∀ d : PyData, kitB (tyOf d) "list" = some (isi_list d)
  | .none => (by decide +kernel : kitB "NoneType" "list" = some false)
  | .bool _ => (by decide +kernel : kitB "bool" "list" = some false)
  | .int _ => (by decide +kernel : kitB "int" "list" = some false)
  | .str _ => (by decide +kernel : kitB "str" "list" = some false)
  | .list _ => (by decide +kernel : kitB "list" "list" = some true)
  | .tuple _ => (by decide +kernel : kitB "tuple" "list" = some false)
  | .dict _ => (by decide +kernel : kitB "dict" "list" = some false)
theorem kit_str : ∀ d : PyData, kitB (tyOf d) "str" = some (isi_str d)
  | .none => (by decide +kernel : kitB "NoneType" "str" = some false)
  | .bool _ => (by decide +kernel : kitB "bool" "str" = some false)
  | .int _ => (by decide +kernel : kitB "int" "str" = some false)
  | .str _ => (by decide +kernel : kitB "str" "str" = some true)
  | .list _ => (by decide +kernel : kitB "list" "str" = some false)
  | .tuple _ => (by decide +kernel : kitB "tuple" "str" = some false)
  | .dict _ => (by decide +kernel : kitB "dict" "str" = some false)
theorem le_lit {n m : Nat} (h : Nat.ble n m = true) : n ≤ m := Nat.le_of_ble_eq_true h
theorem ed_isi {T : String} {b : Bool} (h : EvD te σ H d) (hk : kitB (tyOf d) T = some b) : EvD (tCB (rIsi K) (tCons te (tCons (tC (.ty T)) tNil))) σ H (.bool b) := fun H1 e _ q =>
  h H1 e _ fun v H2 e2 hv => ⟨v, .ty T, .type (tyOf d), .type T, b, rfl, .ty T, rp_ty hv, kit_ty hk, q _ H2 e2 (.bl b)⟩
/-! #### a list that grows: what it holds stands apart from it -/
def offH (H : Hp) (p : Addr) : Hp := fun b => if b = p then none else H b
theorem off_ne {p b : Addr} (h : b ≠ p) : offH H p b = H b := by unfold offH; rw [if_neg h]
theorem off_same {p : Addr} : offH H p p = none := by unfold offH; rw [if_pos rfl]
theorem off_upd {p : Addr} {o : HO} : offH (upd H p o) p = offH H p := by
  funext b
  by_cases h : b = p
  · rw [h, off_same, off_same]
  · rw [off_ne h, off_ne h, upd_ne h]
theorem off_ex {p : Addr} : Ex (offH H p) H := fun a o h => by
  by_cases e : a = p
  · rw [e, off_same] at h
    cases h
  · rw [off_ne e] at h
    exact h
theorem off_mono {p : Addr} (e : Ex H H') : Ex (offH H p) (offH H' p) := fun a o h => by
  by_cases q : a = p
  · rw [q, off_same] at h
    cases h
  · rw [off_ne q] at h ⊢
    exact e a o h
theorem ex_off {p : Addr} (e : Ex H H') (h : H p = none) : Ex H (offH H' p) := fun a o ha => by
  rw [off_ne (ne_of_none ha h)]
  exact e a o ha
mutual
/-- no list within -/
def noL : PyData → Bool
  | .list _ => false
  | .dict _ => false
  | .tuple ds => noLs ds
  | .none => true
  | .bool _ => true
  | .int _ => true
  | .str _ => true
def noLs : List PyData → Bool
  | [] => true
  | d :: r => noL d && noLs r
end
mutual
theorem rp_off {p : Addr} {zs : List V} (hp : H p = some (.lst zs)) : ∀ {v : V} {d : PyData}, Rp H v d → noL d = true → Rp (offH H p) v d
  | _, _, .non, _ => .non
  | _, _, .bl b, _ => .bl b
  | _, _, .int i, _ => .int i
  | _, _, .str x, _ => .str x
  | _, _, .lst _ _, n => nomatch n
  | _, _, .tup h a, n => .tup (by rw [off_ne (ne_of h hp (fun z => nomatch z))]; exact h) (rpa_off hp a n)
theorem rpa_off {p : Addr} {zs : List V} (hp : H p = some (.lst zs)) : ∀ {vs : List V} {ds : List PyData}, RpAll H vs ds → noLs ds = true → RpAll (offH H p) vs ds
  | _, _, .nil, _ => .nil
  | _, _, .cons a b, n => .cons (rp_off hp a (Bool.and_eq_true_iff.mp n).1) (rpa_off hp b (Bool.and_eq_true_iff.mp n).2)
end
/-- at p stands a list of such data, apart from it -/
def Grows (H : Hp) (p : Addr) (ds : List PyData) : Prop := ∃ xs, H p = some (.lst xs) ∧ RpAll (offH H p) xs ds
theorem Grows.rp {p : Addr} {ds : List PyData} (h : Grows H p ds) : Rp H (.ref p) (.list ds) := by
  obtain ⟨xs, h1, h2⟩ := h
  exact .lst h1 (dpa_mono off_ex h2)
theorem Grows.ex {p : Addr} {ds : List PyData} (h : Grows H p ds) (e : Ex H H') : Grows H' p ds := by
  obtain ⟨xs, h1, h2⟩ := h
  exact ⟨xs, e _ _ h1, dpa_mono (off_mono e) h2⟩
theorem Grows.nil {p : Addr} : Grows (upd H p (.lst [])) p [] := ⟨[], upd_same, .nil⟩
theorem Grows.of_nil {p : Addr} (h : H p = some (.lst [])) : Grows H p [] := ⟨[], h, .nil⟩
theorem noLs_ints : ∀ ns : List Int, noLs (ns.map .int) = true
  | [] => rfl
  | n :: ns => by
    show (true && noLs (ns.map .int)) = true
    rw [noLs_ints ns]
    rfl
theorem rpa_offI {p : Addr} : ∀ {vs : List V} {ns : List Int}, RpAll H vs (ns.map .int) → RpAll (offH H p) vs (ns.map .int) := fun h => by
  have e := dpa_ints h
  subst e
  exact dpa_of_ints _ _
/-- a comprehension's turn -/
def PcD (H : Hp) (p : Addr) (ds : List PyData) (H' : Hp) : Prop := Ex H H' ∧ Grows H' p ds
theorem pc_turn {H1 : Hp} {σ2 : L2.St} {p : Addr} {ds : List PyData} {b : Bool} (P : PcD H1 p ds H') (hp : H1 p = none) (hi : ds.length < 50000) (ht : EvT t σ2 H1 b) (he : b = true → EvD te σ2 H1 d) (hn : b = true → noL d = true) :
    t σ2 H' fun b' H3 => if b' = true then te σ2 H3 fun y H4 => ∃ acc, H4 p = some (.lst acc) ∧ acc.length < sizeLine ∧ PcD H1 p (if b then ds ++ [d] else ds) (upd H4 p (.lst (acc ++ [y]))) else PcD H1 p (if b then ds ++ [d] else ds) H3 := by
  obtain ⟨p1, p2⟩ := P
  refine ht H' p1 _ fun H3 e3 => ?_
  cases hb : b with
  | true =>
    show te σ2 H3 fun y H4 => ∃ acc, H4 p = some (.lst acc) ∧ acc.length < sizeLine ∧ PcD H1 p (ds ++ [d]) (upd H4 p (.lst (acc ++ [y])))
    refine he hb H3 (p1.trans e3) _ fun y H4 e4 hy => ?_
    obtain ⟨xs, h1, h2⟩ := (p2.ex e3).ex e4
    refine ⟨xs, h1, ?_, Ex.mut ((p1.trans e3).trans e4) hp, xs ++ [y], upd_same, ?_⟩
    · rw [dpa_len h2]
      exact sz_lt (by omega)
    · rw [off_upd]
      exact dpa_app h2 (.cons (rp_off h1 hy (hn hb)) .nil)
  | false =>
    show PcD H1 p ds H3
    exact ⟨p1.trans e3, p2.ex e3⟩
theorem take_filter_map {α : Type} {xs : List α} {i : Nat} {x : α} (h : xs[i]? = some x) (f : α → Bool) (g : α → PyData) :
    ((xs.take (i + 1)).filter f).map g = if f x then ((xs.take i).filter f).map g ++ [g x] else ((xs.take i).filter f).map g := by
  rw [List.take_add_one, h, List.filter_append, List.map_append]
  show _ ++ ((List.filter f [x]).map g) = _
  cases hf : f x with
  | true => rw [List.filter_cons, if_pos hf]; rfl
  | false =>
    rw [List.filter_cons, if_neg (by rw [hf]; decide)]
    show _ ++ [] = _
    rw [List.append_nil]; rfl
theorem flen {α : Type} (xs : List α) (i : Nat) (f : α → Bool) (g : α → PyData) : (((xs.take i).filter f).map g).length ≤ xs.length := by
  rw [List.length_map]
  have h1 := List.length_filter_le f (xs.take i)
  have h2 : (xs.take i).length ≤ xs.length := by rw [List.length_take]; omega
  omega
/-- [e for x in xs if t], xs a list of data -/
theorem ed_lcLF {tl : TE} {j : Nat} {vs : List Nat} {ds : List PyData} (p : PyData → Bool) (f : PyData → PyData) (h : EvD tl σ H (.list ds)) (hz : ds.length ≤ 40000) (hw : ∀ x, wipe ((wipe σ vs).set j (some x)) vs = wipe σ vs)
    (ht : ∀ v d H1, Ex H H1 → d ∈ ds → Rp H1 v d → EvT t ((wipe σ vs).set j (some v)) H1 (p d)) (he : ∀ v d H1, Ex H H1 → d ∈ ds → Rp H1 v d → p d = true → EvD te ((wipe σ vs).set j (some v)) H1 (f d)) (hn : ∀ d ∈ ds, p d = true → noL (f d) = true) :
    EvD (tLc (iList K tl) (gName j) t te vs) σ H (.list ((ds.filter p).map f)) := fun H0 e Q q => h H0 e _ fun v H1 e1 hv => by
  obtain ⟨a, xs, rfl, hs, hx⟩ := dp_list hv
  refine ⟨a, rfl, ⟨xs, SqL.of hs⟩, fun D hD => ?_⟩
  refine lc_list (xs := xs) (fun i => PcD H1 D (((ds.take i).filter p).map f)) ⟨Ex.new hD, Grows.nil⟩ (fun i H' _ P => SqL.of (P.1 _ _ hs)) (fun i x H' hi P => ?_) (fun H' P => ?_)
  · obtain ⟨d, hd, rx⟩ := dpa_get' hx hi
    have hm : d ∈ ds := List.mem_of_getElem? hd
    refine ⟨hw x, ?_⟩
    have T := pc_turn (t := t) (te := te) (d := f d) (σ2 := (wipe σ vs).set j (some x)) P hD (by have := flen ds i p f; omega) (ht x d H1 (e.trans e1) hm rx) (fun hp => he x d H1 (e.trans e1) hm rx hp) (hn d hm)
    rw [← take_filter_map hd p f] at T
    exact T
  · have el := dpa_len hx
    have P' : PcD H1 D (((ds.take xs.length).filter p).map f) H' := P
    rw [el, List.take_length] at P'
    exact q _ H' (e1.trans P'.1) P'.2.rp
theorem tYes_ev {σ2 : L2.St} : EvT tYes σ2 H true := fun H1 _ _ q => q H1 (Ex.refl H1)
theorem filter_yes {α : Type} (xs : List α) : xs.filter (fun _ => true) = xs := List.filter_eq_self.mpr fun _ _ => rfl
theorem ed_lcL {tl : TE} {j : Nat} {vs : List Nat} {ds : List PyData} (f : PyData → PyData) (h : EvD tl σ H (.list ds)) (hz : ds.length ≤ 40000) (hw : ∀ x, wipe ((wipe σ vs).set j (some x)) vs = wipe σ vs)
    (he : ∀ v d H1, Ex H H1 → d ∈ ds → Rp H1 v d → EvD te ((wipe σ vs).set j (some v)) H1 (f d)) (hn : ∀ d ∈ ds, noL (f d) = true) :
    EvD (tLc (iList K tl) (gName j) tYes te vs) σ H (.list (ds.map f)) := by
  have E := ed_lcLF (K := K) (te := te) (fun _ => true) f h hz hw (fun v d H1 _ _ _ => tYes_ev) (fun v d H1 e m r _ => he v d H1 e m r) (fun d m _ => hn d m)
  rw [filter_yes] at E
  exact E
theorem ed_lcT {tl : TE} {j : Nat} {vs : List Nat} {ds : List PyData} (f : PyData → PyData) (h : EvD tl σ H (.tuple ds)) (hz : ds.length ≤ 40000) (hw : ∀ x, wipe ((wipe σ vs).set j (some x)) vs = wipe σ vs)
    (he : ∀ v d H1, Ex H H1 → d ∈ ds → Rp H1 v d → EvD te ((wipe σ vs).set j (some v)) H1 (f d)) (hn : ∀ d ∈ ds, noL (f d) = true) :
    EvD (tLc (iTup K tl) (gName j) tYes te vs) σ H (.list (ds.map f)) := fun H0 e Q q => h H0 e _ fun v H1 e1 hv => by
  obtain ⟨a, xs, rfl, hs, hx⟩ := dp_tup hv
  refine ⟨a, rfl, ⟨xs, SqT.of hs⟩, fun D hD => ?_⟩
  refine lc_tup (xs := xs) (fun i => PcD H1 D (((ds.take i).filter (fun _ => true)).map f)) ⟨Ex.new hD, Grows.nil⟩ (fun i H' _ P => SqT.of (P.1 _ _ hs)) (fun i x H' hi P => ?_) (fun H' P => ?_)
  · obtain ⟨d, hd, rx⟩ := dpa_get' hx hi
    have hm : d ∈ ds := List.mem_of_getElem? hd
    refine ⟨hw x, ?_⟩
    have T := pc_turn (t := tYes) (te := te) (d := f d) (b := true) (σ2 := (wipe σ vs).set j (some x)) P hD (by have := flen ds i (fun _ => true) f; omega) tYes_ev (fun _ => he x d H1 (e.trans e1) hm rx) (fun _ => hn d hm)
    rw [← take_filter_map hd (fun _ => true) f] at T
    exact T
  · have el := dpa_len hx
    have P' : PcD H1 D (((ds.take xs.length).filter (fun _ => true)).map f) H' := P
    rw [el, List.take_length, filter_yes] at P'
    exact q _ H' (e1.trans P'.1) P'.2.rp
/-- over a range: the intsD lo, lo + c, .. -/
def rngL (lo c : Int) (n : Nat) : List Int := (List.range n).map fun (i : Nat) => lo + (i : Int) * c
theorem rngL_len (lo c : Int) (n : Nat) : (rngL lo c n).length = n := by unfold rngL; rw [List.length_map, List.length_range]
theorem rngL_get {lo c : Int} {n i : Nat} (h : i < n) : (rngL lo c n)[i]? = some (lo + (i : Int) * c) := by
  unfold rngL
  rw [List.getElem?_map, List.getElem?_range h]
  rfl
theorem rngL_mem {lo c : Int} {n : Nat} {x : Int} (h : x ∈ rngL lo c n) : ∃ i : Nat, i < n ∧ x = lo + (i : Int) * c := by
  unfold rngL at h
  obtain ⟨i, hi, e⟩ := List.mem_map.mp h
  exact ⟨i, List.mem_range.mp hi, e.symm⟩
theorem ed_lcR_core {tg : L2.TG} {j : Nat} {vs : List Nat} {lo : Int} {n : Nat} {Q : VK} {H1 : Hp} (p : Int → Bool) (f : Int → PyData) (hz : n ≤ 40000) (hw : ∀ x, wipe ((wipe σ vs).set j (some x)) vs = wipe σ vs)
    (ht : ∀ (x : Int) H1, Ex H H1 → x ∈ rngL lo 1 n → EvT t ((wipe σ vs).set j (some (.int x))) H1 (p x)) (he : ∀ (x : Int) H1, Ex H H1 → x ∈ rngL lo 1 n → p x = true → EvD te ((wipe σ vs).set j (some (.int x))) H1 (f x)) (hn : ∀ x, noL (f x) = true)
    (e1 : Ex H H1) (q : ∀ v H2, Ex H1 H2 → Rp H2 v (.list (((rngL lo 1 n).filter p).map f)) → Q v H2) : ∀ D, H1 D = none → ∃ W : Nat → Nat → Hp → Prop, (∃ m, W 0 m (upd H1 D (.lst []))) ∧ ∀ i m H, W i m H →
  ((Itr lo n).stop i H ∧ Q (.ref D) H) ∨ ((Itr lo n).go i H ∧ ∃ Nx : Hp → Prop, (∀ H', Nx H' → ∃ m', m' < m ∧ W (i + 1) m' H') ∧ ∀ x H', (Itr lo n).yld i H x H' → gName j x (wipe σ vs) H' fun σ2 H2 => wipe σ2 vs = wipe σ vs ∧ t σ2 H2 fun b H3 =>
    if b = true then te σ2 H3 fun y H4 => ∃ acc, H4 D = some (.lst acc) ∧ acc.length < sizeLine ∧ Nx (upd H4 D (.lst (acc ++ [y]))) else Nx H3) := fun D hD => by
  refine lc_range (lo := lo) (n := n) (fun i => PcD H1 D ((((rngL lo 1 n).take i).filter p).map f)) ⟨Ex.new hD, Grows.nil⟩ (fun i H' hi P => ?_) (fun H' P => ?_)
  · have hd := rngL_get (lo := lo) (c := 1) hi
    rw [Int.mul_one] at hd
    have hm : lo + (i : Int) ∈ rngL lo 1 n := List.mem_of_getElem? hd
    refine ⟨hw _, ?_⟩
    have T := pc_turn (t := t) (te := te) (d := f (lo + i)) (σ2 := (wipe σ vs).set j (some (.int (lo + i)))) P hD (by have := flen (rngL lo 1 n) i p f; rw [rngL_len] at this; omega) (ht _ H1 e1 hm) (fun hp => he _ H1 e1 hm hp) (fun _ => hn _)
    rw [← take_filter_map hd p f] at T
    exact T
  · have P' : PcD H1 D ((((rngL lo 1 n).take n).filter p).map f) H' := P
    rw [List.take_of_length_le (by rw [rngL_len]; exact Nat.le_refl _)] at P'
    exact q _ H' P'.1 P'.2.rp
theorem ed_lcR1 {ta : TA} {j : Nat} {vs : List Nat} {n : Int} (f : Int → PyData) (h : EvDA ta σ H [.int n]) (hz : n ≤ 40000) (hw : ∀ x, wipe ((wipe σ vs).set j (some x)) vs = wipe σ vs)
    (hn0 : 0 ≤ n) (he : ∀ (x : Int) H1, Ex H H1 → 0 ≤ x → x < n → EvD te ((wipe σ vs).set j (some (.int x))) H1 (f x)) (hn : ∀ x, noL (f x) = true) :
    EvD (tLc (iRng1 ta) (gName j) tYes te vs) σ H (.list ((rngL 0 1 n.toNat).map f)) := fun H0 e Q q => h H0 e _ fun vs0 H1 e1 hv => by
  obtain ⟨v, rfl, rv⟩ := dpa_one hv
  cases dp_int rv
  have q2 : ∀ v H2, Ex H1 H2 → Rp H2 v (.list (((rngL 0 1 n.toNat).filter (fun _ => true)).map f)) → Q v H2 := fun v H2 a b => by
    rw [filter_yes] at b
    exact q v H2 (e1.trans a) b
  exact ⟨n, rfl, by omega, by omega, ed_lcR_core (tg := gName j) (t := tYes) (te := te) (fun _ => true) f (by omega) hw (fun _ _ _ _ => tYes_ev) (fun x H2 a m _ => by
    obtain ⟨i, hi, rfl⟩ := rngL_mem m
    exact he _ H2 a (by omega) (by omega)) hn (e.trans e1) q2⟩
theorem ed_lcR2 {ta : TA} {j : Nat} {vs : List Nat} {lo n : Int} (f : Int → PyData) (h : EvDA ta σ H [.int lo, .int n]) (hz : 0 ≤ lo ∧ lo ≤ 40000 ∧ n ≤ 40000 ∧ -40000 ≤ n) (hw : ∀ x, wipe ((wipe σ vs).set j (some x)) vs = wipe σ vs)
    (he : ∀ (x : Int) H1, Ex H H1 → lo ≤ x → x < n → EvD te ((wipe σ vs).set j (some (.int x))) H1 (f x)) (hn : ∀ x, noL (f x) = true) :
    EvD (tLc (iRng2 ta) (gName j) tYes te vs) σ H (.list ((rngL lo 1 (n - lo).toNat).map f)) := fun H0 e Q q => h H0 e _ fun vs0 H1 e1 hv => by
  obtain ⟨v, w, rfl, hv, hw2⟩ := dpa_two hv
  cases dp_int hv
  cases dp_int hw2
  have q2 : ∀ v H2, Ex H1 H2 → Rp H2 v (.list (((rngL lo 1 (n - lo).toNat).filter (fun _ => true)).map f)) → Q v H2 := fun v H2 a b => by
    rw [filter_yes] at b
    exact q v H2 (e1.trans a) b
  exact ⟨lo, n, rfl, ⟨by omega, by omega, by omega, by omega⟩, ed_lcR_core (tg := gName j) (t := tYes) (te := te) (fun _ => true) f (by omega) hw (fun _ _ _ _ => tYes_ev) (fun x H2 a m _ => by
    obtain ⟨i, hi, rfl⟩ := rngL_mem m
    exact he _ H2 a (by omega) (by omega)) hn (e.trans e1) q2⟩

/-! #### statements -/
theorem ev_of {te : TE} (h : EvD te σ H d) (hv : ∀ v H', Rp H' v d → v = x) : Ev te σ H x := fun H1 e Q q => h H1 e Q fun v H2 e2 r => by
  rw [hv v H2 r]
  exact q H2 e2
theorem ev_int {i : Int} (h : EvD te σ H (.int i)) : Ev te σ H (.int i) := ev_of h fun _ _ r => dp_int r
theorem ev_bl {i : Bool} (h : EvD te σ H (.bool i)) : Ev te σ H (.bl i) := ev_of h fun _ _ r => dp_bl r
theorem ev_str {i : Str} (h : EvD te σ H (.str i)) : Ev te σ H (.str i) := ev_of h fun _ _ r => dp_str r
theorem ev_non (h : EvD te σ H .none) : Ev te σ H .non := ev_of h fun _ _ r => dp_non r
theorem ea1 {ta : TA} {i : Int} (h : EvDA ta σ H [.int i]) : EvA ta σ H [.int i] := fun H1 e _ q => h H1 e _ fun vs H2 e2 r => by
  obtain ⟨v, rfl, hv⟩ := dpa_one r
  cases dp_int hv
  exact q H2 e2
theorem ea2 {ta : TA} {i j : Int} (h : EvDA ta σ H [.int i, .int j]) : EvA ta σ H [.int i, .int j] := fun H1 e _ q => h H1 e _ fun vs H2 e2 r => by
  obtain ⟨v, w, rfl, hv, hw⟩ := dpa_two r
  cases dp_int hv
  cases dp_int hw
  exact q H2 e2
theorem ea3 {ta : TA} {i j k : Int} (h : EvDA ta σ H [.int i, .int j, .int k]) : EvA ta σ H [.int i, .int j, .int k] := fun H1 e _ q => h H1 e _ fun vs H2 e2 r => by
  obtain ⟨v, w, z, rfl, hv, hw, hz⟩ := dpa_three r
  cases dp_int hv
  cases dp_int hw
  cases dp_int hz
  exact q H2 e2
variable {D : Ends} {tu tw tz : TS} {g : L2.TG}
theorem s_asgD {i : Nat} (h : EvD te σ H d) (k : ∀ v H1, Ex H H1 → Rp H1 v d → D.nx (σ.set i (some v)) H1) : tAsg te (gName i) D σ H := h H (Ex.refl H) _ k
theorem q_asgD {i : Nat} (h : EvD te σ H d) (k : ∀ v H1, Ex H H1 → Rp H1 v d → tz D (σ.set i (some v)) H1) : tSeq (tAsg te (gName i)) tz D σ H := h H (Ex.refl H) _ k
theorem s_asgI {i : Nat} {n : Int} (h : EvD te σ H (.int n)) (k : ∀ H1, Ex H H1 → D.nx (σ.set i (some (.int n))) H1) : tAsg te (gName i) D σ H := s_asg (ev_int h) k
theorem q_asgI {i : Nat} {n : Int} (h : EvD te σ H (.int n)) (k : ∀ H1, Ex H H1 → tz D (σ.set i (some (.int n))) H1) : tSeq (tAsg te (gName i)) tz D σ H := q_asg (ev_int h) k
theorem q_asgB {i : Nat} {n : Bool} (h : EvD te σ H (.bool n)) (k : ∀ H1, Ex H H1 → tz D (σ.set i (some (.bl n))) H1) : tSeq (tAsg te (gName i)) tz D σ H := q_asg (ev_bl h) k
theorem q_asgS {i : Nat} {n : Str} (h : EvD te σ H (.str n)) (k : ∀ H1, Ex H H1 → tz D (σ.set i (some (.str n))) H1) : tSeq (tAsg te (gName i)) tz D σ H := q_asg (ev_str h) k
theorem s_asgS {i : Nat} {n : Str} (h : EvD te σ H (.str n)) (k : ∀ H1, Ex H H1 → D.nx (σ.set i (some (.str n))) H1) : tAsg te (gName i) D σ H := s_asg (ev_str h) k
theorem s_retD (h : EvD te σ H d) (k : ∀ v H1, Ex H H1 → Rp H1 v d → D.rt v H1) : tRet te D σ H := h H (Ex.refl H) _ k
theorem s_augI {i : Nat} {f : Int → Int → Int} {a b : Int} (hx : σ[i]? = some (some (.int a))) (h : EvD te σ H (.int b)) (k : ∀ H1, Ex H H1 → D.nx (σ.set i (some (.int (f a b)))) H1) : tAug i te (ipI f) D σ H := s_aug hx (ev_int h) k
theorem q_augI {i : Nat} {f : Int → Int → Int} {a b : Int} (hx : σ[i]? = some (some (.int a))) (h : EvD te σ H (.int b)) (k : ∀ H1, Ex H H1 → tz D (σ.set i (some (.int (f a b)))) H1) : tSeq (tAug i te (ipI f)) tz D σ H := q_aug hx (ev_int h) k
theorem s_augC {i : Nat} {C : Int → Int → Prop} {f : Int → Int → Int} {a b : Int} (hx : σ[i]? = some (some (.int a))) (h : EvD te σ H (.int b)) (hc : C a b) (k : ∀ H1, Ex H H1 → D.nx (σ.set i (some (.int (f a b)))) H1) : tAug i te (ipD C f) D σ H :=
  ⟨.int a, hx, ev_int h H (Ex.refl H) _ fun H1 e => ⟨a, b, rfl, rfl, hc, k H1 e⟩⟩
theorem q_augC {i : Nat} {C : Int → Int → Prop} {f : Int → Int → Int} {a b : Int} (hx : σ[i]? = some (some (.int a))) (h : EvD te σ H (.int b)) (hc : C a b) (k : ∀ H1, Ex H H1 → tz D (σ.set i (some (.int (f a b)))) H1) : tSeq (tAug i te (ipD C f)) tz D σ H :=
  s_augC (D := { D with nx := tz D }) hx h hc k
theorem q_next (h : D.nx σ H) : tNext D σ H := h
/-- a, b = e1, e2 -/
theorem s_parD {i j : Nat} {ta : TA} (h : EvDA ta σ H [d1, d2]) (k : ∀ v w H1, Ex H H1 → Rp H1 v d1 → Rp H1 w d2 → D.nx ((σ.set i (some v)).set j (some w)) H1) : tPar i j ta D σ H := h H (Ex.refl H) _ fun vs H1 e r => by
  obtain ⟨v, w, rfl, hv, hw⟩ := dpa_two r
  exact ⟨v, w, rfl, k v w H1 e hv hw⟩
theorem q_parD {i j : Nat} {ta : TA} (h : EvDA ta σ H [d1, d2]) (k : ∀ v w H1, Ex H H1 → Rp H1 v d1 → Rp H1 w d2 → tz D ((σ.set i (some v)).set j (some w)) H1) : tSeq (tPar i j ta) tz D σ H := s_parD (D := { D with nx := tz D }) h k
/-- a, b = a pair; a, b, c = a triple -/
theorem g_unp2 {i j : Nat} {Q : L2.St → Hp → Prop} (hv : Rp H v (.tuple [d1, d2])) (k : ∀ x y, Rp H x d1 → Rp H y d2 → Q ((σ.set i (some x)).set j (some y)) H) : gTup K 2 (gCons (gName i) (gCons (gName j) gNil)) v σ H Q := by
  obtain ⟨a, xs, rfl, hs, hx⟩ := dp_tup hv
  obtain ⟨x, y, rfl, h1, h2⟩ := dpa_two hx
  exact ⟨a, [x, y], rfl, SqT.of hs, rfl, x, [y], rfl, y, [], rfl, rfl, k x y h1 h2⟩
theorem g_unp3 {i j l : Nat} {d3 : PyData} {Q : L2.St → Hp → Prop} (hv : Rp H v (.tuple [d1, d2, d3])) (k : ∀ x y z, Rp H x d1 → Rp H y d2 → Rp H z d3 → Q (((σ.set i (some x)).set j (some y)).set l (some z)) H) :
    gTup K 3 (gCons (gName i) (gCons (gName j) (gCons (gName l) gNil))) v σ H Q := by
  obtain ⟨a, xs, rfl, hs, hx⟩ := dp_tup hv
  obtain ⟨x, y, z, rfl, h1, h2, h3⟩ := dpa_three hx
  exact ⟨a, [x, y, z], rfl, SqT.of hs, rfl, x, [y, z], rfl, y, [z], rfl, z, [], rfl, rfl, k x y z h1 h2 h3⟩
theorem s_unp (h : EvD te σ H d) (k : ∀ v H1, Ex H H1 → Rp H1 v d → g v σ H1 D.nx) : tAsg te g D σ H := h H (Ex.refl H) _ k
theorem q_unp (h : EvD te σ H d) (k : ∀ v H1, Ex H H1 → Rp H1 v d → g v σ H1 (tz D)) : tSeq (tAsg te g) tz D σ H := h H (Ex.refl H) _ k
/-- a loop over a list of data that changes nothing that stood -/
theorem s_forLD {tl : TE} {ds : List PyData} (h : EvD tl σ H (.list ds)) (I : Nat → L2.St → Hp → Prop) (h0 : ∀ H1, Ex H H1 → I 0 σ H1)
    (hs : ∀ i d v σ' H' (N : L2.St → Hp → Prop), ds[i]? = some d → Ex H H' → Rp H' v d → I i σ' H' → (∀ s' h', Ex H' h' → I (i + 1) s' h' → N s' h') → g v σ' H' fun σ2 H2 => tu { D with nx := N, ct := N, bk := D.nx } σ2 H2)
    (hd : ∀ σ' H', Ex H H' → I ds.length σ' H' → D.nx σ' H') : tFor (iList K tl) g tu D σ H := h H (Ex.refl H) _ fun v H1 e hv => by
  obtain ⟨a, xs, rfl, hs1, hx⟩ := dp_list hv
  refine ⟨a, rfl, ⟨xs, SqL.of hs1⟩, ?_⟩
  refine for_list (xs := xs) (fun i σ' H' => Ex H1 H' ∧ I i σ' H') ⟨Ex.refl H1, h0 H1 e⟩ (fun i σ' H' _ P => SqL.of (P.1 _ _ hs1)) (fun i x σ' H' hi P => ?_) (fun σ' H' P => ?_)
  · obtain ⟨d, hd', rx⟩ := dpa_get' hx hi
    exact hs i d x σ' H' _ hd' (e.trans P.1) (dp_mono P.1 rx) P.2 fun s' h' e' i' => ⟨P.1.trans e', i'⟩
  · have P' : I xs.length σ' H' := P.2
    rw [dpa_len hx] at P'
    exact hd σ' H' (e.trans P.1) P'
theorem q_forLD {tl : TE} {ds : List PyData} (h : EvD tl σ H (.list ds)) (I : Nat → L2.St → Hp → Prop) (h0 : ∀ H1, Ex H H1 → I 0 σ H1)
    (hs : ∀ i d v σ' H' (N : L2.St → Hp → Prop), ds[i]? = some d → Ex H H' → Rp H' v d → I i σ' H' → (∀ s' h', Ex H' h' → I (i + 1) s' h' → N s' h') → g v σ' H' fun σ2 H2 => tu { D with nx := N, ct := N, bk := tz D } σ2 H2)
    (hd : ∀ σ' H', Ex H H' → I ds.length σ' H' → tz D σ' H') : tSeq (tFor (iList K tl) g tu) tz D σ H := s_forLD (D := { D with nx := tz D }) h I h0 hs hd
theorem s_forTD {tl : TE} {ds : List PyData} (h : EvD tl σ H (.tuple ds)) (I : Nat → L2.St → Hp → Prop) (h0 : ∀ H1, Ex H H1 → I 0 σ H1)
    (hs : ∀ i d v σ' H' (N : L2.St → Hp → Prop), ds[i]? = some d → Ex H H' → Rp H' v d → I i σ' H' → (∀ s' h', Ex H' h' → I (i + 1) s' h' → N s' h') → g v σ' H' fun σ2 H2 => tu { D with nx := N, ct := N, bk := D.nx } σ2 H2)
    (hd : ∀ σ' H', Ex H H' → I ds.length σ' H' → D.nx σ' H') : tFor (iTup K tl) g tu D σ H := h H (Ex.refl H) _ fun v H1 e hv => by
  obtain ⟨a, xs, rfl, hs1, hx⟩ := dp_tup hv
  refine ⟨a, rfl, ⟨xs, SqT.of hs1⟩, ?_⟩
  refine for_tup (xs := xs) (fun i σ' H' => Ex H1 H' ∧ I i σ' H') ⟨Ex.refl H1, h0 H1 e⟩ (fun i σ' H' _ P => SqT.of (P.1 _ _ hs1)) (fun i x σ' H' hi P => ?_) (fun σ' H' P => ?_)
  · obtain ⟨d, hd', rx⟩ := dpa_get' hx hi
    exact hs i d x σ' H' _ hd' (e.trans P.1) (dp_mono P.1 rx) P.2 fun s' h' e' i' => ⟨P.1.trans e', i'⟩
  · have P' : I xs.length σ' H' := P.2
    rw [dpa_len hx] at P'
    exact hd σ' H' (e.trans P.1) P'
end
end Sq
namespace Sq
open PySem PySem.Spec PyProof.Rows L2 Evl
/-! #### texts taken apart and put together -/
theorem pre_split {S l : List Nat} (h : TL.pre S l = true) : l = S ++ l.drop S.length := by
  have e : l.take S.length = S := eq_of_beq h
  have := (List.take_append_drop S.length l).symm
  rw [e] at this
  exact this
theorem par_eq {S : List Nat} : ∀ (L acc : List Nat) {a b : List Nat}, TL.par S acc L = some (a, b) → acc ++ L = a ++ (S ++ b)
  | [], acc, a, b, h => nomatch (show none = some (a, b) from h)
  | c :: r, acc, a, b, h => by
    cases hp : TL.pre S (c :: r) with
    | true =>
      rw [TL.par_hit hp] at h
      obtain ⟨h1, h2⟩ := Prod.mk.inj (Option.some.inj h)
      rw [← h1, ← h2, ← pre_split hp]
    | false =>
      rw [TL.par_miss hp] at h
      have := par_eq r (acc ++ [c]) h
      rw [List.append_assoc] at this
      exact this
theorem spl_ne (S : List Nat) : ∀ (L acc : List Nat) (k : Nat), TL.spl S k acc L ≠ []
  | [], acc, k => by rw [TL.spl_nil]; exact fun h => nomatch h
  | c :: r, acc, k + 1 => spl_ne S r acc k
  | c :: r, acc, 0 => by
    cases hp : TL.pre S (c :: r) with
    | true =>
      rw [TL.spl_hit hp]
      exact fun h => nomatch h
    | false =>
      rw [TL.spl_miss hp]
      exact spl_ne S r _ 0
theorem joinL_cons {S p : List Nat} {X : List (List Nat)} (h : X ≠ []) : TL.joinL S (p :: X) = p ++ (S ++ TL.joinL S X) := by
  cases X with
  | nil => exact absurd rfl h
  | cons q r => rfl
theorem joinL_spl {S : List Nat} (hS : S ≠ []) : ∀ (n : Nat) (L acc : List Nat), L.length ≤ n → TL.joinL S (TL.spl S 0 acc L) = acc ++ L
  | _, [], acc, _ => by
    rw [TL.spl_nil, List.append_nil]
    rfl
  | 0, c :: r, acc, h => absurd h (by simp)
  | n + 1, c :: r, acc, h => by
    have hl : r.length ≤ n := by simpa using h
    cases hp : TL.pre S (c :: r) with
    | true =>
      rw [TL.spl_hit hp, joinL_cons (spl_ne _ _ _ _), TL.spl_pass, joinL_spl hS n _ [] (by rw [List.length_drop]; omega), List.nil_append]
      have e := pre_split hp
      have e2 : (c :: r).drop S.length = r.drop (S.length - 1) := by
        cases S with
        | nil => exact absurd rfl hS
        | cons s S => rfl
      rw [e2] at e
      rw [← e]
    | false =>
      rw [TL.spl_miss hp, joinL_spl hS n r _ hl, List.append_assoc]
      rfl
theorem cut_join {x y : Str} (hy : TL.tl y ≠ []) (hk : y.cps.all (· < 256) = true) : Str.join y (PySem.Txt.split x y) = x := by
  refine TL.ext_tl ?_
  rw [TL.tl_join, TL.split_spl x y hy (TL.kind_ok hk), joinL_spl hy _ _ [] (Nat.le_refl _), List.nil_append]
theorem part_glue {x y : Str} (hy : TL.tl y ≠ []) (h : (PySem.Txt.partition x y).2.1 ≠ Str.empty) : (PySem.Txt.partition x y).2.1 = y ∧ x = ((PySem.Txt.partition x y).1 ++ y) ++ (PySem.Txt.partition x y).2.2 := by
  have e := TL.partition_par x y hy
  cases hp : TL.par (TL.tl y) [] (TL.tl x) with
  | none =>
    rw [hp] at e
    rw [e] at h
    exact absurd rfl h
  | some z =>
    obtain ⟨a, b⟩ := z
    rw [hp] at e
    rw [e]
    refine ⟨rfl, TL.ext_tl ?_⟩
    rw [TL.tl_append, TL.tl_append]
    show TL.tl x = (a ++ TL.tl y) ++ b
    rw [List.append_assoc]
    exact par_eq _ _ hp
end Sq
namespace Sq
open PySem PySem.Spec PyProof.Rows L2 Evl
/-! #### figures -/
def figS : Str := ("0123456789" : Str)
theorem fig_mem {c : Nat} (h : figS.cps.contains c = true) : 48 ≤ c ∧ c ≤ 57 := by
  have e : figS.cps = #[48, 49, 50, 51, 52, 53, 54, 55, 56, 57] := by decide +kernel
  rw [e] at h
  have h' : c ∈ [48, 49, 50, 51, 52, 53, 54, 55, 56, 57] := by
    have := Array.contains_iff_mem.mp h
    exact Array.mem_def.mp this
  simp only [List.mem_cons, List.not_mem_nil, or_false] at h'
  omega
theorem strip_figs {x : Str} (h : PySem.Txt.stripChars x figS = Str.empty) : ∀ c ∈ TL.tl x, 48 ≤ c ∧ c ≤ 57 := by
  have e := stripBy_eq figS.cps.contains true true x
  have e1 : PySem.Builtin.Str.strSub x (stripLo figS.cps.contains true x) (stripHi figS.cps.contains true x (stripLo figS.cps.contains true x)) = Str.empty := e.symm.trans h
  obtain ⟨l1, l2, _⟩ := lo_facts figS.cps.contains x
  obtain ⟨h1, h2, h3, _⟩ := hi_facts figS.cps.contains x _ l1
  have e2 : (TL.tl (PySem.Builtin.Str.strSub x (stripLo figS.cps.contains true x) (stripHi figS.cps.contains true x (stripLo figS.cps.contains true x)))).length = (TL.tl Str.empty).length := by rw [e1]
  rw [TL.tl_strSub, List.length_take, List.length_drop, ← TL.len_tl] at e2
  have e3 : stripHi figS.cps.contains true x (stripLo figS.cps.contains true x) = stripLo figS.cps.contains true x := by
    have : (TL.tl Str.empty).length = 0 := rfl
    rw [this] at e2
    omega
  intro c hc
  obtain ⟨k, hk, ec⟩ := List.getElem_of_mem hc
  have hk' : k < x.length := by rw [TL.len_tl]; exact hk
  have eg : x.cps.getD k 0 = c := by
    rw [← getD_list]
    show ((TL.tl x)[k]?).getD 0 = c
    rw [List.getElem?_eq_getElem hk, ec]
    rfl
  refine fig_mem ?_
  rw [← eg]
  by_cases q : k < stripLo figS.cps.contains true x
  · exact l2 k q
  · exact h3 k (by omega) hk'
theorem figs_num : ∀ (k : Nat) (l : List Nat), l.length = k + 1 → (∀ c ∈ l, 48 ≤ c ∧ c ≤ 57) → l.head? ≠ some 48 → ∃ n, 1 ≤ n ∧ n < 10 ^ (k + 1) ∧ TL.numL n = l
  | 0, l, hl, hc, hh => by
    cases l with
    | nil => cases hl
    | cons c r =>
      have hr : r = [] := List.eq_nil_of_length_eq_zero (by simpa using hl)
      subst hr
      have h1 := hc c List.mem_cons_self
      have h2 : c ≠ 48 := fun e => hh (by rw [e]; rfl)
      refine ⟨c - 48, by omega, by omega, ?_⟩
      rw [TL.numL_lt (by omega), show 48 + (c - 48) = c by omega]
  | k + 1, l, hl, hc, hh => by
    have hne : l ≠ [] := fun e => by rw [e] at hl; cases hl
    have e := List.dropLast_concat_getLast hne
    have h1 := hc _ (List.getLast_mem hne)
    generalize l.getLast hne = c at e h1
    have hrl : l.dropLast.length = k + 1 := by rw [List.length_dropLast, hl]; rfl
    obtain ⟨m, m1, m2, m3⟩ := figs_num k l.dropLast hrl (fun x hx => hc x (by have := List.mem_append_left [c] hx; rw [e] at this; exact this)) (fun q => hh (by
      rw [← e]
      cases hd : l.dropLast with
      | nil => rw [hd] at hrl; cases hrl
      | cons a r =>
        rw [hd] at q
        exact q))
    refine ⟨10 * m + (c - 48), by omega, ?_, ?_⟩
    · have : 10 ^ (k + 1 + 1) = 10 * 10 ^ (k + 1) := by rw [Nat.pow_succ 10 (k + 1), Nat.mul_comm]
      omega
    · rw [TL.numL_step (by omega), show (10 * m + (c - 48)) / 10 = m by omega, show 48 + (10 * m + (c - 48)) % 10 = c by omega, m3]
      exact e
/-- a text that tells a number, as number_in asks -/
def okCount (x : Str) : Bool := (decide (1 ≤ x.length) && decide (x.length ≤ 5)) && (decide (PySem.Txt.stripChars x figS = Str.empty) && !(decide ((TL.tl x).head? = some 48) && decide (x ≠ ("0" : Str))))
def numS (n : Int) : Str := Str.ofString (toString n)
theorem count_num {x : Str} (h : okCount x = true) : ∃ n : Nat, n < 100000 ∧ x = numS (n : Int) ∧ intText? x = some (n : Int) := by
  obtain ⟨h1, h2⟩ := Bool.and_eq_true_iff.mp h
  obtain ⟨h1, h1'⟩ := Bool.and_eq_true_iff.mp h1
  obtain ⟨h2, h3⟩ := Bool.and_eq_true_iff.mp h2
  have h1 := of_decide_eq_true h1
  have h1' := of_decide_eq_true h1'
  have hf := strip_figs (of_decide_eq_true h2)
  have key : ∃ n : Nat, n < 100000 ∧ TL.numL n = TL.tl x := by
    by_cases hz : (TL.tl x).head? = some 48
    · rw [decide_eq_true hz, Bool.true_and] at h3
      have hx : x = ("0" : Str) := by
        by_cases q : x = ("0" : Str)
        · exact q
        · rw [decide_eq_true q] at h3
          cases h3
      refine ⟨0, by decide, ?_⟩
      rw [hx, TL.numL_lt (by decide)]
      decide +kernel
    · obtain ⟨k, hk⟩ : ∃ k, x.length = k + 1 := ⟨x.length - 1, by omega⟩
      obtain ⟨n, _, n2, n3⟩ := figs_num k (TL.tl x) (by rw [← TL.len_tl]; exact hk) hf hz
      refine ⟨n, Nat.lt_of_lt_of_le n2 ?_, n3⟩
      exact Nat.le_trans (Nat.pow_le_pow_right (by decide) (show k + 1 ≤ 5 by omega)) (by decide)
  obtain ⟨n, hn, e⟩ := key
  have ex : x = numS (n : Int) := TL.ext_tl (by
    unfold numS
    rw [TL.tl_num, e])
  refine ⟨n, hn, ex, ?_⟩
  rw [ex]
  exact TL.int_num (Nat.le_trans (TL.numL_len (k := 5) (by decide) hn) (by decide))
def cnt (x : Str) : Option Int := if okCount x = true then intText? x else none
end Sq
namespace Sq
open PySem PySem.Spec PyProof.Rows L2 Evl
/-! #### a word: a number's figures, then ^2 -/
def sqS : Str := ("^2" : Str)
theorem tl_sq : TL.tl sqS = [94, 50] := by decide +kernel
def stem (w : Str) : Str := cutS w none (some (-2))
def hasSq (w : Str) : Bool := decide (cutS w (some (-2)) none = sqS)
theorem six2 (n d : Nat) : HT.sIx n d (some (-2)) = n - 2 := by
  show (if (-2 : Int) < 0 then ((-2 : Int) + (n : Int)).toNat else min (-2 : Int).toNat n) = n - 2
  rw [if_pos (by decide)]
  omega
theorem tl_tail2 (w : Str) : TL.tl (cutS w (some (-2)) none) = (TL.tl w).drop ((TL.tl w).length - 2) := by
  show ((TL.tl w).drop (HT.sIx w.length 0 (some (-2)))).take (HT.sIx w.length w.length none - HT.sIx w.length 0 (some (-2))) = _
  rw [six2, HT.sIx_none, TL.len_tl]
  exact List.take_of_length_le (by rw [List.length_drop]; omega)
theorem tl_stem (w : Str) : TL.tl (stem w) = (TL.tl w).take ((TL.tl w).length - 2) := by
  show ((TL.tl w).drop (HT.sIx w.length 0 none)).take (HT.sIx w.length w.length (some (-2)) - HT.sIx w.length 0 none) = _
  rw [six2, HT.sIx_none, TL.len_tl, List.drop_zero, Nat.sub_zero]
theorem hasSq_iff (w : Str) : hasSq w = true ↔ (TL.tl w).drop ((TL.tl w).length - 2) = [94, 50] := by
  unfold hasSq
  rw [decide_eq_true_iff]
  constructor
  · intro h
    rw [← tl_tail2, h, tl_sq]
  · intro h
    refine TL.ext_tl ?_
    rw [tl_tail2, h, tl_sq]
theorem stem_glue {w : Str} (h : hasSq w = true) : w = stem w ++ sqS := by
  refine TL.ext_tl ?_
  rw [TL.tl_append, tl_stem, tl_sq, ← (hasSq_iff w).mp h]
  exact (List.take_append_drop _ _).symm
theorem stem_len (w : Str) : (stem w).length ≤ w.length := cutS_length w _ _
theorem ends_sq (w : Str) : PySem.Txt.endswith w sqS = hasSq w := by
  have l2 : sqS.length = 2 := by rw [TL.len_tl, tl_sq]; rfl
  have e : PySem.Txt.endswith w sqS = (decide (0 + sqS.length ≤ w.length) && PySem.Builtin.Str.subAt w sqS (w.length - sqS.length)) := rfl
  rw [e, PySem.StrLaws.subAt_eq]
  show (decide (0 + sqS.length ≤ w.length) && (((TL.tl w).drop (w.length - sqS.length)).take sqS.length == TL.tl sqS)) = hasSq w
  rw [l2, tl_sq, TL.len_tl]
  by_cases h2 : 0 + 2 ≤ (TL.tl w).length
  · rw [decide_eq_true h2, Bool.true_and, List.take_of_length_le (by rw [List.length_drop]; omega)]
    cases hq : hasSq w with
    | true =>
      rw [(hasSq_iff w).mp hq]
      rfl
    | false =>
      cases hb : ((TL.tl w).drop ((TL.tl w).length - 2) == [94, 50]) with
      | false => rfl
      | true =>
        rw [(hasSq_iff w).mpr (eq_of_beq hb)] at hq
        cases hq
  · rw [decide_eq_false h2, Bool.false_and]
    cases hq : hasSq w with
    | false => rfl
    | true =>
      have := congrArg List.length ((hasSq_iff w).mp hq)
      rw [List.length_drop] at this
      have h3 : [94, 50].length = 2 := rfl
      omega
theorem cnt_some {x : Str} {i : Int} (h : cnt x = some i) : x = numS i ∧ 0 ≤ i ∧ i < 100000 ∧ okCount x = true := by
  unfold cnt at h
  by_cases q : okCount x = true
  · rw [if_pos q] at h
    obtain ⟨n, hn, e1, e2⟩ := count_num q
    rw [e2] at h
    have : (n : Int) = i := Option.some.inj h
    subst this
    exact ⟨e1, by omega, by omega, q⟩
  · rw [if_neg q] at h
    cases h
theorem cnt_none {x : Str} (h : okCount x = false) : cnt x = none := by
  unfold cnt
  rw [h]
  rfl
theorem cnt_ok {x : Str} (h : okCount x = true) : ∃ i, cnt x = some i ∧ intText? x = some i := by
  obtain ⟨n, hn, e1, e2⟩ := count_num h
  refine ⟨n, ?_, e2⟩
  unfold cnt
  rw [if_pos h, e2]
def numsT : List Str → Option (List Int)
  | [] => some []
  | w :: r => if hasSq w = true then (match cnt (stem w), numsT r with
    | some i, some l => some (i :: l)
    | _, _ => none) else none
def ptxtS (i : Int) : Str := numS i ++ sqS
theorem numsT_some : ∀ {ws : List Str} {ps : List Int}, numsT ws = some ps → ws = ps.map ptxtS ∧ (∀ p ∈ ps, 0 ≤ p ∧ p < 100000) ∧ ps.length = ws.length
  | [], ps, h => by
    cases h
    exact ⟨rfl, fun _ m => (nomatch m), rfl⟩
  | w :: r, ps, h => by
    unfold numsT at h
    by_cases q : hasSq w = true
    · rw [if_pos q] at h
      split at h
      · rename_i i l h1 h2
        cases h
        obtain ⟨e1, e2, e3, _⟩ := cnt_some h1
        obtain ⟨g1, g2, g3⟩ := numsT_some h2
        refine ⟨?_, fun p hp => ?_, by rw [List.length_cons, List.length_cons, g3]⟩
        · rw [List.map_cons, ← g1]
          congr 1
          unfold ptxtS
          rw [← e1]
          exact stem_glue q
        · rcases List.mem_cons.mp hp with rfl | hp
          · exact ⟨e2, e3⟩
          · exact g2 p hp
      · cases h
    · rw [if_neg q] at h
      cases h
end Sq
namespace Sq
open PySem PySem.Spec PyProof.Rows L2 Evl
def topS (i : Nat) : Stmt := PySem.Challenge.pw_squarefield_k08_written.main.body.getD i (.Pass ⟨0, 0, 0, 0⟩)
abbrev s_is_number : Stmt := topS 9
theorem sc_is_number : FnScope ["thing", "low", "high"] ["thing", "low", "high"] (defScope s_is_number) := ⟨rfl, rfl, rfl, by decide +kernel, rfl, by decide +kernel, by decide +kernel⟩
abbrev s_check_number : Stmt := topS 10
theorem sc_check_number : FnScope ["number", "low", "high"] ["number", "low", "high"] (defScope s_check_number) := ⟨rfl, rfl, rfl, by decide +kernel, rfl, by decide +kernel, by decide +kernel⟩
abbrev s_is_sum : Stmt := topS 12
theorem sc_is_sum : FnScope ["parts", "number", "part"] ["parts", "number"] (defScope s_is_sum) := ⟨rfl, rfl, rfl, by decide +kernel, rfl, by decide +kernel, by decide +kernel⟩
abbrev s_check_parts : Stmt := topS 15
theorem sc_check_parts : FnScope ["number", "parts", "part"] ["number", "parts"] (defScope s_check_parts) := ⟨rfl, rfl, rfl, by decide +kernel, rfl, by decide +kernel, by decide +kernel⟩
abbrev s_written : Stmt := topS 16
theorem sc_written : FnScope ["number", "parts", "part"] ["number", "parts"] (defScope s_written) := ⟨rfl, rfl, rfl, by decide +kernel, rfl, by decide +kernel, by decide +kernel⟩
abbrev s_number_in : Stmt := topS 17
theorem sc_number_in : FnScope ["text"] ["text"] (defScope s_number_in) := ⟨rfl, rfl, rfl, by decide +kernel, rfl, by decide +kernel, by decide +kernel⟩
abbrev s_read : Stmt := topS 18
theorem sc_read : FnScope ["text", "head", "sign", "tail", "number", "parts", "word"] ["text"] (defScope s_read) := ⟨rfl, rfl, rfl, by decide +kernel, rfl, by decide +kernel, by decide +kernel⟩
abbrev s_law_cell_at : Stmt := topS 20
theorem sc_law_cell_at : FnScope ["_law_script", "_law_k"] ["_law_script", "_law_k"] (defScope s_law_cell_at) := ⟨rfl, rfl, rfl, by decide +kernel, rfl, by decide +kernel, by decide +kernel⟩
abbrev s_law_draw : Stmt := topS 21
theorem sc_law_draw : FnScope ["_law_cell", "_law_k", "_law_many", "_law_primes"] ["_law_cell", "_law_k", "_law_many"] (defScope s_law_draw) := ⟨rfl, rfl, rfl, by decide +kernel, rfl, by decide +kernel, by decide +kernel⟩
abbrev s_law_count : Stmt := topS 22
theorem sc_law_count : FnScope ["_law_text"] ["_law_text"] (defScope s_law_count) := ⟨rfl, rfl, rfl, by decide +kernel, rfl, by decide +kernel, by decide +kernel⟩
abbrev s_law_in : Stmt := topS 23
theorem sc_law_in : FnScope ["_law_text", "_law_head", "_law_sign", "_law_tail", "_law_words", "_law_parts", "_law_word", "_law_part"] ["_law_text"] (defScope s_law_in) := ⟨rfl, rfl, rfl, by decide +kernel, rfl, by decide +kernel, by decide +kernel⟩
abbrev s_law_refused : Stmt := topS 24
theorem sc_law_refused : FnScope ["_law_text", "error", "_law_others"] ["_law_text"] (defScope s_law_refused) := ⟨rfl, rfl, rfl, by decide +kernel, rfl, by decide +kernel, by decide +kernel⟩
abbrev s_law_right : Stmt := topS 25
theorem sc_law_right : FnScope ["_law_text", "_law_due", "_law_found"] ["_law_text"] (defScope s_law_right) := ⟨rfl, rfl, rfl, by decide +kernel, rfl, by decide +kernel, by decide +kernel⟩
abbrev s_law_few : Stmt := topS 26
theorem sc_law_few : FnScope ["_law_some"] [] (defScope s_law_few) := ⟨rfl, rfl, rfl, by decide +kernel, rfl, by decide +kernel, by decide +kernel⟩
abbrev s_law : Stmt := topS 27
theorem sc_law : FnScope ["_law_script", "_law_cell", "_law_most", "_law_k", "_law_parts", "_law_number", "_law_text", "_law_handed", "_law_more", "_law_at", "_law_sign", "_law_part", "_law_thing", "_law_other"] ["_law_script"] (defScope s_law) := ⟨rfl, rfl, rfl, by decide +kernel, rfl, by decide +kernel, by decide +kernel⟩
structure Txt (K : PySem.W.Frag) (mg : Str → Option Value) where
  a_is_number : Addr
  d_is_number : FuncData
  F_is_number : Fun K "is_number" "is_number" s_is_number a_is_number d_is_number
  b_is_number : Binds K d_is_number ["thing", "low", "high"] []
  g_is_number : mg "is_number" = some (.ref a_is_number)
  a_check_number : Addr
  d_check_number : FuncData
  F_check_number : Fun K "check_number" "check_number" s_check_number a_check_number d_check_number
  b_check_number : Binds K d_check_number ["number", "low", "high"] []
  g_check_number : mg "check_number" = some (.ref a_check_number)
  a_is_sum : Addr
  d_is_sum : FuncData
  F_is_sum : Fun K "is_sum" "is_sum" s_is_sum a_is_sum d_is_sum
  b_is_sum : Binds K d_is_sum ["parts", "number"] []
  g_is_sum : mg "is_sum" = some (.ref a_is_sum)
  a_check_parts : Addr
  d_check_parts : FuncData
  F_check_parts : Fun K "check_parts" "check_parts" s_check_parts a_check_parts d_check_parts
  b_check_parts : Binds K d_check_parts ["number", "parts"] []
  g_check_parts : mg "check_parts" = some (.ref a_check_parts)
  a_written : Addr
  d_written : FuncData
  F_written : Fun K "written" "written" s_written a_written d_written
  b_written : Binds K d_written ["number", "parts"] []
  g_written : mg "written" = some (.ref a_written)
  a_number_in : Addr
  d_number_in : FuncData
  F_number_in : Fun K "number_in" "number_in" s_number_in a_number_in d_number_in
  b_number_in : Binds K d_number_in ["text"] []
  g_number_in : mg "number_in" = some (.ref a_number_in)
  a_read : Addr
  d_read : FuncData
  F_read : Fun K "read" "read" s_read a_read d_read
  b_read : Binds K d_read ["text"] []
  g_read : mg "read" = some (.ref a_read)
  a_law_cell_at : Addr
  d_law_cell_at : FuncData
  F_law_cell_at : Fun K "_law_cell_at" "_law_cell_at" s_law_cell_at a_law_cell_at d_law_cell_at
  b_law_cell_at : Binds K d_law_cell_at ["_law_script", "_law_k"] []
  g_law_cell_at : mg "_law_cell_at" = some (.ref a_law_cell_at)
  a_law_draw : Addr
  d_law_draw : FuncData
  F_law_draw : Fun K "_law_draw" "_law_draw" s_law_draw a_law_draw d_law_draw
  b_law_draw : Binds K d_law_draw ["_law_cell", "_law_k", "_law_many"] []
  g_law_draw : mg "_law_draw" = some (.ref a_law_draw)
  a_law_count : Addr
  d_law_count : FuncData
  F_law_count : Fun K "_law_count" "_law_count" s_law_count a_law_count d_law_count
  b_law_count : Binds K d_law_count ["_law_text"] []
  g_law_count : mg "_law_count" = some (.ref a_law_count)
  a_law_in : Addr
  d_law_in : FuncData
  F_law_in : Fun K "_law_in" "_law_in" s_law_in a_law_in d_law_in
  b_law_in : Binds K d_law_in ["_law_text"] []
  g_law_in : mg "_law_in" = some (.ref a_law_in)
  a_law_refused : Addr
  d_law_refused : FuncData
  F_law_refused : Fun K "_law_refused" "_law_refused" s_law_refused a_law_refused d_law_refused
  b_law_refused : Binds K d_law_refused ["_law_text"] []
  g_law_refused : mg "_law_refused" = some (.ref a_law_refused)
  a_law_right : Addr
  d_law_right : FuncData
  F_law_right : Fun K "_law_right" "_law_right" s_law_right a_law_right d_law_right
  b_law_right : Binds K d_law_right ["_law_text"] []
  g_law_right : mg "_law_right" = some (.ref a_law_right)
  a_law_few : Addr
  d_law_few : FuncData
  F_law_few : Fun K "_law_few" "_law_few" s_law_few a_law_few d_law_few
  b_law_few : Binds K d_law_few [] []
  g_law_few : mg "_law_few" = some (.ref a_law_few)
  a_law : Addr
  d_law : FuncData
  F_law : Fun K "law" "law" s_law a_law d_law
  b_law : Binds K d_law ["_law_script"] []
  g_law : mg "law" = some (.ref a_law)
  t_GREATEST : Tok
  g_GREATEST : mg "GREATEST" = some (.int 10000 t_GREATEST)
  t_FIGURES : Tok
  g_FIGURES : mg "FIGURES" = some (.str (PySem.Str.ofString "0123456789") t_FIGURES)
  z_ValueError : mg "ValueError" = none
  z_all : mg "all" = none
  z_any : mg "any" = none
  z_bool : mg "bool" = none
  z_int : mg "int" = none
  z_isinstance : mg "isinstance" = none
  z_len : mg "len" = none
  z_list : mg "list" = none
  z_range : mg "range" = none
  z_sorted : mg "sorted" = none
  z_str : mg "str" = none
  z_sum : mg "sum" = none
  z_tuple : mg "tuple" = none
  c_SquareError : Addr
  g_SquareError : mg "SquareError" = some (.ref c_SquareError)
  b_SquareError : PySem.W.subIn K (.ref c_SquareError) (.type "BaseException") = some true
  d_SquareError : PySem.W.hasDictIn K c_SquareError = true
  t_SquareError : PySem.W.typeIn K (.ref c_SquareError) = some (.type "type")
  c_BadNumber : Addr
  g_BadNumber : mg "BadNumber" = some (.ref c_BadNumber)
  b_BadNumber : PySem.W.subIn K (.ref c_BadNumber) (.type "BaseException") = some true
  d_BadNumber : PySem.W.hasDictIn K c_BadNumber = true
  t_BadNumber : PySem.W.typeIn K (.ref c_BadNumber) = some (.type "type")
  x_BadNumber : PySem.W.excIn K c_BadNumber [.type "ValueError", .type "Exception", .type "BaseException", .type "object"] "ValueError.__new__" = true
  k_BadNumber : PySem.W.keepIn K (.ref c_BadNumber) = true
  s_BadNumber : PySem.W.subIn K (.ref c_BadNumber) (.ref c_SquareError) = some true
  E_BadNumber : ExcC K c_BadNumber
  c_BadPrime : Addr
  g_BadPrime : mg "BadPrime" = some (.ref c_BadPrime)
  b_BadPrime : PySem.W.subIn K (.ref c_BadPrime) (.type "BaseException") = some true
  d_BadPrime : PySem.W.hasDictIn K c_BadPrime = true
  t_BadPrime : PySem.W.typeIn K (.ref c_BadPrime) = some (.type "type")
  x_BadPrime : PySem.W.excIn K c_BadPrime [.type "ValueError", .type "Exception", .type "BaseException", .type "object"] "ValueError.__new__" = true
  k_BadPrime : PySem.W.keepIn K (.ref c_BadPrime) = true
  s_BadPrime : PySem.W.subIn K (.ref c_BadPrime) (.ref c_SquareError) = some true
  E_BadPrime : ExcC K c_BadPrime
  c_BadParts : Addr
  g_BadParts : mg "BadParts" = some (.ref c_BadParts)
  b_BadParts : PySem.W.subIn K (.ref c_BadParts) (.type "BaseException") = some true
  d_BadParts : PySem.W.hasDictIn K c_BadParts = true
  t_BadParts : PySem.W.typeIn K (.ref c_BadParts) = some (.type "type")
  x_BadParts : PySem.W.excIn K c_BadParts [.type "ValueError", .type "Exception", .type "BaseException", .type "object"] "ValueError.__new__" = true
  k_BadParts : PySem.W.keepIn K (.ref c_BadParts) = true
  s_BadParts : PySem.W.subIn K (.ref c_BadParts) (.ref c_SquareError) = some true
  E_BadParts : ExcC K c_BadParts
  c_BadWalk : Addr
  g_BadWalk : mg "BadWalk" = some (.ref c_BadWalk)
  b_BadWalk : PySem.W.subIn K (.ref c_BadWalk) (.type "BaseException") = some true
  d_BadWalk : PySem.W.hasDictIn K c_BadWalk = true
  t_BadWalk : PySem.W.typeIn K (.ref c_BadWalk) = some (.type "type")
  x_BadWalk : PySem.W.excIn K c_BadWalk [.type "ValueError", .type "Exception", .type "BaseException", .type "object"] "ValueError.__new__" = true
  k_BadWalk : PySem.W.keepIn K (.ref c_BadWalk) = true
  s_BadWalk : PySem.W.subIn K (.ref c_BadWalk) (.ref c_SquareError) = some true
  E_BadWalk : ExcC K c_BadWalk
  c_BadText : Addr
  g_BadText : mg "BadText" = some (.ref c_BadText)
  b_BadText : PySem.W.subIn K (.ref c_BadText) (.type "BaseException") = some true
  d_BadText : PySem.W.hasDictIn K c_BadText = true
  t_BadText : PySem.W.typeIn K (.ref c_BadText) = some (.type "type")
  x_BadText : PySem.W.excIn K c_BadText [.type "ValueError", .type "Exception", .type "BaseException", .type "object"] "ValueError.__new__" = true
  k_BadText : PySem.W.keepIn K (.ref c_BadText) = true
  s_BadText : PySem.W.subIn K (.ref c_BadText) (.ref c_SquareError) = some true
  E_BadText : ExcC K c_BadText
  is_BadText_BadNumber : PySem.W.kitOne K (.ref c_BadText) (.ref c_BadNumber) = some false
  is_BadText_BadParts : PySem.W.kitOne K (.ref c_BadText) (.ref c_BadParts) = some false
  is_BadText_BadPrime : PySem.W.kitOne K (.ref c_BadText) (.ref c_BadPrime) = some false
  is_BadText_BadWalk : PySem.W.kitOne K (.ref c_BadText) (.ref c_BadWalk) = some false
  is_BadText_BadText : PySem.W.kitOne K (.ref c_BadText) (.ref c_BadText) = some true
  is_BadText_ValueError : PySem.W.kitOne K (.ref c_BadText) (.type "ValueError") = some true
  y_BadNumber_BadNumber : PySem.W.subIn K (.ref c_BadNumber) (.ref c_BadNumber) = some true
  y_BadNumber_BadParts : PySem.W.subIn K (.ref c_BadNumber) (.ref c_BadParts) = some false
  y_BadParts_BadNumber : PySem.W.subIn K (.ref c_BadParts) (.ref c_BadNumber) = some false
  y_BadParts_BadParts : PySem.W.subIn K (.ref c_BadParts) (.ref c_BadParts) = some true
end Sq
open PySem PySem.Spec PyProof.Rows L2 Evl Sq
local macro_rules | `(tactic| walk_at "dp") => `(tactic| first | exact Rp.int _ | exact Rp.bl _ | exact Rp.str _ | exact Rp.non | assumption | (refine' dp_mono ?hx ?hy; (case hx => assumption); (case hy => walk_at "dp")))
local macro_rules | `(tactic| walk_at "sd") => `(tactic| first | assumption | omega | rfl | decide | exact le_lit rfl | (simp only [List.length_cons, List.length_nil]; omega))
local macro_rules | `(tactic| walk_at "ev") => `(tactic| first
  | (refine' ed_var rfl ?hz; (case hz => walk_at "dp"))
  | exact ed_ci | exact ed_cb | exact ed_cs | exact ed_cn
  | (refine' ed_I0i ?ea ?eb; (case' ea => walk_at "ev"); (case' eb => walk_at "ev"))
  | (refine' ed_eqI ?ea ?eb; (case' ea => walk_at "ev"); (case' eb => walk_at "ev"))
  | (refine' ed_neI ?ea ?eb; (case' ea => walk_at "ev"); (case' eb => walk_at "ev"))
  | (refine' ed_I0b ?ea ?eb; (case' ea => walk_at "ev"); (case' eb => walk_at "ev"))
  | (refine' ed_mod ?ea ?eb ?ec; (case' ea => walk_at "ev"); (case' eb => walk_at "ev"); (try (case ec => walk_at "sd")))
  | (refine' ed_mul ?ea ?eb ?ec; (case' ea => walk_at "ev"); (case' eb => walk_at "ev"); (try (case ec => walk_at "sd")))
  | (refine' ed_fdiv ?ea ?eb ?ec; (case' ea => walk_at "ev"); (case' eb => walk_at "ev"); (try (case ec => walk_at "sd")))
  | (refine' ed_pow ?ea ?eb ?ec; (case' ea => walk_at "ev"); (case' eb => walk_at "ev"); (try (case ec => walk_at "sd")))
  | (refine' ed_shl ?ea ?eb ?ec; (case' ea => walk_at "ev"); (case' eb => walk_at "ev"); (try (case ec => walk_at "sd")))
  | (refine' ed_neg ?hz; (case' hz => walk_at "ev"))
  | (refine' ed_eqB ?ea ?eb; (case' ea => walk_at "ev"); (case' eb => walk_at "ev"))
  | (refine' ed_neB ?ea ?eb; (case' ea => walk_at "ev"); (case' eb => walk_at "ev"))
  | (refine' ed_eqS ?ea ?eb; (case' ea => walk_at "ev"); (case' eb => walk_at "ev"))
  | (refine' ed_neS ?ea ?eb; (case' ea => walk_at "ev"); (case' eb => walk_at "ev"))
  | (refine' ed_isnB ?ea ?eb; (case' ea => walk_at "ev"); (case' eb => walk_at "ev"))
  | (refine' ed_ixL ?ea ?eb ?ec ?ed; (case' ea => walk_at "ev"); (case' eb => walk_at "ev"); (try (case ec => walk_at "sd")); (try (case ed => rfl)))
  | (refine' ed_ixT ?ea ?eb ?ec ?ed; (case' ea => walk_at "ev"); (case' eb => walk_at "ev"); (try (case ec => walk_at "sd")); (try (case ed => rfl)))
  | (refine' ed_not ?hz; (case' hz => walk_at "ev"))
  | (refine' ed_tup ?ea ?eb; (case' ea => walk_at "ea"); (try (case eb => walk_at "sd")))
  | (refine' ed_lst ?ea ?eb; (case' ea => walk_at "ea"); (try (case eb => walk_at "sd")))
  | (refine' ed_len ?hz; (case' hz => walk_at "ev"))
  | (refine' ed_lenT ?hz; (case' hz => walk_at "ev"))
  | (refine' ed_abs ?hz; (case' hz => walk_at "ev"))
  | (refine' ed_isi ?ea ?eb; (case' ea => walk_at "ev"); (try (case eb => first | exact kit_int _ | exact kit_bool _ | exact kit_tuple _ | exact kit_list _ | exact kit_str _)))
  | (refine' ed_call ?ea ?eb; (case' ea => walk_at "ea"); (try (case eb => walk_at "rel"))))
local macro_rules | `(tactic| walk_at "ea") => `(tactic| first | exact da_nil | (refine' da_cons ?xa ?xb; (case' xa => walk_at "ev"); (case' xb => walk_at "ea")))
local macro_rules | `(tactic| walk_at "et") => `(tactic| first
  | (refine' dt_test ?hz; (case' hz => walk_at "ev"))
  | (refine' dt_B ?hz; (case' hz => walk_at "ev"))
  | (refine' et_not ?hz; (case' hz => walk_at "et"))
  | (refine' et_and ?xa ?xb; (case' xa => walk_at "et"); (case' xb => (intro hx; (try simp only [decide_eq_true_eq, Bool.not_eq_true', decide_eq_false_iff_not] at hx); walk_at "et")))
  | (refine' et_or ?xa ?xb; (case' xa => walk_at "et"); (case' xb => (intro hx; (try simp only [decide_eq_false_iff_not, Bool.not_eq_false', decide_eq_true_eq] at hx); walk_at "et"))))
local macro_rules | `(tactic| walk_at "sq") => `(tactic| first | assumption | (refine' ex_l ?hx ?hy; (case hx => assumption); (case hy => walk_at "sq")))
namespace Sq
section
variable {P : Program} {w : World} {K : PySem.W.Frag} {mg : Str → Option Value} {base : Heap}
/-! #### the law's cells and draws -/
def cellAt (ns : List Int) (k : Int) : Int := ns.getD k.toNat 0
def spCell (K : PySem.W.Frag) : Sp := fun vs H Q _ => ∃ (a : Addr) (ns : List Int) (k : Int), vs = [.ref a, .int k] ∧ SqL K H a (ns.map V.int) ∧ 0 ≤ k ∧ ∀ H2, Ex H H2 → Q (.int (cellAt ns k)) H2
theorem ok_law_cell_at (T : Txt K mg) : FnOk P w K mg base CX0 1 T.a_law_cell_at T.d_law_cell_at ["_law_script", "_law_k"] (spCell K) := by
  refine T.F_law_cell_at.ok sc_law_cell_at (fun vs H Q E h => ?_) (fun cdv A outer s H vs Q E hr h => ?_)
  · obtain ⟨a, ns, k, rfl, _⟩ := h
    rfl
  · obtain ⟨a, ns, k, rfl, hS, hk, q⟩ := h
    refine ⟨_, (pss_cons (ps_if (pt_cmpR op_lt (pv 1) (pe_callB (lenQ (K := K)) (by rfl) T.z_len (by decide +kernel) (pa_cons (pv 0) pa_nil)) (nomark _)) (pss_one (ps_ret (pe_ix (ixlQ (K := K)) (pv 0) (pv 1) (fun _ _ => rfl)))) pss_nil) (pss_one (ps_ret pe_int))), ?_⟩
    refine ⟨_, rfl, _, rfl, a, _, rfl, .inl hS, k, _, rfl, rfl, _, rfl, ite2 (fun e => ?_) (fun e => ?_)⟩
    · have e1 := of_decide_eq_true e
      rw [List.length_map] at e1
      have hlt : k.toNat < ns.length := by omega
      refine ⟨_, rfl, _, rfl, a, _, k, .int ns[k.toNat], rfl, rfl, hS, ?_, ?_⟩
      · have g : (ns.map V.int)[k.toNat]? = some (.int ns[k.toNat]) := by
          rw [List.getElem?_map, List.getElem?_eq_getElem hlt]
          rfl
        have g2 := atI_nat g
        rw [Int.toNat_of_nonneg hk] at g2
        exact g2
      · have r := q H (Ex.refl H)
        have e2 : cellAt ns k = ns[k.toNat] := by
          unfold cellAt
          rw [List.getD_eq_getElem?_getD, List.getElem?_eq_getElem hlt]
          rfl
        rw [e2] at r
        exact r
    · have e1 : ¬ (k < ((ns.map V.int).length : Int)) := fun z => e (decide_eq_true z)
      rw [List.length_map] at e1
      have r := q H (Ex.refl H)
      have e2 : cellAt ns k = 0 := by
        unfold cellAt
        rw [List.getD_eq_getElem?_getD, List.getElem?_eq_none (by omega)]
        rfl
      rw [e2] at r
      exact r
theorem ed_cell {tb : TE} {σ : L2.St} {H : Hp} {E : XK} {a : Addr} {ns : List Int} {k : Int} (ha : σ[0]? = some (some (.ref a))) (hS : SqL K H a (ns.map V.int)) (hb : EvD tb σ H (.int k)) (hk : 0 ≤ k) :
    EvD (tCall (spCell K) [] E (tCons (tVar 0) (tCons tb tNil))) σ H (.int (cellAt ns k)) := fun H1 e _ q =>
  ⟨_, ha, ev_int hb H1 e _ fun H2 e2 => ⟨a, ns, k, rfl, ex_l (e.trans e2) hS, hk, fun H3 e3 => q _ H3 (e2.trans e3) (.int _)⟩⟩
def primes16 : List Int := [1000003, 1000033, 1000037, 1000039, 1000081, 1000099, 1000117, 1000121, 1000133, 1000151, 1000159, 1000171, 1000183, 1000187, 1000193, 1000199]
def draw (c k m : Int) : Int := (c * 48271 + k * 69621) % primes16.getD (k % 16).toNat 0 % m
theorem primes16_pos : ∀ i : Nat, i < 16 → 0 < primes16.getD i 0 := by decide
theorem draw_nonneg {c k m : Int} (h : 0 < m) : 0 ≤ draw c k m := Int.emod_nonneg _ (by omega)
theorem draw_lt {c k m : Int} (h : 0 < m) : draw c k m < m := Int.emod_lt_of_pos _ h
def rDraw : List PyData → PyData → Prop := fun ds d => ∃ c k m, ds = [.int c, .int k, .int m] ∧ (0 ≤ k ∧ k ≤ 100) ∧ 0 < m ∧ d = .int (draw c k m)
theorem ok_law_draw (T : Txt K mg) : FnOk P w K mg base CX0 1 T.a_law_draw T.d_law_draw ["_law_cell", "_law_k", "_law_many"] (spR rDraw) := by
  refine T.F_law_draw.ok sc_law_draw (fun vs H Q E h => ?_) (fun cdv A outer s H vs Q E hr h => ?_)
  · obtain ⟨ds, d, hv, ⟨c, k, m, rfl, _, _, rfl⟩, q⟩ := h
    exact dpa_len hv
  · obtain ⟨ds, d, hv, ⟨c, k, m, rfl, hk, hm, rfl⟩, q⟩ := h
    obtain ⟨v1, v2, v3, rfl, h1, h2, h3⟩ := dpa_three hv
    cases dp_int h1
    cases dp_int h2
    cases dp_int h3
    refine ⟨_, (pss_cons (ps_set (i := 3) sc_law_draw.nd rfl (Or.inl rfl) (pe_tup (pa_cons pe_int (pa_cons pe_int (pa_cons pe_int (pa_cons pe_int (pa_cons pe_int (pa_cons pe_int (pa_cons pe_int (pa_cons pe_int (pa_cons pe_int (pa_cons pe_int (pa_cons pe_int (pa_cons pe_int (pa_cons pe_int (pa_cons pe_int (pa_cons pe_int (pa_cons pe_int pa_nil)))))))))))))))))) (pss_one (ps_ret (pe_op op_mod (pe_op op_mod (pe_op op_add (pe_op op_mul (pv 0) pe_int) (pe_op op_mul (pv 1) pe_int)) (pe_ix (ixtQ (K := K)) (pv 3) (pe_op op_mod (pv 1) pe_int) (fun _ _ => rfl))) (pv 2))))), ?_⟩
    refine q_asgD (d := .tuple (primes16.map .int)) ?_ fun v H1 e1 hv1 => ?_
    · exact ed_tup (by walk_at "ea") (by decide)
    refine s_retD (d := .int (draw c k m)) ?_ fun v H2 e2 hv2 => q v H2 (e1.trans e2) hv2
    have hi : 0 ≤ k % 16 ∧ k % 16 < 16 := ⟨Int.emod_nonneg _ (by decide), Int.emod_lt_of_pos _ (by decide)⟩
    have hlt : (k % 16).toNat < 16 := by omega
    refine ed_mod (ed_mod ?_ (ed_ixT (ds := primes16.map .int) (i := k % 16) ?_ ?_ hi.1 (d := .int (primes16.getD (k % 16).toNat 0)) ?_) (primes16_pos _ hlt)) ?_ hm
    · walk_at "ev"
    · walk_at "ev"
    · walk_at "ev"
    · rw [List.getElem?_map, List.getD_eq_getElem?_getD, List.getElem?_eq_getElem (show (k % 16).toNat < primes16.length from hlt)]
      rfl
    · walk_at "ev"
end
end Sq
local macro_rules | `(tactic| walk_at "ev") => `(tactic| (refine' ed_cell rfl ?ea ?eb ?ec; (case' ea => walk_at "sq"); (case' eb => walk_at "ev"); (try (case ec => walk_at "sd"))))
local macro_rules | `(tactic| walk_at "rel") => `(tactic| exact ⟨_, _, _, rfl, (by decide), (by decide), rfl⟩)
namespace Sq
section
variable {P : Program} {w : World} {K : PySem.W.Frag} {mg : Str → Option Value} {base : Heap}
def isNum (x : PyData) (lo hi : Int) : Bool := match x with
  | .int i => decide (lo ≤ i) && decide (i ≤ hi)
  | _ => false
def rIsNum : List PyData → PyData → Prop := fun ds d => ∃ x lo hi, ds = [x, .int lo, .int hi] ∧ d = .bool (isNum x lo hi)
theorem ok_is_number (T : Txt K mg) : FnOk P w K mg base CX0 1 T.a_is_number T.d_is_number ["thing", "low", "high"] (spR rIsNum) := by
  refine T.F_is_number.ok sc_is_number (fun vs H Q E h => ?_) (fun cdv A outer s H vs Q E hr h => ?_)
  · obtain ⟨ds, d, hv, ⟨x, lo, hi, rfl, rfl⟩, q⟩ := h
    exact dpa_len hv
  · obtain ⟨ds, d, hv, ⟨x, lo, hi, rfl, rfl⟩, q⟩ := h
    obtain ⟨v1, v2, v3, rfl, h1, h2, h3⟩ := dpa_three hv
    cases dp_int h2
    cases dp_int h3
    refine ⟨_, (pss_one (ps_ret (pe_and (pe_callB (isiQ (K := K)) (by rfl) T.z_isinstance (by decide +kernel) (pa_cons (pv 0) (pa_cons (pe_bltn (v := .ty "int") (by rfl) T.z_int (by decide +kernel) rfl) pa_nil))) (pe_and (pe_not (pe_callB (isiQ (K := K)) (by rfl) T.z_isinstance (by decide +kernel) (pa_cons (pv 0) (pa_cons (pe_bltn (v := .ty "bool") (by rfl) T.z_bool (by decide +kernel) rfl) pa_nil)))) (pe_one (pe_chain op_le op_le (pv 1) (pv 0) (pv 2))))))), ?_⟩
    refine s_retD ?_ q
    have hx : EvD (tVar 0) (start ["thing", "low", "high"] [v1, .int lo, .int hi]) H x := ed_var rfl h1
    cases x with
    | int i =>
      exact ed_and (a := true) (ed_isi hx (kit_int _)) fun _ => ed_and (a := true) (ed_not (a := false) (ed_isi hx (kit_bool _))) fun _ =>
        ed_chain (f := fun i j => decide (i ≤ j)) (g := fun i j => decide (i ≤ j)) (by walk_at "ev") hx fun _ => by walk_at "ev"
    | bool i => exact ed_and (a := true) (ed_isi hx (kit_int _)) fun _ => ed_and (a := false) (b := false) (ed_not (a := true) (ed_isi hx (kit_bool _))) fun h => nomatch h
    | none => exact ed_and (a := false) (b := false) (ed_isi hx (kit_int _)) fun h => nomatch h
    | str i => exact ed_and (a := false) (b := false) (ed_isi hx (kit_int _)) fun h => nomatch h
    | list i => exact ed_and (a := false) (b := false) (ed_isi hx (kit_int _)) fun h => nomatch h
    | tuple i => exact ed_and (a := false) (b := false) (ed_isi hx (kit_int _)) fun h => nomatch h
    | dict i => exact ed_and (a := false) (b := false) (ed_isi hx (kit_int _)) fun h => nomatch h
theorem isNum_ok {i lo hi : Int} (h : lo ≤ i ∧ i ≤ hi) : isNum (.int i) lo hi = true := by
  show (decide (lo ≤ i) && decide (i ≤ hi)) = true
  rw [decide_eq_true h.1, decide_eq_true h.2]
  rfl
end
end Sq
local macro_rules | `(tactic| walk_at "rel") => `(tactic| exact ⟨_, _, _, rfl, rfl⟩)
namespace Sq
/-! #### whether parts are a sum -/
def isSum (ns : List Int) (n : Int) : Bool := (match ns with
  | [] => false
  | x :: _ => decide (0 ≤ x)) && decide (srt ns = ns) && decide ((ns.map fun x => x * x).sum = n)
theorem canLay_ints : ∀ ns : List Int, PyData.canLayAll0 (ns.map .int) = true
  | [] => rfl
  | n :: ns => by
    show (true && PyData.canLayAll0 (ns.map .int)) = true
    rw [canLay_ints ns]
    rfl
theorem depth_ints : ∀ ns : List Int, PyData.depthAll (ns.map .int) ≤ 1
  | [] => by decide
  | n :: ns => by
    have h := depth_ints ns
    simp only [List.map_cons, PyData.depthAll, PyData.depth] at h ⊢
    omega
theorem shaped_ints (ns : List Int) : SeqAt.shaped (.list (ns.map .int)) = true := by
  unfold SeqAt.shaped
  have h1 : PyData.canLay0 (.list (ns.map .int)) = true := canLay_ints ns
  have h2 := depth_ints ns
  have h3 : PyData.depth (.list (ns.map .int)) ≤ 64 := by
    simp only [PyData.depth]
    omega
  rw [h1, decide_eq_true h3]
  rfl
theorem eqvAll_ints : ∀ a b : List Int, PyData.eqvAll (a.map .int) (b.map .int) = decide (a = b)
  | [], [] => rfl
  | [], _ :: _ => rfl
  | _ :: _, [] => rfl
  | x :: a, y :: b => by
    show ((x == y) && PyData.eqvAll (a.map .int) (b.map .int)) = _
    rw [eqvAll_ints a b]
    by_cases h1 : x = y
    · by_cases h2 : a = b
      · simp [h1, h2]
      · simp [h1, h2]
    · simp [h1]
theorem eqv_intsL (a b : List Int) : PyData.eqv (.list (a.map .int)) (.list (b.map .int)) = decide (a = b) := eqvAll_ints a b
section
variable {P : Program} {w : World} {K : PySem.W.Frag} {mg : Str → Option Value} {base : Heap}
def rIsSum : List PyData → PyData → Prop := fun ds d => ∃ (ns : List Int) (n : Int), ds = [.list (ns.map .int), .int n] ∧ ns.length ≤ 1000 ∧ (∀ x ∈ ns, -100000000 ≤ x ∧ x ≤ 100000000) ∧ d = .bool (isSum ns n)
def sqD : PyData → PyData
  | .int x => .int (x * x)
  | d => d
theorem map_sq (ns : List Int) : (ns.map PyData.int).map sqD = (ns.map fun x => x * x).map PyData.int := by
  rw [List.map_map, List.map_map]
  rfl
theorem ok_is_sum (T : Txt K mg) : FnOk P w K mg base CX0 1 T.a_is_sum T.d_is_sum ["parts", "number"] (spR rIsSum) := by
  refine T.F_is_sum.ok sc_is_sum (fun vs H Q E h => ?_) (fun cdv A outer s H vs Q E hr h => ?_)
  · obtain ⟨ds, d, hv, ⟨ns, n, rfl, _, _, rfl⟩, q⟩ := h
    exact dpa_len hv
  · obtain ⟨ds, d, hv, ⟨ns, n, rfl, hl, hb, rfl⟩, q⟩ := h
    obtain ⟨v1, v2, rfl, h1, h2⟩ := dpa_two hv
    cases dp_int h2
    refine ⟨_, (pss_cons (ps_if (PW.pt (pw_or (pt_cmpR op_eqI (pe_callB (lenQ (K := K)) (by rfl) T.z_len (by decide +kernel) (pa_cons (pv 0) pa_nil)) pe_int (nomark _)) (pw_or (pt_cmpR op_lt (pe_ix (ixlQ (K := K)) (pv 0) pe_int (fun _ _ => rfl)) pe_int (nomark _)) (pw_or1 (pt_cmpR (nedQ (K := K) hr.units) (pv 0) (pe_callB (sortedQ (K := K)) (by rfl) T.z_sorted (by decide +kernel) (pa_cons (pv 0) pa_nil)) (nomark _)))))) (pss_one (ps_ret pe_bl)) pss_nil) (pss_one (ps_ret (pe_cmpR op_eqI (pe_callB (sumQ (K := K) rfl) (by rfl) T.z_sum (by decide +kernel) (pa_cons (pe_lc (own := [("part", 2)]) (g := gName 2) rfl sc_is_sum.nd (pilQ (K := K) (pv 0)) (blkOk_by (N := ["parts", "number", "part"]) (sc := defScope s_is_sum) (by decide +kernel)) (fun _ _ _ _ _ => (pg_name (i := 2) sc_is_sum.nd rfl (Or.inl rfl))) (fun _ _ _ _ _ => pts_nil) (fun _ _ _ _ _ => (pe_op op_mul (pv 2) (pv 2)))) pa_nil)) (pv 1) (nomark _))))), ?_⟩
    have hP : ∀ {H1 : Hp}, Ex H H1 → EvD (tVar 0) (start ["parts", "number", "part"] [v1, .int n]) H1 (.list (ns.map .int)) := fun e => ed_var rfl (dp_mono e h1)
    have hsum : ∀ {H1 : Hp}, Ex H H1 → EvD _ (start ["parts", "number", "part"] [v1, .int n]) H1 (.bool (decide ((ns.map fun x => x * x).sum = n))) := fun {H1} e => by
      refine ed_eqI (ta := tCB (rSum K) (tCons (tLc (iList K (tVar 0)) (gName 2) tYes (tOp (rI CMul fun i j => .int (i * j)) (tVar 2) (tVar 2)) [2]) tNil)) (tb := tVar 1) ?_ (ed_var rfl (.int n))
      refine ed_is (ed_sum (ds := (ns.map PyData.int).map sqD) (ed_lcL _ (hP e) (by rw [List.length_map]; omega) (by intro _; rfl) ?_ ?_) ?_) ?_
      · intro v d H2 e2 hm rd
        obtain ⟨x, hx, rfl⟩ := List.mem_map.mp hm
        cases dp_int rd
        have := hb x hx
        exact ed_mul (ed_var rfl (.int x)) (ed_var rfl (.int x)) (by omega)
      · intro d hm
        obtain ⟨x, hx, rfl⟩ := List.mem_map.mp hm
        rfl
      · rw [map_sq, ints_map]
      · rw [map_sq, ints_map]
    cases ns with
    | nil =>
      refine q_when (b := true) ?_ (fun _ H1 e1 => s_retD (d := .bool false) (by walk_at "ev") fun v H2 e2 r => q v H2 (e1.trans e2) r) (fun z => nomatch z)
      exact et_or (a := true) (b := false) (dt_test (ed_is (ed_eqI (ed_len (hP (Ex.refl H))) ed_ci) rfl)) (fun z => nomatch z)
    | cons x r =>
      have hx : EvD (tOp (rIxL K) (tVar 0) (tC (.int 0))) (start ["parts", "number", "part"] [v1, .int n]) H (.int x) := ed_ixL (hP (Ex.refl H)) ed_ci (by decide) rfl
      refine q_when (b := decide (x < 0) || !decide (x :: r = srt (x :: r))) ?_ (fun hb H1 e1 => ?_) (fun hb H1 e1 => ?_)
      · refine et_or (a := false) (dt_test (ed_is (ed_eqI (ed_len (hP (Ex.refl H))) ed_ci) ?_)) fun _ => et_or (dt_test (ed_I0b hx ed_ci)) fun _ => ?_
        · have : decide ((((x :: r).map PyData.int).length : Int) = 0) = false := decide_eq_false (by rw [List.length_map, List.length_cons]; omega)
          rw [this]
        · refine dt_test (ed_is (ed_neD (hP (Ex.refl H)) (ed_sorted (hP (Ex.refl H)) (by rw [ints_map])) (shaped_ints _) (by rw [ints_map]; exact shaped_ints _)) ?_)
          rw [ints_map, eqv_intsL]
      · refine s_retD (d := .bool false) (by walk_at "ev") fun v H2 e2 r' => q v H2 (e1.trans e2) ?_
        have : isSum (x :: r) n = false := by
          unfold isSum
          rcases Bool.or_eq_true_iff.mp hb with h | h
          · have := of_decide_eq_true h
            have e : decide (0 ≤ x) = false := decide_eq_false (by omega)
            simp only [e, Bool.false_and]
          · have e : decide (srt (x :: r) = x :: r) = false := decide_eq_false fun z => by
              rw [decide_eq_true z.symm] at h
              cases h
            simp only [e, Bool.and_false, Bool.false_and]
        rw [this]
        exact r'
      · refine s_retD (hsum e1) fun v H2 e2 r' => q v H2 (e1.trans e2) ?_
        obtain ⟨h3, h4⟩ := Bool.or_eq_false_iff.mp hb
        have h5 := of_decide_eq_false h3
        have h6 : srt (x :: r) = x :: r := by
          have h7 := h4
          simp only [Bool.not_eq_false', decide_eq_true_eq] at h7
          exact h7.symm
        have : isSum (x :: r) n = decide (((x :: r).map fun x => x * x).sum = n) := by
          unfold isSum
          rw [decide_eq_true h6]
          have e : decide (0 ≤ x) = true := decide_eq_true (by omega)
          simp only [e, Bool.true_and]
        rw [this]
        exact r'
end
/-! #### instances -/
section
variable {K : PySem.W.Frag} {σ : L2.St} {H H' : Hp} {te ta : TE} {d : PyData} {a C dx : Addr} {fs : List (Str × V)} {v : V}
/-- evaluates to something of which Φ holds -/
def EvX (te : TE) (σ : L2.St) (H : Hp) (F : V → Hp → Prop) : Prop := ∀ H1, Ex H H1 → ∀ Q : VK, (∀ v H2, Ex H1 H2 → F v H2 → Q v H2) → te σ H1 Q
theorem ex_of {F : V → Hp → Prop} (h : EvD te σ H d) (k : ∀ v H', Rp H' v d → F v H') : EvX te σ H F := fun H1 e Q q => h H1 e Q fun v H2 e2 r => q v H2 e2 (k v H2 r)
def spX (R : List PyData → (V → Hp → Prop) → Prop) : Sp := fun vs H Q _ => ∃ ds F, RpAll H vs ds ∧ R ds F ∧ ∀ v H2, Ex H H2 → F v H2 → Q v H2
theorem ex_call {R : List PyData → (V → Hp → Prop) → Prop} {E : XK} {t : TA} {ds : List PyData} {F : V → Hp → Prop} (h : EvDA t σ H ds) (hR : R ds F) : EvX (tCall (spX R) [] E t) σ H F := fun H1 e _ q =>
  h H1 e _ fun vs H2 e2 hv => ⟨ds, F, by rw [List.append_nil]; exact hv, hR, fun v H3 e3 hd => q v H3 (e2.trans e3) hd⟩
variable {D : Ends} {tz : TS}
theorem q_asgX {i : Nat} {F : V → Hp → Prop} (h : EvX te σ H F) (k : ∀ v H1, Ex H H1 → F v H1 → tz D (σ.set i (some v)) H1) : tSeq (tAsg te (gName i)) tz D σ H := h H (Ex.refl H) _ k
theorem s_retX {F : V → Hp → Prop} (h : EvX te σ H F) (k : ∀ v H1, Ex H H1 → F v H1 → D.rt v H1) : tRet te D σ H := h H (Ex.refl H) _ k
/-- o.f -/
theorem ed_fld {f : Str} (h : Ev ta σ H (.ref a)) (ho : H a = some (.ins C dx fs)) (hc : Cls K C) (hn : NoAttr K C f) (hl : fs.lookup f = some v) (hv : Rp H v d) : EvD (tFld K ta f) σ H d := fun H1 e _ q =>
  h H1 e _ fun H2 e2 => ⟨a, C, dx, fs, v, rfl, (e.trans e2) _ _ ho, hc, hn, hl, q v H2 e2 (dp_mono (e.trans e2) hv)⟩
/-- o.m(..) -/
theorem ed_meth {m : Str} {sp : Sp} {E : XK} {t : TA} {ds : List PyData} (h : Ev ta σ H (.ref a)) (ho : H a = some (.ins C dx fs)) (hl : fs.lookup m = none) (ht : EvDA t σ H ds)
    (hs : ∀ vs H1, Ex H H1 → RpAll H1 vs ds → ∀ Q : VK, (∀ z H2, Ex H1 H2 → Rp H2 z d → Q z H2) → sp (.ref a :: (vs ++ [])) H1 Q E) : EvD (tMeth C m sp [] E ta t) σ H d := fun H1 e Q q =>
  h H1 e _ fun H2 e2 => ⟨a, dx, fs, rfl, (e.trans e2) _ _ ho, hl, ht H2 (e.trans e2) _ fun vs H3 e3 hv => hs vs H3 ((e.trans e2).trans e3) hv Q fun z H4 e4 hz => q z H4 ((e2.trans e3).trans e4) hz⟩
theorem ed_or2l {t u : TE} (h : EvD t σ H d) : EvD (tOr2 t u) σ H d := fun H1 e Q q => .inl (h H1 e Q q)
theorem ed_or2r {t u : TE} (h : EvD u σ H d) : EvD (tOr2 t u) σ H d := fun H1 e Q q => .inr (h H1 e Q q)
/-- isinstance of an instance -/
structure InsTy (K : PySem.W.Frag) (C : Addr) : Prop where
  cl : Cls K C
  ha : PySem.W.findIn K (.ref C) "__class__" = some (some (.builtin "object.__class__"))
  hn : PySem.W.specialIn K (.builtin "object.__class__") "__get__" = some (some (.builtin "getset_descriptor.__get__"))
  htk : PySem.W.takesIn K (.builtin "object.__class__") = some true
  hm : PySem.W.mroIn K C (.type "object") = some true
theorem ed_isC {D' : Addr} {b : Bool} (h : Ev te σ H (.ref a)) (ho : H a = some (.ins C dx fs)) (t : InsTy K C) (hk : PySem.W.kitOne K (.ref C) (.ref D') = some b) : EvD (tCB (rIsi K) (tCons te (tCons (tC (.ref D')) tNil))) σ H (.bool b) := fun H1 e _ q =>
  h H1 e _ fun H2 e2 => ⟨.ref a, .ref D', .ref C, .ref D', b, rfl, .own D', .base (.ins ((e.trans e2) _ _ ho) t.cl t.ha t.hn t.htk t.hm), hk, q _ H2 e2 (.bl b)⟩
/-- C(..), its __init__ a promise that ends in fields fs' -/
theorem ex_make {sp : Sp} {E : XK} {t : TA} {ds : List PyData} {F : V → Hp → Prop} (ht : EvDA t σ H ds)
    (hs : ∀ vs H1 x dx, Ex H H1 → RpAll H1 vs ds → H1 x = none → H1 dx = none → dx ≠ x → ∀ Q : VK, (∀ H2, Ex H1 H2 → F (.ref x) H2 → Q .non H2) → sp (.ref x :: (vs ++ [])) (upd (upd H1 dx (.own x)) x (.ins C dx [])) Q E) :
    EvX (tMake C sp [] E t) σ H F := fun H1 e Q q => ht H1 e _ fun vs H2 e2 hv x dx hx hdx ne => hs vs H2 x dx (e.trans e2) hv hx hdx ne _ fun H3 e3 f => ⟨rfl, q _ H3 (e2.trans e3) f⟩
end
theorem ex_ins {H : Hp} {x dx : Addr} {o o' : HO} (hx : H x = none) (hdx : H dx = none) : Ex H (upd (upd H dx o) x o') := fun b u hb => by
  rw [upd_ne (ne_of_none hb hx), upd_ne (ne_of_none hb hdx)]
  exact hb
/-- the fields of a made answer -/
def f2 (f g : Str) (a b : V) : List (Str × V) := putF g b (putF f a [])
theorem f2_fst {f g : Str} {a b : V} (h : ¬ f = g) : (f2 f g a b).lookup f = some a := by
  unfold f2
  rw [lookup_putF, if_neg h, lookup_putF, if_pos rfl]
theorem f2_snd {f g : Str} {a b : V} : (f2 f g a b).lookup g = some b := by
  unfold f2
  rw [lookup_putF, if_pos rfl]
theorem f2_no {f g m : Str} {a b : V} (h1 : ¬ m = g) (h2 : ¬ m = f) : (f2 f g a b).lookup m = none := by
  unfold f2
  rw [lookup_putF, if_neg h1, lookup_putF, if_neg h2]
  rfl
def f1 (f : Str) (a : V) : List (Str × V) := putF f a []
theorem f1_at {f : Str} {a : V} : (f1 f a).lookup f = some a := by
  unfold f1
  rw [lookup_putF, if_pos rfl]
theorem f1_no {f m : Str} {a : V} (h : ¬ m = f) : (f1 f a).lookup m = none := by
  unfold f1
  rw [lookup_putF, if_neg h]
  rfl
def spInit2 (C : Addr) (f g : Str) : Sp := fun vs H Q _ => ∃ (x dx : Addr) (a b : V), vs = [.ref x, a, b] ∧ H x = some (.ins C dx []) ∧ Q .non (upd H x (.ins C dx (f2 f g a b)))
/-- an answer that holds a list of its own -/
def spInitL (C : Addr) (f : Str) : Sp := fun vs H Q _ => ∃ (x dx l : Addr) (xs : List V), vs = [.ref x, .ref l] ∧ H x = some (.ins C dx []) ∧ H l = some (.lst xs) ∧ ∀ p, H p = none → Q .non (upd (upd H p (.lst xs)) x (.ins C dx (f1 f (.ref p))))
end Sq
namespace Sq
open PySem PySem.Spec PyProof.Rows L2 Evl
/-! #### promises of defs that may refuse -/
def spXX (R : List PyData → (V → Hp → Prop) → Prop) (Z : List PyData → Addr → Prop) : Sp := fun vs H Q E => ∃ ds, RpAll H vs ds ∧ ((∃ F, R ds F ∧ ∀ v H2, Ex H H2 → F v H2 → Q v H2) ∨ (∃ C, Z ds C ∧ ∀ H2, Ex H H2 → E (.ref C) none H2))
section
variable {K : PySem.W.Frag} {σ : L2.St} {H H' : Hp} {ta tb te : TE} {D : Ends} {tu tw tz : TS} {t : TT} {d : PyData} {E : XK} {C : Addr}
theorem ex_callXX {R : List PyData → (V → Hp → Prop) → Prop} {Z : List PyData → Addr → Prop} {u : TA} {ds : List PyData} {F : V → Hp → Prop} (h : EvDA u σ H ds) (hR : R ds F) : EvX (tCall (spXX R Z) [] E u) σ H F := fun H1 e _ q =>
  h H1 e _ fun vs H2 e2 hv => ⟨ds, by rw [List.append_nil]; exact hv, .inl ⟨F, hR, fun v H3 e3 hd => q v H3 (e2.trans e3) hd⟩⟩
theorem ed_callXX {R : List PyData → (V → Hp → Prop) → Prop} {Z : List PyData → Addr → Prop} {u : TA} {ds : List PyData} (h : EvDA u σ H ds) (hR : R ds fun v H => Rp H v d) : EvD (tCall (spXX R Z) [] E u) σ H d := ex_callXX h hR
/-- an expression that is refused, by the class at C -/
def EvF (te : TE) (σ : L2.St) (H : Hp) (E : XK) (C : Addr) : Prop := ∀ H1, Ex H H1 → (∀ H2, Ex H1 H2 → E (.ref C) none H2) → ∀ Q, te σ H1 Q
theorem ef_call {R : List PyData → (V → Hp → Prop) → Prop} {Z : List PyData → Addr → Prop} {u : TA} {ds : List PyData} (h : EvDA u σ H ds) (hZ : Z ds C) : EvF (tCall (spXX R Z) [] E u) σ H E C := fun H1 e k Q =>
  h H1 e _ fun vs H2 e2 hv => ⟨ds, by rw [List.append_nil]; exact hv, .inr ⟨C, hZ, fun H3 e3 => k H3 (e2.trans e3)⟩⟩
theorem ef_if {b : Bool} (h : EvT t σ H b) (h1 : b = true → EvF ta σ H E C) (h2 : b = false → EvF tb σ H E C) : EvF (tIf t ta tb) σ H E C := fun H1 e k Q => h H1 e _ fun H2 e2 => by
  cases b with
  | true =>
    show ta σ H2 Q
    exact h1 rfl H2 (e.trans e2) (fun H3 e3 => k H3 (e2.trans e3)) Q
  | false =>
    show tb σ H2 Q
    exact h2 rfl H2 (e.trans e2) (fun H3 e3 => k H3 (e2.trans e3)) Q
theorem q_dropF (h : EvF te σ H E C) (k : ∀ H2, Ex H H2 → E (.ref C) none H2) : tSeq (tDrop te) tz D σ H := h H (Ex.refl H) k _
theorem s_dropF (h : EvF te σ H E C) (k : ∀ H2, Ex H H2 → E (.ref C) none H2) : tDrop te D σ H := h H (Ex.refl H) k _
theorem s_retF (h : EvF te σ H E C) (k : ∀ H2, Ex H H2 → E (.ref C) none H2) : tRet te D σ H := h H (Ex.refl H) k _
end
/-! #### a call of a parameter that holds one of several defs, in a try -/
section
variable {X : Cx} {x : Str} {p pos : Pos} {e : Expr} {es : List Expr} {t : TA} {i k : Nat}
structure HeldX (P : Program) (w : World) (K : PySem.W.Frag) (mg : Str → Option Value) (base : Heap) (k : Nat) (f : Addr) (sp : Sp) : Prop where
  ex : ∃ (fd : FuncData) (ps : List Str), FnOk P w K mg base (L2.CX P w) k f fd ps sp ∧ PySem.W.keepIn K (.ref f) = true ∧ Binds K fd ps []
def tCallAX (i : Nat) (S : Addr → Sp → Prop) (E : L2.St → XK) (t : TA) : TE := fun σ H Q => ∃ f sp, σ[i]? = some (some (.ref f)) ∧ S f sp ∧ t σ H fun vs H1 => sp vs H1 Q (E σ)
theorem pe_callAX {S : Addr → Sp → Prop} {E : L2.St → XK} (A : ∀ f sp, S f sp → HeldX X.prog X.w X.K X.mg X.base k f sp) (hr : Room k X.A) (hN : X.N[i]? = some x) (hv : Vis X.env.scope x) (hx : ∀ σ, PassesAt (L2.CX X.prog X.w) X σ (E σ)) (ha : PA X (e :: es) t)
    (hdb : (x == ("__debug__" : Str)) = false := by decide) (hcd : (x == ("__classdict__" : Str)) = false := by decide)
    (he : starEach (e :: es) X.env = (false, eval e X.env) :: starEach es X.env := by rfl) (hpl : (backTo pos (starEach es X.env)).any (·.1) = false := by rfl) : PE X (.Call (.Name x p) (e :: es) [] pos) (tCallAX i S E t) := by
  refine ⟨fun pins s σ H Q I h => ?_⟩
  obtain ⟨f, sp, hs, hS, ht⟩ := h
  obtain ⟨fd, ps, F, hk, hb⟩ := (A f sp hS).ex
  refine wpAny_Call_Name_kw (thn ((pe_var (pos := p) hN hv hdb hcd).run pins s σ H (fun v H1 => v = .ref f ∧ H1 = H) I ⟨.ref f, hs, rfl, rfl⟩) fun u s1 ⟨v, H1, I1, r1, q1⟩ => ?_)
  obtain ⟨rfl, rfl⟩ := q1
  cases r1
  refine PySem.W.callWith_K (h₀ := X.base) I.ok.mod.kin hk (thn (ha.run pos pins s1 σ _ _ I1 ht) fun us s2 ⟨vs, H2, I2, r, q⟩ => ⟨I2.kIn, ?_⟩) he hpl
  exact run_fnS F hr hb (hx σ) I2 r q
end
/-! #### a def called in an except suite: what it is told of the exception -/
section
open L2H
structure FnZ (P : Program) (w : World) (K : PySem.W.Frag) (mg : Str → Option Value) (base : Heap) (k : Nat) (f : Addr) (fd : FuncData) (ps : List Str) (sp : Addr → Addr → Sp) : Prop where
  len : ∀ D a vs H Q E, sp D a vs H Q E → vs.length = ps.length
  run : ∀ (A : Around) (outer : List Env) (s : Shared) (H : Hp) (args : Args) (us : List Value) (vs : List V) (Q : VK) (E : XK) (p : Addr × Obj) (D : Addr), RoomH k A → Zc (.ref D) none p.2 → (∃ zs, p.2.data = .fields zs) → PinOk outer H s p → Env0 P w K mg base A outer s H → BindsTo s fd args (ps.zip us) → Vals vs us → sp D p.1 vs H Q E →
    codeAny (model P w) A (.call (.ref f) args) (CR CX0 outer P w H s Q E) s
theorem fn_ofZ {P : Program} {w : World} {K : PySem.W.Frag} {mg : Str → Option Value} {base : Heap} {k : Nat} {f : Addr} {name qual : Str} {params : Arguments} {body : List Stmt} {scope : Scope} {dV kV doc pm cdv ct oc : Value} {an od : Option Addr}
    {osl : Array (Option Value)} {N ps : List Str} {sp : Addr → Addr → Sp} (lk : K.lookup f = some ⟨oc, od, .func (PySem.W.fnOf name qual params body scope dV kV doc pm an cdv ct), osl⟩) (hcd : PySem.W.codeIn K cdv qual = true) (S : FnScope N ps scope)
    (len : ∀ D a vs H Q E, sp D a vs H Q E → vs.length = ps.length)
    (hbody : ∀ (A : Around) (outer : List Env) (s : Shared) (H : Hp) (vs : List V) (Q : VK) (E : XK) (p : Addr × Obj) (D : Addr), Zc (.ref D) none p.2 → (∃ zs, p.2.data = .fields zs) → RoomH k (A.deeper (envOfC qual scope s.heap.objs.size f cdv)) → sp D p.1 vs H Q E →
      ∃ t, PSs (cxH CX0 P w K mg base N qual scope f cdv A outer s H E p) body t ∧ t { nx := fun _ H' => Q .non H', rt := Q } (L2.start N vs) H) :
    FnZ P w K mg base (k + 1) f (PySem.W.fnOf name qual params body scope dV kV doc pm an cdv ct) ps sp := by
  refine ⟨len, fun A outer s H args us vs Q E p D hr hz hzf hpin e0 hb r hsp => ?_⟩
  have hl := len _ _ _ _ _ _ hsp
  have KX : K.In s.heap := e0.mod.kin.keeps fun b o e => (e0.bs b o e).1
  have lim : s.heap.NoLimit := e0.mod.nolimit.keeps fun b o e => (e0.bs b o e).1
  have hkind : ∀ y ∈ ps.zip us, scope.names.lookup y.1 = some .local ∨ (scope.names.lookup y.1 = some .cell ∧ ((cellsFrom (s.heap.objs.size + 1) scope.names []).lookup y.1).isSome = true) := fun ⟨n, v⟩ hy => by
    rcases S.par n (List.of_mem_zip hy).1 with q | q
    · exact .inl q
    · exact .inr ⟨q, PySem.W.cellsFrom_some _ _ _ (.inl q)⟩
  refine codeAny_call_function hr.depth (KX _ _ lk) rfl S.co S.gen rfl (PySem.W.codeRec_of KX hcd) (hb _ _ _ _ ?_)
  refine wpAny_newFunctionEnv_cells S.kind hkind fun env he s1 x => ?_
  subst he
  refine ⟨lim.keeps x.toInCall.keep, codeAny_func ?_⟩
  obtain ⟨t, ht, hq⟩ := hbody A outer s H vs Q E p D hz hzf (hr.deeper _) hsp
  have I : Inv (cxH CX0 P w K mg base N qual scope f cdv A outer s H E p) [] (L2.start N vs) H s1 := inv_startH S hpin e0 hl r x
  refine wpAny_mono (ht.run [] s1 (L2.start N vs) H _ I hq) (fun fl s' hs => ?_) fun e s' hs => hs
  have fin : ∀ {σ' : L2.St} {H' : Hp} {v : V} {u : Value}, Inv (cxH CX0 P w K mg base N qual scope f cdv A outer s H E p) [] σ' H' s' → RelV v u → Q v H' → CE outer P w H s Q u s' :=
    fun {σ' H' v u} J rv q => ⟨v, H', J.os, J.bare, J.base, J.hok, rv, q⟩
  cases fl with
  | ret u =>
    obtain ⟨v, σ', H', J, rv, q⟩ := hs
    exact fin J rv q
  | next =>
    obtain ⟨σ', H', J, q⟩ := hs
    exact fin (v := V.non) (u := Value.none) J rfl q
  | brk =>
    obtain ⟨_, _, _, q⟩ := hs
    exact False.elim q
  | cont =>
    obtain ⟨_, _, _, q⟩ := hs
    exact False.elim q
variable {X : Cx} {x n : Str} {q0 q1 pos : Pos} {k i : Nat} {f : Addr} {fd : FuncData} {ps : List Str} {sp : Addr → Addr → Sp}
/-- f(e), e the name (in slot i) of the exception that the suite handles -/
def tCallZ (i : Nat) (sp : Addr → Addr → Sp) (a : Addr) (cls : Value) (d : Option Addr) : TE := fun σ H Q => σ[i]? = some (some (.ref a)) ∧ ∃ D, cls = .ref D ∧ d = none ∧ sp D a [.ref a] H Q (fun _ _ _ => False)
theorem pe_callZ {a : Addr} {oe : Obj} {cls : Value} {d : Option Addr} {pn : List (Addr × Obj)} (F : FnZ X.prog X.w X.K X.mg X.base k f fd ps sp) (hz : Zc cls d oe) (hf : ∃ vs, oe.data = .fields vs) (hr : RoomH k (X.suite a ((a, oe) :: pn)).A) (hg : Gl (X.suite a ((a, oe) :: pn)) x) (hm : X.mg x = some (.ref f)) (hk : PySem.W.keepIn X.K (.ref f) = true) (hb : Binds X.K fd ps [])
    (ha : PA (X.suite a ((a, oe) :: pn)) [.Name n q1] (tCons (tVar i) tNil))
    (hdb : (x == ("__debug__" : Str)) = false := by decide) (he : starEach [Expr.Name n q1] X.env = (false, eval (.Name n q1) X.env) :: starEach [] X.env := by rfl) (hpl : (backTo pos (starEach [] X.env)).any (·.1) = false := by rfl) :
    PE (X.suite a ((a, oe) :: pn)) (.Call (.Name x q0) [.Name n q1] [] pos) (tCallZ i sp a cls d) := by
  refine ⟨fun pins s σ H Q I h => ?_⟩
  obtain ⟨hs, D, rfl, rfl, hsp⟩ := h
  refine wpAny_Call_Name_kw (ld_glob I hg hm ?_ hdb)
  refine PySem.W.callWith_K (h₀ := X.base) I.ok.mod.kin hk (thn (ha.run pos pins s σ H (fun vs H1 => vs = [.ref a] ∧ H1 = H) I ⟨_, hs, rfl, rfl⟩) fun us s1 ⟨vs, H1, I1, r, q⟩ => ⟨I1.kIn, ?_⟩) he hpl
  obtain ⟨rfl, rfl⟩ := q
  have hl : us.length = ps.length := by rw [← r.length]; exact F.len _ _ _ _ _ _ hsp
  have b := hb s1 us I1.kIn (by rw [List.append_nil]; exact hl)
  rw [List.append_nil] at b
  have hp : (a, oe) ∈ (X.suite a ((a, oe) :: pn)).pn := List.mem_cons_self
  have P1 := I1.pin (a, oe) (List.mem_append_left _ hp)
  have hpin : PinOk X.stack H1 s1 (a, oe) := ⟨P1.1, P1.2.1, fun hm => (List.mem_cons.mp (I1.stkSub a hm)).elim P1.2.2.1 P1.2.2.2.1, P1.2.2.2.2⟩
  refine wpAny_call (codeAny_mono (F.run (X.suite a ((a, oe) :: pn)).A X.stack s1 H1 ⟨us, []⟩ us [.ref a] Q (fun _ _ _ => False) (a, oe) D hr hz hf hpin I1.env0 b r hsp) fun r s' hq => ?_)
  cases r with
  | error e => exact False.elim hq
  | ok fl =>
    cases fl with
    | ret u => exact I1.after hq
    | next => exact False.elim hq
    | brk => exact False.elim hq
    | cont => exact False.elim hq
/-- isinstance(e, c), e a pinned exception of the class at D -/
theorem call_isP {p : Addr × Obj} {D : Addr} {K : PySem.W.Frag} (hp : p ∈ X.pn) (C : ExcC K D) (hz : Zc (.ref D) none p.2) (hf : ∃ vs, p.2.data = .fields vs) (eK : X.K = K := by rfl) : CallR X (.builtin "isinstance") (rIsE K D p.1) := by
  subst eK
  intro pins s σ H xs us Q I r h
  obtain ⟨c, cv, b, rfl, hcv, e, q⟩ := h
  cases r with
  | cons rx rr =>
    cases rr with
    | cons rt rr =>
      cases rr
      cases rx
      have ec := hcv _ rt
      subst ec
      obtain ⟨hget, _⟩ := I.pin p (List.mem_append.mpr (.inl hp))
      obtain ⟨vs, hv⟩ := hf
      have J : PySem.W.InstAt s.heap p.1 p.2 D none := by
        obtain ⟨a, oc, od, oda, osl⟩ := p
        obtain ⟨h1, h2⟩ := hz
        dsimp only at h1 h2 hv hget ⊢
        subst h1 h2 hv
        exact ⟨hget, rfl, rfl, trivial⟩
      exact PySem.W.kia_one (PySem.W.handS_kitx_exc C.hg C.hk C.hs C.hd C.ha C.hn C.ht C.hm) I.kIn J e (fun z => nomatch z) fun tk => ⟨.bl b, H, I.kept (t' := tk) fun _ _ z => z, rfl, q⟩
end
section
variable {K : PySem.W.Frag} {σ : L2.St} {H : Hp} {D a C : Addr} {b : Bool} {i : Nat}
theorem ed_isE (h : σ[i]? = some (some (.ref a))) (hk : PySem.W.kitOne K (.ref D) (.ref C) = some b) : EvD (tCB (rIsE K D a) (tCons (tVar i) (tCons (tC (.ref C)) tNil))) σ H (.bool b) := fun H1 e _ q =>
  ⟨_, h, .ref C, .ref C, b, rfl, fun u r => r, hk, q _ H1 (Ex.refl H1) (.bl b)⟩
theorem ed_isET (h : σ[i]? = some (some (.ref a))) (hk : PySem.W.kitOne K (.ref D) (.type "ValueError") = some b) : EvD (tCB (rIsE K D a) (tCons (tVar i) (tCons (tC (.ty "ValueError")) tNil))) σ H (.bool b) := fun H1 e _ q =>
  ⟨_, h, .ty "ValueError", .type "ValueError", b, rfl, fun u r => r, hk, q _ H1 (Ex.refl H1) (.bl b)⟩
end
end Sq
namespace Sq
/-! #### what is refused, as data -/
theorem bls_num (lo hi : Int) : ∀ l : List PyData, (bls (l.map fun d => PyData.bool (isNum d lo hi))).map PyData.bool = l.map fun d => PyData.bool (isNum d lo hi)
  | [] => rfl
  | x :: r => by
    show PyData.bool _ :: List.map PyData.bool (bls (r.map fun d => PyData.bool (isNum d lo hi))) = PyData.bool _ :: _
    rw [bls_num lo hi r]
theorem all_num (lo hi : Int) : ∀ l : List PyData, (bls (l.map fun d => PyData.bool (isNum d lo hi))).all id = l.all fun d => isNum d lo hi
  | [] => rfl
  | x :: r => by
    show (isNum x lo hi && (bls (r.map fun d => PyData.bool (isNum d lo hi))).all id) = _
    rw [all_num lo hi r]
    rfl
theorem num_int {x : PyData} {lo hi : Int} (h : isNum x lo hi = true) : ∃ i : Int, x = .int i ∧ lo ≤ i ∧ i ≤ hi := by
  cases x with
  | int i =>
    obtain ⟨h1, h2⟩ := Bool.and_eq_true_iff.mp (show (decide (lo ≤ i) && decide (i ≤ hi)) = true from h)
    exact ⟨i, rfl, of_decide_eq_true h1, of_decide_eq_true h2⟩
  | _ => nomatch (show false = true from h)
theorem num_ints {lo hi : Int} (_ : lo ≤ hi ∨ True) : ∀ {ds : List PyData}, (ds.all fun d => isNum d lo hi) = true → ∃ ns : List Int, ds = ns.map .int ∧ ∀ x ∈ ns, lo ≤ x ∧ x ≤ hi
  | [], _ => ⟨[], rfl, fun _ h => nomatch h⟩
  | d :: r, h => by
    obtain ⟨h1, h2⟩ := Bool.and_eq_true_iff.mp (show (isNum d lo hi && r.all fun d => isNum d lo hi) = true from h)
    obtain ⟨i, rfl, h3⟩ := num_int h1
    obtain ⟨ns, rfl, h4⟩ := num_ints (lo := lo) (hi := hi) (.inr trivial) h2
    refine ⟨i :: ns, rfl, fun x hx => ?_⟩
    rcases List.mem_cons.mp hx with rfl | hx
    · exact h3
    · exact h4 x hx
theorem not_tuple {x : PyData} (h : ¬ ∃ ds, x = .tuple ds) : isi_tuple x = false := by
  cases x with
  | tuple ds => exact absurd ⟨ds, rfl⟩ h
  | _ => rfl
theorem not_list {x : PyData} (h : ¬ ∃ ds, x = .list ds) : isi_list x = false := by
  cases x with
  | list ds => exact absurd ⟨ds, rfl⟩ h
  | _ => rfl
def walkI (a b c : Int) : Bool := decide (a < b) && decide (b < c) && decide (a * a + b * b = c * c)
def okWalk : PyData → Bool
  | .tuple ds => decide (ds.length = 3) && (ds.all fun d => isNum d 1 10000) && (match ds with
    | [.int a, .int b, .int c] => walkI a b c
    | _ => false)
  | _ => false
def okPair : PyData → Bool
  | .tuple ds => decide (ds.length = 2) && ds.all fun d => isNum d 0 10000
  | _ => false
def okParts (n : Int) : PyData → Bool
  | .list ds => (decide (1 ≤ (ds.length : Int)) && decide ((ds.length : Int) ≤ 4)) && ((ds.all fun d => isNum d 0 10000) && isSum (intsD ds) n)
  | _ => false
section
variable {P : Program} {w : World} {K : PySem.W.Frag} {mg : Str → Option Value} {base : Heap}
def rChk : List PyData → (V → Hp → Prop) → Prop := fun ds F => ∃ (x : PyData) (lo hi : Int), ds = [x, .int lo, .int hi] ∧ isNum x lo hi = true ∧ F = fun v H => Rp H v .none
def zChk (T : Txt K mg) : List PyData → Addr → Prop := fun ds C => ∃ (x : PyData) (lo hi : Int), ds = [x, .int lo, .int hi] ∧ isNum x lo hi = false ∧ C = T.c_BadNumber
def zNum (T : Txt K mg) (lo hi : Int) : List PyData → Addr → Prop := fun ds C => ∃ x : PyData, ds = [x] ∧ isNum x lo hi = false ∧ C = T.c_BadNumber
def rNo : List PyData → (V → Hp → Prop) → Prop := fun _ _ => False
theorem ok_check_number (T : Txt K mg) : FnOk P w K mg base (L2.CX P w) 2 T.a_check_number T.d_check_number ["number", "low", "high"] (spXX rChk (zChk T)) := by
  refine T.F_check_number.okX sc_check_number (fun vs H Q E h => ?_) (fun cdv A outer s H vs Q E hr h => ?_)
  · obtain ⟨ds, hv, ⟨F, ⟨x, lo, hi, rfl, _⟩, _⟩ | ⟨C, ⟨x, lo, hi, rfl, _⟩, _⟩⟩ := h <;> exact dpa_len hv
  obtain ⟨ds, hv, ⟨F, ⟨x, lo, hi, rfl, hx, rfl⟩, q⟩ | ⟨C, ⟨x, lo, hi, rfl, hx, rfl⟩, q⟩⟩ := h
  · obtain ⟨v1, v2, v3, rfl, h1, h2, h3⟩ := dpa_three hv
    cases dp_int h2
    cases dp_int h3
    refine ⟨_, (pss_one (ps_if (pt_not (pt_val (pe_call (ok_is_number T) (hr.mono (by decide)) (by rfl) T.g_is_number T.F_is_number.kp T.b_is_number .nil pass0 (pa_cons (pv 0) (pa_cons (pv 1) (pa_cons (pv 2) pa_nil)))))) (pss_one (ps_raise rfl (takes_of rfl rfl rfl rfl) (pmk_own PySem.F.excBase_ValueError T.x_BadNumber T.g_BadNumber T.k_BadNumber (raises_own T.b_BadNumber T.t_BadNumber) (by exact rfl)))) pss_nil)), ?_⟩
    exact s_if (b := false) (et_not (a := true) (dt_B (ed_is (ed_call (ds := [x, .int lo, .int hi]) (da_cons (ed_var rfl h1) (by walk_at "ea")) ⟨_, _, _, rfl, rfl⟩) (by rw [hx])))) (fun z => nomatch z) (fun _ H1 e1 => q _ H1 e1 .non)
  · obtain ⟨v1, v2, v3, rfl, h1, h2, h3⟩ := dpa_three hv
    cases dp_int h2
    cases dp_int h3
    refine ⟨_, (pss_one (ps_if (pt_not (pt_val (pe_call (ok_is_number T) (hr.mono (by decide)) (by rfl) T.g_is_number T.F_is_number.kp T.b_is_number .nil pass0 (pa_cons (pv 0) (pa_cons (pv 1) (pa_cons (pv 2) pa_nil)))))) (pss_one (ps_raise rfl (takes_of rfl rfl rfl rfl) (pmk_own PySem.F.excBase_ValueError T.x_BadNumber T.g_BadNumber T.k_BadNumber (raises_own T.b_BadNumber T.t_BadNumber) (by exact rfl)))) pss_nil)), ?_⟩
    exact s_if (b := true) (et_not (a := false) (dt_B (ed_is (ed_call (ds := [x, .int lo, .int hi]) (da_cons (ed_var rfl h1) (by walk_at "ea")) ⟨_, _, _, rfl, rfl⟩) (by rw [hx])))) (fun _ H1 e1 => q H1 e1) (fun z => nomatch z)
def rPairC : List PyData → (V → Hp → Prop) → Prop := fun ds F => ∃ x : PyData, ds = [x] ∧ okPair x = true ∧ F = fun v H => Rp H v .none
def zPair (T : Txt K mg) : List PyData → Addr → Prop := fun ds C => ∃ x : PyData, ds = [x] ∧ okPair x = false ∧ C = T.c_BadParts
def rPartsC : List PyData → (V → Hp → Prop) → Prop := fun ds F => ∃ (n : Int) (x : PyData), ds = [.int n, x] ∧ okParts n x = true ∧ F = fun v H => Rp H v .none
def zPartsC (T : Txt K mg) : List PyData → Addr → Prop := fun ds C => ∃ (n : Int) (x : PyData), ds = [.int n, x] ∧ okParts n x = false ∧ C = T.c_BadParts
theorem ok_check_parts (T : Txt K mg) : FnOk P w K mg base (L2.CX P w) 2 T.a_check_parts T.d_check_parts ["number", "parts"] (spXX rPartsC (zPartsC T)) := by
  refine T.F_check_parts.okX sc_check_parts (fun vs H Q E h => ?_) (fun cdv A outer s H vs Q E hr h => ?_)
  · obtain ⟨ds, hv, ⟨F, ⟨n, x, rfl, _⟩, _⟩ | ⟨C, ⟨n, x, rfl, _⟩, _⟩⟩ := h <;> exact dpa_len hv
  obtain ⟨ds, hv, ⟨n, x, rfl, b, hx, k⟩⟩ : ∃ ds, RpAll H vs ds ∧ ∃ n x, ds = [PyData.int n, x] ∧ ∃ b : Bool, okParts n x = b ∧ ((b = true ∧ ∀ v H2, Ex H H2 → Rp H2 v .none → Q v H2) ∨ (b = false ∧ ∀ H2, Ex H H2 → E (.ref T.c_BadParts) none H2)) := by
    obtain ⟨ds, hv, ⟨F, ⟨n, x, rfl, hx, rfl⟩, q⟩ | ⟨C, ⟨n, x, rfl, hx, rfl⟩, q⟩⟩ := h
    · exact ⟨_, hv, n, x, rfl, true, hx, .inl ⟨rfl, q⟩⟩
    · exact ⟨_, hv, n, x, rfl, false, hx, .inr ⟨rfl, q⟩⟩
  obtain ⟨v1, v2, rfl, r1, r2⟩ := dpa_two hv
  cases dp_int r1
  refine ⟨_, (pss_cons (ps_if (PW.pt (pw_or (pt_not (pt_val (pe_callB (isiQ (K := K)) (by rfl) T.z_isinstance (by decide +kernel) (pa_cons (pv 1) (pa_cons (pe_bltn (v := .ty "list") (by rfl) T.z_list (by decide +kernel) rfl) pa_nil))))) (pw_or1 (pt_not (pt_chain op_le op_le pe_int (pe_callB (lenQ (K := K)) (by rfl) T.z_len (by decide +kernel) (pa_cons (pv 1) pa_nil)) pe_int))))) (pss_one (ps_raise rfl (takes_of rfl rfl rfl rfl) (pmk_own PySem.F.excBase_ValueError T.x_BadParts T.g_BadParts T.k_BadParts (raises_own T.b_BadParts T.t_BadParts) (by exact rfl)))) pss_nil) (pss_one (ps_if (PW.pt (pw_or (pt_not (pt_val (pe_callB (allQ (K := K) rfl) (by rfl) T.z_all (by decide +kernel) (pa_cons (pe_lc (own := [("part", 2)]) (g := gName 2) rfl sc_check_parts.nd (pilQ (K := K) (pv 1)) (blkOk_by (N := ["number", "parts", "part"]) (sc := defScope s_check_parts) (by decide +kernel)) (fun _ _ _ _ _ => (pg_name (i := 2) sc_check_parts.nd rfl (Or.inl rfl))) (fun _ _ _ _ _ => pts_nil) (fun _ _ _ _ _ => (pe_call (ok_is_number T) (hr.mono (by decide)) (by rfl) T.g_is_number T.F_is_number.kp T.b_is_number .nil pass0 (pa_cons (pv 2) (pa_cons pe_int (pa_cons (pe_glob (v := .int 10000) (by rfl) T.g_GREATEST ⟨_, rfl⟩) pa_nil)))))) pa_nil)))) (pw_or1 (pt_not (pt_val (pe_call (ok_is_sum T) (hr.mono (by decide)) (by rfl) T.g_is_sum T.F_is_sum.kp T.b_is_sum .nil pass0 (pa_cons (pv 1) (pa_cons (pv 0) pa_nil)))))))) (pss_one (ps_raise rfl (takes_of rfl rfl rfl rfl) (pmk_own PySem.F.excBase_ValueError T.x_BadParts T.g_BadParts T.k_BadParts (raises_own T.b_BadParts T.t_BadParts) (by exact rfl)))) pss_nil))), ?_⟩
  have no : b = false → ∀ H1, Ex H H1 → E (.ref T.c_BadParts) none H1 := fun hb => by
    rcases k with ⟨rfl, q⟩ | ⟨rfl, q⟩
    · cases hb
    · exact q
  by_cases ht : ∃ ds, x = .list ds
  · obtain ⟨ds, rfl⟩ := ht
    have hx' : ((decide (1 ≤ (ds.length : Int)) && decide ((ds.length : Int) ≤ 4)) && ((ds.all fun d => isNum d 0 10000) && isSum (intsD ds) n)) = b := hx
    have hlen : EvD (tCB (rLenQ K) (tCons (tVar 1) tNil)) (start ["number", "parts", "part"] [.int n, v2]) H (.int (ds.length : Int)) := ed_len (ed_var rfl r2)
    refine q_when (b := !(decide (1 ≤ (ds.length : Int)) && decide ((ds.length : Int) ≤ 4))) ?_ (fun hb H1 e1 => ?_) fun hb H1 e1 => ?_
    · exact et_or (a := false) (et_not (a := true) (dt_B (ed_isi (ed_var rfl r2) (kit_list _)))) fun _ => et_not (dt_test (ed_chain (f := fun i j => decide (i ≤ j)) (g := fun i j => decide (i ≤ j)) ed_ci hlen fun _ => ed_ci))
    · refine no ?_ H1 e1
      rw [← hx']
      cases hc : (decide (1 ≤ (ds.length : Int)) && decide ((ds.length : Int) ≤ 4)) with
      | true =>
        rw [hc] at hb
        cases hb
      | false => rfl
    have hc : (decide (1 ≤ (ds.length : Int)) && decide ((ds.length : Int) ≤ 4)) = true := by
      cases hc : (decide (1 ≤ (ds.length : Int)) && decide ((ds.length : Int) ≤ 4)) with
      | true => rfl
      | false =>
        rw [hc] at hb
        cases hb
    rw [hc, Bool.true_and] at hx'
    have hl4 := of_decide_eq_true (Bool.and_eq_true_iff.mp hc).2
    refine s_if (b := !b) ?_ (fun hb2 H2 e2 => ?_) fun hb2 H2 e2 => ?_
    · have eall : EvT (tB (tCB (rAll K) (tCons (tLc (iList K (tVar 1)) (gName 2) tYes (tCall (spR rIsNum) [] E0 (tCons (tVar 2) (tCons (tC (.int 0)) (tCons (tC (.int 10000)) tNil)))) [2]) tNil))) (start ["number", "parts", "part"] [.int n, v2]) H1 (ds.all fun d => isNum d 0 10000) := by
        refine dt_B (ed_is (ed_all (ed_lcL (fun d => .bool (isNum d 0 10000)) (ed_var rfl (dp_mono e1 r2)) (by omega) (by intro _; rfl) ?_ (fun _ _ => rfl)) (bls_num 0 10000 ds)) (by rw [all_num]))
        intro v d H2 e2 hm rd
        exact ed_call (ds := [d, .int 0, .int 10000]) (da_cons (ed_var rfl rd) (by walk_at "ea")) ⟨_, _, _, rfl, rfl⟩
      cases ha : ds.all fun d => isNum d 0 10000 with
      | false =>
        rw [ha] at eall hx'
        rw [← hx']
        exact et_or (a := true) (b := false) (et_not (a := false) eall) fun z => nomatch z
      | true =>
        rw [ha] at eall hx'
        obtain ⟨ns, rfl, hbn⟩ := num_ints (.inr trivial) ha
        rw [ints_map] at hx'
        rw [← hx']
        rw [List.length_map] at hl4
        refine et_or (a := false) (b := !(isSum ns n)) (et_not (a := true) eall) fun _ => et_not (dt_B (ed_call (ds := [.list (ns.map .int), .int n]) (da_cons (ed_var rfl (dp_mono e1 r2)) (by walk_at "ea")) ⟨ns, n, rfl, by omega, fun x hx => by have := hbn x hx; omega, rfl⟩))
    · refine no ?_ H2 (e1.trans e2)
      cases b with
      | false => rfl
      | true => cases hb2
    · rcases k with ⟨rfl, q⟩ | ⟨rfl, q⟩
      · exact q _ H2 (e1.trans e2) .non
      · cases hb2
  · have hb : b = false := by
      rw [← hx]
      cases x with
      | list ds => exact absurd ⟨ds, rfl⟩ ht
      | _ => rfl
    refine q_when (b := true) ?_ (fun _ H1 e1 => no hb H1 e1) fun z => nomatch z
    exact et_or (a := true) (b := false) (et_not (a := false) (dt_B (ed_is (ed_isi (ed_var rfl r2) (kit_list _)) (by rw [not_list ht])))) fun z => nomatch z
end
end Sq
namespace Sq
theorem log2_small {i : Int} (h0 : 0 ≤ i) (h1 : i ≤ 10000) : i.natAbs.log2 < 1920 := by
  by_cases z : i.natAbs = 0
  · rw [z]
    decide
  · refine Nat.lt_trans ((Nat.log2_lt z).mpr (show i.natAbs < 2 ^ 14 by omega)) (by decide)
theorem len_num {i : Int} (h0 : 0 ≤ i) (h1 : i ≤ 10000) : (Str.ofString (toString i)).length ≤ 5 := PyProof.Rows.toString_length_le h0 (by decide) (show i < 10 ^ 5 by omega)
/-- a part's text, and the sum's -/
def ptxt (i : Int) : Str := Str.ofString (toString i) ++ ("^2" : Str)
def wtxt (n : Int) (ns : List Int) : Str := (Str.ofString (toString n) ++ (" = " : Str)) ++ Str.join (" + " : Str) (ns.map ptxt)
theorem len_ptxt {i : Int} (h0 : 0 ≤ i) (h1 : i ≤ 10000) : (ptxt i).length ≤ 7 := by
  have h := len_num h0 h1
  unfold ptxt
  rw [Str.length_append]
  have : (("^2" : Str)).length = 2 := by decide +kernel
  omega
theorem sum_ptxt : ∀ {ns : List Int}, (∀ x ∈ ns, 0 ≤ x ∧ x ≤ 10000) → ((ns.map ptxt).map (·.length)).sum ≤ 7 * ns.length
  | [], _ => Nat.le_refl _
  | x :: r, h => by
    have h1 := len_ptxt (h x List.mem_cons_self).1 (h x List.mem_cons_self).2
    have h2 := sum_ptxt (ns := r) fun y hy => h y (List.mem_cons_of_mem _ hy)
    show (ptxt x).length + ((r.map ptxt).map (·.length)).sum ≤ 7 * (r.length + 1)
    omega
theorem len_join (a : Str) : ∀ ys : List Str, (Str.join a ys).length ≤ (ys.map (·.length)).sum + ys.length * a.length
  | [] => Nat.zero_le _
  | [x] => by
    show x.length ≤ x.length + 0 + (0 + 1) * a.length
    omega
  | x :: y :: r => by
    have h := len_join a (y :: r)
    show ((x ++ a) ++ Str.join a (y :: r)).length ≤ (x.length + ((y :: r).map (·.length)).sum) + ((y :: r).length + 1) * a.length
    rw [Str.length_append, Str.length_append, Nat.add_mul]
    omega
section
variable {K : PySem.W.Frag} {σ : L2.St} {H : Hp} {to te : TE}
theorem ed_join {a : Str} {ys : List Str} (ho : EvD to σ H (.str a)) (he : EvD te σ H (.list (ys.map .str))) (hl : (ys.map (·.length)).sum + ys.length * a.length ≤ 16777216) :
    EvD (tM1 (fun x xs H Q => ∃ a p, ∃ ys : List Str, x = .str a ∧ xs = [.ref p] ∧ (SqL K H p (ys.map V.str) ∨ SqT K H p (ys.map V.str)) ∧ (ys.map (·.length)).sum + ys.length * a.length ≤ 16777216 ∧ Q (.str (PySem.Txt.join a ys)) H) to te) σ H (.str (Str.join a ys)) := fun H1 e _ q =>
  ho H1 e _ fun x H2 e2 hx => ⟨⟨a, dp_str hx⟩, he H2 (e.trans e2) _ fun v H3 e3 hv => by
    obtain ⟨p, xs, rfl, hs, hr⟩ := dp_list hv
    have := dpa_strs hr
    subst this
    exact ⟨a, p, ys, dp_str hx, rfl, .inl (SqL.of hs), hl, by rw [show PySem.Txt.join a ys = Str.join a ys from TL.join_eq a ys]; exact q _ H3 (e2.trans e3) (.str _)⟩⟩
end
section
variable {P : Program} {w : World} {K : PySem.W.Frag} {mg : Str → Option Value} {base : Heap}
def rWritten : List PyData → (V → Hp → Prop) → Prop := fun ds F => ∃ (n : Int) (ns : List Int), ds = [.int n, .list (ns.map .int)] ∧ (0 ≤ n ∧ n ≤ 10000) ∧ okParts n (.list (ns.map .int)) = true ∧ F = fun v H => Rp H v (.str (wtxt n ns))
def zWritten (T : Txt K mg) : List PyData → Addr → Prop := fun ds C => ∃ x y : PyData, ds = [x, y] ∧ ((isNum x 0 10000 = false ∧ C = T.c_BadNumber) ∨ ∃ n : Int, x = .int n ∧ (0 ≤ n ∧ n ≤ 10000) ∧ okParts n y = false ∧ C = T.c_BadParts)
theorem ok_written (T : Txt K mg) : FnOk P w K mg base (L2.CX P w) 3 T.a_written T.d_written ["number", "parts"] (spXX rWritten (zWritten T)) := by
  refine T.F_written.okX sc_written (fun vs H Q E h => ?_) (fun cdv A outer s H vs Q E hr h => ?_)
  · obtain ⟨ds, hv, ⟨F, ⟨n, ns, rfl, _⟩, _⟩ | ⟨C, ⟨x, y, rfl, _⟩, _⟩⟩ := h <;> exact dpa_len hv
  obtain ⟨ds, hv, ⟨F, ⟨n, ns, rfl, hn, hp, rfl⟩, q⟩ | ⟨C, ⟨x, y, rfl, hxy⟩, q⟩⟩ := h
  rotate_left
  · obtain ⟨v1, v2, rfl, h1, h2⟩ := dpa_two hv
    refine ⟨_, (pss_cons (ps_expr (pe_call (ok_check_number T) (hr.mono (by decide)) (by rfl) T.g_check_number T.F_check_number.kp T.b_check_number .nil (passes_call (takes_of rfl rfl rfl rfl) (fun _ _ _ _ h => h)) (pa_cons (pv 0) (pa_cons pe_int (pa_cons (pe_glob (v := .int 10000) (by rfl) T.g_GREATEST ⟨_, rfl⟩) pa_nil))))) (pss_cons (ps_expr (pe_call (ok_check_parts T) (hr.mono (by decide)) (by rfl) T.g_check_parts T.F_check_parts.kp T.b_check_parts .nil (passes_call (takes_of rfl rfl rfl rfl) (fun _ _ _ _ h => h)) (pa_cons (pv 0) (pa_cons (pv 1) pa_nil)))) (pss_one (ps_ret (pe_op op_add_str (pe_op op_add_str (pe_callTy call_str_int (by rfl) T.z_str (by decide +kernel) (pa_cons (pv 0) pa_nil)) pe_str) (pe_join pe_str (pe_lc (own := [("part", 2)]) (g := gName 2) rfl sc_written.nd (pilQ (K := K) (pv 1)) (blkOk_by (N := ["number", "parts", "part"]) (sc := defScope s_written) (by decide +kernel)) (fun _ _ _ _ _ => (pg_name (i := 2) sc_written.nd rfl (Or.inl rfl))) (fun _ _ _ _ _ => pts_nil) (fun _ _ _ _ _ => (pe_op op_add_str (pe_callTy call_str_int (by rfl) T.z_str (by decide +kernel) (pa_cons (pv 2) pa_nil)) pe_str))))))))), ?_⟩
    rcases hxy with ⟨hx, rfl⟩ | ⟨n, rfl, hn, hy, rfl⟩
    · exact q_dropF (ef_call (ds := [x, .int 0, .int 10000]) (da_cons (ed_var rfl h1) (by walk_at "ea")) ⟨x, 0, 10000, rfl, hx, rfl⟩) q
    cases dp_int h1
    refine q_drop (v := .non) (ev_non (ed_callXX (ds := [.int n, .int 0, .int 10000]) (by walk_at "ea") ⟨.int n, 0, 10000, rfl, isNum_ok hn, rfl⟩)) fun H1 e1 => ?_
    exact q_dropF (ef_call (ds := [.int n, y]) (da_cons (ed_var rfl (.int _)) (da_cons (ed_var rfl (dp_mono e1 h2)) da_nil)) ⟨n, y, rfl, hy, rfl⟩) fun H2 e2 => q H2 (e1.trans e2)
  · skip
    obtain ⟨v1, v2, rfl, h1, h2⟩ := dpa_two hv
    cases dp_int h1
    obtain ⟨hc, hd⟩ := Bool.and_eq_true_iff.mp (show ((decide (1 ≤ ((ns.map PyData.int).length : Int)) && decide (((ns.map PyData.int).length : Int) ≤ 4)) && (((ns.map PyData.int).all fun d => isNum d 0 10000) && isSum (intsD (ns.map PyData.int)) n)) = true from hp)
    have hl := of_decide_eq_true (Bool.and_eq_true_iff.mp hc).2
    rw [List.length_map] at hl
    have hb : ∀ x ∈ ns, 0 ≤ x ∧ x ≤ 10000 := fun x hx => by
      obtain ⟨i, hi, h3⟩ := num_int (List.all_eq_true.mp (Bool.and_eq_true_iff.mp hd).1 (.int x) (List.mem_map_of_mem hx))
      cases hi
      exact h3
    have hs := sum_ptxt hb
    refine ⟨_, (pss_cons (ps_expr (pe_call (ok_check_number T) (hr.mono (by decide)) (by rfl) T.g_check_number T.F_check_number.kp T.b_check_number .nil (passes_call (takes_of rfl rfl rfl rfl) (fun _ _ _ _ h => h)) (pa_cons (pv 0) (pa_cons pe_int (pa_cons (pe_glob (v := .int 10000) (by rfl) T.g_GREATEST ⟨_, rfl⟩) pa_nil))))) (pss_cons (ps_expr (pe_call (ok_check_parts T) (hr.mono (by decide)) (by rfl) T.g_check_parts T.F_check_parts.kp T.b_check_parts .nil (passes_call (takes_of rfl rfl rfl rfl) (fun _ _ _ _ h => h)) (pa_cons (pv 0) (pa_cons (pv 1) pa_nil)))) (pss_one (ps_ret (pe_op op_add_str (pe_op op_add_str (pe_callTy call_str_int (by rfl) T.z_str (by decide +kernel) (pa_cons (pv 0) pa_nil)) pe_str) (pe_join pe_str (pe_lc (own := [("part", 2)]) (g := gName 2) rfl sc_written.nd (pilQ (K := K) (pv 1)) (blkOk_by (N := ["number", "parts", "part"]) (sc := defScope s_written) (by decide +kernel)) (fun _ _ _ _ _ => (pg_name (i := 2) sc_written.nd rfl (Or.inl rfl))) (fun _ _ _ _ _ => pts_nil) (fun _ _ _ _ _ => (pe_op op_add_str (pe_callTy call_str_int (by rfl) T.z_str (by decide +kernel) (pa_cons (pv 2) pa_nil)) pe_str))))))))), ?_⟩
    refine q_drop (v := .non) (ev_non (ed_callXX (ds := [.int n, .int 0, .int 10000]) (by walk_at "ea") ⟨.int n, 0, 10000, rfl, isNum_ok hn, rfl⟩)) fun H1 e1 => ?_
    refine q_drop (v := .non) (ev_non (ed_callXX (ds := [.int n, .list (ns.map .int)]) (da_cons (ed_var rfl (.int _)) (da_cons (ed_var rfl (dp_mono e1 h2)) da_nil)) ⟨n, _, rfl, hp, rfl⟩)) fun H2 e2 => ?_
    have l3 : ((" = " : Str)).length = 3 := by decide +kernel
    have l4 : ((" + " : Str)).length = 3 := by decide +kernel
    have l2 : (("^2" : Str)).length = 2 := by decide +kernel
    have ln := len_num hn.1 hn.2
    have lj := len_join (" + " : Str) (ns.map ptxt)
    rw [List.length_map, l4] at lj
    have hsz : (1000 : Nat) ≤ sizeLine := by rw [sizeLine_eq]; decide
    refine s_retD (ed_adds (a := Str.ofString (toString n) ++ (" = " : Str)) (b := Str.join (" + " : Str) (ns.map ptxt)) (ed_adds (ed_strof (by walk_at "ev") (log2_small hn.1 hn.2)) ed_cs (by omega)) (ed_join (ys := ns.map ptxt) ed_cs ?_ (by rw [List.length_map, l4]; omega)) (by rw [Str.length_append]; omega)) fun v H3 e3 hv => q v H3 ((e1.trans e2).trans e3) hv
    have el := ed_lcL (K := K) (ds := ns.map .int) (j := 2) (vs := [2]) (σ := [some (.int n), some v2, none]) (H := H2) (tl := tVar 1) (te := tOp (fun x y H Q => ∃ i j, x = .str i ∧ y = .str j ∧ i.length + j.length ≤ sizeLine ∧ Q (.str (i ++ j)) H) (tCB (fun xs H Q => ∃ i, xs = [.int i] ∧ i.natAbs.log2 < 1920 ∧ Q (.str (toString i)) H) (tCons (tVar 2) tNil)) (tC (.str "^2")))
      (fun d => match d with | .int i => .str (ptxt i) | d => d) (ed_var rfl (dp_mono (e1.trans e2) h2)) (by rw [List.length_map]; omega) (by intro _; rfl) ?_ ?_
    · rw [List.map_map] at el
      rw [List.map_map]
      exact el
    · intro v d H4 e4 hm rd
      obtain ⟨x, hx, rfl⟩ := List.mem_map.mp hm
      have hx' := hb x hx
      have lx := len_num hx'.1 hx'.2
      exact ed_adds (ed_strof (ed_var rfl rd) (log2_small hx'.1 hx'.2)) ed_cs (by omega)
    · intro d hm
      obtain ⟨x, hx, rfl⟩ := List.mem_map.mp hm
      rfl
end
end Sq
namespace Sq
open PySem PySem.Spec PyProof.Rows L2 Evl
/-! #### what a text writes -/
def eqS : Str := (" = " : Str)
def plS : Str := (" + " : Str)
theorem eq_ne : TL.tl eqS ≠ [] := by decide +kernel
theorem pl_ne : TL.tl plS ≠ [] := by decide +kernel
theorem pl_k : plS.cps.all (· < 256) = true := by decide +kernel
def headT (x : Str) : Str := (PySem.Txt.partition x eqS).1
def midT (x : Str) : Str := (PySem.Txt.partition x eqS).2.1
def tailT (x : Str) : Str := (PySem.Txt.partition x eqS).2.2
def wordsT (x : Str) : List Str := PySem.Txt.split (tailT x) plS
def sq2 (ps : List Int) : Int := (ps.map fun x => x * x).sum
def fits (n : Int) (ps : List Int) : Bool := (decide (ps.length ≤ 4) && decide (srt ps = ps)) && (decide (sq2 ps = n) && decide (n ≤ 10000))
def inT (x : Str) : Option (Int × List Int) := if midT x = Str.empty then none else match cnt (headT x), numsT (wordsT x) with
  | some n, some ps => if fits n ps = true then some (n, ps) else none
  | _, _ => none
theorem words_ne (x : Str) : wordsT x ≠ [] := fun h => by
  have e := TL.split_spl (tailT x) plS pl_ne (TL.kind_ok pl_k)
  rw [show PySem.Txt.split (tailT x) plS = [] from h] at e
  exact spl_ne _ _ _ _ e.symm
theorem sqi_nonneg (x : Int) : 0 ≤ x * x := by
  rcases Int.le_total 0 x with h | h
  · exact Int.mul_nonneg h h
  · exact Int.mul_nonneg_of_nonpos_of_nonpos h h
theorem sq2_nonneg : ∀ ps : List Int, 0 ≤ sq2 ps
  | [] => Int.le_refl _
  | x :: r => by
    have h1 := sq2_nonneg r
    have h2 : 0 ≤ x * x := sqi_nonneg x
    show 0 ≤ x * x + sq2 r
    omega
theorem sq2_le : ∀ {ps : List Int} {p : Int}, p ∈ ps → p * p ≤ sq2 ps
  | x :: r, p, h => by
    show p * p ≤ x * x + sq2 r
    rcases List.mem_cons.mp h with rfl | h
    · have := sq2_nonneg r
      omega
    · have := sq2_le h
      have := sqi_nonneg x
      omega
theorem parts_fit {n : Int} {ps : List Int} (hp : ∀ p ∈ ps, 0 ≤ p ∧ p < 100000) (hne : ps ≠ []) (hn : n ≤ 10000) : okParts n (.list (ps.map .int)) = fits n ps := by
  show ((decide (1 ≤ ((ps.map PyData.int).length : Int)) && decide (((ps.map PyData.int).length : Int) ≤ 4)) && (((ps.map PyData.int).all fun d => isNum d 0 10000) && isSum (intsD (ps.map .int)) n)) = ((decide (ps.length ≤ 4) && decide (srt ps = ps)) && (decide (sq2 ps = n) && decide (n ≤ 10000)))
  rw [ints_map, List.length_map, decide_eq_true hn, Bool.and_true]
  have h1 : 1 ≤ (ps.length : Int) := by
    have := List.length_pos_iff.mpr hne
    omega
  rw [decide_eq_true h1, Bool.true_and]
  have e4 : decide ((ps.length : Int) ≤ 4) = decide (ps.length ≤ 4) := decide_eq_decide.mpr (by omega)
  have es : isSum ps n = (decide (srt ps = ps) && decide (sq2 ps = n)) := by
    unfold isSum
    cases ps with
    | nil => exact absurd rfl hne
    | cons x r =>
      show (decide (0 ≤ x) && decide (srt (x :: r) = x :: r) && decide (sq2 (x :: r) = n)) = _
      rw [decide_eq_true (hp x List.mem_cons_self).1, Bool.true_and]
  rw [e4, es]
  by_cases hs : sq2 ps = n
  · have ha : ((ps.map PyData.int).all fun d => isNum d 0 10000) = true := by
      refine List.all_eq_true.mpr fun d hd => ?_
      obtain ⟨p, hpm, rfl⟩ := List.mem_map.mp hd
      have h2 := sq2_le hpm
      have h3 := hp p hpm
      refine isNum_ok ⟨h3.1, ?_⟩
      refine Int.not_lt.mp fun h4 => ?_
      have : (10000 : Int) * 10000 ≤ p * p := Int.mul_le_mul (by omega) (by omega) (by decide) h3.1
      omega
    rw [ha, Bool.true_and, Bool.and_assoc]
  · rw [decide_eq_false hs, Bool.and_false, Bool.and_false, Bool.and_false, Bool.and_false]
theorem in_text {x : Str} {n : Int} {ps : List Int} (h : inT x = some (n, ps)) : x = wtxt n ps ∧ (0 ≤ n ∧ n ≤ 10000) ∧ okParts n (.list (ps.map .int)) = true ∧ cnt (headT x) = some n ∧ numsT (wordsT x) = some ps ∧ midT x ≠ Str.empty := by
  unfold inT at h
  by_cases hm : midT x = Str.empty
  · rw [if_pos hm] at h
    cases h
  rw [if_neg hm] at h
  split at h
  · rename_i n' ps' h1 h2
    by_cases hf : fits n' ps' = true
    · rw [if_pos hf] at h
      cases h
      obtain ⟨e1, e2, _, _⟩ := cnt_some h1
      obtain ⟨g1, g2, g3⟩ := numsT_some h2
      have hn : n ≤ 10000 := of_decide_eq_true (Bool.and_eq_true_iff.mp (Bool.and_eq_true_iff.mp hf).2).2
      have hne : ps ≠ [] := fun e => words_ne x (List.eq_nil_of_length_eq_zero (by rw [← g3, e]; rfl))
      refine ⟨?_, ⟨e2, hn⟩, by rw [parts_fit g2 hne hn, hf], h1, h2, hm⟩
      obtain ⟨m1, m2⟩ := part_glue eq_ne hm
      have et : tailT x = Str.join plS (ps.map ptxtS) := by
        rw [← g1]
        exact (cut_join pl_ne pl_k).symm
      have eh : headT x = numS n := e1
      refine m2.trans ?_
      show (headT x ++ eqS) ++ tailT x = _
      rw [eh, et]
      rfl
    · rw [if_neg hf] at h
      cases h
  · cases h
end Sq
namespace Sq
section
variable {K : PySem.W.Frag} {σ : L2.St} {H : Hp} {to te ta tb : TE} {d : PyData}
/-! #### operations on texts -/
theorem ed_m1S {r : V → List V → Hp → VK → Prop} {a b : Str} (ho : EvD to σ H (.str a)) (he : EvD te σ H (.str b)) (hr : ∀ H1, Ex H H1 → ∀ Q : VK, (∀ v H2, Ex H1 H2 → Rp H2 v d → Q v H2) → r (.str a) [.str b] H1 Q) : EvD (tM1 r to te) σ H d := fun H1 e Q q =>
  ho H1 e _ fun x H2 e2 hx => ⟨⟨a, dp_str hx⟩, he H2 (e.trans e2) _ fun y H3 e3 hy => by
    cases dp_str hx
    cases dp_str hy
    exact hr H3 ((e.trans e2).trans e3) Q fun v H4 e4 hv => q v H4 ((e2.trans e3).trans e4) hv⟩
theorem ed_strip {a b : Str} (ho : EvD to σ H (.str a)) (he : EvD te σ H (.str b)) (hl : a.length ≤ sizeLine) :
    EvD (tM1 (fun x xs H Q => ∃ a b, x = .str a ∧ xs = [.str b] ∧ a.length ≤ sizeLine ∧ Q (.str (PySem.Txt.stripChars a b)) H) to te) σ H (.str (PySem.Txt.stripChars a b)) :=
  ed_m1S ho he fun H1 _ _ q => ⟨a, b, rfl, rfl, hl, q _ H1 (Ex.refl _) (.str _)⟩
theorem ed_ends {a b : Str} (ho : EvD to σ H (.str a)) (he : EvD te σ H (.str b)) :
    EvD (tM1 (fun x xs H Q => ∃ a b, x = .str a ∧ xs = [.str b] ∧ Q (.bl (PySem.Txt.endswith a b)) H) to te) σ H (.bool (PySem.Txt.endswith a b)) :=
  ed_m1S ho he fun H1 _ _ q => ⟨a, b, rfl, rfl, q _ H1 (Ex.refl _) (.bl _)⟩
theorem ed_part {a b : Str} (ho : EvD to σ H (.str a)) (he : EvD te σ H (.str b)) (hb : (b.length == 0) = false) (hl : a.length ≤ sizeLine) :
    EvD (tM1 (fun x xs H Q => ∃ a b, x = .str a ∧ xs = [.str b] ∧ (b.length == 0) = false ∧ a.length ≤ sizeLine ∧
      ∀ p, H p = none → Q (.ref p) (upd H p (.tup [.str (PySem.Txt.partition a b).1, .str (PySem.Txt.partition a b).2.1, .str (PySem.Txt.partition a b).2.2]))) to te) σ H (.tuple [.str (PySem.Txt.partition a b).1, .str (PySem.Txt.partition a b).2.1, .str (PySem.Txt.partition a b).2.2]) :=
  ed_m1S ho he fun H1 _ _ q => ⟨a, b, rfl, rfl, hb, hl, fun p hp => q _ _ (Ex.new hp) (.tup upd_same (.cons (.str _) (.cons (.str _) (.cons (.str _) .nil))))⟩
theorem ed_spl {a b : Str} (ho : EvD to σ H (.str a)) (he : EvD te σ H (.str b)) (hb : (b.length == 0) = false) (hl : a.length + 2 ≤ sizeLine) :
    EvD (tM1 (fun x xs H Q => ∃ a b, x = .str a ∧ xs = [.str b] ∧ (b.length == 0) = false ∧ a.length + 2 ≤ sizeLine ∧ rNewStrs (PySem.Txt.split a b) H Q) to te) σ H (.list ((PySem.Txt.split a b).map .str)) :=
  ed_m1S ho he fun H1 _ _ q => ⟨a, b, rfl, rfl, hb, hl, fun p hp => q _ _ (Ex.new hp) (.lst upd_same (dpa_of_strs _ _))⟩
theorem ed_slS {t1 t2 : TO} {z : Str} {lo hi : Option Int} (h : EvD te σ H (.str z)) (h1 : EvO t1 σ H lo) (h2 : EvO t2 σ H hi) (hz : z.length ≤ sizeLine) : EvD (tSl rSlS te t1 t2) σ H (.str (cutS z lo hi)) := fun H1 e _ q =>
  h H1 e _ fun v H2 e2 rv => h1 H2 (e.trans e2) _ fun H3 e3 => h2 H3 ((e.trans e2).trans e3) _ fun H4 e4 => by
    cases dp_str rv
    exact ⟨z, rfl, hz, q _ H4 ((e2.trans e3).trans e4) (.str _)⟩
theorem ed_ixS {z : Str} {i : Int} {c : Nat} (ha : EvD ta σ H (.str z)) (hb : EvD tb σ H (.int i)) (hz : z.length ≤ sizeLine) (hc : atI z.cps.toList i = some c) : EvD (tOp rIxS ta tb) σ H (.str ⟨#[c]⟩) :=
  ed_op ha hb fun _ _ H1 _ d1 d2 _ q => ⟨z, i, c, dp_str d1, dp_int d2, hz, hc, q _ H1 (Ex.refl H1) (.str _)⟩
theorem ed_intS {a : Str} {n : Int} (h : EvD te σ H (.str a)) (hn : intText? a = some n) (hl : a.length ≤ 640) : EvD (tCB (fun xs H Q => ∃ a n, xs = [.str a] ∧ PySem.intText? a = some n ∧ a.length ≤ 640 ∧ Q (.int n) H) (tCons te tNil)) σ H (.int n) :=
  ed_cb1 (da_cons h da_nil) fun _ H1 _ hv _ q => by
    obtain ⟨v, rfl, rv⟩ := dpa_one hv
    cases dp_str rv
    exact ⟨a, n, rfl, hn, hl, q _ H1 (Ex.refl H1) (.int _)⟩
end
theorem one_zero (c : Nat) : decide ((⟨#[c]⟩ : Str) = ("0" : Str)) = decide (some c = some 48) := by
  refine decide_eq_decide.mpr ⟨fun h => ?_, fun h => ?_⟩
  · have := congrArg TL.tl h
    rw [show TL.tl ("0" : Str) = [48] by decide +kernel] at this
    injection this with h1 _
    rw [h1]
  · cases h
    decide +kernel
theorem at_head {z : PySem.Str} {c : Nat} (h : (TL.tl z).head? = some c) : atI z.cps.toList 0 = some c := by
  cases e : TL.tl z with
  | nil =>
    rw [e] at h
    cases h
  | cons x r =>
    rw [e] at h
    cases h
    show atI (TL.tl z) 0 = _
    rw [e]
    unfold atI ixN
    simp
theorem no_text : ("" : Str) = Str.empty := by decide +kernel
theorem count_bool (x : Str) : ((!(decide (1 ≤ (x.length : Int)) && decide ((x.length : Int) ≤ 5))) || ((!decide (PySem.Txt.stripChars x figS = ("" : Str))) || (decide ((TL.tl x).head? = some 48) && !decide (x = ("0" : Str))))) = !okCount x := by
  unfold okCount
  rw [no_text, show decide (1 ≤ (x.length : Int)) = decide (1 ≤ x.length) from decide_eq_decide.mpr (by omega), show decide ((x.length : Int) ≤ 5) = decide (x.length ≤ 5) from decide_eq_decide.mpr (by omega),
    show decide (x ≠ ("0" : Str)) = !decide (x = ("0" : Str)) from decide_not]
  cases decide (1 ≤ x.length) <;> cases decide (x.length ≤ 5) <;> cases decide (PySem.Txt.stripChars x figS = Str.empty) <;> cases decide ((TL.tl x).head? = some 48) <;> cases decide (x = ("0" : Str)) <;> rfl
theorem head_some {x : Str} (h : 1 ≤ (x.length : Int)) : ∃ c, (TL.tl x).head? = some c := by
  cases e : TL.tl x with
  | nil =>
    rw [TL.len_tl, e] at h
    exact absurd h (by decide)
  | cons c r => exact ⟨c, rfl⟩
theorem count_test {σ : L2.St} {H : Hp} {tv : TE} {x : Str} (hv : EvD tv σ H (.str x)) (hsz : x.length ≤ sizeLine) :
    EvT (tOr (tNot (tTest (tChain (rI0 fun i j => V.bl (decide (i ≤ j))) (rI0 fun i j => V.bl (decide (i ≤ j))) (tC (V.int 1)) (tCB (fun xs H Q => ∃ z, xs = [V.str z] ∧ z.length ≤ sizeLine ∧ Q (V.int ↑z.length) H) (tCons tv tNil)) (tC (V.int 5)))))
      (tOr (tTest (tOp rNeS (tM1 (fun x xs H Q => ∃ a b, x = V.str a ∧ xs = [V.str b] ∧ a.length ≤ sizeLine ∧ Q (V.str (PySem.Txt.stripChars a b)) H) tv (tC (V.str (Str.ofString "0123456789")))) (tC (V.str (Str.ofString "")))))
        (tAnd (tTest (tOp rEqS (tOp rIxS tv (tC (V.int 0))) (tC (V.str (Str.ofString "0"))))) (tTest (tOp rNeS tv (tC (V.str (Str.ofString "0")))))))) σ H (!okCount x) := by
  rw [← count_bool x]
  refine et_or (et_not (dt_test (ed_chain (f := fun i j => decide (i ≤ j)) (g := fun i j => decide (i ≤ j)) ed_ci (ed_lenS hv hsz) fun _ => ed_ci))) fun h => ?_
  obtain ⟨c, hc⟩ := head_some (x := x) (by
    cases q : decide (1 ≤ (x.length : Int)) with
    | true => exact of_decide_eq_true q
    | false =>
      rw [q] at h
      cases h)
  refine et_or (dt_test (ed_neS (ed_strip hv ed_cs hsz) ed_cs)) fun _ => et_and (dt_test (ed_is (ed_eqS (ed_ixS hv ed_ci hsz (at_head hc)) ed_cs) (congrArg PyData.bool ((one_zero c).trans (by rw [← hc]))))) fun _ => dt_test (ed_neS hv ed_cs)
section
variable {P : Program} {w : World} {K : PySem.W.Frag} {mg : Str → Option Value} {base : Heap}
def rNumIn : List PyData → (V → Hp → Prop) → Prop := fun ds F => ∃ (x : Str) (n : Int), ds = [.str x] ∧ x.length ≤ 10000 ∧ cnt x = some n ∧ F = fun v H => Rp H v (.int n)
def zNumIn (T : Txt K mg) : List PyData → Addr → Prop := fun ds C => ∃ x : Str, ds = [.str x] ∧ x.length ≤ 10000 ∧ cnt x = none ∧ C = T.c_BadText
theorem cnt_iff {x : Str} : cnt x = none → okCount x = false := fun h => by
  cases e : okCount x with
  | false => rfl
  | true =>
    obtain ⟨i, h1, _⟩ := cnt_ok e
    rw [h1] at h
    cases h
theorem ok_number_in (T : Txt K mg) : FnOk P w K mg base (L2.CX P w) 1 T.a_number_in T.d_number_in ["text"] (spXX rNumIn (zNumIn T)) := by
  refine T.F_number_in.okX sc_number_in (fun vs H Q E h => ?_) (fun cdv A outer s H vs Q E hr h => ?_)
  · obtain ⟨ds, hv, ⟨F, ⟨x, n, rfl, _⟩, _⟩ | ⟨C, ⟨x, rfl, _⟩, _⟩⟩ := h <;> exact dpa_len hv
  obtain ⟨ds, hv, ⟨x, rfl, hx, k⟩⟩ : ∃ ds, RpAll H vs ds ∧ ∃ x : Str, ds = [.str x] ∧ x.length ≤ 10000 ∧ ((∃ n, okCount x = true ∧ intText? x = some n ∧ ∀ v H2, Ex H H2 → Rp H2 v (.int n) → Q v H2) ∨ (okCount x = false ∧ ∀ H2, Ex H H2 → E (.ref T.c_BadText) none H2)) := by
    obtain ⟨ds, hv, ⟨F, ⟨x, n, rfl, hx, hc, rfl⟩, q⟩ | ⟨C, ⟨x, rfl, hx, hc, rfl⟩, q⟩⟩ := h
    · obtain ⟨_, _, _, ho⟩ := cnt_some hc
      obtain ⟨i, h1, h2⟩ := cnt_ok ho
      rw [h1] at hc
      cases hc
      exact ⟨_, hv, x, rfl, hx, .inl ⟨_, ho, h2, q⟩⟩
    · exact ⟨_, hv, x, rfl, hx, .inr ⟨cnt_iff hc, q⟩⟩
  obtain ⟨v1, rfl, h1⟩ := dpa_one hv
  cases dp_str h1
  have hsz : (10000 : Nat) ≤ sizeLine := by rw [sizeLine_eq]; decide
  refine ⟨_, (pss_cons (ps_if (PW.pt (pw_or (pt_not (pt_chain op_le op_le pe_int (pe_callB call_len_str (by rfl) T.z_len (by decide +kernel) (pa_cons (pv 0) pa_nil)) pe_int)) (pw_or (pt_cmpR op_neS (pe_m1 PySem.F.slot_str_strip PySem.F.type_str_strip mt_stripChars (pv 0) (pe_glob (v := .str (PySem.Str.ofString "0123456789")) (by rfl) T.g_FIGURES ⟨_, rfl⟩)) pe_str (nomark _)) (pw_or1 (PW.pt (pw_and (pt_cmpR op_eqS (pe_ix ix_str (pv 0) pe_int (fun _ _ => rfl)) pe_str (nomark _)) (pw_and1 (pt_cmpR op_neS (pv 0) pe_str (nomark _))))))))) (pss_one (ps_raise rfl (takes_of rfl rfl rfl rfl) (pmk_own PySem.F.excBase_ValueError T.x_BadText T.g_BadText T.k_BadText (raises_own T.b_BadText T.t_BadText) (by exact rfl)))) pss_nil) (pss_one (ps_ret (pe_callTy call_int_str (by rfl) T.z_int (by decide +kernel) (pa_cons (pv 0) pa_nil))))), ?_⟩
  refine q_when (b := !okCount x) ?_ (fun hb H1 e1 => ?_) (fun hb H1 e1 => ?_)
  · exact count_test (ed_var rfl (.str x)) (by omega)
  · rcases k with ⟨n, ho, _, _⟩ | ⟨_, q⟩
    · rw [ho] at hb
      cases hb
    · exact q H1 e1
  · rcases k with ⟨n, ho, hi, q⟩ | ⟨ho, _⟩
    · refine s_retD (ed_intS (ed_var rfl (.str _)) hi ?_) fun v H2 e2 hv => q v H2 (e1.trans e2) hv
      have := of_decide_eq_true (Bool.and_eq_true_iff.mp (Bool.and_eq_true_iff.mp ho).1).2
      omega
    · rw [ho] at hb
      cases hb
end
end Sq
namespace Sq
section
variable {P : Program} {w : World} {K : PySem.W.Frag} {mg : Str → Option Value} {base : Heap}
def cntD (x : Str) : PyData := match cnt x with
  | some n => .int n
  | none => .none
theorem count_bool2 (x : Str) : (decide (x = ("" : Str)) || (decide ((5 : Int) < (x.length : Int)) || ((!decide (PySem.Txt.stripChars x figS = ("" : Str))) || (decide ((TL.tl x).head? = some 48) && !decide (x = ("0" : Str)))))) = !okCount x := by
  rw [← count_bool x]
  have e : (decide (x = ("" : Str)) || decide ((5 : Int) < (x.length : Int))) = !(decide (1 ≤ (x.length : Int)) && decide ((x.length : Int) ≤ 5)) := by
    have h0 : decide (x = ("" : Str)) = decide ((x.length : Int) < 1) := by
      refine decide_eq_decide.mpr ⟨fun h => ?_, fun h => ?_⟩
      · rw [h]
        decide +kernel
      · rw [no_text]
        refine TL.ext_tl ?_
        have : (TL.tl x).length = 0 := by
          rw [← TL.len_tl]
          omega
        rw [List.eq_nil_of_length_eq_zero this]
        rfl
    rw [h0]
    by_cases h1 : 1 ≤ (x.length : Int) <;> by_cases h2 : (x.length : Int) ≤ 5
    · rw [decide_eq_true h1, decide_eq_true h2, decide_eq_false (show ¬ (x.length : Int) < 1 by omega), decide_eq_false (show ¬ (5 : Int) < (x.length : Int) by omega)]
      rfl
    · rw [decide_eq_true h1, decide_eq_false h2, decide_eq_false (show ¬ (x.length : Int) < 1 by omega), decide_eq_true (show (5 : Int) < (x.length : Int) by omega)]
      rfl
    · rw [decide_eq_false h1, decide_eq_true h2, decide_eq_true (show (x.length : Int) < 1 by omega), decide_eq_false (show ¬ (5 : Int) < (x.length : Int) by omega)]
      rfl
    · omega
  rw [← e, Bool.or_assoc]
def rCount : List PyData → PyData → Prop := fun ds d => ∃ x : Str, ds = [.str x] ∧ x.length ≤ 10000 ∧ d = cntD x
theorem ok_law_count (T : Txt K mg) : FnOk P w K mg base CX0 1 T.a_law_count T.d_law_count ["_law_text"] (spR rCount) := by
  refine T.F_law_count.ok sc_law_count (fun vs H Q E h => ?_) (fun cdv A outer s H vs Q E hr h => ?_)
  · obtain ⟨ds, d, hv, ⟨x, rfl, _, rfl⟩, q⟩ := h
    exact dpa_len hv
  obtain ⟨ds, d, hv, ⟨x, rfl, hx, rfl⟩, q⟩ := h
  obtain ⟨v1, rfl, h1⟩ := dpa_one hv
  cases dp_str h1
  have hsz : (10000 : Nat) ≤ sizeLine := by rw [sizeLine_eq]; decide
  have hz : x.length ≤ sizeLine := by omega
  refine ⟨_, (pss_cons (ps_if (PW.pt (pw_or (pt_cmpR op_eqS (pv 0) pe_str (nomark _)) (pw_or (pt_cmpR op_gt (pe_callB call_len_str (by rfl) T.z_len (by decide +kernel) (pa_cons (pv 0) pa_nil)) pe_int (nomark _)) (pw_or (pt_cmpR op_neS (pe_m1 PySem.F.slot_str_strip PySem.F.type_str_strip mt_stripChars (pv 0) pe_str) pe_str (nomark _)) (pw_or1 (PW.pt (pw_and (pt_cmpR op_eqS (pe_ix ix_str (pv 0) pe_int (fun _ _ => rfl)) pe_str (nomark _)) (pw_and1 (pt_cmpR op_neS (pv 0) pe_str (nomark _)))))))))) (pss_one (ps_ret pe_non)) pss_nil) (pss_one (ps_ret (pe_callTy call_int_str (by rfl) T.z_int (by decide +kernel) (pa_cons (pv 0) pa_nil))))), ?_⟩
  refine q_when (b := !okCount x) ?_ (fun hb H1 e1 => ?_) (fun hb H1 e1 => ?_)
  · rw [← count_bool2 x]
    refine et_or (dt_test (ed_eqS (ed_var rfl (.str x)) ed_cs)) fun h0 => et_or (dt_test (ed_I0b (f := fun i j => decide (j < i)) (ed_lenS (ed_var rfl (.str x)) hz) ed_ci)) fun _ => ?_
    obtain ⟨c, hc⟩ := head_some (x := x) (by
      refine Int.not_lt.mp fun h => ?_
      have : x = ("" : Str) := by
        rw [no_text]
        refine TL.ext_tl ?_
        have : (TL.tl x).length = 0 := by
          rw [← TL.len_tl]
          omega
        rw [List.eq_nil_of_length_eq_zero this]
        rfl
      exact of_decide_eq_false h0 this)
    exact et_or (dt_test (ed_neS (ed_strip (ed_var rfl (.str x)) ed_cs hz) ed_cs)) fun _ => et_and (dt_test (ed_is (ed_eqS (ed_ixS (ed_var rfl (.str x)) ed_ci hz (at_head hc)) ed_cs) (congrArg PyData.bool ((one_zero c).trans (by rw [← hc]))))) fun _ => dt_test (ed_neS (ed_var rfl (.str x)) ed_cs)
  · have ho : okCount x = false := by
      cases e : okCount x with
      | false => rfl
      | true =>
        rw [e] at hb
        cases hb
    refine s_retD (d := .none) ed_cn fun v H2 e2 hv => q v H2 (e1.trans e2) ?_
    unfold cntD
    rw [cnt_none ho]
    exact hv
  · have ho : okCount x = true := by
      cases e : okCount x with
      | true => rfl
      | false =>
        rw [e] at hb
        cases hb
    obtain ⟨n, h2, h3⟩ := cnt_ok ho
    have := of_decide_eq_true (Bool.and_eq_true_iff.mp (Bool.and_eq_true_iff.mp ho).1).2
    refine s_retD (d := .int n) (ed_intS (ed_var rfl (.str _)) h3 (by omega)) fun v H2 e2 hv => q v H2 (e1.trans e2) ?_
    unfold cntD
    rw [h2]
    exact hv
end
end Sq
namespace Sq
open PySem PySem.Spec PyProof.Rows L2 Evl
/-! #### lists of numbers and None -/
def oD : Option Int → PyData
  | some i => .int i
  | none => .none
def oV : Option Int → V
  | some i => .int i
  | none => .non
theorem cntD_o (x : Str) : cntD x = oD (cnt x) := by
  unfold cntD
  cases cnt x <;> rfl
theorem dpa_opt {H : Hp} : ∀ {vs : List V} {os : List (Option Int)}, RpAll H vs (os.map oD) → vs = os.map oV
  | _, [], h => by
    cases h
    rfl
  | _, o :: r, h => by
    cases h with
    | cons a b =>
      rw [dpa_opt b]
      cases o with
      | none =>
        cases dp_non a
        rfl
      | some i =>
        cases dp_int a
        rfl
theorem inV_opt : ∀ os : List (Option Int), inV .non (os.map oV) = os.any Option.isNone
  | [] => rfl
  | o :: r => by
    have h := inV_opt r
    cases o with
    | none => rfl
    | some i =>
      show inV .non (V.int i :: r.map oV) = (false || r.any Option.isNone)
      rw [Bool.false_or, ← h]
      rfl
theorem flat_opt : ∀ os : List (Option Int), (os.map oV).all flatV = true
  | [] => rfl
  | o :: r => by
    have h := flat_opt r
    cases o with
    | none => exact h
    | some i => exact h
section
variable {K : PySem.W.Frag} {σ : L2.St} {H : Hp} {ta tb : TE}
theorem ed_inNone {os : List (Option Int)} (ha : EvD ta σ H .none) (hb : EvD tb σ H (.list (os.map oD))) : EvD (tOp (rIn K false) ta tb) σ H (.bool (os.any Option.isNone)) :=
  ed_op ha hb fun _ _ H1 _ d1 d2 _ q => by
    cases dp_non d1
    obtain ⟨p, xs, rfl, hs, hx⟩ := dp_list d2
    have := dpa_opt hx
    subst this
    refine ⟨p, _, rfl, .inl (SqL.of hs), rfl, flat_opt os, ?_⟩
    show _
    rw [if_neg (by decide), inV_opt]
    exact q _ H1 (Ex.refl H1) (.bl _)
end
def optsT (ws : List Str) : List (Option Int) := ws.map fun w => cnt (stem w)
theorem numsT_no : ∀ {ws : List Str}, ws.all hasSq = false → numsT ws = none
  | w :: r, h => by
    unfold numsT
    by_cases q : hasSq w = true
    · rw [if_pos q]
      have hr : r.all hasSq = false := by
        have : (hasSq w && r.all hasSq) = false := h
        rw [q, Bool.true_and] at this
        exact this
      rw [numsT_no hr]
      cases cnt (stem w) <;> rfl
    · rw [if_neg q]
theorem numsT_opts : ∀ {ws : List Str}, ws.all hasSq = true → ((optsT ws).any Option.isNone = true → numsT ws = none) ∧ ((optsT ws).any Option.isNone = false → ∃ ps, numsT ws = some ps ∧ optsT ws = ps.map some)
  | [], _ => ⟨fun h => (nomatch (show false = true from h)), fun _ => ⟨[], rfl, rfl⟩⟩
  | w :: r, h => by
    obtain ⟨q, hr⟩ := Bool.and_eq_true_iff.mp (show (hasSq w && r.all hasSq) = true from h)
    obtain ⟨i1, i2⟩ := numsT_opts hr
    have e : numsT (w :: r) = (match cnt (stem w), numsT r with
      | some i, some l => some (i :: l)
      | _, _ => none) := by
      show (if hasSq w = true then _ else none) = _
      rw [if_pos q]
      all_goals (cases cnt (stem w) <;> cases numsT r <;> rfl)
    have eo : optsT (w :: r) = cnt (stem w) :: optsT r := rfl
    rw [e, eo]
    cases hc : cnt (stem w) with
    | none => exact ⟨fun _ => rfl, fun h => (nomatch (show true = false from h))⟩
    | some i =>
      refine ⟨fun h => ?_, fun h => ?_⟩
      · rw [i1 h]
      · obtain ⟨ps, h1, h2⟩ := i2 h
        rw [h1, h2]
        exact ⟨i :: ps, rfl, rfl⟩
end Sq
namespace Sq
open PySem PySem.Spec PyProof.Rows L2 Evl
/-! #### how long the pieces are -/
theorem head_tail_len (x : Str) : (headT x).length ≤ x.length ∧ (tailT x).length ≤ x.length := by
  by_cases hm : midT x = Str.empty
  · have e := TL.partition_par x eqS eq_ne
    cases hp : TL.par (TL.tl eqS) [] (TL.tl x) with
    | none =>
      rw [hp] at e
      unfold headT tailT
      rw [e]
      exact ⟨Nat.le_refl _, Nat.zero_le _⟩
    | some z =>
      obtain ⟨a, b⟩ := z
      rw [hp] at e
      unfold midT at hm
      rw [e] at hm
      exact absurd (congrArg TL.tl hm) eq_ne
  · obtain ⟨_, e⟩ := part_glue eq_ne hm
    have := congrArg Str.length e
    rw [Str.length_append, Str.length_append] at this
    unfold headT tailT
    omega
theorem join_mem_len (y : Str) : ∀ {ws : List Str} {w : Str}, w ∈ ws → w.length ≤ (Str.join y ws).length
  | [x], w, h => by
    rcases List.mem_cons.mp h with rfl | h
    · exact Nat.le_refl _
    · cases h
  | x :: z :: r, w, h => by
    show w.length ≤ ((x ++ y) ++ Str.join y (z :: r)).length
    rw [Str.length_append, Str.length_append]
    rcases List.mem_cons.mp h with rfl | h
    · omega
    · have := join_mem_len y h
      omega
theorem word_len {x w : Str} (h : w ∈ wordsT x) : w.length ≤ x.length := by
  have h1 := join_mem_len plS h
  rw [show Str.join plS (wordsT x) = tailT x from cut_join pl_ne pl_k] at h1
  have := (head_tail_len x).2
  omega
theorem words_len (x : Str) : (wordsT x).length ≤ x.length + 2 := by
  have h1 := PyProof.Rows.split_le (tailT x) plS
  have := (head_tail_len x).2
  have h2 : (wordsT x).length = (PySem.Txt.split (tailT x) plS).length := rfl
  omega
end Sq
namespace Sq
section
variable {K : PySem.W.Frag} {σ : L2.St} {H : Hp} {ta tb : TE}
theorem ed_isNo {o : Option Int} (h : EvD ta σ H (oD o)) : EvD (tOp (fun x y H Q => y = V.non ∧ Q (.bl (decide (x = V.non))) H) ta (tC .non)) σ H (.bool o.isNone) :=
  ed_op h ed_cn fun v _ H1 _ d1 d2 _ q => by
    cases dp_non d2
    refine ⟨rfl, ?_⟩
    cases o with
    | none =>
      cases dp_non d1
      rw [decide_eq_true rfl]
      exact q _ H1 (Ex.refl _) (.bl _)
    | some i =>
      cases dp_int d1
      rw [decide_eq_false (fun z => (nomatch z))]
      exact q _ H1 (Ex.refl _) (.bl _)
end
def inD (x : Str) : PyData := match inT x with
  | some z => .tuple [.int z.1, .list (z.2.map .int)]
  | none => .none
theorem inD_none {x : Str} (h : inT x = none) : inD x = .none := by
  unfold inD
  rw [h]
theorem inD_some {x : Str} {n : Int} {ps : List Int} (h : inT x = some (n, ps)) : inD x = .tuple [.int n, .list (ps.map .int)] := by
  unfold inD
  rw [h]
theorem in_none1 {x : Str} (h : (decide (midT x = ("" : Str)) || ((cnt (headT x)).isNone || (decide ((4 : Int) < ((wordsT x).length : Int)) || !((wordsT x).all hasSq)))) = true) : inT x = none := by
  unfold inT
  by_cases hm : midT x = Str.empty
  · rw [if_pos hm]
  rw [if_neg hm]
  rw [no_text, decide_eq_false hm, Bool.false_or] at h
  cases hc : cnt (headT x) with
  | none => rfl
  | some n =>
    rw [hc] at h
    cases hp : numsT (wordsT x) with
    | none => rfl
    | some ps =>
      dsimp only
      rw [if_neg]
      intro hf
      have h2 : (decide ((4 : Int) < ((wordsT x).length : Int)) || !((wordsT x).all hasSq)) = true := h
      rcases Bool.or_eq_true_iff.mp h2 with h3 | h3
      · have h3 := of_decide_eq_true h3
        have h4 := of_decide_eq_true (Bool.and_eq_true_iff.mp (Bool.and_eq_true_iff.mp hf).1).1
        have h5 := (numsT_some hp).2.2
        omega
      · have h4 : (wordsT x).all hasSq = false := by
          cases e : (wordsT x).all hasSq with
          | false => rfl
          | true =>
            rw [e] at h3
            cases h3
        rw [numsT_no h4] at hp
        cases hp
theorem in_calc {x : Str} {n : Int} {ps : List Int} (hm : midT x ≠ Str.empty) (hc : cnt (headT x) = some n) (hp : numsT (wordsT x) = some ps) : inT x = if fits n ps = true then some (n, ps) else none := by
  unfold inT
  rw [if_neg hm, hc, hp]
def hasD : PyData → PyData
  | .str w => .bool (hasSq w)
  | d => d
def stemD : PyData → PyData
  | .str w => cntD (stem w)
  | d => d
theorem map_has (ws : List Str) : (ws.map PyData.str).map hasD = (ws.map hasSq).map PyData.bool := by
  rw [List.map_map, List.map_map]
  rfl
theorem map_stem : ∀ ws : List Str, (ws.map PyData.str).map stemD = (optsT ws).map oD
  | [] => rfl
  | w :: r => by
    have h := map_stem r
    show cntD (stem w) :: (r.map PyData.str).map stemD = oD (cnt (stem w)) :: (optsT r).map oD
    rw [h, cntD_o]
section
variable {P : Program} {w : World} {K : PySem.W.Frag} {mg : Str → Option Value} {base : Heap}
def rIn8 : List PyData → PyData → Prop := fun ds d => ∃ x : Str, ds = [.str x] ∧ x.length ≤ 10000 ∧ d = inD x
theorem ok_law_in (T : Txt K mg) : FnOk P w K mg base CX0 2 T.a_law_in T.d_law_in ["_law_text"] (spR rIn8) := by
  refine T.F_law_in.ok sc_law_in (fun vs H Q E h => ?_) (fun cdv A outer s H vs Q E hr h => ?_)
  · obtain ⟨ds, d, hv, ⟨x, rfl, _, rfl⟩, q⟩ := h
    exact dpa_len hv
  obtain ⟨ds, d, hv, ⟨x, rfl, hx, rfl⟩, q⟩ := h
  obtain ⟨v1, rfl, h1⟩ := dpa_one hv
  cases dp_str h1
  have hsz : (20000 : Nat) ≤ sizeLine := by rw [sizeLine_eq]; decide
  obtain ⟨lh, lt⟩ := head_tail_len x
  have lw := words_len x
  refine ⟨_, (pss_cons (ps_asg (pe_partition (pv 0) pe_str) (pg_tup rfl (pgs_cons (pg_name (i := 1) sc_law_in.nd rfl (Or.inl rfl)) (pgs_cons (pg_name (i := 2) sc_law_in.nd rfl (Or.inl rfl)) (pgs_cons (pg_name (i := 3) sc_law_in.nd rfl (Or.inl rfl)) pgs_nil))))) (pss_cons (ps_set (i := 4) sc_law_in.nd rfl (Or.inl rfl) (pe_split (pv 3) pe_str)) (pss_cons (ps_if (PW.pt (pw_or (pt_cmpR op_eqS (pv 2) pe_str (nomark _)) (pw_or (pt_cmpR op_isN (pe_call (ok_law_count T) (hr.mono (by decide)) (by rfl) T.g_law_count T.F_law_count.kp T.b_law_count .nil pass0 (pa_cons (pv 1) pa_nil)) pe_non (nomark _)) (pw_or (pt_cmpR op_gt (pe_callB (lenQ (K := K)) (by rfl) T.z_len (by decide +kernel) (pa_cons (pv 4) pa_nil)) pe_int (nomark _)) (pw_or1 (pt_not (pt_val (pe_callB (allQ (K := K) rfl) (by rfl) T.z_all (by decide +kernel) (pa_cons (pe_lc (own := [("_law_word", 6)]) (g := gName 6) rfl sc_law_in.nd (pilQ (K := K) (pv 4)) (blkOk_by (N := ["_law_text", "_law_head", "_law_sign", "_law_tail", "_law_words", "_law_parts", "_law_word", "_law_part"]) (sc := defScope s_law_in) (by decide +kernel)) (fun _ _ _ _ _ => (pg_name (i := 6) sc_law_in.nd rfl (Or.inl rfl))) (fun _ _ _ _ _ => pts_nil) (fun _ _ _ _ _ => (pe_cmpR op_eqS (pe_slice sl_str (pv 6) (po_some (pe_un un_neg pe_int)) po_none) pe_str (nomark _)))) pa_nil))))))))) (pss_one (ps_ret pe_non)) pss_nil) (pss_cons (ps_setLc (i := 5) (own := [("_law_word", 6)]) (g := gName 6) rfl sc_law_in.nd rfl rfl (sw_true rfl rfl rfl (by decide +kernel)) (pilQ (K := K) (pv 4)) (blkOk_by (N := ["_law_text", "_law_head", "_law_sign", "_law_tail", "_law_words", "_law_parts", "_law_word", "_law_part"]) (sc := defScope s_law_in) (by decide +kernel)) (fun _ _ _ _ _ => (pg_name (i := 6) sc_law_in.nd rfl (Or.inl rfl))) (fun _ _ _ _ _ => pts_nil) (fun _ _ _ _ _ => (pe_call (ok_law_count T) (hr.mono (by decide)) (by rfl) T.g_law_count T.F_law_count.kp T.b_law_count .nil pass0 (pa_cons (pe_slice sl_str (pv 6) po_none (po_some (pe_un un_neg pe_int))) pa_nil)))) (pss_cons (ps_if (PW.pt (pw_or (pt_cmpR (insQ (K := K)) pe_non (pv 5) (by rfl)) (pw_or (pt_cmpR (nedQ (K := K) hr.units) (pv 5) (pe_callB (sortedQ (K := K)) (by rfl) T.z_sorted (by decide +kernel) (pa_cons (pv 5) pa_nil)) (nomark _)) (pw_or1 (pt_cmpR op_neI (pe_callB (sumQ (K := K) rfl) (by rfl) T.z_sum (by decide +kernel) (pa_cons (pe_lc (own := [("_law_part", 7)]) (g := gName 7) rfl sc_law_in.nd (pilQ (K := K) (pv 5)) (blkOk_by (N := ["_law_text", "_law_head", "_law_sign", "_law_tail", "_law_words", "_law_parts", "_law_word", "_law_part"]) (sc := defScope s_law_in) (by decide +kernel)) (fun _ _ _ _ _ => (pg_name (i := 7) sc_law_in.nd rfl (Or.inl rfl))) (fun _ _ _ _ _ => pts_nil) (fun _ _ _ _ _ => (pe_op op_mul (pv 7) (pv 7)))) pa_nil)) (pe_call (ok_law_count T) (hr.mono (by decide)) (by rfl) T.g_law_count T.F_law_count.kp T.b_law_count .nil pass0 (pa_cons (pv 1) pa_nil)) (nomark _)))))) (pss_one (ps_ret pe_non)) pss_nil) (pss_one (ps_ret (pe_ifExp (pt_cmpR op_lt (pe_call (ok_law_count T) (hr.mono (by decide)) (by rfl) T.g_law_count T.F_law_count.kp T.b_law_count .nil pass0 (pa_cons (pv 1) pa_nil)) pe_int (nomark _)) (pe_tup (pa_cons (pe_call (ok_law_count T) (hr.mono (by decide)) (by rfl) T.g_law_count T.F_law_count.kp T.b_law_count .nil pass0 (pa_cons (pv 1) pa_nil)) (pa_cons (pv 5) pa_nil))) pe_non)))))))), ?_⟩
  refine q_unp (d := .tuple [.str (headT x), .str (midT x), .str (tailT x)]) (ed_part (b := eqS) (ed_var rfl (.str x)) ed_cs (by decide +kernel) (by omega)) fun v H1 e1 rv => g_unp3 rv fun u1 u2 u3 r1 r2 r3 => ?_
  cases dp_str r1
  cases dp_str r2
  cases dp_str r3
  refine q_asgD (d := .list ((wordsT x).map .str)) (ed_spl (b := plS) (ed_var rfl (.str (tailT x))) ed_cs (by decide +kernel) (by omega)) fun v4 H2 e2 r4 => ?_
  refine q_when (b := decide (midT x = ("" : Str)) || ((cnt (headT x)).isNone || (decide ((4 : Int) < ((wordsT x).length : Int)) || !((wordsT x).all hasSq)))) ?_ (fun hb H3 e3 => ?_) (fun hb H3 e3 => ?_)
  · refine et_or (dt_test (ed_eqS (ed_var rfl (.str _)) ed_cs)) fun _ => et_or (dt_test (ed_isNo (ed_is (ed_call (ds := [.str (headT x)]) (da_cons (ed_var rfl (.str _)) da_nil) ⟨_, rfl, by omega, rfl⟩) (cntD_o _)))) fun _ =>
      et_or (dt_test (ed_I0b (f := fun i j => decide (j < i)) (ed_is (ed_len (ed_var rfl r4)) (by rw [List.length_map])) ed_ci)) fun _ => et_not (dt_B (ed_is (ed_all (ed_is (ed_lcL hasD (ed_var rfl r4) (by rw [List.length_map]; omega) (by intro _; rfl) ?_ ?_) (congrArg PyData.list (map_has _))) (by rw [bls_map])) (by rw [bls_map, List.all_map]; rfl)))
    · intro v d H3 e3 hm rd
      obtain ⟨w, hw, rfl⟩ := List.mem_map.mp hm
      have := word_len hw
      exact ed_eqS (ed_slS (ed_var rfl rd) (eo_some (ev_int (ed_neg ed_ci))) eo_none (by omega)) ed_cs
    · intro d hm
      obtain ⟨w, hw, rfl⟩ := List.mem_map.mp hm
      rfl
  · refine s_retD (d := .none) ed_cn fun v H4 e4 hv => q v H4 (((e1.trans e2).trans e3).trans e4) ?_
    rw [inD_none (in_none1 hb)]
    exact hv
  · have f1 : midT x ≠ Str.empty := fun e => by
      rw [no_text, decide_eq_true e] at hb
      cases hb
    rw [no_text, decide_eq_false f1, Bool.false_or] at hb
    obtain ⟨n, hc⟩ : ∃ n, cnt (headT x) = some n := by
      cases hc : cnt (headT x) with
      | none =>
        rw [hc] at hb
        cases hb
      | some n => exact ⟨n, rfl⟩
    rw [hc] at hb
    have hb2 : (decide ((4 : Int) < ((wordsT x).length : Int)) || !((wordsT x).all hasSq)) = false := hb
    obtain ⟨h4, h5⟩ := Bool.or_eq_false_iff.mp hb2
    have h4 := of_decide_eq_false h4
    have hall : (wordsT x).all hasSq = true := by
      cases e : (wordsT x).all hasSq with
      | true => rfl
      | false =>
        rw [e] at h5
        cases h5
    refine q_asgD (d := .list ((optsT (wordsT x)).map oD)) (ed_is (ed_lcL stemD (ed_var rfl (dp_mono e3 r4)) (by rw [List.length_map]; omega) (by intro _; rfl) ?_ ?_) (congrArg PyData.list (map_stem _))) fun v5 H4 e4 r5 => ?_
    · intro v d H4 e4 hm rd
      obtain ⟨w, hw, rfl⟩ := List.mem_map.mp hm
      have := word_len hw
      have := stem_len w
      exact ed_call (ds := [.str (stem w)]) (da_cons (ed_slS (ed_var rfl rd) eo_none (eo_some (ev_int (ed_neg ed_ci))) (by omega)) da_nil) ⟨_, rfl, by omega, rfl⟩
    · intro d hm
      obtain ⟨w, hw, rfl⟩ := List.mem_map.mp hm
      show noL (cntD (stem w)) = true
      rw [cntD_o]
      cases cnt (stem w) <;> rfl
    have ecn : cntD (headT x) = .int n := by
      rw [cntD_o, hc]
      rfl
    obtain ⟨i1, i2⟩ := numsT_opts hall
    cases ha : (optsT (wordsT x)).any Option.isNone with
    | true =>
      refine q_when (b := true) (et_or (a := true) (b := false) (dt_test (ed_is (ed_inNone ed_cn (ed_var rfl r5)) (by rw [ha]))) fun z => (nomatch z)) (fun _ H5 e5 => ?_) fun z => (nomatch z)
      refine s_retD (d := .none) ed_cn fun v H6 e6 hv => q v H6 ((((e1.trans e2).trans e3).trans e4).trans (e5.trans e6)) ?_
      rw [inD_none (by unfold inT; rw [if_neg f1, hc, i1 ha])]
      exact hv
    | false =>
      obtain ⟨ps, hp, ho⟩ := i2 ha
      obtain ⟨_, hb3, hln⟩ := numsT_some hp
      have r5' : Rp H4 v5 (.list (ps.map .int)) := by
        have r := r5
        rw [ho, List.map_map] at r
        exact r
      refine q_when (b := !decide (ps = srt ps) || !decide (sq2 ps = n)) (et_is (et_or (a := false) (dt_test (ed_is (ed_inNone ed_cn (ed_var rfl r5)) (by rw [ha]))) fun _ => et_or (dt_test (ed_is (ed_neD (ed_var rfl r5') (ed_sorted (ed_var rfl r5') (by rw [ints_map])) (shaped_ints _) (by rw [ints_map]; exact shaped_ints _)) (by rw [ints_map, eqv_intsL]))) fun _ =>
        dt_test (ed_neI (ed_is (ed_sum (ds := (ps.map PyData.int).map sqD) (ed_lcL sqD (ed_var rfl r5') (by rw [List.length_map]; omega) (by intro _; rfl) ?_ ?_) (by rw [map_sq, ints_map])) (by rw [map_sq, ints_map]; rfl)) (ed_is (ed_call (ds := [.str (headT x)]) (da_cons (ed_var rfl (.str _)) da_nil) ⟨_, rfl, by omega, rfl⟩) ecn))) (Bool.false_or _)) (fun hb H5 e5 => ?_) (fun hb H5 e5 => ?_)
      · intro v d H2 e2 hm rd
        obtain ⟨y, hy, rfl⟩ := List.mem_map.mp hm
        cases dp_int rd
        have := hb3 y hy
        exact ed_mul (ed_var rfl (.int y)) (ed_var rfl (.int y)) (by omega)
      · intro d hm
        obtain ⟨y, hy, rfl⟩ := List.mem_map.mp hm
        rfl
      · refine s_retD (d := .none) ed_cn fun v H6 e6 hv => q v H6 ((((e1.trans e2).trans e3).trans e4).trans (e5.trans e6)) ?_
        rw [inD_none (by
          rw [in_calc f1 hc hp, if_neg]
          intro hf
          obtain ⟨g1, g2⟩ := Bool.and_eq_true_iff.mp hf
          have g3 := of_decide_eq_true (Bool.and_eq_true_iff.mp g1).2
          have g4 := of_decide_eq_true (Bool.and_eq_true_iff.mp g2).1
          rw [decide_eq_true g3.symm, decide_eq_true g4] at hb
          cases hb)]
        exact hv
      · obtain ⟨g1, g2⟩ := Bool.or_eq_false_iff.mp hb
        have g3 : srt ps = ps := by
          by_cases e : ps = srt ps
          · exact e.symm
          · rw [decide_eq_false e] at g1
            cases g1
        have g4 : sq2 ps = n := by
          by_cases e : sq2 ps = n
          · exact e
          · rw [decide_eq_false e] at g2
            cases g2
        have hf : fits n ps = decide (n ≤ 10000) := by
          unfold fits
          rw [decide_eq_true g3, decide_eq_true g4, decide_eq_true (show ps.length ≤ 4 by omega)]
          rfl
        refine s_retD (d := inD x) (ed_if (b := decide (n < 10001)) (dt_test (ed_I0b (f := fun i j => decide (i < j)) (ed_is (ed_call (ds := [.str (headT x)]) (da_cons (ed_var rfl (.str _)) da_nil) ⟨_, rfl, by omega, rfl⟩) ecn) ed_ci)) (fun h => ?_) (fun h => ?_)) fun v H6 e6 hv => q v H6 ((((e1.trans e2).trans e3).trans e4).trans (e5.trans e6)) hv
        · have hn := of_decide_eq_true h
          rw [inD_some (x := x) (n := n) (ps := ps) (by rw [in_calc f1 hc hp, hf, decide_eq_true (show n ≤ 10000 by omega)]; rfl)]
          exact ed_tup (da_cons (ed_is (ed_call (ds := [.str (headT x)]) (da_cons (ed_var rfl (.str _)) da_nil) ⟨_, rfl, by omega, rfl⟩) ecn) (da_cons (ed_var rfl (dp_mono e5 r5')) da_nil)) (le_lit rfl)
        · have hn := of_decide_eq_false h
          rw [inD_none (x := x) (by rw [in_calc f1 hc hp, hf, decide_eq_false (show ¬ n ≤ 10000 by omega)]; rfl)]
          exact ed_cn
end
end Sq
namespace Sq
open PySem PySem.Spec PyProof.Rows L2 Evl
/-! #### a text times a number -/
def repS (x : Str) (n : Nat) : Str := ⟨(List.replicate n x.cps).foldl (· ++ ·) #[]⟩
theorem foldl_size (x : Array Nat) : ∀ (n : Nat) (a : Array Nat), ((List.replicate n x).foldl (· ++ ·) a).size = a.size + n * x.size
  | 0, a => by simp
  | n + 1, a => by
    rw [List.replicate_succ, List.foldl_cons, foldl_size x n, Array.size_append, Nat.add_mul]
    omega
theorem repS_len (x : Str) (n : Nat) : (repS x n).length = n * x.length := by
  show ((List.replicate n x.cps).foldl (· ++ ·) #[]).size = n * x.cps.size
  rw [foldl_size]
  simp
theorem op_mulS {X : Cx} : OpR X (binaryOp .Mult) (fun v w H Q => ∃ (x : Str) (n : Int), v = .str x ∧ w = .int n ∧ 2 ≤ n ∧ n ≤ 10000 ∧ 1 ≤ x.length ∧ x.length ≤ 100 ∧ Q (.str (repS x n.toNat)) H) := by
  intro pins s σ H x y v u Q I rx ry h
  obtain ⟨i, n, rfl, rfl, h1, h2, h3, h4, q⟩ := h
  obtain ⟨t, rfl⟩ := rx
  obtain ⟨t', rfl⟩ := ry
  have hl : i.length * n.toNat ≤ 1000000 := Nat.le_trans (Nat.mul_le_mul h4 (show n.toNat ≤ 10000 by omega)) (by decide)
  have hg : (n == 1 || i.length == 0) = false := by
    rw [show (n == 1) = false from beq_eq_false_iff_ne.mpr (by omega), show (i.length == 0) = false from beq_eq_false_iff_ne.mpr (by omega)]
    rfl
  refine PySem.P.mul_str (by rw [decide_eq_false (show ¬ n < -(2 ^ 63 : Int) by omega), decide_eq_false (show ¬ n ≥ 2 ^ 63 by omega)]; rfl) (fun _ _ => ?_) (fun _ _ => ?_) ?_
  · have : 100 ≤ (2 ^ 63 - 1) / n := Int.le_ediv_of_mul_le (by omega) (by omega)
    omega
  · exact PyProof.Rows.short24 (by omega)
  · rw [if_neg (show ¬ n < 1 by omega), if_neg (by rw [hg]; exact Bool.false_ne_true)]
    refine ⟨?_, ⟨.str (repS i n.toNat), H, I.tok _, ⟨_, rfl⟩, q⟩⟩
    show (repS i n.toNat).length ≤ sizeLine
    rw [repS_len, Nat.mul_comm]
    have hsz : (1000000 : Nat) ≤ sizeLine := by rw [sizeLine_eq]; decide
    omega
end Sq
namespace Sq
section
variable {K : PySem.W.Frag} {σ : L2.St} {H : Hp} {ta tb te : TE} {ts : TA}
/-! #### a list of texts, none too long -/
def TxtsV (n : Nat) (v : V) (H : Hp) : Prop := ∃ ws : List Str, Rp H v (.list (ws.map .str)) ∧ ws.length = n ∧ ∀ w ∈ ws, w.length ≤ 5000
def EvTx (ts : TA) (σ : L2.St) (H : Hp) (n : Nat) : Prop := ∃ ws : List Str, EvDA ts σ H (ws.map .str) ∧ ws.length = n ∧ ∀ w ∈ ws, w.length ≤ 5000
theorem tx_nil : EvTx tNil σ H 0 := ⟨[], da_nil, rfl, fun _ h => (nomatch h)⟩
theorem tx_cons {s : Str} {n : Nat} (h : EvD te σ H (.str s)) (hs : s.length ≤ 5000) (hr : EvTx ts σ H n) : EvTx (tCons te ts) σ H (n + 1) := by
  obtain ⟨ws, h1, h2, h3⟩ := hr
  refine ⟨s :: ws, da_cons h h1, by rw [List.length_cons, h2], fun w hw => ?_⟩
  rcases List.mem_cons.mp hw with rfl | hw
  · exact hs
  · exact h3 w hw
theorem tx_lst {n : Nat} (h : EvTx ts σ H n) (hn : n ≤ 1000) : EvX (tLst ts) σ H (TxtsV n) := by
  obtain ⟨ws, h1, h2, h3⟩ := h
  exact fun H1 e Q q => ed_lst h1 (by rw [List.length_map]; omega) H1 e Q fun v H2 e2 rv => q v H2 e2 ⟨ws, rv, h2, h3⟩
theorem tx_cat {n m : Nat} (ha : EvX ta σ H (TxtsV n)) (hb : EvX tb σ H (TxtsV m)) (hn : n + m ≤ 1000) : EvX (tOp rCat ta tb) σ H (TxtsV (n + m)) := fun H1 e Q q =>
  ha H1 e _ fun v H2 e2 hv => hb H2 (e.trans e2) _ fun u H3 e3 hu => by
    obtain ⟨xs, r1, l1, b1⟩ := hv
    obtain ⟨ys, r2, l2, b2⟩ := hu
    obtain ⟨a, vs, rfl, hs, hx⟩ := dp_list (dp_mono e3 r1)
    obtain ⟨b, us, rfl, ht, hy⟩ := dp_list r2
    refine ⟨a, b, vs, us, rfl, rfl, hs, ht, by rw [dpa_len hx, dpa_len hy, List.length_map, List.length_map]; exact sz_of (by omega), fun p hp => q _ _ ((e2.trans e3).trans (Ex.new hp)) ⟨xs ++ ys, ?_, by rw [List.length_append, l1, l2], fun w hw => ?_⟩⟩
    · rw [List.map_append]
      exact .lst upd_same (dpa_mono (Ex.new hp) (dpa_app hx hy))
    · rcases List.mem_append.mp hw with h | h
      · exact b1 w h
      · exact b2 w h
theorem tx_var {i n : Nat} {v : V} (h : σ[i]? = some (some v)) (hv : TxtsV n v H) : EvX (tVar i) σ H (TxtsV n) := fun H1 e _ q => by
  obtain ⟨ws, r, l, b⟩ := hv
  exact ⟨v, h, q v H1 (Ex.refl H1) ⟨ws, dp_mono e r, l, b⟩⟩
theorem ed_mulS {x : Str} {n : Int} (ha : EvD ta σ H (.str x)) (hb : EvD tb σ H (.int n)) (h1 : 2 ≤ n ∧ n ≤ 10000) (h2 : 1 ≤ x.length ∧ x.length ≤ 100) :
    EvD (tOp (fun v w H Q => ∃ (x : Str) (n : Int), v = .str x ∧ w = .int n ∧ 2 ≤ n ∧ n ≤ 10000 ∧ 1 ≤ x.length ∧ x.length ≤ 100 ∧ Q (.str (repS x n.toNat)) H) ta tb) σ H (.str (repS x n.toNat)) :=
  ed_op ha hb fun _ _ H1 _ d1 d2 _ q => ⟨x, n, dp_str d1, dp_int d2, h1.1, h1.2, h2.1, h2.2, q _ H1 (Ex.refl H1) (.str _)⟩
end
section
variable {P : Program} {w : World} {K : PySem.W.Frag} {mg : Str → Option Value} {base : Heap}
def rFew : List PyData → (V → Hp → Prop) → Prop := fun ds F => ds = [] ∧ F = fun v H => ∃ n, TxtsV n v H ∧ n ≤ 1000
local macro_rules | `(tactic| walk_at "tx") => `(tactic| repeat (first | exact tx_nil | refine tx_cons ed_cs (by decide +kernel) ?_ | refine tx_cons (ed_mulS ed_cs ed_ci (by decide) (by decide +kernel)) (by rw [repS_len]; decide +kernel) ?_))
theorem ok_law_few (T : Txt K mg) : FnOk P w K mg base CX0 1 T.a_law_few T.d_law_few [] (spX rFew) := by
  refine T.F_law_few.ok sc_law_few (fun vs H Q E h => ?_) (fun cdv A outer s H vs Q E hr h => ?_)
  · obtain ⟨ds, F, hv, ⟨rfl, _⟩, _⟩ := h
    exact dpa_len hv
  obtain ⟨ds, F, hv, ⟨rfl, rfl⟩, q⟩ := h
  cases hv
  refine ⟨_, (pss_cons (ps_set (i := 0) sc_law_few.nd rfl (Or.inl rfl) (pe_lst (pa_cons pe_str (pa_cons pe_str (pa_cons pe_str (pa_cons pe_str (pa_cons pe_str (pa_cons pe_str (pa_cons pe_str (pa_cons pe_str pa_nil)))))))))) (pss_cons (ps_set (i := 0) sc_law_few.nd rfl (Or.inl rfl) (pe_op op_cat (pv 0) (pe_lst (pa_cons pe_str (pa_cons pe_str (pa_cons pe_str (pa_cons pe_str (pa_cons pe_str (pa_cons pe_str pa_nil))))))))) (pss_cons (ps_set (i := 0) sc_law_few.nd rfl (Or.inl rfl) (pe_op op_cat (pv 0) (pe_lst (pa_cons pe_str (pa_cons pe_str (pa_cons pe_str (pa_cons pe_str (pa_cons pe_str pa_nil)))))))) (pss_cons (ps_set (i := 0) sc_law_few.nd rfl (Or.inl rfl) (pe_op op_cat (pv 0) (pe_lst (pa_cons pe_str (pa_cons pe_str (pa_cons pe_str (pa_cons pe_str (pa_cons pe_str (pa_cons pe_str pa_nil))))))))) (pss_cons (ps_set (i := 0) sc_law_few.nd rfl (Or.inl rfl) (pe_op op_cat (pv 0) (pe_lst (pa_cons pe_str (pa_cons pe_str (pa_cons pe_str (pa_cons pe_str (pa_cons pe_str (pa_cons pe_str pa_nil))))))))) (pss_cons (ps_set (i := 0) sc_law_few.nd rfl (Or.inl rfl) (pe_op op_cat (pv 0) (pe_lst (pa_cons pe_str (pa_cons pe_str (pa_cons pe_str (pa_cons pe_str (pa_cons pe_str (pa_cons pe_str pa_nil))))))))) (pss_cons (ps_set (i := 0) sc_law_few.nd rfl (Or.inl rfl) (pe_op op_cat (pv 0) (pe_lst (pa_cons pe_str (pa_cons pe_str (pa_cons pe_str (pa_cons pe_str (pa_cons pe_str (pa_cons pe_str (pa_cons pe_str (pa_cons (pe_op op_mulS pe_str pe_int) pa_nil))))))))))) (pss_one (ps_ret (pe_op op_cat (pv 0) (pe_lst (pa_cons pe_str (pa_cons pe_str (pa_cons pe_str pa_nil)))))))))))))), ?_⟩
  refine q_asgX (tx_lst (n := 8) (by walk_at "tx") (by decide)) fun v1 H1 e1 t1 => ?_
  refine q_asgX (tx_cat (tx_var rfl t1) (tx_lst (n := 6) (by walk_at "tx") (by decide)) (by decide)) fun v2 H2 e2 t2 => ?_
  refine q_asgX (tx_cat (tx_var rfl t2) (tx_lst (n := 5) (by walk_at "tx") (by decide)) (by decide)) fun v3 H3 e3 t3 => ?_
  refine q_asgX (tx_cat (tx_var rfl t3) (tx_lst (n := 6) (by walk_at "tx") (by decide)) (by decide)) fun v4 H4 e4 t4 => ?_
  refine q_asgX (tx_cat (tx_var rfl t4) (tx_lst (n := 6) (by walk_at "tx") (by decide)) (by decide)) fun v5 H5 e5 t5 => ?_
  refine q_asgX (tx_cat (tx_var rfl t5) (tx_lst (n := 6) (by walk_at "tx") (by decide)) (by decide)) fun v6 H6 e6 t6 => ?_
  refine q_asgX (tx_cat (tx_var rfl t6) (tx_lst (n := 8) (by walk_at "tx") (by decide)) (by decide)) fun v7 H7 e7 t7 => ?_
  exact s_retX (tx_cat (tx_var rfl t7) (tx_lst (n := 3) (by walk_at "tx") (by decide)) (by decide)) fun v8 H8 e8 t8 => q v8 H8 (((((((e1.trans e2).trans e3).trans e4).trans e5).trans e6).trans e7).trans e8) ⟨_, t8, by decide⟩
end
end Sq
namespace Sq
open PySem PySem.Spec PyProof.Rows L2 Evl
section
open L2H HotX
/-! #### exceptions whose context is None, or one whose own context is None: raised in a suite, caught by the caller -/
def Zk (cls : Value) (d : Option Addr) (c : Value) : Obj → Prop := fun o => o.cls = cls ∧ o.dict = d ∧ ∀ vs : Array Value, o.data = .fields vs → vs[2]? = some c
theorem Zk.steady {cls c : Value} {d : Option Addr} : PySem.PXN.Steady1 (Zk cls d c) := fun o v h => by
  refine ⟨PySem.PXN.steady_cls o v h.1, PySem.PXN.steady_dict o v h.2.1, fun vs e => ?_⟩
  have h3 := h.2.2
  obtain ⟨oc, od, dt, sl⟩ := o
  cases dt with
  | fields vs0 =>
    have e2 : vs0.setIfInBounds 1 v = vs := Data.fields.inj e
    rw [← e2]
    have e3 : (vs0.setIfInBounds 1 v)[2]? = vs0[2]? := by simp [Array.getElem?_setIfInBounds]
    rw [e3]
    exact h3 vs0 rfl
  | _ => exact Data.noConfusion e
theorem Zk.zc {cls c : Value} {d : Option Addr} {o : Obj} (h : Zk cls d c o) : Zc cls d o := ⟨h.1, h.2.1⟩
/-- c is None, or an exception of the ground whose context is None -/
def Lone (B : Heap) (H : Hp) (c : Value) : Prop := c = .none ∨ ∃ (x : Addr) (o : Obj) (vs : Array Value), c = .ref x ∧ B.get? x = some o ∧ o.data = .fields vs ∧ vs[2]? = some .none ∧ H x = none
def XEk (X : Cx) (W : WX) (u : Value) (s' : Shared) : Prop :=
  ∃ (a : Addr) (B : Heap) (sI : Shared) (pins : List (Addr × Obj)) (σ : L2.St) (H : Hp) (cls : Value) (d : Option Addr) (c : Value),
    u = .ref a ∧ Inv X pins σ H sI ∧ (∀ b o, sI.heap.get? b = some o → b ∉ frs X.stack → B.get? b = some o) ∧ sI.heap.UpToSlots s'.heap ∧ Sky B X.stack a (Zk cls d c) X.env.locals s'.heap ∧ H a = none ∧ s'.os = sI.os ∧ AllBare s'.gens ∧ Lone B H c ∧ W cls d σ H
def Tk (X : Cx) (W : WX) : Prop := ∀ u s', XEk X W u s' → X.xe u s'
theorem tk0 {X : Cx} : Tk X (fun _ _ _ _ => False) := fun _ _ x => by
  obtain ⟨_, _, _, _, _, _, _, _, _, _, _, _, _, _, _, _, _, _, z⟩ := x
  exact z.elim
/-- behind a call that let such an exception out -/
def CXk (P : Program) (w : World) (outer : List Env) (H : Hp) (s : Shared) (E : XK) (u : Value) (s' : Shared) : Prop :=
  ∃ (a : Addr) (B : Heap) (H' : Hp) (cls : Value) (d : Option Addr) (c : Value), u = .ref a ∧ HandSPX.FlyingZ B outer a (Zk cls d c) s'.heap ∧ HOk P w H' B ∧ UB (frs outer) H H' s.heap B s'.heap ∧ H' a = none ∧ s'.os = s.os ∧ AllBare s'.gens ∧ Lone B H' c ∧ E cls d H'
theorem cxk_of_N {P : Program} {w : World} {outer : List Env} {H : Hp} {s s' : Shared} {E : XK} {u : Value} : L2N.CX P w outer H s E u s' → CXk P w outer H s E u s' := fun ⟨a, B, H', cls, d, e, fl, hok, ub, na, os, ag, w⟩ =>
  ⟨a, B, H', cls, d, .none, e, flyingZ_imp (fun _ z => z) fl, hok, ub, na, os, ag, .inl rfl, w⟩
theorem cx_of_k {P : Program} {w : World} {outer : List Env} {H : Hp} {s s' : Shared} {E : XK} {u : Value} : CXk P w outer H s E u s' → L2.CX P w outer H s E u s' := fun ⟨a, B, H', cls, d, c, e, fl, hok, ub, na, os, ag, _, w⟩ =>
  ⟨a, B, H', cls, d, e, flyingZ_imp (fun _ z => z.zc) fl, hok, ub, na, os, ag, w⟩
theorem fnk_of_N {P : Program} {w : World} {K : PySem.W.Frag} {mg : Str → Option Value} {base : Heap} {k : Nat} {f : Addr} {fd : FuncData} {ps : List Str} {sp : Sp} (F : FnOk P w K mg base (L2N.CX P w) k f fd ps sp) : FnOk P w K mg base (CXk P w) k f fd ps sp :=
  ⟨F.len, fun A outer s H args us vs Q E hr e0 hb r hsp => codeAny_mono (F.run A outer s H args us vs Q E hr e0 hb r hsp) fun r s' hq => by
    cases r with
    | error e => exact cxk_of_N hq
    | ok fl => cases fl <;> exact hq⟩
theorem fn_of_k {P : Program} {w : World} {K : PySem.W.Frag} {mg : Str → Option Value} {base : Heap} {k : Nat} {f : Addr} {fd : FuncData} {ps : List Str} {sp : Sp} (F : FnOk P w K mg base (CXk P w) k f fd ps sp) : FnOk P w K mg base (L2.CX P w) k f fd ps sp :=
  ⟨F.len, fun A outer s H args us vs Q E hr e0 hb r hsp => codeAny_mono (F.run A outer s H args us vs Q E hr e0 hb r hsp) fun r s' hq => by
    cases r with
    | error e => exact cx_of_k hq
    | ok fl => cases fl <;> exact hq⟩
section
variable {X : Cx} {pins : List (Addr × Obj)} {σ : L2.St} {H : Hp} {sI s s' : Shared} {B : Heap} {W : WX} {E : XK}
theorem XEk.of_call (I : Inv X pins σ H s) (hW : ∀ cls d H', E cls d H' → W cls d σ H') {u : Value} (x : CXk X.prog X.w X.stack H s E u s') : XEk X W u s' := by
  obtain ⟨a, B, H', cls, d, c, rfl, fl, hok, ub, na, os, ag, lo, hE⟩ := x
  obtain ⟨G, g1, g2⟩ := restrict s'.heap fun b => (B.get? b).isSome || decide (b ∈ frs X.stack)
  have st : B.StaysIn s'.heap := fl.1
  have gB : ∀ b o, B.get? b = some o → G.get? b = some o := fun b o e => (g1 b (by simp [e])).trans (st b o e)
  have gF : ∀ b, b ∈ frs X.stack → G.get? b = s'.heap.get? b := fun b hb => g1 b (by simp [hb])
  have og : ∀ b o, G.get? b = some o → s'.heap.get? b = some o ∧ ((B.get? b).isSome = true ∨ b ∈ frs X.stack) := fun b o e => by
    cases q : ((B.get? b).isSome || decide (b ∈ frs X.stack)) with
    | false =>
      rw [g2 b q] at e
      cases e
    | true => exact ⟨(g1 b q).symm.trans e, by simpa [Bool.or_eq_true] using q⟩
  refine ⟨a, B, { s with heap := G, gens := s'.gens, drawn := s'.drawn, toks := s'.toks }, pins, σ, H', cls, d, c, rfl, ?_, fun b o e hb => ?_, Heap.UpToSlots.of_keeps fun b o e => (og b o e).1, .inr (.inl fl), na, os, ag, lo, hW _ _ _ hE⟩
  · refine I.call (ch := []) ⟨fun b o e n hb _ => gB b o (ub.keep b o e n hb), fun b o e n hb _ => ?_, fun b o e n _ => ub.free b o e n, fun b o e _ => ?_, ub.tups, ub.frzs, ub.tbls⟩ (hok.kept gB) ag (fun _ z => nomatch z)
    · obtain ⟨sl, q⟩ := ub.slot b o e hb
      exact ⟨sl, (gF b hb).trans q⟩
    · by_cases hb : b ∈ frs X.stack
      · obtain ⟨sl, q⟩ := ub.slot b o e hb
        exact ⟨_, (gF b hb).trans q⟩
      · obtain ⟨o', q⟩ := ub.there b o e hb
        exact ⟨o', gB b o' q⟩
  · obtain ⟨e', h⟩ := og b o e
    rcases h with h | h
    · obtain ⟨o', q⟩ := Option.isSome_iff_exists.mp h
      have z := (st b o' q).symm.trans e'
      cases z
      exact q
    · exact absurd h hb
theorem XEk.new {a : Addr} {oe : Obj} {vs : Array Value} {cls c : Value} {d : Option Addr} (I : Inv X pins σ H sI) (k : ∀ b o, sI.heap.get? b = some o → s'.heap.get? b = some o) (hne : sI.heap.get? a = none) (he : s'.heap.get? a = some oe)
    (hz : Zk cls d c oe) (hd : oe.data = .fields vs) (h1 : vs[1]? = some .none) (na : H a = none) (os : s'.os = sI.os) (ag : AllBare s'.gens) (lo : c = .none ∨ ∃ (x : Addr) (o : Obj) (ws : Array Value), c = .ref x ∧ sI.heap.get? x = some o ∧ x ∉ frs X.stack ∧ o.data = .fields ws ∧ ws[2]? = some .none ∧ H x = none)
    (w : W cls d σ H) : XEk X W (.ref a) s' := by
  refine ⟨a, PySem.W.hideAll sI.heap (frs X.stack), sI, pins, σ, H, cls, d, c, rfl, I, fun b o e hb => PySem.W.hideAll_get _ e hb, Heap.UpToSlots.of_keeps k,
    .inl ⟨fun b o e => k b o (PySem.W.of_hideAll _ e), ?_, ?_, oe, vs, he, hz, hd, h1⟩, na, os, ag, ?_, w⟩
  · cases q : (PySem.W.hideAll sI.heap (frs X.stack)).get? a with
    | none => rfl
    | some o =>
      have z := (PySem.W.of_hideAll _ q).symm.trans hne
      cases z
  · exact Heap.FunFrames.of_keeps (fun b o e _ => ⟨o, k b o e, rfl⟩) (funFrames_none I.stack fun b hb => PySem.W.hideAll_none _ hb)
  · rcases lo with rfl | ⟨x, o, ws, rfl, hx, hn, hd, hw, hh⟩
    · exact .inl rfl
    · exact .inr ⟨x, o, ws, rfl, PySem.W.hideAll_get _ hx hn, hd, hw, hh⟩
theorem XEk.leave (hs : X.stack = X.env :: X.outer) (hf : X.env.frame = some X.env.locals) (hex : X.ex = []) {E₁ : Value → Shared → Prop} (hW : ∀ cls d σ H, W cls d σ H → E cls d H) {u : Value} (x : XEk X W u s') :
    wpAny (model X.prog X.w) X.A (leaving X.env u) (fun _ s'' => CXk X.prog X.w X.outer X.H_0 X.s_0 E u s'') E₁ s' := by
  obtain ⟨a, B, sI, pins, σ, H, cls, d, c, rfl, I, nb, up, sky, na, os, ag, lo, w⟩ := x
  have hfr : X.A.frames = some (X.env :: X.outer) := by rw [I.ok.frames, hs]
  have nst : ∀ b o, X.s_0.heap.get? b = some o → b ∉ X.fs → b ∉ frs X.stack := fun b o e hb hm => by
    rcases List.mem_cons.mp (I.stkSub b hm) with z | z
    · have h1 := Heap.lt_size e
      rw [z] at h1
      exact absurd (Nat.lt_of_lt_of_le h1 I.ok.above) (Nat.lt_irrefl _)
    · exact hb z
  have hex' : ∀ b, b ∉ X.ex := fun b hb => by
    rw [hex] at hb
    cases hb
  have hokB := I.inGround nb
  have fin : ∀ h', HandSPX.FlyingZ B X.outer a (Zk cls d c) h' → s'.heap.UpToSlots h' → CXk X.prog X.w X.outer X.H_0 X.s_0 E (.ref a) { s' with heap := h' } := fun h' fl up' => by
    refine ⟨a, B, H, cls, d, c, rfl, fl, hokB, ⟨fun b o e n hb => nb b o (I.base.keep b o e n hb (hex' b)) (nst b o e hb), fun b o e hb => ?_, fun b o e n => I.base.free b o e n (hex' b), fun b o e hb => ?_, I.base.tups, I.base.frzs, I.base.tbls⟩,
      na, os.trans I.os, ag, lo, hW _ _ _ _ w⟩
    · obtain ⟨_, o₀, e₀, hnf⟩ := I.ok.funs.mem hb
      have z := e.symm.trans e₀
      cases z
      obtain ⟨sl, e1⟩ := I.base.slot b o e (I.ok.frf b hb) hb (hex' b)
      obtain ⟨sl2, e2⟩ := up b _ e1 hnf
      obtain ⟨sl3, e3⟩ := up' b _ e2 hnf
      exact ⟨sl3, e3⟩
    · obtain ⟨o', e1⟩ := I.base.there b o e (hex' b)
      exact ⟨o', nb b o' e1 (nst b o e hb)⟩
  rw [hs] at sky
  rcases sky with ⟨hB, hn, hl, oe, vs, he, hz, hd, h1⟩ | fl | hd
  · exact PySem.PXN.leaving_firstZ Zk.steady hfr hl hf he hB hn hd h1 hz fin
  · exact PySem.PXN.leaves_onZ Zk.steady hfr hf fl fin
  · exact HandSPX.leaves_heldZ hf hd fin
theorem tk_of (hs : X.stack = X.env :: X.outer) (hf : X.env.frame = some X.env.locals) (hex : X.ex = []) {E₁ : Value → Shared → Prop}
    (hx : X.xe = fun e s' => wpAny (model X.prog X.w) X.A (leaving X.env e) (fun _ s'' => CXk X.prog X.w X.outer X.H_0 X.s_0 E e s'') E₁ s') : Tk X (fun cls d _ H => E cls d H) := fun u s' x => by
  rw [hx]
  exact XEk.leave (W := fun cls d _ H => E cls d H) (E := E) hs hf hex (fun _ _ _ _ h => h) x
theorem passk_call (tk : Tk X W) (hW : ∀ cls d σ H, E cls d H → W cls d σ H) : Passes (CXk X.prog X.w) X E := fun _ σ _ _ e s' I x => tk e s' (XEk.of_call I (fun cls d H' h => hW cls d σ H' h) x)
theorem passk_at (tk : Tk X W) (σ : L2.St) : PassesAt (CXk X.prog X.w) X σ (WE W σ) := fun _ _ _ e s' I x => tk e s' (XEk.of_call I (fun _ _ _ h => h) x)
end
theorem psk_raise {X : Cx} {W : WX} {e : Expr} {t : L2.St → Hp → XK → Prop} {pos : Pos} (hc : X.calm = true) (tk : Tk X W) (he : L2N.PMk X e t) : PS X (.Raise (some e) none pos) (fun _ σ H => t σ H fun cls d H' => W cls d σ H') := by
  refine ⟨fun pins s σ H D I h => ?_⟩
  show wpAny _ _ (do standAt pos; raiseStmt X.env (some (do let v ← eval e X.env; standAt pos; pure v)) none) _ _ _
  refine wpAny_bind (wpAny_standAt (raise_made (I.ok.hd hc) (wpAny_bind (wpAny_mono (he pins s σ H _ I h) (fun u s1 hu => wpAny_bind (wpAny_standAt (wpAny_pure ?_))) fun _ _ x => x))))
  obtain ⟨a, oe, vs, sI, H', cls, d, rfl, J, k, hne, ha, hz, hd, h1, na, os, ag, r, q⟩ := hu
  obtain ⟨r1, r2⟩ := r (model X.prog X.w) s1.heap (J.kIn.keeps k)
  exact ⟨a, oe, vs, cls, rfl, ha, hz.1, hd, h1, r1, r2, tk _ _ (XEk.new (c := .none) J k hne ha hz hd h1 na os ag (.inl rfl) q)⟩
theorem psk_raiseH {X : Cx} {W : WX} {e : Expr} {t : L2.St → Hp → XK → Prop} {pos : Pos} (hc : HotC X) (tk : Tk X W) (he : L2N.PMk X e t) : PS X (.Raise (some e) none pos) (fun _ σ H => t σ H fun cls d H' => W cls d σ H') := by
  refine ⟨fun pins s σ H D I h => ?_⟩
  obtain ⟨p, ⟨hh, v1, e1, c1⟩, hp⟩ := hc
  show wpAny _ _ (do standAt pos; raiseStmt X.env (some (do let v ← eval e X.env; standAt pos; pure v)) none) _ _ _
  refine wpAny_bind (wpAny_standAt (raise_made_hot (x1 := p.1) (wpAny_bind (wpAny_mono (he pins s σ H _ I h) (fun u s1 hu => wpAny_bind (wpAny_standAt (wpAny_pure ?_))) fun _ _ x => x))))
  obtain ⟨a, oe, vs, sI, H', cls, d, rfl, J, k, hne, ha, hz, hd, h1, na, os, ag, r, q⟩ := hu
  obtain ⟨r1, r2⟩ := r (model X.prog X.w) s1.heap (J.kIn.keeps k)
  have PP := J.pin p (List.mem_append_left _ hp)
  have P1 := PP.1
  have nap : p.1 ≠ a := fun z => by
    rw [z, hne] at P1
    cases P1
  have hi : 2 < vs.size := (Array.getElem?_eq_some_iff.mp (hz.2.2 vs hd)).1
  have h1' : (vs.setIfInBounds 2 (Value.ref p.1))[1]? = some Value.none := by
    have e3 : (vs.setIfInBounds 2 (Value.ref p.1))[1]? = vs[1]? := by simp [Array.getElem?_setIfInBounds]
    rw [e3]
    exact h1
  have h2' : (vs.setIfInBounds 2 (Value.ref p.1))[2]? = some (Value.ref p.1) := by simp [hi]
  have hd' := Obj.data_mapFields hd (·.setIfInBounds 2 (Value.ref p.1))
  refine ⟨a, oe, vs, cls, rfl, ha, hz.1, hd, h1, hi, nap, ⟨hh, p.2, v1, k _ _ P1, e1, c1⟩, r1, r2, tk _ _ (XEk.new (c := .ref p.1) J (fun b u z => ?_) hne (Heap.get?_update_self _ ha (Obj.isFreed_of_fields hd')) ⟨(Obj.cls_mapFields ..).trans hz.1, (HandSPX.dict_mapFields ..).trans hz.2.1, fun ws q => ?_⟩ hd' h1' na os ag
    (.inr ⟨p.1, p.2, v1, rfl, P1, fun hm => (List.mem_cons.mp (J.stkSub p.1 hm)).elim PP.2.2.1 PP.2.2.2.1, e1, c1, PP.2.1⟩) q)⟩
  · have nab : a ≠ b := fun y => by
      rw [← y, hne] at z
      cases z
    show (s1.heap.update a (Obj.mapFields (·.setIfInBounds 2 (.ref p.1)))).get? b = some u
    rw [Heap.get?_update_other _ _ nab]
    exact k b u z
  · have z := hd'.symm.trans q
    have z2 := Data.fields.inj z
    rw [← z2]
    exact h2'
theorem okK {P : Program} {w : World} {K : PySem.W.Frag} {mg : Str → Option Value} {base : Heap} {x qual : Str} {st : Stmt} {f : Addr} {fd : FuncData} {N ps : List Str} {k : Nat} {sp : Sp} (F : L2.Fun K x qual st f fd) (S : FnScope N ps (defScope st)) (len : ∀ vs H Q E, sp vs H Q E → vs.length = ps.length)
    (hbody : ∀ (cdv : Value) (A : Around) (outer : List Env) (s : Shared) (H : Hp) (vs : List V) (Q : VK) (E : XK), Room k (A.deeper (envOfC qual (defScope st) s.heap.objs.size f cdv)) → sp vs H Q E →
      ∃ t, PSs (cxOf (CXk P w) P w K mg base N qual (defScope st) f cdv A outer s H E) (defBody st) t ∧ t { nx := fun _ H' => Q .non H', rt := Q } (L2.start N vs) H) : FnOk P w K mg base (CXk P w) (k + 1) f fd ps sp := by
  obtain ⟨oc, od, kV, doc, pm, an, cdv, ct, osl, rfl, lk, hcd⟩ := F.ex
  exact fn_of lk hcd S len fun A outer s H vs Q E hr hsp => hbody cdv A outer s H vs Q E hr hsp
end
end Sq
namespace Sq
open PySem PySem.Spec PyProof.Rows L2 Evl
section
open L2H
/-! #### a try's catch, in steps: noted and landed; apart from the frames; a class named; the end of what ran through -/
variable {X : Cx} {pins pn : List (Addr × Obj)} {σ : L2.St} {H : Hp} {s sI s' : Shared} {B h : Heap} {a b : Addr} {o : Obj} {vs : Array Value} {Z : Obj → Prop} {D : Ends} {E : Value → Shared → Prop}
theorem flyZ_keep {h' : Heap} {l : List Env} (k : ∀ b o, h.get? b = some o → h'.get? b = some o) (x : HandSPX.FlyingZ B l a Z h) : HandSPX.FlyingZ B l a Z h' := by
  obtain ⟨h1, h2, h3, oe, vs, T, oT, ts, he, hz, hd, e1, hn, hT, ht, hdt, e3⟩ := x
  exact ⟨fun b o e => k b o (h1 b o e), h2, h3.of_keeps fun b o hb _ => ⟨_, k b o hb, rfl⟩, oe, vs, T, oT, ts, k _ _ he, hz, hd, e1, hn, hT, k _ _ ht, hdt, e3⟩
/-- noted by the frame that tries, then on its ground -/
theorem land8 {Q : Unit → Shared → Prop} (ok : X.Ok) (hZ : PySem.PXN.Steady1 Z) (hs : X.stack = X.env :: X.outer) (hf : X.env.frame = some X.env.locals) (sky : Sky B X.stack a Z X.env.locals s'.heap)
    (k : ∀ g, HandSPX.FlyingZ B (X.env :: X.outer) a Z g → s'.heap.UpToSlots g → Q () { s' with heap := g }) :
    wpAny (model X.prog X.w) X.A (noteFrame (.ref a) X.env) (fun _ s₂ => wpAny (model X.prog X.w) X.A (setFlight (.ref a) none) Q E s₂) E s' :=
  L2N.Sky.land hZ (by rw [ok.frames, hs]) hf (hs ▸ sky) k
/-- a record is none of the frames -/
theorem off8 (hf : X.env.frame = some X.env.locals) (fl : HandSPX.FlyingZ B (X.env :: X.outer) a Z h) (e : h.get? b = some o) (d : o.data = .fields vs) : b ≠ X.env.locals ∧ b ∉ X.fs := by
  have no : ∀ w : Env, w ∈ X.env :: X.outer → w.frame ≠ some b := fun w hw q => by
    obtain ⟨_, o2, e2, nf⟩ := fl.2.2.1.mem (List.mem_filterMap.mpr ⟨w, hw, q⟩)
    have z := e.symm.trans e2
    cases z
    exact nf vs d
  refine ⟨fun z => no X.env List.mem_cons_self (by rw [hf, z]), fun hm => ?_⟩
  obtain ⟨w, hw, q⟩ := List.mem_filterMap.mp hm
  exact no w (List.mem_cons_of_mem _ hw) q
/-- the class that the clause names, told in the suite's state -/
theorem name8 {x : Str} {c : Value} {np : Pos} {Q : Value → Shared → Prop} (S : Inv (X.suite a pn) [] σ H s) (hc : Names X x c) (q : Q c s) : wpAny (model X.prog X.w) (X.A.mark (some (.ref a))) (eval (.Name x np) X.env) Q E s := by
  rcases hc with ⟨g1, g2, g3 | ⟨g3, g4, g5⟩⟩
  · exact ld_glob (X := X.suite a pn) S g1 g3 q g2
  · exact ld_blt (X := X.suite a pn) S g1 g3 g4 q g5 g2
/-- an end of the suite or of the body, seen from the def around -/
theorem sp_map {Y : Cx} {pins' : List (Addr × Obj)} {f : Flow} (back : ∀ {σ : L2.St} {H : Hp}, Inv Y pins' σ H s → Inv X pins σ H s) (q : SP Y pins' D f s) : SP X pins D f s := by
  cases f with
  | ret u => exact q.elim fun v q => q.elim fun σ q => q.elim fun H q => ⟨v, σ, H, back q.1, q.2⟩
  | _ => exact q.elim fun σ q => q.elim fun H q => ⟨σ, H, back q.1, q.2⟩
end
end Sq
namespace Sq
open PySem PySem.Spec PyProof.Rows L2 Evl
section
open L2H
/-! #### try: body, except (a, b): suite, where the suite raises and each exception of the body is of a or of b -/
def wTwo (K : PySem.W.Frag) (c1 c2 : Value) (ts : Addr → Value → Option Addr → TS) (D : Ends) : WX := fun cls d σ H => PySem.W.exmAny K cls [c1, c2] = some true ∧ ∀ a, H a = none → ts a cls d D σ H
variable {X : Cx} {x1 x2 : Str} {c1 c2 : Value} {body suite : List Stmt} {b₀ : Stmt} {p1 p2 tp pos pos' : Pos} {kk : Nat} {tb : WX → TS} {ts : Addr → Value → Option Addr → TS} {Wout : WX}
theorem ps_try_two (hs : X.stack = X.env :: X.outer) (hf : X.env.frame = some X.env.locals) (hc1 : Names X x1 c1) (hc2 : Names X x2 c2) (hpa : ∀ hd : Option Value, PassesOwnAt (model X.prog X.w) (X.A.mark hd) X.A X.env X.xe) (tk : Tk X Wout)
    (hb : ∀ (W : WX) (pn : List (Addr × Obj)) (xe : Value → Shared → Prop), L2N.Takes (X.tr pn xe) W → PassesOwn (model X.prog X.w) X.A X.env xe → PSs (X.tr pn xe) body (tb W))
    (hsu : ∀ (a : Addr) (oe : Obj) (cls : Value) (d : Option Addr) (pn : List (Addr × Obj)), L2N.Zn cls d oe → (∃ vs, oe.data = .fields vs) → Tk (suiteX X a ((a, oe) :: pn)) Wout → HotC (suiteX X a ((a, oe) :: pn)) → PSs (suiteX X a ((a, oe) :: pn)) (b₀ :: suite) (ts a cls d)) :
    PS X (.Try body [.ExceptHandler (some (.Tuple [.Name x1 p1, .Name x2 p2] kk tp)) none (b₀ :: suite) pos'] [] [] pos) (fun D σ H => tb (wTwo X.K c1 c2 ts D) D σ H) := by
  constructor
  intro pins s σ H D I h
  have ok := I.ok
  refine wpAny_Try_except (wpAny_mono ((hb (wTwo X.K c1 c2 ts D) (X.pn ++ pins) (fun e r => wpAny (model X.prog X.w) X.A (noteFrame e X.env) (fun _ r => wpAny (model X.prog X.w) X.A (setFlight e none) (fun _ r => wpAny (model X.prog X.w) X.A
    (handleBy e X.env [.ExceptHandler (some (.Tuple [.Name x1 p1, .Name x2 p2] kk tp)) none (b₀ :: suite) pos']) (SP X pins D) X.xe r) X.xe r) X.xe r) (fun u s' xx => ?_) PassesOwn.looking).run [] s σ H D (I.toTry _) h) (fun f r hr => ?_) fun _ _ z => z)
  · obtain ⟨a, B, sI, pl, τ, G, cls, d, rfl, Jt, nb, up, sky, na, os, ag, mt, wish⟩ := xx
    have J := Jt.ofTry ok (X := X) (pins := pins)
    refine land8 ok L2N.Zn.steady hs hf sky fun g fl up2 => ?_
    obtain ⟨oe, vs, he, hz, hd⟩ := fl.there
    obtain ⟨nL, nF⟩ := off8 hf fl he hd
    have JG : Inv X pins τ G { s' with heap := g } := J.landed nb fl.1 (up.trans up2) os ag
    have S := JG.suite he hd na nL nF
    refine wpAny_handleBy_cons (codeAny_handlers_test (wpAny_Tuple (wpAny_items_cons (name8 S hc1 (wpAny_items_cons (name8 S hc2 (wpAny_items_nil ⟨by size_fits, ?_⟩))))))) (fun q => nomatch q)
    have kp : ∀ q o, g.get? q = some o → (g.push { cls := .type "tuple", data := .seq [c1, c2].toArray }).get? q = some o := fun _ _ z => Heap.get?_push_of_some _ z
    have ty : PySem.W.Looks (model X.prog X.w) (g.push { cls := .type "tuple", data := .seq [c1, c2].toArray }) (typeOf (.ref a)) cls := fun _ _ _ _ k q => wpAny_typeOf_ref (k _ _ (kp _ _ he)) (hz.1.symm ▸ q)
    refine (PySem.W.exm_tup2 (M := model X.prog X.w) (JG.kIn.keeps kp) ty (Heap.get?_push_size g rfl) mt).here (codeAny_handlers_suite (HandSPX.lands_againZ (flyZ_keep kp fl) fun g2 fl2 up3 => ?_))
    obtain ⟨oe, vs, he, hz, hd⟩ := fl2.there
    obtain ⟨nL, nF⟩ := off8 hf fl2 he hd
    have S2 := (J.landed nb fl2.1 (((up.trans up2).trans (Heap.UpToSlots.of_keeps kp)).trans up3) os ag : Inv X pins τ G { s' with heap := g2 }).suite he hd na nL nF
    have tks : Tk (suiteX X a ((a, oe) :: (X.pn ++ pins))) Wout := fun u r x => by
      obtain ⟨b, B, rI, pl, τ, G, cls, d, c, e, Is, rest⟩ := x
      exact tk u r ⟨b, B, rI, pins, τ, G, cls, d, c, e, unsuiteX Is ok, rest⟩
    exact wpAny_mono ((hsu a oe cls d (X.pn ++ pins) hz ⟨vs, hd⟩ tks ⟨(a, oe), ⟨rfl, vs, hd, hz.2.2 vs hd⟩, List.mem_cons_self⟩).run [] _ _ G _ (suiteX_of S2) (wish a na)) (fun f r q => sp_map (fun J6 => unsuiteX J6 ok) q) fun e r z => hpa (some (.ref a)) e r z
  · have hr := sp_map (fun J6 => J6.ofTry ok) hr (X := X) (pins := pins)
    cases f with
    | next => exact wpAny_execs_nil hr
    | _ => exact hr
end
end Sq
namespace Sq
open PySem PySem.Spec PyProof.Rows L2 Evl
section
open L2H
variable {P : Program} {w : World} {K : PySem.W.Frag} {mg : Str → Option Value} {base : Heap}
/-- as Fun.okX, where nothing is handled: the exception's context is None -/
theorem okN {x qual : Str} {st : Stmt} {f : Addr} {fd : FuncData} {N ps : List Str} {k : Nat} {sp : Sp} (F : L2.Fun K x qual st f fd) (S : FnScope N ps (defScope st)) (len : ∀ vs H Q E, sp vs H Q E → vs.length = ps.length)
    (hbody : ∀ (cdv : Value) (A : Around) (outer : List Env) (s : Shared) (H : Hp) (vs : List V) (Q : VK) (E : XK), Room k (A.deeper (envOfC qual (defScope st) s.heap.objs.size f cdv)) → sp vs H Q E →
      ∃ t, PSs (cxOf (L2N.CX P w) P w K mg base N qual (defScope st) f cdv A outer s H E) (defBody st) t ∧ t { nx := fun _ H' => Q .non H', rt := Q } (L2.start N vs) H) : FnOk P w K mg base (L2N.CX P w) (k + 1) f fd ps sp := by
  obtain ⟨oc, od, kV, doc, pm, an, cdv, ct, osl, rfl, lk, hcd⟩ := F.ex
  exact fn_of lk hcd S len fun A outer s H vs Q E hr hsp => hbody cdv A outer s H vs Q E hr hsp
end
section
variable {P : Program} {w : World} {K : PySem.W.Frag} {mg : Str → Option Value} {base : Heap}
theorem okN_check_number (T : Txt K mg) : FnOk P w K mg base (L2N.CX P w) 2 T.a_check_number T.d_check_number ["number", "low", "high"] (spXX rChk (zChk T)) := by
  refine okN T.F_check_number sc_check_number (fun vs H Q E h => ?_) (fun cdv A outer s H vs Q E hr h => ?_)
  · obtain ⟨ds, hv, ⟨F, ⟨x, lo, hi, rfl, _⟩, _⟩ | ⟨C, ⟨x, lo, hi, rfl, _⟩, _⟩⟩ := h <;> exact dpa_len hv
  obtain ⟨ds, hv, ⟨F, ⟨x, lo, hi, rfl, hx, rfl⟩, q⟩ | ⟨C, ⟨x, lo, hi, rfl, hx, rfl⟩, q⟩⟩ := h
  · obtain ⟨v1, v2, v3, rfl, h1, h2, h3⟩ := dpa_three hv
    cases dp_int h2
    cases dp_int h3
    refine ⟨_, (pss_one (ps_if (pt_not (pt_val (pe_call (ok_is_number T) (hr.mono (by decide)) (by rfl) T.g_is_number T.F_is_number.kp T.b_is_number .nil pass0 (pa_cons (pv 0) (pa_cons (pv 1) (pa_cons (pv 2) pa_nil)))))) (pss_one (L2N.ps_raise rfl (L2N.takes_of rfl rfl rfl rfl) (L2N.pmk_own PySem.F.excBase_ValueError T.x_BadNumber T.g_BadNumber T.k_BadNumber (raises_own T.b_BadNumber T.t_BadNumber) (by exact rfl)))) pss_nil)), ?_⟩
    exact s_if (b := false) (et_not (a := true) (dt_B (ed_is (ed_call (ds := [x, .int lo, .int hi]) (da_cons (ed_var rfl h1) (by walk_at "ea")) ⟨_, _, _, rfl, rfl⟩) (by rw [hx])))) (fun z => nomatch z) (fun _ H1 e1 => q _ H1 e1 .non)
  · obtain ⟨v1, v2, v3, rfl, h1, h2, h3⟩ := dpa_three hv
    cases dp_int h2
    cases dp_int h3
    refine ⟨_, (pss_one (ps_if (pt_not (pt_val (pe_call (ok_is_number T) (hr.mono (by decide)) (by rfl) T.g_is_number T.F_is_number.kp T.b_is_number .nil pass0 (pa_cons (pv 0) (pa_cons (pv 1) (pa_cons (pv 2) pa_nil)))))) (pss_one (L2N.ps_raise rfl (L2N.takes_of rfl rfl rfl rfl) (L2N.pmk_own PySem.F.excBase_ValueError T.x_BadNumber T.g_BadNumber T.k_BadNumber (raises_own T.b_BadNumber T.t_BadNumber) (by exact rfl)))) pss_nil)), ?_⟩
    exact s_if (b := true) (et_not (a := false) (dt_B (ed_is (ed_call (ds := [x, .int lo, .int hi]) (da_cons (ed_var rfl h1) (by walk_at "ea")) ⟨_, _, _, rfl, rfl⟩) (by rw [hx])))) (fun _ H1 e1 => q H1 e1) (fun z => nomatch z)
theorem okN_check_parts (T : Txt K mg) : FnOk P w K mg base (L2N.CX P w) 2 T.a_check_parts T.d_check_parts ["number", "parts"] (spXX rPartsC (zPartsC T)) := by
  refine okN T.F_check_parts sc_check_parts (fun vs H Q E h => ?_) (fun cdv A outer s H vs Q E hr h => ?_)
  · obtain ⟨ds, hv, ⟨F, ⟨n, x, rfl, _⟩, _⟩ | ⟨C, ⟨n, x, rfl, _⟩, _⟩⟩ := h <;> exact dpa_len hv
  obtain ⟨ds, hv, ⟨n, x, rfl, b, hx, k⟩⟩ : ∃ ds, RpAll H vs ds ∧ ∃ n x, ds = [PyData.int n, x] ∧ ∃ b : Bool, okParts n x = b ∧ ((b = true ∧ ∀ v H2, Ex H H2 → Rp H2 v .none → Q v H2) ∨ (b = false ∧ ∀ H2, Ex H H2 → E (.ref T.c_BadParts) none H2)) := by
    obtain ⟨ds, hv, ⟨F, ⟨n, x, rfl, hx, rfl⟩, q⟩ | ⟨C, ⟨n, x, rfl, hx, rfl⟩, q⟩⟩ := h
    · exact ⟨_, hv, n, x, rfl, true, hx, .inl ⟨rfl, q⟩⟩
    · exact ⟨_, hv, n, x, rfl, false, hx, .inr ⟨rfl, q⟩⟩
  obtain ⟨v1, v2, rfl, r1, r2⟩ := dpa_two hv
  cases dp_int r1
  refine ⟨_, (pss_cons (ps_if (PW.pt (pw_or (pt_not (pt_val (pe_callB (isiQ (K := K)) (by rfl) T.z_isinstance (by decide +kernel) (pa_cons (pv 1) (pa_cons (pe_bltn (v := .ty "list") (by rfl) T.z_list (by decide +kernel) rfl) pa_nil))))) (pw_or1 (pt_not (pt_chain op_le op_le pe_int (pe_callB (lenQ (K := K)) (by rfl) T.z_len (by decide +kernel) (pa_cons (pv 1) pa_nil)) pe_int))))) (pss_one (L2N.ps_raise rfl (L2N.takes_of rfl rfl rfl rfl) (L2N.pmk_own PySem.F.excBase_ValueError T.x_BadParts T.g_BadParts T.k_BadParts (raises_own T.b_BadParts T.t_BadParts) (by exact rfl)))) pss_nil) (pss_one (ps_if (PW.pt (pw_or (pt_not (pt_val (pe_callB (allQ (K := K) rfl) (by rfl) T.z_all (by decide +kernel) (pa_cons (pe_lc (own := [("part", 2)]) (g := gName 2) rfl sc_check_parts.nd (pilQ (K := K) (pv 1)) (blkOk_by (N := ["number", "parts", "part"]) (sc := defScope s_check_parts) (by decide +kernel)) (fun _ _ _ _ _ => (pg_name (i := 2) sc_check_parts.nd rfl (Or.inl rfl))) (fun _ _ _ _ _ => pts_nil) (fun _ _ _ _ _ => (pe_call (ok_is_number T) (hr.mono (by decide)) (by rfl) T.g_is_number T.F_is_number.kp T.b_is_number .nil pass0 (pa_cons (pv 2) (pa_cons pe_int (pa_cons (pe_glob (v := .int 10000) (by rfl) T.g_GREATEST ⟨_, rfl⟩) pa_nil)))))) pa_nil)))) (pw_or1 (pt_not (pt_val (pe_call (ok_is_sum T) (hr.mono (by decide)) (by rfl) T.g_is_sum T.F_is_sum.kp T.b_is_sum .nil pass0 (pa_cons (pv 1) (pa_cons (pv 0) pa_nil)))))))) (pss_one (L2N.ps_raise rfl (L2N.takes_of rfl rfl rfl rfl) (L2N.pmk_own PySem.F.excBase_ValueError T.x_BadParts T.g_BadParts T.k_BadParts (raises_own T.b_BadParts T.t_BadParts) (by exact rfl)))) pss_nil))), ?_⟩
  have no : b = false → ∀ H1, Ex H H1 → E (.ref T.c_BadParts) none H1 := fun hb => by
    rcases k with ⟨rfl, q⟩ | ⟨rfl, q⟩
    · cases hb
    · exact q
  by_cases ht : ∃ ds, x = .list ds
  · obtain ⟨ds, rfl⟩ := ht
    have hx' : ((decide (1 ≤ (ds.length : Int)) && decide ((ds.length : Int) ≤ 4)) && ((ds.all fun d => isNum d 0 10000) && isSum (intsD ds) n)) = b := hx
    have hlen : EvD (tCB (rLenQ K) (tCons (tVar 1) tNil)) (start ["number", "parts", "part"] [.int n, v2]) H (.int (ds.length : Int)) := ed_len (ed_var rfl r2)
    refine q_when (b := !(decide (1 ≤ (ds.length : Int)) && decide ((ds.length : Int) ≤ 4))) ?_ (fun hb H1 e1 => ?_) fun hb H1 e1 => ?_
    · exact et_or (a := false) (et_not (a := true) (dt_B (ed_isi (ed_var rfl r2) (kit_list _)))) fun _ => et_not (dt_test (ed_chain (f := fun i j => decide (i ≤ j)) (g := fun i j => decide (i ≤ j)) ed_ci hlen fun _ => ed_ci))
    · refine no ?_ H1 e1
      rw [← hx']
      cases hc : (decide (1 ≤ (ds.length : Int)) && decide ((ds.length : Int) ≤ 4)) with
      | true =>
        rw [hc] at hb
        cases hb
      | false => rfl
    have hc : (decide (1 ≤ (ds.length : Int)) && decide ((ds.length : Int) ≤ 4)) = true := by
      cases hc : (decide (1 ≤ (ds.length : Int)) && decide ((ds.length : Int) ≤ 4)) with
      | true => rfl
      | false =>
        rw [hc] at hb
        cases hb
    rw [hc, Bool.true_and] at hx'
    have hl4 := of_decide_eq_true (Bool.and_eq_true_iff.mp hc).2
    refine s_if (b := !b) ?_ (fun hb2 H2 e2 => ?_) fun hb2 H2 e2 => ?_
    · have eall : EvT (tB (tCB (rAll K) (tCons (tLc (iList K (tVar 1)) (gName 2) tYes (tCall (spR rIsNum) [] E0 (tCons (tVar 2) (tCons (tC (.int 0)) (tCons (tC (.int 10000)) tNil)))) [2]) tNil))) (start ["number", "parts", "part"] [.int n, v2]) H1 (ds.all fun d => isNum d 0 10000) := by
        refine dt_B (ed_is (ed_all (ed_lcL (fun d => .bool (isNum d 0 10000)) (ed_var rfl (dp_mono e1 r2)) (by omega) (by intro _; rfl) ?_ (fun _ _ => rfl)) (bls_num 0 10000 ds)) (by rw [all_num]))
        intro v d H2 e2 hm rd
        exact ed_call (ds := [d, .int 0, .int 10000]) (da_cons (ed_var rfl rd) (by walk_at "ea")) ⟨_, _, _, rfl, rfl⟩
      cases ha : ds.all fun d => isNum d 0 10000 with
      | false =>
        rw [ha] at eall hx'
        rw [← hx']
        exact et_or (a := true) (b := false) (et_not (a := false) eall) fun z => nomatch z
      | true =>
        rw [ha] at eall hx'
        obtain ⟨ns, rfl, hbn⟩ := num_ints (.inr trivial) ha
        rw [ints_map] at hx'
        rw [← hx']
        rw [List.length_map] at hl4
        refine et_or (a := false) (b := !(isSum ns n)) (et_not (a := true) eall) fun _ => et_not (dt_B (ed_call (ds := [.list (ns.map .int), .int n]) (da_cons (ed_var rfl (dp_mono e1 r2)) (by walk_at "ea")) ⟨ns, n, rfl, by omega, fun x hx => by have := hbn x hx; omega, rfl⟩))
    · refine no ?_ H2 (e1.trans e2)
      cases b with
      | false => rfl
      | true => cases hb2
    · rcases k with ⟨rfl, q⟩ | ⟨rfl, q⟩
      · exact q _ H2 (e1.trans e2) .non
      · cases hb2
  · have hb : b = false := by
      rw [← hx]
      cases x with
      | list ds => exact absurd ⟨ds, rfl⟩ ht
      | _ => rfl
    refine q_when (b := true) ?_ (fun _ H1 e1 => no hb H1 e1) fun z => nomatch z
    exact et_or (a := true) (b := false) (et_not (a := false) (dt_B (ed_is (ed_isi (ed_var rfl r2) (kit_list _)) (by rw [not_list ht])))) fun z => nomatch z
end
end Sq
namespace Sq
open PySem PySem.Spec PyProof.Rows L2 Evl
section
variable {P : Program} {w : World} {K : PySem.W.Frag} {mg : Str → Option Value} {base : Heap}
theorem okN_number_in (T : Txt K mg) : FnOk P w K mg base (L2N.CX P w) 1 T.a_number_in T.d_number_in ["text"] (spXX rNumIn (zNumIn T)) := by
  refine okN T.F_number_in sc_number_in (fun vs H Q E h => ?_) (fun cdv A outer s H vs Q E hr h => ?_)
  · obtain ⟨ds, hv, ⟨F, ⟨x, n, rfl, _⟩, _⟩ | ⟨C, ⟨x, rfl, _⟩, _⟩⟩ := h <;> exact dpa_len hv
  obtain ⟨ds, hv, ⟨x, rfl, hx, k⟩⟩ : ∃ ds, RpAll H vs ds ∧ ∃ x : Str, ds = [.str x] ∧ x.length ≤ 10000 ∧ ((∃ n, okCount x = true ∧ intText? x = some n ∧ ∀ v H2, Ex H H2 → Rp H2 v (.int n) → Q v H2) ∨ (okCount x = false ∧ ∀ H2, Ex H H2 → E (.ref T.c_BadText) none H2)) := by
    obtain ⟨ds, hv, ⟨F, ⟨x, n, rfl, hx, hc, rfl⟩, q⟩ | ⟨C, ⟨x, rfl, hx, hc, rfl⟩, q⟩⟩ := h
    · obtain ⟨_, _, _, ho⟩ := cnt_some hc
      obtain ⟨i, h1, h2⟩ := cnt_ok ho
      rw [h1] at hc
      cases hc
      exact ⟨_, hv, x, rfl, hx, .inl ⟨_, ho, h2, q⟩⟩
    · exact ⟨_, hv, x, rfl, hx, .inr ⟨cnt_iff hc, q⟩⟩
  obtain ⟨v1, rfl, h1⟩ := dpa_one hv
  cases dp_str h1
  have hsz : (10000 : Nat) ≤ sizeLine := by rw [sizeLine_eq]; decide
  refine ⟨_, (pss_cons (ps_if (PW.pt (pw_or (pt_not (pt_chain op_le op_le pe_int (pe_callB call_len_str (by rfl) T.z_len (by decide +kernel) (pa_cons (pv 0) pa_nil)) pe_int)) (pw_or (pt_cmpR op_neS (pe_m1 PySem.F.slot_str_strip PySem.F.type_str_strip mt_stripChars (pv 0) (pe_glob (v := .str (PySem.Str.ofString "0123456789")) (by rfl) T.g_FIGURES ⟨_, rfl⟩)) pe_str (nomark _)) (pw_or1 (PW.pt (pw_and (pt_cmpR op_eqS (pe_ix ix_str (pv 0) pe_int (fun _ _ => rfl)) pe_str (nomark _)) (pw_and1 (pt_cmpR op_neS (pv 0) pe_str (nomark _))))))))) (pss_one (L2N.ps_raise rfl (L2N.takes_of rfl rfl rfl rfl) (L2N.pmk_own PySem.F.excBase_ValueError T.x_BadText T.g_BadText T.k_BadText (raises_own T.b_BadText T.t_BadText) (by exact rfl)))) pss_nil) (pss_one (ps_ret (pe_callTy call_int_str (by rfl) T.z_int (by decide +kernel) (pa_cons (pv 0) pa_nil))))), ?_⟩
  refine q_when (b := !okCount x) ?_ (fun hb H1 e1 => ?_) (fun hb H1 e1 => ?_)
  · exact count_test (ed_var rfl (.str x)) (by omega)
  · rcases k with ⟨n, ho, _, _⟩ | ⟨_, q⟩
    · rw [ho] at hb
      cases hb
    · exact q H1 e1
  · rcases k with ⟨n, ho, hi, q⟩ | ⟨ho, _⟩
    · refine s_retD (ed_intS (ed_var rfl (.str _)) hi ?_) fun v H2 e2 hv => q v H2 (e1.trans e2) hv
      have := of_decide_eq_true (Bool.and_eq_true_iff.mp (Bool.and_eq_true_iff.mp ho).1).2
      omega
    · rw [ho] at hb
      cases hb
end
end Sq
namespace Sq
section
/-- p.append(e), p a list that grows -/
theorem s_appG {K : PySem.W.Frag} {σ : L2.St} {H : Hp} {ta te : TE} {D : Ends} {p : Addr} {ds : List PyData} {d : PyData} (hp : Grows H p ds) (ha : Ev ta σ H (.ref p)) (h : EvD te σ H d) (hn : noL d = true) (hz : ds.length < 100000)
    (k : ∀ H2, Grows H2 p (ds ++ [d]) → (∀ B, Ex B H → B p = none → Ex B H2) → D.nx σ H2) : tDrop (tBM K "list" rAppend ta (tCons te tNil)) D σ H := ha H (Ex.refl H) _ fun H1 e1 => by
  obtain ⟨xs, h1, h2⟩ := hp.ex e1
  refine ⟨Or.inl ⟨rfl, xs, sq_of h1⟩, h H1 e1 _ fun v H2 e2 rv => ?_⟩
  obtain ⟨xs2, h3, h4⟩ := (hp.ex e1).ex e2
  have exs : xs2 = xs := by
    have e := (e2 _ _ h1).symm.trans h3
    injection e with e
    injection e with e
    exact e.symm
  subst exs
  refine ⟨p, xs2, v, rfl, rfl, h3, by rw [dpa_len h4]; exact sz_lt hz, k _ ⟨xs2 ++ [v], upd_same, ?_⟩ fun B eB hB => Ex.mut ((eB.trans e1).trans e2) hB⟩
  rw [off_upd]
  exact dpa_app h4 (.cons (rp_off h3 rv hn) .nil)
theorem q_appG {K : PySem.W.Frag} {σ : L2.St} {H : Hp} {ta te : TE} {D : Ends} {tz : TS} {p : Addr} {ds : List PyData} {d : PyData} (hp : Grows H p ds) (ha : Ev ta σ H (.ref p)) (h : EvD te σ H d) (hn : noL d = true) (hz : ds.length < 100000)
    (k : ∀ H2, Grows H2 p (ds ++ [d]) → (∀ B, Ex B H → B p = none → Ex B H2) → tz D σ H2) : tSeq (tDrop (tBM K "list" rAppend ta (tCons te tNil))) tz D σ H := s_appG (D := { D with nx := tz D }) hp ha h hn hz k
end
end Sq
namespace Sq
open PySem PySem.Spec PyProof.Rows L2 Evl
section
variable {K : PySem.W.Frag} {σ : L2.St} {H H' : Hp} {ta tb tc te : TE} {D : Ends} {tu tw tz : TS} {g : TG} {t : TT} {d : PyData} {C : Addr}
theorem exS_call {E : L2.St → XK} {R : List PyData → (V → Hp → Prop) → Prop} {Z : List PyData → Addr → Prop} {u : TA} {ds : List PyData} {F : V → Hp → Prop} (h : EvDA u σ H ds) (hR : R ds F) : EvX (tCallS (spXX R Z) E u) σ H F := fun H1 e _ q =>
  h H1 e _ fun vs H2 e2 hv => ⟨ds, hv, .inl ⟨F, hR, fun v H3 e3 hd => q v H3 (e2.trans e3) hd⟩⟩
theorem efS_call {E : L2.St → XK} {R : List PyData → (V → Hp → Prop) → Prop} {Z : List PyData → Addr → Prop} {u : TA} {ds : List PyData} (h : EvDA u σ H ds) (hZ : Z ds C) : EvF (tCallS (spXX R Z) E u) σ H (E σ) C := fun H1 e k Q =>
  h H1 e _ fun vs H2 e2 hv => ⟨ds, hv, .inr ⟨C, hZ, fun H3 e3 => k H3 (e2.trans e3)⟩⟩
theorem q_asgF {E : XK} (h : EvF te σ H E C) (k : ∀ H2, Ex H H2 → E (.ref C) none H2) : tSeq (tAsg te g) tz D σ H := h H (Ex.refl H) k _
theorem q_dropX8 {F : V → Hp → Prop} (h : EvX te σ H F) (k : ∀ v H1, Ex H H1 → F v H1 → tz D σ H1) : tSeq (tDrop te) tz D σ H := h H (Ex.refl H) _ k
theorem s_dropX8 {F : V → Hp → Prop} (h : EvX te σ H F) (k : ∀ v H1, Ex H H1 → F v H1 → D.nx σ H1) : tDrop te D σ H := h H (Ex.refl H) _ k
/-- xs.append(e), e refused -/
theorem s_appF {E : XK} {a : Addr} {xs : List V} (hl : H a = some (.lst xs)) (ha : Ev ta σ H (.ref a)) (h : EvF te σ H E C) (k : ∀ H2, Ex H H2 → E (.ref C) none H2) : tDrop (tBM K "list" rAppend ta (tCons te tNil)) D σ H := ha H (Ex.refl H) _ fun H1 e1 =>
  ⟨Or.inl ⟨rfl, xs, sq_of (e1 a _ hl)⟩, h H1 e1 (fun H2 e2 => k H2 (e1.trans e2)) _⟩
theorem q_asgNil {i : Nat} (k : ∀ p, H p = none → tz D (σ.set i (some (.ref p))) (upd H p (.lst []))) : tSeq (tAsg (tLst tNil) (gName i)) tz D σ H := ⟨Nat.zero_le _, k⟩
/-- for w in ws, ws texts, while the list at p grows -/
theorem s_forSG {tl : TE} {ws : List Str} {p : Addr} (hp : Grows H p []) (h : EvD tl σ H (.list (ws.map .str))) (hw : ws ≠ []) (I : Nat → L2.St → Hp → Prop) (h0 : ∀ H1, Ex H H1 → I 0 σ H1)
    (hs : ∀ i w σ' H' (N : L2.St → Hp → Prop), ws[i]? = some w → I i σ' H' → (∀ s' h', I (i + 1) s' h' → (∀ B, Ex B H' → B p = none → Ex B h') → N s' h') → g (.str w) σ' H' fun σ2 H2 => tu { D with nx := N, ct := N, bk := D.nx } σ2 H2)
    (hd : ∀ σ' H', I ws.length σ' H' → D.nx σ' H') : tFor (iList K tl) g tu D σ H := h H (Ex.refl H) _ fun v H1 e hv => by
  obtain ⟨a, xs, rfl, hs1, hx⟩ := dp_list hv
  have ex := dpa_strs hx
  subst ex
  have hap : a ≠ p := fun z => by
    obtain ⟨ys, h1, h2⟩ := hp
    cases h2
    have h3 := e _ _ h1
    rw [← z, hs1] at h3
    cases ws with
    | nil => exact hw rfl
    | cons w r => cases h3
  refine ⟨a, rfl, ⟨_, SqL.of hs1⟩, ?_⟩
  refine for_list (xs := ws.map V.str) (fun i σ' H' => H' a = some (.lst (ws.map V.str)) ∧ I i σ' H') ⟨hs1, h0 H1 e⟩ (fun i σ' H' _ P => SqL.of P.1) (fun i x σ' H' hi P => ?_) (fun σ' H' P => ?_)
  · rw [List.getElem?_map] at hi
    cases hy : ws[i]? with
    | none =>
      rw [hy] at hi
      cases hi
    | some w =>
      rw [hy] at hi
      cases hi
      exact hs i w σ' H' _ hy P.2 fun s' h' i' k => ⟨k (offH H' p) off_ex off_same a _ ((off_ne hap).trans P.1), i'⟩
  · have P' : I (ws.map V.str).length σ' H' := P.2
    rw [List.length_map] at P'
    exact hd σ' H' P'
theorem q_forSG {tl : TE} {ws : List Str} {p : Addr} (hp : Grows H p []) (h : EvD tl σ H (.list (ws.map .str))) (hw : ws ≠ []) (I : Nat → L2.St → Hp → Prop) (h0 : ∀ H1, Ex H H1 → I 0 σ H1)
    (hs : ∀ i w σ' H' (N : L2.St → Hp → Prop), ws[i]? = some w → I i σ' H' → (∀ s' h', I (i + 1) s' h' → (∀ B, Ex B H' → B p = none → Ex B h') → N s' h') → g (.str w) σ' H' fun σ2 H2 => tu { D with nx := N, ct := N, bk := tz D } σ2 H2)
    (hd : ∀ σ' H', I ws.length σ' H' → tz D σ' H') : tSeq (tFor (iList K tl) g tu) tz D σ H := s_forSG (D := { D with nx := tz D }) hp h hw I h0 hs hd
theorem exm_two {cls c1 c2 : Value} {b1 b2 : Bool} (h1 : PySem.W.exmOne K cls c1 = some b1) (h2 : PySem.W.exmOne K cls c2 = some b2) : PySem.W.exmAny K cls [c1, c2] = some (b1 || (b2 || false)) := by
  unfold PySem.W.exmAny PySem.W.exmAny PySem.W.exmAny
  rw [h1, h2]
end
/-! #### a text that is none -/
theorem nums_snoc : ∀ {l : List Str} {w : Str} {ps : List Int} {i : Int}, numsT l = some ps → hasSq w = true → cnt (stem w) = some i → numsT (l ++ [w]) = some (ps ++ [i])
  | [], w, ps, i, h, hw, hc => by
    cases h
    show (if hasSq w = true then (match cnt (stem w), numsT [] with
      | some i, some l => some (i :: l)
      | _, _ => none) else none) = _
    rw [if_pos hw, hc]
    rfl
  | v :: r, w, ps, i, h, hw, hc => by
    unfold numsT at h
    by_cases q : hasSq v = true
    · rw [if_pos q] at h
      split at h
      · rename_i j l h1 h2
        cases h
        have g := nums_snoc h2 hw hc
        show (if hasSq v = true then (match cnt (stem v), numsT (r ++ [w]) with
          | some i, some l => some (i :: l)
          | _, _ => none) else none) = _
        rw [if_pos q, h1, g]
        rfl
      · cases h
    · rw [if_neg q] at h
      cases h
theorem nums_bad : ∀ {ws : List Str} {w : Str}, w ∈ ws → (hasSq w = false ∨ cnt (stem w) = none) → numsT ws = none
  | v :: r, w, hm, hb => by
    unfold numsT
    by_cases q : hasSq v = true
    · rw [if_pos q]
      rcases List.mem_cons.mp hm with rfl | hm
      · rcases hb with hb | hb
        · rw [q] at hb
          cases hb
        · rw [hb]
      · rw [nums_bad hm hb]
        cases cnt (stem v) <;> rfl
    · rw [if_neg q]
theorem in_mid {x : Str} (h : midT x = Str.empty) : inT x = none := by
  unfold inT
  rw [if_pos h]
theorem in_head {x : Str} (h : cnt (headT x) = none) : inT x = none := by
  unfold inT
  rw [h]
  split <;> rfl
theorem in_nums {x : Str} (h : numsT (wordsT x) = none) : inT x = none := by
  unfold inT
  rw [h]
  split
  · rfl
  · cases cnt (headT x) <;> rfl
theorem str_of {d : PyData} (h : isi_str d = true) : ∃ x, d = .str x := by
  cases d with
  | str x => exact ⟨x, rfl⟩
  | _ => cases h
section
variable {P : Program} {w : World} {K : PySem.W.Frag} {mg : Str → Option Value} {base : Heap}
def spRead (T : Txt K mg) : Sp := fun vs H Q E => ∃ v d, vs = [v] ∧ Rp H v d ∧ ((isi_str d = false ∧ ∀ H2, Ex H H2 → E (.ref T.c_BadText) none H2) ∨ ∃ x : Str, d = .str x ∧ x.length ≤ 10000 ∧ (inT x = none → ∀ H2, Ex H H2 → E (.ref T.c_BadText) none H2) ∧
  ∀ n ps, inT x = some (n, ps) → ∀ a p H2, Ex H H2 → H a = none → H p = none → H2 a = some (.tup [.int n, .ref p]) → Grows H2 p (ps.map .int) → Q (.ref a) H2)
theorem okk_read (T : Txt K mg) : FnOk P w K mg base (CXk P w) 3 T.a_read T.d_read ["text"] (spRead T) := by
  refine okK T.F_read sc_read (fun vs H Q E h => ?_) (fun cdv A outer s H vs Q E hr h => ?_)
  · obtain ⟨v, d, rfl, _⟩ := h
    rfl
  obtain ⟨v, d, rfl, hv, k⟩ := h
  refine ⟨_, (pss_cons (ps_if (pt_not (pt_val (pe_callB (isiQ (K := K)) (by rfl) T.z_isinstance (by decide +kernel) (pa_cons (pv 0) (pa_cons (pe_bltn (v := .ty "str") (by rfl) T.z_str (by decide +kernel) rfl) pa_nil))))) (pss_one (psk_raise rfl (tk_of rfl rfl rfl rfl) (L2N.pmk_own PySem.F.excBase_ValueError T.x_BadText T.g_BadText T.k_BadText (raises_own T.b_BadText T.t_BadText) (by exact rfl)))) pss_nil) (pss_cons (ps_asg (pe_partition (pv 0) pe_str) (pg_tup rfl (pgs_cons (pg_name (i := 1) sc_read.nd rfl (Or.inl rfl)) (pgs_cons (pg_name (i := 2) sc_read.nd rfl (Or.inl rfl)) (pgs_cons (pg_name (i := 3) sc_read.nd rfl (Or.inl rfl)) pgs_nil))))) (pss_cons (ps_if (pt_cmpR op_eqS (pv 2) pe_str (nomark _)) (pss_one (psk_raise rfl (tk_of rfl rfl rfl rfl) (L2N.pmk_own PySem.F.excBase_ValueError T.x_BadText T.g_BadText T.k_BadText (raises_own T.b_BadText T.t_BadText) (by exact rfl)))) pss_nil) (pss_cons (ps_set (i := 4) sc_read.nd rfl (Or.inl rfl) (pe_call (fnk_of_N (okN_number_in T)) (hr.mono (by decide)) (by rfl) T.g_number_in T.F_number_in.kp T.b_number_in .nil (passk_call (tk_of rfl rfl rfl rfl) (fun _ _ _ _ h => h)) (pa_cons (pv 1) pa_nil))) (pss_cons (ps_set (i := 5) sc_read.nd rfl (Or.inl rfl) (pe_lst pa_nil)) (pss_cons (ps_for (passes_of rfl) rfl (pilQ (K := K) (pe_split (pv 3) pe_str)) (pg_name (i := 6) sc_read.nd rfl (Or.inl rfl)) (pss_cons (ps_if (pt_not (pt_val (pe_m1 PySem.F.slot_str_endswith PySem.F.type_str_endswith mt_endswith (pv 6) pe_str))) (pss_one (psk_raise rfl (tk_of rfl rfl rfl rfl) (L2N.pmk_own PySem.F.excBase_ValueError T.x_BadText T.g_BadText T.k_BadText (raises_own T.b_BadText T.t_BadText) (by exact rfl)))) pss_nil) (pss_one (ps_expr (pe_bm PySem.F.plainAttrs_list PySem.F.slot_list_append PySem.F.type_list_append mt_append (pv 5) (pa_cons (pe_call (fnk_of_N (okN_number_in T)) (hr.mono (by decide)) (by rfl) T.g_number_in T.F_number_in.kp T.b_number_in .nil (passk_call (tk_of rfl rfl rfl rfl) (fun _ _ _ _ h => h)) (pa_cons (pe_slice sl_str (pv 6) po_none (po_some (pe_un un_neg pe_int))) pa_nil)) pa_nil)))))) (pss_cons (ps_try_two (c1 := .ref T.c_BadNumber) (c2 := .ref T.c_BadParts) (Wout := fun cls d _ H => E cls d H)
      (tb := fun W => tSeq (tDrop (tCallS (spXX rChk (zChk T)) (WE W) (tCons (tVar 4) (tCons (tC (.int 0)) (tCons (tC (.int 10000)) tNil))))) (tDrop (tCallS (spXX rPartsC (zPartsC T)) (WE W) (tCons (tVar 4) (tCons (tVar 5) tNil)))))
      (ts := fun _ _ _ _ _ H => E (.ref T.c_BadText) none H)
      rfl rfl ⟨by rfl, by decide +kernel, .inl T.g_BadNumber⟩ ⟨by rfl, by decide +kernel, .inl T.g_BadParts⟩ (fun hd => L2H.passesAt_of rfl hd) (tk_of rfl rfl rfl rfl)
      (fun W pn xe tk po => pss_cons (ps_expr (pe_callS (okN_check_number T) (hr.mono (by decide)) (by rfl) T.g_check_number T.F_check_number.kp T.b_check_number (fun σ => L2N.passAt tk σ) (pa_cons (pv 4) (pa_cons pe_int (pa_cons (pe_glob (v := .int 10000) (by rfl) T.g_GREATEST ⟨_, rfl⟩) pa_nil)))))
        (pss_one (ps_expr (pe_callS (okN_check_parts T) (hr.mono (by decide)) (by rfl) T.g_check_parts T.F_check_parts.kp T.b_check_parts (fun σ => L2N.passAt tk σ) (pa_cons (pv 4) (pa_cons (pv 5) pa_nil))))))
      (fun a oe cls d pn hz hf tkS hot => pss_one (psk_raiseH hot tkS (L2N.pmk_own PySem.F.excBase_ValueError T.x_BadText T.g_BadText T.k_BadText (raises_own T.b_BadText T.t_BadText) (by exact rfl))))) (pss_one (ps_ret (pe_tup (pa_cons (pv 4) (pa_cons (pv 5) pa_nil)))))))))))), ?_⟩
  rcases k with ⟨hd, no⟩ | ⟨x, rfl, hx, no, yes⟩
  · exact q_when (b := true) (et_not (a := false) (dt_B (ed_is (ed_isi (ed_var rfl hv) (kit_str _)) (by rw [hd])))) (fun _ H1 e1 => no H1 e1) fun z => nomatch z
  cases dp_str hv
  have hsz : (20000 : Nat) ≤ sizeLine := by rw [sizeLine_eq]; decide
  obtain ⟨lh, lt⟩ := head_tail_len x
  have lw := words_len x
  refine q_when (b := false) (et_not (a := true) (dt_B (ed_isi (ed_var rfl hv) (kit_str _)))) (fun z => nomatch z) fun _ H1 e1 => ?_
  refine q_unp (d := .tuple [.str (headT x), .str (midT x), .str (tailT x)]) (ed_part (b := eqS) (ed_var rfl (.str x)) ed_cs (by decide +kernel) (by omega)) fun v H2 e2 rv => g_unp3 rv fun u1 u2 u3 r1 r2 r3 => ?_
  cases dp_str r1
  cases dp_str r2
  cases dp_str r3
  refine q_when (b := decide (midT x = ("" : Str))) (dt_test (ed_eqS (ed_var rfl (.str _)) ed_cs)) (fun hb H3 e3 => no (in_mid ((of_decide_eq_true hb).trans no_text)) H3 ((e1.trans e2).trans e3)) fun hb H3 e3 => ?_
  have f1 : midT x ≠ Str.empty := fun e => of_decide_eq_false hb (e.trans no_text.symm)
  have e03 := (e1.trans e2).trans e3
  cases hc : cnt (headT x) with
  | none => exact q_asgF (ef_call (ds := [.str (headT x)]) (da_cons (ed_var rfl (.str _)) da_nil) ⟨_, rfl, by omega, hc, rfl⟩) fun H4 e4 => no (in_head hc) H4 (e03.trans e4)
  | some n =>
    refine q_asgX (ex_callXX (ds := [.str (headT x)]) (da_cons (ed_var rfl (.str _)) da_nil) ⟨_, n, rfl, by omega, hc, rfl⟩) fun v4 H4 e4 r4 => ?_
    cases dp_int r4
    refine q_asgNil fun p hp => ?_
    have e05 : Ex H (upd H4 p (.lst [])) := (e03.trans e4).trans (Ex.new hp)
    have hp0 : H p = none := fresh_back (e03.trans e4) hp
    refine q_forSG (p := p) (ws := wordsT x) Grows.nil (ed_spl (b := plS) (ed_var rfl (.str (tailT x))) ed_cs (by decide +kernel) (by omega)) (words_ne x)
      (fun i s' h' => ∃ y ps, s' = [some (.str x), some (.str (headT x)), some (.str (midT x)), some (.str (tailT x)), some (.int n), some (.ref p), y] ∧ numsT ((wordsT x).take i) = some ps ∧ Grows h' p (ps.map .int) ∧ Ex H h') (fun H6 e6 => ⟨_, [], rfl, rfl, Grows.nil.ex e6, e05.trans e6⟩) ?_ ?_
    · rintro i w _ H6 N hi ⟨y, ps, rfl, hps, gr, e6⟩ next
      have hm : w ∈ wordsT x := List.mem_of_getElem? hi
      have hil : i < (wordsT x).length := (List.getElem?_eq_some_iff.mp hi).1
      have := word_len hm
      have := stem_len w
      refine q_when (b := !hasSq w) (et_not (a := hasSq w) (dt_B (ed_is (ed_ends (b := sqS) (ed_var rfl (.str w)) ed_cs) (by rw [ends_sq])))) (fun hb H7 e7 => no (in_nums (nums_bad hm (.inl ?_))) H7 (e6.trans e7)) fun hb H7 e7 => ?_
      · cases h : hasSq w with
        | false => rfl
        | true =>
          rw [h] at hb
          cases hb
      have hq : hasSq w = true := by
        cases h : hasSq w with
        | true => rfl
        | false =>
          rw [h] at hb
          cases hb
      cases hcw : cnt (stem w) with
      | none =>
        obtain ⟨xs, hxs, _⟩ := gr.ex e7
        exact s_appF hxs (ev_var rfl) (ef_call (ds := [.str (stem w)]) (da_cons (ed_slS (ed_var rfl (.str w)) eo_none (eo_some (ev_int (ed_neg ed_ci))) (by omega)) da_nil) ⟨_, rfl, by omega, hcw, rfl⟩) fun H8 e8 => no (in_nums (nums_bad hm (.inr hcw))) H8 ((e6.trans e7).trans e8)
      | some j =>
        have lps := (numsT_some hps).2.2
        rw [List.length_take] at lps
        refine s_appG (gr.ex e7) (ev_var rfl) (ed_callXX (d := .int j) (ds := [.str (stem w)]) (da_cons (ed_slS (ed_var rfl (.str w)) eo_none (eo_some (ev_int (ed_neg ed_ci))) (by omega)) da_nil) ⟨_, j, rfl, by omega, hcw, rfl⟩) rfl (by rw [List.length_map]; omega) fun H8 g8 k8 => ?_
        refine next _ _ ⟨_, ps ++ [j], rfl, ?_, ?_, k8 H (e6.trans e7) hp0⟩ fun B eB hB => k8 B (eB.trans e7) hB
        · rw [List.take_add_one, hi]
          exact nums_snoc hps hq hcw
        · rw [List.map_append]
          exact g8
    · rintro _ H6 ⟨y, ps, rfl, hps, gr, e6⟩
      rw [List.take_length] at hps
      obtain ⟨_, hb3, hln⟩ := numsT_some hps
      have hwl := List.length_pos_iff.mpr (words_ne x)
      have hne : ps ≠ [] := fun e => by
        rw [e] at hln
        rw [← hln] at hwl
        exact absurd hwl (by decide)
      obtain ⟨_, n0, n5, _⟩ := cnt_some hc
      have M1 : PySem.W.exmAny K (.ref T.c_BadNumber) [.ref T.c_BadNumber, .ref T.c_BadParts] = some true := exm_two (b1 := true) (b2 := false) (PySem.W.exm_ref T.b_BadNumber T.d_BadNumber T.t_BadNumber T.y_BadNumber_BadNumber) (PySem.W.exm_ref T.b_BadParts T.d_BadParts T.t_BadParts T.y_BadNumber_BadParts)
      have M2 : PySem.W.exmAny K (.ref T.c_BadParts) [.ref T.c_BadNumber, .ref T.c_BadParts] = some true := exm_two (b1 := false) (b2 := true) (PySem.W.exm_ref T.b_BadNumber T.d_BadNumber T.t_BadNumber T.y_BadParts_BadNumber) (PySem.W.exm_ref T.b_BadParts T.d_BadParts T.t_BadParts T.y_BadParts_BadParts)
      have hin := in_calc f1 hc hps
      show tSeq (tDrop (tCallS (spXX rChk (zChk T)) (WE _) _)) (tDrop (tCallS (spXX rPartsC (zPartsC T)) (WE _) _)) _ _ _
      have EN : EvDA (tCons (tVar 4) (tCons (tC (.int 0)) (tCons (tC (.int 10000)) tNil))) [some (.str x), some (.str (headT x)), some (.str (midT x)), some (.str (tailT x)), some (.int n), some (.ref p), y] H6 [.int n, .int 0, .int 10000] := da_cons (ed_var rfl (.int n)) (da_cons ed_ci (da_cons ed_ci da_nil))
      by_cases hn : n ≤ 10000
      · refine q_dropX8 (exS_call EN ⟨.int n, 0, 10000, rfl, isNum_ok ⟨n0, hn⟩, rfl⟩) fun _ H7 e7 _ => ?_
        have EP : EvDA (tCons (tVar 4) (tCons (tVar 5) tNil)) [some (.str x), some (.str (headT x)), some (.str (midT x)), some (.str (tailT x)), some (.int n), some (.ref p), y] H7 [.int n, .list (ps.map .int)] := da_cons (ed_var rfl (.int n)) (da_cons (ed_var rfl (gr.ex e7).rp) da_nil)
        have pf := parts_fit hb3 hne hn
        cases hf : fits n ps with
        | true =>
          rw [hf] at pf
          rw [if_pos hf] at hin
          refine s_dropX8 (exS_call EP ⟨n, _, rfl, pf, rfl⟩) fun _ H8 e8 _ => ?_
          exact ⟨_, rfl, _, rfl, le_lit rfl, fun a ha => yes n ps hin a p _ (((e6.trans e7).trans e8).trans (Ex.new ha)) (fresh_back ((e6.trans e7).trans e8) ha) hp0 upd_same (((gr.ex e7).ex e8).ex (Ex.new ha))⟩
        | false =>
          rw [hf] at pf
          rw [hf, if_neg (by decide)] at hin
          exact s_dropF (efS_call EP ⟨n, _, rfl, pf, rfl⟩) fun H8 e8 => ⟨M2, fun a _ => no hin H8 ((e6.trans e7).trans e8)⟩
      · have hfn : fits n ps = false := by
          unfold fits
          rw [decide_eq_false hn, Bool.and_false, Bool.and_false]
        rw [hfn, if_neg (by decide)] at hin
        refine q_dropF (efS_call EN ⟨.int n, 0, 10000, rfl, ?_, rfl⟩) fun H8 e8 => ⟨M1, fun a _ => no hin H8 (e6.trans e8)⟩
        show (decide (0 ≤ n) && decide (n ≤ 10000)) = false
        rw [decide_eq_false hn, Bool.and_false]
end
end Sq
namespace Sq
open PySem PySem.Spec PyProof.Rows L2 Evl
section
open L2H HotX
/-! #### any(..) in a suite whose exception was itself raised in a suite -/
def Chain (A : Around) (x1 x2 : Addr) (h : Heap) : Prop := A.handled = some (.ref x1) ∧ ∃ (o : Obj) (vs : Array Value), h.get? x1 = some o ∧ o.data = .fields vs ∧ (vs[2]? = some .none ∨ (vs[2]? = some (.ref x2) ∧ ∃ (o2 : Obj) (ws : Array Value), h.get? x2 = some o2 ∧ o2.data = .fields ws ∧ ws[2]? = some .none))
theorem Chain.keep {A : Around} {x1 x2 : Addr} {h h' : Heap} (x : Chain A x1 x2 h) (k1 : ∀ o, h.get? x1 = some o → h'.get? x1 = some o) (k2 : ∀ o, h.get? x2 = some o → h'.get? x2 = some o) : Chain A x1 x2 h' := by
  obtain ⟨hh, o, vs, h1, d1, c⟩ := x
  refine ⟨hh, o, vs, k1 _ h1, d1, ?_⟩
  rcases c with c | ⟨c, o2, ws, h2, d2, c2⟩
  · exact .inl c
  · exact .inr ⟨c, o2, ws, k2 _ h2, d2, c2⟩
theorem plain_unchain : plainId "proto.unchain" = true := by kernel_rfl
section
variable {prog : Program} {w : World} {A : Around} {E : Value → Shared → Prop} {s : Shared}
theorem unchained2 {x1 x2 a : Addr} {Q : Value → Shared → Prop} (hot : Chain A x1 x2 s.heap) (n2 : x2 ≠ a) (q : Q .none s) :
    wpAny (model prog w) A (holding [Value.ref a] (runValue (.builtin "proto.unchain" ⟨[.ref a, .ref x1, .ref x1, .bool false], []⟩))) Q E s := by
  obtain ⟨hh, o, vs, h1, d1, c⟩ := hot
  rcases c with c | ⟨c, o2, ws, h2, d2, c2⟩
  · exact unchained h1 d1 c q
  · refine wpAny_holding (wpAny_runValue (codeAny_builtin entry_unchain ?_))
    show wpAny _ _ (field (.ref x1) 2 >>= _) _ _ s
    refine wpAny_bind (wpAny_field h1 d1 c ?_)
    have b1 : (Value.ref x2 == Value.none) = false := rfl
    have b2 : (Value.ref x2 == Value.ref a) = false := by
      have := ref_bne n2
      rw [bne] at this
      exact (Bool.not_eq_true' _).mp this
    have f1 : ¬ ((Value.ref x2 == Value.none) = true) := by rw [b1]; exact Bool.false_ne_true
    have f2 : ¬ ((Value.ref x2 == Value.ref a) = true) := by rw [b2]; exact Bool.false_ne_true
    rw [if_neg f1, if_neg f2]
    by_cases b3 : (Value.ref x2 == Value.ref x1) = true
    · rw [if_pos b3]
      exact wpAny_bind (wpAny_rule (wpAny_pure q))
    · rw [if_neg b3]
      show wpAny _ _ (pure (Value.ref x1) >>= fun slow => again (.builtin "proto.unchain" ⟨[.ref a, .ref x2, slow, .bool true], []⟩)) _ _ s
      refine wpAny_bind (wpAny_pure (wpAny_pure ⟨plainId_quiet plain_unchain _, ?_⟩))
      refine codeAny_builtin entry_unchain ?_
      show wpAny _ _ (field (.ref x2) 2 >>= _) _ _ s
      refine wpAny_bind (wpAny_field h2 d2 c2 ?_)
      rw [if_pos (show (Value.none == Value.none) = true from rfl)]
      first
      | exact wpAny_bind (wpAny_pure (wpAny_pure q))
      | exact wpAny_pure q
theorem raiseNew_chain {α : Type} {a x1 x2 : Addr} {oe : Obj} {vs : Array Value} {Q : α → Shared → Prop} (hot : Chain A x1 x2 s.heap) (n1 : x1 ≠ a) (n2 : x2 ≠ a) (ha : s.heap.get? a = some oe) (da : oe.data = .fields vs) (hi : 2 < vs.size)
    (hE : E (.ref a) { s with heap := s.heap.update a (Obj.mapFields (·.setIfInBounds 2 (.ref x1))) }) : wpAny (model prog w) A (raiseNew (.ref a) : Sem α) Q E s := by
  unfold raiseNew
  refine wpAny_bind (wpAny_handled ?_)
  rw [hot.1]
  have hb : (Value.ref x1 != Value.ref a) = true := ref_bne n1
  first
  | (show wpAny _ _ (if (Value.ref x1 != Value.ref a) = true then _ else _) _ _ _
     rw [if_pos hb]
     first
     | exact wpAny_bind (unchained2 hot n2 (wpAny_bind (chained ha da hi (wpAny_throw hE))))
     | exact wpAny_bind (wpAny_bind (unchained2 hot n2 (chained ha da hi (wpAny_throw hE)))))
  | (refine wpAny_bind ?_
     show wpAny _ _ (if (Value.ref x1 != Value.ref a) = true then _ else _) _ _ _
     rw [if_pos hb]
     exact wpAny_bind (unchained2 hot n2 (chained ha da hi (wpAny_throw hE))))
theorem next_list_end_hot {it l x1 x2 : Addr} {i : Nat} {items : Array Value} {Q : Option Value → Shared → Prop} (hot : Chain A x1 x2 s.heap) (n1 : x1 ≠ it) (n2 : x2 ≠ it) (m2 : ∃ o, s.heap.get? x2 = some o)
    (hit : s.heap.IsListIter it l i) (hl : s.heap.IsList l items) (hx : items[i]? = none)
    (hQ : ∀ h', (∀ b o, b ≠ it → s.heap.get? b = some o → h'.get? b = some o) → Q none { s with heap := h' }) : wpAny (model prog w) A (pyNext (.ref it)) Q E s := by
  obtain ⟨o, ho, hc, hd⟩ := id hit
  obtain ⟨ol, hol, _, nl, hdl⟩ := hl
  unfold pyNext
  refine wpAny_bind (wpAny_attempt (wpAny_callSpecial?_slot (name := Str.ofString "__next__") hit.typeIs slot_listiter_next
    (wpAny_call_entry slot_listiter_next hit.typeIs entry_listiter_next ?_ (args_listiter_next _))))
  show wpAny _ _ (field (.ref it) 0 >>= _) _ _ s
  refine wpAny_bind (wpAny_field ho hd (x := .ref l) rfl ?_)
  show wpAny _ _ (if (Value.ref l == Value.none) = true then _ else _) _ _ s
  rw [if_neg (show ¬ ((Value.ref l == Value.none) = true) from Bool.false_ne_true)]
  show wpAny _ _ (field (.ref it) 1 >>= _) _ _ s
  refine wpAny_bind (wpAny_field ho hd (x := .int i 0) rfl ?_)
  show wpAny _ _ (seqItems? (.ref l) >>= _) _ _ s
  refine wpAny_bind (wpAny_seqItems hol hdl ?_)
  simp only [Int.toNat_natCast, hx]
  refine wpAny_bind (wpAny_rule (wpAny_bind (wpAny_setField ho hd (by simp) ?_)))
  show wpAny _ _ (newExc (.type "StopIteration") [] >>= _) _ _ _
  refine wpAny_bind ?_
  simp only [newExc, newTuple]
  refine wpAny_bind (wpAny_newObj_type ?_ (by size_fits))
  refine wpAny_bind (m := firstArgMember _ _) (wpAny_of_eq (a := Value.none) (by first | rfl | (simp only [firstArgMember]; rfl)) ?_)
  refine wpAny_newObj_type ?_ (by size_fits)
  have up : ∀ b o, b ≠ it → s.heap.get? b = some o → (s.heap.update it (Obj.mapFields (·.setIfInBounds 0 .none))).get? b = some o := fun b o hb e => by
    rw [Heap.get?_update_other _ _ (Ne.symm hb)]
    exact e
  obtain ⟨o1, v1, g1, _⟩ := id hot.2
  obtain ⟨o2, g2⟩ := m2
  refine raiseNew_chain (hot.keep (fun o e => Heap.get?_push_of_some _ (Heap.get?_push_of_some _ (up _ _ n1 e))) (fun o e => Heap.get?_push_of_some _ (Heap.get?_push_of_some _ (up _ _ n2 e)))) (Nat.ne_of_lt (Heap.lt_size (Heap.get?_push_of_some _ (up _ _ n1 g1)))) (Nat.ne_of_lt (Heap.lt_size (Heap.get?_push_of_some _ (up _ _ n2 g2)))) (Heap.get?_push_size _ rfl) rfl (by first | (simp; done) | (simp; omega) | (simp only [Array.size_append]; simp; omega)) ?_
  refine wpAny_bind (wpAny_isInstance (T := "StopIteration") (b := true) ⟨_, Heap.get?_update_self _ (Heap.get?_push_size _ rfl) rfl, rfl⟩ isSubtype_stop ?_)
  refine wpAny_pure (hQ _ fun b o hb e => ?_)
  rw [Heap.get?_update_other _ _ (Nat.ne_of_gt (Heap.lt_size (Heap.get?_push_of_some _ (up _ _ hb e))))]
  exact Heap.get?_push_of_some _ (Heap.get?_push_of_some _ (up _ _ hb e))
theorem walks_hot {I ax x1 x2 : Addr} (hne : ax ≠ I) (n1 : x1 ≠ I) (n2 : x2 ≠ I) (items : Array Value) :
    Walks prog w A I [I, ax, x1, x2] [I] items.size (fun i v => items[i]? = some v) (fun i h => (h.IsListIter I ax i ∧ h.IsList ax items) ∧ Chain A x1 x2 h ∧ ∃ o, h.get? x2 = some o) where
  sub := fun b hb => by simp at hb; simp [hb]
  frame := fun _ _ _ st hk => ⟨⟨st.1.1.at fun o e => hk I (by simp) o e, st.1.2.at fun o e => hk ax (by simp) o e⟩, st.2.1.keep (fun o e => hk x1 (by simp) o e) (fun o e => hk x2 (by simp) o e), by
    obtain ⟨o, e⟩ := st.2.2
    exact ⟨o, hk x2 (by simp) o e⟩⟩
  item := fun i s Q E hi st hQ => by
    refine wpAny_pyNext_list_item st.1.1 st.1.2 (x := items[i]) (by simp [hi]) fun h' hit' hs' => ?_
    have kp : ∀ b o, b ≠ I → s.heap.get? b = some o → h'.get? b = some o := fun b o hb e => hs'.extBut b o hb e
    refine hQ _ h' s.toks (by simp [hi]) ⟨⟨hit', st.1.2.extBut hs'.extBut hne⟩, st.2.1.keep (fun o e => kp _ _ n1 e) (fun o e => kp _ _ n2 e), ?_⟩ fun b o hb e => kp b o (fun h => hb (by simp [h])) e
    obtain ⟨o, e⟩ := st.2.2
    exact ⟨o, kp _ _ n2 e⟩
  done := fun s Q E st hQ => next_list_end_hot st.2.1 n1 n2 st.2.2 st.1.1 st.1.2 (by simp) fun h' he' => hQ h' s.toks fun b o hb e => he' b o (fun h => hb (by simp [h])) e
  self := fun _ _ _ _ st hQ => wpAny_pyIter_listiter st.1.1 hQ
end
/-- the handled exception and its context, both pinned -/
def HotK (X : Cx) : Prop := ∃ p q : Addr × Obj, p ∈ X.pn ∧ q ∈ X.pn ∧ X.A.handled = some (.ref p.1) ∧ ∃ vs : Array Value, p.2.data = .fields vs ∧ (vs[2]? = some .none ∨ (vs[2]? = some (.ref q.1) ∧ ∃ ws : Array Value, q.2.data = .fields ws ∧ ws[2]? = some .none))
theorem HotK.chain {X : Cx} (c : HotK X) : ∃ x1 x2 : Addr, ∀ {pins : List (Addr × Obj)} {σ : L2.St} {H : Hp} {s : Shared}, Inv X pins σ H s → Chain X.A x1 x2 s.heap ∧ ∃ o, s.heap.get? x2 = some o := by
  obtain ⟨p, q, hp, hq, hh, vs, d1, c1⟩ := c
  refine ⟨p.1, q.1, fun {pins σ H s} I => ?_⟩
  have g1 := (I.pin p (List.mem_append_left _ hp)).1
  have g2 := (I.pin q (List.mem_append_left _ hq)).1
  refine ⟨⟨hh, p.2, vs, g1, d1, ?_⟩, _, g2⟩
  rcases c1 with c1 | ⟨c1, ws, d2, c2⟩
  · exact .inl c1
  · exact .inr ⟨c1, q.2, ws, g2, d2, c2⟩
theorem any_hot {X : Cx} (c : HotK X) {K : PySem.W.Frag} (eK : X.K = K := by rfl) : CallR X (.builtin "any") (rAny K) := by
  subst eK
  intro pins s σ H vs us Q I r h
  obtain ⟨a, bs, rfl, hs, q⟩ := h
  obtain ⟨its, rv, hl, _⟩ := I.list hs
  rw [Vals.ref1 r]
  have hb := rv.bls
  obtain ⟨x1, x2, ch⟩ := c.chain
  obtain ⟨ch, o2, g2⟩ := ch I
  obtain ⟨o1, v1, g1, _⟩ := id ch.2
  refine call_any_walk (iter_any hl.isList fun s₂ e2 st hne => ?_)
  subst e2
  refine ⟨_, _, _, _, _, _, _, rfl, walks_hot (A := X.A.in1) (x1 := x1) (x2 := x2) hne (Nat.ne_of_lt (Heap.lt_size g1)) (Nat.ne_of_lt (Heap.lt_size g2)) its.toArray, ⟨st, Chain.keep (A := X.A.in1) (h := s.heap) ⟨ch.1, ch.2⟩ (fun o e => Heap.get?_push_of_some _ e) (fun o e => Heap.get?_push_of_some _ e), o2, Heap.get?_push_of_some _ g2⟩, truth_bools hb, fun h' tk hk => ?_⟩
  refine ⟨.bl _, H, I.kept fun b o eo => hk b o (fun hmem => ?_) (Heap.get?_push_of_some _ eo), ?_, q⟩
  · rcases List.mem_cons.mp hmem with e1 | hmem
    · exact absurd (e1 ▸ Heap.lt_size eo) (Nat.lt_irrefl _)
    · cases hmem
  · show Value.bool _ = Value.bool _
    rw [← L2.any_range, hb, List.size_toArray, List.length_map]
/-! #### try: body, except x as n: suite, where the caught exception may have a context -/
def wAsK (K : PySem.W.Frag) (c : Value) (i : Nat) (ts : Addr → Value → Option Addr → TS) (D : Ends) : WX := fun cls d σ H =>
  PySem.W.exmOne K cls c = some true ∧ ∀ a, H a = none → ts a cls d { nx := fun σ' H' => D.nx (σ'.set i none) H', rt := D.rt, bk := fun σ' H' => D.bk (σ'.set i none) H', ct := fun σ' H' => D.ct (σ'.set i none) H' } (σ.set i (some (.ref a))) H
section
variable {X : Cx} {x n : Str} {c : Value} {i : Nat} {body suite : List Stmt} {b₀ : Stmt} {np pos pos' : Pos} {tb : WX → TS} {ts : Addr → Value → Option Addr → TS}
theorem psk_try_as (hs : X.stack = X.env :: X.outer) (hf : X.env.frame = some X.env.locals) (hN : X.N.Nodup) (hi : X.N[i]? = some n) (hln : X.env.kindOf n = some .local) (hc : Names X x c)
    (hb : ∀ (W : WX) (pn : List (Addr × Obj)) (xe : Value → Shared → Prop), Tk (X.tr pn xe) W → PassesOwn (model X.prog X.w) X.A X.env xe → PSs (X.tr pn xe) body (tb W))
    (hsu : ∀ (a : Addr) (oe : Obj) (cls : Value) (d : Option Addr) (pn : List (Addr × Obj)), Zc cls d oe → (∃ vs, oe.data = .fields vs) → HotK (X.suite a ((a, oe) :: pn)) → PSs (X.suite a ((a, oe) :: pn)) (b₀ :: suite) (ts a cls d)) :
    PS X (.Try body [.ExceptHandler (some (.Name x np)) (some n) (b₀ :: suite) pos'] [] [] pos) (fun D σ H => tb (wAsK X.K c i ts D) D σ H) := by
  constructor
  intro pins s σ H D I h
  have ok := I.ok
  refine wpAny_Try_except (wpAny_mono ((hb (wAsK X.K c i ts D) (X.pn ++ pins) (fun e r => wpAny (model X.prog X.w) X.A (noteFrame e X.env) (fun _ r => wpAny (model X.prog X.w) X.A (setFlight e none) (fun _ r => wpAny (model X.prog X.w) X.A
    (handleBy e X.env [.ExceptHandler (some (.Name x np)) (some n) (b₀ :: suite) pos']) (SP X pins D) X.xe r) X.xe r) X.xe r) (fun u s' xx => ?_) PassesOwn.looking).run [] s σ H D (I.toTry _) h) (fun f r hr => ?_) fun _ _ z => z)
  · obtain ⟨a, B, sI, pl, τ, G, cls, d, cx, rfl, Jt, nb, up, sky, na, os, ag, lo, mt, wish⟩ := xx
    have J := Jt.ofTry ok (X := X) (pins := pins)
    refine land8 ok Zk.steady hs hf sky fun g fl up2 => ?_
    obtain ⟨oe, vs, he, hz, hd⟩ := fl.there
    obtain ⟨nL, nF⟩ := off8 hf fl he hd
    have JG : Inv X pins τ G { s' with heap := g } := J.landed nb fl.1 (up.trans up2) os ag
    have ty : PySem.W.Looks (model X.prog X.w) g (typeOf (.ref a)) cls := fun _ _ _ _ k q => wpAny_typeOf_ref (k _ _ he) (hz.1.symm ▸ q)
    refine wpAny_handleBy_cons (codeAny_handlers_test (name8 (JG.suite he hd na nL nF) hc ((PySem.W.exm_one (M := model X.prog X.w) JG.kIn ty mt).here (codeAny_handlers_suite_as (HandSPX.lands_againZ fl fun g2 fl2 up3 => ?_))))) (fun q => nomatch q)
    obtain ⟨oe, vs, he, hz, hd⟩ := fl2.there
    obtain ⟨nL, nF⟩ := off8 hf fl2 he hd
    have J4 : Inv X pins τ G { s' with heap := g2 } := J.landed nb fl2.1 ((up.trans up2).trans up3) os ag
    have c4 := hz.2.2 vs hd
    obtain ⟨pl, S4, hot, back⟩ : ∃ pl : List (Addr × Obj), Inv (X.suite a ((a, oe) :: (X.pn ++ pl))) [] τ G { s' with heap := g2 } ∧ HotK (X.suite a ((a, oe) :: (X.pn ++ pl))) ∧ ∀ {σ6 : L2.St} {H6 : Hp} {s6 : Shared}, Inv X pl σ6 H6 s6 → Inv X pins σ6 H6 s6 := by
      rcases lo with rfl | ⟨y, oy, ws, rfl, hy, dy, cy, hny⟩
      · exact ⟨pins, J4.suite he hd na nL nF, ⟨(a, oe), (a, oe), List.mem_cons_self, List.mem_cons_self, rfl, vs, hd, .inl c4⟩, fun I6 => I6⟩
      · have gy := fl2.1 _ _ hy
        obtain ⟨yL, yF⟩ := off8 hf fl2 gy dy
        have pins' : ∀ p ∈ X.pn ++ ((y, oy) :: pins), ({ s' with heap := g2 } : Shared).heap.get? p.1 = some p.2 ∧ G p.1 = none ∧ p.1 ≠ X.env.locals ∧ p.1 ∉ X.fs ∧ ∀ v, p.2.data ≠ .cell v := fun p m => by
          rcases List.mem_append.mp m with m | m
          · exact J4.pin p (List.mem_append_left _ m)
          cases m with
          | head => exact ⟨gy, hny, yL, yF, fun v z => nomatch dy.symm.trans z⟩
          | tail _ m => exact J4.pin p (List.mem_append_right _ m)
        have J5 : Inv X ((y, oy) :: pins) τ G { s' with heap := g2 } := { J4 with pin := pins' }
        refine ⟨(y, oy) :: pins, J5.suite he hd na nL nF, ⟨(a, oe), (y, oy), List.mem_cons_self, List.mem_cons_of_mem _ (List.mem_append_right _ List.mem_cons_self), rfl, vs, hd, .inr ⟨c4, ws, dy, cy⟩⟩, fun I6 => { I6 with pin := fun p m => I6.pin p ?_ }⟩
        exact (List.mem_append.mp m).elim (List.mem_append_left _) fun m => List.mem_append_right _ (List.mem_cons_of_mem _ m)
    refine store_ok (X := X.suite a ((a, oe) :: (X.pn ++ pl))) (v := .ref a) S4 hN hi (.inl hln) rfl (fun s5 S5 => ?_) (.inr hln)
    refine wpAny_mono ((hsu a oe cls d (X.pn ++ pl) hz.zc ⟨vs, hd⟩ hot).run [] s5 _ G _ S5 (wish a na)) (fun f s6 q => ?_) fun _ _ z => z.elim
    have gone : ∀ {τ : L2.St} {G : Hp} {Q : Shared → Prop}, Inv (X.suite a ((a, oe) :: (X.pn ++ pl))) [] τ G s6 → (∀ s7, Inv X pins (τ.set i none) G s7 → Q s7) → wpAny (model X.prog X.w) X.A (do bindName X.env n .none; unbindBehindTheSuite X.env n pos') (fun _ s7 => Q s7) X.xe s6 := fun {_ _ Q} S6 hq => gone_ok (Q := fun _ => Q) (back (S6.unsuite ok)) hN hi hln hq
    cases f with
    | ret u => exact q.elim fun v q => q.elim fun τ q => q.elim fun G q => gone q.1 fun s7 J7 => ⟨v, _, G, J7, q.2⟩
    | _ => exact q.elim fun τ q => q.elim fun G q => gone q.1 fun s7 J7 => ⟨_, G, J7, q.2⟩
  · have hr := sp_map (fun J6 => J6.ofTry ok) hr (X := X) (pins := pins)
    cases f with
    | next => exact wpAny_execs_nil hr
    | _ => exact hr
end
end
end Sq
namespace Sq
open PySem PySem.Spec PyProof.Rows L2 Evl
def tOnly (p : Prop) (t : TS) : TS := fun D σ H => p ∧ t D σ H
theorem pss_only {X : Cx} {p : Prop} {b : List Stmt} {t : TS} (f : p → PSs X b t) : PSs X b (tOnly p t) := ⟨fun pins s σ H D I h => (f h.1).run pins s σ H D I h.2⟩
section
open L2H
variable {P : Program} {w : World} {K : PySem.W.Frag} {mg : Str → Option Value} {base : Heap}
def tIsE (K : PySem.W.Frag) (D a : Addr) (c : V) : TE := tCB (rIsE K D a) (tCons (tVar 1) (tCons (tC c) tNil))
def tRefS (T : Txt K mg) (a : Addr) : TS :=
  tSeq (tAsg (tLst (tCons (tIsE K T.c_BadText a (.ref T.c_BadNumber)) (tCons (tIsE K T.c_BadText a (.ref T.c_BadParts)) (tCons (tIsE K T.c_BadText a (.ref T.c_BadPrime)) tNil)))) (gName 2))
    (tSeq (tAsg (tOp rCat (tVar 2) (tLst (tCons (tIsE K T.c_BadText a (.ref T.c_BadWalk)) (tCons (tNotV (tIsE K T.c_BadText a (.ty "ValueError"))) tNil)))) (gName 2))
      (tRet (tAndV (tIsE K T.c_BadText a (.ref T.c_BadText)) (tNotV (tCB (rAny K) (tCons (tVar 2) tNil))))))
theorem refS_ok (T : Txt K mg) {a : Addr} {v0 : V} {y : Option V} {H : Hp} {D : Ends} (k : ∀ v H2, Ex H H2 → Rp H2 v (.bool true) → D.rt v H2) : tRefS T a D [some v0, some (.ref a), y] H := by
  unfold tRefS tIsE
  refine q_asgD (d := .list [.bool false, .bool false, .bool false]) (ed_lst (da_cons (ed_isE rfl T.is_BadText_BadNumber) (da_cons (ed_isE rfl T.is_BadText_BadParts) (da_cons (ed_isE rfl T.is_BadText_BadPrime) da_nil))) (le_lit rfl)) fun v1 H1 e1 r1 => ?_
  refine q_asgD (d := .list [.bool false, .bool false, .bool false, .bool false, .bool false]) (ed_cat (ds := [.bool false, .bool false, .bool false]) (es := [.bool false, .bool false]) (ed_var rfl r1) (ed_lst (da_cons (ed_isE rfl T.is_BadText_BadWalk) (da_cons (ed_not (a := true) (ed_isET rfl T.is_BadText_ValueError)) da_nil)) (le_lit rfl)) (le_lit rfl)) fun v2 H2 e2 r2 => ?_
  exact s_retD (ed_and (a := true) (b := true) (ed_isE rfl T.is_BadText_BadText) fun _ => ed_not (a := false) (ed_is (ed_any (ed_var rfl r2) rfl) rfl)) fun v3 H3 e3 r3 => k v3 H3 ((e1.trans e2).trans e3) r3
def rRef8 : List PyData → PyData → Prop := fun ds d => ∃ x : PyData, ds = [x] ∧ ((isi_str x = false ∧ d = .bool true) ∨ ∃ t : Str, x = .str t ∧ t.length ≤ 10000 ∧ d = .bool (inT t).isNone)
theorem ok_law_refused (T : Txt K mg) : FnOk P w K mg base CX0 4 T.a_law_refused T.d_law_refused ["_law_text"] (spR rRef8) := by
  refine T.F_law_refused.ok sc_law_refused (fun vs H Q E h => ?_) (fun cdv A outer s H vs Q E hr h => ?_)
  · obtain ⟨ds, d, hv, ⟨x, rfl, _⟩, _⟩ := h
    exact dpa_len hv
  obtain ⟨ds, d, hv, ⟨x, rfl, k⟩, q⟩ := h
  obtain ⟨v1, rfl, h1⟩ := dpa_one hv
  refine ⟨_, (pss_cons (psk_try_as (i := 1) (c := .ref T.c_SquareError) (tb := fun W => tDrop (tCallS (spRead T) (WE W) (tCons (tVar 0) tNil))) (ts := fun a cls d => tOnly (cls = .ref T.c_BadText ∧ d = none) (tRefS T a))
      rfl rfl sc_law_refused.nd rfl rfl ⟨by rfl, by decide +kernel, .inl T.g_SquareError⟩
      (fun W pn xe tk po => pss_one (ps_expr (pe_callS (okk_read T) (hr.mono (by decide)) (by rfl) T.g_read T.F_read.kp T.b_read (fun σ => passk_at tk σ) (pa_cons (pv 0) pa_nil))))
      (fun a oe cls d pn hz hf hot => pss_only fun h => (by
        obtain ⟨rfl, rfl⟩ := h
        exact (pss_cons (ps_set (i := 2) sc_law_refused.nd rfl (Or.inl rfl) (pe_lst (pa_cons (pe_callB (call_isP (K := K) (p := (a, oe)) (D := T.c_BadText) List.mem_cons_self T.E_BadText hz hf) (by rfl) T.z_isinstance (by decide +kernel) (pa_cons (pv 1) (pa_cons (pe_glob (v := .ref T.c_BadNumber) (by rfl) T.g_BadNumber rfl) pa_nil))) (pa_cons (pe_callB (call_isP (K := K) (p := (a, oe)) (D := T.c_BadText) List.mem_cons_self T.E_BadText hz hf) (by rfl) T.z_isinstance (by decide +kernel) (pa_cons (pv 1) (pa_cons (pe_glob (v := .ref T.c_BadParts) (by rfl) T.g_BadParts rfl) pa_nil))) (pa_cons (pe_callB (call_isP (K := K) (p := (a, oe)) (D := T.c_BadText) List.mem_cons_self T.E_BadText hz hf) (by rfl) T.z_isinstance (by decide +kernel) (pa_cons (pv 1) (pa_cons (pe_glob (v := .ref T.c_BadPrime) (by rfl) T.g_BadPrime rfl) pa_nil))) pa_nil))))) (pss_cons (ps_set (i := 2) sc_law_refused.nd rfl (Or.inl rfl) (pe_op op_cat (pv 2) (pe_lst (pa_cons (pe_callB (call_isP (K := K) (p := (a, oe)) (D := T.c_BadText) List.mem_cons_self T.E_BadText hz hf) (by rfl) T.z_isinstance (by decide +kernel) (pa_cons (pv 1) (pa_cons (pe_glob (v := .ref T.c_BadWalk) (by rfl) T.g_BadWalk rfl) pa_nil))) (pa_cons (pe_not (pe_callB (call_isP (K := K) (p := (a, oe)) (D := T.c_BadText) List.mem_cons_self T.E_BadText hz hf) (by rfl) T.z_isinstance (by decide +kernel) (pa_cons (pv 1) (pa_cons (pe_bltn (v := .ty "ValueError") (by rfl) T.z_ValueError (by decide +kernel) rfl) pa_nil)))) pa_nil))))) (pss_one (ps_ret (pe_and (pe_callB (call_isP (K := K) (p := (a, oe)) (D := T.c_BadText) List.mem_cons_self T.E_BadText hz hf) (by rfl) T.z_isinstance (by decide +kernel) (pa_cons (pv 1) (pa_cons (pe_glob (v := .ref T.c_BadText) (by rfl) T.g_BadText rfl) pa_nil))) (pe_one (pe_not (pe_callB (any_hot hot) (by rfl) T.z_any (by decide +kernel) (pa_cons (pv 2) pa_nil)))))))))))) (pss_one (ps_ret pe_bl))), ?_⟩
  have M : PySem.W.exmOne K (.ref T.c_BadText) (.ref T.c_SquareError) = some true := PySem.W.exm_ref T.b_SquareError T.d_SquareError T.t_SquareError T.s_BadText
  show tDrop (tCallS (spRead T) (WE _) (tCons (tVar 0) tNil)) _ _ _
  refine ⟨v1, rfl, v1, x, rfl, h1, ?_⟩
  rcases k with ⟨hx, rfl⟩ | ⟨t, rfl, ht, rfl⟩
  · exact .inl ⟨hx, fun H2 e2 => ⟨M, fun a _ => ⟨⟨rfl, rfl⟩, refS_ok T fun v H3 e3 r => q v H3 (e2.trans e3) r⟩⟩⟩
  · refine .inr ⟨t, rfl, ht, fun hn H2 e2 => ⟨M, fun a _ => ⟨⟨rfl, rfl⟩, refS_ok T fun v H3 e3 r => q v H3 (e2.trans e3) (by rw [hn]; exact r)⟩⟩, fun n ps hs a p H2 e2 _ _ _ _ => ?_⟩
    show tRet (tC (.bl false)) { nx := fun _ H' => Q .non H', rt := Q } (L2.start ["_law_text", "error", "_law_others"] [v1]) H2
    exact s_retD ed_cb fun v H3 e3 r => q v H3 (e2.trans e3) (by rw [hs]; exact r)
end
end Sq
namespace Sq
open PySem PySem.Spec PyProof.Rows L2 Evl
section
variable {K : PySem.W.Frag} {σ : L2.St} {H : Hp} {ta tb te : TE} {d : PyData}
theorem ed_isN1 (h : EvD ta σ H .none) : EvD (tOp (fun x y H Q => y = V.non ∧ Q (.bl (decide (x = V.non))) H) ta (tC .non)) σ H (.bool true) :=
  ed_op h ed_cn fun v _ H1 _ d1 d2 _ q => by
    cases dp_non d1
    cases dp_non d2
    exact ⟨rfl, q _ H1 (Ex.refl _) (.bl _)⟩
theorem ed_isN0 {ds : List PyData} (h : EvD ta σ H (.tuple ds)) : EvD (tOp (fun x y H Q => y = V.non ∧ Q (.bl (decide (x = V.non))) H) ta (tC .non)) σ H (.bool false) :=
  ed_op h ed_cn fun v _ H1 _ d1 d2 _ q => by
    obtain ⟨a, xs, rfl, _⟩ := dp_tup d1
    cases dp_non d2
    exact ⟨rfl, q _ H1 (Ex.refl _) (.bl _)⟩
/-- t[i], what stands there -/
theorem ev_ixT {a : Addr} {xs : List V} {i : Int} {v : V} (hv : ∃ j, σ[j]? = some (some (.ref a)) ∧ ta = tVar j) (hs : H a = some (.tup xs)) (hi : atI xs i = some v) : Ev (tOp (rIxT K) ta (tC (.int i))) σ H v := fun H1 e Q q => by
  obtain ⟨j, hj, rfl⟩ := hv
  exact ⟨_, hj, a, xs, i, v, rfl, rfl, SqT.of (e _ _ hs), hi, q H1 (Ex.refl _)⟩
theorem lay_in (n : Int) (ps : List Int) : PyData.canLay0 (.tuple [.int n, .list (ps.map .int)]) = true := by
  have h := canLay_ints ps
  show (true && (PyData.canLayAll0 (ps.map .int) && true)) = true
  rw [h]
  rfl
theorem shaped_in (n : Int) (ps : List Int) : SeqAt.shaped (.tuple [.int n, .list (ps.map .int)]) = true := by
  unfold SeqAt.shaped
  have h2 := depth_ints ps
  have h3 : PyData.depth (.tuple [.int n, .list (ps.map .int)]) ≤ 64 := by
    simp only [PyData.depth, PyData.depthAll]
    omega
  rw [lay_in, decide_eq_true h3]
  rfl
theorem eqv_in (n : Int) (ps : List Int) : PyData.eqv (.tuple [.int n, .list (ps.map .int)]) (.tuple [.int n, .list (ps.map .int)]) = true := PySem.SeqAt.eqv_refl _ (lay_in n ps)
end
section
variable {P : Program} {w : World} {K : PySem.W.Frag} {mg : Str → Option Value} {base : Heap}
theorem ok_read (T : Txt K mg) : FnOk P w K mg base (L2.CX P w) 3 T.a_read T.d_read ["text"] (spRead T) := fn_of_k (okk_read T)
theorem ed_read {σ : L2.St} {H : Hp} {T : Txt K mg} {E : XK} {i : Nat} {x : Str} {n : Int} {ps : List Int} (hi : σ[i]? = some (some (.str x))) (hx : x.length ≤ 10000) (hs : inT x = some (n, ps)) : EvD (tCall (spRead T) [] E (tCons (tVar i) tNil)) σ H (.tuple [.int n, .list (ps.map .int)]) := fun H1 e Q q => by
  refine ⟨_, hi, _, .str x, rfl, .str x, .inr ⟨x, rfl, hx, fun h => ?_, fun n' ps' h a p H2 e2 ha hp hA gp => ?_⟩⟩
  · rw [hs] at h
    cases h
  · rw [hs] at h
    cases h
    exact q _ H2 e2 (.tup hA (.cons (.int _) (.cons gp.rp .nil)))
theorem q_asgRead {σ : L2.St} {H : Hp} {T : Txt K mg} {E : XK} {D : Ends} {tz : TS} {i j : Nat} {x : Str} {n : Int} {ps : List Int} (hi : σ[i]? = some (some (.str x))) (hx : x.length ≤ 10000) (hs : inT x = some (n, ps))
    (k : ∀ a p H2, Ex H H2 → H p = none → H2 a = some (.tup [.int n, .ref p]) → Grows H2 p (ps.map .int) → tz D (σ.set j (some (.ref a))) H2) : tSeq (tAsg (tCall (spRead T) [] E (tCons (tVar i) tNil)) (gName j)) tz D σ H := by
  refine ⟨_, hi, _, .str x, rfl, .str x, .inr ⟨x, rfl, hx, fun h => ?_, fun n' ps' h a p H2 e2 _ hp hA gp => ?_⟩⟩
  · rw [hs] at h
    cases h
  · rw [hs] at h
    cases h
    exact k a p H2 e2 hp hA gp
def rRight8 : List PyData → PyData → Prop := fun ds d => ∃ x : Str, ds = [.str x] ∧ x.length ≤ 10000 ∧ d = .bool true
theorem ok_law_right (T : Txt K mg) : FnOk P w K mg base CX0 5 T.a_law_right T.d_law_right ["_law_text"] (spR rRight8) := by
  refine T.F_law_right.ok sc_law_right (fun vs H Q E h => ?_) (fun cdv A outer s H vs Q E hr h => ?_)
  · obtain ⟨ds, d, hv, ⟨x, rfl, _⟩, _⟩ := h
    exact dpa_len hv
  obtain ⟨ds, d, hv, ⟨x, rfl, hx, rfl⟩, q⟩ := h
  obtain ⟨v1, rfl, h1⟩ := dpa_one hv
  cases dp_str h1
  refine ⟨_, (pss_cons (ps_set (i := 1) sc_law_right.nd rfl (Or.inl rfl) (pe_call (ok_law_in T) (hr.mono (by decide)) (by rfl) T.g_law_in T.F_law_in.kp T.b_law_in .nil pass0 (pa_cons (pv 0) pa_nil))) (pss_cons (ps_if (pt_cmpR op_isN (pv 1) pe_non (nomark _)) (pss_one (ps_ret (pe_call (ok_law_refused T) (hr.mono (by decide)) (by rfl) T.g_law_refused T.F_law_refused.kp T.b_law_refused .nil pass0 (pa_cons (pv 0) pa_nil)))) pss_nil) (pss_cons (ps_set (i := 2) sc_law_right.nd rfl (Or.inl rfl) (pe_call (ok_read T) (hr.mono (by decide)) (by rfl) T.g_read T.F_read.kp T.b_read .nil passL (pa_cons (pv 0) pa_nil))) (pss_cons (ps_if (PW.pt (pw_or (pt_not (pt_val (pe_callB (isiQ (K := K)) (by rfl) T.z_isinstance (by decide +kernel) (pa_cons (pv 2) (pa_cons (pe_bltn (v := .ty "tuple") (by rfl) T.z_tuple (by decide +kernel) rfl) pa_nil))))) (pw_or (pt_cmpR (nedQ (K := K) hr.units) (pv 2) (pv 1) (nomark _)) (pw_or1 (pt_cmpR op_neS (pe_call (ok_written T) (hr.mono (by decide)) (by rfl) T.g_written T.F_written.kp T.b_written .nil passL (pa_cons (pe_ix (ixtQ (K := K)) (pv 2) pe_int (fun _ _ => rfl)) (pa_cons (pe_ix (ixtQ (K := K)) (pv 2) pe_int (fun _ _ => rfl)) pa_nil))) (pv 0) (nomark _)))))) (pss_one (ps_ret pe_bl)) pss_nil) (pss_cons (ps_expr (pe_bm PySem.F.plainAttrs_list PySem.F.slot_list_append PySem.F.type_list_append mt_append (pe_ix (ixtQ (K := K)) (pv 2) pe_int (fun _ _ => rfl)) (pa_cons pe_int pa_nil))) (pss_one (ps_ret (pe_cmpR (eqdQ (K := K) hr.units) (pe_call (ok_read T) (hr.mono (by decide)) (by rfl) T.g_read T.F_read.kp T.b_read .nil passL (pa_cons (pv 0) pa_nil)) (pv 1) (nomark _))))))))), ?_⟩
  refine q_asgD (d := inD x) (ed_call (ds := [.str x]) (da_cons (ed_var rfl (.str x)) da_nil) ⟨x, rfl, hx, rfl⟩) fun v2 H1 e1 r2 => ?_
  cases hs : inT x with
  | none =>
    rw [inD_none hs] at r2
    refine q_when (b := true) (dt_test (ed_isN1 (ed_var rfl r2))) (fun _ H2 e2 => ?_) fun z => nomatch z
    exact s_retD (ed_is (ed_call (ds := [.str x]) (da_cons (ed_var rfl (.str x)) da_nil) ⟨.str x, rfl, .inr ⟨x, rfl, hx, rfl⟩⟩) (by rw [hs]; rfl)) fun v H3 e3 r => q v H3 ((e1.trans e2).trans e3) r
  | some z =>
    obtain ⟨n, ps⟩ := z
    rw [inD_some hs] at r2
    obtain ⟨ex, hn, hok, _⟩ := in_text hs
    refine q_when (b := false) (dt_test (ed_isN0 (ed_var rfl r2))) (fun z => nomatch z) fun _ H2 e2 => ?_
    refine q_asgRead (n := n) (ps := ps) rfl hx hs fun a p H3 e3 hp hA gp => ?_
    have rF : Rp H3 (.ref a) (.tuple [.int n, .list (ps.map .int)]) := .tup hA (.cons (.int _) (.cons gp.rp .nil))
    have rD := dp_mono (e2.trans e3) r2
    refine q_when (b := false) ?_ (fun z => nomatch z) fun _ H4 e4 => ?_
    · refine et_or (a := false) (b := false) (et_not (a := true) (dt_B (ed_isi (ed_var rfl rF) (kit_tuple _)))) fun _ => et_or (a := false) (b := false) (et_is (dt_test (ed_neD (ed_var rfl rF) (ed_var rfl rD) (shaped_in _ _) (shaped_in _ _))) (by rw [eqv_in]; rfl)) fun _ => ?_
      exact et_is (dt_test (ed_neS (i := wtxt n ps) (j := x) (ed_callXX (ds := [.int n, .list (ps.map .int)]) (da_cons (ed_ixT (ed_var rfl rF) ed_ci (by decide) rfl) (da_cons (ed_ixT (ed_var rfl rF) ed_ci (by decide) rfl) da_nil)) ⟨n, ps, rfl, hn, hok, rfl⟩) (ed_var rfl (.str x)))) (by rw [decide_eq_true ex.symm]; rfl)
    · refine q_appG (d := .int 0) (gp.ex e4) (ev_ixT (i := 1) (v := .ref p) ⟨2, rfl, rfl⟩ (e4 _ _ hA) rfl) ed_ci rfl ?_ fun H5 g5 k5 => ?_
      · have := (numsT_some (in_text hs).2.2.2.2.1).2.2
        have := words_len x
        rw [List.length_map]
        omega
      · have rD5 := dp_mono (k5 H2 (e3.trans e4) hp) (dp_mono e2 r2)
        exact s_retD (ed_is (ed_eqD (ed_read (i := 0) rfl hx hs) (ed_var rfl rD5) (shaped_in _ _) (shaped_in _ _)) (by rw [eqv_in])) fun v H6 e6 r => q v H6 ((k5 H ((e1.trans e2).trans (e3.trans e4)) (fresh_back (e1.trans e2) hp)).trans e6) r
end
end Sq
namespace Sq
open PySem PySem.Spec PyProof.Rows L2 Evl
/-! #### law 8: the drawn parts, their text -/
def most8 (c : Int) : Int := ([5, 50] : List Int).getD (draw c 6 2).toNat 0
theorem most_two : ∀ i : Nat, i < 2 → 5 ≤ ([5, 50] : List Int).getD i 0 ∧ ([5, 50] : List Int).getD i 0 ≤ 50 := by decide
theorem draw2 (c k : Int) : (draw c k 2).toNat < 2 := by
  have h1 := draw_nonneg (c := c) (k := k) (m := 2) (by decide)
  have h2 := draw_lt (c := c) (k := k) (m := 2) (by decide)
  omega
theorem most_bd (c : Int) : 5 ≤ most8 c ∧ most8 c ≤ 50 := most_two _ (draw2 c 6)
def rawP (c : Int) : List Int := (rngL 0 1 (1 + draw c 1 4).toNat).map fun k => draw c (2 + k) (most8 c)
def partsP (c : Int) : List Int := srt (rawP c)
theorem parts_len (c : Int) : 1 ≤ (partsP c).length ∧ (partsP c).length ≤ 4 := by
  have h1 := draw_nonneg (c := c) (k := 1) (m := 4) (by decide)
  have h2 := draw_lt (c := c) (k := 1) (m := 4) (by decide)
  have e : (partsP c).length = (1 + draw c 1 4).toNat := by
    unfold partsP
    rw [(srt_perm _).length_eq]
    unfold rawP
    rw [List.length_map, rngL_len]
  omega
theorem parts_bd {c p : Int} (h : p ∈ partsP c) : 0 ≤ p ∧ p ≤ 49 := by
  have h := (srt_perm _).mem_iff.mp h
  obtain ⟨k, _, rfl⟩ := List.mem_map.mp h
  have hm := most_bd c
  have h1 := draw_nonneg (c := c) (k := 2 + k) (m := most8 c) (by omega)
  have h2 := draw_lt (c := c) (k := 2 + k) (m := most8 c) (by omega)
  omega
theorem sq2_len : ∀ {ps : List Int}, (∀ p ∈ ps, 0 ≤ p ∧ p ≤ 49) → sq2 ps ≤ 2401 * (ps.length : Int)
  | [], _ => Int.le_refl _
  | x :: r, h => by
    have h1 := sq2_len (ps := r) fun p hp => h p (List.mem_cons_of_mem _ hp)
    have h2 := h x List.mem_cons_self
    have h3 : x * x ≤ 49 * 49 := Int.mul_le_mul h2.2 h2.2 h2.1 (by decide)
    show x * x + sq2 r ≤ 2401 * ((r.length + 1 : Nat) : Int)
    omega
theorem parts_sum (c : Int) : 0 ≤ sq2 (partsP c) ∧ sq2 (partsP c) ≤ 10000 := by
  have h1 := sq2_nonneg (partsP c)
  have h2 := sq2_len (ps := partsP c) fun p hp => parts_bd hp
  have h3 := parts_len c
  omega
theorem parts_ok (c : Int) : okParts (sq2 (partsP c)) (.list ((partsP c).map .int)) = true := by
  have h3 := parts_len c
  rw [parts_fit (fun p hp => by have := parts_bd hp; omega) (fun e => by rw [e] at h3; exact absurd h3.1 (by decide)) (parts_sum c).2]
  unfold fits
  rw [decide_eq_true h3.2, decide_eq_true (show srt (partsP c) = partsP c from srt_id (srt_sorted _)), decide_eq_true rfl, decide_eq_true (parts_sum c).2]
  rfl
theorem wtxt_len {n : Int} {ps : List Int} (hn : 0 ≤ n ∧ n ≤ 10000) (hb : ∀ p ∈ ps, 0 ≤ p ∧ p ≤ 10000) (hl : ps.length ≤ 4) : (wtxt n ps).length ≤ 100 := by
  have l3 : ((" = " : Str)).length = 3 := by decide +kernel
  have l4 : ((" + " : Str)).length = 3 := by decide +kernel
  have ln := len_num hn.1 hn.2
  have lj := len_join (" + " : Str) (ps.map ptxt)
  rw [List.length_map, l4] at lj
  have hs := sum_ptxt hb
  unfold wtxt
  rw [Str.length_append, Str.length_append]
  omega
def ptD : PyData → PyData
  | .int i => .str (ptxt i)
  | d => d
theorem map_pt (ns : List Int) : (ns.map PyData.int).map ptD = (ns.map ptxt).map PyData.str := by
  rw [List.map_map, List.map_map]
  rfl
section
variable {P : Program} {w : World} {K : PySem.W.Frag} {mg : Str → Option Value} {base : Heap}
section
variable {σ : L2.St} {H : Hp} {tl te : TE} {g : TG} {t : TT} {vs : List Nat} {d : PyData}
theorem ed_allX {F : V → Hp → Prop} (h : EvX tl σ H F) (k : ∀ v H1, Ex H H1 → F v H1 → EvD (tCB (rAll K) (tCons (tLc (iList K (tC v)) g t te vs) tNil)) σ H1 d) : EvD (tCB (rAll K) (tCons (tLc (iList K tl) g t te vs) tNil)) σ H d := fun H1 e Q q =>
  h H1 e _ fun v H2 e2 f => k v H2 (e.trans e2) f H2 (Ex.refl _) Q fun w H3 e3 r => q w H3 (e2.trans e3) r
theorem ed_c {v : V} (r : Rp H v d) : EvD (tC v) σ H d := fun H1 e _ q => q v H1 (Ex.refl _) (dp_mono e r)
end
theorem signs18 : (("0123456789=+^ -x_\t" : Str)).cps.toList.length = 18 := by decide +kernel
def trueL (n : Nat) : List PyData := (List.replicate n true).map PyData.bool
theorem map_true : ∀ ds : List PyData, (ds.map fun _ => PyData.bool true) = trueL ds.length
  | [] => rfl
  | _ :: r => by
    have h := map_true r
    show PyData.bool true :: _ = PyData.bool true :: (List.replicate r.length true).map PyData.bool
    rw [h]
    rfl
theorem all_true (n : Nat) : (List.replicate n true).all id = true := by
  rw [List.all_eq_true]
  intro x hx
  rw [(List.mem_replicate.mp hx).2]
  rfl
def spLaw (K : PySem.W.Frag) : Sp := fun vs H Q _ => ∃ (a : Addr) (ns : List Int), vs = [.ref a] ∧ SqL K H a (ns.map V.int) ∧ ns.length ≤ 63 ∧ ∀ H', Q (.bl true) H'
theorem ok_law (T : Txt K mg) : FnOk P w K mg base CX0 6 T.a_law T.d_law ["_law_script"] (spLaw K) := by
  refine T.F_law.ok sc_law (fun vs H Q E h => ?_) (fun cdv A outer s H vs Q E hr h => ?_)
  · obtain ⟨a, ns, rfl, _⟩ := h
    rfl
  obtain ⟨a, ns, rfl, hS, hlen, q⟩ := h
  refine ⟨_, (pss_cons (ps_set (i := 1) sc_law.nd rfl (Or.inr rfl) (pe_op op_add (pe_call (ok_law_cell_at T) (hr.mono (by decide)) (by rfl) T.g_law_cell_at T.F_law_cell_at.kp T.b_law_cell_at .nil pass0 (pa_cons (pv 0) (pa_cons pe_int pa_nil))) (pe_op op_mul pe_int (pe_call (ok_law_cell_at T) (hr.mono (by decide)) (by rfl) T.g_law_cell_at T.F_law_cell_at.kp T.b_law_cell_at .nil pass0 (pa_cons (pv 0) (pa_cons pe_int pa_nil)))))) (pss_cons (ps_set (i := 2) sc_law.nd rfl (Or.inr rfl) (pe_ix (ixtQ (K := K)) (pe_tup (pa_cons pe_int (pa_cons pe_int pa_nil))) (pe_call (ok_law_draw T) (hr.mono (by decide)) (by rfl) T.g_law_draw T.F_law_draw.kp T.b_law_draw .nil pass0 (pa_cons (pv 1) (pa_cons pe_int (pa_cons pe_int pa_nil)))) (fun _ _ => rfl))) (pss_cons (ps_set (i := 4) sc_law.nd rfl (Or.inl rfl) (pe_callB (sortedQ (K := K)) (by rfl) T.z_sorted (by decide +kernel) (pa_cons (pe_lc (own := [("_law_k", 3)]) (g := gName 3) rfl sc_law.nd (pi_range1 rfl T.z_range (pa_cons (pe_op op_add pe_int (pe_call (ok_law_draw T) (hr.mono (by decide)) (by rfl) T.g_law_draw T.F_law_draw.kp T.b_law_draw .nil pass0 (pa_cons (pv 1) (pa_cons pe_int (pa_cons pe_int pa_nil))))) pa_nil)) (blkOk_by (N := ["_law_script", "_law_cell", "_law_most", "_law_k", "_law_parts", "_law_number", "_law_text", "_law_handed", "_law_more", "_law_at", "_law_sign", "_law_part", "_law_thing", "_law_other"]) (sc := defScope s_law) (by decide +kernel)) (fun _ _ _ _ _ => (pg_name (i := 3) sc_law.nd rfl (Or.inl rfl))) (fun _ _ _ _ _ => pts_nil) (fun _ _ _ _ _ => (pe_call (ok_law_draw T) (hr.mono (by decide)) (by rfl) T.g_law_draw T.F_law_draw.kp T.b_law_draw .nil pass0 (pa_cons (pv 1) (pa_cons (pe_op op_add pe_int (pv 3)) (pa_cons (pv 2) pa_nil)))))) pa_nil))) (pss_cons (ps_set (i := 5) sc_law.nd rfl (Or.inl rfl) (pe_callB (sumQ (K := K) rfl) (by rfl) T.z_sum (by decide +kernel) (pa_cons (pe_lc (own := [("_law_part", 11)]) (g := gName 11) rfl sc_law.nd (pilQ (K := K) (pv 4)) (blkOk_by (N := ["_law_script", "_law_cell", "_law_most", "_law_k", "_law_parts", "_law_number", "_law_text", "_law_handed", "_law_more", "_law_at", "_law_sign", "_law_part", "_law_thing", "_law_other"]) (sc := defScope s_law) (by decide +kernel)) (fun _ _ _ _ _ => (pg_name (i := 11) sc_law.nd rfl (Or.inl rfl))) (fun _ _ _ _ _ => pts_nil) (fun _ _ _ _ _ => (pe_op op_mul (pv 11) (pv 11)))) pa_nil))) (pss_cons (ps_set (i := 6) sc_law.nd rfl (Or.inl rfl) (pe_op op_add_str (pe_op op_add_str (pe_callTy call_str_int (by rfl) T.z_str (by decide +kernel) (pa_cons (pv 5) pa_nil)) pe_str) (pe_join pe_str (pe_lc (own := [("_law_part", 11)]) (g := gName 11) rfl sc_law.nd (pilQ (K := K) (pv 4)) (blkOk_by (N := ["_law_script", "_law_cell", "_law_most", "_law_k", "_law_parts", "_law_number", "_law_text", "_law_handed", "_law_more", "_law_at", "_law_sign", "_law_part", "_law_thing", "_law_other"]) (sc := defScope s_law) (by decide +kernel)) (fun _ _ _ _ _ => (pg_name (i := 11) sc_law.nd rfl (Or.inl rfl))) (fun _ _ _ _ _ => pts_nil) (fun _ _ _ _ _ => (pe_op op_add_str (pe_callTy call_str_int (by rfl) T.z_str (by decide +kernel) (pa_cons (pv 11) pa_nil)) pe_str)))))) (pss_cons (ps_set (i := 7) sc_law.nd rfl (Or.inl rfl) (pe_callTy (listQ (K := K)) (by rfl) T.z_list (by decide +kernel) (pa_cons (pv 4) pa_nil))) (pss_cons (ps_if (PW.pt (pw_or (pt_cmpR op_neS (pe_call (ok_written T) (hr.mono (by decide)) (by rfl) T.g_written T.F_written.kp T.b_written .nil passL (pa_cons (pv 5) (pa_cons (pv 7) pa_nil))) (pv 6) (nomark _)) (pw_or (pt_cmpR (nedQ (K := K) hr.units) (pv 7) (pv 4) (nomark _)) (pw_or1 (pt_not (pt_val (pe_call (ok_law_right T) (hr.mono (by decide)) (by rfl) T.g_law_right T.F_law_right.kp T.b_law_right .nil pass0 (pa_cons (pv 6) pa_nil)))))))) (pss_one (ps_ret pe_bl)) pss_nil) (pss_cons (ps_set (i := 8) sc_law.nd rfl (Or.inl rfl) (pe_op op_add (pe_call (ok_law_cell_at T) (hr.mono (by decide)) (by rfl) T.g_law_cell_at T.F_law_cell_at.kp T.b_law_cell_at .nil pass0 (pa_cons (pv 0) (pa_cons pe_int pa_nil))) (pe_op op_mul pe_int (pe_call (ok_law_cell_at T) (hr.mono (by decide)) (by rfl) T.g_law_cell_at T.F_law_cell_at.kp T.b_law_cell_at .nil pass0 (pa_cons (pv 0) (pa_cons pe_int pa_nil)))))) (pss_cons (ps_for PassesOwn.never rfl (pi_range1 rfl T.z_range (pa_cons pe_int pa_nil)) (pg_name (i := 3) sc_law.nd rfl (Or.inl rfl)) (pss_cons (ps_set (i := 9) sc_law.nd rfl (Or.inl rfl) (pe_call (ok_law_draw T) (hr.mono (by decide)) (by rfl) T.g_law_draw T.F_law_draw.kp T.b_law_draw .nil pass0 (pa_cons (pe_op op_add (pv 8) (pv 3)) (pa_cons pe_int (pa_cons (pe_op op_add (pe_callB call_len_str (by rfl) T.z_len (by decide +kernel) (pa_cons (pv 6) pa_nil)) pe_int) pa_nil))))) (pss_cons (ps_set (i := 10) sc_law.nd rfl (Or.inl rfl) (pe_ix (ixtQ (K := K)) (pe_tup (pa_cons pe_str (pa_cons (pe_ix ix_str pe_str (pe_call (ok_law_draw T) (hr.mono (by decide)) (by rfl) T.g_law_draw T.F_law_draw.kp T.b_law_draw .nil pass0 (pa_cons (pe_op op_add (pv 8) (pv 3)) (pa_cons pe_int (pa_cons pe_int pa_nil)))) (fun _ _ => rfl)) pa_nil))) (pe_call (ok_law_draw T) (hr.mono (by decide)) (by rfl) T.g_law_draw T.F_law_draw.kp T.b_law_draw .nil pass0 (pa_cons (pe_op op_add (pv 8) (pv 3)) (pa_cons pe_int (pa_cons pe_int pa_nil)))) (fun _ _ => rfl))) (pss_one (ps_if (pt_not (pt_val (pe_call (ok_law_right T) (hr.mono (by decide)) (by rfl) T.g_law_right T.F_law_right.kp T.b_law_right .nil pass0 (pa_cons (pe_op op_add_str (pe_op op_add_str (pe_slice sl_str (pv 6) po_none (po_some (pv 9))) (pv 10)) (pe_slice sl_str (pv 6) (po_some (pe_op op_add (pv 9) (pe_call (ok_law_draw T) (hr.mono (by decide)) (by rfl) T.g_law_draw T.F_law_draw.kp T.b_law_draw .nil pass0 (pa_cons (pe_op op_add (pv 8) (pv 3)) (pa_cons pe_int (pa_cons pe_int pa_nil)))))) po_none)) pa_nil)))) (pss_one (ps_ret pe_bl)) pss_nil))))) (pss_cons (ps_if (pt_not (pt_val (pe_callB (allQ (K := K) rfl) (by rfl) T.z_all (by decide +kernel) (pa_cons (pe_lc (own := [("_law_other", 13)]) (g := gName 13) rfl sc_law.nd (pilQ (K := K) (pe_call0 (ok_law_few T) (hr.mono (by decide)) (by rfl) T.g_law_few T.F_law_few.kp T.b_law_few .nil pass0)) (blkOk_by (N := ["_law_script", "_law_cell", "_law_most", "_law_k", "_law_parts", "_law_number", "_law_text", "_law_handed", "_law_more", "_law_at", "_law_sign", "_law_part", "_law_thing", "_law_other"]) (sc := defScope s_law) (by decide +kernel)) (fun _ _ _ _ _ => (pg_name (i := 13) sc_law.nd rfl (Or.inl rfl))) (fun _ _ _ _ _ => pts_nil) (fun _ _ _ _ _ => (pe_call (ok_law_right T) (hr.mono (by decide)) (by rfl) T.g_law_right T.F_law_right.kp T.b_law_right .nil pass0 (pa_cons (pv 13) pa_nil)))) pa_nil)))) (pss_one (ps_ret pe_bl)) pss_nil) (pss_one (ps_ret (pe_callB (allQ (K := K) rfl) (by rfl) T.z_all (by decide +kernel) (pa_cons (pe_lc (own := [("_law_thing", 12)]) (g := gName 12) rfl sc_law.nd (pilQ (K := K) (pe_lst (pa_cons pe_non (pa_cons pe_int (pa_cons (pe_lst (pa_cons pe_str pa_nil)) (pa_cons pe_bl pa_nil)))))) (blkOk_by (N := ["_law_script", "_law_cell", "_law_most", "_law_k", "_law_parts", "_law_number", "_law_text", "_law_handed", "_law_more", "_law_at", "_law_sign", "_law_part", "_law_thing", "_law_other"]) (sc := defScope s_law) (by decide +kernel)) (fun _ _ _ _ _ => (pg_name (i := 12) sc_law.nd rfl (Or.inl rfl))) (fun _ _ _ _ _ => pts_nil) (fun _ _ _ _ _ => (pe_call (ok_law_refused T) (hr.mono (by decide)) (by rfl) T.g_law_refused T.F_law_refused.kp T.b_law_refused .nil pass0 (pa_cons (pv 12) pa_nil)))) pa_nil)))))))))))))), ?_⟩
  refine q_asgI (n := cellAt ns 0 + 31 * cellAt ns 1) (by walk_at "ev") fun H1 e1 => ?_
  generalize cellAt ns 0 + 31 * cellAt ns 1 = c
  try dsimp only [List.set]
  refine q_asgI (n := most8 c) (ed_ixT (ds := [.int 5, .int 50]) (i := draw c 6 2) (by walk_at "ev") (by walk_at "ev") (draw_nonneg (by decide)) ?_) fun H2 e2 => ?_
  · have h2 := draw2 c 6
    unfold most8
    generalize (draw c 6 2).toNat = i at h2 ⊢
    match i, h2 with
    | 0, _ => rfl
    | 1, _ => rfl
  try dsimp only [List.set]
  have hm := most_bd c
  have hd1 : 0 ≤ draw c 1 4 := draw_nonneg (by decide)
  have hd2 : draw c 1 4 < 4 := draw_lt (by decide)
  have eraw : (rngL 0 1 (1 + draw c 1 4).toNat).map (fun k => PyData.int (draw c (2 + k) (most8 c))) = (rawP c).map PyData.int := by
    unfold rawP
    rw [List.map_map]
    rfl
  refine q_asgD (d := .list ((partsP c).map .int)) (ed_is (ed_sorted (ds := (rawP c).map .int) (ed_is (ed_lcR1 (n := 1 + draw c 1 4) (fun k => .int (draw c (2 + k) (most8 c))) (by walk_at "ea") (by omega) (by intro _; rfl) (by omega) ?_ (fun _ => rfl)) (congrArg PyData.list eraw)) (by rw [ints_map])) (by rw [ints_map]; rfl)) fun v4 H3 e3 r4 => ?_
  · intro k H3 e3 h0 h1
    exact ed_call (ds := [.int c, .int (2 + k), .int (most8 c)]) (by walk_at "ea") ⟨_, _, _, rfl, by omega, by omega, rfl⟩
  try dsimp only [List.set]
  have hl := parts_len c
  have hb : ∀ p ∈ partsP c, 0 ≤ p ∧ p ≤ 10000 := fun p hp => by have := parts_bd hp; omega
  have hsum := parts_sum c
  have hok := parts_ok c
  generalize partsP c = ps at r4 hl hb hsum hok
  refine q_asgI (n := sq2 ps) (ed_is (ed_sum (ds := (ps.map PyData.int).map sqD) (ed_lcL sqD (ed_var rfl r4) (by rw [List.length_map]; omega) (by intro _; rfl) ?_ ?_) (by rw [map_sq, ints_map])) (by rw [map_sq, ints_map]; rfl)) fun H4 e4 => ?_
  · intro v d H4 e4 hmem rd
    obtain ⟨y, hy, rfl⟩ := List.mem_map.mp hmem
    cases dp_int rd
    have := hb y hy
    exact ed_mul (ed_var rfl (.int y)) (ed_var rfl (.int y)) (by omega)
  · intro d hmem
    obtain ⟨y, hy, rfl⟩ := List.mem_map.mp hmem
    rfl
  try dsimp only [List.set]
  generalize sq2 ps = n at hsum hok ⊢
  have hsz : (20000 : Nat) ≤ sizeLine := by rw [sizeLine_eq]; decide
  have l3 : ((" = " : Str)).length = 3 := by decide +kernel
  have l4 : ((" + " : Str)).length = 3 := by decide +kernel
  have l2 : (("^2" : Str)).length = 2 := by decide +kernel
  have ln := len_num hsum.1 hsum.2
  have lj := len_join (" + " : Str) (ps.map ptxt)
  rw [List.length_map, l4] at lj
  have hs := sum_ptxt hb
  have r44 := dp_mono e4 r4
  refine q_asgS (n := wtxt n ps) (ed_adds (a := Str.ofString (toString n) ++ (" = " : Str)) (b := Str.join (" + " : Str) (ps.map ptxt)) (ed_adds (ed_strof (by walk_at "ev") (log2_small hsum.1 hsum.2)) ed_cs (by omega)) (ed_join (ys := ps.map ptxt) ed_cs (ed_is (ed_lcL ptD (ed_var rfl r44) (by rw [List.length_map]; omega) (by intro _; rfl) ?_ ?_) (congrArg PyData.list (map_pt ps))) (by rw [List.length_map, l4]; omega)) (by rw [Str.length_append]; omega)) fun H5 e5 => ?_
  · intro v d H5 e5 hmem rd
    obtain ⟨x, hx, rfl⟩ := List.mem_map.mp hmem
    have hx' := hb x hx
    have lx := len_num hx'.1 hx'.2
    exact ed_adds (ed_strof (ed_var rfl rd) (log2_small hx'.1 hx'.2)) ed_cs (by omega)
  · intro d hmem
    obtain ⟨x, hx, rfl⟩ := List.mem_map.mp hmem
    rfl
  try dsimp only [List.set]
  have lw := wtxt_len hsum hb hl.2
  refine q_asgD (d := .list (ps.map .int)) (ed_listof (ed_var rfl (dp_mono e5 r44))) fun v7 H6 e6 r7 => ?_
  try dsimp only [List.set]
  have r46 := dp_mono e6 (dp_mono e5 r44)
  refine q_when (b := false) ?_ (fun z => nomatch z) fun _ H7 e7 => ?_
  · refine et_or (a := false) (b := false) (et_is (dt_test (ed_neS (i := wtxt n ps) (j := wtxt n ps) (ed_callXX (ds := [.int n, .list (ps.map .int)]) (da_cons (ed_var rfl (.int n)) (da_cons (ed_var rfl r7) da_nil)) ⟨n, ps, rfl, hsum, hok, rfl⟩) (ed_var rfl (.str _)))) (by rw [decide_eq_true rfl]; rfl)) fun _ => ?_
    refine et_or (a := false) (b := false) (et_is (dt_test (ed_neD (ed_var rfl r7) (ed_var rfl r46) (shaped_ints _) (shaped_ints _))) (by rw [eqv_intsL, decide_eq_true rfl]; rfl)) fun _ => ?_
    exact et_not (a := true) (dt_B (ed_call (ds := [.str (wtxt n ps)]) (da_cons (ed_var rfl (.str _)) da_nil) ⟨_, rfl, by omega, rfl⟩))
  generalize wtxt n ps = x at lw ⊢
  refine q_asgI (n := cellAt ns 2 + 7 * cellAt ns 0) (by walk_at "ev") fun H8 e8 => ?_
  generalize cellAt ns 2 + 7 * cellAt ns 0 = m
  try dsimp only [List.set]
  refine q_forR1 (n := 2) (ea1 (by walk_at "ea")) (by decide) (fun i σ' H' => ∃ y3 y9 y10, σ' = [some (.ref a), some (.int c), some (.int (most8 c)), y3, some v4, some (.int n), some (.str x), some v7, some (.int m), y9, y10, none, none, none]) (fun H9 e9 => ⟨_, _, _, rfl⟩) ?_ ?_
  · rintro i σ' H' hi ⟨y3, y9, y10, rfl⟩
    try dsimp only [List.set]
    have hx1 : (0 : Int) < (x.length : Int) + 1 := by omega
    refine q_asgI (n := draw (m + (i : Int)) 1 ((x.length : Int) + 1)) (ed_call (ds := [.int (m + (i : Int)), .int 1, .int ((x.length : Int) + 1)]) (da_cons (by walk_at "ev") (da_cons ed_ci (da_cons (ed_I0i (f := fun i j => i + j) (ed_lenS (ed_var rfl (.str x)) (by omega)) ed_ci) da_nil))) ⟨_, _, _, rfl, by omega, hx1, rfl⟩) fun H9 e9 => ?_
    try dsimp only [List.set]
    have h18 : (draw (m + (i : Int)) 2 18).toNat < (("0123456789=+^ -x_\t" : Str)).cps.toList.length := by
      have h1 := draw_nonneg (c := m + (i : Int)) (k := 2) (m := 18) (by decide)
      have h2 := draw_lt (c := m + (i : Int)) (k := 2) (m := 18) (by decide)
      rw [signs18]
      omega
    have hat : atI (("0123456789=+^ -x_\t" : Str)).cps.toList (draw (m + (i : Int)) 2 18) = some ((("0123456789=+^ -x_\t" : Str)).cps.toList[(draw (m + (i : Int)) 2 18).toNat]) := by
      have g := atI_nat (List.getElem?_eq_getElem h18)
      rw [Int.toNat_of_nonneg (draw_nonneg (by decide))] at g
      exact g
    generalize (("0123456789=+^ -x_\t" : Str)).cps.toList[(draw (m + (i : Int)) 2 18).toNat] = cp at hat
    refine q_asgS (n := if (draw (m + (i : Int)) 3 2).toNat = 0 then ("" : Str) else ⟨#[cp]⟩) (ed_ixT (ds := [.str "", .str ⟨#[cp]⟩]) (i := draw (m + (i : Int)) 3 2) (ed_tup (da_cons ed_cs (da_cons (ed_ixS ed_cs (ed_call (ds := [.int (m + (i : Int)), .int 2, .int 18]) (by walk_at "ea") ⟨_, _, _, rfl, by omega, by omega, rfl⟩) (by decide +kernel) hat) da_nil)) (le_lit rfl)) (ed_call (ds := [.int (m + (i : Int)), .int 3, .int 2]) (by walk_at "ea") ⟨_, _, _, rfl, by omega, by omega, rfl⟩) (draw_nonneg (by decide)) ?_) fun HA eA => ?_
    · have h2 := draw2 (m + (i : Int)) 3
      generalize (draw (m + (i : Int)) 3 2).toNat = j at h2 ⊢
      match j, h2 with
      | 0, _ => rfl
      | 1, _ => rfl
    try dsimp only [List.set]
    have hsg : (if (draw (m + (i : Int)) 3 2).toNat = 0 then ("" : Str) else ⟨#[cp]⟩).length ≤ 1 := by
      split
      · decide +kernel
      · exact Nat.le_refl _
    generalize (if (draw (m + (i : Int)) 3 2).toNat = 0 then ("" : Str) else ⟨#[cp]⟩) = sg at hsg ⊢
    generalize draw (m + (i : Int)) 1 ((x.length : Int) + 1) = at0
    have c1 := cutS_length x none (some at0)
    have c2 := cutS_length x (some (at0 + draw (m + (i : Int)) 4 2)) none
    refine s_when (b := false) (et_not (a := true) (dt_B (ed_call (ds := [.str ((cutS x none (some at0) ++ sg) ++ cutS x (some (at0 + draw (m + (i : Int)) 4 2)) none)]) (da_cons ?_ da_nil) ⟨_, rfl, by rw [Str.length_append, Str.length_append]; omega, rfl⟩))) (fun z => nomatch z) fun _ HB eB => ⟨_, _, _, rfl⟩
    refine ed_adds (ed_adds (ed_slS (ed_var rfl (.str x)) eo_none (eo_some (ev_int (ed_var rfl (.int at0)))) (by omega)) (ed_var rfl (.str sg)) (by omega)) (ed_slS (ed_var rfl (.str x)) (eo_some (ev_int (ed_I0i (f := fun i j => i + j) (ed_var rfl (.int at0)) (ed_call (ds := [.int (m + (i : Int)), .int 4, .int 2]) (by walk_at "ea") ⟨_, _, _, rfl, by omega, by omega, rfl⟩)))) eo_none (by omega)) (by rw [Str.length_append]; omega)
  rintro σ' HC ⟨y3, y9, y10, rfl⟩
  refine q_when (b := false) (et_not (a := true) (dt_B (ed_allX (F := fun v H => ∃ n, TxtsV n v H ∧ n ≤ 1000) (ex_call (ds := []) da_nil ⟨rfl, rfl⟩) fun v HD eD f => ?_))) (fun z => nomatch z) fun _ HE eE => ?_
  · obtain ⟨k, ⟨ws, r, l, b⟩, hk⟩ := f
    have el := ed_all (K := K) (ds := trueL ws.length) (te := tLc (iList K (tC v)) (gName 13) tYes (tCall (spR rRight8) [] E0 (tCons (tVar 13) tNil)) [13]) (σ := [some (.ref a), some (.int c), some (.int (most8 c)), y3, some v4, some (.int n), some (.str x), some v7, some (.int m), y9, y10, none, none, none]) (H := HD)
      (ed_is (ed_lcL (fun _ => .bool true) (ed_c r) (by rw [List.length_map]; omega) (by intro _; rfl) ?_ (fun _ _ => rfl)) (by rw [map_true, List.length_map])) (by unfold trueL; rw [bls_map])
    · exact ed_is el (by unfold trueL; rw [bls_map, all_true])
    · intro u d HF eF hmem rd
      obtain ⟨z, hz, rfl⟩ := List.mem_map.mp hmem
      have := b z hz
      exact ed_call (ds := [.str z]) (da_cons (ed_var rfl rd) da_nil) ⟨z, rfl, by omega, rfl⟩
  refine s_retD (d := .bool true) (ed_is (ed_all (K := K) (ds := trueL 4) (ed_is (ed_lcL (K := K) (ds := [.none, .int 5, .list [.str "0 = 0^2"], .bool true]) (fun _ => .bool true) (ed_lst (da_cons ed_cn (da_cons ed_ci (da_cons (ed_lst (da_cons ed_cs da_nil) (le_lit rfl)) (da_cons ed_cb da_nil)))) (le_lit rfl)) (le_lit rfl) (by intro _; rfl) ?_ (fun _ _ => rfl)) rfl) rfl) rfl) fun v HF eF hv => ?_
  · intro u d HF eF hmem rd
    refine ed_call (ds := [d]) (da_cons (ed_var rfl rd) da_nil) ⟨d, rfl, .inl ⟨?_, rfl⟩⟩
    rcases List.mem_cons.mp hmem with rfl | hmem
    · rfl
    rcases List.mem_cons.mp hmem with rfl | hmem
    · rfl
    rcases List.mem_cons.mp hmem with rfl | hmem
    · rfl
    rcases List.mem_cons.mp hmem with rfl | hmem
    · rfl
    cases hmem
  cases dp_bl hv
  exact q HF
end
end Sq
namespace Sq
open PySem PySem.Spec PyProof.Rows L2 Evl
theorem all_mk {l : PySem.W.OpenLaw} {w : World} {K : PySem.W.Frag} {h : Heap} {mg : Str → Option Value} {fa : Addr} (X : K.In h) (G : h.Ns mainGlobals mg) (hfa : mg "law" = some (.ref fa))
    {c_BadText : Addr}
    {c_BadWalk : Addr}
    {c_BadParts : Addr}
    {c_BadPrime : Addr}
    {c_BadNumber : Addr}
    {c_SquareError : Addr}
    {a_is_number : Addr} {od_is_number an_is_number : Option Addr} {sl_is_number : Array (Option Value)} {oc_is_number kV_is_number dc_is_number pm_is_number cd_is_number ct_is_number : Value}
    {a_check_number : Addr} {od_check_number an_check_number : Option Addr} {sl_check_number : Array (Option Value)} {oc_check_number kV_check_number dc_check_number pm_check_number cd_check_number ct_check_number : Value}
    {a_is_sum : Addr} {od_is_sum an_is_sum : Option Addr} {sl_is_sum : Array (Option Value)} {oc_is_sum kV_is_sum dc_is_sum pm_is_sum cd_is_sum ct_is_sum : Value}
    {a_check_parts : Addr} {od_check_parts an_check_parts : Option Addr} {sl_check_parts : Array (Option Value)} {oc_check_parts kV_check_parts dc_check_parts pm_check_parts cd_check_parts ct_check_parts : Value}
    {a_written : Addr} {od_written an_written : Option Addr} {sl_written : Array (Option Value)} {oc_written kV_written dc_written pm_written cd_written ct_written : Value}
    {a_number_in : Addr} {od_number_in an_number_in : Option Addr} {sl_number_in : Array (Option Value)} {oc_number_in kV_number_in dc_number_in pm_number_in cd_number_in ct_number_in : Value}
    {a_read : Addr} {od_read an_read : Option Addr} {sl_read : Array (Option Value)} {oc_read kV_read dc_read pm_read cd_read ct_read : Value}
    {a_law_cell_at : Addr} {od_law_cell_at an_law_cell_at : Option Addr} {sl_law_cell_at : Array (Option Value)} {oc_law_cell_at kV_law_cell_at dc_law_cell_at pm_law_cell_at cd_law_cell_at ct_law_cell_at : Value}
    {a_law_draw : Addr} {od_law_draw an_law_draw : Option Addr} {sl_law_draw : Array (Option Value)} {oc_law_draw kV_law_draw dc_law_draw pm_law_draw cd_law_draw ct_law_draw : Value}
    {a_law_count : Addr} {od_law_count an_law_count : Option Addr} {sl_law_count : Array (Option Value)} {oc_law_count kV_law_count dc_law_count pm_law_count cd_law_count ct_law_count : Value}
    {a_law_in : Addr} {od_law_in an_law_in : Option Addr} {sl_law_in : Array (Option Value)} {oc_law_in kV_law_in dc_law_in pm_law_in cd_law_in ct_law_in : Value}
    {a_law_refused : Addr} {od_law_refused an_law_refused : Option Addr} {sl_law_refused : Array (Option Value)} {oc_law_refused kV_law_refused dc_law_refused pm_law_refused cd_law_refused ct_law_refused : Value}
    {a_law_right : Addr} {od_law_right an_law_right : Option Addr} {sl_law_right : Array (Option Value)} {oc_law_right kV_law_right dc_law_right pm_law_right cd_law_right ct_law_right : Value}
    {a_law_few : Addr} {od_law_few an_law_few : Option Addr} {sl_law_few : Array (Option Value)} {oc_law_few kV_law_few dc_law_few pm_law_few cd_law_few ct_law_few : Value}
    {a_law : Addr} {od_law an_law : Option Addr} {sl_law : Array (Option Value)} {oc_law kV_law dc_law pm_law cd_law ct_law : Value}
    {t_GREATEST : Tok}
    {t_FIGURES : Tok}
    (ns_is_number : PySem.W.nsIn K mainGlobals "is_number" = some (some (.ref a_is_number)))
    (lk_is_number : K.lookup a_is_number = some ⟨oc_is_number, od_is_number, .func (PySem.W.fnOf "is_number" "is_number" (defArgs s_is_number) (defBody s_is_number) (defScope s_is_number) .none kV_is_number dc_is_number pm_is_number an_is_number cd_is_number ct_is_number), sl_is_number⟩)
    (co_is_number : PySem.W.codeIn K cd_is_number "is_number" = true)
    (kp_is_number : PySem.W.keepIn K (.ref a_is_number) = true)
    (ns_check_number : PySem.W.nsIn K mainGlobals "check_number" = some (some (.ref a_check_number)))
    (lk_check_number : K.lookup a_check_number = some ⟨oc_check_number, od_check_number, .func (PySem.W.fnOf "check_number" "check_number" (defArgs s_check_number) (defBody s_check_number) (defScope s_check_number) .none kV_check_number dc_check_number pm_check_number an_check_number cd_check_number ct_check_number), sl_check_number⟩)
    (co_check_number : PySem.W.codeIn K cd_check_number "check_number" = true)
    (kp_check_number : PySem.W.keepIn K (.ref a_check_number) = true)
    (ns_is_sum : PySem.W.nsIn K mainGlobals "is_sum" = some (some (.ref a_is_sum)))
    (lk_is_sum : K.lookup a_is_sum = some ⟨oc_is_sum, od_is_sum, .func (PySem.W.fnOf "is_sum" "is_sum" (defArgs s_is_sum) (defBody s_is_sum) (defScope s_is_sum) .none kV_is_sum dc_is_sum pm_is_sum an_is_sum cd_is_sum ct_is_sum), sl_is_sum⟩)
    (co_is_sum : PySem.W.codeIn K cd_is_sum "is_sum" = true)
    (kp_is_sum : PySem.W.keepIn K (.ref a_is_sum) = true)
    (ns_check_parts : PySem.W.nsIn K mainGlobals "check_parts" = some (some (.ref a_check_parts)))
    (lk_check_parts : K.lookup a_check_parts = some ⟨oc_check_parts, od_check_parts, .func (PySem.W.fnOf "check_parts" "check_parts" (defArgs s_check_parts) (defBody s_check_parts) (defScope s_check_parts) .none kV_check_parts dc_check_parts pm_check_parts an_check_parts cd_check_parts ct_check_parts), sl_check_parts⟩)
    (co_check_parts : PySem.W.codeIn K cd_check_parts "check_parts" = true)
    (kp_check_parts : PySem.W.keepIn K (.ref a_check_parts) = true)
    (ns_written : PySem.W.nsIn K mainGlobals "written" = some (some (.ref a_written)))
    (lk_written : K.lookup a_written = some ⟨oc_written, od_written, .func (PySem.W.fnOf "written" "written" (defArgs s_written) (defBody s_written) (defScope s_written) .none kV_written dc_written pm_written an_written cd_written ct_written), sl_written⟩)
    (co_written : PySem.W.codeIn K cd_written "written" = true)
    (kp_written : PySem.W.keepIn K (.ref a_written) = true)
    (ns_number_in : PySem.W.nsIn K mainGlobals "number_in" = some (some (.ref a_number_in)))
    (lk_number_in : K.lookup a_number_in = some ⟨oc_number_in, od_number_in, .func (PySem.W.fnOf "number_in" "number_in" (defArgs s_number_in) (defBody s_number_in) (defScope s_number_in) .none kV_number_in dc_number_in pm_number_in an_number_in cd_number_in ct_number_in), sl_number_in⟩)
    (co_number_in : PySem.W.codeIn K cd_number_in "number_in" = true)
    (kp_number_in : PySem.W.keepIn K (.ref a_number_in) = true)
    (ns_read : PySem.W.nsIn K mainGlobals "read" = some (some (.ref a_read)))
    (lk_read : K.lookup a_read = some ⟨oc_read, od_read, .func (PySem.W.fnOf "read" "read" (defArgs s_read) (defBody s_read) (defScope s_read) .none kV_read dc_read pm_read an_read cd_read ct_read), sl_read⟩)
    (co_read : PySem.W.codeIn K cd_read "read" = true)
    (kp_read : PySem.W.keepIn K (.ref a_read) = true)
    (ns_law_cell_at : PySem.W.nsIn K mainGlobals "_law_cell_at" = some (some (.ref a_law_cell_at)))
    (lk_law_cell_at : K.lookup a_law_cell_at = some ⟨oc_law_cell_at, od_law_cell_at, .func (PySem.W.fnOf "_law_cell_at" "_law_cell_at" (defArgs s_law_cell_at) (defBody s_law_cell_at) (defScope s_law_cell_at) .none kV_law_cell_at dc_law_cell_at pm_law_cell_at an_law_cell_at cd_law_cell_at ct_law_cell_at), sl_law_cell_at⟩)
    (co_law_cell_at : PySem.W.codeIn K cd_law_cell_at "_law_cell_at" = true)
    (kp_law_cell_at : PySem.W.keepIn K (.ref a_law_cell_at) = true)
    (ns_law_draw : PySem.W.nsIn K mainGlobals "_law_draw" = some (some (.ref a_law_draw)))
    (lk_law_draw : K.lookup a_law_draw = some ⟨oc_law_draw, od_law_draw, .func (PySem.W.fnOf "_law_draw" "_law_draw" (defArgs s_law_draw) (defBody s_law_draw) (defScope s_law_draw) .none kV_law_draw dc_law_draw pm_law_draw an_law_draw cd_law_draw ct_law_draw), sl_law_draw⟩)
    (co_law_draw : PySem.W.codeIn K cd_law_draw "_law_draw" = true)
    (kp_law_draw : PySem.W.keepIn K (.ref a_law_draw) = true)
    (ns_law_count : PySem.W.nsIn K mainGlobals "_law_count" = some (some (.ref a_law_count)))
    (lk_law_count : K.lookup a_law_count = some ⟨oc_law_count, od_law_count, .func (PySem.W.fnOf "_law_count" "_law_count" (defArgs s_law_count) (defBody s_law_count) (defScope s_law_count) .none kV_law_count dc_law_count pm_law_count an_law_count cd_law_count ct_law_count), sl_law_count⟩)
    (co_law_count : PySem.W.codeIn K cd_law_count "_law_count" = true)
    (kp_law_count : PySem.W.keepIn K (.ref a_law_count) = true)
    (ns_law_in : PySem.W.nsIn K mainGlobals "_law_in" = some (some (.ref a_law_in)))
    (lk_law_in : K.lookup a_law_in = some ⟨oc_law_in, od_law_in, .func (PySem.W.fnOf "_law_in" "_law_in" (defArgs s_law_in) (defBody s_law_in) (defScope s_law_in) .none kV_law_in dc_law_in pm_law_in an_law_in cd_law_in ct_law_in), sl_law_in⟩)
    (co_law_in : PySem.W.codeIn K cd_law_in "_law_in" = true)
    (kp_law_in : PySem.W.keepIn K (.ref a_law_in) = true)
    (ns_law_refused : PySem.W.nsIn K mainGlobals "_law_refused" = some (some (.ref a_law_refused)))
    (lk_law_refused : K.lookup a_law_refused = some ⟨oc_law_refused, od_law_refused, .func (PySem.W.fnOf "_law_refused" "_law_refused" (defArgs s_law_refused) (defBody s_law_refused) (defScope s_law_refused) .none kV_law_refused dc_law_refused pm_law_refused an_law_refused cd_law_refused ct_law_refused), sl_law_refused⟩)
    (co_law_refused : PySem.W.codeIn K cd_law_refused "_law_refused" = true)
    (kp_law_refused : PySem.W.keepIn K (.ref a_law_refused) = true)
    (ns_law_right : PySem.W.nsIn K mainGlobals "_law_right" = some (some (.ref a_law_right)))
    (lk_law_right : K.lookup a_law_right = some ⟨oc_law_right, od_law_right, .func (PySem.W.fnOf "_law_right" "_law_right" (defArgs s_law_right) (defBody s_law_right) (defScope s_law_right) .none kV_law_right dc_law_right pm_law_right an_law_right cd_law_right ct_law_right), sl_law_right⟩)
    (co_law_right : PySem.W.codeIn K cd_law_right "_law_right" = true)
    (kp_law_right : PySem.W.keepIn K (.ref a_law_right) = true)
    (ns_law_few : PySem.W.nsIn K mainGlobals "_law_few" = some (some (.ref a_law_few)))
    (lk_law_few : K.lookup a_law_few = some ⟨oc_law_few, od_law_few, .func (PySem.W.fnOf "_law_few" "_law_few" (defArgs s_law_few) (defBody s_law_few) (defScope s_law_few) .none kV_law_few dc_law_few pm_law_few an_law_few cd_law_few ct_law_few), sl_law_few⟩)
    (co_law_few : PySem.W.codeIn K cd_law_few "_law_few" = true)
    (kp_law_few : PySem.W.keepIn K (.ref a_law_few) = true)
    (ns_law : PySem.W.nsIn K mainGlobals "law" = some (some (.ref a_law)))
    (lk_law : K.lookup a_law = some ⟨oc_law, od_law, .func (PySem.W.fnOf "law" "law" (defArgs s_law) (defBody s_law) (defScope s_law) .none kV_law dc_law pm_law an_law cd_law ct_law), sl_law⟩)
    (co_law : PySem.W.codeIn K cd_law "law" = true)
    (kp_law : PySem.W.keepIn K (.ref a_law) = true)
    (ns_GREATEST : PySem.W.nsIn K mainGlobals "GREATEST" = some (some (.int 10000 t_GREATEST)))
    (ns_FIGURES : PySem.W.nsIn K mainGlobals "FIGURES" = some (some (.str (PySem.Str.ofString "0123456789") t_FIGURES)))
    (z_ValueError : PySem.W.nsIn K mainGlobals "ValueError" = some none)
    (z_all : PySem.W.nsIn K mainGlobals "all" = some none)
    (z_any : PySem.W.nsIn K mainGlobals "any" = some none)
    (z_bool : PySem.W.nsIn K mainGlobals "bool" = some none)
    (z_int : PySem.W.nsIn K mainGlobals "int" = some none)
    (z_isinstance : PySem.W.nsIn K mainGlobals "isinstance" = some none)
    (z_len : PySem.W.nsIn K mainGlobals "len" = some none)
    (z_list : PySem.W.nsIn K mainGlobals "list" = some none)
    (z_range : PySem.W.nsIn K mainGlobals "range" = some none)
    (z_sorted : PySem.W.nsIn K mainGlobals "sorted" = some none)
    (z_str : PySem.W.nsIn K mainGlobals "str" = some none)
    (z_sum : PySem.W.nsIn K mainGlobals "sum" = some none)
    (z_tuple : PySem.W.nsIn K mainGlobals "tuple" = some none)
    (ns_SquareError : PySem.W.nsIn K mainGlobals "SquareError" = some (some (.ref c_SquareError)))
    (b_SquareError : PySem.W.subIn K (.ref c_SquareError) (.type "BaseException") = some true)
    (d_SquareError : PySem.W.hasDictIn K c_SquareError = true)
    (t_SquareError : PySem.W.typeIn K (.ref c_SquareError) = some (.type "type"))
    (ns_BadNumber : PySem.W.nsIn K mainGlobals "BadNumber" = some (some (.ref c_BadNumber)))
    (b_BadNumber : PySem.W.subIn K (.ref c_BadNumber) (.type "BaseException") = some true)
    (d_BadNumber : PySem.W.hasDictIn K c_BadNumber = true)
    (t_BadNumber : PySem.W.typeIn K (.ref c_BadNumber) = some (.type "type"))
    (x_BadNumber : PySem.W.excIn K c_BadNumber [.type "ValueError", .type "Exception", .type "BaseException", .type "object"] "ValueError.__new__" = true)
    (k_BadNumber : PySem.W.keepIn K (.ref c_BadNumber) = true)
    (s_BadNumber : PySem.W.subIn K (.ref c_BadNumber) (.ref c_SquareError) = some true)
    (eg_BadNumber : PySem.W.findIn K (.ref c_BadNumber) "__getattribute__" = some (some (.builtin "BaseException.__getattribute__")))
    (ek_BadNumber : PySem.W.findIn K (.ref c_BadNumber) "__getattr__" = some none)
    (ea_BadNumber : PySem.W.findIn K (.ref c_BadNumber) "__class__" = some (some (.builtin "object.__class__")))
    (em_BadNumber : PySem.W.mroIn K c_BadNumber (.type "object") = some true)
    (ns_BadPrime : PySem.W.nsIn K mainGlobals "BadPrime" = some (some (.ref c_BadPrime)))
    (b_BadPrime : PySem.W.subIn K (.ref c_BadPrime) (.type "BaseException") = some true)
    (d_BadPrime : PySem.W.hasDictIn K c_BadPrime = true)
    (t_BadPrime : PySem.W.typeIn K (.ref c_BadPrime) = some (.type "type"))
    (x_BadPrime : PySem.W.excIn K c_BadPrime [.type "ValueError", .type "Exception", .type "BaseException", .type "object"] "ValueError.__new__" = true)
    (k_BadPrime : PySem.W.keepIn K (.ref c_BadPrime) = true)
    (s_BadPrime : PySem.W.subIn K (.ref c_BadPrime) (.ref c_SquareError) = some true)
    (eg_BadPrime : PySem.W.findIn K (.ref c_BadPrime) "__getattribute__" = some (some (.builtin "BaseException.__getattribute__")))
    (ek_BadPrime : PySem.W.findIn K (.ref c_BadPrime) "__getattr__" = some none)
    (ea_BadPrime : PySem.W.findIn K (.ref c_BadPrime) "__class__" = some (some (.builtin "object.__class__")))
    (em_BadPrime : PySem.W.mroIn K c_BadPrime (.type "object") = some true)
    (ns_BadParts : PySem.W.nsIn K mainGlobals "BadParts" = some (some (.ref c_BadParts)))
    (b_BadParts : PySem.W.subIn K (.ref c_BadParts) (.type "BaseException") = some true)
    (d_BadParts : PySem.W.hasDictIn K c_BadParts = true)
    (t_BadParts : PySem.W.typeIn K (.ref c_BadParts) = some (.type "type"))
    (x_BadParts : PySem.W.excIn K c_BadParts [.type "ValueError", .type "Exception", .type "BaseException", .type "object"] "ValueError.__new__" = true)
    (k_BadParts : PySem.W.keepIn K (.ref c_BadParts) = true)
    (s_BadParts : PySem.W.subIn K (.ref c_BadParts) (.ref c_SquareError) = some true)
    (eg_BadParts : PySem.W.findIn K (.ref c_BadParts) "__getattribute__" = some (some (.builtin "BaseException.__getattribute__")))
    (ek_BadParts : PySem.W.findIn K (.ref c_BadParts) "__getattr__" = some none)
    (ea_BadParts : PySem.W.findIn K (.ref c_BadParts) "__class__" = some (some (.builtin "object.__class__")))
    (em_BadParts : PySem.W.mroIn K c_BadParts (.type "object") = some true)
    (ns_BadWalk : PySem.W.nsIn K mainGlobals "BadWalk" = some (some (.ref c_BadWalk)))
    (b_BadWalk : PySem.W.subIn K (.ref c_BadWalk) (.type "BaseException") = some true)
    (d_BadWalk : PySem.W.hasDictIn K c_BadWalk = true)
    (t_BadWalk : PySem.W.typeIn K (.ref c_BadWalk) = some (.type "type"))
    (x_BadWalk : PySem.W.excIn K c_BadWalk [.type "ValueError", .type "Exception", .type "BaseException", .type "object"] "ValueError.__new__" = true)
    (k_BadWalk : PySem.W.keepIn K (.ref c_BadWalk) = true)
    (s_BadWalk : PySem.W.subIn K (.ref c_BadWalk) (.ref c_SquareError) = some true)
    (eg_BadWalk : PySem.W.findIn K (.ref c_BadWalk) "__getattribute__" = some (some (.builtin "BaseException.__getattribute__")))
    (ek_BadWalk : PySem.W.findIn K (.ref c_BadWalk) "__getattr__" = some none)
    (ea_BadWalk : PySem.W.findIn K (.ref c_BadWalk) "__class__" = some (some (.builtin "object.__class__")))
    (em_BadWalk : PySem.W.mroIn K c_BadWalk (.type "object") = some true)
    (ns_BadText : PySem.W.nsIn K mainGlobals "BadText" = some (some (.ref c_BadText)))
    (b_BadText : PySem.W.subIn K (.ref c_BadText) (.type "BaseException") = some true)
    (d_BadText : PySem.W.hasDictIn K c_BadText = true)
    (t_BadText : PySem.W.typeIn K (.ref c_BadText) = some (.type "type"))
    (x_BadText : PySem.W.excIn K c_BadText [.type "ValueError", .type "Exception", .type "BaseException", .type "object"] "ValueError.__new__" = true)
    (k_BadText : PySem.W.keepIn K (.ref c_BadText) = true)
    (s_BadText : PySem.W.subIn K (.ref c_BadText) (.ref c_SquareError) = some true)
    (eg_BadText : PySem.W.findIn K (.ref c_BadText) "__getattribute__" = some (some (.builtin "BaseException.__getattribute__")))
    (ek_BadText : PySem.W.findIn K (.ref c_BadText) "__getattr__" = some none)
    (ea_BadText : PySem.W.findIn K (.ref c_BadText) "__class__" = some (some (.builtin "object.__class__")))
    (em_BadText : PySem.W.mroIn K c_BadText (.type "object") = some true)
    (is_BadText_BadNumber : PySem.W.kitOne K (.ref c_BadText) (.ref c_BadNumber) = some false)
    (is_BadText_BadParts : PySem.W.kitOne K (.ref c_BadText) (.ref c_BadParts) = some false)
    (is_BadText_BadPrime : PySem.W.kitOne K (.ref c_BadText) (.ref c_BadPrime) = some false)
    (is_BadText_BadWalk : PySem.W.kitOne K (.ref c_BadText) (.ref c_BadWalk) = some false)
    (is_BadText_BadText : PySem.W.kitOne K (.ref c_BadText) (.ref c_BadText) = some true)
    (is_BadText_ValueError : PySem.W.kitOne K (.ref c_BadText) (.type "ValueError") = some true)
    (y_BadNumber_BadNumber : PySem.W.subIn K (.ref c_BadNumber) (.ref c_BadNumber) = some true)
    (y_BadNumber_BadParts : PySem.W.subIn K (.ref c_BadNumber) (.ref c_BadParts) = some false)
    (y_BadParts_BadNumber : PySem.W.subIn K (.ref c_BadParts) (.ref c_BadNumber) = some false)
    (y_BadParts_BadParts : PySem.W.subIn K (.ref c_BadParts) (.ref c_BadParts) = some true)
    (hn : PySem.W.specialIn K (.builtin "object.__class__") "__get__" = some (some (.builtin "getset_descriptor.__get__")))
    (htk : PySem.W.takesIn K (.builtin "object.__class__") = some true) :
    ∃ fd : FuncData, (∀ (s : Shared) (v : Value), BindsTo s fd ⟨[v], []⟩ [("_law_script", v)]) ∧ ∀ base : Heap, K.In base → base.Ns mainGlobals mg → FnOk l.prog w K mg base CX0 6 fa fd ["_law_script"] (spLaw K) := by
  have e := hfa.symm.trans (PySem.W.mg_of X G ns_law)
  cases e
  exact ⟨PySem.W.fnOf "law" "law" (defArgs s_law) (defBody s_law) (defScope s_law) .none kV_law dc_law pm_law an_law cd_law ct_law, fun s v => .of_eq rfl, fun base _ _ => ok_law {
    a_is_number := a_is_number
    d_is_number := _
    F_is_number := fun_mk (st := s_is_number) lk_is_number co_is_number kp_is_number
    b_is_number := (fun_mk (st := s_is_number) lk_is_number co_is_number kp_is_number).binds (ps := ["thing", "low", "high"]) fun _ _ _ _ _ _ us hl => match us, hl with | [_, _, _], _ => rfl
    g_is_number := PySem.W.mg_of X G ns_is_number
    a_check_number := a_check_number
    d_check_number := _
    F_check_number := fun_mk (st := s_check_number) lk_check_number co_check_number kp_check_number
    b_check_number := (fun_mk (st := s_check_number) lk_check_number co_check_number kp_check_number).binds (ps := ["number", "low", "high"]) fun _ _ _ _ _ _ us hl => match us, hl with | [_, _, _], _ => rfl
    g_check_number := PySem.W.mg_of X G ns_check_number
    a_is_sum := a_is_sum
    d_is_sum := _
    F_is_sum := fun_mk (st := s_is_sum) lk_is_sum co_is_sum kp_is_sum
    b_is_sum := (fun_mk (st := s_is_sum) lk_is_sum co_is_sum kp_is_sum).binds (ps := ["parts", "number"]) fun _ _ _ _ _ _ us hl => match us, hl with | [_, _], _ => rfl
    g_is_sum := PySem.W.mg_of X G ns_is_sum
    a_check_parts := a_check_parts
    d_check_parts := _
    F_check_parts := fun_mk (st := s_check_parts) lk_check_parts co_check_parts kp_check_parts
    b_check_parts := (fun_mk (st := s_check_parts) lk_check_parts co_check_parts kp_check_parts).binds (ps := ["number", "parts"]) fun _ _ _ _ _ _ us hl => match us, hl with | [_, _], _ => rfl
    g_check_parts := PySem.W.mg_of X G ns_check_parts
    a_written := a_written
    d_written := _
    F_written := fun_mk (st := s_written) lk_written co_written kp_written
    b_written := (fun_mk (st := s_written) lk_written co_written kp_written).binds (ps := ["number", "parts"]) fun _ _ _ _ _ _ us hl => match us, hl with | [_, _], _ => rfl
    g_written := PySem.W.mg_of X G ns_written
    a_number_in := a_number_in
    d_number_in := _
    F_number_in := fun_mk (st := s_number_in) lk_number_in co_number_in kp_number_in
    b_number_in := (fun_mk (st := s_number_in) lk_number_in co_number_in kp_number_in).binds (ps := ["text"]) fun _ _ _ _ _ _ us hl => match us, hl with | [_], _ => rfl
    g_number_in := PySem.W.mg_of X G ns_number_in
    a_read := a_read
    d_read := _
    F_read := fun_mk (st := s_read) lk_read co_read kp_read
    b_read := (fun_mk (st := s_read) lk_read co_read kp_read).binds (ps := ["text"]) fun _ _ _ _ _ _ us hl => match us, hl with | [_], _ => rfl
    g_read := PySem.W.mg_of X G ns_read
    a_law_cell_at := a_law_cell_at
    d_law_cell_at := _
    F_law_cell_at := fun_mk (st := s_law_cell_at) lk_law_cell_at co_law_cell_at kp_law_cell_at
    b_law_cell_at := (fun_mk (st := s_law_cell_at) lk_law_cell_at co_law_cell_at kp_law_cell_at).binds (ps := ["_law_script", "_law_k"]) fun _ _ _ _ _ _ us hl => match us, hl with | [_, _], _ => rfl
    g_law_cell_at := PySem.W.mg_of X G ns_law_cell_at
    a_law_draw := a_law_draw
    d_law_draw := _
    F_law_draw := fun_mk (st := s_law_draw) lk_law_draw co_law_draw kp_law_draw
    b_law_draw := (fun_mk (st := s_law_draw) lk_law_draw co_law_draw kp_law_draw).binds (ps := ["_law_cell", "_law_k", "_law_many"]) fun _ _ _ _ _ _ us hl => match us, hl with | [_, _, _], _ => rfl
    g_law_draw := PySem.W.mg_of X G ns_law_draw
    a_law_count := a_law_count
    d_law_count := _
    F_law_count := fun_mk (st := s_law_count) lk_law_count co_law_count kp_law_count
    b_law_count := (fun_mk (st := s_law_count) lk_law_count co_law_count kp_law_count).binds (ps := ["_law_text"]) fun _ _ _ _ _ _ us hl => match us, hl with | [_], _ => rfl
    g_law_count := PySem.W.mg_of X G ns_law_count
    a_law_in := a_law_in
    d_law_in := _
    F_law_in := fun_mk (st := s_law_in) lk_law_in co_law_in kp_law_in
    b_law_in := (fun_mk (st := s_law_in) lk_law_in co_law_in kp_law_in).binds (ps := ["_law_text"]) fun _ _ _ _ _ _ us hl => match us, hl with | [_], _ => rfl
    g_law_in := PySem.W.mg_of X G ns_law_in
    a_law_refused := a_law_refused
    d_law_refused := _
    F_law_refused := fun_mk (st := s_law_refused) lk_law_refused co_law_refused kp_law_refused
    b_law_refused := (fun_mk (st := s_law_refused) lk_law_refused co_law_refused kp_law_refused).binds (ps := ["_law_text"]) fun _ _ _ _ _ _ us hl => match us, hl with | [_], _ => rfl
    g_law_refused := PySem.W.mg_of X G ns_law_refused
    a_law_right := a_law_right
    d_law_right := _
    F_law_right := fun_mk (st := s_law_right) lk_law_right co_law_right kp_law_right
    b_law_right := (fun_mk (st := s_law_right) lk_law_right co_law_right kp_law_right).binds (ps := ["_law_text"]) fun _ _ _ _ _ _ us hl => match us, hl with | [_], _ => rfl
    g_law_right := PySem.W.mg_of X G ns_law_right
    a_law_few := a_law_few
    d_law_few := _
    F_law_few := fun_mk (st := s_law_few) lk_law_few co_law_few kp_law_few
    b_law_few := (fun_mk (st := s_law_few) lk_law_few co_law_few kp_law_few).binds (ps := []) fun _ _ _ _ _ _ us hl => match us, hl with | [], _ => rfl
    g_law_few := PySem.W.mg_of X G ns_law_few
    a_law := fa
    d_law := _
    F_law := fun_mk (st := s_law) lk_law co_law kp_law
    b_law := (fun_mk (st := s_law) lk_law co_law kp_law).binds (ps := ["_law_script"]) fun _ _ _ _ _ _ us hl => match us, hl with | [_], _ => rfl
    g_law := PySem.W.mg_of X G ns_law
    t_GREATEST := t_GREATEST
    g_GREATEST := PySem.W.mg_of X G ns_GREATEST
    t_FIGURES := t_FIGURES
    g_FIGURES := PySem.W.mg_of X G ns_FIGURES
    z_ValueError := PySem.W.mg_none_of X G z_ValueError
    z_all := PySem.W.mg_none_of X G z_all
    z_any := PySem.W.mg_none_of X G z_any
    z_bool := PySem.W.mg_none_of X G z_bool
    z_int := PySem.W.mg_none_of X G z_int
    z_isinstance := PySem.W.mg_none_of X G z_isinstance
    z_len := PySem.W.mg_none_of X G z_len
    z_list := PySem.W.mg_none_of X G z_list
    z_range := PySem.W.mg_none_of X G z_range
    z_sorted := PySem.W.mg_none_of X G z_sorted
    z_str := PySem.W.mg_none_of X G z_str
    z_sum := PySem.W.mg_none_of X G z_sum
    z_tuple := PySem.W.mg_none_of X G z_tuple
    c_SquareError := c_SquareError
    g_SquareError := PySem.W.mg_of X G ns_SquareError
    b_SquareError := b_SquareError
    d_SquareError := d_SquareError
    t_SquareError := t_SquareError
    c_BadNumber := c_BadNumber
    g_BadNumber := PySem.W.mg_of X G ns_BadNumber
    b_BadNumber := b_BadNumber
    d_BadNumber := d_BadNumber
    t_BadNumber := t_BadNumber
    x_BadNumber := x_BadNumber
    k_BadNumber := k_BadNumber
    s_BadNumber := s_BadNumber
    E_BadNumber := ⟨eg_BadNumber, ek_BadNumber, b_BadNumber, d_BadNumber, ea_BadNumber, hn, htk, em_BadNumber⟩
    c_BadPrime := c_BadPrime
    g_BadPrime := PySem.W.mg_of X G ns_BadPrime
    b_BadPrime := b_BadPrime
    d_BadPrime := d_BadPrime
    t_BadPrime := t_BadPrime
    x_BadPrime := x_BadPrime
    k_BadPrime := k_BadPrime
    s_BadPrime := s_BadPrime
    E_BadPrime := ⟨eg_BadPrime, ek_BadPrime, b_BadPrime, d_BadPrime, ea_BadPrime, hn, htk, em_BadPrime⟩
    c_BadParts := c_BadParts
    g_BadParts := PySem.W.mg_of X G ns_BadParts
    b_BadParts := b_BadParts
    d_BadParts := d_BadParts
    t_BadParts := t_BadParts
    x_BadParts := x_BadParts
    k_BadParts := k_BadParts
    s_BadParts := s_BadParts
    E_BadParts := ⟨eg_BadParts, ek_BadParts, b_BadParts, d_BadParts, ea_BadParts, hn, htk, em_BadParts⟩
    c_BadWalk := c_BadWalk
    g_BadWalk := PySem.W.mg_of X G ns_BadWalk
    b_BadWalk := b_BadWalk
    d_BadWalk := d_BadWalk
    t_BadWalk := t_BadWalk
    x_BadWalk := x_BadWalk
    k_BadWalk := k_BadWalk
    s_BadWalk := s_BadWalk
    E_BadWalk := ⟨eg_BadWalk, ek_BadWalk, b_BadWalk, d_BadWalk, ea_BadWalk, hn, htk, em_BadWalk⟩
    c_BadText := c_BadText
    g_BadText := PySem.W.mg_of X G ns_BadText
    b_BadText := b_BadText
    d_BadText := d_BadText
    t_BadText := t_BadText
    x_BadText := x_BadText
    k_BadText := k_BadText
    s_BadText := s_BadText
    E_BadText := ⟨eg_BadText, ek_BadText, b_BadText, d_BadText, ea_BadText, hn, htk, em_BadText⟩
    is_BadText_BadNumber := is_BadText_BadNumber
    is_BadText_BadParts := is_BadText_BadParts
    is_BadText_BadPrime := is_BadText_BadPrime
    is_BadText_BadWalk := is_BadText_BadWalk
    is_BadText_BadText := is_BadText_BadText
    is_BadText_ValueError := is_BadText_ValueError
    y_BadNumber_BadNumber := y_BadNumber_BadNumber
    y_BadNumber_BadParts := y_BadNumber_BadParts
    y_BadParts_BadNumber := y_BadParts_BadNumber
    y_BadParts_BadParts := y_BadParts_BadParts }⟩
end Sq
open PySem PySem.W PyProof.Rows
set_option maxHeartbeats 0 in
theorem PySem.Challenge.cw_squarefield_k08_written_holds : PySem.Challenge.rw_squarefield_k08_written.Holds := by
  w_on; o_law; k_head; (case hw => w_witness2)
  k_fill
  refine L2.walk_of (l := PySem.Challenge.rw_squarefield_k08_written) (n := 63) (k := 6) (x := "_law_script") (CX := fun _ => L2.CX0) (sp := fun w => Sq.spLaw _) rfl (by decide) rfl ⟨rfl, by decide, by decide⟩ (fun w h Y => PySem.W.kIn_of Y) ?F (fun _ _ a ns hl _ hS => ⟨a, ns, rfl, hS, hl, fun _ => rfl⟩) (fun _ _ _ _ _ h => h)
  case F =>
    intro w mg fa h KX G hmg
    refine' Sq.all_mk KX G hmg ?ns_is_number ?lk_is_number ?co_is_number ?kp_is_number ?ns_check_number ?lk_check_number ?co_check_number ?kp_check_number ?ns_is_sum ?lk_is_sum ?co_is_sum ?kp_is_sum ?ns_check_parts ?lk_check_parts ?co_check_parts ?kp_check_parts ?ns_written ?lk_written ?co_written ?kp_written ?ns_number_in ?lk_number_in ?co_number_in ?kp_number_in ?ns_read ?lk_read ?co_read ?kp_read ?ns_law_cell_at ?lk_law_cell_at ?co_law_cell_at ?kp_law_cell_at ?ns_law_draw ?lk_law_draw ?co_law_draw ?kp_law_draw ?ns_law_count ?lk_law_count ?co_law_count ?kp_law_count ?ns_law_in ?lk_law_in ?co_law_in ?kp_law_in ?ns_law_refused ?lk_law_refused ?co_law_refused ?kp_law_refused ?ns_law_right ?lk_law_right ?co_law_right ?kp_law_right ?ns_law_few ?lk_law_few ?co_law_few ?kp_law_few ?ns_law ?lk_law ?co_law ?kp_law ?ns_GREATEST ?ns_FIGURES ?z_ValueError ?z_all ?z_any ?z_bool ?z_int ?z_isinstance ?z_len ?z_list ?z_range ?z_sorted ?z_str ?z_sum ?z_tuple ?ns_SquareError ?b_SquareError ?d_SquareError ?t_SquareError ?ns_BadNumber ?b_BadNumber ?d_BadNumber ?t_BadNumber ?x_BadNumber ?k_BadNumber ?s_BadNumber ?eg_BadNumber ?ek_BadNumber ?ea_BadNumber ?em_BadNumber ?ns_BadPrime ?b_BadPrime ?d_BadPrime ?t_BadPrime ?x_BadPrime ?k_BadPrime ?s_BadPrime ?eg_BadPrime ?ek_BadPrime ?ea_BadPrime ?em_BadPrime ?ns_BadParts ?b_BadParts ?d_BadParts ?t_BadParts ?x_BadParts ?k_BadParts ?s_BadParts ?eg_BadParts ?ek_BadParts ?ea_BadParts ?em_BadParts ?ns_BadWalk ?b_BadWalk ?d_BadWalk ?t_BadWalk ?x_BadWalk ?k_BadWalk ?s_BadWalk ?eg_BadWalk ?ek_BadWalk ?ea_BadWalk ?em_BadWalk ?ns_BadText ?b_BadText ?d_BadText ?t_BadText ?x_BadText ?k_BadText ?s_BadText ?eg_BadText ?ek_BadText ?ea_BadText ?em_BadText ?is_BadText_BadNumber ?is_BadText_BadParts ?is_BadText_BadPrime ?is_BadText_BadWalk ?is_BadText_BadText ?is_BadText_ValueError ?y_BadNumber_BadNumber ?y_BadNumber_BadParts ?y_BadParts_BadNumber ?y_BadParts_BadParts ?hn ?htk
    (case ns_SquareError => k_is)
    (case ns_BadNumber => k_is)
    (case ns_BadPrime => k_is)
    (case ns_BadParts => k_is)
    (case ns_BadWalk => k_is)
    (case ns_BadText => k_is)
    (case ns_is_number => k_is)
    (case lk_is_number => k_is)
    (case co_is_number => k_is)
    (case kp_is_number => k_is)
    (case ns_check_number => k_is)
    (case lk_check_number => k_is)
    (case co_check_number => k_is)
    (case kp_check_number => k_is)
    (case ns_is_sum => k_is)
    (case lk_is_sum => k_is)
    (case co_is_sum => k_is)
    (case kp_is_sum => k_is)
    (case ns_check_parts => k_is)
    (case lk_check_parts => k_is)
    (case co_check_parts => k_is)
    (case kp_check_parts => k_is)
    (case ns_written => k_is)
    (case lk_written => k_is)
    (case co_written => k_is)
    (case kp_written => k_is)
    (case ns_number_in => k_is)
    (case lk_number_in => k_is)
    (case co_number_in => k_is)
    (case kp_number_in => k_is)
    (case ns_read => k_is)
    (case lk_read => k_is)
    (case co_read => k_is)
    (case kp_read => k_is)
    (case ns_law_cell_at => k_is)
    (case lk_law_cell_at => k_is)
    (case co_law_cell_at => k_is)
    (case kp_law_cell_at => k_is)
    (case ns_law_draw => k_is)
    (case lk_law_draw => k_is)
    (case co_law_draw => k_is)
    (case kp_law_draw => k_is)
    (case ns_law_count => k_is)
    (case lk_law_count => k_is)
    (case co_law_count => k_is)
    (case kp_law_count => k_is)
    (case ns_law_in => k_is)
    (case lk_law_in => k_is)
    (case co_law_in => k_is)
    (case kp_law_in => k_is)
    (case ns_law_refused => k_is)
    (case lk_law_refused => k_is)
    (case co_law_refused => k_is)
    (case kp_law_refused => k_is)
    (case ns_law_right => k_is)
    (case lk_law_right => k_is)
    (case co_law_right => k_is)
    (case kp_law_right => k_is)
    (case ns_law_few => k_is)
    (case lk_law_few => k_is)
    (case co_law_few => k_is)
    (case kp_law_few => k_is)
    (case ns_law => k_is)
    (case lk_law => k_is)
    (case co_law => k_is)
    (case kp_law => k_is)
    (case ns_GREATEST => k_is)
    (case ns_FIGURES => k_is)
    (case z_ValueError => k_is)
    (case z_all => k_is)
    (case z_any => k_is)
    (case z_bool => k_is)
    (case z_int => k_is)
    (case z_isinstance => k_is)
    (case z_len => k_is)
    (case z_list => k_is)
    (case z_range => k_is)
    (case z_sorted => k_is)
    (case z_str => k_is)
    (case z_sum => k_is)
    (case z_tuple => k_is)
    (case b_SquareError => k_is)
    (case d_SquareError => k_is)
    (case t_SquareError => k_is)
    (case b_BadNumber => k_is)
    (case d_BadNumber => k_is)
    (case t_BadNumber => k_is)
    (case x_BadNumber => k_exc)
    (case k_BadNumber => k_is)
    (case s_BadNumber => k_is)
    (case eg_BadNumber => k_is)
    (case ek_BadNumber => k_is)
    (case ea_BadNumber => k_is)
    (case em_BadNumber => k_is)
    (case b_BadPrime => k_is)
    (case d_BadPrime => k_is)
    (case t_BadPrime => k_is)
    (case x_BadPrime => k_exc)
    (case k_BadPrime => k_is)
    (case s_BadPrime => k_is)
    (case eg_BadPrime => k_is)
    (case ek_BadPrime => k_is)
    (case ea_BadPrime => k_is)
    (case em_BadPrime => k_is)
    (case b_BadParts => k_is)
    (case d_BadParts => k_is)
    (case t_BadParts => k_is)
    (case x_BadParts => k_exc)
    (case k_BadParts => k_is)
    (case s_BadParts => k_is)
    (case eg_BadParts => k_is)
    (case ek_BadParts => k_is)
    (case ea_BadParts => k_is)
    (case em_BadParts => k_is)
    (case b_BadWalk => k_is)
    (case d_BadWalk => k_is)
    (case t_BadWalk => k_is)
    (case x_BadWalk => k_exc)
    (case k_BadWalk => k_is)
    (case s_BadWalk => k_is)
    (case eg_BadWalk => k_is)
    (case ek_BadWalk => k_is)
    (case ea_BadWalk => k_is)
    (case em_BadWalk => k_is)
    (case b_BadText => k_is)
    (case d_BadText => k_is)
    (case t_BadText => k_is)
    (case x_BadText => k_exc)
    (case k_BadText => k_is)
    (case s_BadText => k_is)
    (case eg_BadText => k_is)
    (case ek_BadText => k_is)
    (case ea_BadText => k_is)
    (case em_BadText => k_is)
    (case is_BadText_BadNumber => first | kit_is | k_is)
    (case is_BadText_BadParts => first | kit_is | k_is)
    (case is_BadText_BadPrime => first | kit_is | k_is)
    (case is_BadText_BadWalk => first | kit_is | k_is)
    (case is_BadText_BadText => first | kit_is | k_is)
    (case is_BadText_ValueError => first | kit_is | k_is)
    (case y_BadNumber_BadNumber => k_is)
    (case y_BadNumber_BadParts => k_is)
    (case y_BadParts_BadNumber => k_is)
    (case y_BadParts_BadParts => k_is)
    (case hn => k_is)
    (case htk => k_is)
