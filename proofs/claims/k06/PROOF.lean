import PyProof.Rows.All
import Wide.All
import OpenK.AllK
import Wide.FinOn
import HandS.ForMost
import HandS.ForExc
import HandS.Evl
import HandS.SortInts
import HandS.IsInst
import HandS.Strs
import HandS.Style
import HandS.TupLe
import HandS.Conv
import HandS.RevRange
import HandS.StrMore
import HandS.SortRule
import HandS.SetFor
import KE.RegKIsAll
import PySem.Challenge.RW_squarefield_k06_walks
set_option Elab.async false
set_option linter.all false
set_option maxRecDepth 100000
set_option maxHeartbeats 4000000
/-! ### A layer of our own over the hand layer: what an expression evaluates to, as data (EvD); statements by it -/
namespace Sq
open PySem PySem.Spec PyProof.Rows L2 Evl

/-! #### operators with one kind of operand -/
section
variable {X : Cx}
def rEqI : R2 := rI0 fun i j => .bl (decide (i = j))
def rNeI : R2 := rI0 fun i j => .bl (!decide (i = j))
def rEqB : R2 := fun x y H Q => ∃ a b, x = .bl a ∧ y = .bl b ∧ Q (.bl (decide (a = b))) H
def rNeB : R2 := fun x y H Q => ∃ a b, x = .bl a ∧ y = .bl b ∧ Q (.bl (!decide (a = b))) H
def rEqS : R2 := fun x y H Q => ∃ a b, x = .str a ∧ y = .str b ∧ Q (.bl (decide (a = b))) H
def rNeS : R2 := fun x y H Q => ∃ a b, x = .str a ∧ y = .str b ∧ Q (.bl (!decide (a = b))) H
theorem dec_int (i j : Int) : decide (V.int i = V.int j) = decide (i = j) := by
  by_cases h : i = j
  · rw [decide_eq_true h, decide_eq_true (by rw [h])]
  · rw [decide_eq_false h, decide_eq_false (fun z => h (V.int.inj z))]
theorem dec_bl (i j : Bool) : decide (V.bl i = V.bl j) = decide (i = j) := by
  by_cases h : i = j
  · rw [decide_eq_true h, decide_eq_true (by rw [h])]
  · rw [decide_eq_false h, decide_eq_false (fun z => h (V.bl.inj z))]
theorem dec_str (i j : Str) : decide (V.str i = V.str j) = decide (i = j) := by
  by_cases h : i = j
  · rw [decide_eq_true h, decide_eq_true (by rw [h])]
  · rw [decide_eq_false h, decide_eq_false (fun z => h (V.str.inj z))]
theorem op_eqI : OpR X (compareOp .Eq) rEqI := fun pins s σ H x y v u Q I rx ry h => by
  obtain ⟨i, j, rfl, rfl, q⟩ := h
  exact op_eq pins s σ H _ _ v u Q I rx ry ⟨rfl, by rw [dec_int]; exact q⟩
theorem op_neI : OpR X (compareOp .NotEq) rNeI := fun pins s σ H x y v u Q I rx ry h => by
  obtain ⟨i, j, rfl, rfl, q⟩ := h
  exact op_ne pins s σ H _ _ v u Q I rx ry ⟨rfl, by rw [dec_int]; exact q⟩
theorem op_eqB : OpR X (compareOp .Eq) rEqB := fun pins s σ H x y v u Q I rx ry h => by
  obtain ⟨i, j, rfl, rfl, q⟩ := h
  exact op_eq pins s σ H _ _ v u Q I rx ry ⟨rfl, by rw [dec_bl]; exact q⟩
theorem op_neB : OpR X (compareOp .NotEq) rNeB := fun pins s σ H x y v u Q I rx ry h => by
  obtain ⟨i, j, rfl, rfl, q⟩ := h
  exact op_ne pins s σ H _ _ v u Q I rx ry ⟨rfl, by rw [dec_bl]; exact q⟩
theorem op_eqS : OpR X (compareOp .Eq) rEqS := fun pins s σ H x y v u Q I rx ry h => by
  obtain ⟨i, j, rfl, rfl, q⟩ := h
  exact op_eq pins s σ H _ _ v u Q I rx ry ⟨rfl, by rw [dec_str]; exact q⟩
theorem op_neS : OpR X (compareOp .NotEq) rNeS := fun pins s σ H x y v u Q I rx ry h => by
  obtain ⟨i, j, rfl, rfl, q⟩ := h
  exact op_ne pins s σ H _ _ v u Q I rx ry ⟨rfl, by rw [dec_str]; exact q⟩
def ipD (C : Int → Int → Prop) (f : Int → Int → Int) : TIp := rI C fun i j => .int (f i j)
theorem ip_fdv : PIp X .FloorDiv (ipD CDiv fun i j => i / j) := iop_fdiv
/-- one of two readings -/
def tOr2 (t u : TE) : TE := fun σ H Q => t σ H Q ∨ u σ H Q
theorem pe_or2 {e : Expr} {t u : TE} (h1 : PE X e t) (h2 : PE X e u) : PE X e (tOr2 t u) := ⟨fun pins s σ H Q I h => by
  rcases h with h | h
  · exact h1.run pins s σ H Q I h
  · exact h2.run pins s σ H Q I h⟩
end

/-! #### the layer's rules that name X.K, with K told -/
section
variable {X : Cx} {K : PySem.W.Frag}
def rLenQ (K : PySem.W.Frag) : List V → Hp → VK → Prop := fun xs H Q => ∃ p ys, xs = [.ref p] ∧ (SqL K H p ys ∨ SqT K H p ys) ∧ Q (.int ys.length) H
def rListQ (K : PySem.W.Frag) : List V → Hp → VK → Prop := fun xs H Q => ∃ p ys, xs = [.ref p] ∧ (SqL K H p ys ∨ SqT K H p ys) ∧ ∀ l, H l = none → Q (.ref l) (upd H l (.lst ys))
def rTupQ (K : PySem.W.Frag) : List V → Hp → VK → Prop := fun xs H Q => ∃ p ys, xs = [.ref p] ∧ ((SqL K H p ys ∧ ∀ l, H l = none → Q (.ref l) (upd H l (.tup ys))) ∨ (SqT K H p ys ∧ Q (.ref p) H))
theorem isiQ (e : X.K = K := by rfl) : CallR X (.builtin "isinstance") (rIsi K) := e ▸ call_isi
theorem lenQ (e : X.K = K := by rfl) : CallR X (.builtin "len") (rLenQ K) := e ▸ call_len_seq
theorem listQ (e : X.K = K := by rfl) : CallR X (.type "list") (rListQ K) := e ▸ call_list_of
theorem tupleQ (e : X.K = K := by rfl) : CallR X (.type "tuple") (rTupQ K) := e ▸ call_tuple_of
theorem sumQ (hc : X.calm = true) (e : X.K = K := by rfl) : CallR X (.builtin "sum") (rSum K) := e ▸ cr_sum hc
theorem minQ (hc : X.calm = true) (e : X.K = K := by rfl) : CallR X (.builtin "min") (rMin K) := e ▸ cr_min hc
theorem maxQ (hc : X.calm = true) (e : X.K = K := by rfl) : CallR X (.builtin "max") (rMax K) := e ▸ cr_max hc
theorem allQ (hc : X.calm = true) (e : X.K = K := by rfl) : CallR X (.builtin "all") (rAll K) := e ▸ cr_all hc
theorem anyQ (hc : X.calm = true) (e : X.K = K := by rfl) : CallR X (.builtin "any") (rAny K) := e ▸ cr_any hc
theorem sortedQ (e : X.K = K := by rfl) : CallR X (.builtin "sorted") (rSortedI K) := e ▸ cr_sortedI
theorem ixlQ (e : X.K = K := by rfl) : IxR X (rIxL K) := e ▸ ix_list
theorem ixtQ (e : X.K = K := by rfl) : IxR X (rIxT K) := e ▸ ix_tup
theorem eqdQ (hu : X.A.units + 64 < cLine) (e : X.K = K := by rfl) : OpR X (compareOp .Eq) (rEqD K) := e ▸ op_eqD hu
theorem nedQ (hu : X.A.units + 64 < cLine) (e : X.K = K := by rfl) : OpR X (compareOp .NotEq) (rNeD K) := e ▸ op_neD hu
theorem insQ (e : X.K = K := by rfl) : OpR X (compareOp .In) (rIn K false) := e ▸ op_in_seq
theorem ninsQ (e : X.K = K := by rfl) : OpR X (compareOp .NotIn) (rIn K true) := e ▸ op_notIn_seq
theorem sllQ (e : X.K = K := by rfl) : SlR X (rSlL K) := e ▸ sl_list
theorem pilQ {tg l : Expr} {tl : TE} (hl : PE X l tl) (e : X.K = K := by rfl) : PI X tg l (iList K tl) := e ▸ pi_list hl
theorem pitQ {tg l : Expr} {tl : TE} (hl : PE X l tl) (e : X.K = K := by rfl) : PI X tg l (iTup K tl) := e ▸ pi_tup hl
theorem fldQ {o : Expr} {f : Str} {pos : Pos} {ta : TE} (he : PE X o ta) (hb : attributeBase o f X.env (eval o X.env) = eval o X.env) (e : X.K = K := by rfl) : PE X (.Attribute o f pos) (tFld K ta f) := e ▸ pe_fld he hb
end

/-! #### data: a value is such a datum in the heap (all its lists and tuples tracked) -/
mutual
inductive Rp (H : Hp) : V → PyData → Prop
  | non : Rp H .non .none
  | bl (b : Bool) : Rp H (.bl b) (.bool b)
  | int (i : Int) : Rp H (.int i) (.int i)
  | str (x : Str) : Rp H (.str x) (.str x)
  | lst {a : Addr} {xs : List V} {ds : List PyData} : H a = some (.lst xs) → RpAll H xs ds → Rp H (.ref a) (.list ds)
  | tup {a : Addr} {xs : List V} {ds : List PyData} : H a = some (.tup xs) → RpAll H xs ds → Rp H (.ref a) (.tuple ds)
inductive RpAll (H : Hp) : List V → List PyData → Prop
  | nil : RpAll H [] []
  | cons {v : V} {vs : List V} {d : PyData} {ds : List PyData} : Rp H v d → RpAll H vs ds → RpAll H (v :: vs) (d :: ds)
end
section
variable {K : PySem.W.Frag} {σ : L2.St} {H H' : Hp} {ta tb tc te tx : TE} {t u : TT} {v x y : V} {d d1 d2 : PyData}
mutual
theorem rp_dp : ∀ {v : V} {d : PyData}, Rp H v d → Dp K H v d
  | _, _, .non => .non
  | _, _, .bl b => .bl b
  | _, _, .int i => .int i
  | _, _, .str x => .str x
  | _, _, .lst h a => .lst (SqL.of h) (rpa_dp a)
  | _, _, .tup h a => .tup (SqT.of h) (rpa_dp a)
theorem rpa_dp : ∀ {vs : List V} {ds : List PyData}, RpAll H vs ds → DpAll K H vs ds
  | _, _, .nil => .nil
  | _, _, .cons a b => .cons (rp_dp a) (rpa_dp b)
end
mutual
theorem dp_mono (e : Ex H H') : ∀ {v : V} {d : PyData}, Rp H v d → Rp H' v d
  | _, _, .non => .non
  | _, _, .bl b => .bl b
  | _, _, .int i => .int i
  | _, _, .str x => .str x
  | _, _, .lst h a => .lst (e _ _ h) (dpa_mono e a)
  | _, _, .tup h a => .tup (e _ _ h) (dpa_mono e a)
theorem dpa_mono (e : Ex H H') : ∀ {vs : List V} {ds : List PyData}, RpAll H vs ds → RpAll H' vs ds
  | _, _, .nil => .nil
  | _, _, .cons a b => .cons (dp_mono e a) (dpa_mono e b)
end
theorem dp_int {i : Int} (h : Rp H v (.int i)) : v = .int i := by cases h; rfl
theorem dp_bl {b : Bool} (h : Rp H v (.bool b)) : v = .bl b := by cases h; rfl
theorem dp_str {s : Str} (h : Rp H v (.str s)) : v = .str s := by cases h; rfl
theorem dp_non (h : Rp H v .none) : v = .non := by cases h; rfl
theorem dp_list {ds : List PyData} (h : Rp H v (.list ds)) : ∃ a xs, v = .ref a ∧ H a = some (.lst xs) ∧ RpAll H xs ds := by
  cases h with
  | lst h a => exact ⟨_, _, rfl, h, a⟩
theorem dp_tup {ds : List PyData} (h : Rp H v (.tuple ds)) : ∃ a xs, v = .ref a ∧ H a = some (.tup xs) ∧ RpAll H xs ds := by
  cases h with
  | tup h a => exact ⟨_, _, rfl, h, a⟩
theorem dpa_len {vs : List V} {ds : List PyData} : RpAll H vs ds → vs.length = ds.length
  | .nil => rfl
  | .cons _ b => by rw [List.length_cons, List.length_cons, dpa_len b]
theorem dpa_get : ∀ {vs : List V} {ds : List PyData} {i : Nat} {d : PyData}, RpAll H vs ds → ds[i]? = some d → ∃ v, vs[i]? = some v ∧ Rp H v d
  | _, _, 0, _, .cons a _, e => ⟨_, rfl, by
      have e' := Option.some.inj e
      rw [← e']; exact a⟩
  | _, _, i + 1, _, .cons _ b, e => by
      obtain ⟨v, h1, h2⟩ := dpa_get (i := i) b (by simpa using e)
      exact ⟨v, by simpa using h1, h2⟩
  | _, _, _, _, .nil, e => by simp at e
theorem dpa_get' : ∀ {vs : List V} {ds : List PyData} {i : Nat} {v : V}, RpAll H vs ds → vs[i]? = some v → ∃ d, ds[i]? = some d ∧ Rp H v d
  | _, _, 0, _, .cons a _, e => ⟨_, rfl, by
      have e' := Option.some.inj e
      rw [← e']; exact a⟩
  | _, _, i + 1, _, .cons _ b, e => by
      obtain ⟨v, h1, h2⟩ := dpa_get' (i := i) b (by simpa using e)
      exact ⟨v, by simpa using h1, h2⟩
  | _, _, _, _, .nil, e => by simp at e
theorem dpa_app : ∀ {vs ws : List V} {ds es : List PyData}, RpAll H vs ds → RpAll H ws es → RpAll H (vs ++ ws) (ds ++ es)
  | _, _, _, _, .nil, b => b
  | _, _, _, _, .cons a r, b => .cons a (dpa_app r b)
theorem dpa_cons {vs : List V} {ds : List PyData} (h : RpAll H vs (d :: ds)) : ∃ v r, vs = v :: r ∧ Rp H v d ∧ RpAll H r ds := by
  cases h with
  | cons a b => exact ⟨_, _, rfl, a, b⟩
theorem dpa_nil {vs : List V} (h : RpAll H vs []) : vs = [] := by cases h; rfl
theorem dpa_one {vs : List V} (h : RpAll H vs [d]) : ∃ v, vs = [v] ∧ Rp H v d := by
  obtain ⟨v, r, rfl, h1, h2⟩ := dpa_cons h
  cases dpa_nil h2
  exact ⟨v, rfl, h1⟩
theorem dpa_two {vs : List V} (h : RpAll H vs [d, d1]) : ∃ v w, vs = [v, w] ∧ Rp H v d ∧ Rp H w d1 := by
  obtain ⟨v, r, rfl, h1, h2⟩ := dpa_cons h
  obtain ⟨w, rfl, h3⟩ := dpa_one h2
  exact ⟨v, w, rfl, h1, h3⟩
theorem dpa_three {vs : List V} (h : RpAll H vs [d, d1, d2]) : ∃ v w z, vs = [v, w, z] ∧ Rp H v d ∧ Rp H w d1 ∧ Rp H z d2 := by
  obtain ⟨v, r, rfl, h1, h2⟩ := dpa_cons h
  obtain ⟨w, z, rfl, h3, h4⟩ := dpa_two h2
  exact ⟨v, w, z, rfl, h1, h3, h4⟩
theorem dpa_ints : ∀ {vs : List V} {ns : List Int}, RpAll H vs (ns.map .int) → vs = ns.map V.int
  | _, [], h => dpa_nil h
  | _, n :: ns, h => by
    obtain ⟨v, r, rfl, h1, h2⟩ := dpa_cons (d := .int n) (ds := ns.map .int) h
    rw [dp_int h1, dpa_ints h2, List.map_cons]
theorem dpa_of_ints (H : Hp) : ∀ ns : List Int, RpAll H (ns.map V.int) (ns.map .int)
  | [] => .nil
  | n :: ns => .cons (.int n) (dpa_of_ints H ns)
theorem dpa_bls : ∀ {vs : List V} {ns : List Bool}, RpAll H vs (ns.map .bool) → vs = ns.map V.bl
  | _, [], h => dpa_nil h
  | _, n :: ns, h => by
    obtain ⟨v, r, rfl, h1, h2⟩ := dpa_cons (d := .bool n) (ds := ns.map .bool) h
    rw [dp_bl h1, dpa_bls h2, List.map_cons]
theorem dpa_of_bls (H : Hp) : ∀ ns : List Bool, RpAll H (ns.map V.bl) (ns.map .bool)
  | [] => .nil
  | n :: ns => .cons (.bl n) (dpa_of_bls H ns)
theorem dpa_strs : ∀ {vs : List V} {ns : List Str}, RpAll H vs (ns.map .str) → vs = ns.map V.str
  | _, [], h => dpa_nil h
  | _, n :: ns, h => by
    obtain ⟨v, r, rfl, h1, h2⟩ := dpa_cons (d := .str n) (ds := ns.map .str) h
    rw [dp_str h1, dpa_strs h2, List.map_cons]
theorem dpa_of_strs (H : Hp) : ∀ ns : List Str, RpAll H (ns.map V.str) (ns.map .str)
  | [] => .nil
  | n :: ns => .cons (.str n) (dpa_of_strs H ns)

/-! what is evaluated, as data -/
def EvD (te : TE) (σ : L2.St) (H : Hp) (d : PyData) : Prop := ∀ H1, Ex H H1 → ∀ Q : VK, (∀ v H2, Ex H1 H2 → Rp H2 v d → Q v H2) → te σ H1 Q
def EvDA (ta : TA) (σ : L2.St) (H : Hp) (ds : List PyData) : Prop := ∀ H1, Ex H H1 → ∀ Q : List V → Hp → Prop, (∀ vs H2, Ex H1 H2 → RpAll H2 vs ds → Q vs H2) → ta σ H1 Q
theorem EvD.mono (e : Ex H H') (h : EvD te σ H d) : EvD te σ H' d := fun H1 a Q q => h H1 (e.trans a) Q q
theorem ed_is (h : EvD te σ H d) (e : d = d1) : EvD te σ H d1 := e ▸ h
theorem ed_var {i : Nat} (h : σ[i]? = some (some v)) (hd : Rp H v d) : EvD (tVar i) σ H d := fun H1 e _ q => ⟨v, h, q v H1 (Ex.refl H1) (dp_mono e hd)⟩
theorem ed_ci {i : Int} : EvD (tC (.int i)) σ H (.int i) := fun H1 _ _ q => q _ H1 (Ex.refl H1) (.int i)
theorem ed_cb {b : Bool} : EvD (tC (.bl b)) σ H (.bool b) := fun H1 _ _ q => q _ H1 (Ex.refl H1) (.bl b)
theorem ed_cs {s : Str} : EvD (tC (.str s)) σ H (.str s) := fun H1 _ _ q => q _ H1 (Ex.refl H1) (.str s)
theorem ed_cn : EvD (tC .non) σ H .none := fun H1 _ _ q => q _ H1 (Ex.refl H1) .non
theorem da_nil : EvDA tNil σ H [] := fun H1 _ _ q => q [] H1 (Ex.refl H1) .nil
theorem da_cons {tr : TA} {ds : List PyData} (h : EvD ta σ H d) (hr : EvDA tr σ H ds) : EvDA (tCons ta tr) σ H (d :: ds) := fun H1 e _ q =>
  h H1 e _ fun v H2 e2 hv => hr H2 (e.trans e2) _ fun vs H3 e3 hvs => q _ H3 (e2.trans e3) (.cons (dp_mono e3 hv) hvs)
theorem ed_tup {ta : TA} {ds : List PyData} (h : EvDA ta σ H ds) (hl : ds.length ≤ 100000) : EvD (tTup ta) σ H (.tuple ds) := fun H1 e _ q =>
  h H1 e _ fun vs H2 e2 hvs => ⟨by rw [dpa_len hvs]; exact sz_of hl, fun p hp => q _ _ (e2.trans (Ex.new hp)) (.tup upd_same (dpa_mono (Ex.new hp) hvs))⟩
theorem ed_lst {ta : TA} {ds : List PyData} (h : EvDA ta σ H ds) (hl : ds.length ≤ 100000) : EvD (tLst ta) σ H (.list ds) := fun H1 e _ q =>
  h H1 e _ fun vs H2 e2 hvs => ⟨by rw [dpa_len hvs]; exact sz_of hl, fun p hp => q _ _ (e2.trans (Ex.new hp)) (.lst upd_same (dpa_mono (Ex.new hp) hvs))⟩
/-! operators -/
theorem ed_op {r : R2} (ha : EvD ta σ H d1) (hb : EvD tb σ H d2) (hr : ∀ v w H1, Ex H H1 → Rp H1 v d1 → Rp H1 w d2 → ∀ Q : VK, (∀ z H2, Ex H1 H2 → Rp H2 z d → Q z H2) → r v w H1 Q) : EvD (tOp r ta tb) σ H d := fun H1 e Q q =>
  ha H1 e _ fun v H2 e2 hv => hb H2 (e.trans e2) _ fun w H3 e3 hw => hr v w H3 ((e.trans e2).trans e3) (dp_mono e3 hv) hw Q fun z H4 e4 hz => q z H4 ((e2.trans e3).trans e4) hz
theorem ed_I0i {f : Int → Int → Int} {i j : Int} (ha : EvD ta σ H (.int i)) (hb : EvD tb σ H (.int j)) : EvD (tOp (rI0 fun i j => .int (f i j)) ta tb) σ H (.int (f i j)) :=
  ed_op ha hb fun _ _ H1 _ h1 h2 _ q => ⟨i, j, dp_int h1, dp_int h2, q _ H1 (Ex.refl H1) (.int _)⟩
theorem ed_I0b {f : Int → Int → Bool} {i j : Int} (ha : EvD ta σ H (.int i)) (hb : EvD tb σ H (.int j)) : EvD (tOp (rI0 fun i j => .bl (f i j)) ta tb) σ H (.bool (f i j)) :=
  ed_op ha hb fun _ _ H1 _ h1 h2 _ q => ⟨i, j, dp_int h1, dp_int h2, q _ H1 (Ex.refl H1) (.bl _)⟩
theorem ed_eqI {i j : Int} (ha : EvD ta σ H (.int i)) (hb : EvD tb σ H (.int j)) : EvD (tOp rEqI ta tb) σ H (.bool (decide (i = j))) := ed_I0b ha hb
theorem ed_neI {i j : Int} (ha : EvD ta σ H (.int i)) (hb : EvD tb σ H (.int j)) : EvD (tOp rNeI ta tb) σ H (.bool (!decide (i = j))) := ed_I0b (f := fun i j => !decide (i = j)) ha hb
theorem ed_eqB {i j : Bool} (ha : EvD ta σ H (.bool i)) (hb : EvD tb σ H (.bool j)) : EvD (tOp rEqB ta tb) σ H (.bool (decide (i = j))) :=
  ed_op ha hb fun _ _ H1 _ h1 h2 _ q => ⟨i, j, dp_bl h1, dp_bl h2, q _ H1 (Ex.refl H1) (.bl _)⟩
theorem ed_neB {i j : Bool} (ha : EvD ta σ H (.bool i)) (hb : EvD tb σ H (.bool j)) : EvD (tOp rNeB ta tb) σ H (.bool (!decide (i = j))) :=
  ed_op ha hb fun _ _ H1 _ h1 h2 _ q => ⟨i, j, dp_bl h1, dp_bl h2, q _ H1 (Ex.refl H1) (.bl _)⟩
theorem ed_eqS {i j : Str} (ha : EvD ta σ H (.str i)) (hb : EvD tb σ H (.str j)) : EvD (tOp rEqS ta tb) σ H (.bool (decide (i = j))) :=
  ed_op ha hb fun _ _ H1 _ h1 h2 _ q => ⟨i, j, dp_str h1, dp_str h2, q _ H1 (Ex.refl H1) (.bl _)⟩
theorem ed_neS {i j : Str} (ha : EvD ta σ H (.str i)) (hb : EvD tb σ H (.str j)) : EvD (tOp rNeS ta tb) σ H (.bool (!decide (i = j))) :=
  ed_op ha hb fun _ _ H1 _ h1 h2 _ q => ⟨i, j, dp_str h1, dp_str h2, q _ H1 (Ex.refl H1) (.bl _)⟩
theorem ed_isB {i j : Bool} (ha : EvD ta σ H (.bool i)) (hb : EvD tb σ H (.bool j)) : EvD (tOp (fun x y H Q => ∃ a b, x = .bl a ∧ y = .bl b ∧ Q (.bl (decide (a = b))) H) ta tb) σ H (.bool (decide (i = j))) :=
  ed_op ha hb fun _ _ H1 _ h1 h2 _ q => ⟨i, j, dp_bl h1, dp_bl h2, q _ H1 (Ex.refl H1) (.bl _)⟩
theorem ed_isnB {i j : Bool} (ha : EvD ta σ H (.bool i)) (hb : EvD tb σ H (.bool j)) : EvD (tOp (fun x y H Q => ∃ a b, x = .bl a ∧ y = .bl b ∧ Q (.bl (!decide (a = b))) H) ta tb) σ H (.bool (!decide (i = j))) :=
  ed_op ha hb fun _ _ H1 _ h1 h2 _ q => ⟨i, j, dp_bl h1, dp_bl h2, q _ H1 (Ex.refl H1) (.bl _)⟩
theorem ed_Ii {C : Int → Int → Prop} {f : Int → Int → Int} {i j : Int} (ha : EvD ta σ H (.int i)) (hb : EvD tb σ H (.int j)) (hc : C i j) : EvD (tOp (rI C fun i j => .int (f i j)) ta tb) σ H (.int (f i j)) :=
  ed_op ha hb fun _ _ H1 _ h1 h2 _ q => ⟨i, j, dp_int h1, dp_int h2, hc, q _ H1 (Ex.refl H1) (.int _)⟩
theorem ed_mul {i j : Int} (ha : EvD ta σ H (.int i)) (hb : EvD tb σ H (.int j)) (hc : (-(2 ^ 64) < i ∧ i < 2 ^ 64) ∨ (-(2 ^ 64) < j ∧ j < 2 ^ 64)) : EvD (tOp (rI CMul fun i j => .int (i * j)) ta tb) σ H (.int (i * j)) :=
  ed_Ii (f := fun i j => i * j) ha hb hc
theorem ed_mod {i j : Int} (ha : EvD ta σ H (.int i)) (hb : EvD tb σ H (.int j)) (hc : 0 < j) : EvD (tOp (rI (fun _ j => 0 < j) fun i j => .int (i % j)) ta tb) σ H (.int (i % j)) :=
  ed_Ii (C := fun _ j => 0 < j) (f := fun i j => i % j) ha hb hc
theorem ed_fdiv {i j : Int} (ha : EvD ta σ H (.int i)) (hb : EvD tb σ H (.int j)) (hc : 0 < j ∧ j < 1073741824) : EvD (tOp (rI CDiv fun i j => .int (i / j)) ta tb) σ H (.int (i / j)) :=
  ed_Ii (f := fun i j => i / j) ha hb hc
theorem ed_pow {i j : Int} (ha : EvD ta σ H (.int i)) (hb : EvD tb σ H (.int j)) (hc : 0 ≤ j ∧ j ≤ 1000000 ∧ i.natAbs < 2 ^ 64) : EvD (tOp (rI CPow fun i j => .int (i ^ j.toNat)) ta tb) σ H (.int (i ^ j.toNat)) :=
  ed_Ii (f := fun i j => i ^ j.toNat) ha hb hc
theorem ed_shl {i j : Int} (ha : EvD ta σ H (.int i)) (hb : EvD tb σ H (.int j)) (hc : 0 ≤ j ∧ j ≤ 1000000 ∧ i.natAbs < 2 ^ 64) : EvD (tOp (rI CPow fun i j => .int (i * 2 ^ j.toNat)) ta tb) σ H (.int (i * 2 ^ j.toNat)) :=
  ed_Ii (f := fun i j => i * 2 ^ j.toNat) ha hb hc
theorem ed_neg {i : Int} (ha : EvD ta σ H (.int i)) : EvD (tUn (rU fun i => .int (-i)) ta) σ H (.int (-i)) := fun H1 e _ q =>
  ha H1 e _ fun _ H2 e2 h => ⟨i, dp_int h, q _ H2 e2 (.int _)⟩
theorem ed_eqD {a b : PyData} (ha : EvD ta σ H a) (hb : EvD tb σ H b) (h1 : SeqAt.shaped a = true) (h2 : SeqAt.shaped b = true) : EvD (tOp (rEqD K) ta tb) σ H (.bool (PyData.eqv a b)) :=
  ed_op ha hb fun _ _ H1 _ d1 d2 _ q => ⟨a, b, rp_dp d1, rp_dp d2, h1, h2, q _ H1 (Ex.refl H1) (.bl _)⟩
theorem ed_neD {a b : PyData} (ha : EvD ta σ H a) (hb : EvD tb σ H b) (h1 : SeqAt.shaped a = true) (h2 : SeqAt.shaped b = true) : EvD (tOp (rNeD K) ta tb) σ H (.bool (!PyData.eqv a b)) :=
  ed_op ha hb fun _ _ H1 _ d1 d2 _ q => ⟨a, b, rp_dp d1, rp_dp d2, h1, h2, q _ H1 (Ex.refl H1) (.bl _)⟩
theorem ed_adds {a b : Str} (ha : EvD ta σ H (.str a)) (hb : EvD tb σ H (.str b)) (hl : a.length + b.length ≤ sizeLine) :
    EvD (tOp (fun x y H Q => ∃ i j, x = .str i ∧ y = .str j ∧ i.length + j.length ≤ sizeLine ∧ Q (.str (i ++ j)) H) ta tb) σ H (.str (a ++ b)) :=
  ed_op ha hb fun _ _ H1 _ d1 d2 _ q => ⟨a, b, dp_str d1, dp_str d2, hl, q _ H1 (Ex.refl H1) (.str _)⟩
/-! places -/
theorem ed_ixL {ds : List PyData} {i : Int} (ha : EvD ta σ H (.list ds)) (hb : EvD tb σ H (.int i)) (h0 : 0 ≤ i) (hd : ds[i.toNat]? = some d) : EvD (tOp (rIxL K) ta tb) σ H d :=
  ed_op ha hb fun _ _ H1 _ d1 d2 _ q => by
    obtain ⟨a, xs, rfl, hs, hx⟩ := dp_list d1
    obtain ⟨v, hv, dv⟩ := dpa_get hx hd
    have e := atI_nat hv
    rw [Int.toNat_of_nonneg h0] at e
    exact ⟨a, xs, i, v, rfl, dp_int d2, SqL.of hs, e, q _ H1 (Ex.refl H1) dv⟩
theorem ed_ixT {ds : List PyData} {i : Int} (ha : EvD ta σ H (.tuple ds)) (hb : EvD tb σ H (.int i)) (h0 : 0 ≤ i) (hd : ds[i.toNat]? = some d) : EvD (tOp (rIxT K) ta tb) σ H d :=
  ed_op ha hb fun _ _ H1 _ d1 d2 _ q => by
    obtain ⟨a, xs, rfl, hs, hx⟩ := dp_tup d1
    obtain ⟨v, hv, dv⟩ := dpa_get hx hd
    have e := atI_nat hv
    rw [Int.toNat_of_nonneg h0] at e
    exact ⟨a, xs, i, v, rfl, dp_int d2, SqT.of hs, e, q _ H1 (Ex.refl H1) dv⟩
/-! truths -/
theorem ed_and {a b : Bool} (h1 : EvD ta σ H (.bool a)) (h2 : a = true → EvD tb σ H (.bool b)) : EvD (tAndV ta tb) σ H (.bool (a && b)) := fun H1 e Q q => h1 H1 e _ fun v H2 e2 hv => ⟨a, dp_bl hv, by
  cases a with
  | true =>
    show tb σ H2 Q
    exact h2 rfl H2 (e.trans e2) Q fun w H3 e3 hw => q w H3 (e2.trans e3) hw
  | false =>
    show Q (.bl false) H2
    exact q _ H2 e2 (.bl _)⟩
theorem ed_or {a b : Bool} (h1 : EvD ta σ H (.bool a)) (h2 : a = false → EvD tb σ H (.bool b)) : EvD (tOrV ta tb) σ H (.bool (a || b)) := fun H1 e Q q => h1 H1 e _ fun v H2 e2 hv => ⟨a, dp_bl hv, by
  cases a with
  | true =>
    show Q (.bl true) H2
    exact q _ H2 e2 (.bl _)
  | false =>
    show tb σ H2 Q
    exact h2 rfl H2 (e.trans e2) Q fun w H3 e3 hw => q w H3 (e2.trans e3) hw⟩
theorem ed_not {a : Bool} (h1 : EvD ta σ H (.bool a)) : EvD (tNotV ta) σ H (.bool (!a)) := fun H1 e _ q => h1 H1 e _ fun _ H2 e2 hv => ⟨a, dp_bl hv, q _ H2 e2 (.bl _)⟩
theorem ed_if {b : Bool} (h : EvT t σ H b) (h1 : b = true → EvD ta σ H d) (h2 : b = false → EvD tb σ H d) : EvD (tIf t ta tb) σ H d := fun H1 e Q q => h H1 e _ fun H2 e2 => by
  cases b with
  | true =>
    show ta σ H2 Q
    exact h1 rfl H2 (e.trans e2) Q fun w H3 e3 hw => q w H3 (e2.trans e3) hw
  | false =>
    show tb σ H2 Q
    exact h2 rfl H2 (e.trans e2) Q fun w H3 e3 hw => q w H3 (e2.trans e3) hw
/-- a chain of two comparisons of whole numbers -/
theorem ed_chain {f g : Int → Int → Bool} {i j k : Int} (ha : EvD ta σ H (.int i)) (hb : EvD tb σ H (.int j)) (hc : f i j = true → EvD tc σ H (.int k)) :
    EvD (tChain (rI0 fun i j => .bl (f i j)) (rI0 fun i j => .bl (g i j)) ta tb tc) σ H (.bool (f i j && g j k)) := fun H1 e Q q =>
  ha H1 e _ fun v H2 e2 hv => hb H2 (e.trans e2) _ fun w H3 e3 hw => ⟨i, j, dp_int hv, dp_int hw, f i j, rfl, by
    cases hf : f i j with
    | true =>
      show tc σ H3 _
      refine hc hf H3 ((e.trans e2).trans e3) _ fun z H4 e4 hz => ⟨j, k, dp_int hw, dp_int hz, ?_⟩
      exact q _ H4 ((e2.trans e3).trans e4) (by rw [hf]; exact .bl _)
    | false =>
      show Q (.bl false) H3
      exact q _ H3 (e2.trans e3) (by rw [hf]; exact .bl _)⟩
/-! tests -/
theorem dt_test {b : Bool} (h : EvD te σ H (.bool b)) : EvT (tTest te) σ H b := fun H1 e _ q => h H1 e _ fun _ H2 e2 hv => ⟨b, dp_bl hv, q H2 e2⟩
theorem dt_B {b : Bool} (h : EvD te σ H (.bool b)) : EvT (tB te) σ H b := fun H1 e _ q => h H1 e _ fun _ H2 e2 hv => ⟨b, dp_bl hv, q H2 e2⟩
theorem dt_truI {i : Int} (h : EvD te σ H (.int i)) : EvT (fun σ H Q => te σ H fun x H' => ∃ k, TruV K x H' k ∧ Q k H') σ H (i != 0) := fun H1 e _ q => h H1 e _ fun v H2 e2 hv => by
  cases dp_int hv
  exact ⟨_, rfl, q H2 e2⟩
/-! calls -/
/-- a promise over data: R tells what comes back for what goes in -/
def spR (R : List PyData → PyData → Prop) : Sp := fun vs H Q _ => ∃ ds d, RpAll H vs ds ∧ R ds d ∧ ∀ v H2, Ex H H2 → Rp H2 v d → Q v H2
theorem ed_call {R : List PyData → PyData → Prop} {E : XK} {ta : TA} {ds : List PyData} (h : EvDA ta σ H ds) (hR : R ds d) : EvD (tCall (spR R) [] E ta) σ H d := fun H1 e _ q =>
  h H1 e _ fun vs H2 e2 hv => ⟨ds, d, by rw [List.append_nil]; exact hv, hR, fun v H3 e3 hd => q v H3 (e2.trans e3) hd⟩
theorem ed_cb1 {r : List V → Hp → VK → Prop} {ta : TA} {ds : List PyData} (h : EvDA ta σ H ds) (hr : ∀ vs H1, Ex H H1 → RpAll H1 vs ds → ∀ Q : VK, (∀ z H2, Ex H1 H2 → Rp H2 z d → Q z H2) → r vs H1 Q) : EvD (tCB r ta) σ H d := fun H1 e Q q =>
  h H1 e _ fun vs H2 e2 hv => hr vs H2 (e.trans e2) hv Q fun z H3 e3 hz => q z H3 (e2.trans e3) hz
theorem ed_len {ds : List PyData} (h : EvD te σ H (.list ds)) : EvD (tCB (rLenQ K) (tCons te tNil)) σ H (.int ds.length) :=
  ed_cb1 (da_cons h da_nil) fun _ H1 _ hv _ q => by
    obtain ⟨v, rfl, rv⟩ := dpa_one hv
    obtain ⟨a, xs, rfl, hs, hx⟩ := dp_list rv
    exact ⟨a, xs, rfl, .inl (SqL.of hs), q _ H1 (Ex.refl H1) (by rw [dpa_len hx]; exact .int _)⟩
theorem ed_lenT {ds : List PyData} (h : EvD te σ H (.tuple ds)) : EvD (tCB (rLenQ K) (tCons te tNil)) σ H (.int ds.length) :=
  ed_cb1 (da_cons h da_nil) fun _ H1 _ hv _ q => by
    obtain ⟨v, rfl, rv⟩ := dpa_one hv
    obtain ⟨a, xs, rfl, hs, hx⟩ := dp_tup rv
    exact ⟨a, xs, rfl, .inr (SqT.of hs), q _ H1 (Ex.refl H1) (by rw [dpa_len hx]; exact .int _)⟩
theorem ed_lenS {s : Str} (h : EvD te σ H (.str s)) (hl : s.length ≤ sizeLine) : EvD (tCB (fun xs H Q => ∃ z, xs = [.str z] ∧ z.length ≤ sizeLine ∧ Q (.int z.length) H) (tCons te tNil)) σ H (.int s.length) :=
  ed_cb1 (da_cons h da_nil) fun _ H1 _ hv _ q => by
    obtain ⟨v, rfl, rv⟩ := dpa_one hv
    cases dp_str rv
    exact ⟨s, rfl, hl, q _ H1 (Ex.refl H1) (.int _)⟩
def absI (i : Int) : Int := if i < 0 then -i else i
theorem ed_abs {i : Int} (h : EvD te σ H (.int i)) : EvD (tCB (fun xs H Q => ∃ i, xs = [.int i] ∧ Q (.int (if i < 0 then -i else i)) H) (tCons te tNil)) σ H (.int (absI i)) :=
  ed_cb1 (da_cons h da_nil) fun _ H1 _ hv _ q => by
    obtain ⟨v, rfl, rv⟩ := dpa_one hv
    cases dp_int rv
    exact ⟨i, rfl, q _ H1 (Ex.refl H1) (.int _)⟩
theorem ed_min2 {i j : Int} (ha : EvD ta σ H (.int i)) (hb : EvD tb σ H (.int j)) : EvD (tCB (fun xs H Q => ∃ i j, xs = [.int i, .int j] ∧ Q (.int (if j < i then j else i)) H) (tCons ta (tCons tb tNil))) σ H (.int (if j < i then j else i)) :=
  ed_cb1 (da_cons ha (da_cons hb da_nil)) fun _ H1 _ hv _ q => by
    obtain ⟨v, w, rfl, rv, rw1⟩ := dpa_two hv
    cases dp_int rv
    cases dp_int rw1
    exact ⟨i, j, rfl, q _ H1 (Ex.refl H1) (.int _)⟩
theorem ed_max2 {i j : Int} (ha : EvD ta σ H (.int i)) (hb : EvD tb σ H (.int j)) : EvD (tCB (fun xs H Q => ∃ i j, xs = [.int i, .int j] ∧ Q (.int (if j > i then j else i)) H) (tCons ta (tCons tb tNil))) σ H (.int (if j > i then j else i)) :=
  ed_cb1 (da_cons ha (da_cons hb da_nil)) fun _ H1 _ hv _ q => by
    obtain ⟨v, w, rfl, rv, rw1⟩ := dpa_two hv
    cases dp_int rv
    cases dp_int rw1
    exact ⟨i, j, rfl, q _ H1 (Ex.refl H1) (.int _)⟩
/-- the intsD of data -/
def intsD : List PyData → List Int
  | .int i :: r => i :: intsD r
  | _ => []
theorem ints_map : ∀ ns : List Int, intsD (ns.map .int) = ns
  | [] => rfl
  | n :: ns => by
    show n :: intsD (ns.map .int) = n :: ns
    rw [ints_map ns]
def bls : List PyData → List Bool
  | .bool i :: r => i :: bls r
  | _ => []
theorem bls_map : ∀ ns : List Bool, bls (ns.map .bool) = ns
  | [] => rfl
  | n :: ns => by
    show n :: bls (ns.map .bool) = n :: ns
    rw [bls_map ns]
theorem dp_ints {ds : List PyData} (he : (intsD ds).map .int = ds) (h : Rp H v (.list ds)) : ∃ a, v = .ref a ∧ H a = some (.lst ((intsD ds).map V.int)) := by
  obtain ⟨a, xs, rfl, hs, hx⟩ := dp_list h
  rw [← he] at hx
  have e := dpa_ints hx
  exact ⟨a, rfl, e ▸ hs⟩
theorem ed_sum {ds : List PyData} (h : EvD te σ H (.list ds)) (he : (intsD ds).map .int = ds) : EvD (tCB (rSum K) (tCons te tNil)) σ H (.int (intsD ds).sum) :=
  ed_cb1 (da_cons h da_nil) fun _ H1 _ hv _ q => by
    obtain ⟨v, rfl, rv⟩ := dpa_one hv
    obtain ⟨a, rfl, hs⟩ := dp_ints he rv
    exact ⟨a, _, rfl, SqL.of hs, q _ H1 (Ex.refl H1) (.int _)⟩
theorem dp_bls {ds : List PyData} (he : (bls ds).map .bool = ds) (h : Rp H v (.list ds)) : ∃ a, v = .ref a ∧ H a = some (.lst ((bls ds).map V.bl)) := by
  obtain ⟨a, xs, rfl, hs, hx⟩ := dp_list h
  rw [← he] at hx
  have e := dpa_bls hx
  exact ⟨a, rfl, e ▸ hs⟩
theorem ed_all {ds : List PyData} (h : EvD te σ H (.list ds)) (he : (bls ds).map .bool = ds) : EvD (tCB (rAll K) (tCons te tNil)) σ H (.bool ((bls ds).all id)) :=
  ed_cb1 (da_cons h da_nil) fun _ H1 _ hv _ q => by
    obtain ⟨v, rfl, rv⟩ := dpa_one hv
    obtain ⟨a, rfl, hs⟩ := dp_bls he rv
    exact ⟨a, _, rfl, SqL.of hs, q _ H1 (Ex.refl H1) (.bl _)⟩
theorem ed_any {ds : List PyData} (h : EvD te σ H (.list ds)) (he : (bls ds).map .bool = ds) : EvD (tCB (rAny K) (tCons te tNil)) σ H (.bool ((bls ds).any id)) :=
  ed_cb1 (da_cons h da_nil) fun _ H1 _ hv _ q => by
    obtain ⟨v, rfl, rv⟩ := dpa_one hv
    obtain ⟨a, rfl, hs⟩ := dp_bls he rv
    exact ⟨a, _, rfl, SqL.of hs, q _ H1 (Ex.refl H1) (.bl _)⟩
/-- sorting, as a function -/
def ins (x : Int) : List Int → List Int
  | [] => [x]
  | y :: r => if x ≤ y then x :: y :: r else y :: ins x r
def srt : List Int → List Int
  | [] => []
  | x :: r => ins x (srt r)
theorem ins_perm (x : Int) : ∀ l, (ins x l).Perm (x :: l)
  | [] => .refl _
  | y :: r => by
    unfold ins
    split
    · exact .refl _
    · exact ((ins_perm x r).cons y).trans (.swap x y r)
theorem srt_perm : ∀ l, (srt l).Perm l
  | [] => .refl _
  | x :: r => (ins_perm x (srt r)).trans ((srt_perm r).cons x)
theorem ins_sorted (x : Int) : ∀ l : List Int, l.Pairwise (· ≤ ·) → (ins x l).Pairwise (· ≤ ·)
  | [], _ => List.pairwise_singleton _ _
  | y :: r, h => by
    obtain ⟨h1, h2⟩ := List.pairwise_cons.mp h
    unfold ins
    split
    · rename_i hxy
      refine List.pairwise_cons.mpr ⟨fun z hz => ?_, h⟩
      rcases List.mem_cons.mp hz with rfl | hz
      · exact hxy
      · exact Int.le_trans hxy (h1 z hz)
    · rename_i hxy
      refine List.pairwise_cons.mpr ⟨fun z hz => ?_, ins_sorted x r h2⟩
      rcases List.mem_cons.mp ((ins_perm x r).mem_iff.mp hz) with rfl | hz
      · omega
      · exact h1 z hz
theorem srt_sorted : ∀ l : List Int, (srt l).Pairwise (· ≤ ·)
  | [] => List.Pairwise.nil
  | x :: r => ins_sorted x _ (srt_sorted r)
theorem sorted_unique : ∀ {l l' : List Int}, l.Perm l' → l.Pairwise (· ≤ ·) → l'.Pairwise (· ≤ ·) → l = l'
  | [], l', p, _, _ => (p.nil_eq)
  | x :: r, [], p, _, _ => by cases p.eq_nil
  | x :: r, y :: r', p, h, h' => by
    obtain ⟨h1, h2⟩ := List.pairwise_cons.mp h
    obtain ⟨h1', h2'⟩ := List.pairwise_cons.mp h'
    have e : x = y := by
      have a : y ≤ x := by
        rcases List.mem_cons.mp (p.mem_iff.mp List.mem_cons_self) with e | m
        · omega
        · exact h1' x m
      have b : x ≤ y := by
        rcases List.mem_cons.mp (p.mem_iff.mpr List.mem_cons_self) with e | m
        · omega
        · exact h1 y m
      omega
    subst e
    rw [sorted_unique (List.Perm.cons_inv p) h2 h2']
theorem srt_eq {l l' : List Int} (p : l'.Perm l) (h : l'.Pairwise (· ≤ ·)) : l' = srt l := sorted_unique (p.trans (srt_perm l).symm) h (srt_sorted l)
theorem srt_id {l : List Int} (h : l.Pairwise (· ≤ ·)) : srt l = l := (srt_eq (.refl l) h).symm
theorem ed_sorted {ds : List PyData} (h : EvD te σ H (.list ds)) (he : (intsD ds).map .int = ds) : EvD (tCB (rSortedI K) (tCons te tNil)) σ H (.list ((srt (intsD ds)).map .int)) :=
  ed_cb1 (da_cons h da_nil) fun _ H1 _ hv _ q => by
    obtain ⟨v, rfl, rv⟩ := dpa_one hv
    obtain ⟨a, rfl, hs⟩ := dp_ints he rv
    exact ⟨a, _, rfl, SqL.of hs, fun ns' p hp hsr hn => by
      rw [srt_eq hp hsr]
      exact q _ _ (Ex.new hn) (.lst upd_same (dpa_of_ints _ _))⟩
def minL : Int → List Int → Int
  | x, [] => x
  | x, y :: r => minL (if y < x then y else x) r
def maxL : Int → List Int → Int
  | x, [] => x
  | x, y :: r => maxL (if x < y then y else x) r
theorem minL_mem : ∀ (x : Int) (r : List Int), minL x r ∈ x :: r
  | x, [] => List.mem_cons_self
  | x, y :: r => by
    show minL (if y < x then y else x) r ∈ x :: y :: r
    have h := minL_mem (if y < x then y else x) r
    rcases List.mem_cons.mp h with h | h
    · rw [h]
      split
      · exact List.mem_cons_of_mem _ List.mem_cons_self
      · exact List.mem_cons_self
    · exact List.mem_cons_of_mem _ (List.mem_cons_of_mem _ h)
theorem minL_le : ∀ (x : Int) (r : List Int), ∀ z ∈ x :: r, minL x r ≤ z
  | x, [], z, hz => by
    cases List.mem_singleton.mp hz
    exact Int.le_refl _
  | x, y :: r, z, hz => by
    show minL (if y < x then y else x) r ≤ z
    have h := minL_le (if y < x then y else x) r
    have h0 := h _ List.mem_cons_self
    rcases List.mem_cons.mp hz with rfl | hz
    · split at h0 <;> split <;> omega
    · rcases List.mem_cons.mp hz with rfl | hz
      · split at h0 <;> split <;> omega
      · exact h z (List.mem_cons_of_mem _ hz)
theorem maxL_mem : ∀ (x : Int) (r : List Int), maxL x r ∈ x :: r
  | x, [] => List.mem_cons_self
  | x, y :: r => by
    show maxL (if x < y then y else x) r ∈ x :: y :: r
    have h := maxL_mem (if x < y then y else x) r
    rcases List.mem_cons.mp h with h | h
    · rw [h]
      split
      · exact List.mem_cons_of_mem _ List.mem_cons_self
      · exact List.mem_cons_self
    · exact List.mem_cons_of_mem _ (List.mem_cons_of_mem _ h)
theorem maxL_ge : ∀ (x : Int) (r : List Int), ∀ z ∈ x :: r, z ≤ maxL x r
  | x, [], z, hz => by
    cases List.mem_singleton.mp hz
    exact Int.le_refl _
  | x, y :: r, z, hz => by
    show z ≤ maxL (if x < y then y else x) r
    have h := maxL_ge (if x < y then y else x) r
    have h0 := h _ List.mem_cons_self
    rcases List.mem_cons.mp hz with rfl | hz
    · split at h0 <;> split <;> omega
    · rcases List.mem_cons.mp hz with rfl | hz
      · split at h0 <;> split <;> omega
      · exact h z (List.mem_cons_of_mem _ hz)
theorem ed_minL {a : Int} {ns : List Int} (h : EvD te σ H (.list (.int a :: ns.map .int))) : EvD (tCB (rMin K) (tCons te tNil)) σ H (.int (minL a ns)) :=
  ed_cb1 (da_cons h da_nil) fun _ H1 _ hv _ q => by
    obtain ⟨v, rfl, rv⟩ := dpa_one hv
    obtain ⟨a', xs, rfl, hs, hx⟩ := dp_list rv
    have e := dpa_ints (ns := a :: ns) hx
    refine ⟨a', a :: ns, rfl, SqL.of (e ▸ hs), Nat.zero_lt_succ _, fun m hm hle => ?_⟩
    have e2 : m = minL a ns := Int.le_antisymm (hle _ (minL_mem a ns)) (minL_le a ns m hm)
    rw [e2]
    exact q _ H1 (Ex.refl H1) (.int _)
theorem ed_maxL {a : Int} {ns : List Int} (h : EvD te σ H (.list (.int a :: ns.map .int))) : EvD (tCB (rMax K) (tCons te tNil)) σ H (.int (maxL a ns)) :=
  ed_cb1 (da_cons h da_nil) fun _ H1 _ hv _ q => by
    obtain ⟨v, rfl, rv⟩ := dpa_one hv
    obtain ⟨a', xs, rfl, hs, hx⟩ := dp_list rv
    have e := dpa_ints (ns := a :: ns) hx
    refine ⟨a', a :: ns, rfl, SqL.of (e ▸ hs), Nat.zero_lt_succ _, fun m hm hle => ?_⟩
    have e2 : m = maxL a ns := Int.le_antisymm (maxL_ge a ns m hm) (hle _ (maxL_mem a ns))
    rw [e2]
    exact q _ H1 (Ex.refl H1) (.int _)
theorem ed_min_2 {a b : Int} (h : EvD te σ H (.list [.int a, .int b])) : EvD (tCB (rMin K) (tCons te tNil)) σ H (.int (if b < a then b else a)) := ed_minL (ns := [b]) h
theorem ed_max_2 {a b : Int} (h : EvD te σ H (.list [.int a, .int b])) : EvD (tCB (rMax K) (tCons te tNil)) σ H (.int (if a < b then b else a)) := ed_maxL (ns := [b]) h
/-- list(xs), tuple(xs) -/
theorem ed_listof {ds : List PyData} (h : EvD te σ H (.list ds)) : EvD (tCB (rListQ K) (tCons te tNil)) σ H (.list ds) :=
  ed_cb1 (da_cons h da_nil) fun _ H1 _ hv _ q => by
    obtain ⟨v, rfl, rv⟩ := dpa_one hv
    obtain ⟨a, xs, rfl, hs, hx⟩ := dp_list rv
    exact ⟨a, xs, rfl, .inl (SqL.of hs), fun l hl => q _ _ (Ex.new hl) (.lst upd_same (dpa_mono (Ex.new hl) hx))⟩
theorem ed_tupof {ds : List PyData} (h : EvD te σ H (.list ds)) : EvD (tCB (rTupQ K) (tCons te tNil)) σ H (.tuple ds) :=
  ed_cb1 (da_cons h da_nil) fun _ H1 _ hv _ q => by
    obtain ⟨v, rfl, rv⟩ := dpa_one hv
    obtain ⟨a, xs, rfl, hs, hx⟩ := dp_list rv
    exact ⟨a, xs, rfl, .inl ⟨SqL.of hs, fun l hl => q _ _ (Ex.new hl) (.tup upd_same (dpa_mono (Ex.new hl) hx))⟩⟩
theorem ed_strof {i : Int} (h : EvD te σ H (.int i)) (hl : i.natAbs.log2 < 1920) : EvD (tCB (fun xs H Q => ∃ i, xs = [.int i] ∧ i.natAbs.log2 < 1920 ∧ Q (.str (toString i)) H) (tCons te tNil)) σ H (.str (toString i)) :=
  ed_cb1 (da_cons h da_nil) fun _ H1 _ hv _ q => by
    obtain ⟨v, rfl, rv⟩ := dpa_one hv
    cases dp_int rv
    exact ⟨i, rfl, hl, q _ H1 (Ex.refl H1) (.str _)⟩
/-- xs + ys -/
theorem ed_cat {ds es : List PyData} (ha : EvD ta σ H (.list ds)) (hb : EvD tb σ H (.list es)) (hl : ds.length + es.length ≤ 100000) : EvD (tOp rCat ta tb) σ H (.list (ds ++ es)) :=
  ed_op ha hb fun _ _ H1 _ d1 d2 _ q => by
    obtain ⟨a, xs, rfl, hs, hx⟩ := dp_list d1
    obtain ⟨b, ys, rfl, ht, hy⟩ := dp_list d2
    exact ⟨a, b, xs, ys, rfl, rfl, hs, ht, by rw [dpa_len hx, dpa_len hy]; exact sz_of hl, fun p hp => q _ _ (Ex.new hp) (.lst upd_same (dpa_mono (Ex.new hp) (dpa_app hx hy)))⟩
/-- isinstance with a built-in class, of data -/
def tyOf : PyData → String
  | .none => "NoneType"
  | .bool _ => "bool"
  | .int _ => "int"
  | .str _ => "str"
  | .list _ => "list"
  | .tuple _ => "tuple"
  | .dict _ => "dict"
theorem rp_ty : ∀ {v : V} {d : PyData}, Rp H v d → TyX K H v (.type (tyOf d))
  | _, _, .non => .base .non
  | _, _, .bl b => .base (.bl b)
  | _, _, .int i => .base (.int i)
  | _, _, .str s => .base (.str s)
  | _, _, .lst h _ => .base (.lst h)
  | _, _, .tup h _ => .base (.tup h)
def isi_int : PyData → Bool
  | .int _ => true
  | .bool _ => true
  | _ => false
def isi_bool : PyData → Bool
  | .bool _ => true
  | _ => false
def isi_tuple : PyData → Bool
  | .tuple _ => true
  | _ => false
def isi_list : PyData → Bool
  | .list _ => true
  | _ => false
def isi_str : PyData → Bool
  | .str _ => true
  | _ => false
theorem kit_int : ∀ d : PyData, kitB (tyOf d) "int" = some (isi_int d)
  | .none => (by decide +kernel : kitB "NoneType" "int" = some false)
  | .bool _ => (by decide +kernel : kitB "bool" "int" = some true)
  | .int _ => (by decide +kernel : kitB "int" "int" = some true)
  | .str _ => (by decide +kernel : kitB "str" "int" = some false)
  | .list _ => (by decide +kernel : kitB "list" "int" = some false)
  | .tuple _ => (by decide +kernel : kitB "tuple" "int" = some false)
  | .dict _ => (by decide +kernel : kitB "dict" "int" = some false)
theorem kit_bool : ∀ d : PyData, kitB (tyOf d) "bool" = some (isi_bool d)
  | .none => (by decide +kernel : kitB "NoneType" "bool" = some false)
  | .bool _ => (by decide +kernel : kitB "bool" "bool" = some true)
  | .int _ => (by decide +kernel : kitB "int" "bool" = some false)
  | .str _ => (by decide +kernel : kitB "str" "bool" = some false)
  | .list _ => (by decide +kernel : kitB "list" "bool" = some false)
  | .tuple _ => (by decide +kernel : kitB "tuple" "bool" = some false)
  | .dict _ => (by decide +kernel : kitB "dict" "bool" = some false)
theorem kit_tuple : ∀ d : PyData, kitB (tyOf d) "tuple" = some (isi_tuple d)
  | .none => (by decide +kernel : kitB "NoneType" "tuple" = some false)
  | .bool _ => (by decide +kernel : kitB "bool" "tuple" = some false)
  | .int _ => (by decide +kernel : kitB "int" "tuple" = some false)
  | .str _ => (by decide +kernel : kitB "str" "tuple" = some false)
  | .list _ => (by decide +kernel : kitB "list" "tuple" = some false)
  | .tuple _ => (by decide +kernel : kitB "tuple" "tuple" = some true)
  | .dict _ => (by decide +kernel : kitB "dict" "tuple" = some false)
theorem kit_list : ∀ d : PyData, kitB (tyOf d) "list" = some (isi_list d)
  | .none => (by decide +kernel : kitB "NoneType" "list" = some false)
  | .bool _ => (by decide +kernel : kitB "bool" "list" = some false)
  | .int _ => (by decide +kernel : kitB "int" "list" = some false)
  | .str _ => (by decide +kernel : kitB "str" "list" = some false)
  | .list _ => (by decide +kernel : kitB "list" "list" = some true)
  | .tuple _ => (by decide +kernel : kitB "tuple" "list" = some false)
  | .dict _ => (by decide +kernel : kitB "dict" "list" = some false)
theorem kit_str : ∀ d : PyData, kitB (tyOf d) "str" = some (isi_str d)
  | .none => (by decide +kernel : kitB "NoneType" "str" = some false)
  | .bool _ => (by decide +kernel : kitB "bool" "str" = some false)
  | .int _ => (by decide +kernel : kitB "int" "str" = some false)
  | .str _ => (by decide +kernel : kitB "str" "str" = some true)
  | .list _ => (by decide +kernel : kitB "list" "str" = some false)
  | .tuple _ => (by decide +kernel : kitB "tuple" "str" = some false)
  | .dict _ => (by decide +kernel : kitB "dict" "str" = some false)
theorem le_lit {n m : Nat} (h : Nat.ble n m = true) : n ≤ m := Nat.le_of_ble_eq_true h
theorem ed_isi {T : String} {b : Bool} (h : EvD te σ H d) (hk : kitB (tyOf d) T = some b) : EvD (tCB (rIsi K) (tCons te (tCons (tC (.ty T)) tNil))) σ H (.bool b) := fun H1 e _ q =>
  h H1 e _ fun v H2 e2 hv => ⟨v, .ty T, .type (tyOf d), .type T, b, rfl, .ty T, rp_ty hv, kit_ty hk, q _ H2 e2 (.bl b)⟩
/-! #### a list that grows: what it holds stands apart from it -/
def offH (H : Hp) (p : Addr) : Hp := fun b => if b = p then none else H b
theorem off_ne {p b : Addr} (h : b ≠ p) : offH H p b = H b := by unfold offH; rw [if_neg h]
theorem off_same {p : Addr} : offH H p p = none := by unfold offH; rw [if_pos rfl]
theorem off_upd {p : Addr} {o : HO} : offH (upd H p o) p = offH H p := by
  funext b
  by_cases h : b = p
  · rw [h, off_same, off_same]
  · rw [off_ne h, off_ne h, upd_ne h]
theorem off_ex {p : Addr} : Ex (offH H p) H := fun a o h => by
  by_cases e : a = p
  · rw [e, off_same] at h
    cases h
  · rw [off_ne e] at h
    exact h
theorem off_mono {p : Addr} (e : Ex H H') : Ex (offH H p) (offH H' p) := fun a o h => by
  by_cases q : a = p
  · rw [q, off_same] at h
    cases h
  · rw [off_ne q] at h ⊢
    exact e a o h
theorem ex_off {p : Addr} (e : Ex H H') (h : H p = none) : Ex H (offH H' p) := fun a o ha => by
  rw [off_ne (ne_of_none ha h)]
  exact e a o ha
mutual
/-- no list within -/
def noL : PyData → Bool
  | .list _ => false
  | .dict _ => false
  | .tuple ds => noLs ds
  | .none => true
  | .bool _ => true
  | .int _ => true
  | .str _ => true
def noLs : List PyData → Bool
  | [] => true
  | d :: r => noL d && noLs r
end
mutual
theorem rp_off {p : Addr} {zs : List V} (hp : H p = some (.lst zs)) : ∀ {v : V} {d : PyData}, Rp H v d → noL d = true → Rp (offH H p) v d
  | _, _, .non, _ => .non
  | _, _, .bl b, _ => .bl b
  | _, _, .int i, _ => .int i
  | _, _, .str x, _ => .str x
  | _, _, .lst _ _, n => nomatch n
  | _, _, .tup h a, n => .tup (by rw [off_ne (ne_of h hp (fun z => nomatch z))]; exact h) (rpa_off hp a n)
theorem rpa_off {p : Addr} {zs : List V} (hp : H p = some (.lst zs)) : ∀ {vs : List V} {ds : List PyData}, RpAll H vs ds → noLs ds = true → RpAll (offH H p) vs ds
  | _, _, .nil, _ => .nil
  | _, _, .cons a b, n => .cons (rp_off hp a (Bool.and_eq_true_iff.mp n).1) (rpa_off hp b (Bool.and_eq_true_iff.mp n).2)
end
/-- at p stands a list of such data, apart from it -/
def Grows (H : Hp) (p : Addr) (ds : List PyData) : Prop := ∃ xs, H p = some (.lst xs) ∧ RpAll (offH H p) xs ds
theorem Grows.rp {p : Addr} {ds : List PyData} (h : Grows H p ds) : Rp H (.ref p) (.list ds) := by
  obtain ⟨xs, h1, h2⟩ := h
  exact .lst h1 (dpa_mono off_ex h2)
theorem Grows.ex {p : Addr} {ds : List PyData} (h : Grows H p ds) (e : Ex H H') : Grows H' p ds := by
  obtain ⟨xs, h1, h2⟩ := h
  exact ⟨xs, e _ _ h1, dpa_mono (off_mono e) h2⟩
theorem Grows.nil {p : Addr} : Grows (upd H p (.lst [])) p [] := ⟨[], upd_same, .nil⟩
theorem Grows.of_nil {p : Addr} (h : H p = some (.lst [])) : Grows H p [] := ⟨[], h, .nil⟩
theorem noLs_ints : ∀ ns : List Int, noLs (ns.map .int) = true
  | [] => rfl
  | n :: ns => by
    show (true && noLs (ns.map .int)) = true
    rw [noLs_ints ns]
    rfl
theorem rpa_offI {p : Addr} : ∀ {vs : List V} {ns : List Int}, RpAll H vs (ns.map .int) → RpAll (offH H p) vs (ns.map .int) := fun h => by
  have e := dpa_ints h
  subst e
  exact dpa_of_ints _ _
/-- a comprehension's turn -/
def PcD (H : Hp) (p : Addr) (ds : List PyData) (H' : Hp) : Prop := Ex H H' ∧ Grows H' p ds
theorem pc_turn {H1 : Hp} {σ2 : L2.St} {p : Addr} {ds : List PyData} {b : Bool} (P : PcD H1 p ds H') (hp : H1 p = none) (hi : ds.length < 50000) (ht : EvT t σ2 H1 b) (he : b = true → EvD te σ2 H1 d) (hn : b = true → noL d = true) :
    t σ2 H' fun b' H3 => if b' = true then te σ2 H3 fun y H4 => ∃ acc, H4 p = some (.lst acc) ∧ acc.length < sizeLine ∧ PcD H1 p (if b then ds ++ [d] else ds) (upd H4 p (.lst (acc ++ [y]))) else PcD H1 p (if b then ds ++ [d] else ds) H3 := by
  obtain ⟨p1, p2⟩ := P
  refine ht H' p1 _ fun H3 e3 => ?_
  cases hb : b with
  | true =>
    show te σ2 H3 fun y H4 => ∃ acc, H4 p = some (.lst acc) ∧ acc.length < sizeLine ∧ PcD H1 p (ds ++ [d]) (upd H4 p (.lst (acc ++ [y])))
    refine he hb H3 (p1.trans e3) _ fun y H4 e4 hy => ?_
    obtain ⟨xs, h1, h2⟩ := (p2.ex e3).ex e4
    refine ⟨xs, h1, ?_, Ex.mut ((p1.trans e3).trans e4) hp, xs ++ [y], upd_same, ?_⟩
    · rw [dpa_len h2]
      exact sz_lt (by omega)
    · rw [off_upd]
      exact dpa_app h2 (.cons (rp_off h1 hy (hn hb)) .nil)
  | false =>
    show PcD H1 p ds H3
    exact ⟨p1.trans e3, p2.ex e3⟩
theorem take_filter_map {α : Type} {xs : List α} {i : Nat} {x : α} (h : xs[i]? = some x) (f : α → Bool) (g : α → PyData) :
    ((xs.take (i + 1)).filter f).map g = if f x then ((xs.take i).filter f).map g ++ [g x] else ((xs.take i).filter f).map g := by
  rw [List.take_add_one, h, List.filter_append, List.map_append]
  show _ ++ ((List.filter f [x]).map g) = _
  cases hf : f x with
  | true => rw [List.filter_cons, if_pos hf]; rfl
  | false =>
    rw [List.filter_cons, if_neg (by rw [hf]; decide)]
    show _ ++ [] = _
    rw [List.append_nil]; rfl
theorem flen {α : Type} (xs : List α) (i : Nat) (f : α → Bool) (g : α → PyData) : (((xs.take i).filter f).map g).length ≤ xs.length := by
  rw [List.length_map]
  have h1 := List.length_filter_le f (xs.take i)
  have h2 : (xs.take i).length ≤ xs.length := by rw [List.length_take]; omega
  omega
/-- [e for x in xs if t], xs a list of data -/
theorem ed_lcLF {tl : TE} {j : Nat} {vs : List Nat} {ds : List PyData} (p : PyData → Bool) (f : PyData → PyData) (h : EvD tl σ H (.list ds)) (hz : ds.length ≤ 40000) (hw : ∀ x, wipe ((wipe σ vs).set j (some x)) vs = wipe σ vs)
    (ht : ∀ v d H1, Ex H H1 → d ∈ ds → Rp H1 v d → EvT t ((wipe σ vs).set j (some v)) H1 (p d)) (he : ∀ v d H1, Ex H H1 → d ∈ ds → Rp H1 v d → p d = true → EvD te ((wipe σ vs).set j (some v)) H1 (f d)) (hn : ∀ d ∈ ds, p d = true → noL (f d) = true) :
    EvD (tLc (iList K tl) (gName j) t te vs) σ H (.list ((ds.filter p).map f)) := fun H0 e Q q => h H0 e _ fun v H1 e1 hv => by
  obtain ⟨a, xs, rfl, hs, hx⟩ := dp_list hv
  refine ⟨a, rfl, ⟨xs, SqL.of hs⟩, fun D hD => ?_⟩
  refine lc_list (xs := xs) (fun i => PcD H1 D (((ds.take i).filter p).map f)) ⟨Ex.new hD, Grows.nil⟩ (fun i H' _ P => SqL.of (P.1 _ _ hs)) (fun i x H' hi P => ?_) (fun H' P => ?_)
  · obtain ⟨d, hd, rx⟩ := dpa_get' hx hi
    have hm : d ∈ ds := List.mem_of_getElem? hd
    refine ⟨hw x, ?_⟩
    have T := pc_turn (t := t) (te := te) (d := f d) (σ2 := (wipe σ vs).set j (some x)) P hD (by have := flen ds i p f; omega) (ht x d H1 (e.trans e1) hm rx) (fun hp => he x d H1 (e.trans e1) hm rx hp) (hn d hm)
    rw [← take_filter_map hd p f] at T
    exact T
  · have el := dpa_len hx
    have P' : PcD H1 D (((ds.take xs.length).filter p).map f) H' := P
    rw [el, List.take_length] at P'
    exact q _ H' (e1.trans P'.1) P'.2.rp
theorem tYes_ev {σ2 : L2.St} : EvT tYes σ2 H true := fun H1 _ _ q => q H1 (Ex.refl H1)
theorem filter_yes {α : Type} (xs : List α) : xs.filter (fun _ => true) = xs := List.filter_eq_self.mpr fun _ _ => rfl
theorem ed_lcL {tl : TE} {j : Nat} {vs : List Nat} {ds : List PyData} (f : PyData → PyData) (h : EvD tl σ H (.list ds)) (hz : ds.length ≤ 40000) (hw : ∀ x, wipe ((wipe σ vs).set j (some x)) vs = wipe σ vs)
    (he : ∀ v d H1, Ex H H1 → d ∈ ds → Rp H1 v d → EvD te ((wipe σ vs).set j (some v)) H1 (f d)) (hn : ∀ d ∈ ds, noL (f d) = true) :
    EvD (tLc (iList K tl) (gName j) tYes te vs) σ H (.list (ds.map f)) := by
  have E := ed_lcLF (K := K) (te := te) (fun _ => true) f h hz hw (fun v d H1 _ _ _ => tYes_ev) (fun v d H1 e m r _ => he v d H1 e m r) (fun d m _ => hn d m)
  rw [filter_yes] at E
  exact E
theorem ed_lcT {tl : TE} {j : Nat} {vs : List Nat} {ds : List PyData} (f : PyData → PyData) (h : EvD tl σ H (.tuple ds)) (hz : ds.length ≤ 40000) (hw : ∀ x, wipe ((wipe σ vs).set j (some x)) vs = wipe σ vs)
    (he : ∀ v d H1, Ex H H1 → d ∈ ds → Rp H1 v d → EvD te ((wipe σ vs).set j (some v)) H1 (f d)) (hn : ∀ d ∈ ds, noL (f d) = true) :
    EvD (tLc (iTup K tl) (gName j) tYes te vs) σ H (.list (ds.map f)) := fun H0 e Q q => h H0 e _ fun v H1 e1 hv => by
  obtain ⟨a, xs, rfl, hs, hx⟩ := dp_tup hv
  refine ⟨a, rfl, ⟨xs, SqT.of hs⟩, fun D hD => ?_⟩
  refine lc_tup (xs := xs) (fun i => PcD H1 D (((ds.take i).filter (fun _ => true)).map f)) ⟨Ex.new hD, Grows.nil⟩ (fun i H' _ P => SqT.of (P.1 _ _ hs)) (fun i x H' hi P => ?_) (fun H' P => ?_)
  · obtain ⟨d, hd, rx⟩ := dpa_get' hx hi
    have hm : d ∈ ds := List.mem_of_getElem? hd
    refine ⟨hw x, ?_⟩
    have T := pc_turn (t := tYes) (te := te) (d := f d) (b := true) (σ2 := (wipe σ vs).set j (some x)) P hD (by have := flen ds i (fun _ => true) f; omega) tYes_ev (fun _ => he x d H1 (e.trans e1) hm rx) (fun _ => hn d hm)
    rw [← take_filter_map hd (fun _ => true) f] at T
    exact T
  · have el := dpa_len hx
    have P' : PcD H1 D (((ds.take xs.length).filter (fun _ => true)).map f) H' := P
    rw [el, List.take_length, filter_yes] at P'
    exact q _ H' (e1.trans P'.1) P'.2.rp
/-- over a range: the intsD lo, lo + c, .. -/
def rngL (lo c : Int) (n : Nat) : List Int := (List.range n).map fun (i : Nat) => lo + (i : Int) * c
theorem rngL_len (lo c : Int) (n : Nat) : (rngL lo c n).length = n := by unfold rngL; rw [List.length_map, List.length_range]
theorem rngL_get {lo c : Int} {n i : Nat} (h : i < n) : (rngL lo c n)[i]? = some (lo + (i : Int) * c) := by
  unfold rngL
  rw [List.getElem?_map, List.getElem?_range h]
  rfl
theorem rngL_mem {lo c : Int} {n : Nat} {x : Int} (h : x ∈ rngL lo c n) : ∃ i : Nat, i < n ∧ x = lo + (i : Int) * c := by
  unfold rngL at h
  obtain ⟨i, hi, e⟩ := List.mem_map.mp h
  exact ⟨i, List.mem_range.mp hi, e.symm⟩
theorem ed_lcR_core {tg : L2.TG} {j : Nat} {vs : List Nat} {lo : Int} {n : Nat} {Q : VK} {H1 : Hp} (p : Int → Bool) (f : Int → PyData) (hz : n ≤ 40000) (hw : ∀ x, wipe ((wipe σ vs).set j (some x)) vs = wipe σ vs)
    (ht : ∀ (x : Int) H1, Ex H H1 → x ∈ rngL lo 1 n → EvT t ((wipe σ vs).set j (some (.int x))) H1 (p x)) (he : ∀ (x : Int) H1, Ex H H1 → x ∈ rngL lo 1 n → p x = true → EvD te ((wipe σ vs).set j (some (.int x))) H1 (f x)) (hn : ∀ x, noL (f x) = true)
    (e1 : Ex H H1) (q : ∀ v H2, Ex H1 H2 → Rp H2 v (.list (((rngL lo 1 n).filter p).map f)) → Q v H2) : ∀ D, H1 D = none → ∃ W : Nat → Nat → Hp → Prop, (∃ m, W 0 m (upd H1 D (.lst []))) ∧ ∀ i m H, W i m H →
  ((Itr lo n).stop i H ∧ Q (.ref D) H) ∨ ((Itr lo n).go i H ∧ ∃ Nx : Hp → Prop, (∀ H', Nx H' → ∃ m', m' < m ∧ W (i + 1) m' H') ∧ ∀ x H', (Itr lo n).yld i H x H' → gName j x (wipe σ vs) H' fun σ2 H2 => wipe σ2 vs = wipe σ vs ∧ t σ2 H2 fun b H3 =>
    if b = true then te σ2 H3 fun y H4 => ∃ acc, H4 D = some (.lst acc) ∧ acc.length < sizeLine ∧ Nx (upd H4 D (.lst (acc ++ [y]))) else Nx H3) := fun D hD => by
  refine lc_range (lo := lo) (n := n) (fun i => PcD H1 D ((((rngL lo 1 n).take i).filter p).map f)) ⟨Ex.new hD, Grows.nil⟩ (fun i H' hi P => ?_) (fun H' P => ?_)
  · have hd := rngL_get (lo := lo) (c := 1) hi
    rw [Int.mul_one] at hd
    have hm : lo + (i : Int) ∈ rngL lo 1 n := List.mem_of_getElem? hd
    refine ⟨hw _, ?_⟩
    have T := pc_turn (t := t) (te := te) (d := f (lo + i)) (σ2 := (wipe σ vs).set j (some (.int (lo + i)))) P hD (by have := flen (rngL lo 1 n) i p f; rw [rngL_len] at this; omega) (ht _ H1 e1 hm) (fun hp => he _ H1 e1 hm hp) (fun _ => hn _)
    rw [← take_filter_map hd p f] at T
    exact T
  · have P' : PcD H1 D ((((rngL lo 1 n).take n).filter p).map f) H' := P
    rw [List.take_of_length_le (by rw [rngL_len]; exact Nat.le_refl _)] at P'
    exact q _ H' P'.1 P'.2.rp
theorem ed_lcR1 {ta : TA} {j : Nat} {vs : List Nat} {n : Int} (f : Int → PyData) (h : EvDA ta σ H [.int n]) (hz : n ≤ 40000) (hw : ∀ x, wipe ((wipe σ vs).set j (some x)) vs = wipe σ vs)
    (hn0 : 0 ≤ n) (he : ∀ (x : Int) H1, Ex H H1 → 0 ≤ x → x < n → EvD te ((wipe σ vs).set j (some (.int x))) H1 (f x)) (hn : ∀ x, noL (f x) = true) :
    EvD (tLc (iRng1 ta) (gName j) tYes te vs) σ H (.list ((rngL 0 1 n.toNat).map f)) := fun H0 e Q q => h H0 e _ fun vs0 H1 e1 hv => by
  obtain ⟨v, rfl, rv⟩ := dpa_one hv
  cases dp_int rv
  have q2 : ∀ v H2, Ex H1 H2 → Rp H2 v (.list (((rngL 0 1 n.toNat).filter (fun _ => true)).map f)) → Q v H2 := fun v H2 a b => by
    rw [filter_yes] at b
    exact q v H2 (e1.trans a) b
  exact ⟨n, rfl, by omega, by omega, ed_lcR_core (tg := gName j) (t := tYes) (te := te) (fun _ => true) f (by omega) hw (fun _ _ _ _ => tYes_ev) (fun x H2 a m _ => by
    obtain ⟨i, hi, rfl⟩ := rngL_mem m
    exact he _ H2 a (by omega) (by omega)) hn (e.trans e1) q2⟩
theorem ed_lcR2 {ta : TA} {j : Nat} {vs : List Nat} {lo n : Int} (f : Int → PyData) (h : EvDA ta σ H [.int lo, .int n]) (hz : 0 ≤ lo ∧ lo ≤ 40000 ∧ n ≤ 40000 ∧ -40000 ≤ n) (hw : ∀ x, wipe ((wipe σ vs).set j (some x)) vs = wipe σ vs)
    (he : ∀ (x : Int) H1, Ex H H1 → lo ≤ x → x < n → EvD te ((wipe σ vs).set j (some (.int x))) H1 (f x)) (hn : ∀ x, noL (f x) = true) :
    EvD (tLc (iRng2 ta) (gName j) tYes te vs) σ H (.list ((rngL lo 1 (n - lo).toNat).map f)) := fun H0 e Q q => h H0 e _ fun vs0 H1 e1 hv => by
  obtain ⟨v, w, rfl, hv, hw2⟩ := dpa_two hv
  cases dp_int hv
  cases dp_int hw2
  have q2 : ∀ v H2, Ex H1 H2 → Rp H2 v (.list (((rngL lo 1 (n - lo).toNat).filter (fun _ => true)).map f)) → Q v H2 := fun v H2 a b => by
    rw [filter_yes] at b
    exact q v H2 (e1.trans a) b
  exact ⟨lo, n, rfl, ⟨by omega, by omega, by omega, by omega⟩, ed_lcR_core (tg := gName j) (t := tYes) (te := te) (fun _ => true) f (by omega) hw (fun _ _ _ _ => tYes_ev) (fun x H2 a m _ => by
    obtain ⟨i, hi, rfl⟩ := rngL_mem m
    exact he _ H2 a (by omega) (by omega)) hn (e.trans e1) q2⟩

/-! #### statements -/
theorem ev_of {te : TE} (h : EvD te σ H d) (hv : ∀ v H', Rp H' v d → v = x) : Ev te σ H x := fun H1 e Q q => h H1 e Q fun v H2 e2 r => by
  rw [hv v H2 r]
  exact q H2 e2
theorem ev_int {i : Int} (h : EvD te σ H (.int i)) : Ev te σ H (.int i) := ev_of h fun _ _ r => dp_int r
theorem ev_bl {i : Bool} (h : EvD te σ H (.bool i)) : Ev te σ H (.bl i) := ev_of h fun _ _ r => dp_bl r
theorem ev_str {i : Str} (h : EvD te σ H (.str i)) : Ev te σ H (.str i) := ev_of h fun _ _ r => dp_str r
theorem ev_non (h : EvD te σ H .none) : Ev te σ H .non := ev_of h fun _ _ r => dp_non r
theorem ea1 {ta : TA} {i : Int} (h : EvDA ta σ H [.int i]) : EvA ta σ H [.int i] := fun H1 e _ q => h H1 e _ fun vs H2 e2 r => by
  obtain ⟨v, rfl, hv⟩ := dpa_one r
  cases dp_int hv
  exact q H2 e2
theorem ea2 {ta : TA} {i j : Int} (h : EvDA ta σ H [.int i, .int j]) : EvA ta σ H [.int i, .int j] := fun H1 e _ q => h H1 e _ fun vs H2 e2 r => by
  obtain ⟨v, w, rfl, hv, hw⟩ := dpa_two r
  cases dp_int hv
  cases dp_int hw
  exact q H2 e2
theorem ea3 {ta : TA} {i j k : Int} (h : EvDA ta σ H [.int i, .int j, .int k]) : EvA ta σ H [.int i, .int j, .int k] := fun H1 e _ q => h H1 e _ fun vs H2 e2 r => by
  obtain ⟨v, w, z, rfl, hv, hw, hz⟩ := dpa_three r
  cases dp_int hv
  cases dp_int hw
  cases dp_int hz
  exact q H2 e2
variable {D : Ends} {tu tw tz : TS} {g : L2.TG}
theorem s_asgD {i : Nat} (h : EvD te σ H d) (k : ∀ v H1, Ex H H1 → Rp H1 v d → D.nx (σ.set i (some v)) H1) : tAsg te (gName i) D σ H := h H (Ex.refl H) _ k
theorem q_asgD {i : Nat} (h : EvD te σ H d) (k : ∀ v H1, Ex H H1 → Rp H1 v d → tz D (σ.set i (some v)) H1) : tSeq (tAsg te (gName i)) tz D σ H := h H (Ex.refl H) _ k
theorem s_asgI {i : Nat} {n : Int} (h : EvD te σ H (.int n)) (k : ∀ H1, Ex H H1 → D.nx (σ.set i (some (.int n))) H1) : tAsg te (gName i) D σ H := s_asg (ev_int h) k
theorem q_asgI {i : Nat} {n : Int} (h : EvD te σ H (.int n)) (k : ∀ H1, Ex H H1 → tz D (σ.set i (some (.int n))) H1) : tSeq (tAsg te (gName i)) tz D σ H := q_asg (ev_int h) k
theorem q_asgB {i : Nat} {n : Bool} (h : EvD te σ H (.bool n)) (k : ∀ H1, Ex H H1 → tz D (σ.set i (some (.bl n))) H1) : tSeq (tAsg te (gName i)) tz D σ H := q_asg (ev_bl h) k
theorem q_asgS {i : Nat} {n : Str} (h : EvD te σ H (.str n)) (k : ∀ H1, Ex H H1 → tz D (σ.set i (some (.str n))) H1) : tSeq (tAsg te (gName i)) tz D σ H := q_asg (ev_str h) k
theorem s_asgS {i : Nat} {n : Str} (h : EvD te σ H (.str n)) (k : ∀ H1, Ex H H1 → D.nx (σ.set i (some (.str n))) H1) : tAsg te (gName i) D σ H := s_asg (ev_str h) k
theorem s_retD (h : EvD te σ H d) (k : ∀ v H1, Ex H H1 → Rp H1 v d → D.rt v H1) : tRet te D σ H := h H (Ex.refl H) _ k
theorem s_augI {i : Nat} {f : Int → Int → Int} {a b : Int} (hx : σ[i]? = some (some (.int a))) (h : EvD te σ H (.int b)) (k : ∀ H1, Ex H H1 → D.nx (σ.set i (some (.int (f a b)))) H1) : tAug i te (ipI f) D σ H := s_aug hx (ev_int h) k
theorem q_augI {i : Nat} {f : Int → Int → Int} {a b : Int} (hx : σ[i]? = some (some (.int a))) (h : EvD te σ H (.int b)) (k : ∀ H1, Ex H H1 → tz D (σ.set i (some (.int (f a b)))) H1) : tSeq (tAug i te (ipI f)) tz D σ H := q_aug hx (ev_int h) k
theorem s_augC {i : Nat} {C : Int → Int → Prop} {f : Int → Int → Int} {a b : Int} (hx : σ[i]? = some (some (.int a))) (h : EvD te σ H (.int b)) (hc : C a b) (k : ∀ H1, Ex H H1 → D.nx (σ.set i (some (.int (f a b)))) H1) : tAug i te (ipD C f) D σ H :=
  ⟨.int a, hx, ev_int h H (Ex.refl H) _ fun H1 e => ⟨a, b, rfl, rfl, hc, k H1 e⟩⟩
theorem q_augC {i : Nat} {C : Int → Int → Prop} {f : Int → Int → Int} {a b : Int} (hx : σ[i]? = some (some (.int a))) (h : EvD te σ H (.int b)) (hc : C a b) (k : ∀ H1, Ex H H1 → tz D (σ.set i (some (.int (f a b)))) H1) : tSeq (tAug i te (ipD C f)) tz D σ H :=
  s_augC (D := { D with nx := tz D }) hx h hc k
theorem q_next (h : D.nx σ H) : tNext D σ H := h
/-- a, b = e1, e2 -/
theorem s_parD {i j : Nat} {ta : TA} (h : EvDA ta σ H [d1, d2]) (k : ∀ v w H1, Ex H H1 → Rp H1 v d1 → Rp H1 w d2 → D.nx ((σ.set i (some v)).set j (some w)) H1) : tPar i j ta D σ H := h H (Ex.refl H) _ fun vs H1 e r => by
  obtain ⟨v, w, rfl, hv, hw⟩ := dpa_two r
  exact ⟨v, w, rfl, k v w H1 e hv hw⟩
theorem q_parD {i j : Nat} {ta : TA} (h : EvDA ta σ H [d1, d2]) (k : ∀ v w H1, Ex H H1 → Rp H1 v d1 → Rp H1 w d2 → tz D ((σ.set i (some v)).set j (some w)) H1) : tSeq (tPar i j ta) tz D σ H := s_parD (D := { D with nx := tz D }) h k
/-- a, b = a pair; a, b, c = a triple -/
theorem g_unp2 {i j : Nat} {Q : L2.St → Hp → Prop} (hv : Rp H v (.tuple [d1, d2])) (k : ∀ x y, Rp H x d1 → Rp H y d2 → Q ((σ.set i (some x)).set j (some y)) H) : gTup K 2 (gCons (gName i) (gCons (gName j) gNil)) v σ H Q := by
  obtain ⟨a, xs, rfl, hs, hx⟩ := dp_tup hv
  obtain ⟨x, y, rfl, h1, h2⟩ := dpa_two hx
  exact ⟨a, [x, y], rfl, SqT.of hs, rfl, x, [y], rfl, y, [], rfl, rfl, k x y h1 h2⟩
theorem g_unp3 {i j l : Nat} {d3 : PyData} {Q : L2.St → Hp → Prop} (hv : Rp H v (.tuple [d1, d2, d3])) (k : ∀ x y z, Rp H x d1 → Rp H y d2 → Rp H z d3 → Q (((σ.set i (some x)).set j (some y)).set l (some z)) H) :
    gTup K 3 (gCons (gName i) (gCons (gName j) (gCons (gName l) gNil))) v σ H Q := by
  obtain ⟨a, xs, rfl, hs, hx⟩ := dp_tup hv
  obtain ⟨x, y, z, rfl, h1, h2, h3⟩ := dpa_three hx
  exact ⟨a, [x, y, z], rfl, SqT.of hs, rfl, x, [y, z], rfl, y, [z], rfl, z, [], rfl, rfl, k x y z h1 h2 h3⟩
theorem s_unp (h : EvD te σ H d) (k : ∀ v H1, Ex H H1 → Rp H1 v d → g v σ H1 D.nx) : tAsg te g D σ H := h H (Ex.refl H) _ k
theorem q_unp (h : EvD te σ H d) (k : ∀ v H1, Ex H H1 → Rp H1 v d → g v σ H1 (tz D)) : tSeq (tAsg te g) tz D σ H := h H (Ex.refl H) _ k
/-- a loop over a list of data that changes nothing that stood -/
theorem s_forLD {tl : TE} {ds : List PyData} (h : EvD tl σ H (.list ds)) (I : Nat → L2.St → Hp → Prop) (h0 : ∀ H1, Ex H H1 → I 0 σ H1)
    (hs : ∀ i d v σ' H' (N : L2.St → Hp → Prop), ds[i]? = some d → Ex H H' → Rp H' v d → I i σ' H' → (∀ s' h', Ex H' h' → I (i + 1) s' h' → N s' h') → g v σ' H' fun σ2 H2 => tu { D with nx := N, ct := N, bk := D.nx } σ2 H2)
    (hd : ∀ σ' H', Ex H H' → I ds.length σ' H' → D.nx σ' H') : tFor (iList K tl) g tu D σ H := h H (Ex.refl H) _ fun v H1 e hv => by
  obtain ⟨a, xs, rfl, hs1, hx⟩ := dp_list hv
  refine ⟨a, rfl, ⟨xs, SqL.of hs1⟩, ?_⟩
  refine for_list (xs := xs) (fun i σ' H' => Ex H1 H' ∧ I i σ' H') ⟨Ex.refl H1, h0 H1 e⟩ (fun i σ' H' _ P => SqL.of (P.1 _ _ hs1)) (fun i x σ' H' hi P => ?_) (fun σ' H' P => ?_)
  · obtain ⟨d, hd', rx⟩ := dpa_get' hx hi
    exact hs i d x σ' H' _ hd' (e.trans P.1) (dp_mono P.1 rx) P.2 fun s' h' e' i' => ⟨P.1.trans e', i'⟩
  · have P' : I xs.length σ' H' := P.2
    rw [dpa_len hx] at P'
    exact hd σ' H' (e.trans P.1) P'
theorem q_forLD {tl : TE} {ds : List PyData} (h : EvD tl σ H (.list ds)) (I : Nat → L2.St → Hp → Prop) (h0 : ∀ H1, Ex H H1 → I 0 σ H1)
    (hs : ∀ i d v σ' H' (N : L2.St → Hp → Prop), ds[i]? = some d → Ex H H' → Rp H' v d → I i σ' H' → (∀ s' h', Ex H' h' → I (i + 1) s' h' → N s' h') → g v σ' H' fun σ2 H2 => tu { D with nx := N, ct := N, bk := tz D } σ2 H2)
    (hd : ∀ σ' H', Ex H H' → I ds.length σ' H' → tz D σ' H') : tSeq (tFor (iList K tl) g tu) tz D σ H := s_forLD (D := { D with nx := tz D }) h I h0 hs hd
theorem s_forTD {tl : TE} {ds : List PyData} (h : EvD tl σ H (.tuple ds)) (I : Nat → L2.St → Hp → Prop) (h0 : ∀ H1, Ex H H1 → I 0 σ H1)
    (hs : ∀ i d v σ' H' (N : L2.St → Hp → Prop), ds[i]? = some d → Ex H H' → Rp H' v d → I i σ' H' → (∀ s' h', Ex H' h' → I (i + 1) s' h' → N s' h') → g v σ' H' fun σ2 H2 => tu { D with nx := N, ct := N, bk := D.nx } σ2 H2)
    (hd : ∀ σ' H', Ex H H' → I ds.length σ' H' → D.nx σ' H') : tFor (iTup K tl) g tu D σ H := h H (Ex.refl H) _ fun v H1 e hv => by
  obtain ⟨a, xs, rfl, hs1, hx⟩ := dp_tup hv
  refine ⟨a, rfl, ⟨xs, SqT.of hs1⟩, ?_⟩
  refine for_tup (xs := xs) (fun i σ' H' => Ex H1 H' ∧ I i σ' H') ⟨Ex.refl H1, h0 H1 e⟩ (fun i σ' H' _ P => SqT.of (P.1 _ _ hs1)) (fun i x σ' H' hi P => ?_) (fun σ' H' P => ?_)
  · obtain ⟨d, hd', rx⟩ := dpa_get' hx hi
    exact hs i d x σ' H' _ hd' (e.trans P.1) (dp_mono P.1 rx) P.2 fun s' h' e' i' => ⟨P.1.trans e', i'⟩
  · have P' : I xs.length σ' H' := P.2
    rw [dpa_len hx] at P'
    exact hd σ' H' (e.trans P.1) P'
end
end Sq
namespace Sq
open PySem PySem.Spec PyProof.Rows L2 Evl SrtO Srt
/-! #### sorted of triples of whole numbers, of any length -/
abbrev T3 := Int × Int × Int
def lex3 (p q : T3) : Bool := if p.1 = q.1 then (if p.2.1 = q.2.1 then decide (p.2.2 < q.2.2) else decide (p.2.1 < q.2.1)) else decide (p.1 < q.1)
theorem lex3_iff {p q : T3} : lex3 p q = true ↔ p.1 < q.1 ∨ (p.1 = q.1 ∧ (p.2.1 < q.2.1 ∨ (p.2.1 = q.2.1 ∧ p.2.2 < q.2.2))) := by
  unfold lex3
  by_cases e : p.1 = q.1
  · rw [if_pos e]
    by_cases e2 : p.2.1 = q.2.1
    · rw [if_pos e2, decide_eq_true_eq]
      omega
    · rw [if_neg e2, decide_eq_true_eq]
      omega
  · rw [if_neg e, decide_eq_true_eq]
    omega
theorem lex3_no {p q : T3} : lex3 p q = false ↔ ¬ (p.1 < q.1 ∨ (p.1 = q.1 ∧ (p.2.1 < q.2.1 ∨ (p.2.1 = q.2.1 ∧ p.2.2 < q.2.2)))) := by
  rw [← lex3_iff]
  cases lex3 p q <;> simp
theorem swo_lex3 {α : Type} (k : α → T3) : Swo fun v u => lex3 (k v) (k u) := by
  refine ⟨fun x y h => ?_, fun x y z h1 h2 => ?_⟩
  · have a := lex3_iff.mp h
    refine lex3_no.mpr ?_
    omega
  · have a := lex3_no.mp h1
    have b := lex3_no.mp h2
    refine lex3_no.mpr ?_
    omega
/-- in the heap, a tuple of three ints -/
def IsTri (h : Heap) (v : Value) (x : T3) : Prop := ∃ a o t u r n, v = .ref a ∧ h.get? a = some o ∧ o.cls = .type "tuple" ∧ o.data = .seq #[.int x.1 t, .int x.2.1 u, .int x.2.2 r] n
theorem IsTri.keeps {h h' : Heap} {v : Value} {x : T3} (p : IsTri h v x) (k : ∀ b o, h.get? b = some o → o.cls = .type "tuple" → h'.get? b = some o) : IsTri h' v x := by
  obtain ⟨a, o, t, u, r, n, e, ho, hc, hd⟩ := p
  exact ⟨a, o, t, u, r, n, e, k _ _ ho hc, hc, hd⟩
theorem firsts_of3 {h : Heap} : ∀ {vs : List Value}, (∀ v ∈ vs, ∃ x, IsTri h v x) → ∃ fs : List Value, PySem.W.KatTups h vs fs ∧ fs.length = vs.length ∧ ∀ f ∈ fs, ∃ x t, f = Value.int x t
  | [], _ => ⟨[], PySem.W.KatTups.nil, rfl, fun _ hm => by simp at hm⟩
  | v :: vs, hp => by
    obtain ⟨fs, h1, h2, h3⟩ := firsts_of3 (vs := vs) fun v' hm => hp v' (List.mem_cons_of_mem _ hm)
    obtain ⟨x, a, o, t, u, r, n, e, ho, hc, hd⟩ := hp v (List.mem_cons_self ..)
    subst e
    refine ⟨.int x.1 t :: fs, PySem.W.KatTups.cons ho hc hd rfl h1, by rw [List.length_cons, List.length_cons, h2], fun f hm => ?_⟩
    rcases List.mem_cons.mp hm with rfl | hm
    · exact ⟨x.1, t, rfl⟩
    · exact h3 f hm
section
variable {prog : Program} {w : World} {A : Around} {s : Shared} {E : Value → Shared → Prop}
theorem tri_cmp {vs : List Value} {k : Value → T3} (hp : ∀ v ∈ vs, IsTri s.heap v (k v)) : Cmp prog w A s (tuples' true) (fun p => p.1 ∈ vs) (lt2 fun v u => lex3 (k v) (k u)) := by
  intro p q hm hm'
  have h1 := hp _ hm
  have h2 := hp _ hm'
  show wpAny (model prog w) A (keyLt' (tuples' true) p.1 q.1) (fun r s' => s' = s ∧ r = lex3 (k p.1) (k q.1)) (fun _ _ => False) s
  unfold lex3
  generalize (k p.1) = x at h1 ⊢
  generalize (k q.1) = y at h2 ⊢
  obtain ⟨x1, x2, x3⟩ := x
  obtain ⟨y1, y2, y3⟩ := y
  obtain ⟨a, o, t, u, r, n, e, ho, hc, hd⟩ := h1
  obtain ⟨a', o', t', u', r', n', e', ho', hc', hd'⟩ := h2
  dsimp only at hd hd' ⊢
  rw [e, e']
  refine PySem.W.kat_lt ho hd ho' hd' ?_
  show PySem.W.KatLex prog w A true (decide (3 < 3)) _ [(.int x1 t, .int y1 t'), (.int x2 u, .int y2 u'), (.int x3 r, .int y3 r')] 0 s
  refine PySem.W.kat_cons (SeqAt.EqAt.int_int x1 t y1 t' prog w _ _ ?_)
  refine PySem.W.kat_go (fun e1 => ?_) (fun e1 => ?_)
  · have ex : x1 = y1 := by simpa using e1
    rw [if_pos ex]
    refine PySem.W.kat_yes (PySem.W.kat_cons (SeqAt.EqAt.int_int x2 u y2 u' prog w _ _ ?_))
    refine PySem.W.kat_go (fun e2 => ?_) (fun e2 => ?_)
    · have ey : x2 = y2 := by simpa using e2
      rw [if_pos ey]
      refine PySem.W.kat_yes (PySem.W.kat_cons (SeqAt.EqAt.int_int x3 r y3 r' prog w _ _ ?_))
      refine PySem.W.kat_go (fun e3 => ?_) (fun e3 => ?_)
      · have ez : x3 = y3 := by simpa using e3
        refine PySem.W.kat_yes (PySem.W.kat_nil ⟨rfl, ?_⟩)
        rw [ez]
        exact (decide_eq_false (Int.lt_irrefl _)).symm
      · exact PySem.W.kat_no (PySem.W.kat_one _ _ (PyProof.Rows.lt_int ⟨rfl, rfl⟩))
    · have ey : ¬ x2 = y2 := by simpa using e2
      rw [if_neg ey]
      exact PySem.W.kat_no (PySem.W.kat_one _ _ (PyProof.Rows.lt_int ⟨rfl, rfl⟩))
  · have ex : ¬ x1 = y1 := by simpa using e1
    rw [if_neg ex]
    exact PySem.W.kat_no (oneLt_int ⟨rfl, rfl⟩)
theorem tri_sortableO {a : Addr} {vs : List Value} {k : Value → T3} (h0 : 0 < vs.length) (hp : ∀ v ∈ vs, IsTri s.heap v (k v)) (ha : ∀ o, s.heap.get? a = some o → o.cls ≠ .type "tuple") : SortableO prog w A s a vs fun v u => lex3 (k v) (k u) := by
  intro h' keep
  have hp' : ∀ v ∈ vs, IsTri h' v (k v) := fun v hm => (hp v hm).keeps fun b o e c => keep b o (fun z => by subst z; exact ha o e c) e
  obtain ⟨fs, h1, h2, h3⟩ := firsts_of3 fun v hm => ⟨_, hp' v hm⟩
  refine ⟨tuples' true, fun Q E hq => ?_, tri_cmp hp'⟩
  refine PySem.W.kat_kind (T := .type "int") h1 (by omega) (fun f hm => ?_) (by rfl) ?_
  · obtain ⟨x, t, rfl⟩ := h3 f hm
    exact PySem.W.Looks.now
  · have e : (Value.type "int" != Value.type "tuple") = true := by first | decide +kernel | rfl | decide
    rw [e]
    exact hq
theorem sorted_triO {l : Addr} {vs : List Value} {k : Value → T3} {Q : Value → Shared → Prop} (hl : s.heap.IsList l vs.toArray) (hz : vs.length ≤ sizeLine) (hp : ∀ v ∈ vs, IsTri s.heap v (k v))
    (h : ∀ (h' : Heap) (d : Addr) (out : List Value), Srtd (fun v u => lex3 (k v) (k u)) out → Stb (fun v u => lex3 (k v) (k u)) out vs → (∀ b o, s.heap.get? b = some o → h'.get? b = some o) → s.heap.objs.size ≤ d → (∃ n, h'.get? d = some (seqObj "list" out.toArray n)) → Q (.ref d) { s with heap := h' }) :
    wpAny (model prog w) A (call (.builtin "sorted") [.ref l]) Q E s := by
  refine sorted_ord (swo_lex3 k) hl hz (fun h2 h₁ a ha kk => ?_) fun out hs hb => ?_
  · refine tri_sortableO (s := { s with heap := h₁ }) (by omega) (fun v hm => (hp v hm).keeps fun b o e _ => (kk b o e).2) fun o e => ?_
    have e' : some o = some (seqObj "list" vs.toArray 0) := e.symm.trans ha
    cases e'
    intro c
    exact absurd (Value.type.inj c) (by decide)
  · exact h _ _ out hs hb (fun b o e => sortedAll_old e) (Nat.le_succ _) (sortedAll_at s.heap vs out.toArray)
end
theorem vals3 {x y z : V} {us : List Value} (r : Vals [x, y, z] us) : ∃ u w' t', us = [u, w', t'] ∧ RelV x u ∧ RelV y w' ∧ RelV z t' := by
  cases r with
  | cons r1 r2 =>
    obtain ⟨u, w2, rfl, r3, r4⟩ := vals2 r2
    exact ⟨_, u, w2, rfl, r1, r3, r4⟩
section
variable {X : Cx}
def rSortedT3 (K : PySem.W.Frag) : List V → Hp → VK → Prop := fun vs H Q => ∃ (a : Addr) (xs : List V) (k : V → T3), vs = [V.ref a] ∧ SqL K H a xs ∧ (∀ x ∈ xs, ∃ t, x = V.ref t ∧ H t = some (.tup [.int (k x).1, .int (k x).2.1, .int (k x).2.2])) ∧
  ∀ ys p, Srtd (fun x y => lex3 (k x) (k y)) ys → ys.Perm xs → H p = none → Q (.ref p) (upd H p (.lst ys))
theorem cr_sortedT3 : CallR X (.builtin "sorted") (rSortedT3 X.K) := by
  intro pins s σ H vs us Q I r h
  obtain ⟨a, xs, k, rfl, hs, hx, q⟩ := h
  obtain ⟨its, rv, hl, hz⟩ := I.list hs
  obtain ⟨u, rfl, ru⟩ := vals1 r
  obtain rfl : u = Value.ref a := ru
  obtain ⟨e1, e2⟩ := refs_back rv fun x m => by
    obtain ⟨t, e, _⟩ := hx x m
    exact ⟨t, e⟩
  refine sorted_triO (k := fun u => k (backV u)) hl.isList (by rw [← rv.length]; exact hz) (fun v hv => ?_) fun h' d out h1 h2 kp hd hn => ?_
  · obtain ⟨t, rfl⟩ := e2 v hv
    have hm : V.ref t ∈ xs := by rw [e1]; exact List.mem_map.mpr ⟨_, hv, rfl⟩
    obtain ⟨t', e, ht⟩ := hx _ hm
    cases e
    obtain ⟨_, its2, r2, o, ho, hc, n, hd⟩ := I.hok _ _ ht
    obtain ⟨u1, u2, u3, rfl, ri, rj, rk⟩ := vals3 r2
    obtain ⟨t1, rfl⟩ := ri
    obtain ⟨t2, rfl⟩ := rj
    obtain ⟨t3, rfl⟩ := rk
    exact ⟨t, o, t1, t2, t3, n, rfl, ho, hc, hd⟩
  · have h3 : ∀ u ∈ out, ∃ a, u = Value.ref a := fun u hu => e2 u (h2.perm.mem_iff.mp hu)
    obtain ⟨n, hn⟩ := hn
    have hb : (out.map backV).Perm xs := by
      rw [e1]
      exact h2.perm.map backV
    refine ⟨.ref d, upd H d (.lst (out.map backV)), I.laid (t' := s.toks) kp hd ⟨?_, out, n, vals_back h3, hn⟩, rfl, q _ d (srtd_map (lt := fun x y => lex3 (k x) (k y)) h1) hb (I.hok.fresh hd)⟩
    rw [hb.length_eq]
    exact hz
theorem sorted3Q {K : PySem.W.Frag} (e : X.K = K := by rfl) : CallR X (.builtin "sorted") (rSortedT3 K) := e ▸ cr_sortedT3
end
/-! as a function -/
def ins3 (x : T3) : List T3 → List T3
  | [] => [x]
  | y :: r => if lex3 y x then y :: ins3 x r else x :: y :: r
def srt3 : List T3 → List T3
  | [] => []
  | x :: r => ins3 x (srt3 r)
theorem ins3_perm (x : T3) : ∀ l, (ins3 x l).Perm (x :: l)
  | [] => .refl _
  | y :: r => by
    unfold ins3
    split
    · exact ((ins3_perm x r).cons y).trans (.swap x y r)
    · exact .refl _
theorem srt3_perm : ∀ l, (srt3 l).Perm l
  | [] => .refl _
  | x :: r => (ins3_perm x (srt3 r)).trans ((srt3_perm r).cons x)
abbrev Le3 (x y : T3) : Prop := lex3 y x = false
theorem ins3_sorted (x : T3) : ∀ l : List T3, l.Pairwise Le3 → (ins3 x l).Pairwise Le3
  | [], _ => List.pairwise_singleton _ _
  | y :: r, h => by
    obtain ⟨h1, h2⟩ := List.pairwise_cons.mp h
    unfold ins3
    split
    · rename_i hxy
      refine List.pairwise_cons.mpr ⟨fun z hz => ?_, ins3_sorted x r h2⟩
      rcases List.mem_cons.mp ((ins3_perm x r).mem_iff.mp hz) with rfl | hz
      · exact (swo_lex3 id).asym _ _ hxy
      · exact h1 z hz
    · rename_i hxy
      have hxy' : lex3 y x = false := by cases e : lex3 y x with
        | true => exact absurd e hxy
        | false => rfl
      refine List.pairwise_cons.mpr ⟨fun z hz => ?_, h⟩
      rcases List.mem_cons.mp hz with rfl | hz
      · exact hxy'
      · exact (swo_lex3 (id : T3 → T3)).tr x y z hxy' (h1 z hz)
theorem srt3_sorted : ∀ l : List T3, (srt3 l).Pairwise Le3
  | [] => List.Pairwise.nil
  | x :: r => ins3_sorted x _ (srt3_sorted r)
theorem le3_anti {x y : T3} (h1 : Le3 x y) (h2 : Le3 y x) : x = y := by
  have a := lex3_no.mp h1
  have b := lex3_no.mp h2
  obtain ⟨x1, x2, x3⟩ := x
  obtain ⟨y1, y2, y3⟩ := y
  dsimp only at a b
  have e1 : x1 = y1 := by omega
  have e2 : x2 = y2 := by omega
  have e3 : x3 = y3 := by omega
  rw [e1, e2, e3]
theorem sorted3_unique : ∀ {l l' : List T3}, l.Perm l' → l.Pairwise Le3 → l'.Pairwise Le3 → l = l'
  | [], l', p, _, _ => (p.nil_eq)
  | x :: r, [], p, _, _ => by cases p.eq_nil
  | x :: r, y :: r', p, h, h' => by
    obtain ⟨h1, h2⟩ := List.pairwise_cons.mp h
    obtain ⟨h1', h2'⟩ := List.pairwise_cons.mp h'
    have e : x = y := by
      have a : Le3 y x := by
        rcases List.mem_cons.mp (p.mem_iff.mp List.mem_cons_self) with e | m
        · rw [e]
          exact (swo_lex3 (id : T3 → T3)).refl _
        · exact h1' x m
      have b : Le3 x y := by
        rcases List.mem_cons.mp (p.mem_iff.mpr List.mem_cons_self) with e | m
        · rw [e]
          exact (swo_lex3 (id : T3 → T3)).refl _
        · exact h1 y m
      exact le3_anti b a
    subst e
    rw [sorted3_unique (List.Perm.cons_inv p) h2 h2']
theorem srt3_eq {l l' : List T3} (p : l'.Perm l) (h : l'.Pairwise Le3) : l' = srt3 l := sorted3_unique (p.trans (srt3_perm l).symm) h (srt3_sorted l)
/-! as data -/
def t3 (x : T3) : PyData := .tuple [.int x.1, .int x.2.1, .int x.2.2]
def key3 (H : Hp) : V → T3
  | .ref t => match H t with
    | some (.tup [.int a, .int b, .int c]) => (a, b, c)
    | _ => (0, 0, 0)
  | _ => (0, 0, 0)
theorem rp_t3 {H : Hp} {v : V} {x : T3} (h : Rp H v (t3 x)) : ∃ t, v = .ref t ∧ H t = some (.tup [.int x.1, .int x.2.1, .int x.2.2]) ∧ key3 H v = x := by
  obtain ⟨t, xs, rfl, hs, hx⟩ := dp_tup h
  obtain ⟨a, b, c, rfl, h1, h2, h3⟩ := dpa_three hx
  cases dp_int h1
  cases dp_int h2
  cases dp_int h3
  refine ⟨t, rfl, hs, ?_⟩
  show (match H t with
    | some (.tup [.int a, .int b, .int c]) => (a, b, c)
    | _ => (0, 0, 0)) = x
  rw [hs]
theorem rpa_t3 {H : Hp} : ∀ {xs : List V} {ts : List T3}, RpAll H xs (ts.map t3) → xs.map (key3 H) = ts ∧ ∀ x ∈ xs, ∃ t, x = V.ref t ∧ H t = some (.tup [.int (key3 H x).1, .int (key3 H x).2.1, .int (key3 H x).2.2])
  | _, [], h => by
    cases dpa_nil h
    exact ⟨rfl, fun _ m => nomatch m⟩
  | _, y :: ts, h => by
    obtain ⟨v, r, rfl, h1, h2⟩ := dpa_cons (d := t3 y) (ds := ts.map t3) h
    obtain ⟨t, e1, e2, e3⟩ := rp_t3 h1
    obtain ⟨i1, i2⟩ := rpa_t3 h2
    refine ⟨by rw [List.map_cons, e3, i1], fun x m => ?_⟩
    rcases List.mem_cons.mp m with rfl | m
    · rw [e3]
      exact ⟨t, e1, e2⟩
    · exact i2 x m
theorem rpa_of_t3 {H : Hp} : ∀ {xs : List V}, (∀ x ∈ xs, ∃ t, x = V.ref t ∧ H t = some (.tup [.int (key3 H x).1, .int (key3 H x).2.1, .int (key3 H x).2.2])) → RpAll H xs ((xs.map (key3 H)).map t3)
  | [], _ => .nil
  | x :: r, h => by
    obtain ⟨t, e, ht⟩ := h x List.mem_cons_self
    refine .cons ?_ (rpa_of_t3 fun y m => h y (List.mem_cons_of_mem _ m))
    generalize key3 H x = z at ht
    rw [e]
    exact .tup ht (.cons (.int _) (.cons (.int _) (.cons (.int _) .nil)))
theorem ed_sorted3 {K : PySem.W.Frag} {σ : L2.St} {H : Hp} {te : TE} {ts : List T3} (h : EvD te σ H (.list (ts.map t3))) : EvD (tCB (rSortedT3 K) (tCons te tNil)) σ H (.list ((srt3 ts).map t3)) :=
  ed_cb1 (da_cons h da_nil) fun _ H1 _ hv _ q => by
    obtain ⟨v, rfl, rv⟩ := dpa_one hv
    obtain ⟨a, xs, rfl, hs, hx⟩ := dp_list rv
    obtain ⟨e1, e2⟩ := rpa_t3 hx
    refine ⟨a, xs, key3 H1, rfl, SqL.of hs, e2, fun ys p h1 h2 hp => ?_⟩
    have e3 := rpa_of_t3 (xs := ys) fun y m => e2 y (h2.mem_iff.mp m)
    have e4 : ys.map (key3 H1) = srt3 ts := srt3_eq (by rw [← e1]; exact h2.map _) (List.pairwise_map.mpr h1)
    rw [e4] at e3
    exact q _ _ (Ex.new hp) (.lst upd_same (dpa_mono (Ex.new hp) e3))
end Sq
namespace Sq
/-! #### walks of three sides: the mathematics -/
abbrev N3 := Nat × Nat × Nat
def c3 (x : N3) : T3 := ((x.1 : Int), (x.2.1 : Int), (x.2.2 : Int))
def back3 (x : T3) : T3 := (x.2.1, x.2.2, x.1)
def loN (m n : Nat) : Nat := if m * m - n * n ≤ 2 * m * n then m * m - n * n else 2 * m * n
def hiN (m n : Nat) : Nat := if m * m - n * n ≤ 2 * m * n then 2 * m * n else m * m - n * n
def triN (m n k : Nat) : N3 := (k * (m * m + n * n), k * loN m n, k * hiN m n)
structure Src (m n : Nat) : Prop where
  n1 : 1 ≤ n
  nm : n < m
  od : (m + n) % 2 = 1
  cp : Nat.gcd m n = 1
theorem sqN_lt {m n : Nat} (h : n < m) : n * n < m * m := Nat.mul_lt_mul_of_lt_of_lt h h
theorem sub_odd {m n : Nat} (h : n < m) (ho : (m + n) % 2 = 1) : (m * m - n * n) % 2 = 1 := by
  have h1 := sqN_lt h
  have e1 := Nat.mul_mod m m 2
  have e2 := Nat.mul_mod n n 2
  have : (m % 2 = 0 ∧ n % 2 = 1) ∨ (m % 2 = 1 ∧ n % 2 = 0) := by omega
  rcases this with ⟨a, b⟩ | ⟨a, b⟩
  · rw [a] at e1
    rw [b] at e2
    omega
  · rw [a] at e1
    rw [b] at e2
    omega
theorem Src.cop {m n : Nat} (S : Src m n) : Nat.gcd (m * m - n * n) (2 * m * n) = 1 := by
  have h1 := sqN_lt S.nm
  have c1 : Nat.Coprime (m * m - n * n) m := by
    show Nat.gcd _ _ = 1
    rw [Nat.gcd_mul_left_sub_left (Nat.le_of_lt h1)]
    exact Nat.Coprime.mul_left (Nat.Coprime.symm S.cp) (Nat.Coprime.symm S.cp)
  have c2 : Nat.Coprime (m * m - n * n) n := by
    show Nat.gcd _ _ = 1
    rw [Nat.gcd_sub_mul_left_left (Nat.le_of_lt h1)]
    exact Nat.Coprime.mul_left S.cp S.cp
  have c3 : Nat.Coprime (m * m - n * n) 2 := by
    refine Nat.Coprime.symm ?_
    show Nat.gcd _ _ = 1
    rw [Nat.gcd_rec, sub_odd S.nm S.od]
    exact Nat.gcd_one_left 2
  exact Nat.Coprime.mul_right (Nat.Coprime.mul_right c3 c1) c2
theorem two_mn {m n : Nat} (h : n < m) : 2 * m * n < m * m + n * n := by
  obtain ⟨d, rfl⟩ : ∃ d, m = n + (d + 1) := ⟨m - n - 1, by omega⟩
  have e : (n + (d + 1)) * (n + (d + 1)) + n * n = 2 * (n + (d + 1)) * n + (d + 1) * (d + 1) := by grind
  have : 0 < (d + 1) * (d + 1) := Nat.mul_pos (by omega) (by omega)
  omega
theorem Src.ne {m n : Nat} (S : Src m n) : m * m - n * n ≠ 2 * m * n := by
  have h1 := sub_odd S.nm S.od
  have h2 : 2 * m * n = 2 * (m * n) := Nat.mul_assoc _ _ _
  omega
theorem Src.lo_hi {m n : Nat} (S : Src m n) : 1 ≤ loN m n ∧ loN m n < hiN m n ∧ hiN m n < m * m + n * n := by
  have h1 := sqN_lt S.nm
  have h2 := two_mn S.nm
  have h3 := S.ne
  have h4 : 0 < n * n := Nat.mul_pos S.n1 S.n1
  have h5 : 0 < 2 * m * n := Nat.mul_pos (by have := S.nm; omega) S.n1
  unfold loN hiN
  split <;> omega
theorem Src.gcd {m n k : Nat} (S : Src m n) : Nat.gcd (k * loN m n) (k * hiN m n) = k := by
  rw [Nat.gcd_mul_left]
  have h := S.cop
  unfold loN hiN
  split
  · rw [h, Nat.mul_one]
  · rw [Nat.gcd_comm, h, Nat.mul_one]
theorem sq_id {a b c : Nat} (h : c = a * a + b * b) (hb : b < a) : (a * a - b * b) * (a * a - b * b) + 2 * a * b * (2 * a * b) = c * c := by
  obtain ⟨d, hd⟩ : ∃ d, a * a = b * b + d := ⟨a * a - b * b, by have := sqN_lt hb; omega⟩
  have e1 : a * a - b * b = d := by omega
  have e2 : 2 * a * b * (2 * a * b) = 4 * ((a * a) * (b * b)) := by grind
  rw [e1, e2, h, hd]
  grind
theorem Src.sq {m n k : Nat} (S : Src m n) : k * loN m n * (k * loN m n) + k * hiN m n * (k * hiN m n) = k * (m * m + n * n) * (k * (m * m + n * n)) := by
  have h := sq_id (c := m * m + n * n) rfl S.nm
  have e : ∀ x : Nat, k * x * (k * x) = k * k * (x * x) := fun x => by grind
  rw [e, e, e, ← Nat.mul_add, ← h]
  congr 1
  unfold loN hiN
  split
  · rfl
  · exact Nat.add_comm _ _
theorem Src.odd {m n : Nat} (S : Src m n) : (if loN m n % 2 = 0 then hiN m n else loN m n) = m * m - n * n := by
  have h1 := sub_odd S.nm S.od
  have h2 : 2 * m * n = 2 * (m * n) := Nat.mul_assoc _ _ _
  unfold loN hiN
  by_cases h : m * m - n * n ≤ 2 * m * n
  · rw [if_pos h, if_pos h, if_neg (by omega)]
  · rw [if_neg h, if_neg h, if_pos (by omega)]
theorem lo_red (g m n : Nat) (hg : 0 < g) : loN (g * m) (g * n) = g * g * loN m n ∧ hiN (g * m) (g * n) = g * g * hiN m n := by
  have e1 : g * m * (g * m) - g * n * (g * n) = g * g * (m * m - n * n) := by
    have a : ∀ x : Nat, g * x * (g * x) = g * g * (x * x) := fun x => by grind
    rw [a, a, Nat.mul_sub]
  have e2 : 2 * (g * m) * (g * n) = g * g * (2 * m * n) := by grind
  have hgg : 0 < g * g := Nat.mul_pos hg hg
  unfold loN hiN
  rw [e1, e2]
  by_cases h : m * m - n * n ≤ 2 * m * n
  · rw [if_pos h, if_pos h, if_pos (Nat.mul_le_mul_left _ h), if_pos (Nat.mul_le_mul_left _ h)]
    exact ⟨rfl, rfl⟩
  · have h' : ¬ g * g * (m * m - n * n) ≤ g * g * (2 * m * n) := fun z => h (Nat.le_of_mul_le_mul_left z hgg)
    rw [if_neg h, if_neg h, if_neg h', if_neg h']
    exact ⟨rfl, rfl⟩
theorem tri_red {m n k : Nat} (h1 : 1 ≤ n) (hnm : n < m) (ho : (m + n) % 2 = 1) (hk : 1 ≤ k) : ∃ m1 n1 k1 : Nat, Src m1 n1 ∧ 1 ≤ k1 ∧ triN m n k = triN m1 n1 k1 := by
  have hg : 0 < Nat.gcd m n := Nat.gcd_pos_of_pos_left _ (by omega)
  obtain ⟨a, ha⟩ := Nat.gcd_dvd_left m n
  obtain ⟨b, hb⟩ := Nat.gcd_dvd_right m n
  have hc : Nat.gcd a b = 1 := by
    have e : Nat.gcd m n = Nat.gcd m n * Nat.gcd a b := by
      rw [← Nat.gcd_mul_left, ← ha, ← hb]
    exact Nat.eq_of_mul_eq_mul_left hg (by rw [Nat.mul_one]; exact e.symm)
  generalize Nat.gcd m n = g at ha hb hg
  subst ha
  subst hb
  refine ⟨a, b, k * (g * g), ⟨?_, Nat.lt_of_mul_lt_mul_left hnm, ?_, hc⟩, Nat.mul_pos hk (Nat.mul_pos hg hg), ?_⟩
  · rcases Nat.eq_zero_or_pos b with z | z
    · rw [z] at h1
      omega
    · exact z
  · have e := Nat.mul_mod g (a + b) 2
    rw [Nat.mul_add, ho] at e
    rcases Nat.mod_two_eq_zero_or_one (a + b) with z | z
    · rw [z] at e
      omega
    · exact z
  · obtain ⟨e1, e2⟩ := lo_red g a b hg
    unfold triN
    rw [e1, e2]
    have e3 : g * a * (g * a) + g * b * (g * b) = g * g * (a * a + b * b) := by grind
    rw [e3, Nat.mul_assoc k (g * g), Nat.mul_assoc k (g * g), Nat.mul_assoc k (g * g)]
/-! all walks, by sources -/
def kList (m n most : Nat) : List N3 := (List.range (most / (m * m + n * n))).map fun i => triN m n (i + 1)
def iWalk (most m : Nat) : Nat → List N3
  | 0 => []
  | j + 1 => iWalk most m j ++ (if (m + (j + 1)) % 2 = 1 ∧ Nat.gcd m (j + 1) = 1 then kList m (j + 1) most else [])
def oWalk (most : Nat) : Nat → List N3
  | 0 => []
  | i + 1 => oWalk most i ++ iWalk most (i + 2) (i + 1)
theorem inner_nil {most m : Nat} (h : most < m * m) : ∀ j, iWalk most m j = []
  | 0 => rfl
  | j + 1 => by
    unfold iWalk
    rw [inner_nil h j]
    split
    · unfold kList
      rw [Nat.div_eq_of_lt (by omega)]
      rfl
    · rfl
theorem outer_past {most r : Nat} (h : most < (r + 2) * (r + 2)) : ∀ j, oWalk most (r + j) = oWalk most r
  | 0 => rfl
  | j + 1 => by
    show oWalk most (r + j) ++ iWalk most (r + j + 2) (r + j + 1) = _
    rw [outer_past h j, inner_nil, List.append_nil]
    have : (r + 2) * (r + 2) ≤ (r + j + 2) * (r + j + 2) := Nat.mul_le_mul (by omega) (by omega)
    omega
theorem kList_mem {m n most : Nat} {x : N3} (hp : 0 < m * m + n * n) (h : x ∈ kList m n most) : ∃ k, 1 ≤ k ∧ k * (m * m + n * n) ≤ most ∧ x = triN m n k := by
  obtain ⟨i, hi, rfl⟩ := List.mem_map.mp h
  have hi' := List.mem_range.mp hi
  refine ⟨i + 1, by omega, ?_, rfl⟩
  exact (Nat.le_div_iff_mul_le hp).mp hi'
theorem inner_mem {most m : Nat} {x : N3} (hm : 0 < m) : ∀ j, j < m → x ∈ iWalk most m j → ∃ n k, Src m n ∧ 1 ≤ k ∧ k * (m * m + n * n) ≤ most ∧ x = triN m n k
  | 0, _, h => nomatch h
  | j + 1, hj, h => by
    unfold iWalk at h
    rcases List.mem_append.mp h with h | h
    · exact inner_mem hm j (by omega) h
    · split at h
      · rename_i hc
        obtain ⟨k, h1, h2, h3⟩ := kList_mem (Nat.add_pos_left (Nat.mul_pos hm hm) _) h
        exact ⟨j + 1, k, ⟨by omega, hj, hc.1, hc.2⟩, h1, h2, h3⟩
      · nomatch h
theorem outer_mem {most : Nat} {x : N3} : ∀ i, x ∈ oWalk most i → ∃ m n k, Src m n ∧ 1 ≤ k ∧ k * (m * m + n * n) ≤ most ∧ x = triN m n k
  | 0, h => nomatch h
  | i + 1, h => by
    unfold oWalk at h
    rcases List.mem_append.mp h with h | h
    · exact outer_mem i h
    · obtain ⟨n, k, r⟩ := inner_mem (by omega) (i + 1) (by omega) h
      exact ⟨i + 2, n, k, r⟩
theorem kList_len {m n most : Nat} (hm : 2 ≤ m) (h : most ≤ 300) : (kList m n most).length ≤ 75 := by
  unfold kList
  rw [List.length_map, List.length_range]
  have h1 : 2 * 2 ≤ m * m := Nat.mul_le_mul hm hm
  have h2 : most / (m * m + n * n) ≤ most / 4 := Nat.div_le_div_left (by omega) (by omega)
  omega
theorem inner_len {most m : Nat} (hm : 2 ≤ m) (h : most ≤ 300) : ∀ j, (iWalk most m j).length ≤ j * 75
  | 0 => Nat.zero_le _
  | j + 1 => by
    unfold iWalk
    have h1 := inner_len hm h j
    rw [List.length_append]
    split
    · have h2 := kList_len (n := j + 1) hm h
      omega
    · rw [List.length_nil]
      omega
theorem outer_len {most : Nat} (h : most ≤ 300) : ∀ i, i ≤ 16 → (oWalk most i).length ≤ i * 1200
  | 0, _ => Nat.zero_le _
  | i + 1, hi => by
    unfold oWalk
    have h1 := outer_len h i (by omega)
    have h2 := inner_len (m := i + 2) (by omega) h (i + 1)
    rw [List.length_append]
    omega
theorem outer_le {most i : Nat} (hm : most ≤ 300) (hi : i ≤ 16) : (oWalk most i).length ≤ 19200 := by
  have h := outer_len hm i hi
  omega
/-! by the kernel: to 60, sorted, they are the tried ones -/
def lexN (p q : N3) : Bool := if p.1 = q.1 then (if p.2.1 = q.2.1 then Nat.blt p.2.2 q.2.2 else Nat.blt p.2.1 q.2.1) else Nat.blt p.1 q.1
theorem lexN_c3 (p q : N3) : lex3 (c3 p) (c3 q) = lexN p q := by
  have b : ∀ a b : Nat, Nat.blt a b = decide (a < b) := fun a b => by
    by_cases h : a < b
    · rw [decide_eq_true h]
      exact Nat.blt_eq.mpr h
    · rw [decide_eq_false h]
      exact Bool.eq_false_iff.mpr fun z => h (Nat.blt_eq.mp z)
  unfold lex3 lexN c3
  dsimp only
  rw [b, b, b]
  simp only [Int.natCast_inj, Int.ofNat_lt]
def insN (x : N3) : List N3 → List N3
  | [] => [x]
  | y :: r => if lexN y x then y :: insN x r else x :: y :: r
def srtN : List N3 → List N3
  | [] => []
  | x :: r => insN x (srtN r)
theorem insN_c3 (x : N3) : ∀ l, ins3 (c3 x) (l.map c3) = (insN x l).map c3
  | [] => rfl
  | y :: r => by
    show (if lex3 (c3 y) (c3 x) then c3 y :: ins3 (c3 x) (r.map c3) else c3 x :: c3 y :: r.map c3) = _
    unfold insN
    rw [lexN_c3, insN_c3 x r]
    split <;> rfl
theorem srtN_c3 : ∀ l, srt3 (l.map c3) = (srtN l).map c3
  | [] => rfl
  | x :: r => by
    show ins3 (c3 x) (srt3 (r.map c3)) = _
    rw [srtN_c3 r, insN_c3]
    rfl
def rtK (x : Nat) : Nat := Nat.rec 0 (fun b ih => cond (Nat.beq (Nat.mul b b) x) b ih) 61
def rowN (c : Nat) : Nat → List N3
  | 0 => []
  | k + 1 => rowN c k ++ (if k + 1 < rtK (c * c - (k + 1) * (k + 1)) then [(c, k + 1, rtK (c * c - (k + 1) * (k + 1)))] else [])
def triedN : Nat → List N3
  | 0 => []
  | c + 1 => triedN c ++ rowN (c + 1) c
def eqL : List N3 → List N3 → Bool
  | [], [] => true
  | x :: a, y :: b => Nat.beq x.1 y.1 && (Nat.beq x.2.1 y.2.1 && (Nat.beq x.2.2 y.2.2 && eqL a b))
  | _, _ => false
theorem eqL_ok : ∀ a b, eqL a b = true → a = b
  | [], [], _ => rfl
  | [], _ :: _, h => nomatch h
  | _ :: _, [], h => nomatch h
  | x :: a, y :: b, h => by
    have h' : (Nat.beq x.1 y.1 && (Nat.beq x.2.1 y.2.1 && (Nat.beq x.2.2 y.2.2 && eqL a b))) = true := h
    simp only [Bool.and_eq_true] at h'
    obtain ⟨h1, h2, h3, h4⟩ := h'
    obtain ⟨x1, x2, x3⟩ := x
    obtain ⟨y1, y2, y3⟩ := y
    have e1 := Nat.eq_of_beq_eq_true h1
    have e2 := Nat.eq_of_beq_eq_true h2
    have e3 := Nat.eq_of_beq_eq_true h3
    dsimp only at e1 e2 e3
    rw [eqL_ok a b h4, e1, e2, e3]
theorem all_ofW {f : Nat → Bool} : ∀ (k n : Nat), (Nat.rec true (fun k ih => cond (f k) ih false) k : Bool) = true → n < k → f n = true
  | 0, _, _, h => absurd h (Nat.not_lt_zero _)
  | k + 1, n, h, hn => by
    have h' : cond (f k) (Nat.rec true (fun k ih => cond (f k) ih false) k : Bool) false = true := h
    cases hf : f k with
    | false =>
      rw [hf] at h'
      cases h'
    | true =>
      rw [hf] at h'
      by_cases e : n = k
      · rw [e]
        exact hf
      · exact all_ofW k n h' (by omega)
def chkW (c : Nat) : Bool := eqL (srtN (oWalk (c + 1) 16)) (srtN (oWalk c 16) ++ rowN (c + 1) c)
set_option maxHeartbeats 0 in
theorem chkW_all : (Nat.rec true (fun k ih => cond (chkW k) ih false) 60 : Bool) = true := by decide +kernel
theorem outer_zero : srtN (oWalk 0 16) = [] := by decide +kernel
theorem tried_is : ∀ most : Nat, most ≤ 60 → triedN most = srtN (oWalk most 16)
  | 0, _ => outer_zero.symm
  | c + 1, h => by
    have h1 := all_ofW (f := chkW) 60 c chkW_all (by omega)
    rw [eqL_ok _ _ h1]
    show triedN c ++ _ = _
    rw [tried_is c (by omega)]
@[irreducible] def walkN (most : Nat) : List N3 := srtN (oWalk most 16)
theorem walkN_eq (most : Nat) : walkN most = srtN (oWalk most 16) := by unfold walkN; rfl
theorem tried_walk {most : Nat} (h : most ≤ 60) : triedN most = walkN most := by rw [walkN_eq, tried_is most h]
theorem srtN_perm (l : List N3) : (srtN l).Perm l := by
  have ip : ∀ (x : N3) (l : List N3), (insN x l).Perm (x :: l) := fun x l => by
    induction l with
    | nil => exact .refl _
    | cons y r ih =>
      unfold insN
      split
      · exact (ih.cons y).trans (.swap x y r)
      · exact .refl _
  induction l with
  | nil => exact .refl _
  | cons x r ih => exact (ip x _).trans (ih.cons x)
theorem srtN_len (l : List N3) : (srtN l).length = l.length := (srtN_perm l).length_eq
theorem walkN_len {most : Nat} (h : most ≤ 300) : (walkN most).length ≤ 19200 := by
  rw [walkN_eq, srtN_len]
  exact outer_le h (Nat.le_refl _)
theorem walkN_mem {most : Nat} {x : N3} (h : x ∈ walkN most) : ∃ m n k, Src m n ∧ 1 ≤ k ∧ k * (m * m + n * n) ≤ most ∧ x = triN m n k := by
  rw [walkN_eq] at h
  exact outer_mem 16 ((srtN_perm _).mem_iff.mp h)
end Sq
namespace Sq
open PySem PySem.Spec PyProof.Rows L2 Evl
def topS (i : Nat) : Stmt := PySem.Challenge.pw_squarefield_k06_walks.main.body.getD i (.Pass ⟨0, 0, 0, 0⟩)
abbrev s_is_number : Stmt := topS 6
theorem sc_is_number : FnScope ["thing", "low", "high"] ["thing", "low", "high"] (defScope s_is_number) := ⟨rfl, rfl, rfl, by decide +kernel, rfl, by decide +kernel, by decide +kernel⟩
abbrev s_check_number : Stmt := topS 7
theorem sc_check_number : FnScope ["number", "low", "high"] ["number", "low", "high"] (defScope s_check_number) := ⟨rfl, rfl, rfl, by decide +kernel, rfl, by decide +kernel, by decide +kernel⟩
abbrev s_floor_root : Stmt := topS 8
theorem sc_floor_root : FnScope ["number", "low", "high", "middle"] ["number"] (defScope s_floor_root) := ⟨rfl, rfl, rfl, by decide +kernel, rfl, by decide +kernel, by decide +kernel⟩
abbrev s_common : Stmt := topS 9
theorem sc_common : FnScope ["one", "other"] ["one", "other"] (defScope s_common) := ⟨rfl, rfl, rfl, by decide +kernel, rfl, by decide +kernel, by decide +kernel⟩
abbrev s_walks : Stmt := topS 12
theorem sc_walks : FnScope ["most", "found", "m", "n", "third", "first", "second"] ["most"] (defScope s_walks) := ⟨rfl, rfl, rfl, by decide +kernel, rfl, by decide +kernel, by decide +kernel⟩
abbrev s_from_source : Stmt := topS 13
theorem sc_from_source : FnScope ["m", "n", "most", "sides", "third", "k"] ["m", "n", "most"] (defScope s_from_source) := ⟨rfl, rfl, rfl, by decide +kernel, rfl, by decide +kernel, by decide +kernel⟩
abbrev s_source : Stmt := topS 14
theorem sc_source : FnScope ["walk", "one", "other", "third", "times", "odd", "m", "side"] ["walk"] (defScope s_source) := ⟨rfl, rfl, rfl, by decide +kernel, rfl, by decide +kernel, by decide +kernel⟩
abbrev s_law_cell_at : Stmt := topS 16
theorem sc_law_cell_at : FnScope ["_law_script", "_law_k"] ["_law_script", "_law_k"] (defScope s_law_cell_at) := ⟨rfl, rfl, rfl, by decide +kernel, rfl, by decide +kernel, by decide +kernel⟩
abbrev s_law_draw : Stmt := topS 17
theorem sc_law_draw : FnScope ["_law_cell", "_law_k", "_law_many", "_law_primes"] ["_law_cell", "_law_k", "_law_many"] (defScope s_law_draw) := ⟨rfl, rfl, rfl, by decide +kernel, rfl, by decide +kernel, by decide +kernel⟩
abbrev s_law_common : Stmt := topS 18
theorem sc_law_common : FnScope ["_law_one", "_law_other"] ["_law_one", "_law_other"] (defScope s_law_common) := ⟨rfl, rfl, rfl, by decide +kernel, rfl, by decide +kernel, by decide +kernel⟩
abbrev s_law_tried : Stmt := topS 19
theorem sc_law_tried : FnScope ["_law_most", "_law_roots", "_law_side", "_law_found", "_law_third", "_law_one", "_law_other"] ["_law_most"] (defScope s_law_tried) := ⟨rfl, rfl, rfl, by decide +kernel, rfl, by decide +kernel, by decide +kernel⟩
abbrev s_law_made : Stmt := topS 20
theorem sc_law_made : FnScope ["_law_m", "_law_n", "_law_k", "_law_sides"] ["_law_m", "_law_n", "_law_k"] (defScope s_law_made) := ⟨rfl, rfl, rfl, by decide +kernel, rfl, by decide +kernel, by decide +kernel⟩
abbrev s_law_sources : Stmt := topS 21
theorem sc_law_sources : FnScope ["_law_most", "_law_found", "_law_m", "_law_n", "_law_k"] ["_law_most"] (defScope s_law_sources) := ⟨rfl, rfl, rfl, by decide +kernel, rfl, by decide +kernel, by decide +kernel⟩
abbrev s_law_source_right : Stmt := topS 22
theorem sc_law_source_right : FnScope ["_law_walk", "_law_found", "_law_m", "_law_n", "_law_k", "_law_third", "_law_one", "_law_other", "_law_number"] ["_law_walk", "_law_found"] (defScope s_law_source_right) := ⟨rfl, rfl, rfl, by decide +kernel, rfl, by decide +kernel, by decide +kernel⟩
abbrev s_law : Stmt := topS 23
theorem sc_law : FnScope ["_law_script", "_law_cell", "_law_most", "_law_due", "_law_again", "_law_found", "_law_third", "_law_one", "_law_other", "_law_wanted", "_law_walk", "_law_at", "_law_more", "_law_m", "_law_n"] ["_law_script"] (defScope s_law) := ⟨rfl, rfl, rfl, by decide +kernel, rfl, by decide +kernel, by decide +kernel⟩
structure Txt (K : PySem.W.Frag) (mg : Str → Option Value) where
  a_is_number : Addr
  d_is_number : FuncData
  F_is_number : Fun K "is_number" "is_number" s_is_number a_is_number d_is_number
  b_is_number : Binds K d_is_number ["thing", "low", "high"] []
  g_is_number : mg "is_number" = some (.ref a_is_number)
  a_check_number : Addr
  d_check_number : FuncData
  F_check_number : Fun K "check_number" "check_number" s_check_number a_check_number d_check_number
  b_check_number : Binds K d_check_number ["number", "low", "high"] []
  g_check_number : mg "check_number" = some (.ref a_check_number)
  a_floor_root : Addr
  d_floor_root : FuncData
  F_floor_root : Fun K "floor_root" "floor_root" s_floor_root a_floor_root d_floor_root
  b_floor_root : Binds K d_floor_root ["number"] []
  g_floor_root : mg "floor_root" = some (.ref a_floor_root)
  a_common : Addr
  d_common : FuncData
  F_common : Fun K "common" "common" s_common a_common d_common
  b_common : Binds K d_common ["one", "other"] []
  g_common : mg "common" = some (.ref a_common)
  a_walks : Addr
  d_walks : FuncData
  F_walks : Fun K "walks" "walks" s_walks a_walks d_walks
  b_walks : Binds K d_walks ["most"] []
  g_walks : mg "walks" = some (.ref a_walks)
  a_from_source : Addr
  d_from_source : FuncData
  F_from_source : Fun K "from_source" "from_source" s_from_source a_from_source d_from_source
  b_from_source : Binds K d_from_source ["m", "n", "most"] []
  g_from_source : mg "from_source" = some (.ref a_from_source)
  a_source : Addr
  d_source : FuncData
  F_source : Fun K "source" "source" s_source a_source d_source
  b_source : Binds K d_source ["walk"] []
  g_source : mg "source" = some (.ref a_source)
  a_law_cell_at : Addr
  d_law_cell_at : FuncData
  F_law_cell_at : Fun K "_law_cell_at" "_law_cell_at" s_law_cell_at a_law_cell_at d_law_cell_at
  b_law_cell_at : Binds K d_law_cell_at ["_law_script", "_law_k"] []
  g_law_cell_at : mg "_law_cell_at" = some (.ref a_law_cell_at)
  a_law_draw : Addr
  d_law_draw : FuncData
  F_law_draw : Fun K "_law_draw" "_law_draw" s_law_draw a_law_draw d_law_draw
  b_law_draw : Binds K d_law_draw ["_law_cell", "_law_k", "_law_many"] []
  g_law_draw : mg "_law_draw" = some (.ref a_law_draw)
  a_law_common : Addr
  d_law_common : FuncData
  F_law_common : Fun K "_law_common" "_law_common" s_law_common a_law_common d_law_common
  b_law_common : Binds K d_law_common ["_law_one", "_law_other"] []
  g_law_common : mg "_law_common" = some (.ref a_law_common)
  a_law_tried : Addr
  d_law_tried : FuncData
  F_law_tried : Fun K "_law_tried" "_law_tried" s_law_tried a_law_tried d_law_tried
  b_law_tried : Binds K d_law_tried ["_law_most"] []
  g_law_tried : mg "_law_tried" = some (.ref a_law_tried)
  a_law_made : Addr
  d_law_made : FuncData
  F_law_made : Fun K "_law_made" "_law_made" s_law_made a_law_made d_law_made
  b_law_made : Binds K d_law_made ["_law_m", "_law_n", "_law_k"] []
  g_law_made : mg "_law_made" = some (.ref a_law_made)
  a_law_sources : Addr
  d_law_sources : FuncData
  F_law_sources : Fun K "_law_sources" "_law_sources" s_law_sources a_law_sources d_law_sources
  b_law_sources : Binds K d_law_sources ["_law_most"] []
  g_law_sources : mg "_law_sources" = some (.ref a_law_sources)
  a_law_source_right : Addr
  d_law_source_right : FuncData
  F_law_source_right : Fun K "_law_source_right" "_law_source_right" s_law_source_right a_law_source_right d_law_source_right
  b_law_source_right : Binds K d_law_source_right ["_law_walk", "_law_found"] []
  g_law_source_right : mg "_law_source_right" = some (.ref a_law_source_right)
  a_law : Addr
  d_law : FuncData
  F_law : Fun K "law" "law" s_law a_law d_law
  b_law : Binds K d_law ["_law_script"] []
  g_law : mg "law" = some (.ref a_law)
  t_GREATEST : Tok
  g_GREATEST : mg "GREATEST" = some (.int 10000 t_GREATEST)
  t_LONGEST : Tok
  g_LONGEST : mg "LONGEST" = some (.int 300 t_LONGEST)
  z_all : mg "all" = none
  z_any : mg "any" = none
  z_bool : mg "bool" = none
  z_int : mg "int" = none
  z_isinstance : mg "isinstance" = none
  z_len : mg "len" = none
  z_list : mg "list" = none
  z_max : mg "max" = none
  z_range : mg "range" = none
  z_sorted : mg "sorted" = none
  z_tuple : mg "tuple" = none
end Sq
open PySem PySem.Spec PyProof.Rows L2 Evl Sq
local macro_rules | `(tactic| walk_at "dp") => `(tactic| first | exact Rp.int _ | exact Rp.bl _ | exact Rp.str _ | exact Rp.non | assumption | (refine' dp_mono ?hx ?hy; (case hx => assumption); (case hy => walk_at "dp")))
local macro_rules | `(tactic| walk_at "sd") => `(tactic| first | assumption | omega | rfl | decide | exact le_lit rfl | (simp only [List.length_cons, List.length_nil]; omega))
local macro_rules | `(tactic| walk_at "ev") => `(tactic| first
  | (refine' ed_var rfl ?hz; (case hz => walk_at "dp"))
  | exact ed_ci | exact ed_cb | exact ed_cs | exact ed_cn
  | (refine' ed_I0i ?ea ?eb; (case' ea => walk_at "ev"); (case' eb => walk_at "ev"))
  | (refine' ed_eqI ?ea ?eb; (case' ea => walk_at "ev"); (case' eb => walk_at "ev"))
  | (refine' ed_neI ?ea ?eb; (case' ea => walk_at "ev"); (case' eb => walk_at "ev"))
  | (refine' ed_I0b ?ea ?eb; (case' ea => walk_at "ev"); (case' eb => walk_at "ev"))
  | (refine' ed_mod ?ea ?eb ?ec; (case' ea => walk_at "ev"); (case' eb => walk_at "ev"); (try (case ec => walk_at "sd")))
  | (refine' ed_mul ?ea ?eb ?ec; (case' ea => walk_at "ev"); (case' eb => walk_at "ev"); (try (case ec => walk_at "sd")))
  | (refine' ed_fdiv ?ea ?eb ?ec; (case' ea => walk_at "ev"); (case' eb => walk_at "ev"); (try (case ec => walk_at "sd")))
  | (refine' ed_pow ?ea ?eb ?ec; (case' ea => walk_at "ev"); (case' eb => walk_at "ev"); (try (case ec => walk_at "sd")))
  | (refine' ed_shl ?ea ?eb ?ec; (case' ea => walk_at "ev"); (case' eb => walk_at "ev"); (try (case ec => walk_at "sd")))
  | (refine' ed_neg ?hz; (case' hz => walk_at "ev"))
  | (refine' ed_eqB ?ea ?eb; (case' ea => walk_at "ev"); (case' eb => walk_at "ev"))
  | (refine' ed_neB ?ea ?eb; (case' ea => walk_at "ev"); (case' eb => walk_at "ev"))
  | (refine' ed_eqS ?ea ?eb; (case' ea => walk_at "ev"); (case' eb => walk_at "ev"))
  | (refine' ed_neS ?ea ?eb; (case' ea => walk_at "ev"); (case' eb => walk_at "ev"))
  | (refine' ed_isnB ?ea ?eb; (case' ea => walk_at "ev"); (case' eb => walk_at "ev"))
  | (refine' ed_ixL ?ea ?eb ?ec ?ed; (case' ea => walk_at "ev"); (case' eb => walk_at "ev"); (try (case ec => walk_at "sd")); (try (case ed => rfl)))
  | (refine' ed_ixT ?ea ?eb ?ec ?ed; (case' ea => walk_at "ev"); (case' eb => walk_at "ev"); (try (case ec => walk_at "sd")); (try (case ed => rfl)))
  | (refine' ed_not ?hz; (case' hz => walk_at "ev"))
  | (refine' ed_tup ?ea ?eb; (case' ea => walk_at "ea"); (try (case eb => walk_at "sd")))
  | (refine' ed_lst ?ea ?eb; (case' ea => walk_at "ea"); (try (case eb => walk_at "sd")))
  | (refine' ed_len ?hz; (case' hz => walk_at "ev"))
  | (refine' ed_lenT ?hz; (case' hz => walk_at "ev"))
  | (refine' ed_abs ?hz; (case' hz => walk_at "ev"))
  | (refine' ed_isi ?ea ?eb; (case' ea => walk_at "ev"); (try (case eb => first | exact kit_int _ | exact kit_bool _ | exact kit_tuple _ | exact kit_list _ | exact kit_str _)))
  | (refine' ed_call ?ea ?eb; (case' ea => walk_at "ea"); (try (case eb => walk_at "rel"))))
local macro_rules | `(tactic| walk_at "ea") => `(tactic| first | exact da_nil | (refine' da_cons ?xa ?xb; (case' xa => walk_at "ev"); (case' xb => walk_at "ea")))
local macro_rules | `(tactic| walk_at "et") => `(tactic| first
  | (refine' dt_test ?hz; (case' hz => walk_at "ev"))
  | (refine' dt_B ?hz; (case' hz => walk_at "ev"))
  | (refine' et_not ?hz; (case' hz => walk_at "et"))
  | (refine' et_and ?xa ?xb; (case' xa => walk_at "et"); (case' xb => (intro hx; (try simp only [decide_eq_true_eq, Bool.not_eq_true', decide_eq_false_iff_not] at hx); walk_at "et")))
  | (refine' et_or ?xa ?xb; (case' xa => walk_at "et"); (case' xb => (intro hx; (try simp only [decide_eq_false_iff_not, Bool.not_eq_false', decide_eq_true_eq] at hx); walk_at "et"))))
local macro_rules | `(tactic| walk_at "sq") => `(tactic| first | assumption | (refine' ex_l ?hx ?hy; (case hx => assumption); (case hy => walk_at "sq")))
namespace Sq
section
variable {P : Program} {w : World} {K : PySem.W.Frag} {mg : Str → Option Value} {base : Heap}
/-! #### the law's cells and draws -/
def cellAt (ns : List Int) (k : Int) : Int := ns.getD k.toNat 0
def spCell (K : PySem.W.Frag) : Sp := fun vs H Q _ => ∃ (a : Addr) (ns : List Int) (k : Int), vs = [.ref a, .int k] ∧ SqL K H a (ns.map V.int) ∧ 0 ≤ k ∧ ∀ H2, Ex H H2 → Q (.int (cellAt ns k)) H2
theorem ok_law_cell_at (T : Txt K mg) : FnOk P w K mg base CX0 1 T.a_law_cell_at T.d_law_cell_at ["_law_script", "_law_k"] (spCell K) := by
  refine T.F_law_cell_at.ok sc_law_cell_at (fun vs H Q E h => ?_) (fun cdv A outer s H vs Q E hr h => ?_)
  · obtain ⟨a, ns, k, rfl, _⟩ := h
    rfl
  · obtain ⟨a, ns, k, rfl, hS, hk, q⟩ := h
    refine ⟨_, (pss_cons (ps_if (pt_cmpR op_lt (pv 1) (pe_callB (lenQ (K := K)) (by rfl) T.z_len (by decide +kernel) (pa_cons (pv 0) pa_nil)) (nomark _)) (pss_one (ps_ret (pe_ix (ixlQ (K := K)) (pv 0) (pv 1) (fun _ _ => rfl)))) pss_nil) (pss_one (ps_ret pe_int))), ?_⟩
    refine ⟨_, rfl, _, rfl, a, _, rfl, .inl hS, k, _, rfl, rfl, _, rfl, ite2 (fun e => ?_) (fun e => ?_)⟩
    · have e1 := of_decide_eq_true e
      rw [List.length_map] at e1
      have hlt : k.toNat < ns.length := by omega
      refine ⟨_, rfl, _, rfl, a, _, k, .int ns[k.toNat], rfl, rfl, hS, ?_, ?_⟩
      · have g : (ns.map V.int)[k.toNat]? = some (.int ns[k.toNat]) := by
          rw [List.getElem?_map, List.getElem?_eq_getElem hlt]
          rfl
        have g2 := atI_nat g
        rw [Int.toNat_of_nonneg hk] at g2
        exact g2
      · have r := q H (Ex.refl H)
        have e2 : cellAt ns k = ns[k.toNat] := by
          unfold cellAt
          rw [List.getD_eq_getElem?_getD, List.getElem?_eq_getElem hlt]
          rfl
        rw [e2] at r
        exact r
    · have e1 : ¬ (k < ((ns.map V.int).length : Int)) := fun z => e (decide_eq_true z)
      rw [List.length_map] at e1
      have r := q H (Ex.refl H)
      have e2 : cellAt ns k = 0 := by
        unfold cellAt
        rw [List.getD_eq_getElem?_getD, List.getElem?_eq_none (by omega)]
        rfl
      rw [e2] at r
      exact r
theorem ed_cell {tb : TE} {σ : L2.St} {H : Hp} {E : XK} {a : Addr} {ns : List Int} {k : Int} (ha : σ[0]? = some (some (.ref a))) (hS : SqL K H a (ns.map V.int)) (hb : EvD tb σ H (.int k)) (hk : 0 ≤ k) :
    EvD (tCall (spCell K) [] E (tCons (tVar 0) (tCons tb tNil))) σ H (.int (cellAt ns k)) := fun H1 e _ q =>
  ⟨_, ha, ev_int hb H1 e _ fun H2 e2 => ⟨a, ns, k, rfl, ex_l (e.trans e2) hS, hk, fun H3 e3 => q _ H3 (e2.trans e3) (.int _)⟩⟩
def primes16 : List Int := [1000003, 1000033, 1000037, 1000039, 1000081, 1000099, 1000117, 1000121, 1000133, 1000151, 1000159, 1000171, 1000183, 1000187, 1000193, 1000199]
def draw (c k m : Int) : Int := (c * 48271 + k * 69621) % primes16.getD (k % 16).toNat 0 % m
theorem primes16_pos : ∀ i : Nat, i < 16 → 0 < primes16.getD i 0 := by decide
theorem draw_nonneg {c k m : Int} (h : 0 < m) : 0 ≤ draw c k m := Int.emod_nonneg _ (by omega)
theorem draw_lt {c k m : Int} (h : 0 < m) : draw c k m < m := Int.emod_lt_of_pos _ h
def rDraw : List PyData → PyData → Prop := fun ds d => ∃ c k m, ds = [.int c, .int k, .int m] ∧ (0 ≤ k ∧ k ≤ 100) ∧ 0 < m ∧ d = .int (draw c k m)
theorem ok_law_draw (T : Txt K mg) : FnOk P w K mg base CX0 1 T.a_law_draw T.d_law_draw ["_law_cell", "_law_k", "_law_many"] (spR rDraw) := by
  refine T.F_law_draw.ok sc_law_draw (fun vs H Q E h => ?_) (fun cdv A outer s H vs Q E hr h => ?_)
  · obtain ⟨ds, d, hv, ⟨c, k, m, rfl, _, _, rfl⟩, q⟩ := h
    exact dpa_len hv
  · obtain ⟨ds, d, hv, ⟨c, k, m, rfl, hk, hm, rfl⟩, q⟩ := h
    obtain ⟨v1, v2, v3, rfl, h1, h2, h3⟩ := dpa_three hv
    cases dp_int h1
    cases dp_int h2
    cases dp_int h3
    refine ⟨_, (pss_cons (ps_set (i := 3) sc_law_draw.nd rfl (Or.inl rfl) (pe_tup (pa_cons pe_int (pa_cons pe_int (pa_cons pe_int (pa_cons pe_int (pa_cons pe_int (pa_cons pe_int (pa_cons pe_int (pa_cons pe_int (pa_cons pe_int (pa_cons pe_int (pa_cons pe_int (pa_cons pe_int (pa_cons pe_int (pa_cons pe_int (pa_cons pe_int (pa_cons pe_int pa_nil)))))))))))))))))) (pss_one (ps_ret (pe_op op_mod (pe_op op_mod (pe_op op_add (pe_op op_mul (pv 0) pe_int) (pe_op op_mul (pv 1) pe_int)) (pe_ix (ixtQ (K := K)) (pv 3) (pe_op op_mod (pv 1) pe_int) (fun _ _ => rfl))) (pv 2))))), ?_⟩
    refine q_asgD (d := .tuple (primes16.map .int)) ?_ fun v H1 e1 hv1 => ?_
    · exact ed_tup (by walk_at "ea") (by decide)
    refine s_retD (d := .int (draw c k m)) ?_ fun v H2 e2 hv2 => q v H2 (e1.trans e2) hv2
    have hi : 0 ≤ k % 16 ∧ k % 16 < 16 := ⟨Int.emod_nonneg _ (by decide), Int.emod_lt_of_pos _ (by decide)⟩
    have hlt : (k % 16).toNat < 16 := by omega
    refine ed_mod (ed_mod ?_ (ed_ixT (ds := primes16.map .int) (i := k % 16) ?_ ?_ hi.1 (d := .int (primes16.getD (k % 16).toNat 0)) ?_) (primes16_pos _ hlt)) ?_ hm
    · walk_at "ev"
    · walk_at "ev"
    · walk_at "ev"
    · rw [List.getElem?_map, List.getD_eq_getElem?_getD, List.getElem?_eq_getElem (show (k % 16).toNat < primes16.length from hlt)]
      rfl
    · walk_at "ev"
end
end Sq
local macro_rules | `(tactic| walk_at "ev") => `(tactic| (refine' ed_cell rfl ?ea ?eb ?ec; (case' ea => walk_at "sq"); (case' eb => walk_at "ev"); (try (case ec => walk_at "sd"))))
local macro_rules | `(tactic| walk_at "rel") => `(tactic| exact ⟨_, _, _, rfl, (by decide), (by decide), rfl⟩)
namespace Sq
section
variable {P : Program} {w : World} {K : PySem.W.Frag} {mg : Str → Option Value} {base : Heap}
def isNum (x : PyData) (lo hi : Int) : Bool := match x with
  | .int i => decide (lo ≤ i) && decide (i ≤ hi)
  | _ => false
def rIsNum : List PyData → PyData → Prop := fun ds d => ∃ x lo hi, ds = [x, .int lo, .int hi] ∧ d = .bool (isNum x lo hi)
theorem ok_is_number (T : Txt K mg) : FnOk P w K mg base CX0 1 T.a_is_number T.d_is_number ["thing", "low", "high"] (spR rIsNum) := by
  refine T.F_is_number.ok sc_is_number (fun vs H Q E h => ?_) (fun cdv A outer s H vs Q E hr h => ?_)
  · obtain ⟨ds, d, hv, ⟨x, lo, hi, rfl, rfl⟩, q⟩ := h
    exact dpa_len hv
  · obtain ⟨ds, d, hv, ⟨x, lo, hi, rfl, rfl⟩, q⟩ := h
    obtain ⟨v1, v2, v3, rfl, h1, h2, h3⟩ := dpa_three hv
    cases dp_int h2
    cases dp_int h3
    refine ⟨_, (pss_one (ps_ret (pe_and (pe_callB (isiQ (K := K)) (by rfl) T.z_isinstance (by decide +kernel) (pa_cons (pv 0) (pa_cons (pe_bltn (v := .ty "int") (by rfl) T.z_int (by decide +kernel) rfl) pa_nil))) (pe_and (pe_not (pe_callB (isiQ (K := K)) (by rfl) T.z_isinstance (by decide +kernel) (pa_cons (pv 0) (pa_cons (pe_bltn (v := .ty "bool") (by rfl) T.z_bool (by decide +kernel) rfl) pa_nil)))) (pe_one (pe_chain op_le op_le (pv 1) (pv 0) (pv 2))))))), ?_⟩
    refine s_retD ?_ q
    have hx : EvD (tVar 0) (start ["thing", "low", "high"] [v1, .int lo, .int hi]) H x := ed_var rfl h1
    cases x with
    | int i =>
      exact ed_and (a := true) (ed_isi hx (kit_int _)) fun _ => ed_and (a := true) (ed_not (a := false) (ed_isi hx (kit_bool _))) fun _ =>
        ed_chain (f := fun i j => decide (i ≤ j)) (g := fun i j => decide (i ≤ j)) (by walk_at "ev") hx fun _ => by walk_at "ev"
    | bool i => exact ed_and (a := true) (ed_isi hx (kit_int _)) fun _ => ed_and (a := false) (b := false) (ed_not (a := true) (ed_isi hx (kit_bool _))) fun h => nomatch h
    | none => exact ed_and (a := false) (b := false) (ed_isi hx (kit_int _)) fun h => nomatch h
    | str i => exact ed_and (a := false) (b := false) (ed_isi hx (kit_int _)) fun h => nomatch h
    | list i => exact ed_and (a := false) (b := false) (ed_isi hx (kit_int _)) fun h => nomatch h
    | tuple i => exact ed_and (a := false) (b := false) (ed_isi hx (kit_int _)) fun h => nomatch h
    | dict i => exact ed_and (a := false) (b := false) (ed_isi hx (kit_int _)) fun h => nomatch h
theorem isNum_ok {i lo hi : Int} (h : lo ≤ i ∧ i ≤ hi) : isNum (.int i) lo hi = true := by
  show (decide (lo ≤ i) && decide (i ≤ hi)) = true
  rw [decide_eq_true h.1, decide_eq_true h.2]
  rfl
end
end Sq
local macro_rules | `(tactic| walk_at "rel") => `(tactic| exact ⟨_, _, _, rfl, rfl⟩)
namespace Sq
/-! #### numbers: the mathematics -/
def isqN : Nat → Nat
  | 0 => 0
  | n + 1 => if (isqN n + 1) * (isqN n + 1) ≤ n + 1 then isqN n + 1 else isqN n
theorem isqN_spec : ∀ n : Nat, isqN n * isqN n ≤ n ∧ n < (isqN n + 1) * (isqN n + 1)
  | 0 => by decide
  | n + 1 => by
    have ih := isqN_spec n
    unfold isqN
    split
    · rename_i h
      refine ⟨h, ?_⟩
      have e : (isqN n + 1 + 1) * (isqN n + 1 + 1) = (isqN n + 1) * (isqN n + 1) + 2 * (isqN n + 1) + 1 := by grind
      omega
    · rename_i h
      omega
def froot (n : Int) : Int := (isqN n.toNat : Nat)
theorem froot_spec {n : Int} (h : 0 ≤ n) : 0 ≤ froot n ∧ froot n * froot n ≤ n ∧ n < (froot n + 1) * (froot n + 1) := by
  have s := isqN_spec n.toNat
  unfold froot
  have e : (n.toNat : Int) = n := Int.toNat_of_nonneg h
  refine ⟨Int.natCast_nonneg _, ?_, ?_⟩
  · have := Int.ofNat_le.mpr s.1
    rw [Int.natCast_mul] at this
    omega
  · have := Int.ofNat_lt.mpr s.2
    rw [Int.natCast_mul, Int.natCast_add] at this
    have q : ((1 : Nat) : Int) = 1 := rfl
    rw [q] at this
    omega
theorem sq_lt {a b : Int} (ha : 0 ≤ a) (h : a < b) : a * a < b * b := Int.mul_lt_mul' (Int.le_of_lt h) h ha (by omega)
theorem sq_le {a b : Int} (ha : 0 ≤ a) (h : a ≤ b) : a * a ≤ b * b := Int.mul_le_mul h h ha (by omega)
theorem lt_of_sq {a b : Int} (hb : 0 ≤ b) (h : a * a < b * b) : a < b := by
  by_cases q : a < b
  · exact q
  · have := sq_le hb (show b ≤ a by omega)
    omega
theorem le_of_sq {a b : Int} (hb : 0 ≤ b) (h : a * a ≤ b * b) : a ≤ b := by
  by_cases q : a ≤ b
  · exact q
  · have := sq_lt hb (show b < a by omega)
    omega
theorem froot_unique {n r : Int} (hr : 0 ≤ r) (h1 : r * r ≤ n) (h2 : n < (r + 1) * (r + 1)) : froot n = r := by
  have hn : 0 ≤ n := Int.le_trans (Int.mul_nonneg hr hr) h1
  have s := froot_spec hn
  have a : froot n < r + 1 := lt_of_sq (by omega) (by omega)
  have b : r < froot n + 1 := lt_of_sq (by omega) (by omega)
  omega
theorem froot_sq {r : Int} (hr : 0 ≤ r) : froot (r * r) = r := froot_unique hr (Int.le_refl _) (sq_lt hr (by omega))
theorem froot_le {n m : Int} (h : 0 ≤ n) (hm : 0 ≤ m) (q : n < (m + 1) * (m + 1)) : froot n ≤ m := by
  have s := froot_spec h
  have a : froot n < m + 1 := lt_of_sq (by omega) (by omega)
  omega
/-- a prime, by trying -/
def PrimeP (p : Int) : Prop := 2 ≤ p ∧ ∀ d : Int, 2 ≤ d → d * d ≤ p → p % d ≠ 0
open Classical in
noncomputable def isP (p : Int) : Bool := decide (PrimeP p)
theorem isP_true {p : Int} : isP p = true ↔ PrimeP p := by
  unfold isP
  exact @decide_eq_true_iff (PrimeP p) (Classical.propDecidable _)
theorem isP_of {p : Int} (h : PrimeP p) : isP p = true := isP_true.mpr h
theorem isP_not {p : Int} (h : ¬ PrimeP p) : isP p = false := by
  cases e : isP p with
  | false => rfl
  | true => exact absurd (isP_true.mp e) h
/-- how often p goes into n -/
def tinN (p : Nat) : Nat → Nat → Nat
  | 0, _ => 0
  | f + 1, n => if n % p = 0 then tinN p f (n / p) + 1 else 0
theorem tinN_fuel {p : Nat} (hp : 2 ≤ p) : ∀ (f g n : Nat), 1 ≤ n → n ≤ f → n ≤ g → tinN p f n = tinN p g n
  | 0, _, n, h1, h2, _ => by omega
  | _ + 1, 0, n, h1, _, h3 => by omega
  | f + 1, g + 1, n, h1, h2, h3 => by
    unfold tinN
    split
    · rename_i hm
      have hd : n / p < n := Nat.div_lt_self (by omega) (by omega)
      have h0 : 1 ≤ n / p := by
        have := Nat.div_add_mod n p
        rw [hm] at this
        rcases Nat.eq_zero_or_pos (n / p) with z | z
        · rw [z] at this
          omega
        · exact z
      rw [tinN_fuel hp f g (n / p) h0 (by omega) (by omega)]
    · rfl
def tin (p n : Int) : Int := (tinN p.toNat n.toNat n.toNat : Nat)
theorem tin_nonneg (p n : Int) : 0 ≤ tin p n := Int.natCast_nonneg _
theorem div_pos_of_mod {p n : Int} (hp : 2 ≤ p) (hn : 1 ≤ n) (hm : n % p = 0) : 1 ≤ n / p ∧ n / p < n := by
  have h := Int.mul_ediv_add_emod n p
  rw [hm] at h
  have h1 : 1 ≤ n / p := by
    by_cases q : 1 ≤ n / p
    · exact q
    · have : p * (n / p) ≤ 0 := Int.mul_nonpos_of_nonneg_of_nonpos (by omega) (by omega)
      omega
  refine ⟨h1, ?_⟩
  have : 2 * (n / p) ≤ p * (n / p) := Int.mul_le_mul_of_nonneg_right hp (by omega)
  omega
theorem toNat_mod {n p : Int} (hn : 0 ≤ n) (hp : 0 ≤ p) : n.toNat % p.toNat = (n % p).toNat := by
  obtain ⟨a, rfl⟩ := Int.eq_ofNat_of_zero_le hn
  obtain ⟨b, rfl⟩ := Int.eq_ofNat_of_zero_le hp
  rfl
theorem toNat_div {n p : Int} (hn : 0 ≤ n) (hp : 0 ≤ p) : n.toNat / p.toNat = (n / p).toNat := by
  obtain ⟨a, rfl⟩ := Int.eq_ofNat_of_zero_le hn
  obtain ⟨b, rfl⟩ := Int.eq_ofNat_of_zero_le hp
  rfl
theorem tin_step {p n : Int} (hp : 2 ≤ p) (hn : 1 ≤ n) : tin p n = if n % p = 0 then tin p (n / p) + 1 else 0 := by
  unfold tin
  obtain ⟨f, hf⟩ : ∃ f, n.toNat = f + 1 := ⟨n.toNat - 1, by omega⟩
  have e : tinN p.toNat n.toNat n.toNat = if n.toNat % p.toNat = 0 then tinN p.toNat f (n.toNat / p.toNat) + 1 else 0 := by
    have g : ∀ N, N = f + 1 → tinN p.toNat N n.toNat = if n.toNat % p.toNat = 0 then tinN p.toNat f (n.toNat / p.toNat) + 1 else 0 := by
      rintro _ rfl
      rfl
    exact g _ hf
  have hm : n.toNat % p.toNat = 0 ↔ n % p = 0 := by
    rw [toNat_mod (by omega) (by omega)]
    have : 0 ≤ n % p := Int.emod_nonneg _ (by omega)
    omega
  by_cases h : n % p = 0
  · rw [if_pos h, e, if_pos (hm.mpr h), toNat_div (by omega) (by omega)]
    have d := div_pos_of_mod hp hn h
    rw [tinN_fuel (by omega) f (n / p).toNat (n / p).toNat (by omega) (by omega) (Nat.le_refl _)]
    rfl
  · rw [if_neg h, e, if_neg (fun z => h (hm.mp z))]
    rfl
/-! #### numbers: the defs -/
section
variable {P : Program} {w : World} {K : PySem.W.Frag} {mg : Str → Option Value} {base : Heap}
def rChNum : List PyData → PyData → Prop := fun ds d => ∃ n lo hi : Int, ds = [.int n, .int lo, .int hi] ∧ (lo ≤ n ∧ n ≤ hi) ∧ d = .none
theorem ok_check_number (T : Txt K mg) : FnOk P w K mg base CX0 2 T.a_check_number T.d_check_number ["number", "low", "high"] (spR rChNum) := by
  refine T.F_check_number.ok sc_check_number (fun vs H Q E h => ?_) (fun cdv A outer s H vs Q E hr h => ?_)
  · obtain ⟨ds, d, hv, ⟨n, lo, hi, rfl, _, rfl⟩, q⟩ := h
    exact dpa_len hv
  · obtain ⟨ds, d, hv, ⟨n, lo, hi, rfl, hn, rfl⟩, q⟩ := h
    obtain ⟨v1, v2, v3, rfl, h1, h2, h3⟩ := dpa_three hv
    refine ⟨_, (pss_one (ps_if (pt_not (pt_val (pe_call (ok_is_number T) (hr.mono (by decide)) (by rfl) T.g_is_number T.F_is_number.kp T.b_is_number .nil pass0 (pa_cons (pv 0) (pa_cons (pv 1) (pa_cons (pv 2) pa_nil)))))) (pss_one ps_never) pss_nil)), ?_⟩
    refine s_if (b := false) (et_not (a := true) (dt_B (ed_is (ed_call (ds := [.int n, .int lo, .int hi]) (by walk_at "ea") ⟨_, _, _, rfl, rfl⟩) ?_))) (fun z => nomatch z) (fun _ H1 e1 => q _ H1 e1 .non)
    rw [isNum_ok hn]
def rFroot : List PyData → PyData → Prop := fun ds d => ∃ n : Int, ds = [.int n] ∧ 0 ≤ n ∧ n ≤ 1000000000 ∧ d = .int (froot n)
theorem ok_floor_root (T : Txt K mg) : FnOk P w K mg base CX0 1 T.a_floor_root T.d_floor_root ["number"] (spR rFroot) := by
  refine T.F_floor_root.ok sc_floor_root (fun vs H Q E h => ?_) (fun cdv A outer s H vs Q E hr h => ?_)
  · obtain ⟨ds, d, hv, ⟨p, rfl, _, _, rfl⟩, q⟩ := h
    exact dpa_len hv
  · obtain ⟨ds, d, hv, ⟨n, rfl, hn, hn2, rfl⟩, q⟩ := h
    obtain ⟨v1, rfl, h1⟩ := dpa_one hv
    cases dp_int h1
    refine ⟨_, (pss_cons (ps_set (i := 1) sc_floor_root.nd rfl (Or.inl rfl) pe_int) (pss_cons (ps_set (i := 2) sc_floor_root.nd rfl (Or.inl rfl) (pe_op op_add (pv 0) pe_int)) (pss_cons (ps_while PassesOwn.never (pt_cmpR op_gt (pe_op op_sub (pv 2) (pv 1)) pe_int (nomark _)) (pss_cons (ps_set (i := 3) sc_floor_root.nd rfl (Or.inl rfl) (pe_op op_fdiv (pe_op op_add (pv 1) (pv 2)) pe_int)) (pss_one (ps_if (pt_cmpR op_le (pe_op op_mul (pv 3) (pv 3)) (pv 0) (nomark _)) (pss_one (ps_set (i := 1) sc_floor_root.nd rfl (Or.inl rfl) (pv 3))) (pss_one (ps_set (i := 2) sc_floor_root.nd rfl (Or.inl rfl) (pv 3))))))) (pss_one (ps_ret (pv 1)))))), ?_⟩
    refine q_asgI (n := 0) (by walk_at "ev") fun H1 e1 => ?_
    refine q_asgI (n := n + 1) (by walk_at "ev") fun H2 e2 => ?_
    refine q_while (fun m σ' H' => Ex H H' ∧ ∃ lo hi : Int, ∃ y, σ' = [some (.int n), some (.int lo), some (.int hi), y] ∧ 0 ≤ lo ∧ lo < hi ∧ hi ≤ n + 1 ∧ lo * lo ≤ n ∧ n < hi * hi ∧ (m : Int) = hi - lo) (n + 1).toNat
      ⟨e1.trans e2, 0, n + 1, _, rfl, by omega, by omega, by omega, by omega, ?_, by omega⟩ ?_
    · have : (n + 1) * 1 ≤ (n + 1) * (n + 1) := Int.mul_le_mul_of_nonneg_left (by omega) (by omega)
      omega
    rintro m σ' H' ⟨e0, lo, hi, y, rfl, h0, hlh, hhi, hl, hh, hm⟩
    refine ⟨decide (1 < hi - lo), by walk_at "et", fun hb H3 e3 => ?_, fun hb H3 e3 => ?_⟩
    · have hb' := of_decide_eq_true hb
      have hmid : lo < (lo + hi) / 2 ∧ (lo + hi) / 2 < hi := by omega
      refine ⟨fun σ' H' => Ex H H' ∧ ∃ y, (σ' = [some (.int n), some (.int ((lo + hi) / 2)), some (.int hi), y] ∧ (lo + hi) / 2 * ((lo + hi) / 2) ≤ n) ∨ (σ' = [some (.int n), some (.int lo), some (.int ((lo + hi) / 2)), y] ∧ n < (lo + hi) / 2 * ((lo + hi) / 2)), ?_, ?_⟩
      · rintro σ2 H2 ⟨e, y', ⟨h, hz⟩ | ⟨h, hz⟩⟩
        · exact ⟨(hi - (lo + hi) / 2).toNat, by omega, e, (lo + hi) / 2, hi, y', h, by omega, by omega, by omega, hz, hh, by omega⟩
        · exact ⟨((lo + hi) / 2 - lo).toNat, by omega, e, lo, (lo + hi) / 2, y', h, by omega, by omega, by omega, hl, hz, by omega⟩
      refine q_asgI (n := (lo + hi) / 2) (by walk_at "ev") fun H4 e4 => ?_
      refine s_if (b := decide ((lo + hi) / 2 * ((lo + hi) / 2) ≤ n)) (by walk_at "et") (fun hb2 H5 e5 => ?_) fun hb2 H5 e5 => ?_
      · exact s_asgI (n := (lo + hi) / 2) (by walk_at "ev") fun H6 e6 => ⟨(((e0.trans e3).trans e4).trans e5).trans e6, _, .inl ⟨rfl, of_decide_eq_true hb2⟩⟩
      · exact s_asgI (n := (lo + hi) / 2) (by walk_at "ev") fun H6 e6 => ⟨(((e0.trans e3).trans e4).trans e5).trans e6, _, .inr ⟨rfl, by have := of_decide_eq_false hb2; omega⟩⟩
    · refine s_retD (d := .int lo) (by walk_at "ev") fun v H4 e4 r => q v H4 ((e0.trans e3).trans e4) ?_
      have hb' := of_decide_eq_false hb
      have e : hi = lo + 1 := by omega
      rw [e] at hh
      rw [froot_unique h0 hl hh]
      exact r
end
end Sq
local macro_rules | `(tactic| walk_at "rel") => `(tactic| exact ⟨_, rfl, (by omega), rfl⟩)
local macro_rules | `(tactic| walk_at "rel") => `(tactic| exact ⟨_, rfl, (by omega), (by omega), rfl⟩)
local macro_rules | `(tactic| walk_at "rel") => `(tactic| exact ⟨_, _, rfl, (by omega), (by omega), rfl⟩)
namespace Sq
section
/-- p.append(e), p a list that grows -/
theorem s_appG {K : PySem.W.Frag} {σ : L2.St} {H : Hp} {ta te : TE} {D : Ends} {p : Addr} {ds : List PyData} {d : PyData} (hp : Grows H p ds) (ha : Ev ta σ H (.ref p)) (h : EvD te σ H d) (hn : noL d = true) (hz : ds.length < 100000)
    (k : ∀ H2, Grows H2 p (ds ++ [d]) → (∀ B, Ex B H → B p = none → Ex B H2) → D.nx σ H2) : tDrop (tBM K "list" rAppend ta (tCons te tNil)) D σ H := ha H (Ex.refl H) _ fun H1 e1 => by
  obtain ⟨xs, h1, h2⟩ := hp.ex e1
  refine ⟨Or.inl ⟨rfl, xs, sq_of h1⟩, h H1 e1 _ fun v H2 e2 rv => ?_⟩
  obtain ⟨xs2, h3, h4⟩ := (hp.ex e1).ex e2
  have exs : xs2 = xs := by
    have e := (e2 _ _ h1).symm.trans h3
    injection e with e
    injection e with e
    exact e.symm
  subst exs
  refine ⟨p, xs2, v, rfl, rfl, h3, by rw [dpa_len h4]; exact sz_lt hz, k _ ⟨xs2 ++ [v], upd_same, ?_⟩ fun B eB hB => Ex.mut ((eB.trans e1).trans e2) hB⟩
  rw [off_upd]
  exact dpa_app h4 (.cons (rp_off h3 rv hn) .nil)
theorem q_appG {K : PySem.W.Frag} {σ : L2.St} {H : Hp} {ta te : TE} {D : Ends} {tz : TS} {p : Addr} {ds : List PyData} {d : PyData} (hp : Grows H p ds) (ha : Ev ta σ H (.ref p)) (h : EvD te σ H d) (hn : noL d = true) (hz : ds.length < 100000)
    (k : ∀ H2, Grows H2 p (ds ++ [d]) → (∀ B, Ex B H → B p = none → Ex B H2) → tz D σ H2) : tSeq (tDrop (tBM K "list" rAppend ta (tCons te tNil))) tz D σ H := s_appG (D := { D with nx := tz D }) hp ha h hn hz k
end
end Sq
namespace Sq
section
variable {K : PySem.W.Frag} {σ : L2.St} {H : Hp} {D : Ends} {tz : TS}
/-- a promise: a new list, that may be changed -/
def spG (R : List PyData → PyData → Prop) : Sp := fun vs H Q _ => ∃ ds xs, RpAll H vs ds ∧ R ds (.list xs) ∧ ∀ p H2, H p = none → Ex H H2 → Grows H2 p xs → Q (.ref p) H2
theorem spG_of {R : List PyData → PyData → Prop} (hl : ∀ ds d, R ds d → ∃ xs, d = .list xs) : ∀ vs H Q E, spR R vs H Q E → spG R vs H Q E := fun vs H Q E ⟨ds, d, hv, hR, q⟩ => by
  obtain ⟨xs, rfl⟩ := hl _ _ hR
  exact ⟨ds, xs, hv, hR, fun p H2 _ e g => q _ _ e g.rp⟩
theorem q_asgG {R : List PyData → PyData → Prop} {E : XK} {ta : TA} {i : Nat} {ds xs : List PyData} (h : EvDA ta σ H ds) (hR : R ds (.list xs)) (k : ∀ p H1, H p = none → Ex H H1 → Grows H1 p xs → tz D (σ.set i (some (.ref p))) H1) :
    tSeq (tAsg (tCall (spG R) [] E ta) (gName i)) tz D σ H := h H (Ex.refl H) _ fun vs H2 e2 hv => ⟨ds, xs, by rw [List.append_nil]; exact hv, hR, fun p H3 hp e3 g => k p H3 (fresh_back e2 hp) (e2.trans e3) g⟩
theorem s_retG {R : List PyData → PyData → Prop} {E : XK} {ta : TA} {ds xs : List PyData} (h : EvDA ta σ H ds) (hR : R ds (.list xs)) (k : ∀ p H1, H p = none → Ex H H1 → Grows H1 p xs → D.rt (.ref p) H1) :
    tRet (tCall (spG R) [] E ta) D σ H := h H (Ex.refl H) _ fun vs H2 e2 hv => ⟨ds, xs, by rw [List.append_nil]; exact hv, hR, fun p H3 hp e3 g => k p H3 (fresh_back e2 hp) (e2.trans e3) g⟩
theorem ed_callG {R : List PyData → PyData → Prop} {E : XK} {ta : TA} {ds xs : List PyData} (h : EvDA ta σ H ds) (hR : R ds (.list xs)) : EvD (tCall (spG R) [] E ta) σ H (.list xs) := fun H1 e _ q =>
  h H1 e _ fun vs H2 e2 hv => ⟨ds, xs, by rw [List.append_nil]; exact hv, hR, fun p H3 _ e3 g => q _ H3 (e2.trans e3) g.rp⟩
end
end Sq
namespace Sq
/-! #### a dict of squares, with their roots -/
def sqRt (k : Nat) (x : Int) : Option Int := if 0 ≤ x ∧ froot x * froot x = x ∧ froot x < (k : Int) then some (froot x) else none
theorem sqRt_zero (x : Int) : sqRt 0 x = none := by
  unfold sqRt
  refine if_neg ?_
  rintro ⟨h1, _, h3⟩
  have := (froot_spec h1).1
  omega
theorem sqRt_succ (k : Nat) (x : Int) : sqRt (k + 1) x = if x = (k : Int) * (k : Int) then some (k : Int) else sqRt k x := by
  unfold sqRt
  by_cases h : x = (k : Int) * (k : Int)
  · have hk : froot x = (k : Int) := by rw [h]; exact froot_sq (by omega)
    rw [if_pos h, if_pos ⟨by rw [h]; exact Int.mul_nonneg (by omega) (by omega), by rw [hk, h], by omega⟩, hk]
  · rw [if_neg h]
    by_cases g : 0 ≤ x ∧ froot x * froot x = x ∧ froot x < (k : Int)
    · rw [if_pos g, if_pos ⟨g.1, g.2.1, by omega⟩]
    · rw [if_neg g, if_neg]
      rintro ⟨h1, h2, h3⟩
      refine g ⟨h1, h2, ?_⟩
      by_cases e : froot x = (k : Int)
      · rw [e] at h2
        exact absurd h2.symm h
      · omega
theorem sqRt_some {k : Nat} {b : Int} (h0 : 0 ≤ b) (hb : b < (k : Int)) : sqRt k (b * b) = some b := by
  unfold sqRt
  rw [froot_sq h0, if_pos ⟨Int.mul_nonneg h0 h0, rfl, hb⟩]
theorem sqRt_get {k : Nat} {x b : Int} (h : sqRt k x = some b) : 0 ≤ b ∧ b * b = x ∧ b < (k : Int) := by
  unfold sqRt at h
  by_cases g : 0 ≤ x ∧ froot x * froot x = x ∧ froot x < (k : Int)
  · rw [if_pos g] at h
    cases h
    exact ⟨(froot_spec g.1).1, g.2.1, g.2.2⟩
  · rw [if_neg g] at h
    cases h
def SqD (H : Hp) (p : Addr) (k : Nat) : Prop := ∃ kvs : List (Key × V), H p = some (.dK kvs) ∧ kvs.length ≤ k ∧ ∀ x : Int, valV kvs (.inl x) = (sqRt k x).map V.int
theorem SqD.nil {H : Hp} {p : Addr} (h : H p = some (.dK [])) : SqD H p 0 := ⟨[], h, Nat.le_refl _, fun x => by rw [sqRt_zero]; rfl⟩
theorem SqD.ex {H H' : Hp} {p : Addr} {k : Nat} (e : Ex H H') : SqD H p k → SqD H' p k := fun ⟨kvs, h1, h2⟩ => ⟨kvs, e _ _ h1, h2⟩
theorem putK_len1 (c : List (Key × V)) (k : Key) (x : V) : (putK c k x).length ≤ c.length + 1 := by
  unfold putK
  split <;> simp
section
variable {K : PySem.W.Frag} {σ : L2.St} {H : Hp} {td ty tv : TE} {D : Ends} {tz : TS} {p : Addr}
theorem s_putSq {k : Nat} (hp : SqD H p k) (hv : EvD tv σ H (.int (k : Int))) (hd : Ev td σ H (.ref p)) (hy : EvD ty σ H (.int ((k : Int) * (k : Int)))) (hz : k < 100000)
    (q : ∀ H2, SqD H2 p (k + 1) → (∀ B, Ex B H → B p = none → Ex B H2) → D.nx σ H2) : sDPut td ty tv D σ H := hv H (Ex.refl H) _ fun v H1 e1 rv => hd H1 e1 _ fun H2 e2 => hy H2 (e1.trans e2) _ fun y H3 e3 ry => by
  cases dp_int rv
  cases dp_int ry
  obtain ⟨kvs, h1, h2, h3⟩ := hp.ex ((e1.trans e2).trans e3)
  refine ⟨p, _, rfl, DPut.k (k := .inl ((k : Int) * (k : Int))) h1 (sz_lt (by omega)), q _ ⟨_, upd_same, ?_, fun x => ?_⟩ fun B eB hB => Ex.mut (((eB.trans e1).trans e2).trans e3) hB⟩
  · have := putK_len1 kvs (.inl ((k : Int) * (k : Int))) (.int (k : Int))
    omega
  · rw [valV_put, sqRt_succ, h3]
    by_cases e : x = (k : Int) * (k : Int)
    · rw [if_pos e, if_pos (by rw [e])]
      rfl
    · rw [if_neg e, if_neg (fun z => e (Sum.inl.inj z))]
theorem et_inSq {k : Nat} {x : Int} (hp : SqD H p k) (hy : EvD ty σ H (.int x)) (hd : Ev td σ H (.ref p)) : EvT (tB (tDIn ty td)) σ H (sqRt k x).isSome := fun H1 e Q q =>
  hy H1 e _ fun v H2 e2 rv => hd H2 (e.trans e2) _ fun H3 e3 => by
    cases dp_int rv
    obtain ⟨kvs, h1, h2, h3⟩ := hp.ex ((e.trans e2).trans e3)
    have g := DGet.k (k := .inl x) h1
    refine ⟨p, _, rfl, g, _, rfl, ?_⟩
    rw [h3, Option.isSome_map]
    exact q H3 (e2.trans e3)
theorem ed_getSq {k : Nat} {x b : Int} (hp : SqD H p k) (hd : Ev td σ H (.ref p)) (hy : EvD ty σ H (.int x)) (hb : sqRt k x = some b) : EvD (tDGet td ty) σ H (.int b) := fun H1 e Q q =>
  hd H1 e _ fun H2 e2 => hy H2 (e.trans e2) _ fun v H3 e3 rv => by
    cases dp_int rv
    obtain ⟨kvs, h1, h2, h3⟩ := hp.ex ((e.trans e2).trans e3)
    have g := DGet.k (k := .inl x) h1
    rw [h3, hb] at g
    exact ⟨p, _, rfl, g, q _ H3 (e2.trans e3) (.int b)⟩
/-- p = {}: a dict that is to hold squares -/
theorem q_asgSq {i : Nat} (k : ∀ p H1, H p = none → Ex H H1 → SqD H1 p 0 → tz D (σ.set i (some (.ref p))) H1) : tSeq (tAsg tDNewK (gName i)) tz D σ H := fun p hp => k p _ hp (Ex.new hp) (.nil upd_same)
end
end Sq
namespace Sq
/-! #### new lists that grow; slices; extend; comprehensions over triples -/
section
variable {K : PySem.W.Frag} {σ : L2.St} {H H' : Hp} {ta te tl : TE} {D : Ends} {tz : TS} {d : PyData}
def EvG (te : TE) (σ : L2.St) (H : Hp) (ds : List PyData) : Prop := ∀ H1, Ex H H1 → ∀ Q : VK, (∀ p H2, H1 p = none → Ex H1 H2 → Grows H2 p ds → Q (.ref p) H2) → te σ H1 Q
theorem EvG.ed {ds : List PyData} (h : EvG te σ H ds) : EvD te σ H (.list ds) := fun H1 e Q q => h H1 e Q fun p H2 _ e2 g => q _ H2 e2 g.rp
theorem s_retEG {ds : List PyData} (h : EvG te σ H ds) (k : ∀ p H1, H p = none → Ex H H1 → Grows H1 p ds → D.rt (.ref p) H1) : tRet te D σ H := h H (Ex.refl H) _ k
theorem q_asgEG {i : Nat} {ds : List PyData} (h : EvG te σ H ds) (k : ∀ p H1, H p = none → Ex H H1 → Grows H1 p ds → tz D (σ.set i (some (.ref p))) H1) : tSeq (tAsg te (gName i)) tz D σ H := h H (Ex.refl H) _ k
/-- p.extend(e), p a list that grows -/
theorem s_extG {p : Addr} {ds es : List PyData} (hp : Grows H p ds) (ha : Ev ta σ H (.ref p)) (h : EvD te σ H (.list es)) (hn : noLs es = true) (hz : ds.length + es.length ≤ 100000)
    (k : ∀ H2, Grows H2 p (ds ++ es) → (∀ B, Ex B H → B p = none → Ex B H2) → D.nx σ H2) : tDrop (tBM K "list" rExtend ta (tCons te tNil)) D σ H := ha H (Ex.refl H) _ fun H1 e1 => by
  obtain ⟨xs, h1, h2⟩ := hp.ex e1
  refine ⟨Or.inl ⟨rfl, xs, sq_of h1⟩, h H1 e1 _ fun v H2 e2 rv => ?_⟩
  obtain ⟨xs2, h3, h4⟩ := (hp.ex e1).ex e2
  obtain ⟨b, zs, rfl, hb, hz2⟩ := dp_list rv
  refine ⟨p, b, xs2, zs, rfl, rfl, h3, hb, ?_, k _ ⟨xs2 ++ zs, upd_same, ?_⟩ fun B eB hB => Ex.mut ((eB.trans e1).trans e2) hB⟩
  · rw [dpa_len h4, dpa_len hz2]
    exact sz_of hz
  · rw [off_upd]
    exact dpa_app h4 (rpa_off h3 hz2 hn)
/-- xs[a:b], xs a list -/
def cutD (ds : List PyData) (lo hi : Option Int) : List PyData := (ds.drop (HT.sIx ds.length 0 lo)).take (HT.sIx ds.length ds.length hi - HT.sIx ds.length 0 lo)
theorem cutD_mem {ds : List PyData} {lo hi : Option Int} {x : PyData} (h : x ∈ cutD ds lo hi) : x ∈ ds := List.mem_of_mem_drop (List.mem_of_mem_take h)
theorem cutD_len (ds : List PyData) (lo hi : Option Int) : (cutD ds lo hi).length ≤ ds.length := by
  unfold cutD
  rw [List.length_take, List.length_drop]
  omega
theorem rpa_take : ∀ (n : Nat) {vs : List V} {ds : List PyData}, RpAll H vs ds → RpAll H (vs.take n) (ds.take n)
  | 0, _, _, _ => .nil
  | _ + 1, _, _, .nil => .nil
  | n + 1, _, _, .cons a b => .cons a (rpa_take n b)
theorem rpa_drop : ∀ (n : Nat) {vs : List V} {ds : List PyData}, RpAll H vs ds → RpAll H (vs.drop n) (ds.drop n)
  | 0, _, _, h => h
  | _ + 1, _, _, .nil => .nil
  | n + 1, _, _, .cons _ b => rpa_drop n b
theorem rpa_cut {vs : List V} {ds : List PyData} (lo hi : Option Int) (h : RpAll H vs ds) : RpAll H (cutV vs lo hi) (cutD ds lo hi) := by
  unfold cutV cutD
  rw [dpa_len h]
  exact rpa_take _ (rpa_drop _ h)
theorem ed_sl {t1 t2 : TO} {ds : List PyData} {lo hi : Option Int} (h : EvD te σ H (.list ds)) (h1 : EvO t1 σ H lo) (h2 : EvO t2 σ H hi) : EvD (tSl (rSlL K) te t1 t2) σ H (.list (cutD ds lo hi)) := fun H1 e _ q =>
  h H1 e _ fun v H2 e2 rv => h1 H2 (e.trans e2) _ fun H3 e3 => h2 H3 ((e.trans e2).trans e3) _ fun H4 e4 => by
    obtain ⟨a, xs, rfl, hs, hx⟩ := dp_list (dp_mono (e3.trans e4) rv)
    exact ⟨a, xs, rfl, SqL.of hs, fun p hp => q _ _ (((e2.trans e3).trans e4).trans (Ex.new hp)) (.lst upd_same (dpa_mono (Ex.new hp) (rpa_cut lo hi hx)))⟩
theorem noLs_t3 : ∀ ts : List T3, noLs (ts.map t3) = true
  | [] => rfl
  | _ :: r => noLs_t3 r
/-- [e for x, y, z in xs] -/
theorem eg_lc3 {i j l : Nat} {vs : List Nat} {ts : List T3} (f : T3 → PyData) (h : EvD tl σ H (.list (ts.map t3))) (hz : ts.length ≤ 40000)
    (hw : ∀ x y z, wipe ((((wipe σ vs).set i (some x)).set j (some y)).set l (some z)) vs = wipe σ vs)
    (he : ∀ (x : T3) H1, Ex H H1 → x ∈ ts → EvD te ((((wipe σ vs).set i (some (.int x.1))).set j (some (.int x.2.1))).set l (some (.int x.2.2))) H1 (f x)) (hn : ∀ x ∈ ts, noL (f x) = true) :
    EvG (tLc (iList K tl) (gTup K 3 (gCons (gName i) (gCons (gName j) (gCons (gName l) gNil)))) tYes te vs) σ H (ts.map f) := fun H0 e Q q => h H0 e _ fun v H1 e1 hv => by
  obtain ⟨a, xs, rfl, hs, hx⟩ := dp_list hv
  refine ⟨a, rfl, ⟨xs, SqL.of hs⟩, fun D hD => ?_⟩
  refine lc_list (xs := xs) (fun i => PcD H1 D (((ts.take i).filter (fun _ => true)).map f)) ⟨Ex.new hD, Grows.nil⟩ (fun i H' _ P => SqL.of (P.1 _ _ hs)) (fun k x H' hi P => ?_) (fun H' P => ?_)
  · obtain ⟨d, hd, rx⟩ := dpa_get' hx hi
    rw [List.getElem?_map] at hd
    cases hy : ts[k]? with
    | none =>
      rw [hy] at hd
      cases hd
    | some y =>
      rw [hy] at hd
      cases hd
      have hm : y ∈ ts := List.mem_of_getElem? hy
      refine g_unp3 (dp_mono P.1 rx) fun u1 u2 u3 r1 r2 r3 => ⟨hw _ _ _, ?_⟩
      cases dp_int r1
      cases dp_int r2
      cases dp_int r3
      have T := pc_turn (t := tYes) (te := te) (d := f y) (b := true) (σ2 := (((wipe σ vs).set i (some (.int y.1))).set j (some (.int y.2.1))).set l (some (.int y.2.2))) P hD (by have := flen ts k (fun _ => true) f; omega) tYes_ev (fun _ => he y H1 (e.trans e1) hm) (fun _ => hn y hm)
      rw [← take_filter_map hy (fun _ => true) f] at T
      exact T
  · have el := dpa_len hx
    rw [List.length_map] at el
    have P' : PcD H1 D (((ts.take xs.length).filter (fun _ => true)).map f) H' := P
    rw [el, List.take_length, filter_yes] at P'
    exact q D H' (fresh_back e1 hD) (e1.trans P'.1) P'.2
theorem ed_modN {tb : TE} {i j : Nat} (ha : EvD ta σ H (.int (i : Int))) (hb : EvD tb σ H (.int (j : Int))) (hc : 0 < j) : EvD (tOp (rI (fun _ j => 0 < j) fun i j => .int (i % j)) ta tb) σ H (.int ((i % j : Nat) : Int)) := ed_mod ha hb (by omega)
theorem ed_fdivN {tb : TE} {i j : Nat} (ha : EvD ta σ H (.int (i : Int))) (hb : EvD tb σ H (.int (j : Int))) (hc : 0 < j) (hj : j < 1073741824) : EvD (tOp (rI CDiv fun i j => .int (i / j)) ta tb) σ H (.int ((i / j : Nat) : Int)) := ed_fdiv ha hb (by omega)
/-- d.get(k, z) of a dict of squares -/
theorem ed_getSq2 {td ty tx : TE} {p : Addr} {k : Nat} {x z : Int} (hp : SqD H p k) (hd : Ev td σ H (.ref p)) (hy : EvD ty σ H (.int x)) (hx : EvD tx σ H (.int z)) : EvD (tDGet2 td ty tx) σ H (.int ((sqRt k x).getD z)) := fun H1 e Q q =>
  hd H1 e _ fun H2 e2 => ⟨p, rfl, (by
    obtain ⟨kvs, h1, _⟩ := hp.ex (e.trans e2)
    exact .inl ⟨kvs, .inl h1⟩), hy H2 (e.trans e2) _ fun v H3 e3 rv => hx H3 ((e.trans e2).trans e3) _ fun u H4 e4 ru => by
      cases dp_int rv
      cases dp_int ru
      obtain ⟨kvs, h1, h2, h3⟩ := hp.ex (((e.trans e2).trans e3).trans e4)
      have g := DGet.k (k := .inl x) h1
      rw [h3] at g
      refine ⟨_, g, ?_⟩
      have r : ((sqRt k x).map V.int).getD (.int z) = .int ((sqRt k x).getD z) := by cases sqRt k x <;> rfl
      rw [r]
      exact q _ H4 ((e2.trans e3).trans e4) (.int _)⟩
end
end Sq
namespace Sq
theorem srt_pair (m n k : Nat) : srt [((k * (m * m - n * n) : Nat) : Int), ((k * (2 * m * n) : Nat) : Int)] = [((k * loN m n : Nat) : Int), ((k * hiN m n : Nat) : Int)] := by
  show (if ((k * (m * m - n * n) : Nat) : Int) ≤ ((k * (2 * m * n) : Nat) : Int) then [((k * (m * m - n * n) : Nat) : Int), ((k * (2 * m * n) : Nat) : Int)] else [((k * (2 * m * n) : Nat) : Int), ((k * (m * m - n * n) : Nat) : Int)]) = _
  unfold loN hiN
  by_cases h : m * m - n * n ≤ 2 * m * n
  · have h2 := Nat.mul_le_mul_left k h
    rw [if_pos h, if_pos h, if_pos (by omega)]
  · rw [if_neg h, if_neg h]
    have h2 : k * (2 * m * n) ≤ k * (m * m - n * n) := Nat.mul_le_mul_left k (by omega)
    by_cases h3 : k * (m * m - n * n) ≤ k * (2 * m * n)
    · rw [if_pos (by omega), show k * (m * m - n * n) = k * (2 * m * n) by omega]
    · rw [if_neg (by omega)]
theorem cast_sub {m n : Nat} (h : n < m) : (m : Int) * (m : Int) - (n : Int) * (n : Int) = ((m * m - n * n : Nat) : Int) := by
  have h1 := sqN_lt h
  have e1 : (m : Int) * (m : Int) = ((m * m : Nat) : Int) := rfl
  have e2 : (n : Int) * (n : Int) = ((n * n : Nat) : Int) := rfl
  omega
theorem cast_add (m n : Nat) : (m : Int) * (m : Int) + (n : Int) * (n : Int) = ((m * m + n * n : Nat) : Int) := rfl
theorem mulN_le {a b m n : Nat} (h1 : a ≤ m) (h2 : b ≤ n) : a * b ≤ m * n := Nat.mul_le_mul h1 h2
section
variable {P : Program} {w : World} {K : PySem.W.Frag} {mg : Str → Option Value} {base : Heap}
def rCommon : List PyData → PyData → Prop := fun ds d => ∃ x y : Nat, ds = [.int (x : Int), .int (y : Int)] ∧ d = .int ((Nat.gcd x y : Nat) : Int)
theorem ok_common (T : Txt K mg) : FnOk P w K mg base CX0 1 T.a_common T.d_common ["one", "other"] (spR rCommon) := by
  refine T.F_common.ok sc_common (fun vs H Q E h => ?_) (fun cdv A outer s H vs Q E hr h => ?_)
  · obtain ⟨ds, d, hv, ⟨x, y, rfl, rfl⟩, q⟩ := h
    exact dpa_len hv
  · obtain ⟨ds, d, hv, ⟨x, y, rfl, rfl⟩, q⟩ := h
    obtain ⟨v1, v2, rfl, h1, h2⟩ := dpa_two hv
    cases dp_int h1
    cases dp_int h2
    refine ⟨_, (pss_cons (ps_while PassesOwn.never (pt_cmpR op_gt (pv 1) pe_int (nomark _)) (pss_one (ps_par (i := 0) (j := 1) rfl sc_common.nd rfl rfl (by decide) rfl rfl (pa_cons (pv 1) (pa_cons (pe_op op_mod (pv 0) (pv 1)) pa_nil)) (by rfl)))) (pss_one (ps_ret (pv 0)))), ?_⟩
    refine q_while (fun m σ' H' => Ex H H' ∧ ∃ a b : Nat, σ' = [some (.int (a : Int)), some (.int (b : Int))] ∧ Nat.gcd a b = Nat.gcd x y ∧ m = b) y ⟨Ex.refl H, x, y, rfl, rfl, rfl⟩ ?_
    rintro m σ' H' ⟨e0, a, b, rfl, hg, hm⟩
    refine ⟨decide (0 < (b : Int)), by walk_at "et", fun hb H3 e3 => ?_, fun hb H3 e3 => ?_⟩
    · have hb' := of_decide_eq_true hb
      refine ⟨fun σ' H' => Ex H H' ∧ σ' = [some (.int (b : Int)), some (.int ((a % b : Nat) : Int))], fun σ2 H2 ⟨e, h⟩ => ⟨a % b, by have := Nat.mod_lt a (show 0 < b by omega); omega, e, b, a % b, h, ?_, rfl⟩, ?_⟩
      · rw [Nat.gcd_comm b, ← Nat.gcd_rec, Nat.gcd_comm b a]
        exact hg
      refine s_parD (d1 := .int (b : Int)) (d2 := .int ((a % b : Nat) : Int)) (da_cons (by walk_at "ev") (da_cons (ed_modN (i := a) (j := b) (by walk_at "ev") (by walk_at "ev") (by omega)) da_nil)) fun v w H5 e5 r1 r2 => ?_
      cases dp_int r1
      cases dp_int r2
      exact ⟨(e0.trans e3).trans e5, rfl⟩
    · have hb' := of_decide_eq_false hb
      have hz : b = 0 := by omega
      subst hz
      rw [Nat.gcd_zero_right] at hg
      refine s_retD (d := .int (a : Int)) (by walk_at "ev") fun v H5 e5 r => q v H5 ((e0.trans e3).trans e5) ?_
      rw [← hg]
      exact r
def rFrom : List PyData → PyData → Prop := fun ds d => ∃ m n most : Nat, ds = [.int (m : Int), .int (n : Int), .int (most : Int)] ∧ n < m ∧ m ≤ 300 ∧ most ≤ 300 ∧ 1 ≤ n ∧ d = .list (((kList m n most).map c3).map t3)
theorem ok_from_source (T : Txt K mg) : FnOk P w K mg base CX0 1 T.a_from_source T.d_from_source ["m", "n", "most"] (spR rFrom) := by
  refine T.F_from_source.ok sc_from_source (fun vs H Q E h => ?_) (fun cdv A outer s H vs Q E hr h => ?_)
  · obtain ⟨ds, d, hv, ⟨m, n, most, rfl, _⟩, q⟩ := h
    exact dpa_len hv
  · obtain ⟨ds, d, hv, ⟨m, n, most, rfl, hnm, hm, hmost, hn, rfl⟩, q⟩ := h
    obtain ⟨v1, v2, v3, rfl, h1, h2, h3⟩ := dpa_three hv
    cases dp_int h1
    cases dp_int h2
    cases dp_int h3
    refine ⟨_, (pss_cons (ps_set (i := 3) sc_from_source.nd rfl (Or.inr rfl) (pe_callB (sortedQ (K := K)) (by rfl) T.z_sorted (by decide +kernel) (pa_cons (pe_lst (pa_cons (pe_op op_sub (pe_op op_mul (pv 0) (pv 0)) (pe_op op_mul (pv 1) (pv 1))) (pa_cons (pe_op op_mul (pe_op op_mul pe_int (pv 0)) (pv 1)) pa_nil))) pa_nil))) (pss_cons (ps_set (i := 4) sc_from_source.nd rfl (Or.inr rfl) (pe_op op_add (pe_op op_mul (pv 0) (pv 0)) (pe_op op_mul (pv 1) (pv 1)))) (pss_one (ps_ret (pe_lc (own := [("k", 5)]) (g := gName 5) rfl sc_from_source.nd (pi_range2 rfl T.z_range (pa_cons pe_int (pa_cons (pe_op op_add (pe_op op_fdiv (pv 2) (pv 4)) pe_int) pa_nil))) (blkOk_by (N := ["m", "n", "most", "sides", "third", "k"]) (sc := defScope s_from_source) (by decide +kernel)) (fun _ _ _ _ _ => (pg_name (i := 5) sc_from_source.nd rfl (Or.inl rfl))) (fun _ _ _ _ _ => pts_nil) (fun _ _ _ _ _ => (pe_tup (pa_cons (pe_op op_mul (pv 5) (pv 4)) (pa_cons (pe_op op_mul (pv 5) (pe_ix (ixlQ (K := K)) (pv 3) pe_int (fun _ _ => rfl))) (pa_cons (pe_op op_mul (pv 5) (pe_ix (ixlQ (K := K)) (pv 3) pe_int (fun _ _ => rfl))) pa_nil)))))))))), ?_⟩
    have hmm : m * m ≤ 300 * 300 := mulN_le hm hm
    have hnn : n * n ≤ 300 * 300 := mulN_le (by omega) (by omega)
    have h2m : 2 * m ≤ 600 := by omega
    have hpos : 0 < m * m + n * n := Nat.add_pos_left (Nat.mul_pos (by omega) (by omega)) _
    refine q_asgD (d := .list ([((loN m n : Nat) : Int), ((hiN m n : Nat) : Int)].map .int)) (ed_is (ed_sorted (ds := [.int ((m : Int) * (m : Int) - (n : Int) * (n : Int)), .int (2 * (m : Int) * (n : Int))]) (ed_lst (da_cons (ed_I0i (f := fun i j => i - j) (ed_mul (by walk_at "ev") (by walk_at "ev") (by omega)) (ed_mul (by walk_at "ev") (by walk_at "ev") (by omega))) (da_cons (ed_mul (ed_mul ed_ci (by walk_at "ev") (by omega)) (by walk_at "ev") (by omega)) da_nil)) (le_lit rfl)) rfl) ?_) fun v H1 e1 rv => ?_
    · have e := srt_pair m n 1
      simp only [Nat.one_mul] at e
      rw [← e]
      show PyData.list ((srt [(m : Int) * (m : Int) - (n : Int) * (n : Int), 2 * (m : Int) * (n : Int)]).map .int) = _
      rw [cast_sub hnm]
      rfl
    refine q_asgI (n := ((m * m + n * n : Nat) : Int)) (ed_is (ed_I0i (f := fun i j => i + j) (ed_mul (i := (m : Int)) (j := (m : Int)) (by walk_at "ev") (by walk_at "ev") (by omega)) (ed_mul (i := (n : Int)) (j := (n : Int)) (by walk_at "ev") (by walk_at "ev") (by omega))) (congrArg PyData.int (cast_add m n))) fun H2 e2 => ?_
    have hlo : loN m n ≤ 100000000 ∧ hiN m n ≤ 100000000 := by
      have : 2 * m * n ≤ 600 * 300 := mulN_le h2m (by omega)
      unfold loN hiN
      split <;> omega
    obtain ⟨N, hN⟩ : ∃ N, N = most / (m * m + n * n) := ⟨_, rfl⟩
    have hdv : N ≤ 300 := hN ▸ Nat.le_trans (Nat.div_le_self _ _) hmost
    have ekl : kList m n most = (List.range N).map fun i => triN m n (i + 1) := by rw [hN]; rfl
    rw [ekl] at q
    refine s_retD ?_ fun v H3 e3 r => q v H3 ((e1.trans e2).trans e3) r
    refine ed_is (ed_lcR2 (lo := 1) (n := (N : Int) + 1) (fun x => .tuple [.int (x * ((m * m + n * n : Nat) : Int)), .int (x * ((loN m n : Nat) : Int)), .int (x * ((hiN m n : Nat) : Int))])
      (da_cons ed_ci (da_cons (ed_I0i (f := fun i j => i + j) (ed_is (ed_fdivN (i := most) (j := m * m + n * n) (by walk_at "ev") (by walk_at "ev") (by omega) (by omega)) (by rw [← hN])) ed_ci) da_nil)) (by omega) (by intro _; rfl) ?_ (fun _ => rfl)) ?_
    · intro x H3 e3 hx1 hx2
      have hs : ∀ {H4 : Hp}, Ex H2 H4 → EvD (tVar 3) [some (.int (m : Int)), some (.int (n : Int)), some (.int (most : Int)), some v, some (.int ((m * m + n * n : Nat) : Int)), some (.int x)] H4 (.list [.int ((loN m n : Nat) : Int), .int ((hiN m n : Nat) : Int)]) := fun e => ed_var rfl (dp_mono (e2.trans e) rv)
      refine ed_tup (da_cons (ed_mul (ed_var rfl (.int x)) (ed_var rfl (.int _)) (by omega)) (da_cons (ed_mul (ed_var rfl (.int x)) (ed_ixL (i := 0) (hs e3) ed_ci (by decide) rfl) (by omega)) (da_cons (ed_mul (ed_var rfl (.int x)) (ed_ixL (i := 1) (hs e3) ed_ci (by decide) rfl) (by omega)) da_nil))) (le_lit rfl)
    · congr 1
      unfold rngL
      rw [List.map_map, List.map_map, List.map_map, show ((N : Int) + 1 - 1).toNat = N by omega]
      refine List.map_congr_left fun i _ => ?_
      show PyData.tuple [.int ((1 + (i : Int) * 1) * ((m * m + n * n : Nat) : Int)), .int ((1 + (i : Int) * 1) * ((loN m n : Nat) : Int)), .int ((1 + (i : Int) * 1) * ((hiN m n : Nat) : Int))] = PyData.tuple _
      have e : (1 : Int) + (i : Int) * 1 = ((i + 1 : Nat) : Int) := by omega
      rw [e]
      rfl
end
end Sq
namespace Sq
section
variable {P : Program} {w : World} {K : PySem.W.Frag} {mg : Str → Option Value} {base : Heap}
/-- all walks, as the program tells them -/
def walksL (most : Nat) : List T3 := ((walkN most).map c3).map back3
theorem froot_17 {most : Nat} (h : most ≤ 300) : froot (most : Int) ≤ 17 := froot_le (by omega) (by omega) (by omega)
theorem outer_root {most : Nat} (h : most ≤ 300) : oWalk most (froot (most : Int) + 1 - 2).toNat = oWalk most 16 := by
  have hf := froot_spec (n := (most : Int)) (by omega)
  have h17 := froot_17 h
  obtain ⟨r, hr⟩ := Int.eq_ofNat_of_zero_le hf.1
  rw [hr] at hf h17 ⊢
  have e := outer_past (most := most) (r := ((r : Int) + 1 - 2).toNat) ?_ (16 - ((r : Int) + 1 - 2).toNat)
  · rw [show ((r : Int) + 1 - 2).toNat + (16 - ((r : Int) + 1 - 2).toNat) = 16 by omega] at e
    exact e.symm
  · have h1 : r + 1 ≤ ((r : Int) + 1 - 2).toNat + 2 := by omega
    have h2 := Nat.mul_le_mul h1 h1
    have h3 : ((r : Int) + 1) * ((r : Int) + 1) = (((r + 1) * (r + 1) : Nat) : Int) := rfl
    omega
def rWalks : List PyData → PyData → Prop := fun ds d => ∃ most : Nat, ds = [.int (most : Int)] ∧ most ≤ 300 ∧ d = .list ((walksL most).map t3)
theorem ok_walks (T : Txt K mg) : FnOk P w K mg base CX0 3 T.a_walks T.d_walks ["most"] (spG rWalks) := by
  refine T.F_walks.ok sc_walks (fun vs H Q E h => ?_) (fun cdv A outer s H vs Q E hr h => ?_)
  · obtain ⟨ds, xs, hv, ⟨most, rfl, _⟩, q⟩ := h
    exact dpa_len hv
  · obtain ⟨ds, xs, hv, ⟨most, rfl, hm, exs⟩, q⟩ := h
    cases exs
    obtain ⟨v1, rfl, h1⟩ := dpa_one hv
    cases dp_int h1
    refine ⟨_, (pss_cons (ps_expr (pe_call (ok_check_number T) (hr.mono (by decide)) (by rfl) T.g_check_number T.F_check_number.kp T.b_check_number .nil pass0 (pa_cons (pv 0) (pa_cons pe_int (pa_cons (pe_glob (v := .int 300) (by rfl) T.g_LONGEST ⟨_, rfl⟩) pa_nil))))) (pss_cons (ps_set (i := 1) sc_walks.nd rfl (Or.inl rfl) (pe_lst pa_nil)) (pss_cons (ps_for PassesOwn.never rfl (pi_range2 rfl T.z_range (pa_cons pe_int (pa_cons (pe_op op_add (pe_call (ok_floor_root T) (hr.mono (by decide)) (by rfl) T.g_floor_root T.F_floor_root.kp T.b_floor_root .nil pass0 (pa_cons (pv 0) pa_nil)) pe_int) pa_nil))) (pg_name (i := 2) sc_walks.nd rfl (Or.inl rfl)) (pss_one (ps_for PassesOwn.never rfl (pi_range2 rfl T.z_range (pa_cons pe_int (pa_cons (pv 2) pa_nil))) (pg_name (i := 3) sc_walks.nd rfl (Or.inl rfl)) (pss_one (ps_if (PW.pt (pw_and (pt_cmpR op_eqI (pe_op op_mod (pe_op op_add (pv 2) (pv 3)) pe_int) pe_int (nomark _)) (pw_and1 (pt_cmpR op_eqI (pe_call (ok_common T) (hr.mono (by decide)) (by rfl) T.g_common T.F_common.kp T.b_common .nil pass0 (pa_cons (pv 2) (pa_cons (pv 3) pa_nil))) pe_int (nomark _))))) (pss_one (ps_expr (pe_bm PySem.F.plainAttrs_list PySem.F.slot_list_extend PySem.F.type_list_extend mt_extend (pv 1) (pa_cons (pe_call (ok_from_source T) (hr.mono (by decide)) (by rfl) T.g_from_source T.F_from_source.kp T.b_from_source .nil pass0 (pa_cons (pv 2) (pa_cons (pv 3) (pa_cons (pv 0) pa_nil)))) pa_nil)))) pss_nil))))) (pss_one (ps_ret (pe_lc (own := [("third", 4), ("first", 5), ("second", 6)]) (g := gTup K 3 (gCons (gName 4) (gCons (gName 5) (gCons (gName 6) gNil)))) rfl sc_walks.nd (pilQ (K := K) (pe_callB (sorted3Q (K := K)) (by rfl) T.z_sorted (by decide +kernel) (pa_cons (pv 1) pa_nil))) (blkOk_by (N := ["most", "found", "m", "n", "third", "first", "second"]) (sc := defScope s_walks) (by decide +kernel)) (fun _ _ _ _ _ => (pg_tup rfl (pgs_cons (pg_name (i := 4) sc_walks.nd rfl (Or.inl rfl)) (pgs_cons (pg_name (i := 5) sc_walks.nd rfl (Or.inl rfl)) (pgs_cons (pg_name (i := 6) sc_walks.nd rfl (Or.inl rfl)) pgs_nil))))) (fun _ _ _ _ _ => pts_nil) (fun _ _ _ _ _ => (pe_tup (pa_cons (pv 5) (pa_cons (pv 6) (pa_cons (pv 4) pa_nil))))))))))), ?_⟩
    refine q_drop (v := .non) (ev_non (ed_call (ds := [.int (most : Int), .int 0, .int 300]) (by walk_at "ea") ⟨_, _, _, rfl, by omega, rfl⟩)) fun H0 e00 => ?_
    refine q_asgL (xs := []) (el_lst ea_nil (by decide)) fun p H1 hp0 e1 g1 => ?_
    have hp := fresh_back e00 hp0
    have eF : EvD (tCall (spR rFroot) [] E0 (tCons (tVar 0) tNil)) [some (.int (most : Int)), some (.ref p), none, none, none, none, none] H1 (.int (froot (most : Int))) := ed_call (ds := [.int (most : Int)]) (by walk_at "ea") ⟨_, rfl, by omega, by omega, rfl⟩
    have h17 := froot_17 hm
    have hf0 := (froot_spec (n := (most : Int)) (by omega)).1
    refine q_forR2 (lo := 2) (n := froot (most : Int) + 1) (ea2 (da_cons ed_ci (da_cons (ed_I0i (f := fun i j => i + j) eF ed_ci) da_nil))) (by omega) (fun i σ' H' => Ex H H' ∧ ∃ y2 y3, σ' = [some (.int (most : Int)), some (.ref p), y2, y3, none, none, none] ∧ Grows H' p (((oWalk most i).map c3).map t3))
      (fun H2 e2 => ⟨(e00.trans e1).trans e2, _, _, rfl, Grows.of_nil (e2 _ _ g1)⟩) ?_ ?_
    · rintro i σ' H' hi ⟨e0, y2, y3, rfl, gp⟩
      dsimp only [List.set]
      have hi16 : i ≤ 15 := by omega
      have em : (2 : Int) + (i : Int) = ((i + 2 : Nat) : Int) := by omega
      rw [em]
      refine s_forR2 (lo := 1) (n := ((i + 2 : Nat) : Int)) (ea2 (by walk_at "ea")) (by omega) (fun j s' h' => Ex H h' ∧ ∃ y3, s' = [some (.int (most : Int)), some (.ref p), some (.int ((i + 2 : Nat) : Int)), y3, none, none, none] ∧ Grows h' p (((oWalk most i ++ iWalk most (i + 2) j).map c3).map t3))
        (fun H2 e2 => ⟨e0.trans e2, _, rfl, by
          show Grows H2 p (((oWalk most i ++ []).map c3).map t3)
          rw [List.append_nil]
          exact gp.ex e2⟩) ?_ ?_
      · rintro j s' h' hj ⟨e2, y3', rfl, gj⟩
        dsimp only [List.set]
        have en : (1 : Int) + (j : Int) = ((j + 1 : Nat) : Int) := by omega
        rw [en]
        have hj' : j + 1 < i + 2 := by omega
        have hin : iWalk most (i + 2) (j + 1) = iWalk most (i + 2) j ++ (if (i + 2 + (j + 1)) % 2 = 1 ∧ Nat.gcd (i + 2) (j + 1) = 1 then kList (i + 2) (j + 1) most else []) := rfl
        have hl1 := outer_len hm i (by omega)
        have hl2 := inner_len (most := most) (m := i + 2) (by omega) hm j
        have hl3 := kList_len (m := i + 2) (n := j + 1) (by omega) hm
        refine s_when (b := decide ((((i + 2 : Nat) : Int) + ((j + 1 : Nat) : Int)) % 2 = 1) && decide (((Nat.gcd (i + 2) (j + 1) : Nat) : Int) = 1)) ?_ (fun hb H3 e3 => ?_) (fun hb H3 e3 => ?_)
        · exact et_and (dt_test (ed_eqI (ed_mod (ed_I0i (f := fun i j => i + j) (ed_var rfl (.int _)) (ed_var rfl (.int _))) ed_ci (by decide)) ed_ci)) fun _ => dt_test (ed_eqI (ed_call (ds := [.int ((i + 2 : Nat) : Int), .int ((j + 1 : Nat) : Int)]) (by walk_at "ea") ⟨_, _, rfl, rfl⟩) ed_ci)
        · obtain ⟨b1, b2⟩ := Bool.and_eq_true_iff.mp hb
          have c1 := of_decide_eq_true b1
          have c2 := of_decide_eq_true b2
          rw [if_pos ⟨by omega, by omega⟩] at hin
          refine s_extG (es := ((kList (i + 2) (j + 1) most).map c3).map t3) (gj.ex e3) (ev_var rfl) (ed_call (ds := [.int ((i + 2 : Nat) : Int), .int ((j + 1 : Nat) : Int), .int (most : Int)]) (by walk_at "ea") ⟨_, _, _, rfl, hj', by omega, hm, by omega, rfl⟩) (noLs_t3 _) ?_ fun H4 g4 b4 => ⟨b4 H (e2.trans e3) hp, _, rfl, ?_⟩
          · simp only [List.length_map, List.length_append]
            omega
          · rw [hin, ← List.append_assoc, List.map_append (l₂ := kList _ _ _), List.map_append (l₂ := List.map c3 (kList _ _ _))]
            exact g4
        · have hno : ¬ ((i + 2 + (j + 1)) % 2 = 1 ∧ Nat.gcd (i + 2) (j + 1) = 1) := fun z => by
            rw [decide_eq_true (show (((i + 2 : Nat) : Int) + ((j + 1 : Nat) : Int)) % 2 = 1 by omega), decide_eq_true (show ((Nat.gcd (i + 2) (j + 1) : Nat) : Int) = 1 by omega)] at hb
            cases hb
          rw [if_neg hno, List.append_nil] at hin
          exact ⟨e2.trans e3, _, rfl, by rw [hin]; exact gj.ex e3⟩
      · rintro s' h' ⟨e2, y3', rfl, gj⟩
        refine ⟨e2, _, _, rfl, ?_⟩
        rw [show (((i + 2 : Nat) : Int) - 1).toNat = i + 1 by omega] at gj
        exact gj
    · rintro σ' H' ⟨e0, y2, y3, rfl, gp⟩
      rw [outer_root hm] at gp
      have hl := walkN_len hm
      have ew := walkN_eq most
      unfold walksL at q
      generalize walkN most = W at q hl ew
      generalize oWalk most 16 = L at gp ew
      refine s_retEG (ds := ((W.map c3).map back3).map t3) ?_ fun D H2 hD e2 g2 => q D H2 (fresh_back e0 hD) (e0.trans e2) g2
      have E := eg_lc3 (K := K) (i := 4) (j := 5) (l := 6) (vs := [4, 5, 6]) (te := tTup (tCons (tVar 5) (tCons (tVar 6) (tCons (tVar 4) tNil)))) (ts := W.map c3) (σ := [some (.int (most : Int)), some (.ref p), y2, y3, none, none, none]) (H := H') (fun x => t3 (back3 x))
        (tl := tCB (rSortedT3 K) (tCons (tVar 1) tNil)) (ed_is (ed_sorted3 (ts := L.map c3) (ed_var rfl gp.rp)) (by rw [srtN_c3, ew])) (by rw [List.length_map]; omega) (by intro _ _ _; rfl) ?_ (fun _ _ => rfl)
      · rw [List.map_map (g := t3)]
        exact E
      · intro x H3 e3 hx
        exact ed_tup (da_cons (ed_var rfl (.int _)) (da_cons (ed_var rfl (.int _)) (da_cons (ed_var rfl (.int _)) da_nil))) (le_lit rfl)
end
end Sq
namespace Sq
section
variable {P : Program} {w : World} {K : PySem.W.Frag} {mg : Str → Option Value} {base : Heap}
def rSource : List PyData → PyData → Prop := fun ds d => ∃ m n k : Nat, ds = [t3 (back3 (c3 (triN m n k)))] ∧ Src m n ∧ 1 ≤ k ∧ k * (m * m + n * n) ≤ 10000 ∧ d = t3 ((m : Int), (n : Int), (k : Int))
theorem ok_source (T : Txt K mg) : FnOk P w K mg base CX0 2 T.a_source T.d_source ["walk"] (spR rSource) := by
  refine T.F_source.ok sc_source (fun vs H Q E h => ?_) (fun cdv A outer s H vs Q E hr h => ?_)
  · obtain ⟨ds, d, hv, ⟨m, n, k, rfl, _⟩, q⟩ := h
    exact dpa_len hv
  · obtain ⟨ds, d, hv, ⟨m, n, k, rfl, S, hk, hc, rfl⟩, q⟩ := h
    obtain ⟨v1, rfl, h1⟩ := dpa_one hv
    refine ⟨_, (pss_cons (ps_if (PW.pt (pw_or (pt_not (pt_val (pe_callB (isiQ (K := K)) (by rfl) T.z_isinstance (by decide +kernel) (pa_cons (pv 0) (pa_cons (pe_bltn (v := .ty "tuple") (by rfl) T.z_tuple (by decide +kernel) rfl) pa_nil))))) (pw_or (pt_cmpR op_neI (pe_callB (lenQ (K := K)) (by rfl) T.z_len (by decide +kernel) (pa_cons (pv 0) pa_nil)) pe_int (nomark _)) (pw_or1 (pt_not (pt_val (pe_callB (allQ (K := K) rfl) (by rfl) T.z_all (by decide +kernel) (pa_cons (pe_lc (own := [("side", 7)]) (g := gName 7) rfl sc_source.nd (pitQ (K := K) (pv 0)) (blkOk_by (N := ["walk", "one", "other", "third", "times", "odd", "m", "side"]) (sc := defScope s_source) (by decide +kernel)) (fun _ _ _ _ _ => (pg_name (i := 7) sc_source.nd rfl (Or.inl rfl))) (fun _ _ _ _ _ => pts_nil) (fun _ _ _ _ _ => (pe_call (ok_is_number T) (hr.mono (by decide)) (by rfl) T.g_is_number T.F_is_number.kp T.b_is_number .nil pass0 (pa_cons (pv 7) (pa_cons pe_int (pa_cons (pe_glob (v := .int 10000) (by rfl) T.g_GREATEST ⟨_, rfl⟩) pa_nil)))))) pa_nil)))))))) (pss_one ps_never) pss_nil) (pss_cons (ps_asg (pv 0) (pg_tup rfl (pgs_cons (pg_name (i := 1) sc_source.nd rfl (Or.inl rfl)) (pgs_cons (pg_name (i := 2) sc_source.nd rfl (Or.inl rfl)) (pgs_cons (pg_name (i := 3) sc_source.nd rfl (Or.inl rfl)) pgs_nil))))) (pss_cons (ps_if (PW.pt (pw_or (pt_not (pt_chain op_lt op_lt (pv 1) (pv 2) (pv 3))) (pw_or1 (pt_cmpR op_neI (pe_op op_add (pe_op op_mul (pv 1) (pv 1)) (pe_op op_mul (pv 2) (pv 2))) (pe_op op_mul (pv 3) (pv 3)) (nomark _))))) (pss_one ps_never) pss_nil) (pss_cons (ps_set (i := 4) sc_source.nd rfl (Or.inl rfl) (pe_call (ok_common T) (hr.mono (by decide)) (by rfl) T.g_common T.F_common.kp T.b_common .nil pass0 (pa_cons (pv 1) (pa_cons (pv 2) pa_nil)))) (pss_cons (ps_set (i := 5) sc_source.nd rfl (Or.inl rfl) (pe_op op_fdiv (pv 1) (pv 4))) (pss_cons (ps_if (pt_cmpR op_eqI (pe_op op_mod (pv 5) pe_int) pe_int (nomark _)) (pss_one (ps_set (i := 5) sc_source.nd rfl (Or.inl rfl) (pe_op op_fdiv (pv 2) (pv 4)))) pss_nil) (pss_cons (ps_set (i := 6) sc_source.nd rfl (Or.inl rfl) (pe_call (ok_floor_root T) (hr.mono (by decide)) (by rfl) T.g_floor_root T.F_floor_root.kp T.b_floor_root .nil pass0 (pa_cons (pe_op op_fdiv (pe_op op_add (pe_op op_fdiv (pv 3) (pv 4)) (pv 5)) pe_int) pa_nil))) (pss_one (ps_ret (pe_tup (pa_cons (pv 6) (pa_cons (pe_call (ok_floor_root T) (hr.mono (by decide)) (by rfl) T.g_floor_root T.F_floor_root.kp T.b_floor_root .nil pass0 (pa_cons (pe_op op_fdiv (pe_op op_sub (pe_op op_fdiv (pv 3) (pv 4)) (pv 5)) pe_int) pa_nil)) (pa_cons (pv 4) pa_nil))))))))))))), ?_⟩
    obtain ⟨l1, l2, l3⟩ := S.lo_hi
    have hsq := S.sq (k := k)
    have hgcd := S.gcd (k := k)
    have hodd := S.odd
    have hmn := sqN_lt S.nm
    have hk1 : k * 1 ≤ k * loN m n := Nat.mul_le_mul_left k l1
    have hk2 : k * loN m n < k * hiN m n := Nat.mul_lt_mul_of_pos_left l2 (by omega)
    have hk3 : k * hiN m n < k * (m * m + n * n) := Nat.mul_lt_mul_of_pos_left l3 (by omega)
    have hd1 : k * loN m n / k = loN m n := Nat.mul_div_cancel_left _ (by omega)
    have hd2 : k * hiN m n / k = hiN m n := Nat.mul_div_cancel_left _ (by omega)
    have hd3 : k * (m * m + n * n) / k = m * m + n * n := Nat.mul_div_cancel_left _ (by omega)
    have hcm : 1 * (m * m + n * n) ≤ k * (m * m + n * n) := Nat.mul_le_mul_right _ hk
    have er : Rp H v1 (.tuple [.int ((k * loN m n : Nat) : Int), .int ((k * hiN m n : Nat) : Int), .int ((k * (m * m + n * n) : Nat) : Int)]) := h1
    clear h1 hv
    generalize k * loN m n = a at *
    generalize k * hiN m n = b at *
    generalize k * (m * m + n * n) = c at *
    refine q_when (b := false) ?_ (fun z => nomatch z) fun _ H1 e1 => ?_
    · refine et_or (a := false) (b := false) (et_not (a := true) (dt_B (ed_isi (ed_var rfl er) (kit_tuple _)))) fun _ => et_or (a := false) (b := false) (dt_test (ed_is (ed_neI (ed_lenT (ed_var rfl er)) ed_ci) rfl)) fun _ => ?_
      refine et_not (a := true) (dt_B (ed_is (ed_all (ds := [PyData.int (a : Int), .int (b : Int), .int (c : Int)].map fun d => .bool (isNum d 1 10000)) (ed_lcT (ds := [.int (a : Int), .int (b : Int), .int (c : Int)]) (fun d => .bool (isNum d 1 10000)) (ed_var rfl er) (le_lit rfl) (by intro _; rfl) ?_ (fun _ _ => rfl)) rfl) ?_))
      · intro v d H2 e2 hm rd
        exact ed_call (ds := [d, .int 1, .int 10000]) (da_cons (ed_var rfl rd) (by walk_at "ea")) ⟨_, _, _, rfl, rfl⟩
      · show PyData.bool (isNum (.int (a : Int)) 1 10000 && (isNum (.int (b : Int)) 1 10000 && (isNum (.int (c : Int)) 1 10000 && true))) = _
        rw [isNum_ok (by omega), isNum_ok (by omega), isNum_ok (by omega)]
        rfl
    refine q_unp (ed_var rfl (dp_mono e1 er)) fun v H2 e2 rv => g_unp3 rv fun x y z r1 r2 r3 => ?_
    cases dp_int r1
    cases dp_int r2
    cases dp_int r3
    refine q_when (b := false) ?_ (fun z => nomatch z) fun _ H3 e3 => ?_
    · refine et_or (a := false) (b := false) (et_not (a := true) (dt_test (ed_is (ed_chain (f := fun i j => decide (i < j)) (g := fun i j => decide (i < j)) (ed_var rfl (.int _)) (ed_var rfl (.int _)) fun _ => ed_var rfl (.int _)) ?_))) fun _ => et_is (dt_test (ed_neI (ed_I0i (f := fun i j => i + j) (ed_mul (ed_var rfl (.int _)) (ed_var rfl (.int _)) (by omega)) (ed_mul (ed_var rfl (.int _)) (ed_var rfl (.int _)) (by omega))) (ed_mul (ed_var rfl (.int _)) (ed_var rfl (.int _)) (by omega)))) ?_
      · rw [decide_eq_true (show (a : Int) < (b : Int) by omega), decide_eq_true (show (b : Int) < (c : Int) by omega)]
        rfl
      · have e : (a : Int) * (a : Int) + (b : Int) * (b : Int) = (c : Int) * (c : Int) := by
          have := congrArg (Nat.cast (R := Int)) hsq
          exact this
        rw [decide_eq_true e]
        rfl
    refine q_asgI (n := (k : Int)) (ed_is (ed_call (ds := [.int (a : Int), .int (b : Int)]) (by walk_at "ea") ⟨a, b, rfl, rfl⟩) (by rw [hgcd])) fun H4 e4 => ?_
    refine q_asgI (n := ((loN m n : Nat) : Int)) (ed_is (ed_fdiv (ed_var rfl (.int _)) (ed_var rfl (.int _)) ⟨by omega, by omega⟩) (by rw [show (a : Int) / (k : Int) = ((a / k : Nat) : Int) from rfl, hd1])) fun H5 e5 => ?_
    refine q_ifAsg (b := decide (((loN m n : Nat) : Int) % 2 = 0)) (v := .int ((m * m - n * n : Nat) : Int)) (dt_test (ed_eqI (ed_mod (ed_var rfl (.int _)) ed_ci (by decide)) ed_ci)) (fun hb => ?_) (fun hb => ?_) fun H6 e6 => ?_
    · have hb' := of_decide_eq_true hb
      rw [if_pos (by omega)] at hodd
      rw [← hodd]
      exact ev_int (ed_is (ed_fdiv (ed_var rfl (.int _)) (ed_var rfl (.int _)) ⟨by omega, by omega⟩) (by rw [show (b : Int) / (k : Int) = ((b / k : Nat) : Int) from rfl, hd2]))
    · have hb' := of_decide_eq_false hb
      rw [if_neg (by omega)] at hodd
      rw [← hodd]
      rfl
    have hthird : ∀ {σ : L2.St} {Hx : Hp}, σ[3]? = some (some (.int (c : Int))) → σ[4]? = some (some (.int (k : Int))) → EvD (tOp (rI CDiv fun i j => .int (i / j)) (tVar 3) (tVar 4)) σ Hx (.int ((m * m + n * n : Nat) : Int)) := fun h1 h2 =>
      ed_is (ed_fdiv (ed_var h1 (.int _)) (ed_var h2 (.int _)) ⟨by omega, by omega⟩) (by rw [show (c : Int) / (k : Int) = ((c / k : Nat) : Int) from rfl, hd3])
    refine q_asgI (n := (m : Int)) (ed_is (ed_call (ds := [.int ((m : Int) * (m : Int))]) (da_cons (ed_is (ed_fdiv (ed_I0i (f := fun i j => i + j) (hthird rfl rfl) (ed_var rfl (.int _))) ed_ci ⟨by omega, by omega⟩) ?_) da_nil) ⟨_, rfl, Int.mul_nonneg (by omega) (by omega), ?_, rfl⟩) (by rw [froot_sq (by omega)])) fun H7 e7 => ?_
    · have e : (m : Int) * (m : Int) = ((m * m : Nat) : Int) := rfl
      rw [e]
      congr 1
      omega
    · have e : (m : Int) * (m : Int) = ((m * m : Nat) : Int) := rfl
      rw [e]
      omega
    refine s_retD (d := t3 ((m : Int), (n : Int), (k : Int))) (ed_tup (da_cons (ed_var rfl (.int _)) (da_cons (ed_is (ed_call (ds := [.int ((n : Int) * (n : Int))]) (da_cons (ed_is (ed_fdiv (ed_I0i (f := fun i j => i - j) (hthird rfl rfl) (ed_var rfl (.int _))) ed_ci ⟨by omega, by omega⟩) ?_) da_nil) ⟨_, rfl, Int.mul_nonneg (by omega) (by omega), ?_, rfl⟩) (by rw [froot_sq (by omega)])) (da_cons (ed_var rfl (.int _)) da_nil))) (le_lit rfl)) fun v H8 e8 r => q v H8 (((((((e1.trans e2).trans e3).trans e4).trans e5).trans e6).trans e7).trans e8) r
    · have e : (n : Int) * (n : Int) = ((n * n : Nat) : Int) := rfl
      rw [e]
      congr 1
      omega
    · have e : (n : Int) * (n : Int) = ((n * n : Nat) : Int) := rfl
      rw [e]
      omega
end
end Sq
namespace Sq
theorem shaped_t3 (l : List T3) : SeqAt.shaped (.list (l.map t3)) = true := by
  have h1 : ∀ l : List T3, PyData.canLayAll0 (l.map t3) = true := fun l => by
    induction l with
    | nil => rfl
    | cons x r ih =>
      show (true && PyData.canLayAll0 (r.map t3)) = true
      rw [ih]
      rfl
  have h2 : ∀ l : List T3, PyData.depthAll (l.map t3) ≤ 3 := fun l => by
    induction l with
    | nil => decide
    | cons x r ih =>
      simp only [List.map_cons, PyData.depthAll, PyData.depth, t3] at ih ⊢
      omega
  unfold SeqAt.shaped
  have h3 : PyData.canLay0 (.list (l.map t3)) = true := h1 l
  have h4 := h2 l
  have h5 : PyData.depth (.list (l.map t3)) ≤ 64 := by
    simp only [PyData.depth]
    omega
  rw [h3, decide_eq_true h5]
  rfl
theorem lay_t3 (l : List T3) : PyData.canLay0 (.list (l.map t3)) = true := by
  have h1 : ∀ l : List T3, PyData.canLayAll0 (l.map t3) = true := fun l => by
    induction l with
    | nil => rfl
    | cons x r ih =>
      show (true && PyData.canLayAll0 (r.map t3)) = true
      rw [ih]
      rfl
  exact h1 l
def rtR (x k : Nat) : Nat := Nat.rec 0 (fun b ih => cond (Nat.beq (Nat.mul b b) x) b ih) k
theorem rtR_succ (x k : Nat) : rtR x (k + 1) = cond (Nat.beq (Nat.mul k k) x) k (rtR x k) := rfl
theorem rtK_ok (x : Nat) : ∀ k : Nat, (0 < rtR x k → rtR x k * rtR x k = x) ∧ (rtR x k = 0 → ∀ b, 0 < b → b < k → b * b ≠ x)
  | 0 => ⟨fun h => absurd h (Nat.lt_irrefl 0), fun _ b _ h => absurd h (Nat.not_lt_zero b)⟩
  | k + 1 => by
    obtain ⟨i1, i2⟩ := rtK_ok x k
    rw [rtR_succ]
    cases hb : Nat.beq (Nat.mul k k) x with
    | true =>
      have e : k * k = x := Nat.eq_of_beq_eq_true hb
      refine ⟨fun _ => e, fun z b h0 h1 => ?_⟩
      have z' : k = 0 := z
      omega
    | false =>
      refine ⟨fun h => i1 h, fun z b h0 h1 => ?_⟩
      by_cases e : b = k
      · subst e
        intro q
        have : Nat.beq (Nat.mul b b) x = true := by
          have q' : Nat.mul b b = x := q
          rw [q']
          exact Nat.beq_refl x
        rw [this] at hb
        cases hb
      · exact i2 z b h0 (by omega)
theorem rtK_is {most c a : Nat} (hc : c ≤ most) (h60 : most ≤ 60) (ha : 1 ≤ a) (hac : a < c) : (sqRt (most + 1) ((c : Int) * (c : Int) - (a : Int) * (a : Int))).getD 0 = ((rtK (c * c - a * a) : Nat) : Int) := by
  have h1 := sqN_lt hac
  have h2 : 0 < a * a := Nat.mul_pos ha ha
  rw [show (c : Int) * (c : Int) - (a : Int) * (a : Int) = ((c * c - a * a : Nat) : Int) from cast_sub hac]
  obtain ⟨x, hx⟩ : ∃ x, x = c * c - a * a := ⟨_, rfl⟩
  rw [← hx]
  have hxp : 0 < x := by omega
  have hk : (0 < rtK x → rtK x * rtK x = x) ∧ (rtK x = 0 → ∀ b, 0 < b → b < 61 → b * b ≠ x) := rtK_ok x 61
  rcases Nat.eq_zero_or_pos (rtK x) with z | z
  · have no := hk.2 z
    rw [z]
    cases hs : sqRt (most + 1) (x : Int) with
    | none => rfl
    | some b =>
      obtain ⟨g1, g2, g3⟩ := sqRt_get hs
      obtain ⟨d, rfl⟩ := Int.eq_ofNat_of_zero_le g1
      have e : d * d = x := by
        have : ((d * d : Nat) : Int) = (x : Int) := g2
        omega
      have d0 : 0 < d := by
        rcases Nat.eq_zero_or_pos d with w | w
        · rw [w] at e
          omega
        · exact w
      exact absurd e (no d d0 (by omega))
  · have e := hk.1 z
    generalize rtK x = d at z e
    have hd : d < c := by
      by_cases w : d < c
      · exact w
      · have : c * c ≤ d * d := Nat.mul_le_mul (by omega) (by omega)
        omega
    have := sqRt_some (k := most + 1) (b := (d : Int)) (by omega) (by omega)
    rw [show (d : Int) * (d : Int) = ((d * d : Nat) : Int) from rfl, e] at this
    rw [this]
    rfl
section
variable {P : Program} {w : World} {K : PySem.W.Frag} {mg : Str → Option Value} {base : Heap}
theorem ok_law_common (T : Txt K mg) : FnOk P w K mg base CX0 1 T.a_law_common T.d_law_common ["_law_one", "_law_other"] (spR rCommon) := by
  refine T.F_law_common.ok sc_law_common (fun vs H Q E h => ?_) (fun cdv A outer s H vs Q E hr h => ?_)
  · obtain ⟨ds, d, hv, ⟨x, y, rfl, rfl⟩, q⟩ := h
    exact dpa_len hv
  · obtain ⟨ds, d, hv, ⟨x, y, rfl, rfl⟩, q⟩ := h
    obtain ⟨v1, v2, rfl, h1, h2⟩ := dpa_two hv
    cases dp_int h1
    cases dp_int h2
    refine ⟨_, (pss_cons (ps_while PassesOwn.never (pt_cmpR op_gt (pv 1) pe_int (nomark _)) (pss_one (ps_par (i := 0) (j := 1) rfl sc_law_common.nd rfl rfl (by decide) rfl rfl (pa_cons (pv 1) (pa_cons (pe_op op_mod (pv 0) (pv 1)) pa_nil)) (by rfl)))) (pss_one (ps_ret (pv 0)))), ?_⟩
    refine q_while (fun m σ' H' => Ex H H' ∧ ∃ a b : Nat, σ' = [some (.int (a : Int)), some (.int (b : Int))] ∧ Nat.gcd a b = Nat.gcd x y ∧ m = b) y ⟨Ex.refl H, x, y, rfl, rfl, rfl⟩ ?_
    rintro m σ' H' ⟨e0, a, b, rfl, hg, hm⟩
    refine ⟨decide (0 < (b : Int)), by walk_at "et", fun hb H3 e3 => ?_, fun hb H3 e3 => ?_⟩
    · have hb' := of_decide_eq_true hb
      refine ⟨fun σ' H' => Ex H H' ∧ σ' = [some (.int (b : Int)), some (.int ((a % b : Nat) : Int))], fun σ2 H2 ⟨e, h⟩ => ⟨a % b, by have := Nat.mod_lt a (show 0 < b by omega); omega, e, b, a % b, h, ?_, rfl⟩, ?_⟩
      · rw [Nat.gcd_comm b, ← Nat.gcd_rec, Nat.gcd_comm b a]
        exact hg
      refine s_parD (d1 := .int (b : Int)) (d2 := .int ((a % b : Nat) : Int)) (da_cons (by walk_at "ev") (da_cons (ed_modN (i := a) (j := b) (by walk_at "ev") (by walk_at "ev") (by omega)) da_nil)) fun v w H5 e5 r1 r2 => ?_
      cases dp_int r1
      cases dp_int r2
      exact ⟨(e0.trans e3).trans e5, rfl⟩
    · have hb' := of_decide_eq_false hb
      have hz : b = 0 := by omega
      subst hz
      rw [Nat.gcd_zero_right] at hg
      refine s_retD (d := .int (a : Int)) (by walk_at "ev") fun v H5 e5 r => q v H5 ((e0.trans e3).trans e5) ?_
      rw [← hg]
      exact r
def rMade : List PyData → PyData → Prop := fun ds d => ∃ m n k : Nat, ds = [.int (m : Int), .int (n : Int), .int (k : Int)] ∧ n < m ∧ m ≤ 300 ∧ k ≤ 20000 ∧ d = t3 (c3 (triN m n k))
theorem ok_law_made (T : Txt K mg) : FnOk P w K mg base CX0 1 T.a_law_made T.d_law_made ["_law_m", "_law_n", "_law_k"] (spR rMade) := by
  refine T.F_law_made.ok sc_law_made (fun vs H Q E h => ?_) (fun cdv A outer s H vs Q E hr h => ?_)
  · obtain ⟨ds, d, hv, ⟨m, n, k, rfl, _⟩, q⟩ := h
    exact dpa_len hv
  · obtain ⟨ds, d, hv, ⟨m, n, k, rfl, hnm, hm, hk, rfl⟩, q⟩ := h
    obtain ⟨v1, v2, v3, rfl, h1, h2, h3⟩ := dpa_three hv
    cases dp_int h1
    cases dp_int h2
    cases dp_int h3
    refine ⟨_, (pss_cons (ps_set (i := 3) sc_law_made.nd rfl (Or.inl rfl) (pe_callB (sortedQ (K := K)) (by rfl) T.z_sorted (by decide +kernel) (pa_cons (pe_lst (pa_cons (pe_op op_mul (pv 2) (pe_op op_sub (pe_op op_mul (pv 0) (pv 0)) (pe_op op_mul (pv 1) (pv 1)))) (pa_cons (pe_op op_mul (pe_op op_mul (pe_op op_mul (pv 2) pe_int) (pv 0)) (pv 1)) pa_nil))) pa_nil))) (pss_one (ps_ret (pe_tup (pa_cons (pe_op op_mul (pv 2) (pe_op op_add (pe_op op_mul (pv 0) (pv 0)) (pe_op op_mul (pv 1) (pv 1)))) (pa_cons (pe_ix (ixlQ (K := K)) (pv 3) pe_int (fun _ _ => rfl)) (pa_cons (pe_ix (ixlQ (K := K)) (pv 3) pe_int (fun _ _ => rfl)) pa_nil))))))), ?_⟩
    have hmm : m * m ≤ 300 * 300 := mulN_le hm hm
    have hnn : n * n ≤ 300 * 300 := mulN_le (by omega) (by omega)
    have hkm : k * 2 * m ≤ 40000 * 300 := mulN_le (by omega) hm
    have emm : (m : Int) * (m : Int) = ((m * m : Nat) : Int) := rfl
    have enn : (n : Int) * (n : Int) = ((n * n : Nat) : Int) := rfl
    have ekm : (k : Int) * 2 * (m : Int) = ((k * 2 * m : Nat) : Int) := rfl
    refine q_asgD (d := .list ([((k * loN m n : Nat) : Int), ((k * hiN m n : Nat) : Int)].map .int)) (ed_is (ed_sorted (ds := [.int ((k : Int) * ((m : Int) * (m : Int) - (n : Int) * (n : Int))), .int ((k : Int) * 2 * (m : Int) * (n : Int))]) (ed_lst (da_cons (ed_mul (by walk_at "ev") (ed_I0i (f := fun i j => i - j) (ed_mul (by walk_at "ev") (by walk_at "ev") (by omega)) (ed_mul (by walk_at "ev") (by walk_at "ev") (by omega))) (by omega)) (da_cons (ed_mul (ed_mul (ed_mul (by walk_at "ev") ed_ci (by omega)) (by walk_at "ev") (by omega)) (by walk_at "ev") (by omega)) da_nil)) (le_lit rfl)) rfl) ?_) fun v H1 e1 rv => ?_
    · show PyData.list ((srt [(k : Int) * ((m : Int) * (m : Int) - (n : Int) * (n : Int)), (k : Int) * 2 * (m : Int) * (n : Int)]).map .int) = _
      have ea : (k : Int) * ((m : Int) * (m : Int) - (n : Int) * (n : Int)) = ((k * (m * m - n * n) : Nat) : Int) := by
        rw [cast_sub hnm]
        rfl
      have eb : (k : Int) * 2 * (m : Int) * (n : Int) = ((k * (2 * m * n) : Nat) : Int) := by
        have : k * (2 * m * n) = k * 2 * m * n := by grind
        rw [this]
        rfl
      rw [ea, eb, srt_pair]
    have hs : ∀ {H4 : Hp}, Ex H1 H4 → EvD (tVar 3) [some (.int (m : Int)), some (.int (n : Int)), some (.int (k : Int)), some v] H4 (.list [.int ((k * loN m n : Nat) : Int), .int ((k * hiN m n : Nat) : Int)]) := fun e => ed_var rfl (dp_mono e rv)
    refine s_retD (ed_tup (da_cons (ed_is (ed_mul (ed_var rfl (.int (k : Int))) (ed_I0i (f := fun i j => i + j) (ed_mul (ed_var rfl (.int (m : Int))) (ed_var rfl (.int (m : Int))) (by omega)) (ed_mul (ed_var rfl (.int (n : Int))) (ed_var rfl (.int (n : Int))) (by omega))) (by omega)) (d1 := .int ((k * (m * m + n * n) : Nat) : Int)) rfl) (da_cons (ed_ixL (i := 0) (hs (Ex.refl _)) ed_ci (by decide) rfl) (da_cons (ed_ixL (i := 1) (hs (Ex.refl _)) ed_ci (by decide) rfl) da_nil))) (le_lit rfl)) fun v H3 e3 r => q v H3 (e1.trans e3) r
def rTried : List PyData → PyData → Prop := fun ds d => ∃ most : Nat, ds = [.int (most : Int)] ∧ most ≤ 60 ∧ d = .list (((triedN most).map c3).map t3)
theorem tried_len : ∀ most : Nat, most ≤ 60 → (triedN most).length ≤ most * 60
  | 0, _ => Nat.zero_le _
  | c + 1, h => by
    have ih := tried_len c (by omega)
    have rl : ∀ k, (rowN (c + 1) k).length ≤ k := fun k => by
      induction k with
      | zero => exact Nat.le_refl _
      | succ k ih =>
        unfold rowN
        rw [List.length_append]
        split
        · show _ + 1 ≤ _
          omega
        · show _ + 0 ≤ _
          omega
    have := rl c
    show (triedN c ++ rowN (c + 1) c).length ≤ _
    rw [List.length_append]
    omega
theorem row_len (c : Nat) : ∀ k, (rowN c k).length ≤ k := fun k => by
  induction k with
  | zero => exact Nat.le_refl _
  | succ k ih =>
    unfold rowN
    rw [List.length_append]
    split
    · show _ + 1 ≤ _
      omega
    · show _ + 0 ≤ _
      omega
theorem ok_law_tried (T : Txt K mg) : FnOk P w K mg base CX0 1 T.a_law_tried T.d_law_tried ["_law_most"] (spR rTried) := by
  refine T.F_law_tried.ok sc_law_tried (fun vs H Q E h => ?_) (fun cdv A outer s H vs Q E hr h => ?_)
  · obtain ⟨ds, d, hv, ⟨most, rfl, _⟩, q⟩ := h
    exact dpa_len hv
  · obtain ⟨ds, d, hv, ⟨most, rfl, hm, rfl⟩, q⟩ := h
    obtain ⟨v1, rfl, h1⟩ := dpa_one hv
    cases dp_int h1
    refine ⟨_, (pss_cons (ps_set (i := 1) sc_law_tried.nd rfl (Or.inl rfl) pe_dnewK) (pss_cons (ps_for PassesOwn.never rfl (pi_range1 rfl T.z_range (pa_cons (pe_op op_add (pv 0) pe_int) pa_nil)) (pg_name (i := 2) sc_law_tried.nd rfl (Or.inl rfl)) (pss_one (ps_dput (hu_of hr) (pv 1) (pe_op op_mul (pv 2) (pv 2)) (pv 2) rfl))) (pss_cons (ps_set (i := 3) sc_law_tried.nd rfl (Or.inl rfl) (pe_lst pa_nil)) (pss_cons (ps_for PassesOwn.never rfl (pi_range2 rfl T.z_range (pa_cons pe_int (pa_cons (pe_op op_add (pv 0) pe_int) pa_nil))) (pg_name (i := 4) sc_law_tried.nd rfl (Or.inl rfl)) (pss_one (ps_for PassesOwn.never rfl (pi_range2 rfl T.z_range (pa_cons pe_int (pa_cons (pv 4) pa_nil))) (pg_name (i := 5) sc_law_tried.nd rfl (Or.inl rfl)) (pss_cons (ps_set (i := 6) sc_law_tried.nd rfl (Or.inl rfl) (pe_dget2 (hu_of hr) (pv 1) (pe_op op_sub (pe_op op_mul (pv 4) (pv 4)) (pe_op op_mul (pv 5) (pv 5))) pe_int ⟨by rfl, by rfl, by rfl, by rfl⟩)) (pss_one (ps_if (pt_cmpR op_lt (pv 5) (pv 6) (nomark _)) (pss_one (ps_expr (pe_bm PySem.F.plainAttrs_list PySem.F.slot_list_append PySem.F.type_list_append mt_append (pv 3) (pa_cons (pe_tup (pa_cons (pv 4) (pa_cons (pv 5) (pa_cons (pv 6) pa_nil)))) pa_nil)))) pss_nil)))))) (pss_one (ps_ret (pv 3))))))), ?_⟩
    refine q_asgSq fun p H1 hp e1 g1 => ?_
    refine q_forR1 (n := (most : Int) + 1) (ea1 (by walk_at "ea")) (by omega) (fun i σ' H' => Ex H H' ∧ ∃ y, σ' = [some (.int (most : Int)), some (.ref p), y, none, none, none, none] ∧ SqD H' p i) (fun H2 e2 => ⟨e1.trans e2, _, rfl, g1.ex e2⟩) ?_ ?_
    · rintro i σ' H' hi ⟨e0, y, rfl, g⟩
      dsimp only [List.set]
      exact s_putSq g (by walk_at "ev") (ev_var rfl) (by walk_at "ev") (by omega) fun H2 g2 b2 => ⟨b2 H e0 hp, _, rfl, g2⟩
    · rintro σ' HB ⟨e0, y, rfl, g0⟩
      have g : SqD HB p (most + 1) := g0
      refine q_asgL (xs := []) (el_lst ea_nil (by decide)) fun l H2 hl e2 g2 => ?_
      dsimp only [List.set]
      refine q_forR2 (lo := 1) (n := (most : Int) + 1) (ea2 (by walk_at "ea")) (by omega) (fun i σ' H' => Ex HB H' ∧ ∃ y4 y5 y6, σ' = [some (.int (most : Int)), some (.ref p), y, some (.ref l), y4, y5, y6] ∧ Grows H' l (((triedN i).map c3).map t3))
        (fun H3 e3 => ⟨e2.trans e3, _, _, _, rfl, Grows.of_nil (e3 _ _ g2)⟩) ?_ ?_
      · rintro i σ' H' hi ⟨e4, y4, y5, y6, rfl, gl⟩
        dsimp only [List.set]
        have ec : (1 : Int) + (i : Int) = ((i + 1 : Nat) : Int) := by omega
        rw [ec]
        have hi' : i < most := by omega
        have hcc : (i + 1) * (i + 1) ≤ 60 * 60 := mulN_le (by omega) (by omega)
        have ecc : ((i + 1 : Nat) : Int) * ((i + 1 : Nat) : Int) = (((i + 1) * (i + 1) : Nat) : Int) := rfl
        refine s_forR2 (lo := 1) (n := ((i + 1 : Nat) : Int)) (ea2 (by walk_at "ea")) (by omega) (fun j s' h' => Ex HB h' ∧ ∃ y5 y6, s' = [some (.int (most : Int)), some (.ref p), y, some (.ref l), some (.int ((i + 1 : Nat) : Int)), y5, y6] ∧ Grows h' l (((triedN i ++ rowN (i + 1) j).map c3).map t3))
          (fun H3 e3 => ⟨e4.trans e3, _, _, rfl, by
            show Grows H3 l (((triedN i ++ []).map c3).map t3)
            rw [List.append_nil]
            exact gl.ex e3⟩) ?_ ?_
        · rintro j s' h' hj ⟨e5, z5, z6, rfl, gj⟩
          dsimp only [List.set]
          have ed : (1 : Int) + (j : Int) = ((j + 1 : Nat) : Int) := by omega
          rw [ed]
          have hj' : j < i := by omega
          have hdd : (j + 1) * (j + 1) ≤ 60 * 60 := mulN_le (by omega) (by omega)
          have edd : ((j + 1 : Nat) : Int) * ((j + 1 : Nat) : Int) = (((j + 1) * (j + 1) : Nat) : Int) := rfl
          have ert := rtK_is (most := most) (c := i + 1) (a := j + 1) (by omega) hm (by omega) (by omega)
          have hrow : rowN (i + 1) (j + 1) = rowN (i + 1) j ++ (if j + 1 < rtK ((i + 1) * (i + 1) - (j + 1) * (j + 1)) then [(i + 1, j + 1, rtK ((i + 1) * (i + 1) - (j + 1) * (j + 1)))] else []) := rfl
          generalize rtK ((i + 1) * (i + 1) - (j + 1) * (j + 1)) = r at ert hrow
          refine q_asgI (n := (r : Int)) (ed_is (ed_getSq2 (g.ex e5) (ev_var rfl) (ed_I0i (f := fun i j => i - j) (ed_mul (i := ((i + 1 : Nat) : Int)) (j := ((i + 1 : Nat) : Int)) (ed_var rfl (.int _)) (ed_var rfl (.int _)) (by omega)) (ed_mul (i := ((j + 1 : Nat) : Int)) (j := ((j + 1 : Nat) : Int)) (ed_var rfl (.int _)) (ed_var rfl (.int _)) (by omega))) ed_ci) (congrArg PyData.int ert)) fun H5 e6 => ?_
          dsimp only [List.set]
          refine s_when (b := decide (((j + 1 : Nat) : Int) < (r : Int))) (dt_test (ed_I0b (f := fun i j => decide (i < j)) (ed_var rfl (.int _)) (ed_var rfl (.int _)))) (fun hb H6 e7 => ?_) (fun hb H6 e7 => ?_)
          · have hb' := of_decide_eq_true hb
            rw [if_pos (by omega)] at hrow
            have l1 := tried_len i (by omega)
            have l2 := row_len (i + 1) j
            refine s_appG (d := t3 (c3 (i + 1, j + 1, r))) ((gj.ex e6).ex e7) (ev_var rfl) (ed_tup (da_cons (ed_var rfl (.int _)) (da_cons (ed_var rfl (.int _)) (da_cons (ed_var rfl (.int _)) da_nil))) (le_lit rfl)) rfl ?_ fun H7 g7 b7 => ⟨b7 HB ((e5.trans e6).trans e7) hl, _, _, rfl, ?_⟩
            · simp only [List.length_map, List.length_append]
              omega
            · rw [hrow, ← List.append_assoc, List.map_append (l₂ := [_]), List.map_append (l₂ := List.map c3 [_])]
              exact g7
          · have hb' := of_decide_eq_false hb
            rw [if_neg (by omega), List.append_nil] at hrow
            exact ⟨(e5.trans e6).trans e7, _, _, rfl, by rw [hrow]; exact (gj.ex e6).ex e7⟩
        · rintro s' h' ⟨e5, z5, z6, rfl, gj⟩
          refine ⟨e5, _, _, _, rfl, ?_⟩
          rw [show (((i + 1 : Nat) : Int) - 1).toNat = i by omega] at gj
          exact gj
      · rintro σ' H' ⟨e4, y4, y5, y6, rfl, gl⟩
        rw [show ((most : Int) + 1 - 1).toNat = most by omega] at gl
        exact s_retD (ed_var rfl gl.rp) fun v H5 e5 r => q v H5 ((e0.trans e4).trans e5) r
def rSrcs : List PyData → PyData → Prop := fun ds d => ∃ most : Nat, ds = [.int (most : Int)] ∧ most ≤ 300 ∧ d = .list (((walkN most).map c3).map t3)
theorem ok_law_sources (T : Txt K mg) : FnOk P w K mg base CX0 2 T.a_law_sources T.d_law_sources ["_law_most"] (spR rSrcs) := by
  refine T.F_law_sources.ok sc_law_sources (fun vs H Q E h => ?_) (fun cdv A outer s H vs Q E hr h => ?_)
  · obtain ⟨ds, d, hv, ⟨most, rfl, _⟩, q⟩ := h
    exact dpa_len hv
  · obtain ⟨ds, d, hv, ⟨most, rfl, hm, rfl⟩, q⟩ := h
    obtain ⟨v1, rfl, h1⟩ := dpa_one hv
    cases dp_int h1
    refine ⟨_, (pss_cons (ps_set (i := 1) sc_law_sources.nd rfl (Or.inl rfl) (pe_lst pa_nil)) (pss_cons (ps_for PassesOwn.never rfl (pi_range2 rfl T.z_range (pa_cons pe_int (pa_cons pe_int pa_nil))) (pg_name (i := 2) sc_law_sources.nd rfl (Or.inl rfl)) (pss_one (ps_for PassesOwn.never rfl (pi_range2 rfl T.z_range (pa_cons pe_int (pa_cons (pv 2) pa_nil))) (pg_name (i := 3) sc_law_sources.nd rfl (Or.inl rfl)) (pss_one (ps_if (PW.pt (pw_and (pt_cmpR op_eqI (pe_op op_mod (pe_op op_add (pv 2) (pv 3)) pe_int) pe_int (nomark _)) (pw_and1 (pt_cmpR op_eqI (pe_call (ok_law_common T) (hr.mono (by decide)) (by rfl) T.g_law_common T.F_law_common.kp T.b_law_common .nil pass0 (pa_cons (pv 2) (pa_cons (pv 3) pa_nil))) pe_int (nomark _))))) (pss_one (ps_for PassesOwn.never rfl (pi_range2 rfl T.z_range (pa_cons pe_int (pa_cons (pe_op op_add (pe_op op_fdiv (pv 0) (pe_op op_add (pe_op op_mul (pv 2) (pv 2)) (pe_op op_mul (pv 3) (pv 3)))) pe_int) pa_nil))) (pg_name (i := 4) sc_law_sources.nd rfl (Or.inl rfl)) (pss_one (ps_expr (pe_bm PySem.F.plainAttrs_list PySem.F.slot_list_append PySem.F.type_list_append mt_append (pv 1) (pa_cons (pe_call (ok_law_made T) (hr.mono (by decide)) (by rfl) T.g_law_made T.F_law_made.kp T.b_law_made .nil pass0 (pa_cons (pv 2) (pa_cons (pv 3) (pa_cons (pv 4) pa_nil)))) pa_nil)))))) pss_nil))))) (pss_one (ps_ret (pe_callB (sorted3Q (K := K)) (by rfl) T.z_sorted (by decide +kernel) (pa_cons (pv 1) pa_nil)))))), ?_⟩
    refine q_asgL (xs := []) (el_lst ea_nil (by decide)) fun p H1 hp e1 g1 => ?_
    refine q_forR2 (lo := 2) (n := 18) (ea2 (by walk_at "ea")) (by omega) (fun i σ' H' => Ex H H' ∧ ∃ y2 y3 y4, σ' = [some (.int (most : Int)), some (.ref p), y2, y3, y4] ∧ Grows H' p (((oWalk most i).map c3).map t3))
      (fun H2 e2 => ⟨e1.trans e2, _, _, _, rfl, Grows.of_nil (e2 _ _ g1)⟩) ?_ ?_
    · rintro i σ' H' hi ⟨e0, y2, y3, y4, rfl, gp⟩
      dsimp only [List.set]
      have hi16 : i ≤ 15 := by omega
      have em : (2 : Int) + (i : Int) = ((i + 2 : Nat) : Int) := by omega
      rw [em]
      refine s_forR2 (lo := 1) (n := ((i + 2 : Nat) : Int)) (ea2 (by walk_at "ea")) (by omega) (fun j s' h' => Ex H h' ∧ ∃ y3 y4, s' = [some (.int (most : Int)), some (.ref p), some (.int ((i + 2 : Nat) : Int)), y3, y4] ∧ Grows h' p (((oWalk most i ++ iWalk most (i + 2) j).map c3).map t3))
        (fun H2 e2 => ⟨e0.trans e2, _, _, rfl, by
          show Grows H2 p (((oWalk most i ++ []).map c3).map t3)
          rw [List.append_nil]
          exact gp.ex e2⟩) ?_ ?_
      · rintro j s' h' hj ⟨e2, y3', y4', rfl, gj⟩
        dsimp only [List.set]
        have en : (1 : Int) + (j : Int) = ((j + 1 : Nat) : Int) := by omega
        rw [en]
        have hj' : j + 1 < i + 2 := by omega
        have hin : iWalk most (i + 2) (j + 1) = iWalk most (i + 2) j ++ (if (i + 2 + (j + 1)) % 2 = 1 ∧ Nat.gcd (i + 2) (j + 1) = 1 then kList (i + 2) (j + 1) most else []) := rfl
        have hl1 := outer_len hm i (by omega)
        have hl2 := inner_len (most := most) (m := i + 2) (by omega) hm j
        have hl3 := kList_len (m := i + 2) (n := j + 1) (by omega) hm
        refine s_when (b := decide ((((i + 2 : Nat) : Int) + ((j + 1 : Nat) : Int)) % 2 = 1) && decide (((Nat.gcd (i + 2) (j + 1) : Nat) : Int) = 1)) ?_ (fun hb H3 e3 => ?_) (fun hb H3 e3 => ?_)
        · exact et_and (dt_test (ed_eqI (ed_mod (ed_I0i (f := fun i j => i + j) (ed_var rfl (.int _)) (ed_var rfl (.int _))) ed_ci (by decide)) ed_ci)) fun _ => dt_test (ed_eqI (ed_call (ds := [.int ((i + 2 : Nat) : Int), .int ((j + 1 : Nat) : Int)]) (by walk_at "ea") ⟨_, _, rfl, rfl⟩) ed_ci)
        · obtain ⟨b1, b2⟩ := Bool.and_eq_true_iff.mp hb
          have c1 := of_decide_eq_true b1
          have c2 := of_decide_eq_true b2
          rw [if_pos ⟨by omega, by omega⟩] at hin
          have hmm : (i + 2) * (i + 2) ≤ 17 * 17 := mulN_le (by omega) (by omega)
          have hnn : (j + 1) * (j + 1) ≤ 17 * 17 := mulN_le (by omega) (by omega)
          have hm1 : 1 * 1 ≤ (i + 2) * (i + 2) := mulN_le (by omega) (by omega)
          have emm : ((i + 2 : Nat) : Int) * ((i + 2 : Nat) : Int) = (((i + 2) * (i + 2) : Nat) : Int) := rfl
          have enn : ((j + 1 : Nat) : Int) * ((j + 1 : Nat) : Int) = (((j + 1) * (j + 1) : Nat) : Int) := rfl
          obtain ⟨N, hN⟩ : ∃ N, N = most / ((i + 2) * (i + 2) + (j + 1) * (j + 1)) := ⟨_, rfl⟩
          have hdv : N ≤ 300 := hN ▸ Nat.le_trans (Nat.div_le_self _ _) hm
          have ekl : kList (i + 2) (j + 1) most = (List.range N).map fun k => triN (i + 2) (j + 1) (k + 1) := by rw [hN]; rfl
          rw [ekl] at hin
          have eT : EvD (tOp (rI0 fun i j => .int (i + j)) (tOp (rI CMul fun i j => .int (i * j)) (tVar 2) (tVar 2)) (tOp (rI CMul fun i j => .int (i * j)) (tVar 3) (tVar 3))) [some (.int (most : Int)), some (.ref p), some (.int ((i + 2 : Nat) : Int)), some (.int ((j + 1 : Nat) : Int)), y4'] H3 (.int (((i + 2) * (i + 2) + (j + 1) * (j + 1) : Nat) : Int)) :=
            ed_is (ed_I0i (f := fun i j => i + j) (ed_mul (i := ((i + 2 : Nat) : Int)) (j := ((i + 2 : Nat) : Int)) (ed_var rfl (.int _)) (ed_var rfl (.int _)) (by omega)) (ed_mul (i := ((j + 1 : Nat) : Int)) (j := ((j + 1 : Nat) : Int)) (ed_var rfl (.int _)) (ed_var rfl (.int _)) (by omega))) (congrArg PyData.int (cast_add (i + 2) (j + 1)))
          have hth : 0 < (i + 2) * (i + 2) + (j + 1) * (j + 1) ∧ (i + 2) * (i + 2) + (j + 1) * (j + 1) < 1073741824 := by omega
          generalize (i + 2) * (i + 2) + (j + 1) * (j + 1) = th at hN eT hth
          have eN : EvD (tOp (rI CDiv fun i j => .int (i / j)) (tVar 0) (tOp (rI0 fun i j => .int (i + j)) (tOp (rI CMul fun i j => .int (i * j)) (tVar 2) (tVar 2)) (tOp (rI CMul fun i j => .int (i * j)) (tVar 3) (tVar 3)))) [some (.int (most : Int)), some (.ref p), some (.int ((i + 2 : Nat) : Int)), some (.int ((j + 1 : Nat) : Int)), y4'] H3 (.int (N : Int)) :=
            ed_is (ed_fdivN (i := most) (j := th) (ed_var rfl (.int _)) eT hth.1 hth.2) (by rw [← hN])
          refine s_forR2 (lo := 1) (n := (N : Int) + 1) (ea2 (da_cons ed_ci (da_cons (ed_I0i (f := fun i j => i + j) eN ed_ci) da_nil))) (by omega) (fun l s2 h2 => Ex H h2 ∧ ∃ y4, s2 = [some (.int (most : Int)), some (.ref p), some (.int ((i + 2 : Nat) : Int)), some (.int ((j + 1 : Nat) : Int)), y4] ∧ Grows h2 p (((oWalk most i ++ iWalk most (i + 2) j ++ (List.range l).map fun k => triN (i + 2) (j + 1) (k + 1)).map c3).map t3))
            (fun H4 e4 => ⟨(e2.trans e3).trans e4, _, rfl, by
              show Grows H4 p (((oWalk most i ++ iWalk most (i + 2) j ++ []).map c3).map t3)
              rw [List.append_nil]
              exact (gj.ex e3).ex e4⟩) ?_ ?_
          · rintro l s2 h2 hl ⟨e4, z4, rfl, gl⟩
            dsimp only [List.set]
            have el : (1 : Int) + (l : Int) = ((l + 1 : Nat) : Int) := by omega
            rw [el]
            refine s_appG (d := t3 (c3 (triN (i + 2) (j + 1) (l + 1)))) gl (ev_var rfl) (ed_call (ds := [.int ((i + 2 : Nat) : Int), .int ((j + 1 : Nat) : Int), .int ((l + 1 : Nat) : Int)]) (by walk_at "ea") ⟨_, _, _, rfl, hj', by omega, by omega, rfl⟩) rfl ?_ fun H7 g7 b7 => ⟨b7 H e4 hp, _, rfl, ?_⟩
            · simp only [List.length_map, List.length_append, List.length_range]
              omega
            · have er : ((List.range (l + 1)).map fun k => triN (i + 2) (j + 1) (k + 1)) = ((List.range l).map fun k => triN (i + 2) (j + 1) (k + 1)) ++ [triN (i + 2) (j + 1) (l + 1)] := by
                rw [List.range_succ, List.map_append]
                rfl
              rw [er, ← List.append_assoc, List.map_append (l₂ := [_]), List.map_append (l₂ := List.map c3 [_])]
              exact g7
          · rintro s2 h2 ⟨e4, z4, rfl, gl⟩
            rw [show ((N : Int) + 1 - 1).toNat = N by omega, List.append_assoc, ← hin] at gl
            exact ⟨e4, _, _, rfl, gl⟩
        · have hno : ¬ ((i + 2 + (j + 1)) % 2 = 1 ∧ Nat.gcd (i + 2) (j + 1) = 1) := fun z => by
            rw [decide_eq_true (show (((i + 2 : Nat) : Int) + ((j + 1 : Nat) : Int)) % 2 = 1 by omega), decide_eq_true (show ((Nat.gcd (i + 2) (j + 1) : Nat) : Int) = 1 by omega)] at hb
            cases hb
          rw [if_neg hno, List.append_nil] at hin
          exact ⟨e2.trans e3, _, _, rfl, by rw [hin]; exact gj.ex e3⟩
      · rintro s' h' ⟨e2, y3', y4', rfl, gj⟩
        refine ⟨e2, _, _, _, rfl, ?_⟩
        rw [show (((i + 2 : Nat) : Int) - 1).toNat = i + 1 by omega] at gj
        exact gj
    · rintro σ' H' ⟨e0, y2, y3, y4, rfl, gp⟩
      rw [show ((18 : Int) - 2).toNat = 16 from rfl] at gp
      have ew := walkN_eq most
      generalize walkN most = W at q ew
      generalize oWalk most 16 = L at gp ew
      exact s_retD (ed_is (ed_sorted3 (ts := L.map c3) (ed_var rfl gp.rp)) (by rw [srtN_c3, ew])) fun v H2 e2 r => q v H2 (e0.trans e2) r
end
end Sq
namespace Sq
theorem src_bd {m n k : Nat} (hk : 1 ≤ k) (h : k * (m * m + n * n) ≤ 10000) : m ≤ 100 ∧ k ≤ 10000 ∨ m = 0 := by
  have h1 : 1 * (m * m + n * n) ≤ k * (m * m + n * n) := Nat.mul_le_mul_right _ hk
  by_cases z : m = 0
  · exact .inr z
  · refine .inl ⟨?_, ?_⟩
    · by_cases q : m ≤ 100
      · exact q
      · have : 101 * 101 ≤ m * m := Nat.mul_le_mul (by omega) (by omega)
        omega
    · have h2 : 0 < m * m := Nat.mul_pos (by omega) (by omega)
      have h3 : k * 1 ≤ k * (m * m + n * n) := Nat.mul_le_mul_left k (by omega)
      omega
section
variable {P : Program} {w : World} {K : PySem.W.Frag} {mg : Str → Option Value} {base : Heap}
def rSrcR : List PyData → PyData → Prop := fun ds d => ∃ m n k : Nat, ds = [t3 (back3 (c3 (triN m n k))), t3 ((m : Int), (n : Int), (k : Int))] ∧ Src m n ∧ 1 ≤ k ∧ k * (m * m + n * n) ≤ 10000 ∧ d = .bool true
theorem ok_law_source_right (T : Txt K mg) : FnOk P w K mg base CX0 2 T.a_law_source_right T.d_law_source_right ["_law_walk", "_law_found"] (spR rSrcR) := by
  refine T.F_law_source_right.ok sc_law_source_right (fun vs H Q E h => ?_) (fun cdv A outer s H vs Q E hr h => ?_)
  · obtain ⟨ds, d, hv, ⟨m, n, k, rfl, _⟩, q⟩ := h
    exact dpa_len hv
  · obtain ⟨ds, d, hv, ⟨m, n, k, rfl, S, hk, hc, rfl⟩, q⟩ := h
    obtain ⟨v1, v2, rfl, h1, h2⟩ := dpa_two hv
    refine ⟨_, (pss_cons (ps_if (PW.pt (pw_or (pt_not (pt_val (pe_callB (isiQ (K := K)) (by rfl) T.z_isinstance (by decide +kernel) (pa_cons (pv 1) (pa_cons (pe_bltn (v := .ty "tuple") (by rfl) T.z_tuple (by decide +kernel) rfl) pa_nil))))) (pw_or1 (pt_cmpR op_neI (pe_callB (lenQ (K := K)) (by rfl) T.z_len (by decide +kernel) (pa_cons (pv 1) pa_nil)) pe_int (nomark _))))) (pss_one (ps_ret pe_bl)) pss_nil) (pss_cons (ps_if (pt_val (pe_callB (anyQ (K := K) rfl) (by rfl) T.z_any (by decide +kernel) (pa_cons (pe_lc (own := [("_law_number", 8)]) (g := gName 8) rfl sc_law_source_right.nd (pitQ (K := K) (pv 1)) (blkOk_by (N := ["_law_walk", "_law_found", "_law_m", "_law_n", "_law_k", "_law_third", "_law_one", "_law_other", "_law_number"]) (sc := defScope s_law_source_right) (by decide +kernel)) (fun _ _ _ _ _ => (pg_name (i := 8) sc_law_source_right.nd rfl (Or.inl rfl))) (fun _ _ _ _ _ => pts_nil) (fun _ _ _ _ _ => (pe_or (pe_callB (isiQ (K := K)) (by rfl) T.z_isinstance (by decide +kernel) (pa_cons (pv 8) (pa_cons (pe_bltn (v := .ty "bool") (by rfl) T.z_bool (by decide +kernel) rfl) pa_nil))) (pe_one (pe_not (pe_callB (isiQ (K := K)) (by rfl) T.z_isinstance (by decide +kernel) (pa_cons (pv 8) (pa_cons (pe_bltn (v := .ty "int") (by rfl) T.z_int (by decide +kernel) rfl) pa_nil)))))))) pa_nil))) (pss_one (ps_ret pe_bl)) pss_nil) (pss_cons (ps_asg (pv 1) (pg_tup rfl (pgs_cons (pg_name (i := 2) sc_law_source_right.nd rfl (Or.inl rfl)) (pgs_cons (pg_name (i := 3) sc_law_source_right.nd rfl (Or.inl rfl)) (pgs_cons (pg_name (i := 4) sc_law_source_right.nd rfl (Or.inl rfl)) pgs_nil))))) (pss_cons (ps_if (PW.pt (pw_or (pt_not (pt_chain op_gt op_gt (pv 2) (pv 3) pe_int)) (pw_or (pt_cmpR op_lt (pv 4) pe_int (nomark _)) (pw_or (pt_cmpR op_eqI (pe_op op_mod (pe_op op_add (pv 2) (pv 3)) pe_int) pe_int (nomark _)) (pw_or1 (pt_cmpR op_neI (pe_call (ok_law_common T) (hr.mono (by decide)) (by rfl) T.g_law_common T.F_law_common.kp T.b_law_common .nil pass0 (pa_cons (pv 2) (pa_cons (pv 3) pa_nil))) pe_int (nomark _))))))) (pss_one (ps_ret pe_bl)) pss_nil) (pss_cons (ps_asg (pe_call (ok_law_made T) (hr.mono (by decide)) (by rfl) T.g_law_made T.F_law_made.kp T.b_law_made .nil pass0 (pa_cons (pv 2) (pa_cons (pv 3) (pa_cons (pv 4) pa_nil)))) (pg_tup rfl (pgs_cons (pg_name (i := 5) sc_law_source_right.nd rfl (Or.inl rfl)) (pgs_cons (pg_name (i := 6) sc_law_source_right.nd rfl (Or.inl rfl)) (pgs_cons (pg_name (i := 7) sc_law_source_right.nd rfl (Or.inl rfl)) pgs_nil))))) (pss_one (ps_ret (pe_cmpR (eqdQ (K := K) hr.units) (pe_tup (pa_cons (pv 6) (pa_cons (pv 7) (pa_cons (pv 5) pa_nil)))) (pv 0) (nomark _))))))))), ?_⟩
    have hbd : m ≤ 100 ∧ k ≤ 10000 := by
      have := S.nm
      rcases src_bd hk hc with z | z
      · exact z
      · omega
    have s1 := S.n1
    have s2 := S.nm
    have s3 := S.od
    have s4 := S.cp
    have r2 : Rp H v2 (.tuple [.int (m : Int), .int (n : Int), .int (k : Int)]) := h2
    refine q_when (b := false) ?_ (fun z => nomatch z) fun _ H1 e1 => ?_
    · exact et_or (a := false) (b := false) (et_not (a := true) (dt_B (ed_isi (ed_var rfl r2) (kit_tuple _)))) fun _ => dt_test (ed_is (ed_neI (ed_lenT (ed_var rfl r2)) ed_ci) rfl)
    refine q_when (b := false) ?_ (fun z => nomatch z) fun _ H2 e2 => ?_
    · refine dt_B (ed_is (ed_any (ds := [PyData.int (m : Int), .int (n : Int), .int (k : Int)].map fun d => .bool (isi_bool d || !isi_int d)) (ed_lcT (ds := [.int (m : Int), .int (n : Int), .int (k : Int)]) _ (ed_var rfl (dp_mono e1 r2)) (le_lit rfl) (by intro _; rfl) ?_ (fun _ _ => rfl)) rfl) rfl)
      intro v d H3 e3 hm rd
      exact ed_or (ed_isi (ed_var rfl rd) (kit_bool _)) fun _ => ed_not (ed_isi (ed_var rfl rd) (kit_int _))
    refine q_unp (ed_var rfl (dp_mono (e1.trans e2) r2)) fun v H3 e3 rv => g_unp3 rv fun x y z i1 i2 i3 => ?_
    cases dp_int i1
    cases dp_int i2
    cases dp_int i3
    refine q_when (b := false) ?_ (fun z => nomatch z) fun _ H4 e4 => ?_
    · refine et_or (a := false) (b := false) (et_not (a := true) (dt_test (ed_is (ed_chain (f := fun i j => decide (j < i)) (g := fun i j => decide (j < i)) (ed_var rfl (.int _)) (ed_var rfl (.int _)) fun _ => ed_ci) ?_))) fun _ => et_or (a := false) (b := false) (et_is (dt_test (ed_I0b (f := fun i j => decide (i < j)) (ed_var rfl (.int _)) ed_ci)) (decide_eq_false (by omega))) fun _ =>
        et_or (a := false) (b := false) (et_is (dt_test (ed_eqI (ed_mod (ed_I0i (f := fun i j => i + j) (ed_var rfl (.int _)) (ed_var rfl (.int _))) ed_ci (by decide)) ed_ci)) (decide_eq_false (by omega))) fun _ => et_is (dt_test (ed_neI (ed_call (ds := [.int (m : Int), .int (n : Int)]) (by walk_at "ea") ⟨m, n, rfl, rfl⟩) ed_ci)) ?_
      · rw [decide_eq_true (show (n : Int) < (m : Int) by omega), decide_eq_true (show (0 : Int) < (n : Int) by omega)]
        rfl
      · rw [s4]
        rfl
    generalize hy : c3 (triN m n k) = Y at h1
    refine q_unp (ed_call (ds := [.int (m : Int), .int (n : Int), .int (k : Int)]) (d := t3 Y) (by walk_at "ea") ⟨m, n, k, rfl, s2, by omega, by omega, by rw [hy]⟩) fun v5 H5 e5 rv5 => g_unp3 (d1 := .int Y.1) (d2 := .int Y.2.1) (d3 := .int Y.2.2) rv5 fun x y z i1 i2 i3 => ?_
    cases dp_int i1
    cases dp_int i2
    cases dp_int i3
    have eH := (((e1.trans e2).trans e3).trans e4).trans e5
    refine s_retD (d := .bool true) (ed_is (ed_eqD (a := t3 (back3 Y)) (b := t3 (back3 Y)) (ed_tup (da_cons (ed_var rfl (.int _)) (da_cons (ed_var rfl (.int _)) (da_cons (ed_var rfl (.int _)) da_nil))) (le_lit rfl)) (ed_var rfl (dp_mono eH h1)) rfl rfl) ?_) fun v H6 e6 r => q v H6 (eH.trans e6) r
    exact congrArg PyData.bool (PySem.SeqAt.eqv_refl (t3 (back3 Y)) rfl)
/-- law's question of a walk made from a source -/
theorem ed_srcQ (T : Txt K mg) {σ : L2.St} {H : Hp} {t1 t2 : TE} {E1 E2 : XK} {m n k : Nat} (S : Src m n) (hk : 1 ≤ k) (hc : k * (m * m + n * n) ≤ 10000) (h1 : EvD t1 σ H (t3 (back3 (c3 (triN m n k))))) (h2 : EvD t2 σ H (t3 (back3 (c3 (triN m n k))))) :
    EvD (tCall (spR rSrcR) [] E1 (tCons t1 (tCons (tCall (spR rSource) [] E2 (tCons t2 tNil)) tNil))) σ H (.bool true) :=
  ed_call (ds := [t3 (back3 (c3 (triN m n k))), t3 ((m : Int), (n : Int), (k : Int))]) (da_cons h1 (da_cons (ed_call (ds := [t3 (back3 (c3 (triN m n k)))]) (da_cons h2 da_nil) ⟨m, n, k, rfl, S, hk, hc, rfl⟩) da_nil)) ⟨m, n, k, rfl, S, hk, hc, rfl⟩
end
end Sq
namespace Sq
theorem walks_4 : walksL 4 = [] := by
  unfold walksL
  rw [walkN_eq]
  decide +kernel
theorem walks_5 : walksL 5 = [(3, 4, 5)] := by
  unfold walksL
  rw [walkN_eq]
  decide +kernel
theorem tri_80 : triN 80 1 1 = (6401, 160, 6399) := by decide +kernel
section
variable {P : Program} {w : World} {K : PySem.W.Frag} {mg : Str → Option Value} {base : Heap}
def spLaw (K : PySem.W.Frag) : Sp := fun vs H Q _ => ∃ (a : Addr) (ns : List Int), vs = [.ref a] ∧ SqL K H a (ns.map V.int) ∧ ns.length ≤ 63 ∧ ∀ H', Q (.bl true) H'
def mostOf (c : Int) : Int := if (draw c 2 4 != 0) = true then draw c 1 61 else draw c 3 301
theorem mostOf_bd (c : Int) : 0 ≤ mostOf c ∧ mostOf c ≤ 300 := by
  have h1 : 0 ≤ draw c 1 61 ∧ draw c 1 61 < 61 := ⟨draw_nonneg (by decide), draw_lt (by decide)⟩
  have h3 : 0 ≤ draw c 3 301 ∧ draw c 3 301 < 301 := ⟨draw_nonneg (by decide), draw_lt (by decide)⟩
  unfold mostOf
  split <;> omega
theorem ok_law (T : Txt K mg) : FnOk P w K mg base CX0 4 T.a_law T.d_law ["_law_script"] (spLaw K) := by
  refine T.F_law.ok sc_law (fun vs H Q E h => ?_) (fun cdv A outer s H vs Q E hr h => ?_)
  · obtain ⟨a, ns, rfl, _⟩ := h
    rfl
  · obtain ⟨a, ns, rfl, hS, hlen, q⟩ := h
    refine ⟨_, (pss_cons (ps_set (i := 1) sc_law.nd rfl (Or.inl rfl) (pe_call (ok_law_cell_at T) (hr.mono (by decide)) (by rfl) T.g_law_cell_at T.F_law_cell_at.kp T.b_law_cell_at .nil pass0 (pa_cons (pv 0) (pa_cons pe_int pa_nil)))) (pss_cons (ps_set (i := 2) sc_law.nd rfl (Or.inl rfl) (pe_ifExp (pt_truth (pe_call (ok_law_draw T) (hr.mono (by decide)) (by rfl) T.g_law_draw T.F_law_draw.kp T.b_law_draw .nil pass0 (pa_cons (pv 1) (pa_cons pe_int (pa_cons pe_int pa_nil)))) (by intro _; rfl)) (pe_call (ok_law_draw T) (hr.mono (by decide)) (by rfl) T.g_law_draw T.F_law_draw.kp T.b_law_draw .nil pass0 (pa_cons (pv 1) (pa_cons pe_int (pa_cons pe_int pa_nil)))) (pe_call (ok_law_draw T) (hr.mono (by decide)) (by rfl) T.g_law_draw T.F_law_draw.kp T.b_law_draw .nil pass0 (pa_cons (pv 1) (pa_cons pe_int (pa_cons pe_int pa_nil)))))) (pss_cons (ps_set (i := 3) sc_law.nd rfl (Or.inl rfl) (pe_ifExp (pt_cmpR op_lt (pv 2) pe_int (nomark _)) (pe_call (ok_law_tried T) (hr.mono (by decide)) (by rfl) T.g_law_tried T.F_law_tried.kp T.b_law_tried .nil pass0 (pa_cons (pv 2) pa_nil)) (pe_call (ok_law_sources T) (hr.mono (by decide)) (by rfl) T.g_law_sources T.F_law_sources.kp T.b_law_sources .nil pass0 (pa_cons (pv 2) pa_nil)))) (pss_cons (ps_for PassesOwn.never rfl (pi_range1 rfl T.z_range (pa_cons pe_int pa_nil)) (pg_name (i := 4) sc_law.nd rfl (Or.inl rfl)) (pss_cons (ps_set (i := 5) sc_law.nd rfl (Or.inl rfl) (pe_call (ok_walks T) (hr.mono (by decide)) (by rfl) T.g_walks T.F_walks.kp T.b_walks .nil pass0 (pa_cons (pv 2) pa_nil))) (pss_cons (ps_setLc (i := 9) (own := [("_law_third", 6), ("_law_one", 7), ("_law_other", 8)]) (g := gTup K 3 (gCons (gName 6) (gCons (gName 7) (gCons (gName 8) gNil)))) rfl sc_law.nd rfl rfl (sw_true rfl rfl rfl (by decide +kernel)) (pilQ (K := K) (pv 3)) (blkOk_by (N := ["_law_script", "_law_cell", "_law_most", "_law_due", "_law_again", "_law_found", "_law_third", "_law_one", "_law_other", "_law_wanted", "_law_walk", "_law_at", "_law_more", "_law_m", "_law_n"]) (sc := defScope s_law) (by decide +kernel)) (fun _ _ _ _ _ => (pg_tup rfl (pgs_cons (pg_name (i := 6) sc_law.nd rfl (Or.inl rfl)) (pgs_cons (pg_name (i := 7) sc_law.nd rfl (Or.inl rfl)) (pgs_cons (pg_name (i := 8) sc_law.nd rfl (Or.inl rfl)) pgs_nil))))) (fun _ _ _ _ _ => pts_nil) (fun _ _ _ _ _ => (pe_tup (pa_cons (pv 7) (pa_cons (pv 8) (pa_cons (pv 6) pa_nil)))))) (pss_cons (ps_if (PW.pt (pw_or (pt_not (pt_val (pe_callB (isiQ (K := K)) (by rfl) T.z_isinstance (by decide +kernel) (pa_cons (pv 5) (pa_cons (pe_bltn (v := .ty "list") (by rfl) T.z_list (by decide +kernel) rfl) pa_nil))))) (pw_or1 (pt_cmpR (nedQ (K := K) hr.units) (pv 5) (pv 9) (nomark _))))) (pss_one (ps_ret pe_bl)) pss_nil) (pss_one (ps_expr (pe_bm PySem.F.plainAttrs_list PySem.F.slot_list_append PySem.F.type_list_append mt_append (pv 5) (pa_cons (pe_tup pa_nil) pa_nil)))))))) (pss_cons (ps_for PassesOwn.never rfl (pilQ (K := K) (pe_op op_cat (pe_slice (sllQ (K := K)) (pv 3) po_none (po_some pe_int)) (pe_slice (sllQ (K := K)) (pv 3) (po_some (pe_un un_neg pe_int)) po_none))) (pg_tup rfl (pgs_cons (pg_name (i := 6) sc_law.nd rfl (Or.inl rfl)) (pgs_cons (pg_name (i := 7) sc_law.nd rfl (Or.inl rfl)) (pgs_cons (pg_name (i := 8) sc_law.nd rfl (Or.inl rfl)) pgs_nil)))) (pss_cons (ps_set (i := 10) sc_law.nd rfl (Or.inl rfl) (pe_tup (pa_cons (pv 7) (pa_cons (pv 8) (pa_cons (pv 6) pa_nil))))) (pss_one (ps_if (pt_not (pt_val (pe_call (ok_law_source_right T) (hr.mono (by decide)) (by rfl) T.g_law_source_right T.F_law_source_right.kp T.b_law_source_right .nil pass0 (pa_cons (pv 10) (pa_cons (pe_call (ok_source T) (hr.mono (by decide)) (by rfl) T.g_source T.F_source.kp T.b_source .nil pass0 (pa_cons (pv 10) pa_nil)) pa_nil))))) (pss_one (ps_ret pe_bl)) pss_nil)))) (pss_cons (ps_for PassesOwn.never rfl (pi_range1 rfl T.z_range (pa_cons pe_int pa_nil)) (pg_name (i := 11) sc_law.nd rfl (Or.inl rfl)) (pss_cons (ps_set (i := 12) sc_law.nd rfl (Or.inl rfl) (pe_op op_add (pe_call (ok_law_cell_at T) (hr.mono (by decide)) (by rfl) T.g_law_cell_at T.F_law_cell_at.kp T.b_law_cell_at .nil pass0 (pa_cons (pv 0) (pa_cons (pe_op op_add pe_int (pv 11)) pa_nil))) (pe_op op_mul pe_int (pv 11)))) (pss_cons (ps_set (i := 13) sc_law.nd rfl (Or.inl rfl) (pe_op op_add pe_int (pe_call (ok_law_draw T) (hr.mono (by decide)) (by rfl) T.g_law_draw T.F_law_draw.kp T.b_law_draw .nil pass0 (pa_cons (pv 12) (pa_cons pe_int (pa_cons pe_int pa_nil)))))) (pss_cons (ps_set (i := 14) sc_law.nd rfl (Or.inl rfl) (pe_op op_add pe_int (pe_call (ok_law_draw T) (hr.mono (by decide)) (by rfl) T.g_law_draw T.F_law_draw.kp T.b_law_draw .nil pass0 (pa_cons (pv 12) (pa_cons pe_int (pa_cons (pe_op op_sub (pv 13) pe_int) pa_nil)))))) (pss_cons (ps_while PassesOwn.never (PW.pt (pw_and (pt_cmpR op_gt (pe_op op_add (pe_op op_mul (pv 13) (pv 13)) (pe_op op_mul (pv 14) (pv 14))) pe_int (nomark _)) (pw_and1 (pt_cmpR op_gt (pv 14) pe_int (nomark _))))) (pss_one (ps_set (i := 14) sc_law.nd rfl (Or.inl rfl) (pe_op op_fdiv (pv 14) pe_int)))) (pss_cons (ps_if (pt_cmpR op_eqI (pe_op op_mod (pe_op op_add (pv 13) (pv 14)) pe_int) pe_int (nomark _)) (pss_one (ps_set (i := 14) sc_law.nd rfl (Or.inl rfl) (pe_op op_add (pv 14) pe_int))) pss_nil) (pss_cons (ps_asg (pe_call (ok_law_made T) (hr.mono (by decide)) (by rfl) T.g_law_made T.F_law_made.kp T.b_law_made .nil pass0 (pa_cons (pv 13) (pa_cons (pv 14) (pa_cons (pe_op op_add pe_int (pe_call (ok_law_draw T) (hr.mono (by decide)) (by rfl) T.g_law_draw T.F_law_draw.kp T.b_law_draw .nil pass0 (pa_cons (pv 12) (pa_cons pe_int (pa_cons (pe_callB (call_max2 rfl) (by rfl) T.z_max (by decide +kernel) (pa_cons pe_int (pa_cons (pe_op op_fdiv pe_int (pe_op op_add (pe_op op_mul (pv 13) (pv 13)) (pe_op op_mul (pv 14) (pv 14)))) pa_nil))) pa_nil))))) pa_nil)))) (pg_tup rfl (pgs_cons (pg_name (i := 6) sc_law.nd rfl (Or.inl rfl)) (pgs_cons (pg_name (i := 7) sc_law.nd rfl (Or.inl rfl)) (pgs_cons (pg_name (i := 8) sc_law.nd rfl (Or.inl rfl)) pgs_nil))))) (pss_cons (ps_set (i := 10) sc_law.nd rfl (Or.inl rfl) (pe_tup (pa_cons (pv 7) (pa_cons (pv 8) (pa_cons (pv 6) pa_nil))))) (pss_one (ps_if (PW.pt (pw_and (pt_cmpR op_le (pv 6) pe_int (nomark _)) (pw_and1 (pt_not (pt_val (pe_call (ok_law_source_right T) (hr.mono (by decide)) (by rfl) T.g_law_source_right T.F_law_source_right.kp T.b_law_source_right .nil pass0 (pa_cons (pv 10) (pa_cons (pe_call (ok_source T) (hr.mono (by decide)) (by rfl) T.g_source T.F_source.kp T.b_source .nil pass0 (pa_cons (pv 10) pa_nil)) pa_nil)))))))) (pss_one (ps_ret pe_bl)) pss_nil)))))))))) (pss_cons (ps_if (pt_not (pt_val (pe_call (ok_law_source_right T) (hr.mono (by decide)) (by rfl) T.g_law_source_right T.F_law_source_right.kp T.b_law_source_right .nil pass0 (pa_cons (pe_tup (pa_cons pe_int (pa_cons pe_int (pa_cons pe_int pa_nil)))) (pa_cons (pe_call (ok_source T) (hr.mono (by decide)) (by rfl) T.g_source T.F_source.kp T.b_source .nil pass0 (pa_cons (pe_tup (pa_cons pe_int (pa_cons pe_int (pa_cons pe_int pa_nil)))) pa_nil)) pa_nil))))) (pss_one (ps_ret pe_bl)) pss_nil) (pss_one (ps_ret (pe_and (pe_cmpR (eqdQ (K := K) hr.units) (pe_call (ok_walks T) (hr.mono (by decide)) (by rfl) T.g_walks T.F_walks.kp T.b_walks .nil pass0 (pa_cons pe_int pa_nil)) (pe_lst pa_nil) (nomark _)) (pe_one (pe_cmpR (eqdQ (K := K) hr.units) (pe_call (ok_walks T) (hr.mono (by decide)) (by rfl) T.g_walks T.F_walks.kp T.b_walks .nil pass0 (pa_cons pe_int pa_nil)) (pe_lst (pa_cons (pe_tup (pa_cons pe_int (pa_cons pe_int (pa_cons pe_int pa_nil)))) pa_nil)) (nomark _))))))))))))), ?_⟩
    refine q_asgI (n := cellAt ns 0) (by walk_at "ev") fun H1 e1 => ?_
    have hbM := mostOf_bd (cellAt ns 0)
    refine q_asgI (n := mostOf (cellAt ns 0)) (ed_if (b := draw (cellAt ns 0) 2 4 != 0) (dt_truI (by walk_at "ev")) (fun h => ?_) (fun h => ?_)) fun H2 e2 => ?_
    · rw [show mostOf (cellAt ns 0) = draw (cellAt ns 0) 1 61 from if_pos h]
      walk_at "ev"
    · rw [show mostOf (cellAt ns 0) = draw (cellAt ns 0) 3 301 from if_neg (by rw [h]; decide)]
      walk_at "ev"
    obtain ⟨M, hM⟩ := Int.eq_ofNat_of_zero_le hbM.1
    rw [hM] at hbM ⊢
    generalize cellAt ns 0 = c0
    have hM300 : M ≤ 300 := by omega
    have hWl := walkN_len hM300
    refine q_asgD (d := .list (((walkN M).map c3).map t3)) (ed_if (b := decide ((M : Int) < 61)) (dt_test (ed_I0b (f := fun i j => decide (i < j)) (ed_var rfl (.int _)) ed_ci)) (fun h => ?_) (fun h => ?_)) fun v3 H3 e3 r3 => ?_
    · have h60 : M ≤ 60 := by have := of_decide_eq_true h; omega
      exact ed_is (ed_call (ds := [.int (M : Int)]) (by walk_at "ea") ⟨M, rfl, h60, rfl⟩) (by rw [tried_walk h60])
    · exact ed_call (ds := [.int (M : Int)]) (by walk_at "ea") ⟨M, rfl, hM300, rfl⟩
    have eB := (e1.trans e2).trans e3
    -- twice all walks
    refine q_forR1 (n := 2) (ea1 (by walk_at "ea")) (by decide) (fun i σ' H' => Ex H3 H' ∧ ∃ y4 y5 y9, σ' = [some (.ref a), some (.int c0), some (.int (M : Int)), some v3, y4, y5, none, none, none, y9, none, none, none, none, none])
      (fun H4 e4 => ⟨e4, none, none, none, rfl⟩) ?_ ?_
    · rintro i σ' H' hi ⟨e0, y4, y5, y9, rfl⟩
      dsimp only [List.set]
      refine q_asgG (ds := [.int (M : Int)]) (by walk_at "ea") ⟨M, rfl, hM300, rfl⟩ fun p H5 hp e5 gp => ?_
      dsimp only [List.set]
      refine q_asgEG (eg_lc3 (K := K) (i := 6) (j := 7) (l := 8) (vs := [6, 7, 8]) (te := tTup (tCons (tVar 7) (tCons (tVar 8) (tCons (tVar 6) tNil)))) (ts := (walkN M).map c3) (fun x => t3 (back3 x)) (ed_var rfl (dp_mono (e0.trans e5) r3)) (by rw [List.length_map]; omega) (by intro _ _ _; rfl) ?_ (fun _ _ => rfl)) fun p2 H6 hp2 e6 gp2 => ?_
      · intro x H6 e6 hx
        exact ed_tup (da_cons (ed_var rfl (.int _)) (da_cons (ed_var rfl (.int _)) (da_cons (ed_var rfl (.int _)) da_nil))) (le_lit rfl)
      dsimp only [List.set]
      have gp2' : Grows H6 p2 ((walksL M).map t3) := by
        have e : (walksL M).map t3 = ((walkN M).map c3).map fun x => t3 (back3 x) := by
          unfold walksL
          rw [List.map_map (g := t3)]
          rfl
        rw [e]
        exact gp2
      refine q_when (b := false) ?_ (fun z => nomatch z) fun _ H7 e7 => ?_
      · refine et_or (a := false) (b := false) (et_not (a := true) (dt_B (ed_isi (ed_var rfl (gp.ex e6).rp) (kit_list _)))) fun _ => et_is (dt_test (ed_neD (ed_var rfl (gp.ex e6).rp) (ed_var rfl gp2'.rp) (shaped_t3 _) (shaped_t3 _))) ?_
        rw [PySem.SeqAt.eqv_refl _ (lay_t3 _)]
        rfl
      refine s_appG (d := .tuple []) ((gp.ex e6).ex e7) (ev_var rfl) (ed_tup da_nil (le_lit rfl)) rfl ?_ fun H8 g8 b8 => ⟨b8 H3 (((e0.trans e5).trans e6).trans e7) (fresh_back e0 hp), _, _, _, rfl⟩
      have : ((walksL M).map t3).length = (walkN M).length := by
        unfold walksL
        simp only [List.length_map]
      omega
    rintro σ' HB ⟨e0, y4, y5, y9, rfl⟩
    -- the sources of some
    have r3B := dp_mono e0 r3
    refine q_forLD (ds := cutD (((walkN M).map c3).map t3) none (some 4) ++ cutD (((walkN M).map c3).map t3) (some (-4)) none)
      (ed_cat (ed_sl (ed_var rfl r3B) eo_none (eo_some (ev_int ed_ci))) (ed_sl (ed_var rfl r3B) (eo_some (ev_int (ed_neg ed_ci))) eo_none) ?_)
      (fun _ σ' H' => ∃ y6 y7 y8 y10, σ' = [some (.ref a), some (.int c0), some (.int (M : Int)), some v3, y4, y5, y6, y7, y8, y9, y10, none, none, none, none]) (fun H4 e4 => ⟨_, _, _, _, rfl⟩) ?_ ?_
    · have l1 := cutD_len (((walkN M).map c3).map t3) none (some 4)
      have l2 := cutD_len (((walkN M).map c3).map t3) (some (-4)) none
      simp only [List.length_map] at l1 l2
      omega
    · rintro j d u σ' H' N hd e4 rd ⟨y6, y7, y8, y10, rfl⟩ hN
      have hm : d ∈ ((walkN M).map c3).map t3 := by
        rcases List.mem_append.mp (List.mem_of_getElem? hd) with h | h
        · exact cutD_mem h
        · exact cutD_mem h
      obtain ⟨z, hz, rfl⟩ := List.mem_map.mp hm
      obtain ⟨x, hx, rfl⟩ := List.mem_map.mp hz
      obtain ⟨m, n, k, S, hk, hkm, rfl⟩ := walkN_mem hx
      obtain ⟨Y, hY⟩ : ∃ Y, Y = c3 (triN m n k) := ⟨_, rfl⟩
      rw [← hY] at rd
      refine g_unp3 (d1 := .int Y.1) (d2 := .int Y.2.1) (d3 := .int Y.2.2) rd fun u1 u2 u3 r1 r2 r3' => ?_
      cases dp_int r1
      cases dp_int r2
      cases dp_int r3'
      dsimp only [List.set]
      show tSeq _ _ _ _ _
      refine q_asgD (d := t3 (back3 Y)) (ed_tup (da_cons (ed_var rfl (.int _)) (da_cons (ed_var rfl (.int _)) (da_cons (ed_var rfl (.int _)) da_nil))) (le_lit rfl)) fun v5 H5 e5 r5 => ?_
      dsimp only [List.set]
      rw [hY] at r5
      refine s_when (b := false) (et_not (a := true) (dt_B (ed_srcQ T S hk (by omega) (ed_var rfl r5) (ed_var rfl r5)))) (fun z => nomatch z) fun _ H6 e6 => ?_
      exact hN _ _ (e5.trans e6) ⟨_, _, _, _, rfl⟩
    rintro σ' HC eC ⟨y6, y7, y8, y10, rfl⟩
    -- drawn ones
    have eHC : Ex H HC := (eB.trans e0).trans eC
    refine q_forR1 (n := 3) (ea1 (by walk_at "ea")) (by decide) (fun i σ' H' => Ex H H' ∧ ∃ y6 y7 y8 y10 y11 y12 y13 y14, σ' = [some (.ref a), some (.int c0), some (.int (M : Int)), some v3, y4, y5, y6, y7, y8, y9, y10, y11, y12, y13, y14])
      (fun H4 e4 => ⟨eHC.trans e4, _, _, _, _, _, _, _, _, rfl⟩) ?_ ?_
    · rintro i σ' H' hi ⟨e4, z6, z7, z8, z10, z11, z12, z13, z14, rfl⟩
      dsimp only [List.set]
      have hS' := ex_l e4 hS
      refine q_asgI (n := cellAt ns (1 + (i : Int)) + 977 * (i : Int)) (by walk_at "ev") fun H5 e5 => ?_
      dsimp only [List.set]
      generalize cellAt ns (1 + (i : Int)) + 977 * (i : Int) = more
      have b98 : 0 ≤ draw more 1 98 ∧ draw more 1 98 < 98 := ⟨draw_nonneg (by decide), draw_lt (by decide)⟩
      refine q_asgI (n := 2 + draw more 1 98) (by walk_at "ev") fun H6 e6 => ?_
      dsimp only [List.set]
      obtain ⟨m, hm⟩ := Int.eq_ofNat_of_zero_le (show 0 ≤ 2 + draw more 1 98 by omega)
      rw [hm]
      have hm2 : 2 ≤ m ∧ m ≤ 99 := by omega
      have bn : 0 ≤ draw more 2 ((m : Int) - 1) ∧ draw more 2 ((m : Int) - 1) < (m : Int) - 1 := ⟨draw_nonneg (by omega), draw_lt (by omega)⟩
      refine q_asgI (n := 1 + draw more 2 ((m : Int) - 1)) (ed_I0i (f := fun i j => i + j) ed_ci (ed_call (ds := [.int more, .int 2, .int ((m : Int) - 1)]) (by walk_at "ea") ⟨_, _, _, rfl, by decide, by omega, rfl⟩)) fun H7 e7 => ?_
      dsimp only [List.set]
      obtain ⟨n0, hn0⟩ := Int.eq_ofNat_of_zero_le (show 0 ≤ 1 + draw more 2 ((m : Int) - 1) by omega)
      rw [hn0]
      have hn1 : 1 ≤ n0 ∧ n0 < m := by omega
      clear hn0 bn hm b98
      have hmm : m * m ≤ 99 * 99 := mulN_le hm2.2 hm2.2
      have emm : (m : Int) * (m : Int) = ((m * m : Nat) : Int) := rfl
      have e47 : Ex H H7 := ((e4.trans e5).trans e6).trans e7
      refine q_while (fun μ σ' H' => Ex H H' ∧ ∃ n : Nat, σ' = [some (.ref a), some (.int c0), some (.int (M : Int)), some v3, y4, y5, z6, z7, z8, y9, z10, some (.int (i : Int)), some (.int more), some (.int (m : Int)), some (.int (n : Int))] ∧ 1 ≤ n ∧ n < m ∧ μ = n) n0 ⟨e47, n0, rfl, hn1.1, hn1.2, rfl⟩ ?_
      rintro μ σ' H' ⟨e8, n, rfl, n1, nm, hμ⟩
      have hnn : n * n ≤ 99 * 99 := mulN_le (by omega) (by omega)
      have enn : (n : Int) * (n : Int) = ((n * n : Nat) : Int) := rfl
      refine ⟨decide (10000 < (m : Int) * (m : Int) + (n : Int) * (n : Int)) && decide (1 < (n : Int)), ?_, fun hb H9 e9 => ?_, fun hb H9 e9 => ?_⟩
      · exact et_and (dt_test (ed_I0b (f := fun i j => decide (j < i)) (ed_I0i (f := fun i j => i + j) (ed_mul (ed_var rfl (.int (m : Int))) (ed_var rfl (.int (m : Int))) (by omega)) (ed_mul (ed_var rfl (.int (n : Int))) (ed_var rfl (.int (n : Int))) (by omega))) ed_ci)) fun _ => dt_test (ed_I0b (f := fun i j => decide (j < i)) (ed_var rfl (.int (n : Int))) ed_ci)
      · have b2 := of_decide_eq_true (Bool.and_eq_true_iff.mp hb).2
        refine ⟨fun σ' H' => Ex H H' ∧ σ' = [some (.ref a), some (.int c0), some (.int (M : Int)), some v3, y4, y5, z6, z7, z8, y9, z10, some (.int (i : Int)), some (.int more), some (.int (m : Int)), some (.int ((n / 2 : Nat) : Int))], fun σ2 H2 ⟨e, h⟩ => ⟨n / 2, by omega, e, n / 2, h, by omega, by omega, rfl⟩, ?_⟩
        exact s_asgI (n := ((n / 2 : Nat) : Int)) (ed_is (ed_fdiv (ed_var rfl (.int (n : Int))) ed_ci ⟨by decide, by decide⟩) (congrArg PyData.int (show (n : Int) / 2 = ((n / 2 : Nat) : Int) by omega))) fun H10 e10 => ⟨(e8.trans e9).trans e10, rfl⟩
      · -- behind the while
        obtain ⟨n', hn', hn'1, hn'm, hod⟩ : ∃ n', n' = (if (m + n) % 2 = 0 then n + 1 else n) ∧ 1 ≤ n' ∧ n' < m ∧ (m + n') % 2 = 1 := by
          by_cases h : (m + n) % 2 = 0
          · exact ⟨n + 1, by rw [if_pos h], by omega, by omega, by omega⟩
          · exact ⟨n, by rw [if_neg h], by omega, by omega, by omega⟩
        refine q_ifAsg (b := decide (((m : Int) + (n : Int)) % 2 = 0)) (v := .int (n' : Int)) (dt_test (ed_eqI (ed_mod (ed_I0i (f := fun i j => i + j) (ed_var rfl (.int _)) (ed_var rfl (.int _))) ed_ci (by decide)) ed_ci)) (fun hb2 => ?_) (fun hb2 => ?_) fun H10 e10 => ?_
        · have hb3 := of_decide_eq_true hb2
          rw [if_pos (by omega)] at hn'
          exact ev_int (ed_is (ed_I0i (f := fun i j => i + j) (ed_var rfl (.int (n : Int))) ed_ci) (congrArg PyData.int (show (n : Int) + 1 = (n' : Int) by omega)))
        · have hb3 := of_decide_eq_false hb2
          rw [if_neg (by omega)] at hn'
          rw [hn']
          rfl
        dsimp only [List.set]
        have hnn' : n' * n' ≤ 99 * 99 := mulN_le (by omega) (by omega)
        have hm4 : 2 * 2 ≤ m * m := mulN_le hm2.1 hm2.1
        have eT : EvD (tOp (rI0 fun i j => .int (i + j)) (tOp (rI CMul fun i j => .int (i * j)) (tVar 13) (tVar 13)) (tOp (rI CMul fun i j => .int (i * j)) (tVar 14) (tVar 14))) [some (.ref a), some (.int c0), some (.int (M : Int)), some v3, y4, y5, z6, z7, z8, y9, z10, some (.int (i : Int)), some (.int more), some (.int (m : Int)), some (.int (n' : Int))] H10 (.int ((m * m + n' * n' : Nat) : Int)) :=
          ed_is (ed_I0i (f := fun i j => i + j) (ed_mul (i := (m : Int)) (j := (m : Int)) (ed_var rfl (.int _)) (ed_var rfl (.int _)) (by omega)) (ed_mul (i := (n' : Int)) (j := (n' : Int)) (ed_var rfl (.int _)) (ed_var rfl (.int _)) (by omega))) (congrArg PyData.int (cast_add m n'))
        have hth : 0 < m * m + n' * n' ∧ m * m + n' * n' < 1073741824 := by omega
        obtain ⟨mx, hmx⟩ : ∃ mx : Int, mx = (if (((10000 / (m * m + n' * n') : Nat) : Int)) > 1 then (((10000 / (m * m + n' * n') : Nat) : Int)) else 1) := ⟨_, rfl⟩
        have hq0 : 10000 / (m * m + n' * n') ≤ 10000 := Nat.div_le_self _ _
        have hmb : 1 ≤ mx ∧ mx ≤ 10000 := by
          rw [hmx]
          generalize 10000 / (m * m + n' * n') = q0 at hq0
          split <;> omega
        have bk : 0 ≤ draw more 3 mx ∧ draw more 3 mx < mx := ⟨draw_nonneg (by omega), draw_lt (by omega)⟩
        obtain ⟨k, hk⟩ := Int.eq_ofNat_of_zero_le (show 0 ≤ 1 + draw more 3 mx by omega)
        have eMx : EvD _ [some (.ref a), some (.int c0), some (.int (M : Int)), some v3, y4, y5, z6, z7, z8, y9, z10, some (.int (i : Int)), some (.int more), some (.int (m : Int)), some (.int (n' : Int))] H10 (.int mx) :=
          ed_is (ed_max2 (ta := tC (.int 1)) ed_ci (ed_fdivN (ta := tC (.int 10000)) (i := 10000) (j := m * m + n' * n') ed_ci eT hth.1 hth.2)) (congrArg PyData.int hmx.symm)
        obtain ⟨m1, n1', k1, S, hk1, eT3⟩ := tri_red hn'1 hn'm hod (show 1 ≤ k by omega)
        obtain ⟨Y, hY⟩ : ∃ Y, Y = c3 (triN m n' k) := ⟨_, rfl⟩
        refine q_unp (ed_call (ds := [.int (m : Int), .int (n' : Int), .int (k : Int)]) (d := t3 Y) (da_cons (ed_var rfl (.int _)) (da_cons (ed_var rfl (.int _)) (da_cons (ed_is (ed_I0i (f := fun i j => i + j) ed_ci (ed_call (ds := [.int more, .int 3, .int mx]) (da_cons (ed_var rfl (.int _)) (da_cons ed_ci (da_cons eMx da_nil))) ⟨_, _, _, rfl, by decide, by omega, rfl⟩)) (congrArg PyData.int hk)) da_nil))) ⟨m, n', k, rfl, hn'm, by omega, by omega, by rw [hY]⟩) fun v11 H11 e11 r11 => ?_
        refine g_unp3 (d1 := .int Y.1) (d2 := .int Y.2.1) (d3 := .int Y.2.2) r11 fun u1 u2 u3 r1 r2 r3' => ?_
        cases dp_int r1
        cases dp_int r2
        cases dp_int r3'
        dsimp only [List.set]
        refine q_asgD (d := t3 (back3 Y)) (ed_tup (da_cons (ed_var rfl (.int _)) (da_cons (ed_var rfl (.int _)) (da_cons (ed_var rfl (.int _)) da_nil))) (le_lit rfl)) fun v12 H12 e12 r12 => ?_
        dsimp only [List.set]
        have eEnd := (((e8.trans e9).trans e10).trans e11).trans e12
        have eY1 : Y.1 = ((k1 * (m1 * m1 + n1' * n1') : Nat) : Int) := by
          rw [hY, eT3]
          rfl
        refine s_when (b := false) ?_ (fun z => nomatch z) (fun _ H13 e13 => ⟨eEnd.trans e13, _, _, _, _, _, _, _, _, rfl⟩)
        by_cases h : Y.1 ≤ 10000
        · refine et_and (a := true) (b := false) (et_is (dt_test (ed_I0b (f := fun i j => decide (i ≤ j)) (ed_var rfl (.int _)) ed_ci)) (decide_eq_true h)) fun _ => ?_
          rw [hY, eT3] at r12
          exact et_not (a := true) (dt_B (ed_srcQ T S hk1 (by omega) (ed_var rfl r12) (ed_var rfl r12)))
        · exact et_and (a := false) (b := false) (et_is (dt_test (ed_I0b (f := fun i j => decide (i ≤ j)) (ed_var rfl (.int _)) ed_ci)) (decide_eq_false h)) fun z => nomatch z
    rintro σ' HD ⟨eD, z6, z7, z8, z10, z11, z12, z13, z14, rfl⟩
    -- outright
    have S80 : Src 80 1 := ⟨by decide, by decide, by decide, by decide⟩
    have e80 : ∀ {σ : L2.St} {Hx : Hp}, EvD (tTup (tCons (tC (.int 160)) (tCons (tC (.int 6399)) (tCons (tC (.int 6401)) tNil)))) σ Hx (t3 (back3 (c3 (triN 80 1 1)))) := ed_is (ed_tup (da_cons ed_ci (da_cons ed_ci (da_cons ed_ci da_nil))) (le_lit rfl)) (by rw [tri_80]; rfl)
    refine q_when (b := false) (et_not (a := true) (dt_B (ed_srcQ T S80 (by decide) (by decide) e80 e80))) (fun z => nomatch z) fun _ H5 e5 => ?_
    refine s_retD (d := .bool true) (ed_and (a := true) (b := true) (ed_is (ed_eqD (a := .list ((walksL 4).map t3)) (b := .list []) (ed_callG (ds := [.int 4]) (by walk_at "ea") ⟨4, rfl, by decide, rfl⟩) (ed_lst da_nil (le_lit rfl)) (shaped_t3 _) rfl) (by rw [walks_4]; rfl)) fun _ =>
      ed_is (ed_eqD (a := .list ((walksL 5).map t3)) (b := .list [t3 (3, 4, 5)]) (ed_callG (ds := [.int 5]) (by walk_at "ea") ⟨5, rfl, by decide, rfl⟩) (ed_lst (da_cons (ed_tup (da_cons ed_ci (da_cons ed_ci (da_cons ed_ci da_nil))) (le_lit rfl)) da_nil) (le_lit rfl)) (shaped_t3 _) rfl) (by rw [walks_5]; rfl)) fun v H6 e6 r => by
        cases dp_bl r
        exact q H6
end
end Sq
namespace Sq
open PySem PySem.Spec PyProof.Rows L2 Evl
theorem all_mk {l : PySem.W.OpenLaw} {w : World} {K : PySem.W.Frag} {h : Heap} {mg : Str → Option Value} {fa : Addr} (X : K.In h) (G : h.Ns mainGlobals mg) (hfa : mg "law" = some (.ref fa))
    {a_is_number : Addr} {od_is_number an_is_number : Option Addr} {sl_is_number : Array (Option Value)} {oc_is_number kV_is_number dc_is_number pm_is_number cd_is_number ct_is_number : Value}
    {a_check_number : Addr} {od_check_number an_check_number : Option Addr} {sl_check_number : Array (Option Value)} {oc_check_number kV_check_number dc_check_number pm_check_number cd_check_number ct_check_number : Value}
    {a_floor_root : Addr} {od_floor_root an_floor_root : Option Addr} {sl_floor_root : Array (Option Value)} {oc_floor_root kV_floor_root dc_floor_root pm_floor_root cd_floor_root ct_floor_root : Value}
    {a_common : Addr} {od_common an_common : Option Addr} {sl_common : Array (Option Value)} {oc_common kV_common dc_common pm_common cd_common ct_common : Value}
    {a_walks : Addr} {od_walks an_walks : Option Addr} {sl_walks : Array (Option Value)} {oc_walks kV_walks dc_walks pm_walks cd_walks ct_walks : Value}
    {a_from_source : Addr} {od_from_source an_from_source : Option Addr} {sl_from_source : Array (Option Value)} {oc_from_source kV_from_source dc_from_source pm_from_source cd_from_source ct_from_source : Value}
    {a_source : Addr} {od_source an_source : Option Addr} {sl_source : Array (Option Value)} {oc_source kV_source dc_source pm_source cd_source ct_source : Value}
    {a_law_cell_at : Addr} {od_law_cell_at an_law_cell_at : Option Addr} {sl_law_cell_at : Array (Option Value)} {oc_law_cell_at kV_law_cell_at dc_law_cell_at pm_law_cell_at cd_law_cell_at ct_law_cell_at : Value}
    {a_law_draw : Addr} {od_law_draw an_law_draw : Option Addr} {sl_law_draw : Array (Option Value)} {oc_law_draw kV_law_draw dc_law_draw pm_law_draw cd_law_draw ct_law_draw : Value}
    {a_law_common : Addr} {od_law_common an_law_common : Option Addr} {sl_law_common : Array (Option Value)} {oc_law_common kV_law_common dc_law_common pm_law_common cd_law_common ct_law_common : Value}
    {a_law_tried : Addr} {od_law_tried an_law_tried : Option Addr} {sl_law_tried : Array (Option Value)} {oc_law_tried kV_law_tried dc_law_tried pm_law_tried cd_law_tried ct_law_tried : Value}
    {a_law_made : Addr} {od_law_made an_law_made : Option Addr} {sl_law_made : Array (Option Value)} {oc_law_made kV_law_made dc_law_made pm_law_made cd_law_made ct_law_made : Value}
    {a_law_sources : Addr} {od_law_sources an_law_sources : Option Addr} {sl_law_sources : Array (Option Value)} {oc_law_sources kV_law_sources dc_law_sources pm_law_sources cd_law_sources ct_law_sources : Value}
    {a_law_source_right : Addr} {od_law_source_right an_law_source_right : Option Addr} {sl_law_source_right : Array (Option Value)} {oc_law_source_right kV_law_source_right dc_law_source_right pm_law_source_right cd_law_source_right ct_law_source_right : Value}
    {a_law : Addr} {od_law an_law : Option Addr} {sl_law : Array (Option Value)} {oc_law kV_law dc_law pm_law cd_law ct_law : Value}
    {t_GREATEST : Tok}
    {t_LONGEST : Tok}
    (ns_is_number : PySem.W.nsIn K mainGlobals "is_number" = some (some (.ref a_is_number)))
    (lk_is_number : K.lookup a_is_number = some ⟨oc_is_number, od_is_number, .func (PySem.W.fnOf "is_number" "is_number" (defArgs s_is_number) (defBody s_is_number) (defScope s_is_number) .none kV_is_number dc_is_number pm_is_number an_is_number cd_is_number ct_is_number), sl_is_number⟩)
    (co_is_number : PySem.W.codeIn K cd_is_number "is_number" = true)
    (kp_is_number : PySem.W.keepIn K (.ref a_is_number) = true)
    (ns_check_number : PySem.W.nsIn K mainGlobals "check_number" = some (some (.ref a_check_number)))
    (lk_check_number : K.lookup a_check_number = some ⟨oc_check_number, od_check_number, .func (PySem.W.fnOf "check_number" "check_number" (defArgs s_check_number) (defBody s_check_number) (defScope s_check_number) .none kV_check_number dc_check_number pm_check_number an_check_number cd_check_number ct_check_number), sl_check_number⟩)
    (co_check_number : PySem.W.codeIn K cd_check_number "check_number" = true)
    (kp_check_number : PySem.W.keepIn K (.ref a_check_number) = true)
    (ns_floor_root : PySem.W.nsIn K mainGlobals "floor_root" = some (some (.ref a_floor_root)))
    (lk_floor_root : K.lookup a_floor_root = some ⟨oc_floor_root, od_floor_root, .func (PySem.W.fnOf "floor_root" "floor_root" (defArgs s_floor_root) (defBody s_floor_root) (defScope s_floor_root) .none kV_floor_root dc_floor_root pm_floor_root an_floor_root cd_floor_root ct_floor_root), sl_floor_root⟩)
    (co_floor_root : PySem.W.codeIn K cd_floor_root "floor_root" = true)
    (kp_floor_root : PySem.W.keepIn K (.ref a_floor_root) = true)
    (ns_common : PySem.W.nsIn K mainGlobals "common" = some (some (.ref a_common)))
    (lk_common : K.lookup a_common = some ⟨oc_common, od_common, .func (PySem.W.fnOf "common" "common" (defArgs s_common) (defBody s_common) (defScope s_common) .none kV_common dc_common pm_common an_common cd_common ct_common), sl_common⟩)
    (co_common : PySem.W.codeIn K cd_common "common" = true)
    (kp_common : PySem.W.keepIn K (.ref a_common) = true)
    (ns_walks : PySem.W.nsIn K mainGlobals "walks" = some (some (.ref a_walks)))
    (lk_walks : K.lookup a_walks = some ⟨oc_walks, od_walks, .func (PySem.W.fnOf "walks" "walks" (defArgs s_walks) (defBody s_walks) (defScope s_walks) .none kV_walks dc_walks pm_walks an_walks cd_walks ct_walks), sl_walks⟩)
    (co_walks : PySem.W.codeIn K cd_walks "walks" = true)
    (kp_walks : PySem.W.keepIn K (.ref a_walks) = true)
    (ns_from_source : PySem.W.nsIn K mainGlobals "from_source" = some (some (.ref a_from_source)))
    (lk_from_source : K.lookup a_from_source = some ⟨oc_from_source, od_from_source, .func (PySem.W.fnOf "from_source" "from_source" (defArgs s_from_source) (defBody s_from_source) (defScope s_from_source) .none kV_from_source dc_from_source pm_from_source an_from_source cd_from_source ct_from_source), sl_from_source⟩)
    (co_from_source : PySem.W.codeIn K cd_from_source "from_source" = true)
    (kp_from_source : PySem.W.keepIn K (.ref a_from_source) = true)
    (ns_source : PySem.W.nsIn K mainGlobals "source" = some (some (.ref a_source)))
    (lk_source : K.lookup a_source = some ⟨oc_source, od_source, .func (PySem.W.fnOf "source" "source" (defArgs s_source) (defBody s_source) (defScope s_source) .none kV_source dc_source pm_source an_source cd_source ct_source), sl_source⟩)
    (co_source : PySem.W.codeIn K cd_source "source" = true)
    (kp_source : PySem.W.keepIn K (.ref a_source) = true)
    (ns_law_cell_at : PySem.W.nsIn K mainGlobals "_law_cell_at" = some (some (.ref a_law_cell_at)))
    (lk_law_cell_at : K.lookup a_law_cell_at = some ⟨oc_law_cell_at, od_law_cell_at, .func (PySem.W.fnOf "_law_cell_at" "_law_cell_at" (defArgs s_law_cell_at) (defBody s_law_cell_at) (defScope s_law_cell_at) .none kV_law_cell_at dc_law_cell_at pm_law_cell_at an_law_cell_at cd_law_cell_at ct_law_cell_at), sl_law_cell_at⟩)
    (co_law_cell_at : PySem.W.codeIn K cd_law_cell_at "_law_cell_at" = true)
    (kp_law_cell_at : PySem.W.keepIn K (.ref a_law_cell_at) = true)
    (ns_law_draw : PySem.W.nsIn K mainGlobals "_law_draw" = some (some (.ref a_law_draw)))
    (lk_law_draw : K.lookup a_law_draw = some ⟨oc_law_draw, od_law_draw, .func (PySem.W.fnOf "_law_draw" "_law_draw" (defArgs s_law_draw) (defBody s_law_draw) (defScope s_law_draw) .none kV_law_draw dc_law_draw pm_law_draw an_law_draw cd_law_draw ct_law_draw), sl_law_draw⟩)
    (co_law_draw : PySem.W.codeIn K cd_law_draw "_law_draw" = true)
    (kp_law_draw : PySem.W.keepIn K (.ref a_law_draw) = true)
    (ns_law_common : PySem.W.nsIn K mainGlobals "_law_common" = some (some (.ref a_law_common)))
    (lk_law_common : K.lookup a_law_common = some ⟨oc_law_common, od_law_common, .func (PySem.W.fnOf "_law_common" "_law_common" (defArgs s_law_common) (defBody s_law_common) (defScope s_law_common) .none kV_law_common dc_law_common pm_law_common an_law_common cd_law_common ct_law_common), sl_law_common⟩)
    (co_law_common : PySem.W.codeIn K cd_law_common "_law_common" = true)
    (kp_law_common : PySem.W.keepIn K (.ref a_law_common) = true)
    (ns_law_tried : PySem.W.nsIn K mainGlobals "_law_tried" = some (some (.ref a_law_tried)))
    (lk_law_tried : K.lookup a_law_tried = some ⟨oc_law_tried, od_law_tried, .func (PySem.W.fnOf "_law_tried" "_law_tried" (defArgs s_law_tried) (defBody s_law_tried) (defScope s_law_tried) .none kV_law_tried dc_law_tried pm_law_tried an_law_tried cd_law_tried ct_law_tried), sl_law_tried⟩)
    (co_law_tried : PySem.W.codeIn K cd_law_tried "_law_tried" = true)
    (kp_law_tried : PySem.W.keepIn K (.ref a_law_tried) = true)
    (ns_law_made : PySem.W.nsIn K mainGlobals "_law_made" = some (some (.ref a_law_made)))
    (lk_law_made : K.lookup a_law_made = some ⟨oc_law_made, od_law_made, .func (PySem.W.fnOf "_law_made" "_law_made" (defArgs s_law_made) (defBody s_law_made) (defScope s_law_made) .none kV_law_made dc_law_made pm_law_made an_law_made cd_law_made ct_law_made), sl_law_made⟩)
    (co_law_made : PySem.W.codeIn K cd_law_made "_law_made" = true)
    (kp_law_made : PySem.W.keepIn K (.ref a_law_made) = true)
    (ns_law_sources : PySem.W.nsIn K mainGlobals "_law_sources" = some (some (.ref a_law_sources)))
    (lk_law_sources : K.lookup a_law_sources = some ⟨oc_law_sources, od_law_sources, .func (PySem.W.fnOf "_law_sources" "_law_sources" (defArgs s_law_sources) (defBody s_law_sources) (defScope s_law_sources) .none kV_law_sources dc_law_sources pm_law_sources an_law_sources cd_law_sources ct_law_sources), sl_law_sources⟩)
    (co_law_sources : PySem.W.codeIn K cd_law_sources "_law_sources" = true)
    (kp_law_sources : PySem.W.keepIn K (.ref a_law_sources) = true)
    (ns_law_source_right : PySem.W.nsIn K mainGlobals "_law_source_right" = some (some (.ref a_law_source_right)))
    (lk_law_source_right : K.lookup a_law_source_right = some ⟨oc_law_source_right, od_law_source_right, .func (PySem.W.fnOf "_law_source_right" "_law_source_right" (defArgs s_law_source_right) (defBody s_law_source_right) (defScope s_law_source_right) .none kV_law_source_right dc_law_source_right pm_law_source_right an_law_source_right cd_law_source_right ct_law_source_right), sl_law_source_right⟩)
    (co_law_source_right : PySem.W.codeIn K cd_law_source_right "_law_source_right" = true)
    (kp_law_source_right : PySem.W.keepIn K (.ref a_law_source_right) = true)
    (ns_law : PySem.W.nsIn K mainGlobals "law" = some (some (.ref a_law)))
    (lk_law : K.lookup a_law = some ⟨oc_law, od_law, .func (PySem.W.fnOf "law" "law" (defArgs s_law) (defBody s_law) (defScope s_law) .none kV_law dc_law pm_law an_law cd_law ct_law), sl_law⟩)
    (co_law : PySem.W.codeIn K cd_law "law" = true)
    (kp_law : PySem.W.keepIn K (.ref a_law) = true)
    (ns_GREATEST : PySem.W.nsIn K mainGlobals "GREATEST" = some (some (.int 10000 t_GREATEST)))
    (ns_LONGEST : PySem.W.nsIn K mainGlobals "LONGEST" = some (some (.int 300 t_LONGEST)))
    (z_all : PySem.W.nsIn K mainGlobals "all" = some none)
    (z_any : PySem.W.nsIn K mainGlobals "any" = some none)
    (z_bool : PySem.W.nsIn K mainGlobals "bool" = some none)
    (z_int : PySem.W.nsIn K mainGlobals "int" = some none)
    (z_isinstance : PySem.W.nsIn K mainGlobals "isinstance" = some none)
    (z_len : PySem.W.nsIn K mainGlobals "len" = some none)
    (z_list : PySem.W.nsIn K mainGlobals "list" = some none)
    (z_max : PySem.W.nsIn K mainGlobals "max" = some none)
    (z_range : PySem.W.nsIn K mainGlobals "range" = some none)
    (z_sorted : PySem.W.nsIn K mainGlobals "sorted" = some none)
    (z_tuple : PySem.W.nsIn K mainGlobals "tuple" = some none) :
    ∃ fd : FuncData, (∀ (s : Shared) (v : Value), BindsTo s fd ⟨[v], []⟩ [("_law_script", v)]) ∧ ∀ base : Heap, K.In base → base.Ns mainGlobals mg → FnOk l.prog w K mg base CX0 4 fa fd ["_law_script"] (spLaw K) := by
  have e := hfa.symm.trans (PySem.W.mg_of X G ns_law)
  cases e
  exact ⟨PySem.W.fnOf "law" "law" (defArgs s_law) (defBody s_law) (defScope s_law) .none kV_law dc_law pm_law an_law cd_law ct_law, fun s v => .of_eq rfl, fun base _ _ => ok_law {
    a_is_number := a_is_number
    d_is_number := _
    F_is_number := fun_mk (st := s_is_number) lk_is_number co_is_number kp_is_number
    b_is_number := (fun_mk (st := s_is_number) lk_is_number co_is_number kp_is_number).binds (ps := ["thing", "low", "high"]) fun _ _ _ _ _ _ us hl => match us, hl with | [_, _, _], _ => rfl
    g_is_number := PySem.W.mg_of X G ns_is_number
    a_check_number := a_check_number
    d_check_number := _
    F_check_number := fun_mk (st := s_check_number) lk_check_number co_check_number kp_check_number
    b_check_number := (fun_mk (st := s_check_number) lk_check_number co_check_number kp_check_number).binds (ps := ["number", "low", "high"]) fun _ _ _ _ _ _ us hl => match us, hl with | [_, _, _], _ => rfl
    g_check_number := PySem.W.mg_of X G ns_check_number
    a_floor_root := a_floor_root
    d_floor_root := _
    F_floor_root := fun_mk (st := s_floor_root) lk_floor_root co_floor_root kp_floor_root
    b_floor_root := (fun_mk (st := s_floor_root) lk_floor_root co_floor_root kp_floor_root).binds (ps := ["number"]) fun _ _ _ _ _ _ us hl => match us, hl with | [_], _ => rfl
    g_floor_root := PySem.W.mg_of X G ns_floor_root
    a_common := a_common
    d_common := _
    F_common := fun_mk (st := s_common) lk_common co_common kp_common
    b_common := (fun_mk (st := s_common) lk_common co_common kp_common).binds (ps := ["one", "other"]) fun _ _ _ _ _ _ us hl => match us, hl with | [_, _], _ => rfl
    g_common := PySem.W.mg_of X G ns_common
    a_walks := a_walks
    d_walks := _
    F_walks := fun_mk (st := s_walks) lk_walks co_walks kp_walks
    b_walks := (fun_mk (st := s_walks) lk_walks co_walks kp_walks).binds (ps := ["most"]) fun _ _ _ _ _ _ us hl => match us, hl with | [_], _ => rfl
    g_walks := PySem.W.mg_of X G ns_walks
    a_from_source := a_from_source
    d_from_source := _
    F_from_source := fun_mk (st := s_from_source) lk_from_source co_from_source kp_from_source
    b_from_source := (fun_mk (st := s_from_source) lk_from_source co_from_source kp_from_source).binds (ps := ["m", "n", "most"]) fun _ _ _ _ _ _ us hl => match us, hl with | [_, _, _], _ => rfl
    g_from_source := PySem.W.mg_of X G ns_from_source
    a_source := a_source
    d_source := _
    F_source := fun_mk (st := s_source) lk_source co_source kp_source
    b_source := (fun_mk (st := s_source) lk_source co_source kp_source).binds (ps := ["walk"]) fun _ _ _ _ _ _ us hl => match us, hl with | [_], _ => rfl
    g_source := PySem.W.mg_of X G ns_source
    a_law_cell_at := a_law_cell_at
    d_law_cell_at := _
    F_law_cell_at := fun_mk (st := s_law_cell_at) lk_law_cell_at co_law_cell_at kp_law_cell_at
    b_law_cell_at := (fun_mk (st := s_law_cell_at) lk_law_cell_at co_law_cell_at kp_law_cell_at).binds (ps := ["_law_script", "_law_k"]) fun _ _ _ _ _ _ us hl => match us, hl with | [_, _], _ => rfl
    g_law_cell_at := PySem.W.mg_of X G ns_law_cell_at
    a_law_draw := a_law_draw
    d_law_draw := _
    F_law_draw := fun_mk (st := s_law_draw) lk_law_draw co_law_draw kp_law_draw
    b_law_draw := (fun_mk (st := s_law_draw) lk_law_draw co_law_draw kp_law_draw).binds (ps := ["_law_cell", "_law_k", "_law_many"]) fun _ _ _ _ _ _ us hl => match us, hl with | [_, _, _], _ => rfl
    g_law_draw := PySem.W.mg_of X G ns_law_draw
    a_law_common := a_law_common
    d_law_common := _
    F_law_common := fun_mk (st := s_law_common) lk_law_common co_law_common kp_law_common
    b_law_common := (fun_mk (st := s_law_common) lk_law_common co_law_common kp_law_common).binds (ps := ["_law_one", "_law_other"]) fun _ _ _ _ _ _ us hl => match us, hl with | [_, _], _ => rfl
    g_law_common := PySem.W.mg_of X G ns_law_common
    a_law_tried := a_law_tried
    d_law_tried := _
    F_law_tried := fun_mk (st := s_law_tried) lk_law_tried co_law_tried kp_law_tried
    b_law_tried := (fun_mk (st := s_law_tried) lk_law_tried co_law_tried kp_law_tried).binds (ps := ["_law_most"]) fun _ _ _ _ _ _ us hl => match us, hl with | [_], _ => rfl
    g_law_tried := PySem.W.mg_of X G ns_law_tried
    a_law_made := a_law_made
    d_law_made := _
    F_law_made := fun_mk (st := s_law_made) lk_law_made co_law_made kp_law_made
    b_law_made := (fun_mk (st := s_law_made) lk_law_made co_law_made kp_law_made).binds (ps := ["_law_m", "_law_n", "_law_k"]) fun _ _ _ _ _ _ us hl => match us, hl with | [_, _, _], _ => rfl
    g_law_made := PySem.W.mg_of X G ns_law_made
    a_law_sources := a_law_sources
    d_law_sources := _
    F_law_sources := fun_mk (st := s_law_sources) lk_law_sources co_law_sources kp_law_sources
    b_law_sources := (fun_mk (st := s_law_sources) lk_law_sources co_law_sources kp_law_sources).binds (ps := ["_law_most"]) fun _ _ _ _ _ _ us hl => match us, hl with | [_], _ => rfl
    g_law_sources := PySem.W.mg_of X G ns_law_sources
    a_law_source_right := a_law_source_right
    d_law_source_right := _
    F_law_source_right := fun_mk (st := s_law_source_right) lk_law_source_right co_law_source_right kp_law_source_right
    b_law_source_right := (fun_mk (st := s_law_source_right) lk_law_source_right co_law_source_right kp_law_source_right).binds (ps := ["_law_walk", "_law_found"]) fun _ _ _ _ _ _ us hl => match us, hl with | [_, _], _ => rfl
    g_law_source_right := PySem.W.mg_of X G ns_law_source_right
    a_law := fa
    d_law := _
    F_law := fun_mk (st := s_law) lk_law co_law kp_law
    b_law := (fun_mk (st := s_law) lk_law co_law kp_law).binds (ps := ["_law_script"]) fun _ _ _ _ _ _ us hl => match us, hl with | [_], _ => rfl
    g_law := PySem.W.mg_of X G ns_law
    t_GREATEST := t_GREATEST
    g_GREATEST := PySem.W.mg_of X G ns_GREATEST
    t_LONGEST := t_LONGEST
    g_LONGEST := PySem.W.mg_of X G ns_LONGEST
    z_all := PySem.W.mg_none_of X G z_all
    z_any := PySem.W.mg_none_of X G z_any
    z_bool := PySem.W.mg_none_of X G z_bool
    z_int := PySem.W.mg_none_of X G z_int
    z_isinstance := PySem.W.mg_none_of X G z_isinstance
    z_len := PySem.W.mg_none_of X G z_len
    z_list := PySem.W.mg_none_of X G z_list
    z_max := PySem.W.mg_none_of X G z_max
    z_range := PySem.W.mg_none_of X G z_range
    z_sorted := PySem.W.mg_none_of X G z_sorted
    z_tuple := PySem.W.mg_none_of X G z_tuple }⟩
end Sq
open PySem PySem.W PyProof.Rows
set_option maxHeartbeats 0 in
theorem PySem.Challenge.cw_squarefield_k06_walks_holds : PySem.Challenge.rw_squarefield_k06_walks.Holds := by
  w_on; o_law; k_head; (case hw => w_witness2)
  k_fill
  refine L2.walk_of (l := PySem.Challenge.rw_squarefield_k06_walks) (n := 63) (k := 4) (x := "_law_script") (CX := fun _ => L2.CX0) (sp := fun w => Sq.spLaw _) rfl (by decide) rfl ⟨rfl, by decide, by decide⟩ (fun w h Y => PySem.W.kIn_of Y) ?F (fun _ _ a ns hl _ hS => ⟨a, ns, rfl, hS, hl, fun _ => rfl⟩) (fun _ _ _ _ _ h => h)
  case F =>
    intro w mg fa h KX G hmg
    refine' Sq.all_mk KX G hmg ?ns_is_number ?lk_is_number ?co_is_number ?kp_is_number ?ns_check_number ?lk_check_number ?co_check_number ?kp_check_number ?ns_floor_root ?lk_floor_root ?co_floor_root ?kp_floor_root ?ns_common ?lk_common ?co_common ?kp_common ?ns_walks ?lk_walks ?co_walks ?kp_walks ?ns_from_source ?lk_from_source ?co_from_source ?kp_from_source ?ns_source ?lk_source ?co_source ?kp_source ?ns_law_cell_at ?lk_law_cell_at ?co_law_cell_at ?kp_law_cell_at ?ns_law_draw ?lk_law_draw ?co_law_draw ?kp_law_draw ?ns_law_common ?lk_law_common ?co_law_common ?kp_law_common ?ns_law_tried ?lk_law_tried ?co_law_tried ?kp_law_tried ?ns_law_made ?lk_law_made ?co_law_made ?kp_law_made ?ns_law_sources ?lk_law_sources ?co_law_sources ?kp_law_sources ?ns_law_source_right ?lk_law_source_right ?co_law_source_right ?kp_law_source_right ?ns_law ?lk_law ?co_law ?kp_law ?ns_GREATEST ?ns_LONGEST ?z_all ?z_any ?z_bool ?z_int ?z_isinstance ?z_len ?z_list ?z_max ?z_range ?z_sorted ?z_tuple
    (case ns_is_number => k_is)
    (case lk_is_number => k_is)
    (case co_is_number => k_is)
    (case kp_is_number => k_is)
    (case ns_check_number => k_is)
    (case lk_check_number => k_is)
    (case co_check_number => k_is)
    (case kp_check_number => k_is)
    (case ns_floor_root => k_is)
    (case lk_floor_root => k_is)
    (case co_floor_root => k_is)
    (case kp_floor_root => k_is)
    (case ns_common => k_is)
    (case lk_common => k_is)
    (case co_common => k_is)
    (case kp_common => k_is)
    (case ns_walks => k_is)
    (case lk_walks => k_is)
    (case co_walks => k_is)
    (case kp_walks => k_is)
    (case ns_from_source => k_is)
    (case lk_from_source => k_is)
    (case co_from_source => k_is)
    (case kp_from_source => k_is)
    (case ns_source => k_is)
    (case lk_source => k_is)
    (case co_source => k_is)
    (case kp_source => k_is)
    (case ns_law_cell_at => k_is)
    (case lk_law_cell_at => k_is)
    (case co_law_cell_at => k_is)
    (case kp_law_cell_at => k_is)
    (case ns_law_draw => k_is)
    (case lk_law_draw => k_is)
    (case co_law_draw => k_is)
    (case kp_law_draw => k_is)
    (case ns_law_common => k_is)
    (case lk_law_common => k_is)
    (case co_law_common => k_is)
    (case kp_law_common => k_is)
    (case ns_law_tried => k_is)
    (case lk_law_tried => k_is)
    (case co_law_tried => k_is)
    (case kp_law_tried => k_is)
    (case ns_law_made => k_is)
    (case lk_law_made => k_is)
    (case co_law_made => k_is)
    (case kp_law_made => k_is)
    (case ns_law_sources => k_is)
    (case lk_law_sources => k_is)
    (case co_law_sources => k_is)
    (case kp_law_sources => k_is)
    (case ns_law_source_right => k_is)
    (case lk_law_source_right => k_is)
    (case co_law_source_right => k_is)
    (case kp_law_source_right => k_is)
    (case ns_law => k_is)
    (case lk_law => k_is)
    (case co_law => k_is)
    (case kp_law => k_is)
    (case ns_GREATEST => k_is)
    (case ns_LONGEST => k_is)
    (case z_all => k_is)
    (case z_any => k_is)
    (case z_bool => k_is)
    (case z_int => k_is)
    (case z_isinstance => k_is)
    (case z_len => k_is)
    (case z_list => k_is)
    (case z_max => k_is)
    (case z_range => k_is)
    (case z_sorted => k_is)
    (case z_tuple => k_is)
