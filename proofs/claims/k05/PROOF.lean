import PyProof.Rows.All
import Wide.All
import OpenK.AllK
import Wide.FinOn
import HandS.ForMost
import HandS.ForExc
import HandS.Evl
import HandS.SortInts
import HandS.IsInst
import HandS.Strs
import HandS.Style
import HandS.TupLe
import HandS.Conv
import HandS.RevRange
import HandS.StrMore
import HandS.SetFor
import PySem.Challenge.RW_squarefield_k05_joined
set_option Elab.async false
set_option linter.all false
set_option maxRecDepth 100000
set_option maxHeartbeats 4000000
/-! ### A layer of our own over the hand layer: what an expression evaluates to, as data (EvD); statements by it -/
namespace Sq
open PySem PySem.Spec PyProof.Rows L2 Evl

/-! #### operators with one kind of operand -/
section
variable {X : Cx}
def rEqI : R2 := rI0 fun i j => .bl (decide (i = j))
def rNeI : R2 := rI0 fun i j => .bl (!decide (i = j))
def rEqB : R2 := fun x y H Q => ∃ a b, x = .bl a ∧ y = .bl b ∧ Q (.bl (decide (a = b))) H
def rNeB : R2 := fun x y H Q => ∃ a b, x = .bl a ∧ y = .bl b ∧ Q (.bl (!decide (a = b))) H
def rEqS : R2 := fun x y H Q => ∃ a b, x = .str a ∧ y = .str b ∧ Q (.bl (decide (a = b))) H
def rNeS : R2 := fun x y H Q => ∃ a b, x = .str a ∧ y = .str b ∧ Q (.bl (!decide (a = b))) H
theorem dec_int (i j : Int) : decide (V.int i = V.int j) = decide (i = j) := by
  by_cases h : i = j
  · rw [decide_eq_true h, decide_eq_true (by rw [h])]
  · rw [decide_eq_false h, decide_eq_false (fun z => h (V.int.inj z))]
theorem dec_bl (i j : Bool) : decide (V.bl i = V.bl j) = decide (i = j) := by
  by_cases h : i = j
  · rw [decide_eq_true h, decide_eq_true (by rw [h])]
  · rw [decide_eq_false h, decide_eq_false (fun z => h (V.bl.inj z))]
theorem dec_str (i j : Str) : decide (V.str i = V.str j) = decide (i = j) := by
  by_cases h : i = j
  · rw [decide_eq_true h, decide_eq_true (by rw [h])]
  · rw [decide_eq_false h, decide_eq_false (fun z => h (V.str.inj z))]
theorem op_eqI : OpR X (compareOp .Eq) rEqI := fun pins s σ H x y v u Q I rx ry h => by
  obtain ⟨i, j, rfl, rfl, q⟩ := h
  exact op_eq pins s σ H _ _ v u Q I rx ry ⟨rfl, by rw [dec_int]; exact q⟩
theorem op_neI : OpR X (compareOp .NotEq) rNeI := fun pins s σ H x y v u Q I rx ry h => by
  obtain ⟨i, j, rfl, rfl, q⟩ := h
  exact op_ne pins s σ H _ _ v u Q I rx ry ⟨rfl, by rw [dec_int]; exact q⟩
theorem op_eqB : OpR X (compareOp .Eq) rEqB := fun pins s σ H x y v u Q I rx ry h => by
  obtain ⟨i, j, rfl, rfl, q⟩ := h
  exact op_eq pins s σ H _ _ v u Q I rx ry ⟨rfl, by rw [dec_bl]; exact q⟩
theorem op_neB : OpR X (compareOp .NotEq) rNeB := fun pins s σ H x y v u Q I rx ry h => by
  obtain ⟨i, j, rfl, rfl, q⟩ := h
  exact op_ne pins s σ H _ _ v u Q I rx ry ⟨rfl, by rw [dec_bl]; exact q⟩
theorem op_eqS : OpR X (compareOp .Eq) rEqS := fun pins s σ H x y v u Q I rx ry h => by
  obtain ⟨i, j, rfl, rfl, q⟩ := h
  exact op_eq pins s σ H _ _ v u Q I rx ry ⟨rfl, by rw [dec_str]; exact q⟩
theorem op_neS : OpR X (compareOp .NotEq) rNeS := fun pins s σ H x y v u Q I rx ry h => by
  obtain ⟨i, j, rfl, rfl, q⟩ := h
  exact op_ne pins s σ H _ _ v u Q I rx ry ⟨rfl, by rw [dec_str]; exact q⟩
def ipD (C : Int → Int → Prop) (f : Int → Int → Int) : TIp := rI C fun i j => .int (f i j)
theorem ip_fdv : PIp X .FloorDiv (ipD CDiv fun i j => i / j) := iop_fdiv
/-- one of two readings -/
def tOr2 (t u : TE) : TE := fun σ H Q => t σ H Q ∨ u σ H Q
theorem pe_or2 {e : Expr} {t u : TE} (h1 : PE X e t) (h2 : PE X e u) : PE X e (tOr2 t u) := ⟨fun pins s σ H Q I h => by
  rcases h with h | h
  · exact h1.run pins s σ H Q I h
  · exact h2.run pins s σ H Q I h⟩
end

/-! #### the layer's rules that name X.K, with K told -/
section
variable {X : Cx} {K : PySem.W.Frag}
def rLenQ (K : PySem.W.Frag) : List V → Hp → VK → Prop := fun xs H Q => ∃ p ys, xs = [.ref p] ∧ (SqL K H p ys ∨ SqT K H p ys) ∧ Q (.int ys.length) H
def rListQ (K : PySem.W.Frag) : List V → Hp → VK → Prop := fun xs H Q => ∃ p ys, xs = [.ref p] ∧ (SqL K H p ys ∨ SqT K H p ys) ∧ ∀ l, H l = none → Q (.ref l) (upd H l (.lst ys))
def rTupQ (K : PySem.W.Frag) : List V → Hp → VK → Prop := fun xs H Q => ∃ p ys, xs = [.ref p] ∧ ((SqL K H p ys ∧ ∀ l, H l = none → Q (.ref l) (upd H l (.tup ys))) ∨ (SqT K H p ys ∧ Q (.ref p) H))
theorem isiQ (e : X.K = K := by rfl) : CallR X (.builtin "isinstance") (rIsi K) := e ▸ call_isi
theorem lenQ (e : X.K = K := by rfl) : CallR X (.builtin "len") (rLenQ K) := e ▸ call_len_seq
theorem listQ (e : X.K = K := by rfl) : CallR X (.type "list") (rListQ K) := e ▸ call_list_of
theorem tupleQ (e : X.K = K := by rfl) : CallR X (.type "tuple") (rTupQ K) := e ▸ call_tuple_of
theorem sumQ (hc : X.calm = true) (e : X.K = K := by rfl) : CallR X (.builtin "sum") (rSum K) := e ▸ cr_sum hc
theorem minQ (hc : X.calm = true) (e : X.K = K := by rfl) : CallR X (.builtin "min") (rMin K) := e ▸ cr_min hc
theorem maxQ (hc : X.calm = true) (e : X.K = K := by rfl) : CallR X (.builtin "max") (rMax K) := e ▸ cr_max hc
theorem allQ (hc : X.calm = true) (e : X.K = K := by rfl) : CallR X (.builtin "all") (rAll K) := e ▸ cr_all hc
theorem anyQ (hc : X.calm = true) (e : X.K = K := by rfl) : CallR X (.builtin "any") (rAny K) := e ▸ cr_any hc
theorem sortedQ (e : X.K = K := by rfl) : CallR X (.builtin "sorted") (rSortedI K) := e ▸ cr_sortedI
theorem ixlQ (e : X.K = K := by rfl) : IxR X (rIxL K) := e ▸ ix_list
theorem ixtQ (e : X.K = K := by rfl) : IxR X (rIxT K) := e ▸ ix_tup
theorem eqdQ (hu : X.A.units + 64 < cLine) (e : X.K = K := by rfl) : OpR X (compareOp .Eq) (rEqD K) := e ▸ op_eqD hu
theorem nedQ (hu : X.A.units + 64 < cLine) (e : X.K = K := by rfl) : OpR X (compareOp .NotEq) (rNeD K) := e ▸ op_neD hu
theorem insQ (e : X.K = K := by rfl) : OpR X (compareOp .In) (rIn K false) := e ▸ op_in_seq
theorem ninsQ (e : X.K = K := by rfl) : OpR X (compareOp .NotIn) (rIn K true) := e ▸ op_notIn_seq
theorem sllQ (e : X.K = K := by rfl) : SlR X (rSlL K) := e ▸ sl_list
theorem pilQ {tg l : Expr} {tl : TE} (hl : PE X l tl) (e : X.K = K := by rfl) : PI X tg l (iList K tl) := e ▸ pi_list hl
theorem pitQ {tg l : Expr} {tl : TE} (hl : PE X l tl) (e : X.K = K := by rfl) : PI X tg l (iTup K tl) := e ▸ pi_tup hl
theorem fldQ {o : Expr} {f : Str} {pos : Pos} {ta : TE} (he : PE X o ta) (hb : attributeBase o f X.env (eval o X.env) = eval o X.env) (e : X.K = K := by rfl) : PE X (.Attribute o f pos) (tFld K ta f) := e ▸ pe_fld he hb
end

/-! #### data: a value is such a datum in the heap (all its lists and tuples tracked) -/
mutual
inductive Rp (H : Hp) : V → PyData → Prop
  | non : Rp H .non .none
  | bl (b : Bool) : Rp H (.bl b) (.bool b)
  | int (i : Int) : Rp H (.int i) (.int i)
  | str (x : Str) : Rp H (.str x) (.str x)
  | lst {a : Addr} {xs : List V} {ds : List PyData} : H a = some (.lst xs) → RpAll H xs ds → Rp H (.ref a) (.list ds)
  | tup {a : Addr} {xs : List V} {ds : List PyData} : H a = some (.tup xs) → RpAll H xs ds → Rp H (.ref a) (.tuple ds)
inductive RpAll (H : Hp) : List V → List PyData → Prop
  | nil : RpAll H [] []
  | cons {v : V} {vs : List V} {d : PyData} {ds : List PyData} : Rp H v d → RpAll H vs ds → RpAll H (v :: vs) (d :: ds)
end
section
variable {K : PySem.W.Frag} {σ : L2.St} {H H' : Hp} {ta tb tc te tx : TE} {t u : TT} {v x y : V} {d d1 d2 : PyData}
mutual
theorem rp_dp : ∀ {v : V} {d : PyData}, Rp H v d → Dp K H v d
  | _, _, .non => .non
  | _, _, .bl b => .bl b
  | _, _, .int i => .int i
  | _, _, .str x => .str x
  | _, _, .lst h a => .lst (SqL.of h) (rpa_dp a)
  | _, _, .tup h a => .tup (SqT.of h) (rpa_dp a)
theorem rpa_dp : ∀ {vs : List V} {ds : List PyData}, RpAll H vs ds → DpAll K H vs ds
  | _, _, .nil => .nil
  | _, _, .cons a b => .cons (rp_dp a) (rpa_dp b)
end
mutual
theorem dp_mono (e : Ex H H') : ∀ {v : V} {d : PyData}, Rp H v d → Rp H' v d
  | _, _, .non => .non
  | _, _, .bl b => .bl b
  | _, _, .int i => .int i
  | _, _, .str x => .str x
  | _, _, .lst h a => .lst (e _ _ h) (dpa_mono e a)
  | _, _, .tup h a => .tup (e _ _ h) (dpa_mono e a)
theorem dpa_mono (e : Ex H H') : ∀ {vs : List V} {ds : List PyData}, RpAll H vs ds → RpAll H' vs ds
  | _, _, .nil => .nil
  | _, _, .cons a b => .cons (dp_mono e a) (dpa_mono e b)
end
theorem dp_int {i : Int} (h : Rp H v (.int i)) : v = .int i := by cases h; rfl
theorem dp_bl {b : Bool} (h : Rp H v (.bool b)) : v = .bl b := by cases h; rfl
theorem dp_str {s : Str} (h : Rp H v (.str s)) : v = .str s := by cases h; rfl
theorem dp_non (h : Rp H v .none) : v = .non := by cases h; rfl
theorem dp_list {ds : List PyData} (h : Rp H v (.list ds)) : ∃ a xs, v = .ref a ∧ H a = some (.lst xs) ∧ RpAll H xs ds := by
  cases h with
  | lst h a => exact ⟨_, _, rfl, h, a⟩
theorem dp_tup {ds : List PyData} (h : Rp H v (.tuple ds)) : ∃ a xs, v = .ref a ∧ H a = some (.tup xs) ∧ RpAll H xs ds := by
  cases h with
  | tup h a => exact ⟨_, _, rfl, h, a⟩
theorem dpa_len {vs : List V} {ds : List PyData} : RpAll H vs ds → vs.length = ds.length
  | .nil => rfl
  | .cons _ b => by rw [List.length_cons, List.length_cons, dpa_len b]
theorem dpa_get : ∀ {vs : List V} {ds : List PyData} {i : Nat} {d : PyData}, RpAll H vs ds → ds[i]? = some d → ∃ v, vs[i]? = some v ∧ Rp H v d
  | _, _, 0, _, .cons a _, e => ⟨_, rfl, by
      have e' := Option.some.inj e
      rw [← e']; exact a⟩
  | _, _, i + 1, _, .cons _ b, e => by
      obtain ⟨v, h1, h2⟩ := dpa_get (i := i) b (by simpa using e)
      exact ⟨v, by simpa using h1, h2⟩
  | _, _, _, _, .nil, e => by simp at e
theorem dpa_get' : ∀ {vs : List V} {ds : List PyData} {i : Nat} {v : V}, RpAll H vs ds → vs[i]? = some v → ∃ d, ds[i]? = some d ∧ Rp H v d
  | _, _, 0, _, .cons a _, e => ⟨_, rfl, by
      have e' := Option.some.inj e
      rw [← e']; exact a⟩
  | _, _, i + 1, _, .cons _ b, e => by
      obtain ⟨v, h1, h2⟩ := dpa_get' (i := i) b (by simpa using e)
      exact ⟨v, by simpa using h1, h2⟩
  | _, _, _, _, .nil, e => by simp at e
theorem dpa_app : ∀ {vs ws : List V} {ds es : List PyData}, RpAll H vs ds → RpAll H ws es → RpAll H (vs ++ ws) (ds ++ es)
  | _, _, _, _, .nil, b => b
  | _, _, _, _, .cons a r, b => .cons a (dpa_app r b)
theorem dpa_cons {vs : List V} {ds : List PyData} (h : RpAll H vs (d :: ds)) : ∃ v r, vs = v :: r ∧ Rp H v d ∧ RpAll H r ds := by
  cases h with
  | cons a b => exact ⟨_, _, rfl, a, b⟩
theorem dpa_nil {vs : List V} (h : RpAll H vs []) : vs = [] := by cases h; rfl
theorem dpa_one {vs : List V} (h : RpAll H vs [d]) : ∃ v, vs = [v] ∧ Rp H v d := by
  obtain ⟨v, r, rfl, h1, h2⟩ := dpa_cons h
  cases dpa_nil h2
  exact ⟨v, rfl, h1⟩
theorem dpa_two {vs : List V} (h : RpAll H vs [d, d1]) : ∃ v w, vs = [v, w] ∧ Rp H v d ∧ Rp H w d1 := by
  obtain ⟨v, r, rfl, h1, h2⟩ := dpa_cons h
  obtain ⟨w, rfl, h3⟩ := dpa_one h2
  exact ⟨v, w, rfl, h1, h3⟩
theorem dpa_three {vs : List V} (h : RpAll H vs [d, d1, d2]) : ∃ v w z, vs = [v, w, z] ∧ Rp H v d ∧ Rp H w d1 ∧ Rp H z d2 := by
  obtain ⟨v, r, rfl, h1, h2⟩ := dpa_cons h
  obtain ⟨w, z, rfl, h3, h4⟩ := dpa_two h2
  exact ⟨v, w, z, rfl, h1, h3, h4⟩
theorem dpa_ints : ∀ {vs : List V} {ns : List Int}, RpAll H vs (ns.map .int) → vs = ns.map V.int
  | _, [], h => dpa_nil h
  | _, n :: ns, h => by
    obtain ⟨v, r, rfl, h1, h2⟩ := dpa_cons (d := .int n) (ds := ns.map .int) h
    rw [dp_int h1, dpa_ints h2, List.map_cons]
theorem dpa_of_ints (H : Hp) : ∀ ns : List Int, RpAll H (ns.map V.int) (ns.map .int)
  | [] => .nil
  | n :: ns => .cons (.int n) (dpa_of_ints H ns)
theorem dpa_bls : ∀ {vs : List V} {ns : List Bool}, RpAll H vs (ns.map .bool) → vs = ns.map V.bl
  | _, [], h => dpa_nil h
  | _, n :: ns, h => by
    obtain ⟨v, r, rfl, h1, h2⟩ := dpa_cons (d := .bool n) (ds := ns.map .bool) h
    rw [dp_bl h1, dpa_bls h2, List.map_cons]
theorem dpa_of_bls (H : Hp) : ∀ ns : List Bool, RpAll H (ns.map V.bl) (ns.map .bool)
  | [] => .nil
  | n :: ns => .cons (.bl n) (dpa_of_bls H ns)
theorem dpa_strs : ∀ {vs : List V} {ns : List Str}, RpAll H vs (ns.map .str) → vs = ns.map V.str
  | _, [], h => dpa_nil h
  | _, n :: ns, h => by
    obtain ⟨v, r, rfl, h1, h2⟩ := dpa_cons (d := .str n) (ds := ns.map .str) h
    rw [dp_str h1, dpa_strs h2, List.map_cons]
theorem dpa_of_strs (H : Hp) : ∀ ns : List Str, RpAll H (ns.map V.str) (ns.map .str)
  | [] => .nil
  | n :: ns => .cons (.str n) (dpa_of_strs H ns)

/-! what is evaluated, as data -/
def EvD (te : TE) (σ : L2.St) (H : Hp) (d : PyData) : Prop := ∀ H1, Ex H H1 → ∀ Q : VK, (∀ v H2, Ex H1 H2 → Rp H2 v d → Q v H2) → te σ H1 Q
def EvDA (ta : TA) (σ : L2.St) (H : Hp) (ds : List PyData) : Prop := ∀ H1, Ex H H1 → ∀ Q : List V → Hp → Prop, (∀ vs H2, Ex H1 H2 → RpAll H2 vs ds → Q vs H2) → ta σ H1 Q
theorem EvD.mono (e : Ex H H') (h : EvD te σ H d) : EvD te σ H' d := fun H1 a Q q => h H1 (e.trans a) Q q
theorem ed_is (h : EvD te σ H d) (e : d = d1) : EvD te σ H d1 := e ▸ h
theorem ed_var {i : Nat} (h : σ[i]? = some (some v)) (hd : Rp H v d) : EvD (tVar i) σ H d := fun H1 e _ q => ⟨v, h, q v H1 (Ex.refl H1) (dp_mono e hd)⟩
theorem ed_ci {i : Int} : EvD (tC (.int i)) σ H (.int i) := fun H1 _ _ q => q _ H1 (Ex.refl H1) (.int i)
theorem ed_cb {b : Bool} : EvD (tC (.bl b)) σ H (.bool b) := fun H1 _ _ q => q _ H1 (Ex.refl H1) (.bl b)
theorem ed_cs {s : Str} : EvD (tC (.str s)) σ H (.str s) := fun H1 _ _ q => q _ H1 (Ex.refl H1) (.str s)
theorem ed_cn : EvD (tC .non) σ H .none := fun H1 _ _ q => q _ H1 (Ex.refl H1) .non
theorem da_nil : EvDA tNil σ H [] := fun H1 _ _ q => q [] H1 (Ex.refl H1) .nil
theorem da_cons {tr : TA} {ds : List PyData} (h : EvD ta σ H d) (hr : EvDA tr σ H ds) : EvDA (tCons ta tr) σ H (d :: ds) := fun H1 e _ q =>
  h H1 e _ fun v H2 e2 hv => hr H2 (e.trans e2) _ fun vs H3 e3 hvs => q _ H3 (e2.trans e3) (.cons (dp_mono e3 hv) hvs)
theorem ed_tup {ta : TA} {ds : List PyData} (h : EvDA ta σ H ds) (hl : ds.length ≤ 100000) : EvD (tTup ta) σ H (.tuple ds) := fun H1 e _ q =>
  h H1 e _ fun vs H2 e2 hvs => ⟨by rw [dpa_len hvs]; exact sz_of hl, fun p hp => q _ _ (e2.trans (Ex.new hp)) (.tup upd_same (dpa_mono (Ex.new hp) hvs))⟩
theorem ed_lst {ta : TA} {ds : List PyData} (h : EvDA ta σ H ds) (hl : ds.length ≤ 100000) : EvD (tLst ta) σ H (.list ds) := fun H1 e _ q =>
  h H1 e _ fun vs H2 e2 hvs => ⟨by rw [dpa_len hvs]; exact sz_of hl, fun p hp => q _ _ (e2.trans (Ex.new hp)) (.lst upd_same (dpa_mono (Ex.new hp) hvs))⟩
/-! operators -/
theorem ed_op {r : R2} (ha : EvD ta σ H d1) (hb : EvD tb σ H d2) (hr : ∀ v w H1, Ex H H1 → Rp H1 v d1 → Rp H1 w d2 → ∀ Q : VK, (∀ z H2, Ex H1 H2 → Rp H2 z d → Q z H2) → r v w H1 Q) : EvD (tOp r ta tb) σ H d := fun H1 e Q q =>
  ha H1 e _ fun v H2 e2 hv => hb H2 (e.trans e2) _ fun w H3 e3 hw => hr v w H3 ((e.trans e2).trans e3) (dp_mono e3 hv) hw Q fun z H4 e4 hz => q z H4 ((e2.trans e3).trans e4) hz
theorem ed_I0i {f : Int → Int → Int} {i j : Int} (ha : EvD ta σ H (.int i)) (hb : EvD tb σ H (.int j)) : EvD (tOp (rI0 fun i j => .int (f i j)) ta tb) σ H (.int (f i j)) :=
  ed_op ha hb fun _ _ H1 _ h1 h2 _ q => ⟨i, j, dp_int h1, dp_int h2, q _ H1 (Ex.refl H1) (.int _)⟩
theorem ed_I0b {f : Int → Int → Bool} {i j : Int} (ha : EvD ta σ H (.int i)) (hb : EvD tb σ H (.int j)) : EvD (tOp (rI0 fun i j => .bl (f i j)) ta tb) σ H (.bool (f i j)) :=
  ed_op ha hb fun _ _ H1 _ h1 h2 _ q => ⟨i, j, dp_int h1, dp_int h2, q _ H1 (Ex.refl H1) (.bl _)⟩
theorem ed_eqI {i j : Int} (ha : EvD ta σ H (.int i)) (hb : EvD tb σ H (.int j)) : EvD (tOp rEqI ta tb) σ H (.bool (decide (i = j))) := ed_I0b ha hb
theorem ed_neI {i j : Int} (ha : EvD ta σ H (.int i)) (hb : EvD tb σ H (.int j)) : EvD (tOp rNeI ta tb) σ H (.bool (!decide (i = j))) := ed_I0b (f := fun i j => !decide (i = j)) ha hb
theorem ed_eqB {i j : Bool} (ha : EvD ta σ H (.bool i)) (hb : EvD tb σ H (.bool j)) : EvD (tOp rEqB ta tb) σ H (.bool (decide (i = j))) :=
  ed_op ha hb fun _ _ H1 _ h1 h2 _ q => ⟨i, j, dp_bl h1, dp_bl h2, q _ H1 (Ex.refl H1) (.bl _)⟩
theorem ed_neB {i j : Bool} (ha : EvD ta σ H (.bool i)) (hb : EvD tb σ H (.bool j)) : EvD (tOp rNeB ta tb) σ H (.bool (!decide (i = j))) :=
  ed_op ha hb fun _ _ H1 _ h1 h2 _ q => ⟨i, j, dp_bl h1, dp_bl h2, q _ H1 (Ex.refl H1) (.bl _)⟩
theorem ed_eqS {i j : Str} (ha : EvD ta σ H (.str i)) (hb : EvD tb σ H (.str j)) : EvD (tOp rEqS ta tb) σ H (.bool (decide (i = j))) :=
  ed_op ha hb fun _ _ H1 _ h1 h2 _ q => ⟨i, j, dp_str h1, dp_str h2, q _ H1 (Ex.refl H1) (.bl _)⟩
theorem ed_neS {i j : Str} (ha : EvD ta σ H (.str i)) (hb : EvD tb σ H (.str j)) : EvD (tOp rNeS ta tb) σ H (.bool (!decide (i = j))) :=
  ed_op ha hb fun _ _ H1 _ h1 h2 _ q => ⟨i, j, dp_str h1, dp_str h2, q _ H1 (Ex.refl H1) (.bl _)⟩
theorem ed_isB {i j : Bool} (ha : EvD ta σ H (.bool i)) (hb : EvD tb σ H (.bool j)) : EvD (tOp (fun x y H Q => ∃ a b, x = .bl a ∧ y = .bl b ∧ Q (.bl (decide (a = b))) H) ta tb) σ H (.bool (decide (i = j))) :=
  ed_op ha hb fun _ _ H1 _ h1 h2 _ q => ⟨i, j, dp_bl h1, dp_bl h2, q _ H1 (Ex.refl H1) (.bl _)⟩
theorem ed_isnB {i j : Bool} (ha : EvD ta σ H (.bool i)) (hb : EvD tb σ H (.bool j)) : EvD (tOp (fun x y H Q => ∃ a b, x = .bl a ∧ y = .bl b ∧ Q (.bl (!decide (a = b))) H) ta tb) σ H (.bool (!decide (i = j))) :=
  ed_op ha hb fun _ _ H1 _ h1 h2 _ q => ⟨i, j, dp_bl h1, dp_bl h2, q _ H1 (Ex.refl H1) (.bl _)⟩
theorem ed_Ii {C : Int → Int → Prop} {f : Int → Int → Int} {i j : Int} (ha : EvD ta σ H (.int i)) (hb : EvD tb σ H (.int j)) (hc : C i j) : EvD (tOp (rI C fun i j => .int (f i j)) ta tb) σ H (.int (f i j)) :=
  ed_op ha hb fun _ _ H1 _ h1 h2 _ q => ⟨i, j, dp_int h1, dp_int h2, hc, q _ H1 (Ex.refl H1) (.int _)⟩
theorem ed_mul {i j : Int} (ha : EvD ta σ H (.int i)) (hb : EvD tb σ H (.int j)) (hc : (-(2 ^ 64) < i ∧ i < 2 ^ 64) ∨ (-(2 ^ 64) < j ∧ j < 2 ^ 64)) : EvD (tOp (rI CMul fun i j => .int (i * j)) ta tb) σ H (.int (i * j)) :=
  ed_Ii (f := fun i j => i * j) ha hb hc
theorem ed_mod {i j : Int} (ha : EvD ta σ H (.int i)) (hb : EvD tb σ H (.int j)) (hc : 0 < j) : EvD (tOp (rI (fun _ j => 0 < j) fun i j => .int (i % j)) ta tb) σ H (.int (i % j)) :=
  ed_Ii (C := fun _ j => 0 < j) (f := fun i j => i % j) ha hb hc
theorem ed_fdiv {i j : Int} (ha : EvD ta σ H (.int i)) (hb : EvD tb σ H (.int j)) (hc : 0 < j ∧ j < 1073741824) : EvD (tOp (rI CDiv fun i j => .int (i / j)) ta tb) σ H (.int (i / j)) :=
  ed_Ii (f := fun i j => i / j) ha hb hc
theorem ed_pow {i j : Int} (ha : EvD ta σ H (.int i)) (hb : EvD tb σ H (.int j)) (hc : 0 ≤ j ∧ j ≤ 1000000 ∧ i.natAbs < 2 ^ 64) : EvD (tOp (rI CPow fun i j => .int (i ^ j.toNat)) ta tb) σ H (.int (i ^ j.toNat)) :=
  ed_Ii (f := fun i j => i ^ j.toNat) ha hb hc
theorem ed_shl {i j : Int} (ha : EvD ta σ H (.int i)) (hb : EvD tb σ H (.int j)) (hc : 0 ≤ j ∧ j ≤ 1000000 ∧ i.natAbs < 2 ^ 64) : EvD (tOp (rI CPow fun i j => .int (i * 2 ^ j.toNat)) ta tb) σ H (.int (i * 2 ^ j.toNat)) :=
  ed_Ii (f := fun i j => i * 2 ^ j.toNat) ha hb hc
theorem ed_neg {i : Int} (ha : EvD ta σ H (.int i)) : EvD (tUn (rU fun i => .int (-i)) ta) σ H (.int (-i)) := fun H1 e _ q =>
  ha H1 e _ fun _ H2 e2 h => ⟨i, dp_int h, q _ H2 e2 (.int _)⟩
theorem ed_eqD {a b : PyData} (ha : EvD ta σ H a) (hb : EvD tb σ H b) (h1 : SeqAt.shaped a = true) (h2 : SeqAt.shaped b = true) : EvD (tOp (rEqD K) ta tb) σ H (.bool (PyData.eqv a b)) :=
  ed_op ha hb fun _ _ H1 _ d1 d2 _ q => ⟨a, b, rp_dp d1, rp_dp d2, h1, h2, q _ H1 (Ex.refl H1) (.bl _)⟩
theorem ed_neD {a b : PyData} (ha : EvD ta σ H a) (hb : EvD tb σ H b) (h1 : SeqAt.shaped a = true) (h2 : SeqAt.shaped b = true) : EvD (tOp (rNeD K) ta tb) σ H (.bool (!PyData.eqv a b)) :=
  ed_op ha hb fun _ _ H1 _ d1 d2 _ q => ⟨a, b, rp_dp d1, rp_dp d2, h1, h2, q _ H1 (Ex.refl H1) (.bl _)⟩
theorem ed_adds {a b : Str} (ha : EvD ta σ H (.str a)) (hb : EvD tb σ H (.str b)) (hl : a.length + b.length ≤ sizeLine) :
    EvD (tOp (fun x y H Q => ∃ i j, x = .str i ∧ y = .str j ∧ i.length + j.length ≤ sizeLine ∧ Q (.str (i ++ j)) H) ta tb) σ H (.str (a ++ b)) :=
  ed_op ha hb fun _ _ H1 _ d1 d2 _ q => ⟨a, b, dp_str d1, dp_str d2, hl, q _ H1 (Ex.refl H1) (.str _)⟩
/-! places -/
theorem ed_ixL {ds : List PyData} {i : Int} (ha : EvD ta σ H (.list ds)) (hb : EvD tb σ H (.int i)) (h0 : 0 ≤ i) (hd : ds[i.toNat]? = some d) : EvD (tOp (rIxL K) ta tb) σ H d :=
  ed_op ha hb fun _ _ H1 _ d1 d2 _ q => by
    obtain ⟨a, xs, rfl, hs, hx⟩ := dp_list d1
    obtain ⟨v, hv, dv⟩ := dpa_get hx hd
    have e := atI_nat hv
    rw [Int.toNat_of_nonneg h0] at e
    exact ⟨a, xs, i, v, rfl, dp_int d2, SqL.of hs, e, q _ H1 (Ex.refl H1) dv⟩
theorem ed_ixT {ds : List PyData} {i : Int} (ha : EvD ta σ H (.tuple ds)) (hb : EvD tb σ H (.int i)) (h0 : 0 ≤ i) (hd : ds[i.toNat]? = some d) : EvD (tOp (rIxT K) ta tb) σ H d :=
  ed_op ha hb fun _ _ H1 _ d1 d2 _ q => by
    obtain ⟨a, xs, rfl, hs, hx⟩ := dp_tup d1
    obtain ⟨v, hv, dv⟩ := dpa_get hx hd
    have e := atI_nat hv
    rw [Int.toNat_of_nonneg h0] at e
    exact ⟨a, xs, i, v, rfl, dp_int d2, SqT.of hs, e, q _ H1 (Ex.refl H1) dv⟩
/-! truths -/
theorem ed_and {a b : Bool} (h1 : EvD ta σ H (.bool a)) (h2 : a = true → EvD tb σ H (.bool b)) : EvD (tAndV ta tb) σ H (.bool (a && b)) := fun H1 e Q q => h1 H1 e _ fun v H2 e2 hv => ⟨a, dp_bl hv, by
  cases a with
  | true =>
    show tb σ H2 Q
    exact h2 rfl H2 (e.trans e2) Q fun w H3 e3 hw => q w H3 (e2.trans e3) hw
  | false =>
    show Q (.bl false) H2
    exact q _ H2 e2 (.bl _)⟩
theorem ed_or {a b : Bool} (h1 : EvD ta σ H (.bool a)) (h2 : a = false → EvD tb σ H (.bool b)) : EvD (tOrV ta tb) σ H (.bool (a || b)) := fun H1 e Q q => h1 H1 e _ fun v H2 e2 hv => ⟨a, dp_bl hv, by
  cases a with
  | true =>
    show Q (.bl true) H2
    exact q _ H2 e2 (.bl _)
  | false =>
    show tb σ H2 Q
    exact h2 rfl H2 (e.trans e2) Q fun w H3 e3 hw => q w H3 (e2.trans e3) hw⟩
theorem ed_not {a : Bool} (h1 : EvD ta σ H (.bool a)) : EvD (tNotV ta) σ H (.bool (!a)) := fun H1 e _ q => h1 H1 e _ fun _ H2 e2 hv => ⟨a, dp_bl hv, q _ H2 e2 (.bl _)⟩
theorem ed_if {b : Bool} (h : EvT t σ H b) (h1 : b = true → EvD ta σ H d) (h2 : b = false → EvD tb σ H d) : EvD (tIf t ta tb) σ H d := fun H1 e Q q => h H1 e _ fun H2 e2 => by
  cases b with
  | true =>
    show ta σ H2 Q
    exact h1 rfl H2 (e.trans e2) Q fun w H3 e3 hw => q w H3 (e2.trans e3) hw
  | false =>
    show tb σ H2 Q
    exact h2 rfl H2 (e.trans e2) Q fun w H3 e3 hw => q w H3 (e2.trans e3) hw
/-- a chain of two comparisons of whole numbers -/
theorem ed_chain {f g : Int → Int → Bool} {i j k : Int} (ha : EvD ta σ H (.int i)) (hb : EvD tb σ H (.int j)) (hc : f i j = true → EvD tc σ H (.int k)) :
    EvD (tChain (rI0 fun i j => .bl (f i j)) (rI0 fun i j => .bl (g i j)) ta tb tc) σ H (.bool (f i j && g j k)) := fun H1 e Q q =>
  ha H1 e _ fun v H2 e2 hv => hb H2 (e.trans e2) _ fun w H3 e3 hw => ⟨i, j, dp_int hv, dp_int hw, f i j, rfl, by
    cases hf : f i j with
    | true =>
      show tc σ H3 _
      refine hc hf H3 ((e.trans e2).trans e3) _ fun z H4 e4 hz => ⟨j, k, dp_int hw, dp_int hz, ?_⟩
      exact q _ H4 ((e2.trans e3).trans e4) (by rw [hf]; exact .bl _)
    | false =>
      show Q (.bl false) H3
      exact q _ H3 (e2.trans e3) (by rw [hf]; exact .bl _)⟩
/-! tests -/
theorem dt_test {b : Bool} (h : EvD te σ H (.bool b)) : EvT (tTest te) σ H b := fun H1 e _ q => h H1 e _ fun _ H2 e2 hv => ⟨b, dp_bl hv, q H2 e2⟩
theorem dt_B {b : Bool} (h : EvD te σ H (.bool b)) : EvT (tB te) σ H b := fun H1 e _ q => h H1 e _ fun _ H2 e2 hv => ⟨b, dp_bl hv, q H2 e2⟩
theorem dt_truI {i : Int} (h : EvD te σ H (.int i)) : EvT (fun σ H Q => te σ H fun x H' => ∃ k, TruV K x H' k ∧ Q k H') σ H (i != 0) := fun H1 e _ q => h H1 e _ fun v H2 e2 hv => by
  cases dp_int hv
  exact ⟨_, rfl, q H2 e2⟩
/-! calls -/
/-- a promise over data: R tells what comes back for what goes in -/
def spR (R : List PyData → PyData → Prop) : Sp := fun vs H Q _ => ∃ ds d, RpAll H vs ds ∧ R ds d ∧ ∀ v H2, Ex H H2 → Rp H2 v d → Q v H2
theorem ed_call {R : List PyData → PyData → Prop} {E : XK} {ta : TA} {ds : List PyData} (h : EvDA ta σ H ds) (hR : R ds d) : EvD (tCall (spR R) [] E ta) σ H d := fun H1 e _ q =>
  h H1 e _ fun vs H2 e2 hv => ⟨ds, d, by rw [List.append_nil]; exact hv, hR, fun v H3 e3 hd => q v H3 (e2.trans e3) hd⟩
theorem ed_cb1 {r : List V → Hp → VK → Prop} {ta : TA} {ds : List PyData} (h : EvDA ta σ H ds) (hr : ∀ vs H1, Ex H H1 → RpAll H1 vs ds → ∀ Q : VK, (∀ z H2, Ex H1 H2 → Rp H2 z d → Q z H2) → r vs H1 Q) : EvD (tCB r ta) σ H d := fun H1 e Q q =>
  h H1 e _ fun vs H2 e2 hv => hr vs H2 (e.trans e2) hv Q fun z H3 e3 hz => q z H3 (e2.trans e3) hz
theorem ed_len {ds : List PyData} (h : EvD te σ H (.list ds)) : EvD (tCB (rLenQ K) (tCons te tNil)) σ H (.int ds.length) :=
  ed_cb1 (da_cons h da_nil) fun _ H1 _ hv _ q => by
    obtain ⟨v, rfl, rv⟩ := dpa_one hv
    obtain ⟨a, xs, rfl, hs, hx⟩ := dp_list rv
    exact ⟨a, xs, rfl, .inl (SqL.of hs), q _ H1 (Ex.refl H1) (by rw [dpa_len hx]; exact .int _)⟩
theorem ed_lenT {ds : List PyData} (h : EvD te σ H (.tuple ds)) : EvD (tCB (rLenQ K) (tCons te tNil)) σ H (.int ds.length) :=
  ed_cb1 (da_cons h da_nil) fun _ H1 _ hv _ q => by
    obtain ⟨v, rfl, rv⟩ := dpa_one hv
    obtain ⟨a, xs, rfl, hs, hx⟩ := dp_tup rv
    exact ⟨a, xs, rfl, .inr (SqT.of hs), q _ H1 (Ex.refl H1) (by rw [dpa_len hx]; exact .int _)⟩
theorem ed_lenS {s : Str} (h : EvD te σ H (.str s)) (hl : s.length ≤ sizeLine) : EvD (tCB (fun xs H Q => ∃ z, xs = [.str z] ∧ z.length ≤ sizeLine ∧ Q (.int z.length) H) (tCons te tNil)) σ H (.int s.length) :=
  ed_cb1 (da_cons h da_nil) fun _ H1 _ hv _ q => by
    obtain ⟨v, rfl, rv⟩ := dpa_one hv
    cases dp_str rv
    exact ⟨s, rfl, hl, q _ H1 (Ex.refl H1) (.int _)⟩
def absI (i : Int) : Int := if i < 0 then -i else i
theorem ed_abs {i : Int} (h : EvD te σ H (.int i)) : EvD (tCB (fun xs H Q => ∃ i, xs = [.int i] ∧ Q (.int (if i < 0 then -i else i)) H) (tCons te tNil)) σ H (.int (absI i)) :=
  ed_cb1 (da_cons h da_nil) fun _ H1 _ hv _ q => by
    obtain ⟨v, rfl, rv⟩ := dpa_one hv
    cases dp_int rv
    exact ⟨i, rfl, q _ H1 (Ex.refl H1) (.int _)⟩
theorem ed_min2 {i j : Int} (ha : EvD ta σ H (.int i)) (hb : EvD tb σ H (.int j)) : EvD (tCB (fun xs H Q => ∃ i j, xs = [.int i, .int j] ∧ Q (.int (if j < i then j else i)) H) (tCons ta (tCons tb tNil))) σ H (.int (if j < i then j else i)) :=
  ed_cb1 (da_cons ha (da_cons hb da_nil)) fun _ H1 _ hv _ q => by
    obtain ⟨v, w, rfl, rv, rw1⟩ := dpa_two hv
    cases dp_int rv
    cases dp_int rw1
    exact ⟨i, j, rfl, q _ H1 (Ex.refl H1) (.int _)⟩
theorem ed_max2 {i j : Int} (ha : EvD ta σ H (.int i)) (hb : EvD tb σ H (.int j)) : EvD (tCB (fun xs H Q => ∃ i j, xs = [.int i, .int j] ∧ Q (.int (if j > i then j else i)) H) (tCons ta (tCons tb tNil))) σ H (.int (if j > i then j else i)) :=
  ed_cb1 (da_cons ha (da_cons hb da_nil)) fun _ H1 _ hv _ q => by
    obtain ⟨v, w, rfl, rv, rw1⟩ := dpa_two hv
    cases dp_int rv
    cases dp_int rw1
    exact ⟨i, j, rfl, q _ H1 (Ex.refl H1) (.int _)⟩
/-- the intsD of data -/
def intsD : List PyData → List Int
  | .int i :: r => i :: intsD r
  | _ => []
theorem ints_map : ∀ ns : List Int, intsD (ns.map .int) = ns
  | [] => rfl
  | n :: ns => by
    show n :: intsD (ns.map .int) = n :: ns
    rw [ints_map ns]
def bls : List PyData → List Bool
  | .bool i :: r => i :: bls r
  | _ => []
theorem bls_map : ∀ ns : List Bool, bls (ns.map .bool) = ns
  | [] => rfl
  | n :: ns => by
    show n :: bls (ns.map .bool) = n :: ns
    rw [bls_map ns]
theorem dp_ints {ds : List PyData} (he : (intsD ds).map .int = ds) (h : Rp H v (.list ds)) : ∃ a, v = .ref a ∧ H a = some (.lst ((intsD ds).map V.int)) := by
  obtain ⟨a, xs, rfl, hs, hx⟩ := dp_list h
  rw [← he] at hx
  have e := dpa_ints hx
  exact ⟨a, rfl, e ▸ hs⟩
theorem ed_sum {ds : List PyData} (h : EvD te σ H (.list ds)) (he : (intsD ds).map .int = ds) : EvD (tCB (rSum K) (tCons te tNil)) σ H (.int (intsD ds).sum) :=
  ed_cb1 (da_cons h da_nil) fun _ H1 _ hv _ q => by
    obtain ⟨v, rfl, rv⟩ := dpa_one hv
    obtain ⟨a, rfl, hs⟩ := dp_ints he rv
    exact ⟨a, _, rfl, SqL.of hs, q _ H1 (Ex.refl H1) (.int _)⟩
theorem dp_bls {ds : List PyData} (he : (bls ds).map .bool = ds) (h : Rp H v (.list ds)) : ∃ a, v = .ref a ∧ H a = some (.lst ((bls ds).map V.bl)) := by
  obtain ⟨a, xs, rfl, hs, hx⟩ := dp_list h
  rw [← he] at hx
  have e := dpa_bls hx
  exact ⟨a, rfl, e ▸ hs⟩
theorem ed_all {ds : List PyData} (h : EvD te σ H (.list ds)) (he : (bls ds).map .bool = ds) : EvD (tCB (rAll K) (tCons te tNil)) σ H (.bool ((bls ds).all id)) :=
  ed_cb1 (da_cons h da_nil) fun _ H1 _ hv _ q => by
    obtain ⟨v, rfl, rv⟩ := dpa_one hv
    obtain ⟨a, rfl, hs⟩ := dp_bls he rv
    exact ⟨a, _, rfl, SqL.of hs, q _ H1 (Ex.refl H1) (.bl _)⟩
theorem ed_any {ds : List PyData} (h : EvD te σ H (.list ds)) (he : (bls ds).map .bool = ds) : EvD (tCB (rAny K) (tCons te tNil)) σ H (.bool ((bls ds).any id)) :=
  ed_cb1 (da_cons h da_nil) fun _ H1 _ hv _ q => by
    obtain ⟨v, rfl, rv⟩ := dpa_one hv
    obtain ⟨a, rfl, hs⟩ := dp_bls he rv
    exact ⟨a, _, rfl, SqL.of hs, q _ H1 (Ex.refl H1) (.bl _)⟩
/-- sorting, as a function -/
def ins (x : Int) : List Int → List Int
  | [] => [x]
  | y :: r => if x ≤ y then x :: y :: r else y :: ins x r
def srt : List Int → List Int
  | [] => []
  | x :: r => ins x (srt r)
theorem ins_perm (x : Int) : ∀ l, (ins x l).Perm (x :: l)
  | [] => .refl _
  | y :: r => by
    unfold ins
    split
    · exact .refl _
    · exact ((ins_perm x r).cons y).trans (.swap x y r)
theorem srt_perm : ∀ l, (srt l).Perm l
  | [] => .refl _
  | x :: r => (ins_perm x (srt r)).trans ((srt_perm r).cons x)
theorem ins_sorted (x : Int) : ∀ l : List Int, l.Pairwise (· ≤ ·) → (ins x l).Pairwise (· ≤ ·)
  | [], _ => List.pairwise_singleton _ _
  | y :: r, h => by
    obtain ⟨h1, h2⟩ := List.pairwise_cons.mp h
    unfold ins
    split
    · rename_i hxy
      refine List.pairwise_cons.mpr ⟨fun z hz => ?_, h⟩
      rcases List.mem_cons.mp hz with rfl | hz
      · exact hxy
      · exact Int.le_trans hxy (h1 z hz)
    · rename_i hxy
      refine List.pairwise_cons.mpr ⟨fun z hz => ?_, ins_sorted x r h2⟩
      rcases List.mem_cons.mp ((ins_perm x r).mem_iff.mp hz) with rfl | hz
      · omega
      · exact h1 z hz
theorem srt_sorted : ∀ l : List Int, (srt l).Pairwise (· ≤ ·)
  | [] => List.Pairwise.nil
  | x :: r => ins_sorted x _ (srt_sorted r)
theorem sorted_unique : ∀ {l l' : List Int}, l.Perm l' → l.Pairwise (· ≤ ·) → l'.Pairwise (· ≤ ·) → l = l'
  | [], l', p, _, _ => (p.nil_eq)
  | x :: r, [], p, _, _ => by cases p.eq_nil
  | x :: r, y :: r', p, h, h' => by
    obtain ⟨h1, h2⟩ := List.pairwise_cons.mp h
    obtain ⟨h1', h2'⟩ := List.pairwise_cons.mp h'
    have e : x = y := by
      have a : y ≤ x := by
        rcases List.mem_cons.mp (p.mem_iff.mp List.mem_cons_self) with e | m
        · omega
        · exact h1' x m
      have b : x ≤ y := by
        rcases List.mem_cons.mp (p.mem_iff.mpr List.mem_cons_self) with e | m
        · omega
        · exact h1 y m
      omega
    subst e
    rw [sorted_unique (List.Perm.cons_inv p) h2 h2']
theorem srt_eq {l l' : List Int} (p : l'.Perm l) (h : l'.Pairwise (· ≤ ·)) : l' = srt l := sorted_unique (p.trans (srt_perm l).symm) h (srt_sorted l)
theorem srt_id {l : List Int} (h : l.Pairwise (· ≤ ·)) : srt l = l := (srt_eq (.refl l) h).symm
theorem ed_sorted {ds : List PyData} (h : EvD te σ H (.list ds)) (he : (intsD ds).map .int = ds) : EvD (tCB (rSortedI K) (tCons te tNil)) σ H (.list ((srt (intsD ds)).map .int)) :=
  ed_cb1 (da_cons h da_nil) fun _ H1 _ hv _ q => by
    obtain ⟨v, rfl, rv⟩ := dpa_one hv
    obtain ⟨a, rfl, hs⟩ := dp_ints he rv
    exact ⟨a, _, rfl, SqL.of hs, fun ns' p hp hsr hn => by
      rw [srt_eq hp hsr]
      exact q _ _ (Ex.new hn) (.lst upd_same (dpa_of_ints _ _))⟩
def minL : Int → List Int → Int
  | x, [] => x
  | x, y :: r => minL (if y < x then y else x) r
def maxL : Int → List Int → Int
  | x, [] => x
  | x, y :: r => maxL (if x < y then y else x) r
theorem minL_mem : ∀ (x : Int) (r : List Int), minL x r ∈ x :: r
  | x, [] => List.mem_cons_self
  | x, y :: r => by
    show minL (if y < x then y else x) r ∈ x :: y :: r
    have h := minL_mem (if y < x then y else x) r
    rcases List.mem_cons.mp h with h | h
    · rw [h]
      split
      · exact List.mem_cons_of_mem _ List.mem_cons_self
      · exact List.mem_cons_self
    · exact List.mem_cons_of_mem _ (List.mem_cons_of_mem _ h)
theorem minL_le : ∀ (x : Int) (r : List Int), ∀ z ∈ x :: r, minL x r ≤ z
  | x, [], z, hz => by
    cases List.mem_singleton.mp hz
    exact Int.le_refl _
  | x, y :: r, z, hz => by
    show minL (if y < x then y else x) r ≤ z
    have h := minL_le (if y < x then y else x) r
    have h0 := h _ List.mem_cons_self
    rcases List.mem_cons.mp hz with rfl | hz
    · split at h0 <;> split <;> omega
    · rcases List.mem_cons.mp hz with rfl | hz
      · split at h0 <;> split <;> omega
      · exact h z (List.mem_cons_of_mem _ hz)
theorem maxL_mem : ∀ (x : Int) (r : List Int), maxL x r ∈ x :: r
  | x, [] => List.mem_cons_self
  | x, y :: r => by
    show maxL (if x < y then y else x) r ∈ x :: y :: r
    have h := maxL_mem (if x < y then y else x) r
    rcases List.mem_cons.mp h with h | h
    · rw [h]
      split
      · exact List.mem_cons_of_mem _ List.mem_cons_self
      · exact List.mem_cons_self
    · exact List.mem_cons_of_mem _ (List.mem_cons_of_mem _ h)
theorem maxL_ge : ∀ (x : Int) (r : List Int), ∀ z ∈ x :: r, z ≤ maxL x r
  | x, [], z, hz => by
    cases List.mem_singleton.mp hz
    exact Int.le_refl _
  | x, y :: r, z, hz => by
    show z ≤ maxL (if x < y then y else x) r
    have h := maxL_ge (if x < y then y else x) r
    have h0 := h _ List.mem_cons_self
    rcases List.mem_cons.mp hz with rfl | hz
    · split at h0 <;> split <;> omega
    · rcases List.mem_cons.mp hz with rfl | hz
      · split at h0 <;> split <;> omega
      · exact h z (List.mem_cons_of_mem _ hz)
theorem ed_minL {a : Int} {ns : List Int} (h : EvD te σ H (.list (.int a :: ns.map .int))) : EvD (tCB (rMin K) (tCons te tNil)) σ H (.int (minL a ns)) :=
  ed_cb1 (da_cons h da_nil) fun _ H1 _ hv _ q => by
    obtain ⟨v, rfl, rv⟩ := dpa_one hv
    obtain ⟨a', xs, rfl, hs, hx⟩ := dp_list rv
    have e := dpa_ints (ns := a :: ns) hx
    refine ⟨a', a :: ns, rfl, SqL.of (e ▸ hs), Nat.zero_lt_succ _, fun m hm hle => ?_⟩
    have e2 : m = minL a ns := Int.le_antisymm (hle _ (minL_mem a ns)) (minL_le a ns m hm)
    rw [e2]
    exact q _ H1 (Ex.refl H1) (.int _)
theorem ed_maxL {a : Int} {ns : List Int} (h : EvD te σ H (.list (.int a :: ns.map .int))) : EvD (tCB (rMax K) (tCons te tNil)) σ H (.int (maxL a ns)) :=
  ed_cb1 (da_cons h da_nil) fun _ H1 _ hv _ q => by
    obtain ⟨v, rfl, rv⟩ := dpa_one hv
    obtain ⟨a', xs, rfl, hs, hx⟩ := dp_list rv
    have e := dpa_ints (ns := a :: ns) hx
    refine ⟨a', a :: ns, rfl, SqL.of (e ▸ hs), Nat.zero_lt_succ _, fun m hm hle => ?_⟩
    have e2 : m = maxL a ns := Int.le_antisymm (maxL_ge a ns m hm) (hle _ (maxL_mem a ns))
    rw [e2]
    exact q _ H1 (Ex.refl H1) (.int _)
theorem ed_min_2 {a b : Int} (h : EvD te σ H (.list [.int a, .int b])) : EvD (tCB (rMin K) (tCons te tNil)) σ H (.int (if b < a then b else a)) := ed_minL (ns := [b]) h
theorem ed_max_2 {a b : Int} (h : EvD te σ H (.list [.int a, .int b])) : EvD (tCB (rMax K) (tCons te tNil)) σ H (.int (if a < b then b else a)) := ed_maxL (ns := [b]) h
/-- list(xs), tuple(xs) -/
theorem ed_listof {ds : List PyData} (h : EvD te σ H (.list ds)) : EvD (tCB (rListQ K) (tCons te tNil)) σ H (.list ds) :=
  ed_cb1 (da_cons h da_nil) fun _ H1 _ hv _ q => by
    obtain ⟨v, rfl, rv⟩ := dpa_one hv
    obtain ⟨a, xs, rfl, hs, hx⟩ := dp_list rv
    exact ⟨a, xs, rfl, .inl (SqL.of hs), fun l hl => q _ _ (Ex.new hl) (.lst upd_same (dpa_mono (Ex.new hl) hx))⟩
theorem ed_tupof {ds : List PyData} (h : EvD te σ H (.list ds)) : EvD (tCB (rTupQ K) (tCons te tNil)) σ H (.tuple ds) :=
  ed_cb1 (da_cons h da_nil) fun _ H1 _ hv _ q => by
    obtain ⟨v, rfl, rv⟩ := dpa_one hv
    obtain ⟨a, xs, rfl, hs, hx⟩ := dp_list rv
    exact ⟨a, xs, rfl, .inl ⟨SqL.of hs, fun l hl => q _ _ (Ex.new hl) (.tup upd_same (dpa_mono (Ex.new hl) hx))⟩⟩
theorem ed_strof {i : Int} (h : EvD te σ H (.int i)) (hl : i.natAbs.log2 < 1920) : EvD (tCB (fun xs H Q => ∃ i, xs = [.int i] ∧ i.natAbs.log2 < 1920 ∧ Q (.str (toString i)) H) (tCons te tNil)) σ H (.str (toString i)) :=
  ed_cb1 (da_cons h da_nil) fun _ H1 _ hv _ q => by
    obtain ⟨v, rfl, rv⟩ := dpa_one hv
    cases dp_int rv
    exact ⟨i, rfl, hl, q _ H1 (Ex.refl H1) (.str _)⟩
/-- xs + ys -/
theorem ed_cat {ds es : List PyData} (ha : EvD ta σ H (.list ds)) (hb : EvD tb σ H (.list es)) (hl : ds.length + es.length ≤ 100000) : EvD (tOp rCat ta tb) σ H (.list (ds ++ es)) :=
  ed_op ha hb fun _ _ H1 _ d1 d2 _ q => by
    obtain ⟨a, xs, rfl, hs, hx⟩ := dp_list d1
    obtain ⟨b, ys, rfl, ht, hy⟩ := dp_list d2
    exact ⟨a, b, xs, ys, rfl, rfl, hs, ht, by rw [dpa_len hx, dpa_len hy]; exact sz_of hl, fun p hp => q _ _ (Ex.new hp) (.lst upd_same (dpa_mono (Ex.new hp) (dpa_app hx hy)))⟩
/-- isinstance with a built-in class, of data -/
def tyOf : PyData → String
  | .none => "NoneType"
  | .bool _ => "bool"
  | .int _ => "int"
  | .str _ => "str"
  | .list _ => "list"
  | .tuple _ => "tuple"
  | .dict _ => "dict"
theorem rp_ty : ∀ {v : V} {d : PyData}, Rp H v d → TyX K H v (.type (tyOf d))
  | _, _, .non => .base .non
  | _, _, .bl b => .base (.bl b)
  | _, _, .int i => .base (.int i)
  | _, _, .str s => .base (.str s)
  | _, _, .lst h _ => .base (.lst h)
  | _, _, .tup h _ => .base (.tup h)
def isi_int : PyData → Bool
  | .int _ => true
  | .bool _ => true
  | _ => false
def isi_bool : PyData → Bool
  | .bool _ => true
  | _ => false
def isi_tuple : PyData → Bool
  | .tuple _ => true
  | _ => false
def isi_list : PyData → Bool
  | .list _ => true
  | _ => false
def isi_str : PyData → Bool
  | .str _ => true
  | _ => false
theorem kit_int : ∀ d : PyData, kitB (tyOf d) "int" = some (isi_int d)
  | .none => (by decide +kernel : kitB "NoneType" "int" = some false)
  | .bool _ => (by decide +kernel : kitB "bool" "int" = some true)
  | .int _ => (by decide +kernel : kitB "int" "int" = some true)
  | .str _ => (by decide +kernel : kitB "str" "int" = some false)
  | .list _ => (by decide +kernel : kitB "list" "int" = some false)
  | .tuple _ => (by decide +kernel : kitB "tuple" "int" = some false)
  | .dict _ => (by decide +kernel : kitB "dict" "int" = some false)
theorem kit_bool : ∀ d : PyData, kitB (tyOf d) "bool" = some (isi_bool d)
  | .none => (by decide +kernel : kitB "NoneType" "bool" = some false)
  | .bool _ => (by decide +kernel : kitB "bool" "bool" = some true)
  | .int _ => (by decide +kernel : kitB "int" "bool" = some false)
  | .str _ => (by decide +kernel : kitB "str" "bool" = some false)
  | .list _ => (by decide +kernel : kitB "list" "bool" = some false)
  | .tuple _ => (by decide +kernel : kitB "tuple" "bool" = some false)
  | .dict _ => (by decide +kernel : kitB "dict" "bool" = some false)
theorem kit_tuple : ∀ d : PyData, kitB (tyOf d) "tuple" = some (isi_tuple d)
  | .none => (by decide +kernel : kitB "NoneType" "tuple" = some false)
  | .bool _ => (by decide +kernel : kitB "bool" "tuple" = some false)
  | .int _ => (by decide +kernel : kitB "int" "tuple" = some false)
  | .str _ => (by decide +kernel : kitB "str" "tuple" = some false)
  | .list _ => (by decide +kernel : kitB "list" "tuple" = some false)
  | .tuple _ => (by decide +kernel : kitB "tuple" "tuple" = some true)
  | .dict _ => (by decide +kernel : kitB "dict" "tuple" = some false)
theorem kit_list : ∀ d : PyData, kitB (tyOf d) "list" = some (isi_list d)
  | .none => (by decide +kernel : kitB "NoneType" "list" = some false)
  | .bool _ => (by decide +kernel : kitB "bool" "list" = some false)
  | .int _ => (by decide +kernel : kitB "int" "list" = some false)
  | .str _ => (by decide +kernel : kitB "str" "list" = some false)
  | .list _ => (by decide +kernel : kitB "list" "list" = some true)
  | .tuple _ => (by decide +kernel : kitB "tuple" "list" = some false)
  | .dict _ => (by decide +kernel : kitB "dict" "list" = some false)
theorem kit_str : ∀ d : PyData, kitB (tyOf d) "str" = some (isi_str d)
  | .none => (by decide +kernel : kitB "NoneType" "str" = some false)
  | .bool _ => (by decide +kernel : kitB "bool" "str" = some false)
  | .int _ => (by decide +kernel : kitB "int" "str" = some false)
  | .str _ => (by decide +kernel : kitB "str" "str" = some true)
  | .list _ => (by decide +kernel : kitB "list" "str" = some false)
  | .tuple _ => (by decide +kernel : kitB "tuple" "str" = some false)
  | .dict _ => (by decide +kernel : kitB "dict" "str" = some false)
theorem le_lit {n m : Nat} (h : Nat.ble n m = true) : n ≤ m := Nat.le_of_ble_eq_true h
theorem ed_isi {T : String} {b : Bool} (h : EvD te σ H d) (hk : kitB (tyOf d) T = some b) : EvD (tCB (rIsi K) (tCons te (tCons (tC (.ty T)) tNil))) σ H (.bool b) := fun H1 e _ q =>
  h H1 e _ fun v H2 e2 hv => ⟨v, .ty T, .type (tyOf d), .type T, b, rfl, .ty T, rp_ty hv, kit_ty hk, q _ H2 e2 (.bl b)⟩
/-! #### a list that grows: what it holds stands apart from it -/
def offH (H : Hp) (p : Addr) : Hp := fun b => if b = p then none else H b
theorem off_ne {p b : Addr} (h : b ≠ p) : offH H p b = H b := by unfold offH; rw [if_neg h]
theorem off_same {p : Addr} : offH H p p = none := by unfold offH; rw [if_pos rfl]
theorem off_upd {p : Addr} {o : HO} : offH (upd H p o) p = offH H p := by
  funext b
  by_cases h : b = p
  · rw [h, off_same, off_same]
  · rw [off_ne h, off_ne h, upd_ne h]
theorem off_ex {p : Addr} : Ex (offH H p) H := fun a o h => by
  by_cases e : a = p
  · rw [e, off_same] at h
    cases h
  · rw [off_ne e] at h
    exact h
theorem off_mono {p : Addr} (e : Ex H H') : Ex (offH H p) (offH H' p) := fun a o h => by
  by_cases q : a = p
  · rw [q, off_same] at h
    cases h
  · rw [off_ne q] at h ⊢
    exact e a o h
theorem ex_off {p : Addr} (e : Ex H H') (h : H p = none) : Ex H (offH H' p) := fun a o ha => by
  rw [off_ne (ne_of_none ha h)]
  exact e a o ha
mutual
/-- no list within -/
def noL : PyData → Bool
  | .list _ => false
  | .dict _ => false
  | .tuple ds => noLs ds
  | .none => true
  | .bool _ => true
  | .int _ => true
  | .str _ => true
def noLs : List PyData → Bool
  | [] => true
  | d :: r => noL d && noLs r
end
mutual
theorem rp_off {p : Addr} {zs : List V} (hp : H p = some (.lst zs)) : ∀ {v : V} {d : PyData}, Rp H v d → noL d = true → Rp (offH H p) v d
  | _, _, .non, _ => .non
  | _, _, .bl b, _ => .bl b
  | _, _, .int i, _ => .int i
  | _, _, .str x, _ => .str x
  | _, _, .lst _ _, n => nomatch n
  | _, _, .tup h a, n => .tup (by rw [off_ne (ne_of h hp (fun z => nomatch z))]; exact h) (rpa_off hp a n)
theorem rpa_off {p : Addr} {zs : List V} (hp : H p = some (.lst zs)) : ∀ {vs : List V} {ds : List PyData}, RpAll H vs ds → noLs ds = true → RpAll (offH H p) vs ds
  | _, _, .nil, _ => .nil
  | _, _, .cons a b, n => .cons (rp_off hp a (Bool.and_eq_true_iff.mp n).1) (rpa_off hp b (Bool.and_eq_true_iff.mp n).2)
end
/-- at p stands a list of such data, apart from it -/
def Grows (H : Hp) (p : Addr) (ds : List PyData) : Prop := ∃ xs, H p = some (.lst xs) ∧ RpAll (offH H p) xs ds
theorem Grows.rp {p : Addr} {ds : List PyData} (h : Grows H p ds) : Rp H (.ref p) (.list ds) := by
  obtain ⟨xs, h1, h2⟩ := h
  exact .lst h1 (dpa_mono off_ex h2)
theorem Grows.ex {p : Addr} {ds : List PyData} (h : Grows H p ds) (e : Ex H H') : Grows H' p ds := by
  obtain ⟨xs, h1, h2⟩ := h
  exact ⟨xs, e _ _ h1, dpa_mono (off_mono e) h2⟩
theorem Grows.nil {p : Addr} : Grows (upd H p (.lst [])) p [] := ⟨[], upd_same, .nil⟩
theorem Grows.of_nil {p : Addr} (h : H p = some (.lst [])) : Grows H p [] := ⟨[], h, .nil⟩
theorem noLs_ints : ∀ ns : List Int, noLs (ns.map .int) = true
  | [] => rfl
  | n :: ns => by
    show (true && noLs (ns.map .int)) = true
    rw [noLs_ints ns]
    rfl
theorem rpa_offI {p : Addr} : ∀ {vs : List V} {ns : List Int}, RpAll H vs (ns.map .int) → RpAll (offH H p) vs (ns.map .int) := fun h => by
  have e := dpa_ints h
  subst e
  exact dpa_of_ints _ _
/-- a comprehension's turn -/
def PcD (H : Hp) (p : Addr) (ds : List PyData) (H' : Hp) : Prop := Ex H H' ∧ Grows H' p ds
theorem pc_turn {H1 : Hp} {σ2 : L2.St} {p : Addr} {ds : List PyData} {b : Bool} (P : PcD H1 p ds H') (hp : H1 p = none) (hi : ds.length < 50000) (ht : EvT t σ2 H1 b) (he : b = true → EvD te σ2 H1 d) (hn : b = true → noL d = true) :
    t σ2 H' fun b' H3 => if b' = true then te σ2 H3 fun y H4 => ∃ acc, H4 p = some (.lst acc) ∧ acc.length < sizeLine ∧ PcD H1 p (if b then ds ++ [d] else ds) (upd H4 p (.lst (acc ++ [y]))) else PcD H1 p (if b then ds ++ [d] else ds) H3 := by
  obtain ⟨p1, p2⟩ := P
  refine ht H' p1 _ fun H3 e3 => ?_
  cases hb : b with
  | true =>
    show te σ2 H3 fun y H4 => ∃ acc, H4 p = some (.lst acc) ∧ acc.length < sizeLine ∧ PcD H1 p (ds ++ [d]) (upd H4 p (.lst (acc ++ [y])))
    refine he hb H3 (p1.trans e3) _ fun y H4 e4 hy => ?_
    obtain ⟨xs, h1, h2⟩ := (p2.ex e3).ex e4
    refine ⟨xs, h1, ?_, Ex.mut ((p1.trans e3).trans e4) hp, xs ++ [y], upd_same, ?_⟩
    · rw [dpa_len h2]
      exact sz_lt (by omega)
    · rw [off_upd]
      exact dpa_app h2 (.cons (rp_off h1 hy (hn hb)) .nil)
  | false =>
    show PcD H1 p ds H3
    exact ⟨p1.trans e3, p2.ex e3⟩
theorem take_filter_map {α : Type} {xs : List α} {i : Nat} {x : α} (h : xs[i]? = some x) (f : α → Bool) (g : α → PyData) :
    ((xs.take (i + 1)).filter f).map g = if f x then ((xs.take i).filter f).map g ++ [g x] else ((xs.take i).filter f).map g := by
  rw [List.take_add_one, h, List.filter_append, List.map_append]
  show _ ++ ((List.filter f [x]).map g) = _
  cases hf : f x with
  | true => rw [List.filter_cons, if_pos hf]; rfl
  | false =>
    rw [List.filter_cons, if_neg (by rw [hf]; decide)]
    show _ ++ [] = _
    rw [List.append_nil]; rfl
theorem flen {α : Type} (xs : List α) (i : Nat) (f : α → Bool) (g : α → PyData) : (((xs.take i).filter f).map g).length ≤ xs.length := by
  rw [List.length_map]
  have h1 := List.length_filter_le f (xs.take i)
  have h2 : (xs.take i).length ≤ xs.length := by rw [List.length_take]; omega
  omega
/-- [e for x in xs if t], xs a list of data -/
theorem ed_lcLF {tl : TE} {j : Nat} {vs : List Nat} {ds : List PyData} (p : PyData → Bool) (f : PyData → PyData) (h : EvD tl σ H (.list ds)) (hz : ds.length ≤ 40000) (hw : ∀ x, wipe ((wipe σ vs).set j (some x)) vs = wipe σ vs)
    (ht : ∀ v d H1, Ex H H1 → d ∈ ds → Rp H1 v d → EvT t ((wipe σ vs).set j (some v)) H1 (p d)) (he : ∀ v d H1, Ex H H1 → d ∈ ds → Rp H1 v d → p d = true → EvD te ((wipe σ vs).set j (some v)) H1 (f d)) (hn : ∀ d ∈ ds, p d = true → noL (f d) = true) :
    EvD (tLc (iList K tl) (gName j) t te vs) σ H (.list ((ds.filter p).map f)) := fun H0 e Q q => h H0 e _ fun v H1 e1 hv => by
  obtain ⟨a, xs, rfl, hs, hx⟩ := dp_list hv
  refine ⟨a, rfl, ⟨xs, SqL.of hs⟩, fun D hD => ?_⟩
  refine lc_list (xs := xs) (fun i => PcD H1 D (((ds.take i).filter p).map f)) ⟨Ex.new hD, Grows.nil⟩ (fun i H' _ P => SqL.of (P.1 _ _ hs)) (fun i x H' hi P => ?_) (fun H' P => ?_)
  · obtain ⟨d, hd, rx⟩ := dpa_get' hx hi
    have hm : d ∈ ds := List.mem_of_getElem? hd
    refine ⟨hw x, ?_⟩
    have T := pc_turn (t := t) (te := te) (d := f d) (σ2 := (wipe σ vs).set j (some x)) P hD (by have := flen ds i p f; omega) (ht x d H1 (e.trans e1) hm rx) (fun hp => he x d H1 (e.trans e1) hm rx hp) (hn d hm)
    rw [← take_filter_map hd p f] at T
    exact T
  · have el := dpa_len hx
    have P' : PcD H1 D (((ds.take xs.length).filter p).map f) H' := P
    rw [el, List.take_length] at P'
    exact q _ H' (e1.trans P'.1) P'.2.rp
theorem tYes_ev {σ2 : L2.St} : EvT tYes σ2 H true := fun H1 _ _ q => q H1 (Ex.refl H1)
theorem filter_yes {α : Type} (xs : List α) : xs.filter (fun _ => true) = xs := List.filter_eq_self.mpr fun _ _ => rfl
theorem ed_lcL {tl : TE} {j : Nat} {vs : List Nat} {ds : List PyData} (f : PyData → PyData) (h : EvD tl σ H (.list ds)) (hz : ds.length ≤ 40000) (hw : ∀ x, wipe ((wipe σ vs).set j (some x)) vs = wipe σ vs)
    (he : ∀ v d H1, Ex H H1 → d ∈ ds → Rp H1 v d → EvD te ((wipe σ vs).set j (some v)) H1 (f d)) (hn : ∀ d ∈ ds, noL (f d) = true) :
    EvD (tLc (iList K tl) (gName j) tYes te vs) σ H (.list (ds.map f)) := by
  have E := ed_lcLF (K := K) (te := te) (fun _ => true) f h hz hw (fun v d H1 _ _ _ => tYes_ev) (fun v d H1 e m r _ => he v d H1 e m r) (fun d m _ => hn d m)
  rw [filter_yes] at E
  exact E
theorem ed_lcT {tl : TE} {j : Nat} {vs : List Nat} {ds : List PyData} (f : PyData → PyData) (h : EvD tl σ H (.tuple ds)) (hz : ds.length ≤ 40000) (hw : ∀ x, wipe ((wipe σ vs).set j (some x)) vs = wipe σ vs)
    (he : ∀ v d H1, Ex H H1 → d ∈ ds → Rp H1 v d → EvD te ((wipe σ vs).set j (some v)) H1 (f d)) (hn : ∀ d ∈ ds, noL (f d) = true) :
    EvD (tLc (iTup K tl) (gName j) tYes te vs) σ H (.list (ds.map f)) := fun H0 e Q q => h H0 e _ fun v H1 e1 hv => by
  obtain ⟨a, xs, rfl, hs, hx⟩ := dp_tup hv
  refine ⟨a, rfl, ⟨xs, SqT.of hs⟩, fun D hD => ?_⟩
  refine lc_tup (xs := xs) (fun i => PcD H1 D (((ds.take i).filter (fun _ => true)).map f)) ⟨Ex.new hD, Grows.nil⟩ (fun i H' _ P => SqT.of (P.1 _ _ hs)) (fun i x H' hi P => ?_) (fun H' P => ?_)
  · obtain ⟨d, hd, rx⟩ := dpa_get' hx hi
    have hm : d ∈ ds := List.mem_of_getElem? hd
    refine ⟨hw x, ?_⟩
    have T := pc_turn (t := tYes) (te := te) (d := f d) (b := true) (σ2 := (wipe σ vs).set j (some x)) P hD (by have := flen ds i (fun _ => true) f; omega) tYes_ev (fun _ => he x d H1 (e.trans e1) hm rx) (fun _ => hn d hm)
    rw [← take_filter_map hd (fun _ => true) f] at T
    exact T
  · have el := dpa_len hx
    have P' : PcD H1 D (((ds.take xs.length).filter (fun _ => true)).map f) H' := P
    rw [el, List.take_length, filter_yes] at P'
    exact q _ H' (e1.trans P'.1) P'.2.rp
/-- over a range: the intsD lo, lo + c, .. -/
def rngL (lo c : Int) (n : Nat) : List Int := (List.range n).map fun (i : Nat) => lo + (i : Int) * c
theorem rngL_len (lo c : Int) (n : Nat) : (rngL lo c n).length = n := by unfold rngL; rw [List.length_map, List.length_range]
theorem rngL_get {lo c : Int} {n i : Nat} (h : i < n) : (rngL lo c n)[i]? = some (lo + (i : Int) * c) := by
  unfold rngL
  rw [List.getElem?_map, List.getElem?_range h]
  rfl
theorem rngL_mem {lo c : Int} {n : Nat} {x : Int} (h : x ∈ rngL lo c n) : ∃ i : Nat, i < n ∧ x = lo + (i : Int) * c := by
  unfold rngL at h
  obtain ⟨i, hi, e⟩ := List.mem_map.mp h
  exact ⟨i, List.mem_range.mp hi, e.symm⟩
theorem ed_lcR_core {tg : L2.TG} {j : Nat} {vs : List Nat} {lo : Int} {n : Nat} {Q : VK} {H1 : Hp} (p : Int → Bool) (f : Int → PyData) (hz : n ≤ 40000) (hw : ∀ x, wipe ((wipe σ vs).set j (some x)) vs = wipe σ vs)
    (ht : ∀ (x : Int) H1, Ex H H1 → x ∈ rngL lo 1 n → EvT t ((wipe σ vs).set j (some (.int x))) H1 (p x)) (he : ∀ (x : Int) H1, Ex H H1 → x ∈ rngL lo 1 n → p x = true → EvD te ((wipe σ vs).set j (some (.int x))) H1 (f x)) (hn : ∀ x, noL (f x) = true)
    (e1 : Ex H H1) (q : ∀ v H2, Ex H1 H2 → Rp H2 v (.list (((rngL lo 1 n).filter p).map f)) → Q v H2) : ∀ D, H1 D = none → ∃ W : Nat → Nat → Hp → Prop, (∃ m, W 0 m (upd H1 D (.lst []))) ∧ ∀ i m H, W i m H →
  ((Itr lo n).stop i H ∧ Q (.ref D) H) ∨ ((Itr lo n).go i H ∧ ∃ Nx : Hp → Prop, (∀ H', Nx H' → ∃ m', m' < m ∧ W (i + 1) m' H') ∧ ∀ x H', (Itr lo n).yld i H x H' → gName j x (wipe σ vs) H' fun σ2 H2 => wipe σ2 vs = wipe σ vs ∧ t σ2 H2 fun b H3 =>
    if b = true then te σ2 H3 fun y H4 => ∃ acc, H4 D = some (.lst acc) ∧ acc.length < sizeLine ∧ Nx (upd H4 D (.lst (acc ++ [y]))) else Nx H3) := fun D hD => by
  refine lc_range (lo := lo) (n := n) (fun i => PcD H1 D ((((rngL lo 1 n).take i).filter p).map f)) ⟨Ex.new hD, Grows.nil⟩ (fun i H' hi P => ?_) (fun H' P => ?_)
  · have hd := rngL_get (lo := lo) (c := 1) hi
    rw [Int.mul_one] at hd
    have hm : lo + (i : Int) ∈ rngL lo 1 n := List.mem_of_getElem? hd
    refine ⟨hw _, ?_⟩
    have T := pc_turn (t := t) (te := te) (d := f (lo + i)) (σ2 := (wipe σ vs).set j (some (.int (lo + i)))) P hD (by have := flen (rngL lo 1 n) i p f; rw [rngL_len] at this; omega) (ht _ H1 e1 hm) (fun hp => he _ H1 e1 hm hp) (fun _ => hn _)
    rw [← take_filter_map hd p f] at T
    exact T
  · have P' : PcD H1 D ((((rngL lo 1 n).take n).filter p).map f) H' := P
    rw [List.take_of_length_le (by rw [rngL_len]; exact Nat.le_refl _)] at P'
    exact q _ H' P'.1 P'.2.rp
theorem ed_lcR1 {ta : TA} {j : Nat} {vs : List Nat} {n : Int} (f : Int → PyData) (h : EvDA ta σ H [.int n]) (hz : n ≤ 40000) (hw : ∀ x, wipe ((wipe σ vs).set j (some x)) vs = wipe σ vs)
    (hn0 : 0 ≤ n) (he : ∀ (x : Int) H1, Ex H H1 → 0 ≤ x → x < n → EvD te ((wipe σ vs).set j (some (.int x))) H1 (f x)) (hn : ∀ x, noL (f x) = true) :
    EvD (tLc (iRng1 ta) (gName j) tYes te vs) σ H (.list ((rngL 0 1 n.toNat).map f)) := fun H0 e Q q => h H0 e _ fun vs0 H1 e1 hv => by
  obtain ⟨v, rfl, rv⟩ := dpa_one hv
  cases dp_int rv
  have q2 : ∀ v H2, Ex H1 H2 → Rp H2 v (.list (((rngL 0 1 n.toNat).filter (fun _ => true)).map f)) → Q v H2 := fun v H2 a b => by
    rw [filter_yes] at b
    exact q v H2 (e1.trans a) b
  exact ⟨n, rfl, by omega, by omega, ed_lcR_core (tg := gName j) (t := tYes) (te := te) (fun _ => true) f (by omega) hw (fun _ _ _ _ => tYes_ev) (fun x H2 a m _ => by
    obtain ⟨i, hi, rfl⟩ := rngL_mem m
    exact he _ H2 a (by omega) (by omega)) hn (e.trans e1) q2⟩
theorem ed_lcR2 {ta : TA} {j : Nat} {vs : List Nat} {lo n : Int} (f : Int → PyData) (h : EvDA ta σ H [.int lo, .int n]) (hz : 0 ≤ lo ∧ lo ≤ 40000 ∧ n ≤ 40000 ∧ -40000 ≤ n) (hw : ∀ x, wipe ((wipe σ vs).set j (some x)) vs = wipe σ vs)
    (he : ∀ (x : Int) H1, Ex H H1 → lo ≤ x → x < n → EvD te ((wipe σ vs).set j (some (.int x))) H1 (f x)) (hn : ∀ x, noL (f x) = true) :
    EvD (tLc (iRng2 ta) (gName j) tYes te vs) σ H (.list ((rngL lo 1 (n - lo).toNat).map f)) := fun H0 e Q q => h H0 e _ fun vs0 H1 e1 hv => by
  obtain ⟨v, w, rfl, hv, hw2⟩ := dpa_two hv
  cases dp_int hv
  cases dp_int hw2
  have q2 : ∀ v H2, Ex H1 H2 → Rp H2 v (.list (((rngL lo 1 (n - lo).toNat).filter (fun _ => true)).map f)) → Q v H2 := fun v H2 a b => by
    rw [filter_yes] at b
    exact q v H2 (e1.trans a) b
  exact ⟨lo, n, rfl, ⟨by omega, by omega, by omega, by omega⟩, ed_lcR_core (tg := gName j) (t := tYes) (te := te) (fun _ => true) f (by omega) hw (fun _ _ _ _ => tYes_ev) (fun x H2 a m _ => by
    obtain ⟨i, hi, rfl⟩ := rngL_mem m
    exact he _ H2 a (by omega) (by omega)) hn (e.trans e1) q2⟩

/-! #### statements -/
theorem ev_of {te : TE} (h : EvD te σ H d) (hv : ∀ v H', Rp H' v d → v = x) : Ev te σ H x := fun H1 e Q q => h H1 e Q fun v H2 e2 r => by
  rw [hv v H2 r]
  exact q H2 e2
theorem ev_int {i : Int} (h : EvD te σ H (.int i)) : Ev te σ H (.int i) := ev_of h fun _ _ r => dp_int r
theorem ev_bl {i : Bool} (h : EvD te σ H (.bool i)) : Ev te σ H (.bl i) := ev_of h fun _ _ r => dp_bl r
theorem ev_str {i : Str} (h : EvD te σ H (.str i)) : Ev te σ H (.str i) := ev_of h fun _ _ r => dp_str r
theorem ev_non (h : EvD te σ H .none) : Ev te σ H .non := ev_of h fun _ _ r => dp_non r
theorem ea1 {ta : TA} {i : Int} (h : EvDA ta σ H [.int i]) : EvA ta σ H [.int i] := fun H1 e _ q => h H1 e _ fun vs H2 e2 r => by
  obtain ⟨v, rfl, hv⟩ := dpa_one r
  cases dp_int hv
  exact q H2 e2
theorem ea2 {ta : TA} {i j : Int} (h : EvDA ta σ H [.int i, .int j]) : EvA ta σ H [.int i, .int j] := fun H1 e _ q => h H1 e _ fun vs H2 e2 r => by
  obtain ⟨v, w, rfl, hv, hw⟩ := dpa_two r
  cases dp_int hv
  cases dp_int hw
  exact q H2 e2
theorem ea3 {ta : TA} {i j k : Int} (h : EvDA ta σ H [.int i, .int j, .int k]) : EvA ta σ H [.int i, .int j, .int k] := fun H1 e _ q => h H1 e _ fun vs H2 e2 r => by
  obtain ⟨v, w, z, rfl, hv, hw, hz⟩ := dpa_three r
  cases dp_int hv
  cases dp_int hw
  cases dp_int hz
  exact q H2 e2
variable {D : Ends} {tu tw tz : TS} {g : L2.TG}
theorem s_asgD {i : Nat} (h : EvD te σ H d) (k : ∀ v H1, Ex H H1 → Rp H1 v d → D.nx (σ.set i (some v)) H1) : tAsg te (gName i) D σ H := h H (Ex.refl H) _ k
theorem q_asgD {i : Nat} (h : EvD te σ H d) (k : ∀ v H1, Ex H H1 → Rp H1 v d → tz D (σ.set i (some v)) H1) : tSeq (tAsg te (gName i)) tz D σ H := h H (Ex.refl H) _ k
theorem s_asgI {i : Nat} {n : Int} (h : EvD te σ H (.int n)) (k : ∀ H1, Ex H H1 → D.nx (σ.set i (some (.int n))) H1) : tAsg te (gName i) D σ H := s_asg (ev_int h) k
theorem q_asgI {i : Nat} {n : Int} (h : EvD te σ H (.int n)) (k : ∀ H1, Ex H H1 → tz D (σ.set i (some (.int n))) H1) : tSeq (tAsg te (gName i)) tz D σ H := q_asg (ev_int h) k
theorem q_asgB {i : Nat} {n : Bool} (h : EvD te σ H (.bool n)) (k : ∀ H1, Ex H H1 → tz D (σ.set i (some (.bl n))) H1) : tSeq (tAsg te (gName i)) tz D σ H := q_asg (ev_bl h) k
theorem q_asgS {i : Nat} {n : Str} (h : EvD te σ H (.str n)) (k : ∀ H1, Ex H H1 → tz D (σ.set i (some (.str n))) H1) : tSeq (tAsg te (gName i)) tz D σ H := q_asg (ev_str h) k
theorem s_asgS {i : Nat} {n : Str} (h : EvD te σ H (.str n)) (k : ∀ H1, Ex H H1 → D.nx (σ.set i (some (.str n))) H1) : tAsg te (gName i) D σ H := s_asg (ev_str h) k
theorem s_retD (h : EvD te σ H d) (k : ∀ v H1, Ex H H1 → Rp H1 v d → D.rt v H1) : tRet te D σ H := h H (Ex.refl H) _ k
theorem s_augI {i : Nat} {f : Int → Int → Int} {a b : Int} (hx : σ[i]? = some (some (.int a))) (h : EvD te σ H (.int b)) (k : ∀ H1, Ex H H1 → D.nx (σ.set i (some (.int (f a b)))) H1) : tAug i te (ipI f) D σ H := s_aug hx (ev_int h) k
theorem q_augI {i : Nat} {f : Int → Int → Int} {a b : Int} (hx : σ[i]? = some (some (.int a))) (h : EvD te σ H (.int b)) (k : ∀ H1, Ex H H1 → tz D (σ.set i (some (.int (f a b)))) H1) : tSeq (tAug i te (ipI f)) tz D σ H := q_aug hx (ev_int h) k
theorem s_augC {i : Nat} {C : Int → Int → Prop} {f : Int → Int → Int} {a b : Int} (hx : σ[i]? = some (some (.int a))) (h : EvD te σ H (.int b)) (hc : C a b) (k : ∀ H1, Ex H H1 → D.nx (σ.set i (some (.int (f a b)))) H1) : tAug i te (ipD C f) D σ H :=
  ⟨.int a, hx, ev_int h H (Ex.refl H) _ fun H1 e => ⟨a, b, rfl, rfl, hc, k H1 e⟩⟩
theorem q_augC {i : Nat} {C : Int → Int → Prop} {f : Int → Int → Int} {a b : Int} (hx : σ[i]? = some (some (.int a))) (h : EvD te σ H (.int b)) (hc : C a b) (k : ∀ H1, Ex H H1 → tz D (σ.set i (some (.int (f a b)))) H1) : tSeq (tAug i te (ipD C f)) tz D σ H :=
  s_augC (D := { D with nx := tz D }) hx h hc k
theorem q_next (h : D.nx σ H) : tNext D σ H := h
/-- a, b = e1, e2 -/
theorem s_parD {i j : Nat} {ta : TA} (h : EvDA ta σ H [d1, d2]) (k : ∀ v w H1, Ex H H1 → Rp H1 v d1 → Rp H1 w d2 → D.nx ((σ.set i (some v)).set j (some w)) H1) : tPar i j ta D σ H := h H (Ex.refl H) _ fun vs H1 e r => by
  obtain ⟨v, w, rfl, hv, hw⟩ := dpa_two r
  exact ⟨v, w, rfl, k v w H1 e hv hw⟩
theorem q_parD {i j : Nat} {ta : TA} (h : EvDA ta σ H [d1, d2]) (k : ∀ v w H1, Ex H H1 → Rp H1 v d1 → Rp H1 w d2 → tz D ((σ.set i (some v)).set j (some w)) H1) : tSeq (tPar i j ta) tz D σ H := s_parD (D := { D with nx := tz D }) h k
/-- a, b = a pair; a, b, c = a triple -/
theorem g_unp2 {i j : Nat} {Q : L2.St → Hp → Prop} (hv : Rp H v (.tuple [d1, d2])) (k : ∀ x y, Rp H x d1 → Rp H y d2 → Q ((σ.set i (some x)).set j (some y)) H) : gTup K 2 (gCons (gName i) (gCons (gName j) gNil)) v σ H Q := by
  obtain ⟨a, xs, rfl, hs, hx⟩ := dp_tup hv
  obtain ⟨x, y, rfl, h1, h2⟩ := dpa_two hx
  exact ⟨a, [x, y], rfl, SqT.of hs, rfl, x, [y], rfl, y, [], rfl, rfl, k x y h1 h2⟩
theorem g_unp3 {i j l : Nat} {d3 : PyData} {Q : L2.St → Hp → Prop} (hv : Rp H v (.tuple [d1, d2, d3])) (k : ∀ x y z, Rp H x d1 → Rp H y d2 → Rp H z d3 → Q (((σ.set i (some x)).set j (some y)).set l (some z)) H) :
    gTup K 3 (gCons (gName i) (gCons (gName j) (gCons (gName l) gNil))) v σ H Q := by
  obtain ⟨a, xs, rfl, hs, hx⟩ := dp_tup hv
  obtain ⟨x, y, z, rfl, h1, h2, h3⟩ := dpa_three hx
  exact ⟨a, [x, y, z], rfl, SqT.of hs, rfl, x, [y, z], rfl, y, [z], rfl, z, [], rfl, rfl, k x y z h1 h2 h3⟩
theorem s_unp (h : EvD te σ H d) (k : ∀ v H1, Ex H H1 → Rp H1 v d → g v σ H1 D.nx) : tAsg te g D σ H := h H (Ex.refl H) _ k
theorem q_unp (h : EvD te σ H d) (k : ∀ v H1, Ex H H1 → Rp H1 v d → g v σ H1 (tz D)) : tSeq (tAsg te g) tz D σ H := h H (Ex.refl H) _ k
/-- a loop over a list of data that changes nothing that stood -/
theorem s_forLD {tl : TE} {ds : List PyData} (h : EvD tl σ H (.list ds)) (I : Nat → L2.St → Hp → Prop) (h0 : ∀ H1, Ex H H1 → I 0 σ H1)
    (hs : ∀ i d v σ' H' (N : L2.St → Hp → Prop), ds[i]? = some d → Ex H H' → Rp H' v d → I i σ' H' → (∀ s' h', Ex H' h' → I (i + 1) s' h' → N s' h') → g v σ' H' fun σ2 H2 => tu { D with nx := N, ct := N, bk := D.nx } σ2 H2)
    (hd : ∀ σ' H', Ex H H' → I ds.length σ' H' → D.nx σ' H') : tFor (iList K tl) g tu D σ H := h H (Ex.refl H) _ fun v H1 e hv => by
  obtain ⟨a, xs, rfl, hs1, hx⟩ := dp_list hv
  refine ⟨a, rfl, ⟨xs, SqL.of hs1⟩, ?_⟩
  refine for_list (xs := xs) (fun i σ' H' => Ex H1 H' ∧ I i σ' H') ⟨Ex.refl H1, h0 H1 e⟩ (fun i σ' H' _ P => SqL.of (P.1 _ _ hs1)) (fun i x σ' H' hi P => ?_) (fun σ' H' P => ?_)
  · obtain ⟨d, hd', rx⟩ := dpa_get' hx hi
    exact hs i d x σ' H' _ hd' (e.trans P.1) (dp_mono P.1 rx) P.2 fun s' h' e' i' => ⟨P.1.trans e', i'⟩
  · have P' : I xs.length σ' H' := P.2
    rw [dpa_len hx] at P'
    exact hd σ' H' (e.trans P.1) P'
theorem q_forLD {tl : TE} {ds : List PyData} (h : EvD tl σ H (.list ds)) (I : Nat → L2.St → Hp → Prop) (h0 : ∀ H1, Ex H H1 → I 0 σ H1)
    (hs : ∀ i d v σ' H' (N : L2.St → Hp → Prop), ds[i]? = some d → Ex H H' → Rp H' v d → I i σ' H' → (∀ s' h', Ex H' h' → I (i + 1) s' h' → N s' h') → g v σ' H' fun σ2 H2 => tu { D with nx := N, ct := N, bk := tz D } σ2 H2)
    (hd : ∀ σ' H', Ex H H' → I ds.length σ' H' → tz D σ' H') : tSeq (tFor (iList K tl) g tu) tz D σ H := s_forLD (D := { D with nx := tz D }) h I h0 hs hd
theorem s_forTD {tl : TE} {ds : List PyData} (h : EvD tl σ H (.tuple ds)) (I : Nat → L2.St → Hp → Prop) (h0 : ∀ H1, Ex H H1 → I 0 σ H1)
    (hs : ∀ i d v σ' H' (N : L2.St → Hp → Prop), ds[i]? = some d → Ex H H' → Rp H' v d → I i σ' H' → (∀ s' h', Ex H' h' → I (i + 1) s' h' → N s' h') → g v σ' H' fun σ2 H2 => tu { D with nx := N, ct := N, bk := D.nx } σ2 H2)
    (hd : ∀ σ' H', Ex H H' → I ds.length σ' H' → D.nx σ' H') : tFor (iTup K tl) g tu D σ H := h H (Ex.refl H) _ fun v H1 e hv => by
  obtain ⟨a, xs, rfl, hs1, hx⟩ := dp_tup hv
  refine ⟨a, rfl, ⟨xs, SqT.of hs1⟩, ?_⟩
  refine for_tup (xs := xs) (fun i σ' H' => Ex H1 H' ∧ I i σ' H') ⟨Ex.refl H1, h0 H1 e⟩ (fun i σ' H' _ P => SqT.of (P.1 _ _ hs1)) (fun i x σ' H' hi P => ?_) (fun σ' H' P => ?_)
  · obtain ⟨d, hd', rx⟩ := dpa_get' hx hi
    exact hs i d x σ' H' _ hd' (e.trans P.1) (dp_mono P.1 rx) P.2 fun s' h' e' i' => ⟨P.1.trans e', i'⟩
  · have P' : I xs.length σ' H' := P.2
    rw [dpa_len hx] at P'
    exact hd σ' H' (e.trans P.1) P'
end
end Sq
namespace Sq
open PySem PySem.Spec PyProof.Rows L2 Evl
def topS (i : Nat) : Stmt := PySem.Challenge.pw_squarefield_k05_joined.main.body.getD i (.Pass ⟨0, 0, 0, 0⟩)
abbrev s_is_number : Stmt := topS 5
theorem sc_is_number : FnScope ["thing", "low", "high"] ["thing", "low", "high"] (defScope s_is_number) := ⟨rfl, rfl, rfl, by decide +kernel, rfl, by decide +kernel, by decide +kernel⟩
abbrev s_check_pair : Stmt := topS 7
theorem sc_check_pair : FnScope ["pair", "one"] ["pair"] (defScope s_check_pair) := ⟨rfl, rfl, rfl, by decide +kernel, rfl, by decide +kernel, by decide +kernel⟩
abbrev s_joined : Stmt := topS 8
theorem sc_joined : FnScope ["one", "other", "a", "b", "c", "d", "first", "second"] ["one", "other"] (defScope s_joined) := ⟨rfl, rfl, rfl, by decide +kernel, rfl, by decide +kernel, by decide +kernel⟩
abbrev s_law_cell_at : Stmt := topS 10
theorem sc_law_cell_at : FnScope ["_law_script", "_law_k"] ["_law_script", "_law_k"] (defScope s_law_cell_at) := ⟨rfl, rfl, rfl, by decide +kernel, rfl, by decide +kernel, by decide +kernel⟩
abbrev s_law_draw : Stmt := topS 11
theorem sc_law_draw : FnScope ["_law_cell", "_law_k", "_law_many", "_law_primes"] ["_law_cell", "_law_k", "_law_many"] (defScope s_law_draw) := ⟨rfl, rfl, rfl, by decide +kernel, rfl, by decide +kernel, by decide +kernel⟩
abbrev s_law_pair : Stmt := topS 12
theorem sc_law_pair : FnScope ["_law_cell", "_law_most"] ["_law_cell"] (defScope s_law_pair) := ⟨rfl, rfl, rfl, by decide +kernel, rfl, by decide +kernel, by decide +kernel⟩
abbrev s_law_worth : Stmt := topS 13
theorem sc_law_worth : FnScope ["_law_pair_here"] ["_law_pair_here"] (defScope s_law_worth) := ⟨rfl, rfl, rfl, by decide +kernel, rfl, by decide +kernel, by decide +kernel⟩
abbrev s_law : Stmt := topS 14
theorem sc_law : FnScope ["_law_script", "_law_at", "_law_one", "_law_other", "_law_both", "_law_first", "_law_second", "_law_found", "_law_pair_here", "_law_part"] ["_law_script"] (defScope s_law) := ⟨rfl, rfl, rfl, by decide +kernel, rfl, by decide +kernel, by decide +kernel⟩
structure Txt (K : PySem.W.Frag) (mg : Str → Option Value) where
  a_is_number : Addr
  d_is_number : FuncData
  F_is_number : Fun K "is_number" "is_number" s_is_number a_is_number d_is_number
  b_is_number : Binds K d_is_number ["thing", "low", "high"] []
  g_is_number : mg "is_number" = some (.ref a_is_number)
  a_check_pair : Addr
  d_check_pair : FuncData
  F_check_pair : Fun K "check_pair" "check_pair" s_check_pair a_check_pair d_check_pair
  b_check_pair : Binds K d_check_pair ["pair"] []
  g_check_pair : mg "check_pair" = some (.ref a_check_pair)
  a_joined : Addr
  d_joined : FuncData
  F_joined : Fun K "joined" "joined" s_joined a_joined d_joined
  b_joined : Binds K d_joined ["one", "other"] []
  g_joined : mg "joined" = some (.ref a_joined)
  a_law_cell_at : Addr
  d_law_cell_at : FuncData
  F_law_cell_at : Fun K "_law_cell_at" "_law_cell_at" s_law_cell_at a_law_cell_at d_law_cell_at
  b_law_cell_at : Binds K d_law_cell_at ["_law_script", "_law_k"] []
  g_law_cell_at : mg "_law_cell_at" = some (.ref a_law_cell_at)
  a_law_draw : Addr
  d_law_draw : FuncData
  F_law_draw : Fun K "_law_draw" "_law_draw" s_law_draw a_law_draw d_law_draw
  b_law_draw : Binds K d_law_draw ["_law_cell", "_law_k", "_law_many"] []
  g_law_draw : mg "_law_draw" = some (.ref a_law_draw)
  a_law_pair : Addr
  d_law_pair : FuncData
  F_law_pair : Fun K "_law_pair" "_law_pair" s_law_pair a_law_pair d_law_pair
  b_law_pair : Binds K d_law_pair ["_law_cell"] []
  g_law_pair : mg "_law_pair" = some (.ref a_law_pair)
  a_law_worth : Addr
  d_law_worth : FuncData
  F_law_worth : Fun K "_law_worth" "_law_worth" s_law_worth a_law_worth d_law_worth
  b_law_worth : Binds K d_law_worth ["_law_pair_here"] []
  g_law_worth : mg "_law_worth" = some (.ref a_law_worth)
  a_law : Addr
  d_law : FuncData
  F_law : Fun K "law" "law" s_law a_law d_law
  b_law : Binds K d_law ["_law_script"] []
  g_law : mg "law" = some (.ref a_law)
  t_GREATEST : Tok
  g_GREATEST : mg "GREATEST" = some (.int 10000 t_GREATEST)
  z_abs : mg "abs" = none
  z_all : mg "all" = none
  z_any : mg "any" = none
  z_bool : mg "bool" = none
  z_int : mg "int" = none
  z_isinstance : mg "isinstance" = none
  z_len : mg "len" = none
  z_max : mg "max" = none
  z_min : mg "min" = none
  z_range : mg "range" = none
  z_sorted : mg "sorted" = none
  z_tuple : mg "tuple" = none
end Sq
open PySem PySem.Spec PyProof.Rows L2 Evl Sq
local macro_rules | `(tactic| walk_at "dp") => `(tactic| first | exact Rp.int _ | exact Rp.bl _ | exact Rp.str _ | exact Rp.non | assumption | (refine' dp_mono ?hx ?hy; (case hx => assumption); (case hy => walk_at "dp")))
local macro_rules | `(tactic| walk_at "sd") => `(tactic| first | assumption | omega | rfl | decide | exact le_lit rfl | (simp only [List.length_cons, List.length_nil]; omega))
local macro_rules | `(tactic| walk_at "ev") => `(tactic| first
  | (refine' ed_var rfl ?hz; (case hz => walk_at "dp"))
  | exact ed_ci | exact ed_cb | exact ed_cs | exact ed_cn
  | (refine' ed_I0i ?ea ?eb; (case' ea => walk_at "ev"); (case' eb => walk_at "ev"))
  | (refine' ed_eqI ?ea ?eb; (case' ea => walk_at "ev"); (case' eb => walk_at "ev"))
  | (refine' ed_neI ?ea ?eb; (case' ea => walk_at "ev"); (case' eb => walk_at "ev"))
  | (refine' ed_I0b ?ea ?eb; (case' ea => walk_at "ev"); (case' eb => walk_at "ev"))
  | (refine' ed_mod ?ea ?eb ?ec; (case' ea => walk_at "ev"); (case' eb => walk_at "ev"); (try (case ec => walk_at "sd")))
  | (refine' ed_mul ?ea ?eb ?ec; (case' ea => walk_at "ev"); (case' eb => walk_at "ev"); (try (case ec => walk_at "sd")))
  | (refine' ed_fdiv ?ea ?eb ?ec; (case' ea => walk_at "ev"); (case' eb => walk_at "ev"); (try (case ec => walk_at "sd")))
  | (refine' ed_pow ?ea ?eb ?ec; (case' ea => walk_at "ev"); (case' eb => walk_at "ev"); (try (case ec => walk_at "sd")))
  | (refine' ed_shl ?ea ?eb ?ec; (case' ea => walk_at "ev"); (case' eb => walk_at "ev"); (try (case ec => walk_at "sd")))
  | (refine' ed_neg ?hz; (case' hz => walk_at "ev"))
  | (refine' ed_eqB ?ea ?eb; (case' ea => walk_at "ev"); (case' eb => walk_at "ev"))
  | (refine' ed_neB ?ea ?eb; (case' ea => walk_at "ev"); (case' eb => walk_at "ev"))
  | (refine' ed_eqS ?ea ?eb; (case' ea => walk_at "ev"); (case' eb => walk_at "ev"))
  | (refine' ed_neS ?ea ?eb; (case' ea => walk_at "ev"); (case' eb => walk_at "ev"))
  | (refine' ed_isnB ?ea ?eb; (case' ea => walk_at "ev"); (case' eb => walk_at "ev"))
  | (refine' ed_ixL ?ea ?eb ?ec ?ed; (case' ea => walk_at "ev"); (case' eb => walk_at "ev"); (try (case ec => walk_at "sd")); (try (case ed => rfl)))
  | (refine' ed_ixT ?ea ?eb ?ec ?ed; (case' ea => walk_at "ev"); (case' eb => walk_at "ev"); (try (case ec => walk_at "sd")); (try (case ed => rfl)))
  | (refine' ed_not ?hz; (case' hz => walk_at "ev"))
  | (refine' ed_tup ?ea ?eb; (case' ea => walk_at "ea"); (try (case eb => walk_at "sd")))
  | (refine' ed_lst ?ea ?eb; (case' ea => walk_at "ea"); (try (case eb => walk_at "sd")))
  | (refine' ed_len ?hz; (case' hz => walk_at "ev"))
  | (refine' ed_lenT ?hz; (case' hz => walk_at "ev"))
  | (refine' ed_abs ?hz; (case' hz => walk_at "ev"))
  | (refine' ed_isi ?ea ?eb; (case' ea => walk_at "ev"); (try (case eb => first | exact kit_int _ | exact kit_bool _ | exact kit_tuple _ | exact kit_list _ | exact kit_str _)))
  | (refine' ed_call ?ea ?eb; (case' ea => walk_at "ea"); (try (case eb => walk_at "rel"))))
local macro_rules | `(tactic| walk_at "ea") => `(tactic| first | exact da_nil | (refine' da_cons ?xa ?xb; (case' xa => walk_at "ev"); (case' xb => walk_at "ea")))
local macro_rules | `(tactic| walk_at "et") => `(tactic| first
  | (refine' dt_test ?hz; (case' hz => walk_at "ev"))
  | (refine' dt_B ?hz; (case' hz => walk_at "ev"))
  | (refine' et_not ?hz; (case' hz => walk_at "et"))
  | (refine' et_and ?xa ?xb; (case' xa => walk_at "et"); (case' xb => (intro hx; (try simp only [decide_eq_true_eq, Bool.not_eq_true', decide_eq_false_iff_not] at hx); walk_at "et")))
  | (refine' et_or ?xa ?xb; (case' xa => walk_at "et"); (case' xb => (intro hx; (try simp only [decide_eq_false_iff_not, Bool.not_eq_false', decide_eq_true_eq] at hx); walk_at "et"))))
local macro_rules | `(tactic| walk_at "sq") => `(tactic| first | assumption | (refine' ex_l ?hx ?hy; (case hx => assumption); (case hy => walk_at "sq")))
namespace Sq
section
variable {P : Program} {w : World} {K : PySem.W.Frag} {mg : Str → Option Value} {base : Heap}
/-! #### the law's cells and draws -/
def cellAt (ns : List Int) (k : Int) : Int := ns.getD k.toNat 0
def spCell (K : PySem.W.Frag) : Sp := fun vs H Q _ => ∃ (a : Addr) (ns : List Int) (k : Int), vs = [.ref a, .int k] ∧ SqL K H a (ns.map V.int) ∧ 0 ≤ k ∧ ∀ H2, Ex H H2 → Q (.int (cellAt ns k)) H2
theorem ok_law_cell_at (T : Txt K mg) : FnOk P w K mg base CX0 1 T.a_law_cell_at T.d_law_cell_at ["_law_script", "_law_k"] (spCell K) := by
  refine T.F_law_cell_at.ok sc_law_cell_at (fun vs H Q E h => ?_) (fun cdv A outer s H vs Q E hr h => ?_)
  · obtain ⟨a, ns, k, rfl, _⟩ := h
    rfl
  · obtain ⟨a, ns, k, rfl, hS, hk, q⟩ := h
    refine ⟨_, (pss_cons (ps_if (pt_cmpR op_lt (pv 1) (pe_callB (lenQ (K := K)) (by rfl) T.z_len (by decide +kernel) (pa_cons (pv 0) pa_nil)) (nomark _)) (pss_one (ps_ret (pe_ix (ixlQ (K := K)) (pv 0) (pv 1) (fun _ _ => rfl)))) pss_nil) (pss_one (ps_ret pe_int))), ?_⟩
    refine ⟨_, rfl, _, rfl, a, _, rfl, .inl hS, k, _, rfl, rfl, _, rfl, ite2 (fun e => ?_) (fun e => ?_)⟩
    · have e1 := of_decide_eq_true e
      rw [List.length_map] at e1
      have hlt : k.toNat < ns.length := by omega
      refine ⟨_, rfl, _, rfl, a, _, k, .int ns[k.toNat], rfl, rfl, hS, ?_, ?_⟩
      · have g : (ns.map V.int)[k.toNat]? = some (.int ns[k.toNat]) := by
          rw [List.getElem?_map, List.getElem?_eq_getElem hlt]
          rfl
        have g2 := atI_nat g
        rw [Int.toNat_of_nonneg hk] at g2
        exact g2
      · have r := q H (Ex.refl H)
        have e2 : cellAt ns k = ns[k.toNat] := by
          unfold cellAt
          rw [List.getD_eq_getElem?_getD, List.getElem?_eq_getElem hlt]
          rfl
        rw [e2] at r
        exact r
    · have e1 : ¬ (k < ((ns.map V.int).length : Int)) := fun z => e (decide_eq_true z)
      rw [List.length_map] at e1
      have r := q H (Ex.refl H)
      have e2 : cellAt ns k = 0 := by
        unfold cellAt
        rw [List.getD_eq_getElem?_getD, List.getElem?_eq_none (by omega)]
        rfl
      rw [e2] at r
      exact r
theorem ed_cell {tb : TE} {σ : L2.St} {H : Hp} {E : XK} {a : Addr} {ns : List Int} {k : Int} (ha : σ[0]? = some (some (.ref a))) (hS : SqL K H a (ns.map V.int)) (hb : EvD tb σ H (.int k)) (hk : 0 ≤ k) :
    EvD (tCall (spCell K) [] E (tCons (tVar 0) (tCons tb tNil))) σ H (.int (cellAt ns k)) := fun H1 e _ q =>
  ⟨_, ha, ev_int hb H1 e _ fun H2 e2 => ⟨a, ns, k, rfl, ex_l (e.trans e2) hS, hk, fun H3 e3 => q _ H3 (e2.trans e3) (.int _)⟩⟩
def primes16 : List Int := [1000003, 1000033, 1000037, 1000039, 1000081, 1000099, 1000117, 1000121, 1000133, 1000151, 1000159, 1000171, 1000183, 1000187, 1000193, 1000199]
def draw (c k m : Int) : Int := (c * 48271 + k * 69621) % primes16.getD (k % 16).toNat 0 % m
theorem primes16_pos : ∀ i : Nat, i < 16 → 0 < primes16.getD i 0 := by decide
theorem draw_nonneg {c k m : Int} (h : 0 < m) : 0 ≤ draw c k m := Int.emod_nonneg _ (by omega)
theorem draw_lt {c k m : Int} (h : 0 < m) : draw c k m < m := Int.emod_lt_of_pos _ h
def rDraw : List PyData → PyData → Prop := fun ds d => ∃ c k m, ds = [.int c, .int k, .int m] ∧ (0 ≤ k ∧ k ≤ 100) ∧ 0 < m ∧ d = .int (draw c k m)
theorem ok_law_draw (T : Txt K mg) : FnOk P w K mg base CX0 1 T.a_law_draw T.d_law_draw ["_law_cell", "_law_k", "_law_many"] (spR rDraw) := by
  refine T.F_law_draw.ok sc_law_draw (fun vs H Q E h => ?_) (fun cdv A outer s H vs Q E hr h => ?_)
  · obtain ⟨ds, d, hv, ⟨c, k, m, rfl, _, _, rfl⟩, q⟩ := h
    exact dpa_len hv
  · obtain ⟨ds, d, hv, ⟨c, k, m, rfl, hk, hm, rfl⟩, q⟩ := h
    obtain ⟨v1, v2, v3, rfl, h1, h2, h3⟩ := dpa_three hv
    cases dp_int h1
    cases dp_int h2
    cases dp_int h3
    refine ⟨_, (pss_cons (ps_set (i := 3) sc_law_draw.nd rfl (Or.inl rfl) (pe_tup (pa_cons pe_int (pa_cons pe_int (pa_cons pe_int (pa_cons pe_int (pa_cons pe_int (pa_cons pe_int (pa_cons pe_int (pa_cons pe_int (pa_cons pe_int (pa_cons pe_int (pa_cons pe_int (pa_cons pe_int (pa_cons pe_int (pa_cons pe_int (pa_cons pe_int (pa_cons pe_int pa_nil)))))))))))))))))) (pss_one (ps_ret (pe_op op_mod (pe_op op_mod (pe_op op_add (pe_op op_mul (pv 0) pe_int) (pe_op op_mul (pv 1) pe_int)) (pe_ix (ixtQ (K := K)) (pv 3) (pe_op op_mod (pv 1) pe_int) (fun _ _ => rfl))) (pv 2))))), ?_⟩
    refine q_asgD (d := .tuple (primes16.map .int)) ?_ fun v H1 e1 hv1 => ?_
    · exact ed_tup (by walk_at "ea") (by decide)
    refine s_retD (d := .int (draw c k m)) ?_ fun v H2 e2 hv2 => q v H2 (e1.trans e2) hv2
    have hi : 0 ≤ k % 16 ∧ k % 16 < 16 := ⟨Int.emod_nonneg _ (by decide), Int.emod_lt_of_pos _ (by decide)⟩
    have hlt : (k % 16).toNat < 16 := by omega
    refine ed_mod (ed_mod ?_ (ed_ixT (ds := primes16.map .int) (i := k % 16) ?_ ?_ hi.1 (d := .int (primes16.getD (k % 16).toNat 0)) ?_) (primes16_pos _ hlt)) ?_ hm
    · walk_at "ev"
    · walk_at "ev"
    · walk_at "ev"
    · rw [List.getElem?_map, List.getD_eq_getElem?_getD, List.getElem?_eq_getElem (show (k % 16).toNat < primes16.length from hlt)]
      rfl
    · walk_at "ev"
end
end Sq
local macro_rules | `(tactic| walk_at "ev") => `(tactic| (refine' ed_cell rfl ?ea ?eb ?ec; (case' ea => walk_at "sq"); (case' eb => walk_at "ev"); (try (case ec => walk_at "sd"))))
local macro_rules | `(tactic| walk_at "rel") => `(tactic| exact ⟨_, _, _, rfl, (by decide), (by decide), rfl⟩)
namespace Sq
section
variable {P : Program} {w : World} {K : PySem.W.Frag} {mg : Str → Option Value} {base : Heap}
def isNum (x : PyData) (lo hi : Int) : Bool := match x with
  | .int i => decide (lo ≤ i) && decide (i ≤ hi)
  | _ => false
def rIsNum : List PyData → PyData → Prop := fun ds d => ∃ x lo hi, ds = [x, .int lo, .int hi] ∧ d = .bool (isNum x lo hi)
theorem ok_is_number (T : Txt K mg) : FnOk P w K mg base CX0 1 T.a_is_number T.d_is_number ["thing", "low", "high"] (spR rIsNum) := by
  refine T.F_is_number.ok sc_is_number (fun vs H Q E h => ?_) (fun cdv A outer s H vs Q E hr h => ?_)
  · obtain ⟨ds, d, hv, ⟨x, lo, hi, rfl, rfl⟩, q⟩ := h
    exact dpa_len hv
  · obtain ⟨ds, d, hv, ⟨x, lo, hi, rfl, rfl⟩, q⟩ := h
    obtain ⟨v1, v2, v3, rfl, h1, h2, h3⟩ := dpa_three hv
    cases dp_int h2
    cases dp_int h3
    refine ⟨_, (pss_one (ps_ret (pe_and (pe_callB (isiQ (K := K)) (by rfl) T.z_isinstance (by decide +kernel) (pa_cons (pv 0) (pa_cons (pe_bltn (v := .ty "int") (by rfl) T.z_int (by decide +kernel) rfl) pa_nil))) (pe_and (pe_not (pe_callB (isiQ (K := K)) (by rfl) T.z_isinstance (by decide +kernel) (pa_cons (pv 0) (pa_cons (pe_bltn (v := .ty "bool") (by rfl) T.z_bool (by decide +kernel) rfl) pa_nil)))) (pe_one (pe_chain op_le op_le (pv 1) (pv 0) (pv 2))))))), ?_⟩
    refine s_retD ?_ q
    have hx : EvD (tVar 0) (start ["thing", "low", "high"] [v1, .int lo, .int hi]) H x := ed_var rfl h1
    cases x with
    | int i =>
      exact ed_and (a := true) (ed_isi hx (kit_int _)) fun _ => ed_and (a := true) (ed_not (a := false) (ed_isi hx (kit_bool _))) fun _ =>
        ed_chain (f := fun i j => decide (i ≤ j)) (g := fun i j => decide (i ≤ j)) (by walk_at "ev") hx fun _ => by walk_at "ev"
    | bool i => exact ed_and (a := true) (ed_isi hx (kit_int _)) fun _ => ed_and (a := false) (b := false) (ed_not (a := true) (ed_isi hx (kit_bool _))) fun h => nomatch h
    | none => exact ed_and (a := false) (b := false) (ed_isi hx (kit_int _)) fun h => nomatch h
    | str i => exact ed_and (a := false) (b := false) (ed_isi hx (kit_int _)) fun h => nomatch h
    | list i => exact ed_and (a := false) (b := false) (ed_isi hx (kit_int _)) fun h => nomatch h
    | tuple i => exact ed_and (a := false) (b := false) (ed_isi hx (kit_int _)) fun h => nomatch h
    | dict i => exact ed_and (a := false) (b := false) (ed_isi hx (kit_int _)) fun h => nomatch h
theorem isNum_ok {i lo hi : Int} (h : lo ≤ i ∧ i ≤ hi) : isNum (.int i) lo hi = true := by
  show (decide (lo ≤ i) && decide (i ≤ hi)) = true
  rw [decide_eq_true h.1, decide_eq_true h.2]
  rfl
end
end Sq
local macro_rules | `(tactic| walk_at "rel") => `(tactic| exact ⟨_, _, _, rfl, rfl⟩)
namespace Sq
section
variable {P : Program} {w : World} {K : PySem.W.Frag} {mg : Str → Option Value} {base : Heap}
def rChPair : List PyData → PyData → Prop := fun ds d => ∃ a b : Int, ds = [.tuple [.int a, .int b]] ∧ (0 ≤ a ∧ a ≤ 10000) ∧ (0 ≤ b ∧ b ≤ 10000) ∧ d = .none
theorem ok_check_pair (T : Txt K mg) : FnOk P w K mg base CX0 2 T.a_check_pair T.d_check_pair ["pair"] (spR rChPair) := by
  refine T.F_check_pair.ok sc_check_pair (fun vs H Q E h => ?_) (fun cdv A outer s H vs Q E hr h => ?_)
  · obtain ⟨ds, d, hv, ⟨a, b, rfl, _, _, rfl⟩, q⟩ := h
    exact dpa_len hv
  · obtain ⟨ds, d, hv, ⟨a, b, rfl, ha, hb, rfl⟩, q⟩ := h
    obtain ⟨v1, rfl, h1⟩ := dpa_one hv
    refine ⟨_, (pss_one (ps_if (PW.pt (pw_or (pt_not (pt_val (pe_callB (isiQ (K := K)) (by rfl) T.z_isinstance (by decide +kernel) (pa_cons (pv 0) (pa_cons (pe_bltn (v := .ty "tuple") (by rfl) T.z_tuple (by decide +kernel) rfl) pa_nil))))) (pw_or (pt_cmpR op_neI (pe_callB (lenQ (K := K)) (by rfl) T.z_len (by decide +kernel) (pa_cons (pv 0) pa_nil)) pe_int (nomark _)) (pw_or1 (pt_not (pt_val (pe_callB (allQ (K := K) rfl) (by rfl) T.z_all (by decide +kernel) (pa_cons (pe_lc (own := [("one", 1)]) (g := gName 1) rfl sc_check_pair.nd (pitQ (K := K) (pv 0)) (blkOk_by (N := ["pair", "one"]) (sc := defScope s_check_pair) (by decide +kernel)) (fun _ _ _ _ _ => (pg_name (i := 1) sc_check_pair.nd rfl (Or.inl rfl))) (fun _ _ _ _ _ => pts_nil) (fun _ _ _ _ _ => (pe_call (ok_is_number T) (hr.mono (by decide)) (by rfl) T.g_is_number T.F_is_number.kp T.b_is_number .nil pass0 (pa_cons (pv 1) (pa_cons pe_int (pa_cons (pe_glob (v := .int 10000) (by rfl) T.g_GREATEST ⟨_, rfl⟩) pa_nil)))))) pa_nil)))))))) (pss_one ps_never) pss_nil)), ?_⟩
    refine s_if (b := false) ?_ (fun z => nomatch z) (fun _ H1 e1 => q _ H1 e1 .non)
    refine et_or (a := false) (b := false) ?_ fun _ => et_or (a := false) (b := false) ?_ fun _ => ?_
    · exact et_not (a := true) (dt_B (ed_isi (ed_var rfl h1) (kit_tuple _)))
    · exact et_is (b := false) (dt_test (ed_neI (i := 2) (j := 2) (ed_lenT (ds := [.int a, .int b]) (by walk_at "ev")) ed_ci)) (by decide)
    · refine et_not (a := true) (dt_B (ed_is (ed_all (ds := [.bool (isNum (.int a) 0 10000), .bool (isNum (.int b) 0 10000)]) ?_ rfl) ?_))
      · refine ed_lcT (ds := [.int a, .int b]) (fun d => .bool (isNum d 0 10000)) (ed_var rfl h1) (le_lit rfl) (by intro _; rfl) (fun v d H1 e1 hm hd => ?_) (fun d _ => rfl)
        exact ed_call (da_cons (ed_var rfl hd) (by walk_at "ea")) ⟨_, _, _, rfl, rfl⟩
      · rw [isNum_ok ha, isNum_ok hb]
        rfl
def joinD (a b c d : Int) : (Int × Int) × (Int × Int) :=
  let f1 := absI (a * c - b * d)
  let f2 := a * d + b * c
  let s1 := a * c + b * d
  let s2 := absI (a * d - b * c)
  ((if f2 < f1 then f2 else f1, if f1 < f2 then f2 else f1), (if s2 < s1 then s2 else s1, if s1 < s2 then s2 else s1))
def pp (x : Int × Int) : PyData := .tuple [.int x.1, .int x.2]
def rJoined : List PyData → PyData → Prop := fun ds r => ∃ a b c d : Int, ds = [pp (a, b), pp (c, d)] ∧ ((0 ≤ a ∧ a ≤ 10000) ∧ (0 ≤ b ∧ b ≤ 10000)) ∧ ((0 ≤ c ∧ c ≤ 10000) ∧ (0 ≤ d ∧ d ≤ 10000)) ∧ r = .tuple [pp (joinD a b c d).1, pp (joinD a b c d).2]
theorem ok_joined (T : Txt K mg) : FnOk P w K mg base CX0 3 T.a_joined T.d_joined ["one", "other"] (spR rJoined) := by
  refine T.F_joined.ok sc_joined (fun vs H Q E h => ?_) (fun cdv A outer s H vs Q E hr h => ?_)
  · obtain ⟨ds, r, hv, ⟨a, b, c, d, rfl, _, _, rfl⟩, q⟩ := h
    exact dpa_len hv
  · obtain ⟨ds, r, hv, ⟨a, b, c, d, rfl, h1, h2, rfl⟩, q⟩ := h
    obtain ⟨v1, v2, rfl, r1, r2⟩ := dpa_two hv
    refine ⟨_, (pss_cons (ps_expr (pe_call (ok_check_pair T) (hr.mono (by decide)) (by rfl) T.g_check_pair T.F_check_pair.kp T.b_check_pair .nil pass0 (pa_cons (pv 0) pa_nil))) (pss_cons (ps_expr (pe_call (ok_check_pair T) (hr.mono (by decide)) (by rfl) T.g_check_pair T.F_check_pair.kp T.b_check_pair .nil pass0 (pa_cons (pv 1) pa_nil))) (pss_cons (ps_asg (pv 0) (pg_tup rfl (pgs_cons (pg_name (i := 2) sc_joined.nd rfl (Or.inl rfl)) (pgs_cons (pg_name (i := 3) sc_joined.nd rfl (Or.inl rfl)) pgs_nil)))) (pss_cons (ps_asg (pv 1) (pg_tup rfl (pgs_cons (pg_name (i := 4) sc_joined.nd rfl (Or.inl rfl)) (pgs_cons (pg_name (i := 5) sc_joined.nd rfl (Or.inl rfl)) pgs_nil)))) (pss_cons (ps_set (i := 6) sc_joined.nd rfl (Or.inl rfl) (pe_lst (pa_cons (pe_callB call_abs (by rfl) T.z_abs (by decide +kernel) (pa_cons (pe_op op_sub (pe_op op_mul (pv 2) (pv 4)) (pe_op op_mul (pv 3) (pv 5))) pa_nil)) (pa_cons (pe_op op_add (pe_op op_mul (pv 2) (pv 5)) (pe_op op_mul (pv 3) (pv 4))) pa_nil)))) (pss_cons (ps_set (i := 7) sc_joined.nd rfl (Or.inl rfl) (pe_lst (pa_cons (pe_op op_add (pe_op op_mul (pv 2) (pv 4)) (pe_op op_mul (pv 3) (pv 5))) (pa_cons (pe_callB call_abs (by rfl) T.z_abs (by decide +kernel) (pa_cons (pe_op op_sub (pe_op op_mul (pv 2) (pv 5)) (pe_op op_mul (pv 3) (pv 4))) pa_nil)) pa_nil)))) (pss_one (ps_ret (pe_tup (pa_cons (pe_tup (pa_cons (pe_callB (minQ (K := K) rfl) (by rfl) T.z_min (by decide +kernel) (pa_cons (pv 6) pa_nil)) (pa_cons (pe_callB (maxQ (K := K) rfl) (by rfl) T.z_max (by decide +kernel) (pa_cons (pv 6) pa_nil)) pa_nil))) (pa_cons (pe_tup (pa_cons (pe_callB (minQ (K := K) rfl) (by rfl) T.z_min (by decide +kernel) (pa_cons (pv 7) pa_nil)) (pa_cons (pe_callB (maxQ (K := K) rfl) (by rfl) T.z_max (by decide +kernel) (pa_cons (pv 7) pa_nil)) pa_nil))) pa_nil))))))))))), ?_⟩
    refine q_drop (v := .non) (ev_non (ed_call (da_cons (ed_var rfl r1) da_nil) ⟨a, b, rfl, h1.1, h1.2, rfl⟩)) fun H1 e1 => ?_
    refine q_drop (v := .non) (ev_non (ed_call (da_cons (ed_var rfl (dp_mono e1 r2)) da_nil) ⟨c, d, rfl, h2.1, h2.2, rfl⟩)) fun H2 e2 => ?_
    refine q_unp (ed_var rfl (dp_mono e2 (dp_mono e1 r1))) fun v H3 e3 rv => g_unp2 rv fun x y hx hy => ?_
    cases dp_int hx
    cases dp_int hy
    refine q_unp (ed_var rfl (dp_mono e3 (dp_mono e2 (dp_mono e1 r2)))) fun v H4 e4 rv => g_unp2 rv fun x y hx hy => ?_
    cases dp_int hx
    cases dp_int hy
    refine q_asgD (d := .list [.int (absI (a * c - b * d)), .int (a * d + b * c)]) (by walk_at "ev") fun v H5 e5 r5 => ?_
    refine q_asgD (d := .list [.int (a * c + b * d), .int (absI (a * d - b * c))]) (by walk_at "ev") fun v H6 e6 r6 => ?_
    refine s_retD ?_ fun v H7 e7 r7 => q v H7 ((((((e1.trans e2).trans e3).trans e4).trans e5).trans e6).trans e7) r7
    refine ed_tup (da_cons (ed_tup (da_cons (ed_min_2 ?_) (da_cons (ed_max_2 ?_) da_nil)) (le_lit rfl)) (da_cons (ed_tup (da_cons (ed_min_2 ?_) (da_cons (ed_max_2 ?_) da_nil)) (le_lit rfl)) da_nil)) (le_lit rfl)
    all_goals walk_at "ev"
end
end Sq
namespace Sq
section
variable {P : Program} {w : World} {K : PySem.W.Frag} {mg : Str → Option Value} {base : Heap}
def mosts : List Int := [3, 12, 300, 10001]
def pairOf (c : Int) : Int × Int := (draw c 2 (mosts.getD (draw c 1 4).toNat 0), draw c 3 (mosts.getD (draw c 1 4).toNat 0))
theorem mosts_at (c : Int) : 0 < mosts.getD (draw c 1 4).toNat 0 ∧ mosts.getD (draw c 1 4).toNat 0 ≤ 10001 := by
  have h0 : 0 ≤ draw c 1 4 := draw_nonneg (by decide)
  have h1 : draw c 1 4 < 4 := draw_lt (by decide)
  have h : ∀ i : Nat, i < 4 → 0 < mosts.getD i 0 ∧ mosts.getD i 0 ≤ 10001 := by decide
  exact h _ (by omega)
theorem pairOf_bd (c : Int) : (0 ≤ (pairOf c).1 ∧ (pairOf c).1 ≤ 10000) ∧ (0 ≤ (pairOf c).2 ∧ (pairOf c).2 ≤ 10000) := by
  have h := mosts_at c
  have h1 : 0 ≤ (pairOf c).1 := draw_nonneg h.1
  have h2 : (pairOf c).1 < mosts.getD (draw c 1 4).toNat 0 := draw_lt h.1
  have h3 : 0 ≤ (pairOf c).2 := draw_nonneg h.1
  have h4 : (pairOf c).2 < mosts.getD (draw c 1 4).toNat 0 := draw_lt h.1
  omega
def rPair : List PyData → PyData → Prop := fun ds d => ∃ c, ds = [.int c] ∧ d = pp (pairOf c)
theorem ok_law_pair (T : Txt K mg) : FnOk P w K mg base CX0 2 T.a_law_pair T.d_law_pair ["_law_cell"] (spR rPair) := by
  refine T.F_law_pair.ok sc_law_pair (fun vs H Q E h => ?_) (fun cdv A outer s H vs Q E hr h => ?_)
  · obtain ⟨ds, d, hv, ⟨c, rfl, rfl⟩, q⟩ := h
    exact dpa_len hv
  · obtain ⟨ds, d, hv, ⟨c, rfl, rfl⟩, q⟩ := h
    obtain ⟨v1, rfl, h1⟩ := dpa_one hv
    cases dp_int h1
    refine ⟨_, (pss_cons (ps_set (i := 1) sc_law_pair.nd rfl (Or.inl rfl) (pe_ix (ixtQ (K := K)) (pe_tup (pa_cons pe_int (pa_cons pe_int (pa_cons pe_int (pa_cons pe_int pa_nil))))) (pe_call (ok_law_draw T) (hr.mono (by decide)) (by rfl) T.g_law_draw T.F_law_draw.kp T.b_law_draw .nil pass0 (pa_cons (pv 0) (pa_cons pe_int (pa_cons pe_int pa_nil)))) (fun _ _ => rfl))) (pss_one (ps_ret (pe_tup (pa_cons (pe_call (ok_law_draw T) (hr.mono (by decide)) (by rfl) T.g_law_draw T.F_law_draw.kp T.b_law_draw .nil pass0 (pa_cons (pv 0) (pa_cons pe_int (pa_cons (pv 1) pa_nil)))) (pa_cons (pe_call (ok_law_draw T) (hr.mono (by decide)) (by rfl) T.g_law_draw T.F_law_draw.kp T.b_law_draw .nil pass0 (pa_cons (pv 0) (pa_cons pe_int (pa_cons (pv 1) pa_nil)))) pa_nil)))))), ?_⟩
    have hd : ∀ (k m : Int), (0 ≤ k ∧ k ≤ 100) → 0 < m → rDraw [.int c, .int k, .int m] (.int (draw c k m)) := fun k m h1 h2 => ⟨c, k, m, rfl, h1, h2, rfl⟩
    have h4 : 0 ≤ draw c 1 4 ∧ draw c 1 4 < 4 := ⟨draw_nonneg (by decide), draw_lt (by decide)⟩
    refine q_asgI (n := mosts.getD (draw c 1 4).toNat 0) ?_ fun H1 e1 => ?_
    · refine ed_ixT (ds := mosts.map .int) (i := draw c 1 4) (ed_tup (by walk_at "ea") (by decide)) (ed_call (by walk_at "ea") (hd 1 4 (by decide) (by decide))) h4.1 ?_
      rw [List.getElem?_map, List.getD_eq_getElem?_getD, List.getElem?_eq_getElem (show (draw c 1 4).toNat < mosts.length by show _ < 4; omega)]
      rfl
    refine s_retD (d := pp (pairOf c)) ?_ fun v H2 e2 r => q v H2 (e1.trans e2) r
    exact ed_tup (da_cons (ed_call (by walk_at "ea") (hd 2 _ (by decide) (mosts_at c).1)) (da_cons (ed_call (by walk_at "ea") (hd 3 _ (by decide) (mosts_at c).1)) da_nil)) (le_lit rfl)
local macro_rules | `(tactic| walk_at "rel") => `(tactic| exact ⟨_, rfl, rfl⟩)
def worth (x : Int × Int) : Int := x.1 * x.1 + x.2 * x.2
def Bd (x : Int × Int) : Prop := (-1000000000 ≤ x.1 ∧ x.1 ≤ 1000000000) ∧ (-1000000000 ≤ x.2 ∧ x.2 ≤ 1000000000)
def rWorth : List PyData → PyData → Prop := fun ds d => ∃ x : Int × Int, ds = [pp x] ∧ Bd x ∧ d = .int (worth x)
theorem ok_law_worth (T : Txt K mg) : FnOk P w K mg base CX0 1 T.a_law_worth T.d_law_worth ["_law_pair_here"] (spR rWorth) := by
  refine T.F_law_worth.ok sc_law_worth (fun vs H Q E h => ?_) (fun cdv A outer s H vs Q E hr h => ?_)
  · obtain ⟨ds, d, hv, ⟨c, rfl, _, rfl⟩, q⟩ := h
    exact dpa_len hv
  · obtain ⟨ds, d, hv, ⟨x, rfl, hb, rfl⟩, q⟩ := h
    obtain ⟨v1, rfl, h1⟩ := dpa_one hv
    refine ⟨_, (pss_one (ps_ret (pe_op op_add (pe_op op_mul (pe_ix (ixtQ (K := K)) (pv 0) pe_int (fun _ _ => rfl)) (pe_ix (ixtQ (K := K)) (pv 0) pe_int (fun _ _ => rfl))) (pe_op op_mul (pe_ix (ixtQ (K := K)) (pv 0) pe_int (fun _ _ => rfl)) (pe_ix (ixtQ (K := K)) (pv 0) pe_int (fun _ _ => rfl)))))), ?_⟩
    refine s_retD (d := .int (worth x)) ?_ q
    unfold Bd at hb
    have i0 : EvD (tOp (rIxT K) (tVar 0) (tC (.int 0))) (start ["_law_pair_here"] [v1]) H (.int x.1) := ed_ixT (ds := [.int x.1, .int x.2]) (ed_var rfl h1) ed_ci (by decide) rfl
    have i1 : EvD (tOp (rIxT K) (tVar 0) (tC (.int 1))) (start ["_law_pair_here"] [v1]) H (.int x.2) := ed_ixT (ds := [.int x.1, .int x.2]) (ed_var rfl h1) ed_ci (by decide) rfl
    exact ed_I0i (ed_mul i0 i0 (by omega)) (ed_mul i1 i1 (by omega))
theorem absI_bd {x m : Int} (h : -m ≤ x ∧ x ≤ m) : 0 ≤ absI x ∧ absI x ≤ m := by
  unfold absI
  split <;> omega
theorem absI_sq (x : Int) : absI x * absI x = x * x := by
  unfold absI
  split
  · rw [Int.neg_mul_neg]
  · rfl
theorem prod_bd {a b : Int} (ha : 0 ≤ a ∧ a ≤ 10000) (hb : 0 ≤ b ∧ b ≤ 10000) : 0 ≤ a * b ∧ a * b ≤ 100000000 := by
  refine ⟨Int.mul_nonneg ha.1 hb.1, ?_⟩
  have h := Int.mul_le_mul ha.2 hb.2 hb.1 (by decide : (0 : Int) ≤ 10000)
  omega
theorem mm_sq (x y : Int) : worth (if y < x then y else x, if x < y then y else x) = x * x + y * y := by
  unfold worth
  by_cases h1 : y < x
  · rw [if_pos h1, if_neg (by omega)]
    show y * y + x * x = _
    omega
  · rw [if_neg h1]
    by_cases h2 : x < y
    · rw [if_pos h2]
    · rw [if_neg h2]
      have e : x = y := by omega
      subst e
      rfl
theorem join_worth (a b c d : Int) : worth (joinD a b c d).1 = worth (a, b) * worth (c, d) ∧ worth (joinD a b c d).2 = worth (a, b) * worth (c, d) := by
  unfold joinD
  refine ⟨?_, ?_⟩
  · refine (mm_sq _ _).trans ?_
    rw [absI_sq]
    unfold worth
    grind
  · refine (mm_sq _ _).trans ?_
    rw [absI_sq]
    unfold worth
    grind
theorem join_bd {a b c d : Int} (h1 : (0 ≤ a ∧ a ≤ 10000) ∧ (0 ≤ b ∧ b ≤ 10000)) (h2 : (0 ≤ c ∧ c ≤ 10000) ∧ (0 ≤ d ∧ d ≤ 10000)) : Bd (joinD a b c d).1 ∧ Bd (joinD a b c d).2 := by
  have p1 := prod_bd h1.1 h2.1
  have p2 := prod_bd h1.2 h2.2
  have p3 := prod_bd h1.1 h2.2
  have p4 := prod_bd h1.2 h2.1
  have q1 := absI_bd (x := a * c - b * d) (m := 100000000) (by omega)
  have q2 := absI_bd (x := a * d - b * c) (m := 100000000) (by omega)
  unfold Bd joinD
  refine ⟨⟨?_, ?_⟩, ⟨?_, ?_⟩⟩
  all_goals
    dsimp only
    split <;> omega
theorem srt_two (x y : Int) : PyData.tuple ((srt [x, y]).map .int) = pp (if y < x then y else x, if x < y then y else x) := by
  show PyData.tuple ((if x ≤ y then [x, y] else [y, x]).map .int) = _
  unfold pp
  by_cases h : x ≤ y
  · rw [if_pos h, if_neg (by omega)]
    by_cases h2 : x < y
    · rw [if_pos h2]; rfl
    · rw [if_neg h2]
      have e : x = y := by omega
      subst e
      rfl
  · rw [if_neg h, if_pos (by omega), if_neg (by omega)]
    rfl
def spLaw (K : PySem.W.Frag) : Sp := fun vs H Q _ => ∃ (a : Addr) (ns : List Int), vs = [.ref a] ∧ SqL K H a (ns.map V.int) ∧ ns.length ≤ 63 ∧ ∀ H', Q (.bl true) H'
theorem ok_law (T : Txt K mg) : FnOk P w K mg base CX0 4 T.a_law T.d_law ["_law_script"] (spLaw K) := by
  refine T.F_law.ok sc_law (fun vs H Q E h => ?_) (fun cdv A outer s H vs Q E hr h => ?_)
  · obtain ⟨a, ns, rfl, _⟩ := h
    rfl
  · obtain ⟨a, ns, rfl, hS, hlen, q⟩ := h
    refine ⟨_, (pss_cons (ps_for PassesOwn.never rfl (pi_range1 rfl T.z_range (pa_cons pe_int pa_nil)) (pg_name (i := 1) sc_law.nd rfl (Or.inl rfl)) (pss_cons (ps_set (i := 2) sc_law.nd rfl (Or.inl rfl) (pe_call (ok_law_pair T) (hr.mono (by decide)) (by rfl) T.g_law_pair T.F_law_pair.kp T.b_law_pair .nil pass0 (pa_cons (pe_op op_add (pe_call (ok_law_cell_at T) (hr.mono (by decide)) (by rfl) T.g_law_cell_at T.F_law_cell_at.kp T.b_law_cell_at .nil pass0 (pa_cons (pv 0) (pa_cons (pe_op op_mul pe_int (pv 1)) pa_nil))) (pe_op op_mul pe_int (pv 1))) pa_nil))) (pss_cons (ps_set (i := 3) sc_law.nd rfl (Or.inl rfl) (pe_call (ok_law_pair T) (hr.mono (by decide)) (by rfl) T.g_law_pair T.F_law_pair.kp T.b_law_pair .nil pass0 (pa_cons (pe_op op_add (pe_op op_add (pe_call (ok_law_cell_at T) (hr.mono (by decide)) (by rfl) T.g_law_cell_at T.F_law_cell_at.kp T.b_law_cell_at .nil pass0 (pa_cons (pv 0) (pa_cons (pe_op op_add (pe_op op_mul pe_int (pv 1)) pe_int) pa_nil))) (pe_op op_mul pe_int (pv 1))) pe_int) pa_nil))) (pss_cons (ps_set (i := 4) sc_law.nd rfl (Or.inl rfl) (pe_lst (pa_cons (pe_op op_mul (pe_ix (ixtQ (K := K)) (pv 2) pe_int (fun _ _ => rfl)) (pe_ix (ixtQ (K := K)) (pv 3) pe_int (fun _ _ => rfl))) (pa_cons (pe_op op_mul (pe_ix (ixtQ (K := K)) (pv 2) pe_int (fun _ _ => rfl)) (pe_ix (ixtQ (K := K)) (pv 3) pe_int (fun _ _ => rfl))) (pa_cons (pe_op op_mul (pe_ix (ixtQ (K := K)) (pv 2) pe_int (fun _ _ => rfl)) (pe_ix (ixtQ (K := K)) (pv 3) pe_int (fun _ _ => rfl))) (pa_cons (pe_op op_mul (pe_ix (ixtQ (K := K)) (pv 2) pe_int (fun _ _ => rfl)) (pe_ix (ixtQ (K := K)) (pv 3) pe_int (fun _ _ => rfl))) pa_nil)))))) (pss_cons (ps_set (i := 5) sc_law.nd rfl (Or.inl rfl) (pe_callB (sortedQ (K := K)) (by rfl) T.z_sorted (by decide +kernel) (pa_cons (pe_lst (pa_cons (pe_callB call_abs (by rfl) T.z_abs (by decide +kernel) (pa_cons (pe_op op_sub (pe_ix (ixlQ (K := K)) (pv 4) pe_int (fun _ _ => rfl)) (pe_ix (ixlQ (K := K)) (pv 4) pe_int (fun _ _ => rfl))) pa_nil)) (pa_cons (pe_op op_add (pe_ix (ixlQ (K := K)) (pv 4) pe_int (fun _ _ => rfl)) (pe_ix (ixlQ (K := K)) (pv 4) pe_int (fun _ _ => rfl))) pa_nil))) pa_nil))) (pss_cons (ps_set (i := 6) sc_law.nd rfl (Or.inl rfl) (pe_callB (sortedQ (K := K)) (by rfl) T.z_sorted (by decide +kernel) (pa_cons (pe_lst (pa_cons (pe_op op_add (pe_ix (ixlQ (K := K)) (pv 4) pe_int (fun _ _ => rfl)) (pe_ix (ixlQ (K := K)) (pv 4) pe_int (fun _ _ => rfl))) (pa_cons (pe_callB call_abs (by rfl) T.z_abs (by decide +kernel) (pa_cons (pe_op op_sub (pe_ix (ixlQ (K := K)) (pv 4) pe_int (fun _ _ => rfl)) (pe_ix (ixlQ (K := K)) (pv 4) pe_int (fun _ _ => rfl))) pa_nil)) pa_nil))) pa_nil))) (pss_cons (ps_set (i := 7) sc_law.nd rfl (Or.inl rfl) (pe_call (ok_joined T) (hr.mono (by decide)) (by rfl) T.g_joined T.F_joined.kp T.b_joined .nil pass0 (pa_cons (pv 2) (pa_cons (pv 3) pa_nil)))) (pss_cons (ps_if (PW.pt (pw_or (pt_not (pt_val (pe_callB (isiQ (K := K)) (by rfl) T.z_isinstance (by decide +kernel) (pa_cons (pv 7) (pa_cons (pe_bltn (v := .ty "tuple") (by rfl) T.z_tuple (by decide +kernel) rfl) pa_nil))))) (pw_or1 (pt_cmpR (nedQ (K := K) hr.units) (pv 7) (pe_tup (pa_cons (pe_callTy (tupleQ (K := K)) (by rfl) T.z_tuple (by decide +kernel) (pa_cons (pv 5) pa_nil)) (pa_cons (pe_callTy (tupleQ (K := K)) (by rfl) T.z_tuple (by decide +kernel) (pa_cons (pv 6) pa_nil)) pa_nil))) (nomark _))))) (pss_one (ps_ret pe_bl)) pss_nil) (pss_cons (ps_if (PW.pt (pw_or (pt_not (pt_val (pe_callB (isiQ (K := K)) (by rfl) T.z_isinstance (by decide +kernel) (pa_cons (pe_ix (ixtQ (K := K)) (pv 7) pe_int (fun _ _ => rfl)) (pa_cons (pe_bltn (v := .ty "tuple") (by rfl) T.z_tuple (by decide +kernel) rfl) pa_nil))))) (pw_or1 (pt_not (pt_val (pe_callB (isiQ (K := K)) (by rfl) T.z_isinstance (by decide +kernel) (pa_cons (pe_ix (ixtQ (K := K)) (pv 7) pe_int (fun _ _ => rfl)) (pa_cons (pe_bltn (v := .ty "tuple") (by rfl) T.z_tuple (by decide +kernel) rfl) pa_nil)))))))) (pss_one (ps_ret pe_bl)) pss_nil) (pss_one (ps_for PassesOwn.never rfl (pitQ (K := K) (pv 7)) (pg_name (i := 8) sc_law.nd rfl (Or.inl rfl)) (pss_cons (ps_if (pt_val (pe_callB (anyQ (K := K) rfl) (by rfl) T.z_any (by decide +kernel) (pa_cons (pe_lc (own := [("_law_part", 9)]) (g := gName 9) rfl sc_law.nd (pitQ (K := K) (pv 8)) (blkOk_by (N := ["_law_script", "_law_at", "_law_one", "_law_other", "_law_both", "_law_first", "_law_second", "_law_found", "_law_pair_here", "_law_part"]) (sc := defScope s_law) (by decide +kernel)) (fun _ _ _ _ _ => (pg_name (i := 9) sc_law.nd rfl (Or.inl rfl))) (fun _ _ _ _ _ => pts_nil) (fun _ _ _ _ _ => (pe_or (pe_callB (isiQ (K := K)) (by rfl) T.z_isinstance (by decide +kernel) (pa_cons (pv 9) (pa_cons (pe_bltn (v := .ty "bool") (by rfl) T.z_bool (by decide +kernel) rfl) pa_nil))) (pe_one (pe_not (pe_callB (isiQ (K := K)) (by rfl) T.z_isinstance (by decide +kernel) (pa_cons (pv 9) (pa_cons (pe_bltn (v := .ty "int") (by rfl) T.z_int (by decide +kernel) rfl) pa_nil)))))))) pa_nil))) (pss_one (ps_ret pe_bl)) pss_nil) (pss_one (ps_if (pt_cmpR op_neI (pe_call (ok_law_worth T) (hr.mono (by decide)) (by rfl) T.g_law_worth T.F_law_worth.kp T.b_law_worth .nil pass0 (pa_cons (pv 8) pa_nil)) (pe_op op_mul (pe_call (ok_law_worth T) (hr.mono (by decide)) (by rfl) T.g_law_worth T.F_law_worth.kp T.b_law_worth .nil pass0 (pa_cons (pv 2) pa_nil)) (pe_call (ok_law_worth T) (hr.mono (by decide)) (by rfl) T.g_law_worth T.F_law_worth.kp T.b_law_worth .nil pass0 (pa_cons (pv 3) pa_nil))) (nomark _)) (pss_one (ps_ret pe_bl)) pss_nil)))))))))))))) (pss_one (ps_ret pe_bl))), ?_⟩
    refine q_forR1 (n := 3) (ea1 (by walk_at "ea")) (by decide) (fun i σ' H' => Ex H H' ∧ ∃ y1 y2 y3 y4 y5 y6 y7 y8 y9, σ' = [some (.ref a), y1, y2, y3, y4, y5, y6, y7, y8, y9])
      (fun H1 e1 => ⟨e1, none, none, none, none, none, none, none, none, none, rfl⟩) ?_ (fun σ' H' _ => s_retD (d := .bool true) (by walk_at "ev") fun v H2 _ r => by
        cases dp_bl r
        exact q H2)
    rintro i σ' H' hi ⟨e0, y1, y2, y3, y4, y5, y6, y7, y8, y9, rfl⟩
    dsimp only [List.set]
    have hS' := ex_l e0 hS
    -- the two pairs
    have bX := pairOf_bd (cellAt ns (2 * (i : Int)) + 977 * (i : Int))
    have bY := pairOf_bd (cellAt ns (2 * (i : Int) + 1) + 31 * (i : Int) + 5)
    refine q_asgD (d := pp (pairOf (cellAt ns (2 * (i : Int)) + 977 * (i : Int)))) (by walk_at "ev") fun v1 H1 e1 r1 => ?_
    dsimp only [List.set]
    refine q_asgD (d := pp (pairOf (cellAt ns (2 * (i : Int) + 1) + 31 * (i : Int) + 5))) (by walk_at "ev") fun v2 H2 e2 r2 => ?_
    dsimp only [List.set]
    generalize pairOf (cellAt ns (2 * (i : Int)) + 977 * (i : Int)) = X at r1 bX
    generalize pairOf (cellAt ns (2 * (i : Int) + 1) + 31 * (i : Int) + 5) = Y at r2 bY
    obtain ⟨x1, x2⟩ := X
    obtain ⟨z1, z2⟩ := Y
    dsimp only [pp] at r1 r2 bX bY
    refine q_asgD (d := .list [.int (x1 * z1), .int (x2 * z2), .int (x1 * z2), .int (x2 * z1)]) (by walk_at "ev") fun v3 H3 e3 r3 => ?_
    dsimp only [List.set]
    refine q_asgD (d := .list ((srt [absI (x1 * z1 - x2 * z2), x1 * z2 + x2 * z1]).map .int)) (ed_sorted (ds := [.int (absI (x1 * z1 - x2 * z2)), .int (x1 * z2 + x2 * z1)]) (by walk_at "ev") rfl) fun v4 H4 e4 r4 => ?_
    dsimp only [List.set]
    refine q_asgD (d := .list ((srt [x1 * z1 + x2 * z2, absI (x1 * z2 - x2 * z1)]).map .int)) (ed_sorted (ds := [.int (x1 * z1 + x2 * z2), .int (absI (x1 * z2 - x2 * z1))]) (by walk_at "ev") rfl) fun v5 H5 e5 r5 => ?_
    dsimp only [List.set]
    refine q_asgD (d := .tuple [pp (joinD x1 x2 z1 z2).1, pp (joinD x1 x2 z1 z2).2]) (ed_call (ds := [pp (x1, x2), pp (z1, z2)]) (by walk_at "ea") ⟨x1, x2, z1, z2, rfl, bX, bY, rfl⟩) fun v6 H6 e6 r6 => ?_
    dsimp only [List.set]
    have hw := join_worth x1 x2 z1 z2
    have hb := join_bd bX bY
    refine q_when (b := false) ?_ (fun z => nomatch z) fun _ H7 e7 => ?_
    · refine et_or (a := false) (b := false) (et_not (a := true) (dt_B (ed_isi (by walk_at "ev") (kit_tuple _)))) fun _ => ?_
      refine et_is (dt_test (ed_neD (a := .tuple [pp (joinD x1 x2 z1 z2).1, pp (joinD x1 x2 z1 z2).2]) (b := .tuple [.tuple ((srt [absI (x1 * z1 - x2 * z2), x1 * z2 + x2 * z1]).map .int), .tuple ((srt [x1 * z1 + x2 * z2, absI (x1 * z2 - x2 * z1)]).map .int)])
        (by walk_at "ev") (ed_tup (da_cons (ed_tupof (by walk_at "ev")) (da_cons (ed_tupof (by walk_at "ev")) da_nil)) (le_lit rfl)) rfl ?_)) ?_
      · rw [srt_two, srt_two]
        rfl
      · rw [srt_two, srt_two]
        exact congrArg not (SeqAt.eqv_refl (.tuple [pp (joinD x1 x2 z1 z2).1, pp (joinD x1 x2 z1 z2).2]) rfl)
    refine q_when (b := false) ?_ (fun z => nomatch z) fun _ H8 e8 => ?_
    · refine et_or (a := false) (b := false) (et_not (a := true) (dt_B (ed_isi (d := pp (joinD x1 x2 z1 z2).1) (by walk_at "ev") (kit_tuple _)))) fun _ => et_not (a := true) (dt_B (ed_isi (d := pp (joinD x1 x2 z1 z2).2) (by walk_at "ev") (kit_tuple _)))
    refine s_forTD (ds := [pp (joinD x1 x2 z1 z2).1, pp (joinD x1 x2 z1 z2).2]) (by walk_at "ev") (fun _ s h => ∃ y8 y9, s = [some (.ref a), some (.int i), some v1, some v2, some v3, some v4, some v5, some v6, y8, y9]) (fun H9 e9 => ⟨_, _, rfl⟩) ?_ ?_
    · rintro j d v s' h' N hj e9 rv ⟨y8, y9, rfl⟩ hN
      obtain ⟨u, hu, hd, hW⟩ : ∃ u : Int × Int, Bd u ∧ d = pp u ∧ worth u = worth (x1, x2) * worth (z1, z2) := by
        match j, hj with
        | 0, hj => exact ⟨_, hb.1, (Option.some.inj hj).symm, hw.1⟩
        | 1, hj => exact ⟨_, hb.2, (Option.some.inj hj).symm, hw.2⟩
      subst hd
      show tSeq _ _ _ _ _
      refine q_when (b := false) ?_ (fun z => nomatch z) fun _ H10 e10 => ?_
      · refine et_is (dt_B (ed_any (ds := [PyData.int u.1, PyData.int u.2].map fun d => .bool (isi_bool d || !isi_int d)) (ed_lcT (ds := [.int u.1, .int u.2]) _ (by walk_at "ev") (le_lit rfl) (by intro _; rfl) ?_ (fun _ _ => rfl)) rfl)) rfl
        intro v d H11 e11 hm rd
        exact ed_or (ed_isi (ed_var rfl rd) (kit_bool _)) fun _ => ed_not (ed_isi (ed_var rfl rd) (kit_int _))
      refine s_when (b := false) ?_ (fun z => nomatch z) fun _ H11 e11 => ?_
      · refine et_is (dt_test (ed_neI (i := worth u) (j := worth (x1, x2) * worth (z1, z2)) (ed_call (ds := [pp u]) (by walk_at "ea") ⟨u, rfl, hu, rfl⟩) (ed_mul (ed_call (ds := [pp (x1, x2)]) (by walk_at "ea") ⟨(x1, x2), rfl, ?_, rfl⟩) (ed_call (ds := [pp (z1, z2)]) (by walk_at "ea") ⟨(z1, z2), rfl, ?_, rfl⟩) ?_))) ?_
        · unfold Bd
          dsimp only
          omega
        · unfold Bd
          dsimp only
          omega
        · left
          have p1 := prod_bd bX.1 bX.1
          have p2 := prod_bd bX.2 bX.2
          unfold worth
          dsimp only
          omega
        · rw [hW]
          simp
      exact hN _ _ (e10.trans e11) ⟨_, _, rfl⟩
    · rintro s' h' e9 ⟨y8, y9, rfl⟩
      exact ⟨e0.trans (e1.trans (e2.trans (e3.trans (e4.trans (e5.trans (e6.trans (e7.trans (e8.trans e9)))))))), _, _, _, _, _, _, _, _, _, rfl⟩
end
end Sq
namespace Sq
open PySem PySem.Spec PyProof.Rows L2 Evl
theorem all_mk {l : PySem.W.OpenLaw} {w : World} {K : PySem.W.Frag} {h : Heap} {mg : Str → Option Value} {fa : Addr} (X : K.In h) (G : h.Ns mainGlobals mg) (hfa : mg "law" = some (.ref fa))
    {a_is_number : Addr} {od_is_number an_is_number : Option Addr} {sl_is_number : Array (Option Value)} {oc_is_number kV_is_number dc_is_number pm_is_number cd_is_number ct_is_number : Value}
    {a_check_pair : Addr} {od_check_pair an_check_pair : Option Addr} {sl_check_pair : Array (Option Value)} {oc_check_pair kV_check_pair dc_check_pair pm_check_pair cd_check_pair ct_check_pair : Value}
    {a_joined : Addr} {od_joined an_joined : Option Addr} {sl_joined : Array (Option Value)} {oc_joined kV_joined dc_joined pm_joined cd_joined ct_joined : Value}
    {a_law_cell_at : Addr} {od_law_cell_at an_law_cell_at : Option Addr} {sl_law_cell_at : Array (Option Value)} {oc_law_cell_at kV_law_cell_at dc_law_cell_at pm_law_cell_at cd_law_cell_at ct_law_cell_at : Value}
    {a_law_draw : Addr} {od_law_draw an_law_draw : Option Addr} {sl_law_draw : Array (Option Value)} {oc_law_draw kV_law_draw dc_law_draw pm_law_draw cd_law_draw ct_law_draw : Value}
    {a_law_pair : Addr} {od_law_pair an_law_pair : Option Addr} {sl_law_pair : Array (Option Value)} {oc_law_pair kV_law_pair dc_law_pair pm_law_pair cd_law_pair ct_law_pair : Value}
    {a_law_worth : Addr} {od_law_worth an_law_worth : Option Addr} {sl_law_worth : Array (Option Value)} {oc_law_worth kV_law_worth dc_law_worth pm_law_worth cd_law_worth ct_law_worth : Value}
    {a_law : Addr} {od_law an_law : Option Addr} {sl_law : Array (Option Value)} {oc_law kV_law dc_law pm_law cd_law ct_law : Value}
    {t_GREATEST : Tok}
    (ns_is_number : PySem.W.nsIn K mainGlobals "is_number" = some (some (.ref a_is_number)))
    (lk_is_number : K.lookup a_is_number = some ⟨oc_is_number, od_is_number, .func (PySem.W.fnOf "is_number" "is_number" (defArgs s_is_number) (defBody s_is_number) (defScope s_is_number) .none kV_is_number dc_is_number pm_is_number an_is_number cd_is_number ct_is_number), sl_is_number⟩)
    (co_is_number : PySem.W.codeIn K cd_is_number "is_number" = true)
    (kp_is_number : PySem.W.keepIn K (.ref a_is_number) = true)
    (ns_check_pair : PySem.W.nsIn K mainGlobals "check_pair" = some (some (.ref a_check_pair)))
    (lk_check_pair : K.lookup a_check_pair = some ⟨oc_check_pair, od_check_pair, .func (PySem.W.fnOf "check_pair" "check_pair" (defArgs s_check_pair) (defBody s_check_pair) (defScope s_check_pair) .none kV_check_pair dc_check_pair pm_check_pair an_check_pair cd_check_pair ct_check_pair), sl_check_pair⟩)
    (co_check_pair : PySem.W.codeIn K cd_check_pair "check_pair" = true)
    (kp_check_pair : PySem.W.keepIn K (.ref a_check_pair) = true)
    (ns_joined : PySem.W.nsIn K mainGlobals "joined" = some (some (.ref a_joined)))
    (lk_joined : K.lookup a_joined = some ⟨oc_joined, od_joined, .func (PySem.W.fnOf "joined" "joined" (defArgs s_joined) (defBody s_joined) (defScope s_joined) .none kV_joined dc_joined pm_joined an_joined cd_joined ct_joined), sl_joined⟩)
    (co_joined : PySem.W.codeIn K cd_joined "joined" = true)
    (kp_joined : PySem.W.keepIn K (.ref a_joined) = true)
    (ns_law_cell_at : PySem.W.nsIn K mainGlobals "_law_cell_at" = some (some (.ref a_law_cell_at)))
    (lk_law_cell_at : K.lookup a_law_cell_at = some ⟨oc_law_cell_at, od_law_cell_at, .func (PySem.W.fnOf "_law_cell_at" "_law_cell_at" (defArgs s_law_cell_at) (defBody s_law_cell_at) (defScope s_law_cell_at) .none kV_law_cell_at dc_law_cell_at pm_law_cell_at an_law_cell_at cd_law_cell_at ct_law_cell_at), sl_law_cell_at⟩)
    (co_law_cell_at : PySem.W.codeIn K cd_law_cell_at "_law_cell_at" = true)
    (kp_law_cell_at : PySem.W.keepIn K (.ref a_law_cell_at) = true)
    (ns_law_draw : PySem.W.nsIn K mainGlobals "_law_draw" = some (some (.ref a_law_draw)))
    (lk_law_draw : K.lookup a_law_draw = some ⟨oc_law_draw, od_law_draw, .func (PySem.W.fnOf "_law_draw" "_law_draw" (defArgs s_law_draw) (defBody s_law_draw) (defScope s_law_draw) .none kV_law_draw dc_law_draw pm_law_draw an_law_draw cd_law_draw ct_law_draw), sl_law_draw⟩)
    (co_law_draw : PySem.W.codeIn K cd_law_draw "_law_draw" = true)
    (kp_law_draw : PySem.W.keepIn K (.ref a_law_draw) = true)
    (ns_law_pair : PySem.W.nsIn K mainGlobals "_law_pair" = some (some (.ref a_law_pair)))
    (lk_law_pair : K.lookup a_law_pair = some ⟨oc_law_pair, od_law_pair, .func (PySem.W.fnOf "_law_pair" "_law_pair" (defArgs s_law_pair) (defBody s_law_pair) (defScope s_law_pair) .none kV_law_pair dc_law_pair pm_law_pair an_law_pair cd_law_pair ct_law_pair), sl_law_pair⟩)
    (co_law_pair : PySem.W.codeIn K cd_law_pair "_law_pair" = true)
    (kp_law_pair : PySem.W.keepIn K (.ref a_law_pair) = true)
    (ns_law_worth : PySem.W.nsIn K mainGlobals "_law_worth" = some (some (.ref a_law_worth)))
    (lk_law_worth : K.lookup a_law_worth = some ⟨oc_law_worth, od_law_worth, .func (PySem.W.fnOf "_law_worth" "_law_worth" (defArgs s_law_worth) (defBody s_law_worth) (defScope s_law_worth) .none kV_law_worth dc_law_worth pm_law_worth an_law_worth cd_law_worth ct_law_worth), sl_law_worth⟩)
    (co_law_worth : PySem.W.codeIn K cd_law_worth "_law_worth" = true)
    (kp_law_worth : PySem.W.keepIn K (.ref a_law_worth) = true)
    (ns_law : PySem.W.nsIn K mainGlobals "law" = some (some (.ref a_law)))
    (lk_law : K.lookup a_law = some ⟨oc_law, od_law, .func (PySem.W.fnOf "law" "law" (defArgs s_law) (defBody s_law) (defScope s_law) .none kV_law dc_law pm_law an_law cd_law ct_law), sl_law⟩)
    (co_law : PySem.W.codeIn K cd_law "law" = true)
    (kp_law : PySem.W.keepIn K (.ref a_law) = true)
    (ns_GREATEST : PySem.W.nsIn K mainGlobals "GREATEST" = some (some (.int 10000 t_GREATEST)))
    (z_abs : PySem.W.nsIn K mainGlobals "abs" = some none)
    (z_all : PySem.W.nsIn K mainGlobals "all" = some none)
    (z_any : PySem.W.nsIn K mainGlobals "any" = some none)
    (z_bool : PySem.W.nsIn K mainGlobals "bool" = some none)
    (z_int : PySem.W.nsIn K mainGlobals "int" = some none)
    (z_isinstance : PySem.W.nsIn K mainGlobals "isinstance" = some none)
    (z_len : PySem.W.nsIn K mainGlobals "len" = some none)
    (z_max : PySem.W.nsIn K mainGlobals "max" = some none)
    (z_min : PySem.W.nsIn K mainGlobals "min" = some none)
    (z_range : PySem.W.nsIn K mainGlobals "range" = some none)
    (z_sorted : PySem.W.nsIn K mainGlobals "sorted" = some none)
    (z_tuple : PySem.W.nsIn K mainGlobals "tuple" = some none) :
    ∃ fd : FuncData, (∀ (s : Shared) (v : Value), BindsTo s fd ⟨[v], []⟩ [("_law_script", v)]) ∧ ∀ base : Heap, K.In base → base.Ns mainGlobals mg → FnOk l.prog w K mg base CX0 4 fa fd ["_law_script"] (spLaw K) := by
  have e := hfa.symm.trans (PySem.W.mg_of X G ns_law)
  cases e
  exact ⟨PySem.W.fnOf "law" "law" (defArgs s_law) (defBody s_law) (defScope s_law) .none kV_law dc_law pm_law an_law cd_law ct_law, fun s v => .of_eq rfl, fun base _ _ => ok_law {
    a_is_number := a_is_number
    d_is_number := _
    F_is_number := fun_mk (st := s_is_number) lk_is_number co_is_number kp_is_number
    b_is_number := (fun_mk (st := s_is_number) lk_is_number co_is_number kp_is_number).binds (ps := ["thing", "low", "high"]) fun _ _ _ _ _ _ us hl => match us, hl with | [_, _, _], _ => rfl
    g_is_number := PySem.W.mg_of X G ns_is_number
    a_check_pair := a_check_pair
    d_check_pair := _
    F_check_pair := fun_mk (st := s_check_pair) lk_check_pair co_check_pair kp_check_pair
    b_check_pair := (fun_mk (st := s_check_pair) lk_check_pair co_check_pair kp_check_pair).binds (ps := ["pair"]) fun _ _ _ _ _ _ us hl => match us, hl with | [_], _ => rfl
    g_check_pair := PySem.W.mg_of X G ns_check_pair
    a_joined := a_joined
    d_joined := _
    F_joined := fun_mk (st := s_joined) lk_joined co_joined kp_joined
    b_joined := (fun_mk (st := s_joined) lk_joined co_joined kp_joined).binds (ps := ["one", "other"]) fun _ _ _ _ _ _ us hl => match us, hl with | [_, _], _ => rfl
    g_joined := PySem.W.mg_of X G ns_joined
    a_law_cell_at := a_law_cell_at
    d_law_cell_at := _
    F_law_cell_at := fun_mk (st := s_law_cell_at) lk_law_cell_at co_law_cell_at kp_law_cell_at
    b_law_cell_at := (fun_mk (st := s_law_cell_at) lk_law_cell_at co_law_cell_at kp_law_cell_at).binds (ps := ["_law_script", "_law_k"]) fun _ _ _ _ _ _ us hl => match us, hl with | [_, _], _ => rfl
    g_law_cell_at := PySem.W.mg_of X G ns_law_cell_at
    a_law_draw := a_law_draw
    d_law_draw := _
    F_law_draw := fun_mk (st := s_law_draw) lk_law_draw co_law_draw kp_law_draw
    b_law_draw := (fun_mk (st := s_law_draw) lk_law_draw co_law_draw kp_law_draw).binds (ps := ["_law_cell", "_law_k", "_law_many"]) fun _ _ _ _ _ _ us hl => match us, hl with | [_, _, _], _ => rfl
    g_law_draw := PySem.W.mg_of X G ns_law_draw
    a_law_pair := a_law_pair
    d_law_pair := _
    F_law_pair := fun_mk (st := s_law_pair) lk_law_pair co_law_pair kp_law_pair
    b_law_pair := (fun_mk (st := s_law_pair) lk_law_pair co_law_pair kp_law_pair).binds (ps := ["_law_cell"]) fun _ _ _ _ _ _ us hl => match us, hl with | [_], _ => rfl
    g_law_pair := PySem.W.mg_of X G ns_law_pair
    a_law_worth := a_law_worth
    d_law_worth := _
    F_law_worth := fun_mk (st := s_law_worth) lk_law_worth co_law_worth kp_law_worth
    b_law_worth := (fun_mk (st := s_law_worth) lk_law_worth co_law_worth kp_law_worth).binds (ps := ["_law_pair_here"]) fun _ _ _ _ _ _ us hl => match us, hl with | [_], _ => rfl
    g_law_worth := PySem.W.mg_of X G ns_law_worth
    a_law := fa
    d_law := _
    F_law := fun_mk (st := s_law) lk_law co_law kp_law
    b_law := (fun_mk (st := s_law) lk_law co_law kp_law).binds (ps := ["_law_script"]) fun _ _ _ _ _ _ us hl => match us, hl with | [_], _ => rfl
    g_law := PySem.W.mg_of X G ns_law
    t_GREATEST := t_GREATEST
    g_GREATEST := PySem.W.mg_of X G ns_GREATEST
    z_abs := PySem.W.mg_none_of X G z_abs
    z_all := PySem.W.mg_none_of X G z_all
    z_any := PySem.W.mg_none_of X G z_any
    z_bool := PySem.W.mg_none_of X G z_bool
    z_int := PySem.W.mg_none_of X G z_int
    z_isinstance := PySem.W.mg_none_of X G z_isinstance
    z_len := PySem.W.mg_none_of X G z_len
    z_max := PySem.W.mg_none_of X G z_max
    z_min := PySem.W.mg_none_of X G z_min
    z_range := PySem.W.mg_none_of X G z_range
    z_sorted := PySem.W.mg_none_of X G z_sorted
    z_tuple := PySem.W.mg_none_of X G z_tuple }⟩
end Sq
open PySem PySem.W PyProof.Rows
set_option maxHeartbeats 0 in
theorem PySem.Challenge.cw_squarefield_k05_joined_holds : PySem.Challenge.rw_squarefield_k05_joined.Holds := by
  w_on; o_law; k_head; (case hw => w_witness2)
  k_fill
  refine L2.walk_of (l := PySem.Challenge.rw_squarefield_k05_joined) (n := 63) (k := 4) (x := "_law_script") (CX := fun _ => L2.CX0) (sp := fun w => Sq.spLaw _) rfl (by decide) rfl ⟨rfl, by decide, by decide⟩ (fun w h Y => PySem.W.kIn_of Y) ?F (fun _ _ a ns hl _ hS => ⟨a, ns, rfl, hS, hl, fun _ => rfl⟩) (fun _ _ _ _ _ h => h)
  case F =>
    intro w mg fa h KX G hmg
    refine' Sq.all_mk KX G hmg ?ns_is_number ?lk_is_number ?co_is_number ?kp_is_number ?ns_check_pair ?lk_check_pair ?co_check_pair ?kp_check_pair ?ns_joined ?lk_joined ?co_joined ?kp_joined ?ns_law_cell_at ?lk_law_cell_at ?co_law_cell_at ?kp_law_cell_at ?ns_law_draw ?lk_law_draw ?co_law_draw ?kp_law_draw ?ns_law_pair ?lk_law_pair ?co_law_pair ?kp_law_pair ?ns_law_worth ?lk_law_worth ?co_law_worth ?kp_law_worth ?ns_law ?lk_law ?co_law ?kp_law ?ns_GREATEST ?z_abs ?z_all ?z_any ?z_bool ?z_int ?z_isinstance ?z_len ?z_max ?z_min ?z_range ?z_sorted ?z_tuple
    (case ns_is_number => k_is)
    (case lk_is_number => k_is)
    (case co_is_number => k_is)
    (case kp_is_number => k_is)
    (case ns_check_pair => k_is)
    (case lk_check_pair => k_is)
    (case co_check_pair => k_is)
    (case kp_check_pair => k_is)
    (case ns_joined => k_is)
    (case lk_joined => k_is)
    (case co_joined => k_is)
    (case kp_joined => k_is)
    (case ns_law_cell_at => k_is)
    (case lk_law_cell_at => k_is)
    (case co_law_cell_at => k_is)
    (case kp_law_cell_at => k_is)
    (case ns_law_draw => k_is)
    (case lk_law_draw => k_is)
    (case co_law_draw => k_is)
    (case kp_law_draw => k_is)
    (case ns_law_pair => k_is)
    (case lk_law_pair => k_is)
    (case co_law_pair => k_is)
    (case kp_law_pair => k_is)
    (case ns_law_worth => k_is)
    (case lk_law_worth => k_is)
    (case co_law_worth => k_is)
    (case kp_law_worth => k_is)
    (case ns_law => k_is)
    (case lk_law => k_is)
    (case co_law => k_is)
    (case kp_law => k_is)
    (case ns_GREATEST => k_is)
    (case z_abs => k_is)
    (case z_all => k_is)
    (case z_any => k_is)
    (case z_bool => k_is)
    (case z_int => k_is)
    (case z_isinstance => k_is)
    (case z_len => k_is)
    (case z_max => k_is)
    (case z_min => k_is)
    (case z_range => k_is)
    (case z_sorted => k_is)
    (case z_tuple => k_is)
