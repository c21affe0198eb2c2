import PyProof.Rows.All
import Wide.All
import OpenK.AllK
import Wide.FinOn
import HandS.ForMost
import HandS.Evl
import HandS.Wide
import HandS.Sort
import HandS.SortRule
import HandS.Slots
import HandS.SlotsOwn
import HandS.IsInst
import HandS.Conv
import HandS.Star
import HandS.Walk
import HandS.EndTab
import HandS.AnyAll
import HandS.Gcd
import HandS.Exc
import HandS.RaiseMore
import PySem.Challenge.RW_formrings_k42_whole_bars_of_rings
import HandS.Style
set_option Elab.async false
set_option linter.all false
set_option maxRecDepth 100000
set_option maxHeartbeats 4000000
/-! Zb: the base of the proof by hand: the text by places, defs, data, what evaluates to what. -/
namespace Z
open PySem PySem.Spec PyProof.Rows L2 Evl

def topS (i : Nat) : Stmt := PySem.Challenge.pw_formrings_k42_whole_bars_of_rings.main.body.getD i (.Pass ⟨0, 0, 0, 0⟩)

/-! ### a def of the text as it stands behind the top; a def that keeps a promise -/
def Raw (K : PySem.W.Frag) (mg : Str → Option Value) (x : Str) (st : Stmt) : Prop := ∃ (f : Addr) (fd : FuncData), mg x = some (.ref f) ∧ Fun K x x st f fd
structure Fk (P : Program) (w : World) (K : PySem.W.Frag) (mg : Str → Option Value) (base : Heap) (x : Str) (k : Nat) (ps : List Str) (sp : Sp) : Prop where
  ex : ∃ (f : Addr) (fd : FuncData), mg x = some (.ref f) ∧ PySem.W.keepIn K (.ref f) = true ∧ Binds K fd ps [] ∧ FnOk P w K mg base CX0 k f fd ps sp
section
variable {P : Program} {w : World} {K : PySem.W.Frag} {mg : Str → Option Value} {base : Heap}
theorem Raw.fk {x : Str} {st : Stmt} {N ps : List Str} {k : Nat} {sp : Sp} (R : Raw K mg x st) (S : FnScope N ps (defScope st))
    (hb : ∀ (kV doc pm : Value) (an : Option Addr) (cdv ct : Value) (us : List Value), us.length = ps.length → bindArgs (PySem.W.fnOf x x (defArgs st) (defBody st) (defScope st) .none kV doc pm an cdv ct) ⟨us, []⟩ = pure (ps.zip us))
    (len : ∀ vs H Q E, sp vs H Q E → vs.length = ps.length)
    (hbody : ∀ (f : Addr) (cdv : Value) (A : Around) (outer : List Env) (s : Shared) (H : Hp) (vs : List V) (Q : VK) (E : XK), Room k (A.deeper (envOfC x (defScope st) s.heap.objs.size f cdv)) → sp vs H Q E →
      ∃ t, PSs (cxOf CX0 P w K mg base N x (defScope st) f cdv A outer s H E).nox (defBody st) t ∧ t { nx := fun _ H' => Q .non H', rt := Q } (start N vs) H) : Fk P w K mg base x (k + 1) ps sp := by
  obtain ⟨f, fd, hm, F⟩ := R
  exact ⟨f, fd, hm, F.kp, F.binds hb, F.ok S len fun cdv A outer s H vs Q E hr hsp => hbody f cdv A outer s H vs Q E hr hsp⟩
end
section
variable {X : Cx} {e : Expr} {es : List Expr} {x : Str} {t : TA} {pos p : Pos} {k : Nat} {ps : List Str} {sp : Sp}
/-- a call of a def -/
theorem pf (F : Fk X.prog X.w X.K X.mg X.base x k ps sp) (hr : Room k X.A) (hg : Gl X x) (ha : PA X (e :: es) t) (hdb : (x == ("__debug__" : Str)) = false := by decide)
    (he : starEach (e :: es) X.env = (false, eval e X.env) :: starEach es X.env := by rfl) (hpl : (backTo pos (starEach es X.env)).any (·.1) = false := by rfl) : PE X (.Call (.Name x p) (e :: es) [] pos) (tCall sp [] E0 t) := by
  obtain ⟨f, fd, hm, hk, hb, F⟩ := F.ex
  exact pe_call F hr hg hm hk hb .nil pass0 ha hdb he hpl
end

/-! ### data -/
section
variable {K : PySem.W.Frag} {H H' : Hp}
mutual
theorem dp_ex (e : Ex H H') : ∀ (d : PyData) (v : V), Dp K H v d → Dp K H' v d
  | .none, _, .non => .non
  | .bool _, _, .bl b => .bl b
  | .int _, _, .int i => .int i
  | .str _, _, .str s => .str s
  | .list ds, _, .lst h a => .lst (ex_l e h) (dpa_ex e ds _ a)
  | .tuple ds, _, .tup h a => .tup (ex_t e h) (dpa_ex e ds _ a)
theorem dpa_ex (e : Ex H H') : ∀ (ds : List PyData) (vs : List V), DpAll K H vs ds → DpAll K H' vs ds
  | [], _, .nil => .nil
  | d :: ds, _, .cons h t => .cons (dp_ex e d _ h) (dpa_ex e ds _ t)
end
theorem dp_int {v : V} {i : Int} (h : Dp K H v (.int i)) : v = .int i := by cases h; rfl
theorem dp_bl {v : V} {i : Bool} (h : Dp K H v (.bool i)) : v = .bl i := by cases h; rfl
theorem dp_str {v : V} {i : Str} (h : Dp K H v (.str i)) : v = .str i := by cases h; rfl
theorem dp_non {v : V} (h : Dp K H v .none) : v = .non := by cases h; rfl
theorem dp_tup {v : V} {ds : List PyData} (h : Dp K H v (.tuple ds)) : ∃ p xs, v = .ref p ∧ SqT K H p xs ∧ DpAll K H xs ds := by
  cases h with
  | tup a b => exact ⟨_, _, rfl, a, b⟩
theorem dp_lst {v : V} {ds : List PyData} (h : Dp K H v (.list ds)) : ∃ p xs, v = .ref p ∧ SqL K H p xs ∧ DpAll K H xs ds := by
  cases h with
  | lst a b => exact ⟨_, _, rfl, a, b⟩
theorem dpa_nil {vs : List V} (h : DpAll K H vs []) : vs = [] := by cases h; rfl
theorem dpa_cons {vs : List V} {d : PyData} {ds : List PyData} (h : DpAll K H vs (d :: ds)) : ∃ v us, vs = v :: us ∧ Dp K H v d ∧ DpAll K H us ds := by
  cases h with
  | cons a b => exact ⟨_, _, rfl, a, b⟩
theorem dpa_ints : ∀ ns : List Int, DpAll K H (ns.map V.int) (ns.map PyData.int)
  | [] => .nil
  | n :: ns => .cons (.int n) (dpa_ints ns)
theorem dpa_ints_inv : ∀ (ns : List Int) {vs : List V}, DpAll K H vs (ns.map PyData.int) → vs = ns.map V.int
  | [], _, h => dpa_nil h
  | n :: ns, _, h => by
    obtain ⟨v, us, rfl, h1, h2⟩ := dpa_cons h
    rw [dp_int h1, dpa_ints_inv ns h2]; rfl
theorem dpa_app : ∀ {as : List V} {bs : List V} {ds es : List PyData}, DpAll K H as ds → DpAll K H bs es → DpAll K H (as ++ bs) (ds ++ es)
  | _, _, _, _, .nil, h => h
  | _, _, _, _, .cons a b, h => .cons a (dpa_app b h)
theorem dpa_len : ∀ {as : List V} {ds : List PyData}, DpAll K H as ds → as.length = ds.length
  | _, _, .nil => rfl
  | _, _, .cons _ b => by rw [List.length_cons, List.length_cons, dpa_len b]
theorem dpa_get : ∀ {as : List V} {ds : List PyData} {i : Nat} {v : V}, DpAll K H as ds → as[i]? = some v → ∃ d, ds[i]? = some d ∧ Dp K H v d
  | _, _, _, _, .nil, h => by simp at h
  | _, _, 0, _, .cons a b, h => by simp at h; subst h; exact ⟨_, rfl, a⟩
  | _, _, i + 1, _, .cons a b, h => by
    obtain ⟨d, h1, h2⟩ := dpa_get (i := i) b (by simpa using h)
    exact ⟨d, by simpa using h1, h2⟩
/-- a tuple of ints at v -/
def Rw (K : PySem.W.Frag) (H : Hp) (v : V) (ns : List Int) : Prop := Dp K H v (.tuple (ns.map PyData.int))
theorem rw_at {v : V} {ns : List Int} (h : Rw K H v ns) : ∃ p, v = .ref p ∧ SqT K H p (ns.map V.int) := by
  obtain ⟨p, xs, rfl, h1, h2⟩ := dp_tup h
  rw [dpa_ints_inv ns h2] at h1
  exact ⟨p, rfl, h1⟩
theorem rw_mk {p : Addr} {ns : List Int} (h : SqT K H p (ns.map V.int)) : Rw K H (.ref p) ns := .tup h (dpa_ints ns)
theorem rw_ex (e : Ex H H') {v : V} {ns : List Int} (h : Rw K H v ns) : Rw K H' v ns := dp_ex e _ _ h
end

/-! ### what evaluates to what, the heap told -/
def Er (te : TE) (σ : L2.St) (H : Hp) (R : V → Hp → Prop) : Prop := ∀ H1, Ex H H1 → ∀ Q : VK, (∀ v H2, Ex H1 H2 → R v H2 → Q v H2) → te σ H1 Q
def Ea (ta : TA) (σ : L2.St) (H : Hp) (R : List V → Hp → Prop) : Prop := ∀ H1, Ex H H1 → ∀ Q : List V → Hp → Prop, (∀ v H2, Ex H1 H2 → R v H2 → Q v H2) → ta σ H1 Q
section
variable {K : PySem.W.Frag} {σ : L2.St} {H H' : Hp} {ta tb te tx : TE} {t u : TT} {x y z v : V} {r : R2} {R R' S : V → Hp → Prop}
theorem er_ev (h : Ev te σ H v) : Er te σ H (fun v' _ => v' = v) := fun H1 e Q q => h H1 e Q fun H2 e2 => q v H2 e2 rfl
theorem ev_er (h : Er te σ H (fun v' _ => v' = v)) : Ev te σ H v := fun H1 e Q q => h H1 e Q fun v' H2 e2 r => by subst r; exact q H2 e2
theorem Er.mono (e : Ex H H') (h : Er te σ H R) : Er te σ H' R := fun H1 a Q q => h H1 (e.trans a) Q q
theorem Er.imp (h : Er te σ H R) (i : ∀ v H', R v H' → R' v H') : Er te σ H R' := fun H1 a Q q => h H1 a Q fun v H2 e r => q v H2 e (i v H2 r)
theorem er_var {i : Nat} (h : σ[i]? = some (some v)) (hr : ∀ H1, Ex H H1 → R v H1) : Er (tVar i) σ H R := fun H1 e _ q => ⟨v, h, q v H1 (Ex.refl H1) (hr H1 e)⟩
theorem er_c (hr : ∀ H1, Ex H H1 → R v H1) : Er (tC v) σ H R := fun H1 e _ q => q v H1 (Ex.refl H1) (hr H1 e)
theorem ea_nil' : Ea tNil σ H (fun vs _ => vs = []) := fun H1 _ _ q => q [] H1 (Ex.refl H1) rfl
/-- the arguments, from the left; what is known of the first is kept by the growth -/
theorem ea_cons' {tr : TA} {Rs : List V → Hp → Prop} (h : Er ta σ H R) (m : ∀ v H1 H2, Ex H1 H2 → R v H1 → R v H2) (hr : Ea tr σ H Rs) : Ea (tCons ta tr) σ H (fun vs H' => ∃ v us, vs = v :: us ∧ R v H' ∧ Rs us H') := fun H1 e _ q =>
  h H1 e _ fun v H2 e2 r => hr H2 (e.trans e2) _ fun us H3 e3 rs => q (v :: us) H3 (e2.trans e3) ⟨v, us, rfl, m v H2 H3 e3 r, rs⟩
theorem er_call {sp : Sp} {E : XK} {t : TA} {Rs : List V → Hp → Prop} (h : Ea t σ H Rs) (hs : ∀ vs H1, Ex H H1 → Rs vs H1 → ∀ Q : VK, (∀ v H2, Ex H1 H2 → R v H2 → Q v H2) → sp vs H1 Q E) : Er (tCall sp [] E t) σ H R := fun H1 e Q q =>
  h H1 e _ fun vs H2 e2 rs => by
    have := hs vs H2 (e.trans e2) rs Q fun v H3 e3 r3 => q v H3 (e2.trans e3) r3
    show sp (vs ++ []) H2 Q E
    rw [List.append_nil]
    exact this
theorem ev_call' {sp : Sp} {E : XK} {t : TA} {vs : List V} (h : EvA t σ H vs) (hs : ∀ H1, Ex H H1 → ∀ Q : VK, (∀ H2, Ex H1 H2 → Q z H2) → sp vs H1 Q E) : Ev (tCall sp [] E t) σ H z := fun H1 e Q q =>
  h H1 e _ fun H2 e2 => by
    have := hs H2 (e.trans e2) Q fun H3 e3 => q H3 (e2.trans e3)
    show sp (vs ++ []) H2 Q E
    rw [List.append_nil]
    exact this
theorem er_callV {sp : Sp} {E : XK} {t : TA} {vs : List V} (h : EvA t σ H vs) (hs : ∀ H1, Ex H H1 → ∀ Q : VK, (∀ v H2, Ex H1 H2 → R v H2 → Q v H2) → sp vs H1 Q E) : Er (tCall sp [] E t) σ H R := fun H1 e Q q =>
  h H1 e _ fun H2 e2 => by
    have := hs H2 (e.trans e2) Q fun v H3 e3 r => q v H3 (e2.trans e3) r
    show sp (vs ++ []) H2 Q E
    rw [List.append_nil]
    exact this
/-- a new tuple, its items as data -/
theorem er_tup {t : TA} {Rs : List V → Hp → Prop} (h : Ea t σ H Rs) (hz : ∀ vs H1, Rs vs H1 → vs.length ≤ 1000) (hr : ∀ vs H1 p, Ex H H1 → Rs vs H1 → H1 p = none → R (.ref p) (upd H1 p (.tup vs))) : Er (tTup t) σ H R := fun H1 e Q q =>
  h H1 e _ fun vs H2 e2 rs => ⟨Nat.le_trans (hz vs H2 rs) (by decide), fun p hp => q _ _ (e2.trans (Ex.new hp)) (hr vs H2 p (e.trans e2) rs hp)⟩
theorem er_tupV {t : TA} {vs : List V} (h : EvA t σ H vs) (hz : vs.length ≤ 1000) : Er (tTup t) σ H (fun v H' => ∃ p, v = .ref p ∧ H' p = some (.tup vs)) := fun H1 e Q q =>
  h H1 e _ fun H2 e2 => ⟨Nat.le_trans hz (by decide), fun p hp => q _ _ (e2.trans (Ex.new hp)) ⟨p, rfl, upd_same⟩⟩
theorem er_lstV {t : TA} {vs : List V} (h : EvA t σ H vs) (hz : vs.length ≤ 1000) : Er (tLst t) σ H (fun v H' => ∃ p, v = .ref p ∧ H' p = some (.lst vs)) := fun H1 e Q q =>
  h H1 e _ fun H2 e2 => ⟨Nat.le_trans hz (by decide), fun p hp => q _ _ (e2.trans (Ex.new hp)) ⟨p, rfl, upd_same⟩⟩
theorem er_if {b : Bool} (h : EvT t σ H b) (h1 : b = true → Er ta σ H R) (h2 : b = false → Er tb σ H R) : Er (tIf t ta tb) σ H R := fun H1 e Q q => h H1 e _ fun H2 e2 => by
  cases b with
  | true =>
    show ta σ H2 Q
    exact h1 rfl H2 (e.trans e2) Q fun v H3 e3 => q v H3 (e2.trans e3)
  | false =>
    show tb σ H2 Q
    exact h2 rfl H2 (e.trans e2) Q fun v H3 e3 => q v H3 (e2.trans e3)
/-! statements -/
variable {D : Ends} {tu tw tz : TS} {g : TG}
theorem s_asgR {i : Nat} (h : Er te σ H R) (k : ∀ v H1, Ex H H1 → R v H1 → D.nx (σ.set i (some v)) H1) : tAsg te (gName i) D σ H := h H (Ex.refl H) _ fun v H1 e r => k v H1 e r
theorem q_asgR {i : Nat} (h : Er te σ H R) (k : ∀ v H1, Ex H H1 → R v H1 → tz D (σ.set i (some v)) H1) : tSeq (tAsg te (gName i)) tz D σ H := s_asgR (D := { D with nx := tz D }) h k
theorem s_retR (h : Er te σ H R) (k : ∀ v H1, Ex H H1 → R v H1 → D.rt v H1) : tRet te D σ H := h H (Ex.refl H) _ fun v H1 e r => k v H1 e r

/-! ints with a size -/
/-- the int i, below 2 ^ n in size -/
structure EvI (te : TE) (σ : L2.St) (H : Hp) (i : Int) (n : Nat) : Prop where
  ev : Ev te σ H (.int i)
  sz : i.natAbs < 2 ^ n
  ps : 0 < n
theorem pow_add_le {n m : Nat} (hn : 0 < n) (hm : 0 < m) : 2 ^ n + 2 ^ m ≤ 2 ^ (n + m) := by
  rw [Nat.pow_add]
  have h1 : 2 ^ 1 ≤ 2 ^ n := Nat.pow_le_pow_right (by omega) hn
  have h2 : 2 ^ 1 ≤ 2 ^ m := Nat.pow_le_pow_right (by omega) hm
  obtain ⟨x, hx⟩ : ∃ x, 2 ^ n = x + 2 := ⟨2 ^ n - 2, by omega⟩
  obtain ⟨y, hy⟩ : ∃ y, 2 ^ m = y + 2 := ⟨2 ^ m - 2, by omega⟩
  rw [hx, hy]
  have : (x + 2) * (y + 2) = x * y + 2 * x + 2 * y + 4 := by grind
  omega
theorem evi_var {i n : Nat} {k : Int} (h : σ[i]? = some (some (.int k))) (hk : k.natAbs < 2 ^ n) (hn : 0 < n := by decide) : EvI (tVar i) σ H k n := ⟨ev_var h, hk, hn⟩
theorem evi_c {k : Int} (hk : k.natAbs < 2 ^ 70 := by decide) : EvI (tC (.int k)) σ H k 70 := ⟨ev_c, hk, by decide⟩
theorem evi_add {i j : Int} {n m : Nat} (ha : EvI ta σ H i n) (hb : EvI tb σ H j m) : EvI (tOp (rI0 fun i j => .int (i + j)) ta tb) σ H (i + j) (n + m) :=
  ⟨ev_op ha.ev hb.ev rv_I0, by have := pow_add_le ha.ps hb.ps; have := ha.sz; have := hb.sz; omega, by have := ha.ps; omega⟩
theorem evi_sub {i j : Int} {n m : Nat} (ha : EvI ta σ H i n) (hb : EvI tb σ H j m) : EvI (tOp (rI0 fun i j => .int (i - j)) ta tb) σ H (i - j) (n + m) :=
  ⟨ev_op ha.ev hb.ev rv_I0, by have := pow_add_le ha.ps hb.ps; have := ha.sz; have := hb.sz; omega, by have := ha.ps; omega⟩
theorem evi_mul {i j : Int} {n m : Nat} (ha : EvI ta σ H i n) (hb : EvI tb σ H j m) (hz : n + m ≤ 1000000 := by decide) : EvI (tOp (rI CMulW fun i j => .int (i * j)) ta tb) σ H (i * j) (n + m) :=
  ⟨ev_op ha.ev hb.ev (rv_I (wide_mul ha.sz hb.sz ha.ps hb.ps hz)), wide_lt ha.sz hb.sz, by have := ha.ps; omega⟩
theorem evi_is {i j : Int} {n : Nat} (h : EvI te σ H i n) (e : i = j) : EvI te σ H j n := e ▸ h
theorem ev_mod {i j : Int} (ha : Ev ta σ H (.int i)) (hb : Ev tb σ H (.int j)) (h : 0 < j) : Ev (tOp (rI (fun _ j => 0 < j) fun i j => .int (i % j)) ta tb) σ H (.int (i % j)) := ev_op ha hb (rv_I h)
/-- an item of a tuple at a written place -/
theorem ev_ixt {v : V} {xs : List V} {i : Nat} {p : Addr} (ha : Ev ta σ H (.ref p)) (hb : Ev tb σ H (.int (i : Int))) (h : SqT K H p xs) (hi : xs[i]? = some v) : Ev (tOp (rIxT K) ta tb) σ H v := ev_op ha hb (rv_ixT h (atI_nat hi))
theorem q_asgI {i n : Nat} {k : Int} (h : EvI te σ H k n) (q : k.natAbs < 2 ^ n → ∀ H1, Ex H H1 → tz D (σ.set i (some (.int k))) H1) : tSeq (tAsg te (gName i)) tz D σ H := q_asg h.ev (q h.sz)
theorem er_row {t : TA} {ns : List Int} (h : EvA t σ H (ns.map V.int)) (hz : ns.length ≤ 1000) : Er (tTup t) σ H (fun v H' => Rw K H' v ns) :=
  (er_tupV h (by rw [List.length_map]; exact hz)).imp fun v H' ⟨p, e, hp⟩ => by subst e; exact rw_mk (SqT.of hp)
/-- a, b, c, d = t -/
theorem q_unp4 {p : Addr} {a b c d : V} {i j k l : Nat} (h : Ev te σ H (.ref p)) (hp : SqT K H p [a, b, c, d]) (q : ∀ H1, Ex H H1 → tz D ((((σ.set i (some a)).set j (some b)).set k (some c)).set l (some d)) H1) :
    tSeq (tAsg te (gTup K 4 (gCons (gName i) (gCons (gName j) (gCons (gName k) (gCons (gName l) gNil)))))) tz D σ H :=
  h H (Ex.refl H) _ fun H1 e => ⟨p, _, rfl, ex_t e hp, rfl, _, _, rfl, _, _, rfl, _, _, rfl, _, _, rfl, rfl, q H1 e⟩
/-- a change at v -/
def Ch (K : PySem.W.Frag) (H : Hp) (v : V) (p q r s : Int) : Prop := Dp K H v (.tuple [.tuple [.int p, .int q], .tuple [.int r, .int s]])
theorem ch_ex (e : Ex H H') {v : V} {p q r s : Int} (h : Ch K H v p q r s) : Ch K H' v p q r s := dp_ex e _ _ h
theorem ch_at {v : V} {p q r s : Int} (h : Ch K H v p q r s) : ∃ z x y, v = .ref z ∧ SqT K H z [.ref x, .ref y] ∧ SqT K H x [.int p, .int q] ∧ SqT K H y [.int r, .int s] := by
  obtain ⟨z, xs, rfl, h1, h2⟩ := dp_tup h
  obtain ⟨v1, us, rfl, h3, h4⟩ := dpa_cons h2
  obtain ⟨v2, us2, rfl, h5, h6⟩ := dpa_cons h4
  have := dpa_nil h6
  subst this
  obtain ⟨x, xs1, rfl, a1, a2⟩ := dp_tup h3
  obtain ⟨y, xs2, rfl, b1, b2⟩ := dp_tup h5
  have e1 := dpa_ints_inv [p, q] a2
  have e2 := dpa_ints_inv [r, s] b2
  subst e1 e2
  exact ⟨z, x, y, rfl, h1, a1, b1⟩
theorem ch_mk {z x y : Addr} {p q r s : Int} (h1 : SqT K H z [.ref x, .ref y]) (h2 : SqT K H x [.int p, .int q]) (h3 : SqT K H y [.int r, .int s]) : Ch K H (.ref z) p q r s :=
  .tup h1 (.cons (.tup h2 (dpa_ints [p, q])) (.cons (.tup h3 (dpa_ints [r, s])) .nil))
/-- (p, q), (r, s) = t -/
theorem q_unp22 {v : V} {a b c d : Int} {i j k l : Nat} (h : Ev te σ H v) (hp : Ch K H v a b c d) (q : ∀ H1, Ex H H1 → tz D ((((σ.set i (some (.int a))).set j (some (.int b))).set k (some (.int c))).set l (some (.int d))) H1) :
    tSeq (tAsg te (gTup K 2 (gCons (gTup K 2 (gCons (gName i) (gCons (gName j) gNil))) (gCons (gTup K 2 (gCons (gName k) (gCons (gName l) gNil))) gNil)))) tz D σ H := by
  obtain ⟨z, x, y, rfl, h1, h2, h3⟩ := ch_at hp
  exact h H (Ex.refl H) _ fun H1 e => ⟨z, _, rfl, ex_t e h1, rfl, _, _, rfl, ⟨x, _, rfl, ex_t e h2, rfl, _, _, rfl, _, _, rfl, rfl, ⟨_, _, rfl, ⟨y, _, rfl, ex_t e h3, rfl, _, _, rfl, _, _, rfl, rfl, rfl, q H1 e⟩⟩⟩⟩
end

theorem at_st {t : TS} {D : Ends} {σ σ2 : L2.St} {H : Hp} (e : σ = σ2) (h : t D σ2 H) : t D σ H := by subst e; exact h
/-- the sizes of a row -/
structure RowZ (n : Nat) (a b c d : Int) : Prop where
  a : a.natAbs < 2 ^ n
  b : b.natAbs < 2 ^ n
  c : c.natAbs < 2 ^ n
  d : d.natAbs < 2 ^ n

/-! ### names of the text's globals -/
/-- what the module's names hold: built-ins are not hidden; constants (END at aE, the classes Form, KeptForm at cF, cK) -/
structure Bt (K : PySem.W.Frag) (mg : Str → Option Value) (aE cF cK : Addr) : Prop where
  abs : mg "abs" = none
  all : mg "all" = none
  bool : mg "bool" = none
  int : mg "int" = none
  isinstance : mg "isinstance" = none
  len : mg "len" = none
  list : mg "list" = none
  max : mg "max" = none
  min : mg "min" = none
  next : mg "next" = none
  range : mg "range" = none
  repr : mg "repr" = none
  sorted : mg "sorted" = none
  tuple : mg "tuple" = none
  isqrt : mg "isqrt" = some (.builtin "math.isqrt")
  SIXTY_DIGITS : ∃ t, mg "SIXTY_DIGITS" = some (.int (10 ^ 60) t)
  SIZE : ∃ t, mg "SIZE" = some (.int 4 t)
  MAX_STEPPED : ∃ t, mg "MAX_STEPPED" = some (.int 100000000 t)
  MOST_PRIME : ∃ t, mg "MOST_PRIME" = some (.int 10000 t)
  CONTENT : ∃ t, mg "CONTENT" = some (.str "content" t)
  PLACE : ∃ t, mg "PLACE" = some (.str "place" t)
  END : mg "END" = some (.ref aE)
  atE : ∀ H, SqT K H aE [.int 1, .int 0]
  Form : mg "Form" = some (.ref cF)
  KeptForm : mg "KeptForm" = some (.ref cK)
section
variable {X : Cx} {x : Str} {pos : Pos}
theorem pe_gi {i : Int} (hg : Gl X x) (h : ∃ t, X.mg x = some (.int i t)) (hd : (x == ("__debug__" : Str)) = false := by decide) : PE X (.Name x pos) (tC (.int i)) := by
  obtain ⟨t, h⟩ := h
  exact pe_glob hg h ⟨t, rfl⟩ hd
theorem pe_gs {i : Str} (hg : Gl X x) (h : ∃ t, X.mg x = some (.str i t)) (hd : (x == ("__debug__" : Str)) = false := by decide) : PE X (.Name x pos) (tC (.str i)) := by
  obtain ⟨t, h⟩ := h
  exact pe_glob hg h ⟨t, rfl⟩ hd
theorem pe_gr {a : Addr} (hg : Gl X x) (h : X.mg x = some (.ref a)) (hd : (x == ("__debug__" : Str)) = false := by decide) : PE X (.Name x pos) (tC (.ref a)) := pe_glob hg h rfl hd
end
end Z
/-! Zm: the plain law (no program in sight). -/
namespace Zm

def val (a b c d x y : Int) : Int := a * x * x * x + b * x * x * y + c * x * y * y + d * y * y * y
def disc (a b c d : Int) : Int := b * b * c * c - 4 * a * c * c * c - 4 * b * b * b * d - 27 * a * a * d * d + 18 * a * b * c * d
def slo (a b c x : Int) : Int := 3 * a * x * x + 2 * b * x + c
def mo1 (a b c d p q r s : Int) : Int := 3 * a * p * p * r + b * p * (p * s + 2 * q * r) + c * q * (q * r + 2 * p * s) + 3 * d * q * q * s
def mo2 (a b c d p q r s : Int) : Int := 3 * a * p * r * r + b * r * (r * q + 2 * p * s) + c * s * (s * p + 2 * q * r) + 3 * d * q * s * s

/-! ### the discriminant along the steps -/
theorem disc_scale (a b c d p : Int) : disc (p * a) (p * b) (p * c) (p * d) = disc a b c d * (p * p * p * p) := by
  unfold disc; grind
theorem disc_end (a b c d p : Int) : disc a (b * p) (c * p * p) (d * p * p * p) = disc a b c d * (p * p * p * p * p * p) := by
  unfold disc; grind
theorem disc_moved (a b c d p q r s : Int) : disc (val a b c d p q) (mo1 a b c d p q r s) (mo2 a b c d p q r s) (val a b c d r s) = disc a b c d * ((p * s - q * r) * (p * s - q * r) * (p * s - q * r) * (p * s - q * r) * (p * s - q * r) * (p * s - q * r)) := by
  unfold disc mo1 mo2 val; grind
theorem disc_lin (a b c d p x e : Int) (h : a * x * x * x + b * x * x + c * x + d = p * e) :
    disc (a * p * p) (p * (3 * a * x + b)) (3 * a * x * x + 2 * b * x + c) e * (p * p) = disc a b c d * (p * p * p * p) := by
  unfold disc; grind

/-! ### the row below at a root -/
/-- what the law's below gives at (x, 1) -/
theorem below_x {a b c d p x : Int} (hp : 0 < p) (h : val a b c d x 1 % p = 0) (hD : disc a b c d ≠ 0) :
    ∃ e, val a b c d p 0 / p = a * p * p ∧ mo1 a b c d p 0 x 1 / p = p * (3 * a * x + b) ∧ mo2 a b c d p 0 x 1 / p = 3 * a * x * x + 2 * b * x + c ∧ val a b c d x 1 / p = e ∧
      val a b c d x 1 = p * e ∧ disc (a * p * p) (p * (3 * a * x + b)) (3 * a * x * x + 2 * b * x + c) e ≠ 0 := by
  obtain ⟨e, he⟩ := Int.dvd_of_emod_eq_zero h
  have hp0 : p ≠ 0 := by omega
  refine ⟨e, ?_, ?_, ?_, ?_, he, fun hz => ?_⟩
  · have : val a b c d p 0 = p * (a * p * p) := by unfold val; grind
    rw [this, Int.mul_ediv_cancel_left _ hp0]
  · have : mo1 a b c d p 0 x 1 = p * (p * (3 * a * x + b)) := by unfold mo1; grind
    rw [this, Int.mul_ediv_cancel_left _ hp0]
  · have : mo2 a b c d p 0 x 1 = p * (3 * a * x * x + 2 * b * x + c) := by unfold mo2; grind
    rw [this, Int.mul_ediv_cancel_left _ hp0]
  · rw [he, Int.mul_ediv_cancel_left _ hp0]
  · have h2 := disc_lin a b c d p x e (by rw [← he]; unfold val; grind)
    rw [hz, Int.zero_mul] at h2
    have h3 : p * p * p * p ≠ 0 := Int.mul_ne_zero (Int.mul_ne_zero (Int.mul_ne_zero hp0 hp0) hp0) hp0
    exact Int.mul_ne_zero hD h3 h2.symm
/-- .. at (1, 0) -/
theorem below_e {a b c d p : Int} (hp : 0 < p) (h : val a b c d 1 0 % p = 0) (hD : disc a b c d ≠ 0) :
    ∃ e, val a b c d 1 0 / p = e ∧ a = p * e ∧ mo1 a b c d 1 0 0 p / p = b ∧ mo2 a b c d 1 0 0 p / p = c * p ∧ val a b c d 0 p / p = d * p * p ∧ disc e b (c * p) (d * p * p) ≠ 0 := by
  have e1 : val a b c d 1 0 = a := by unfold val; grind
  rw [e1] at h
  obtain ⟨e, he⟩ := Int.dvd_of_emod_eq_zero h
  have hp0 : p ≠ 0 := by omega
  refine ⟨e, ?_, he, ?_, ?_, ?_, fun hz => ?_⟩
  · rw [e1, he, Int.mul_ediv_cancel_left _ hp0]
  · have : mo1 a b c d 1 0 0 p = p * b := by unfold mo1; grind
    rw [this, Int.mul_ediv_cancel_left _ hp0]
  · have : mo2 a b c d 1 0 0 p = p * (c * p) := by unfold mo2; grind
    rw [this, Int.mul_ediv_cancel_left _ hp0]
  · have : val a b c d 0 p = p * (d * p * p) := by unfold val; grind
    rw [this, Int.mul_ediv_cancel_left _ hp0]
  · have h2 : disc a b c d * (p * p) = disc e b (c * p) (d * p * p) * (p * p * p * p) * 0 + disc a b c d * (p * p) := by grind
    have h3 : disc a b c d * (p * p) = disc e b (c * p) (d * p * p) := by
      rw [he]; unfold disc; grind
    rw [hz] at h3
    exact Int.mul_ne_zero hD (Int.mul_ne_zero hp0 hp0) h3
theorem disc_led {a b c d p q r s : Int} (h : p * s - q * r = 1 ∨ p * s - q * r = -1) (hD : disc a b c d ≠ 0) :
    disc ((p * s - q * r) * val a b c d p q) ((p * s - q * r) * mo1 a b c d p q r s) ((p * s - q * r) * mo2 a b c d p q r s) ((p * s - q * r) * val a b c d r s) ≠ 0 := by
  rw [disc_scale, disc_moved]
  rcases h with h | h <;> rw [h] <;> simpa using hD
theorem disc_times {a b c d p : Int} (hp : 0 < p) (hD : disc a b c d ≠ 0) : disc (p * a) (p * b) (p * c) (p * d) ≠ 0 := by
  have hp0 : p ≠ 0 := by omega
  rw [disc_scale]
  exact Int.mul_ne_zero hD (Int.mul_ne_zero (Int.mul_ne_zero (Int.mul_ne_zero hp0 hp0) hp0) hp0)

/-! ### sizes -/
theorem nb_mul {x y : Int} {X Y : Nat} (hx : x.natAbs ≤ X) (hy : y.natAbs ≤ Y) : (x * y).natAbs ≤ X * Y := by
  rw [Int.natAbs_mul]; exact Nat.mul_le_mul hx hy
theorem nb_add {x y : Int} {X Y : Nat} (hx : x.natAbs ≤ X) (hy : y.natAbs ≤ Y) : (x + y).natAbs ≤ X + Y := by omega
theorem nb_num (k : Nat) : ((k : Int)).natAbs ≤ k := by omega
theorem nb_two : (2 : Int).natAbs ≤ 2 := by decide
theorem nb_three : (3 : Int).natAbs ≤ 3 := by decide
/-- the size of a moved row, change entries up to 81 -/
structure RowB (M : Nat) (a b c d : Int) : Prop where
  a : a.natAbs ≤ M
  b : b.natAbs ≤ M
  c : c.natAbs ≤ M
  d : d.natAbs ≤ M
theorem RowB.mono {M N : Nat} {a b c d : Int} (h : RowB M a b c d) (l : M ≤ N) : RowB N a b c d := ⟨Nat.le_trans h.a l, Nat.le_trans h.b l, Nat.le_trans h.c l, Nat.le_trans h.d l⟩
theorem val_size {M B : Nat} {a b c d x y : Int} (h : RowB M a b c d) (hx : x.natAbs ≤ B) (hy : y.natAbs ≤ B) : (val a b c d x y).natAbs ≤ 4 * (M * B * B * B) := by
  have h1 := nb_mul (nb_mul (nb_mul h.a hx) hx) hx
  have h2 := nb_mul (nb_mul (nb_mul h.b hx) hx) hy
  have h3 := nb_mul (nb_mul (nb_mul h.c hx) hy) hy
  have h4 := nb_mul (nb_mul (nb_mul h.d hy) hy) hy
  unfold val
  omega
theorem mo1_size {M B : Nat} {a b c d p q r s : Int} (h : RowB M a b c d) (hp : p.natAbs ≤ B) (hq : q.natAbs ≤ B) (hr : r.natAbs ≤ B) (hs : s.natAbs ≤ B) : (mo1 a b c d p q r s).natAbs ≤ 12 * (M * B * B * B) := by
  have h1 := nb_mul (nb_mul (nb_mul (nb_mul nb_three h.a) hp) hp) hr
  have h2 := nb_mul (nb_mul h.b hp) (nb_add (nb_mul hp hs) (nb_mul (nb_mul nb_two hq) hr))
  have h3 := nb_mul (nb_mul h.c hq) (nb_add (nb_mul hq hr) (nb_mul (nb_mul nb_two hp) hs))
  have h4 := nb_mul (nb_mul (nb_mul (nb_mul nb_three h.d) hq) hq) hs
  have e1 : 3 * M * B * B * B = 3 * (M * B * B * B) := by grind
  have e2 : M * B * (B * B + 2 * B * B) = 3 * (M * B * B * B) := by grind
  rw [e1] at h1 h4
  rw [e2] at h2 h3
  unfold mo1
  omega
theorem mo2_size {M B : Nat} {a b c d p q r s : Int} (h : RowB M a b c d) (hp : p.natAbs ≤ B) (hq : q.natAbs ≤ B) (hr : r.natAbs ≤ B) (hs : s.natAbs ≤ B) : (mo2 a b c d p q r s).natAbs ≤ 12 * (M * B * B * B) := by
  have h1 := nb_mul (nb_mul (nb_mul (nb_mul nb_three h.a) hp) hr) hr
  have h2 := nb_mul (nb_mul h.b hr) (nb_add (nb_mul hr hq) (nb_mul (nb_mul nb_two hp) hs))
  have h3 := nb_mul (nb_mul h.c hs) (nb_add (nb_mul hs hp) (nb_mul (nb_mul nb_two hq) hr))
  have h4 := nb_mul (nb_mul (nb_mul (nb_mul nb_three h.d) hq) hs) hs
  have e1 : 3 * M * B * B * B = 3 * (M * B * B * B) := by grind
  have e2 : M * B * (B * B + 2 * B * B) = 3 * (M * B * B * B) := by grind
  rw [e1] at h1 h4
  rw [e2] at h2 h3
  unfold mo2
  omega
theorem pm_size {e x : Int} {M : Nat} (h : e = 1 ∨ e = -1) (hx : x.natAbs ≤ M) : (e * x).natAbs ≤ M := by
  rcases h with h | h <;> rw [h] <;> omega
/-- a moved row -/
theorem led_size {M B : Nat} {a b c d p q r s e : Int} (h : RowB M a b c d) (hp : p.natAbs ≤ B) (hq : q.natAbs ≤ B) (hr : r.natAbs ≤ B) (hs : s.natAbs ≤ B) (he : e = 1 ∨ e = -1) :
    RowB (12 * (M * B * B * B)) (e * val a b c d p q) (e * mo1 a b c d p q r s) (e * mo2 a b c d p q r s) (e * val a b c d r s) := by
  have h1 := val_size h hp hq
  have h4 := val_size h hr hs
  exact ⟨pm_size he (by omega), pm_size he (mo1_size h hp hq hr hs), pm_size he (mo2_size h hp hq hr hs), pm_size he (by omega)⟩
theorem moved_size {M B : Nat} {a b c d p q r s : Int} (h : RowB M a b c d) (hp : p.natAbs ≤ B) (hq : q.natAbs ≤ B) (hr : r.natAbs ≤ B) (hs : s.natAbs ≤ B) :
    RowB (12 * (M * B * B * B)) (val a b c d p q) (mo1 a b c d p q r s) (mo2 a b c d p q r s) (val a b c d r s) := by
  have h1 := val_size h hp hq
  have h4 := val_size h hr hs
  exact ⟨by omega, mo1_size h hp hq hr hs, mo2_size h hp hq hr hs, by omega⟩

/-! ### the primes whose square divides -/
theorem div_lt' {n p : Nat} (hn : 0 < n) (hp : 2 ≤ p) : n / p < n := Nat.div_lt_self hn hp
/-- what is left when p is taken out, and how often it was -/
def strip (p n : Nat) : Nat × Nat :=
  if h : 0 < n ∧ 2 ≤ p ∧ n % p = 0 then ((strip p (n / p)).1, (strip p (n / p)).2 + 1) else (n, 0)
termination_by n
decreasing_by exact Nat.div_lt_self h.1 h.2.1
theorem strip_yes {p n : Nat} (hn : 0 < n) (hp : 2 ≤ p) (h : n % p = 0) : strip p n = ((strip p (n / p)).1, (strip p (n / p)).2 + 1) := by
  rw [strip, dif_pos ⟨hn, hp, h⟩]
theorem strip_no {p n : Nat} (h : n % p ≠ 0) : strip p n = (n, 0) := by
  rw [strip, dif_neg (fun q => h q.2.2)]
theorem strip_le (p : Nat) : ∀ n, (strip p n).1 ≤ n := by
  intro n
  induction n using Nat.strongRecOn with
  | ind n ih =>
    by_cases h : 0 < n ∧ 2 ≤ p ∧ n % p = 0
    · rw [strip_yes h.1 h.2.1 h.2.2]
      have := ih (n / p) (Nat.div_lt_self h.1 h.2.1)
      have h2 := Nat.div_lt_self h.1 h.2.1
      show (strip p (n / p)).1 ≤ n
      omega
    · rw [strip, dif_neg h]; exact Nat.le_refl _
theorem div_pos' {n p : Nat} (hn : 0 < n) (hp : 2 ≤ p) (h : n % p = 0) : 0 < n / p := by
  rcases Nat.eq_zero_or_pos (n / p) with z | z
  · have := Nat.div_add_mod n p
    rw [z, h] at this
    omega
  · exact z
theorem strip_pos (p : Nat) : ∀ n, 0 < n → 0 < (strip p n).1 := by
  intro n
  induction n using Nat.strongRecOn with
  | ind n ih =>
    intro hn
    by_cases h : 0 < n ∧ 2 ≤ p ∧ n % p = 0
    · rw [strip_yes h.1 h.2.1 h.2.2]
      exact ih (n / p) (Nat.div_lt_self h.1 h.2.1) (div_pos' h.1 h.2.1 h.2.2)
    · rw [strip, dif_neg h]; exact hn
/-- the primes from p on -/
def dpl (n p : Nat) : List Nat :=
  if h : 2 ≤ p ∧ p * p ≤ n then (if 1 < (strip p n).2 then [p] else []) ++ dpl (strip p n).1 (p + 1) else []
termination_by n + 1 - p
decreasing_by
  have := strip_le p n
  have : p ≤ p * p := Nat.le_mul_self p
  omega
theorem dpl_go {n p : Nat} (hp : 2 ≤ p) (h : p * p ≤ n) : dpl n p = (if 1 < (strip p n).2 then [p] else []) ++ dpl (strip p n).1 (p + 1) := by
  rw [dpl, dif_pos ⟨hp, h⟩]
theorem dpl_stop {n p : Nat} (h : n < p * p) : dpl n p = [] := by
  rw [dpl, dif_neg (by omega)]
theorem dpl_mem : ∀ (k n p : Nat), n + 1 - p = k → ∀ q ∈ dpl n p, p ≤ q ∧ 2 ≤ q ∧ q * q ≤ n := by
  intro k
  induction k using Nat.strongRecOn with
  | ind k ih =>
    intro n p hk q hq
    by_cases h : 2 ≤ p ∧ p * p ≤ n
    · rw [dpl_go h.1 h.2] at hq
      have h1 := strip_le p n
      have h2 : p ≤ p * p := Nat.le_mul_self p
      rcases List.mem_append.mp hq with hq | hq
      · split at hq
        · have : q = p := List.mem_singleton.mp hq
          rw [this]
          exact ⟨Nat.le_refl _, h.1, h.2⟩
        · cases hq
      · have := ih ((strip p n).1 + 1 - (p + 1)) (by omega) (strip p n).1 (p + 1) rfl q hq
        omega
    · rw [dpl, dif_neg h] at hq; cases hq
theorem dpl_len : ∀ (k n p : Nat), n + 1 - p = k → (dpl n p).length ≤ k := by
  intro k
  induction k using Nat.strongRecOn with
  | ind k ih =>
    intro n p hk
    by_cases h : 2 ≤ p ∧ p * p ≤ n
    · rw [dpl_go h.1 h.2, List.length_append]
      have h1 := strip_le p n
      have h2 : p ≤ p * p := Nat.le_mul_self p
      have := ih ((strip p n).1 + 1 - (p + 1)) (by omega) (strip p n).1 (p + 1) rfl
      split
      · show 1 + _ ≤ k
        omega
      · show 0 + _ ≤ k
        omega
    · rw [dpl, dif_neg h]; exact Nat.zero_le _
/-- the primes whose square divides n -/
abbrev dp (n : Nat) : List Nat := dpl n 2
theorem sq_le {q : Nat} (h : q * q ≤ 100000000) : q ≤ 10000 := by
  rcases Nat.lt_or_ge 10000 q with z | z
  · have := Nat.mul_le_mul z z
    omega
  · exact z
theorem dp_mem {n q : Nat} (h : q ∈ dp n) (hn : n ≤ 100000000) : 2 ≤ q ∧ q ≤ 10000 := by
  obtain ⟨_, h2, h3⟩ := dpl_mem _ n 2 rfl q h
  exact ⟨h2, sq_le (by omega)⟩

/-! ### places -/
def plc (p : Nat) : List (Int × Int) := (0, 1) :: (1, 0) :: (List.range (p - 1)).map fun (i : Nat) => ((i : Int) + 1, (1 : Int))
def lexL (u v : Int × Int) : Prop := u.1 < v.1 ∨ (u.1 = v.1 ∧ u.2 ≤ v.2)
theorem lexL_anti (u v : Int × Int) (h1 : lexL u v) (h2 : lexL v u) : u = v := by
  unfold lexL at h1 h2
  have e1 : u.1 = v.1 := by omega
  have e2 : u.2 = v.2 := by omega
  exact Prod.ext e1 e2
theorem plc_sorted (p : Nat) : (plc p).Pairwise lexL := by
  unfold plc
  refine List.pairwise_cons.mpr ⟨fun u hu => ?_, List.pairwise_cons.mpr ⟨fun u hu => ?_, ?_⟩⟩
  · rcases List.mem_cons.mp hu with e | hu
    · rw [e]; unfold lexL; simp
    · obtain ⟨i, _, e⟩ := List.mem_map.mp hu
      rw [← e]; unfold lexL; simp
      all_goals omega
  · obtain ⟨i, _, e⟩ := List.mem_map.mp hu
    rw [← e]; unfold lexL; simp; omega
  · refine List.pairwise_map.mpr (List.Pairwise.imp ?_ (List.pairwise_lt_range))
    intro i j h
    unfold lexL
    simp; omega
theorem plc_perm {p : Nat} (hp : 1 ≤ p) : (((List.range p).map fun (i : Nat) => ((i : Int), (1 : Int))) ++ [(1, 0)]).Perm (plc p) := by
  obtain ⟨m, rfl⟩ : ∃ m, p = m + 1 := ⟨p - 1, by omega⟩
  unfold plc
  rw [show m + 1 - 1 = m from rfl, List.range_succ_eq_map, List.map_cons, List.map_map]
  show (((0 : Int), (1 : Int)) :: (_ ++ [(1, 0)])).Perm _
  refine List.Perm.cons _ ?_
  refine (List.perm_append_comm).trans ?_
  show ((1, 0) :: _).Perm _
  refine List.Perm.cons _ ?_
  refine List.Perm.of_eq (List.map_congr_left fun i _ => ?_)
  show (((i + 1 : Nat) : Int), (1 : Int)) = ((i : Int) + 1, 1)
  rw [Int.natCast_succ]
theorem plc_perm' {p : Nat} (hp : 1 ≤ p) : ((1, 0) :: ((List.range p).map fun (i : Nat) => ((i : Int), (1 : Int)))).Perm (plc p) :=
  (List.perm_append_comm (l₁ := [(1, 0)])).trans (plc_perm hp)
theorem plc_uniq {p : Nat} {l : List (Int × Int)} (hs : l.Pairwise lexL) (h : l.Perm (plc p)) : l = plc p :=
  h.eq_of_pairwise (fun a b _ _ => lexL_anti a b) hs (plc_sorted p)
theorem plc_mem {p : Nat} (hp : 1 ≤ p) {u : Int × Int} (h : u ∈ plc p) : u = (1, 0) ∨ (u.2 = 1 ∧ 0 ≤ u.1 ∧ u.1 < p) := by
  unfold plc at h
  rcases List.mem_cons.mp h with e | h
  · rw [e]; right; simp; omega
  · rcases List.mem_cons.mp h with e | h
    · exact .inl e
    · obtain ⟨i, hi, e⟩ := List.mem_map.mp h
      have := List.mem_range.mp hi
      rw [← e]; right; simp; omega
theorem plc_len (p : Nat) : (plc p).length = p - 1 + 2 := by simp [plc]

/-! ### heavy roots, bars -/
/-- all four divided -/
def divB (a b c d p : Int) : Bool := decide (a % p = 0) && (decide (b % p = 0) && (decide (c % p = 0) && decide (d % p = 0)))
def hvB (a b c d p x y : Int) : Bool := decide (val a b c d x y % (p * p) = 0) && decide ((if x = 1 ∧ y = 0 then b else slo a b c x) % p = 0)
theorem mo1_e (a b c d : Int) : mo1 a b c d 1 0 0 1 = b := by unfold mo1; grind
theorem mo1_x (a b c d x : Int) : mo1 a b c d x 1 1 0 = slo a b c x := by unfold mo1 slo; grind
/-- form_at's own way to say the value -/
theorem val_horner (a b c d x y : Int) : ((a * x + b * y) * x + c * y * y) * x + d * y * y * y = val a b c d x y := by unfold val; grind
theorem disc_prog (a b c d : Int) : (b * b * c * c + 18 * a * b * c * d) - 4 * a * c * c * c - 4 * b * b * b * d - 27 * a * a * d * d = disc a b c d := by unfold disc; grind

/-! ### the content -/
theorem natAbs_mod {a : Int} {p : Nat} : a % (p : Int) = 0 ↔ a.natAbs % p = 0 := by
  constructor
  · intro h
    exact Nat.mod_eq_zero_of_dvd (Int.ofNat_dvd_left.mp (Int.dvd_of_emod_eq_zero h))
  · intro h
    exact Int.emod_eq_zero_of_dvd (Int.ofNat_dvd_left.mpr (Nat.dvd_of_mod_eq_zero h))
def cont (a b c d : Int) : Nat := Nat.gcd (Nat.gcd (Nat.gcd (Nat.gcd 0 a.natAbs) b.natAbs) c.natAbs) d.natAbs
theorem cont_div (a b c d : Int) (p : Nat) : decide (((cont a b c d : Nat) : Int) % (p : Int) = 0) = divB a b c d p := by
  have h : ((cont a b c d : Nat) : Int) % (p : Int) = 0 ↔ (a % (p : Int) = 0 ∧ b % (p : Int) = 0 ∧ c % (p : Int) = 0 ∧ d % (p : Int) = 0) := by
    rw [natAbs_mod, natAbs_mod (a := a), natAbs_mod (a := b), natAbs_mod (a := c), natAbs_mod (a := d), Int.natAbs_natCast]
    simp only [← Nat.dvd_iff_mod_eq_zero]
    unfold cont
    rw [Nat.dvd_gcd_iff, Nat.dvd_gcd_iff, Nat.dvd_gcd_iff, Nat.dvd_gcd_iff]
    constructor
    · rintro ⟨⟨⟨⟨_, h1⟩, h2⟩, h3⟩, h4⟩
      exact ⟨h1, h2, h3, h4⟩
    · rintro ⟨h1, h2, h3, h4⟩
      exact ⟨⟨⟨⟨Nat.dvd_zero _, h1⟩, h2⟩, h3⟩, h4⟩
  unfold divB
  rw [Bool.eq_iff_iff]
  simp [h]

/-! ### primes up to 10,000 -/
/-- no divisor from 2 on whose square is at most v -/
def nod (v : Int) : Bool := (List.range 320).all fun d => !(decide (2 ≤ d) && decide ((d : Int) * d ≤ v) && decide (v % (d : Int) = 0))
def pr (v : Int) : Bool := decide (2 ≤ v) && decide (v ≤ 10000) && nod v
theorem nod_iff {v : Int} (h : v ≤ 102399) : nod v = true ↔ ∀ d : Int, 2 ≤ d → d * d ≤ v → v % d ≠ 0 := by
  unfold nod
  rw [List.all_eq_true]
  constructor
  · intro q d h2 hd hm
    have hlt : d < 320 := by
      rcases Int.lt_or_le d 320 with z | z
      · exact z
      · have := Int.mul_le_mul z z (by omega) (by omega)
        omega
    obtain ⟨k, rfl⟩ := Int.eq_ofNat_of_zero_le (show 0 ≤ d by omega)
    have := q k (List.mem_range.mpr (by omega))
    simp at this
    rcases this with (z | z) | z
    · omega
    · have hd' : (k : Int) * (k : Int) ≤ v := hd
      omega
    · exact z hm
  · intro q k hk
    have hq := q (k : Int)
    by_cases h2 : 2 ≤ k
    · by_cases hd : (k : Int) * (k : Int) ≤ v
      · have := hq (by omega) hd
        simp [this]
      · simp [hd]
    · simp [h2]

end Zm
/-! Zp: the two tests for primes -/
namespace Zm
/-- what the program's own test says -/
theorem prog_prime {n q : Nat} (h2 : 2 ≤ n) (hn : n ≤ 10000) (h1 : q * q ≤ n) (hq : n < (q + 1) * (q + 1)) :
    (if n < 4 then true else if n % 2 = 0 then false else (List.range ((q - 1) / 2)).all fun k => !decide ((n : Int) % (3 + (k : Int) * 2) = 0)) = pr (n : Int) := by
  have e : pr (n : Int) = nod (n : Int) := by
    unfold pr
    rw [decide_eq_true (show (2 : Int) ≤ n by omega), decide_eq_true (show (n : Int) ≤ 10000 by omega)]; rfl
  rw [e, Bool.eq_iff_iff, nod_iff (by omega)]
  have sq : ∀ d : Nat, d * d ≤ n → d ≤ q := fun d hd => by
    rcases Nat.lt_or_ge q d with z | z
    · have := Nat.mul_le_mul (show q + 1 ≤ d from z) (show q + 1 ≤ d from z)
      omega
    · exact z
  split
  · rename_i h4
    simp only [true_iff]
    intro d hd hdd
    have : (2 : Int) * 2 ≤ d * d := Int.mul_le_mul hd hd (by omega) (by omega)
    omega
  · rename_i h4
    split
    · rename_i he
      simp only [Bool.false_eq_true, false_iff]
      intro h
      exact h 2 (by omega) (by omega) (by omega)
    · rename_i ho
      rw [List.all_eq_true]
      constructor
      · intro h d hd hdd hm
        obtain ⟨m, rfl⟩ := Int.eq_ofNat_of_zero_le (show 0 ≤ d by omega)
        have hmm : m * m ≤ n := by exact_mod_cast hdd
        have hmq := sq m hmm
        have hdv : m ∣ n := by
          have := Int.dvd_of_emod_eq_zero hm
          exact_mod_cast this
        have hodd : m % 2 = 1 := by
          rcases Nat.mod_two_eq_zero_or_one m with z | z
          · exact absurd (Nat.mod_eq_zero_of_dvd (Nat.dvd_trans (Nat.dvd_of_mod_eq_zero z) hdv)) ho
          · exact z
        have hk := h ((m - 3) / 2) (List.mem_range.mpr (by omega))
        have e3 : (3 : Int) + (((m - 3) / 2 : Nat) : Int) * 2 = m := by omega
        rw [e3] at hk
        simp at hk
        have hm' : (n : Int) % (m : Int) = 0 := hm
        omega
      · intro h k hk
        have hk2 := List.mem_range.mp hk
        have h9 : 3 + k * 2 ≤ q := by omega
        have h10 := Nat.mul_le_mul h9 h9
        have := h (3 + (k : Int) * 2) (by omega) (by
          have : ((3 + k * 2 : Nat) : Int) * ((3 + k * 2 : Nat) : Int) ≤ (n : Int) := by exact_mod_cast (Nat.le_trans h10 h1)
          have e : ((3 + k * 2 : Nat) : Int) = 3 + (k : Int) * 2 := by omega
          rw [e] at this
          exact this)
        simp [this]
/-- what the law's own test says -/
theorem law_prime {v : Int} (h2 : 2 ≤ v) (hn : v ≤ 10000 ∨ v % 2 = 0) :
    (decide (v < 100000) && (((List.range 318).filter fun (i : Nat) => decide ((2 + (i : Int)) * (2 + (i : Int)) ≤ v) && decide (v % (2 + (i : Int)) = 0)).map fun (i : Nat) => (2 + (i : Int))).isEmpty) = pr v := by
  rcases Int.lt_or_le 10000 v with hv | hv
  · have he : v % 2 = 0 := by omega
    have e : pr v = false := by
      unfold pr
      rw [decide_eq_false (show ¬ v ≤ 10000 by omega)]; simp
    rw [e]
    have : (((List.range 318).filter fun (i : Nat) => decide ((2 + (i : Int)) * (2 + (i : Int)) ≤ v) && decide (v % (2 + (i : Int)) = 0)).map fun (i : Nat) => (2 + (i : Int))).isEmpty = false := by
      rw [List.isEmpty_eq_false_iff_exists_mem]
      refine ⟨2, List.mem_map.mpr ⟨0, List.mem_filter.mpr ⟨List.mem_range.mpr (by omega), ?_⟩, rfl⟩⟩
      simp
      omega
    rw [this]; simp
  · have e : pr v = nod v := by
      unfold pr
      rw [decide_eq_true h2, decide_eq_true hv]; rfl
    rw [e, decide_eq_true (show v < 100000 by omega), Bool.true_and, Bool.eq_iff_iff, nod_iff (by omega), List.isEmpty_iff, List.map_eq_nil_iff, List.filter_eq_nil_iff]
    constructor
    · intro h d hd hdd hm
      obtain ⟨m, rfl⟩ := Int.eq_ofNat_of_zero_le (show 0 ≤ d by omega)
      have hlt : m < 320 := by
        rcases Nat.lt_or_ge m 320 with z | z
        · exact z
        · have := Nat.mul_le_mul z z
          have h9 : ((m * m : Nat) : Int) ≤ v := by
            have : ((m * m : Nat) : Int) = (m : Int) * (m : Int) := Int.natCast_mul m m
            rw [this]; exact hdd
          omega
      have := h (m - 2) (List.mem_range.mpr (by omega))
      have e2 : (2 : Int) + ((m - 2 : Nat) : Int) = m := by omega
      rw [e2] at this
      apply this
      have h5 : (m : Int) * (m : Int) ≤ v := hdd
      have h6 : v % (m : Int) = 0 := hm
      simp [h5, h6]
    · intro h i hi
      have hi2 := List.mem_range.mp hi
      simp only [Bool.and_eq_true, decide_eq_true_eq]
      rintro ⟨h3, h4⟩
      exact h (2 + (i : Int)) (by omega) h3 h4
theorem pr_small {v : Int} (h : v < 2) : pr v = false := by
  unfold pr
  rw [decide_eq_false (by omega)]; rfl
theorem pr_big {v : Int} (h : 10000 < v) : pr v = false := by
  unfold pr
  rw [decide_eq_false (show ¬ v ≤ 10000 by omega)]; simp
theorem pr_bounds {v : Int} (h : pr v = true) : 2 ≤ v ∧ v ≤ 10000 := by
  unfold pr at h
  simp at h
  omega
end Zm
namespace Z
open PySem PySem.Spec PyProof.Rows L2 Evl Zm
local macro_rules | `(tactic| walk_at "zi") => `(tactic| (repeat' first | exact evi_c | exact evi_var rfl (by with_reducible assumption) | apply evi_add | apply evi_sub | apply evi_mul); all_goals (show _ ≤ 1000000; decide))
local macro_rules | `(tactic| walk_at "zn") => `(tactic| dsimp only [List.set_cons_zero, List.set_cons_succ])
section
variable {P : Program} {w : World} {K : PySem.W.Frag} {mg : Str → Option Value} {base : Heap}
/-! form_at, slope_at, discriminant_of; the law's value, discriminant, moved -/
abbrev s26 : Stmt := topS 26
theorem sc26 : FnScope ["numbers", "x", "y", "a", "b", "c", "d"] ["numbers", "x", "y"] (defScope s26) := ⟨rfl, rfl, rfl, by decide +kernel, rfl, by decide +kernel, by decide +kernel⟩
def spFormAt (K : PySem.W.Frag) : Sp := fun vs H Q _ => ∃ (v : V) (a b c d x y : Int), vs = [v, .int x, .int y] ∧ Rw K H v [a, b, c, d] ∧ RowZ 400 a b c d ∧ x.natAbs < 2 ^ 100 ∧ y.natAbs < 2 ^ 100 ∧
  ∀ H', Ex H H' → Q (.int (val a b c d x y)) H'
theorem fk26 (R : Raw K mg "form_at" s26) : Fk P w K mg base "form_at" 1 ["numbers", "x", "y"] (spFormAt K) := by
  refine R.fk sc26 (fun _ _ _ _ _ _ us hl => match us, hl with | [_, _, _], _ => rfl) (fun vs H Q E h => ?_) (fun f cdv A outer s H vs Q E hr h => ?_)
  · obtain ⟨v, a, b, c, d, x, y, rfl, _⟩ := h; rfl
  · obtain ⟨v, a, b, c, d, x, y, rfl, hv, ⟨za, zb, zc, zd⟩, hx, hy, k⟩ := h
    refine ⟨_, (pss_cons (ps_asg (pv 0) (pg_tup rfl (pgs_cons (pg_name (i := 3) sc26.nd rfl (Or.inl rfl)) (pgs_cons (pg_name (i := 4) sc26.nd rfl (Or.inl rfl)) (pgs_cons (pg_name (i := 5) sc26.nd rfl (Or.inl rfl)) (pgs_cons (pg_name (i := 6) sc26.nd rfl (Or.inl rfl)) pgs_nil))))))
      (pss_one (ps_ret (pe_op op_add (pe_op op_mulW (pe_op op_add (pe_op op_mulW (pe_op op_add (pe_op op_mulW (pv 3) (pv 1)) (pe_op op_mulW (pv 4) (pv 2))) (pv 1)) (pe_op op_mulW (pe_op op_mulW (pv 5) (pv 2)) (pv 2))) (pv 1)) (pe_op op_mulW (pe_op op_mulW (pe_op op_mulW (pv 6) (pv 2)) (pv 2)) (pv 2)))))), ?_⟩
    obtain ⟨p, rfl, hp⟩ := rw_at hv
    refine at_st (σ2 := [some _, some _, some _, none, none, none, none]) rfl ?_
    refine q_unp4 (K := K) (ev_var rfl) hp fun H1 e1 => ?_
    walk_at "zn"
    refine' s_ret (ev_is (EvI.ev ?a) ?b) fun H2 e2 => k H2 (e1.trans e2)
    case a => walk_at "zi"
    case b => rw [val_horner]
abbrev s27 : Stmt := topS 27
theorem sc27 : FnScope ["numbers", "a", "b", "c", "d", "plus"] ["numbers"] (defScope s27) := ⟨rfl, rfl, rfl, by decide +kernel, rfl, by decide +kernel, by decide +kernel⟩
def spDisc (K : PySem.W.Frag) : Sp := fun vs H Q _ => ∃ (v : V) (a b c d : Int), vs = [v] ∧ Rw K H v [a, b, c, d] ∧ RowZ 400 a b c d ∧ ∀ H', Ex H H' → Q (.int (disc a b c d)) H'
theorem fk27 (R : Raw K mg "discriminant_of" s27) : Fk P w K mg base "discriminant_of" 1 ["numbers"] (spDisc K) := by
  refine R.fk sc27 (fun _ _ _ _ _ _ us hl => match us, hl with | [_], _ => rfl) (fun vs H Q E h => ?_) (fun f cdv A outer s H vs Q E hr h => ?_)
  · obtain ⟨v, a, b, c, d, rfl, _⟩ := h; rfl
  · obtain ⟨v, a, b, c, d, rfl, hv, ⟨za, zb, zc, zd⟩, k⟩ := h
    refine ⟨_, (pss_cons (ps_asg (pv 0) (pg_tup rfl (pgs_cons (pg_name (i := 1) sc27.nd rfl (Or.inl rfl)) (pgs_cons (pg_name (i := 2) sc27.nd rfl (Or.inl rfl)) (pgs_cons (pg_name (i := 3) sc27.nd rfl (Or.inl rfl)) (pgs_cons (pg_name (i := 4) sc27.nd rfl (Or.inl rfl)) pgs_nil))))))
      (pss_cons (ps_set (i := 5) sc27.nd rfl (Or.inl rfl) (pe_op op_add (pe_op op_mulW (pe_op op_mulW (pe_op op_mulW (pv 2) (pv 2)) (pv 3)) (pv 3)) (pe_op op_mulW (pe_op op_mulW (pe_op op_mulW (pe_op op_mulW pe_int (pv 1)) (pv 2)) (pv 3)) (pv 4))))
      (pss_one (ps_ret (pe_op op_sub (pe_op op_sub (pe_op op_sub (pv 5) (pe_op op_mulW (pe_op op_mulW (pe_op op_mulW (pe_op op_mulW pe_int (pv 1)) (pv 3)) (pv 3)) (pv 3))) (pe_op op_mulW (pe_op op_mulW (pe_op op_mulW (pe_op op_mulW pe_int (pv 2)) (pv 2)) (pv 2)) (pv 4))) (pe_op op_mulW (pe_op op_mulW (pe_op op_mulW (pe_op op_mulW pe_int (pv 1)) (pv 1)) (pv 4)) (pv 4))))))), ?_⟩
    obtain ⟨p, rfl, hp⟩ := rw_at hv
    refine at_st (σ2 := [some _, none, none, none, none, none]) rfl ?_
    refine q_unp4 (K := K) (ev_var rfl) hp fun H1 e1 => ?_
    walk_at "zn"
    refine' q_asgI ?a fun hs H2 e2 => ?_
    case a => walk_at "zi"
    walk_at "zn"
    refine' s_ret (ev_is (EvI.ev ?a) ?b) fun H3 e3 => k H3 ((e1.trans e2).trans e3)
    case a => walk_at "zi"
    case b => rw [disc_prog]
abbrev s60 : Stmt := topS 60
theorem sc60 : FnScope ["_law_row_here", "_law_a", "_law_b", "_law_c", "_law_d", "_law_found"] ["_law_row_here"] (defScope s60) := ⟨rfl, rfl, rfl, by decide +kernel, rfl, by decide +kernel, by decide +kernel⟩
theorem fk60 (R : Raw K mg "_law_discriminant" s60) : Fk P w K mg base "_law_discriminant" 1 ["_law_row_here"] (spDisc K) := by
  refine R.fk sc60 (fun _ _ _ _ _ _ us hl => match us, hl with | [_], _ => rfl) (fun vs H Q E h => ?_) (fun f cdv A outer s H vs Q E hr h => ?_)
  · obtain ⟨v, a, b, c, d, rfl, _⟩ := h; rfl
  · obtain ⟨v, a, b, c, d, rfl, hv, ⟨za, zb, zc, zd⟩, k⟩ := h
    refine ⟨_, (pss_cons (ps_asg (pv 0) (pg_tup rfl (pgs_cons (pg_name (i := 1) sc60.nd rfl (Or.inl rfl)) (pgs_cons (pg_name (i := 2) sc60.nd rfl (Or.inl rfl)) (pgs_cons (pg_name (i := 3) sc60.nd rfl (Or.inl rfl)) (pgs_cons (pg_name (i := 4) sc60.nd rfl (Or.inl rfl)) pgs_nil))))))
      (pss_cons (ps_set (i := 5) sc60.nd rfl (Or.inl rfl) (pe_op op_sub (pe_op op_sub (pe_op op_mulW (pe_op op_mulW (pe_op op_mulW (pv 2) (pv 2)) (pv 3)) (pv 3)) (pe_op op_mulW (pe_op op_mulW (pe_op op_mulW (pe_op op_mulW pe_int (pv 1)) (pv 3)) (pv 3)) (pv 3))) (pe_op op_mulW (pe_op op_mulW (pe_op op_mulW (pe_op op_mulW pe_int (pv 2)) (pv 2)) (pv 2)) (pv 4))))
      (pss_one (ps_ret (pe_op op_add (pe_op op_sub (pv 5) (pe_op op_mulW (pe_op op_mulW (pe_op op_mulW (pe_op op_mulW pe_int (pv 1)) (pv 1)) (pv 4)) (pv 4))) (pe_op op_mulW (pe_op op_mulW (pe_op op_mulW (pe_op op_mulW pe_int (pv 1)) (pv 2)) (pv 3)) (pv 4))))))), ?_⟩
    obtain ⟨p, rfl, hp⟩ := rw_at hv
    refine at_st (σ2 := [some _, none, none, none, none, none]) rfl ?_
    refine q_unp4 (K := K) (ev_var rfl) hp fun H1 e1 => ?_
    walk_at "zn"
    refine' q_asgI ?a fun hs H2 e2 => ?_
    case a => walk_at "zi"
    walk_at "zn"
    refine' s_ret (EvI.ev ?a) fun H3 e3 => k H3 ((e1.trans e2).trans e3)
    case a => walk_at "zi"
abbrev s44 : Stmt := topS 44
theorem sc44 : FnScope ["numbers", "x"] ["numbers", "x"] (defScope s44) := ⟨rfl, rfl, rfl, by decide +kernel, rfl, by decide +kernel, by decide +kernel⟩
def spSlope (K : PySem.W.Frag) : Sp := fun vs H Q _ => ∃ (v : V) (a b c d x : Int), vs = [v, .int x] ∧ Rw K H v [a, b, c, d] ∧ RowZ 400 a b c d ∧ x.natAbs < 2 ^ 100 ∧ ∀ H', Ex H H' → Q (.int (slo a b c x)) H'
theorem fk44 (R : Raw K mg "slope_at" s44) : Fk P w K mg base "slope_at" 1 ["numbers", "x"] (spSlope K) := by
  refine R.fk sc44 (fun _ _ _ _ _ _ us hl => match us, hl with | [_, _], _ => rfl) (fun vs H Q E h => ?_) (fun f cdv A outer s H vs Q E hr h => ?_)
  · obtain ⟨v, a, b, c, d, x, rfl, _⟩ := h; rfl
  · obtain ⟨v, a, b, c, d, x, rfl, hv, ⟨za, zb, zc, zd⟩, hx, k⟩ := h
    refine ⟨_, (pss_one (ps_ret (pe_op op_add (pe_op op_add (pe_op op_mulW (pe_op op_mulW (pe_op op_mulW pe_int (pe_ix ix_tup (pv 0) pe_int (fun _ _ => rfl))) (pv 1)) (pv 1)) (pe_op op_mulW (pe_op op_mulW pe_int (pe_ix ix_tup (pv 0) pe_int (fun _ _ => rfl))) (pv 1))) (pe_ix ix_tup (pv 0) pe_int (fun _ _ => rfl))))), ?_⟩
    obtain ⟨p, rfl, hp⟩ := rw_at hv
    refine at_st (σ2 := [some _, some _]) rfl ?_
    have e0 : EvI (tOp (rIxT K) (tVar 0) (tC (.int 0))) (start ["numbers", "x"] [.ref p, .int x]) H a 400 := ⟨ev_ixt (i := 0) (ev_var rfl) ev_c hp rfl, za, by decide⟩
    have e1 : EvI (tOp (rIxT K) (tVar 0) (tC (.int 1))) (start ["numbers", "x"] [.ref p, .int x]) H b 400 := ⟨ev_ixt (i := 1) (ev_var rfl) ev_c hp rfl, zb, by decide⟩
    have e2 : EvI (tOp (rIxT K) (tVar 0) (tC (.int 2))) (start ["numbers", "x"] [.ref p, .int x]) H c 400 := ⟨ev_ixt (i := 2) (ev_var rfl) ev_c hp rfl, zc, by decide⟩
    refine' s_ret (EvI.ev (evi_add (evi_add (evi_mul (evi_mul (evi_mul evi_c e0) (evi_var rfl hx)) (evi_var rfl hx)) (evi_mul (evi_mul evi_c e1) (evi_var rfl hx))) e2)) k
abbrev s58 : Stmt := topS 58
theorem sc58 : FnScope ["_law_row_here", "_law_x", "_law_y", "_law_a", "_law_b", "_law_c", "_law_d"] ["_law_row_here", "_law_x", "_law_y"] (defScope s58) := ⟨rfl, rfl, rfl, by decide +kernel, rfl, by decide +kernel, by decide +kernel⟩
theorem fk58 (R : Raw K mg "_law_value" s58) : Fk P w K mg base "_law_value" 1 ["_law_row_here", "_law_x", "_law_y"] (spFormAt K) := by
  refine R.fk sc58 (fun _ _ _ _ _ _ us hl => match us, hl with | [_, _, _], _ => rfl) (fun vs H Q E h => ?_) (fun f cdv A outer s H vs Q E hr h => ?_)
  · obtain ⟨v, a, b, c, d, x, y, rfl, _⟩ := h; rfl
  · obtain ⟨v, a, b, c, d, x, y, rfl, hv, ⟨za, zb, zc, zd⟩, hx, hy, k⟩ := h
    refine ⟨_, (pss_cons (ps_asg (pv 0) (pg_tup rfl (pgs_cons (pg_name (i := 3) sc58.nd rfl (Or.inl rfl)) (pgs_cons (pg_name (i := 4) sc58.nd rfl (Or.inl rfl)) (pgs_cons (pg_name (i := 5) sc58.nd rfl (Or.inl rfl)) (pgs_cons (pg_name (i := 6) sc58.nd rfl (Or.inl rfl)) pgs_nil))))))
      (pss_one (ps_ret (pe_op op_add (pe_op op_add (pe_op op_add (pe_op op_mulW (pe_op op_mulW (pe_op op_mulW (pv 3) (pv 1)) (pv 1)) (pv 1)) (pe_op op_mulW (pe_op op_mulW (pe_op op_mulW (pv 4) (pv 1)) (pv 1)) (pv 2))) (pe_op op_mulW (pe_op op_mulW (pe_op op_mulW (pv 5) (pv 1)) (pv 2)) (pv 2))) (pe_op op_mulW (pe_op op_mulW (pe_op op_mulW (pv 6) (pv 2)) (pv 2)) (pv 2)))))), ?_⟩
    obtain ⟨p, rfl, hp⟩ := rw_at hv
    refine at_st (σ2 := [some _, some _, some _, none, none, none, none]) rfl ?_
    refine q_unp4 (K := K) (ev_var rfl) hp fun H1 e1 => ?_
    walk_at "zn"
    refine' s_ret (EvI.ev ?a) fun H2 e2 => k H2 (e1.trans e2)
    case a => walk_at "zi"
abbrev s59 : Stmt := topS 59
theorem sc59 : FnScope ["_law_row_here", "_law_change_here", "_law_a", "_law_b", "_law_c", "_law_d", "_law_p", "_law_q", "_law_r", "_law_s", "_law_second", "_law_third"] ["_law_row_here", "_law_change_here"] (defScope s59) := ⟨rfl, rfl, rfl, by decide +kernel, rfl, by decide +kernel, by decide +kernel⟩
def spMoved (K : PySem.W.Frag) : Sp := fun vs H Q _ => ∃ (v u : V) (a b c d p q r s : Int), vs = [v, u] ∧ Rw K H v [a, b, c, d] ∧ RowZ 400 a b c d ∧ Ch K H u p q r s ∧ RowZ 100 p q r s ∧
  ∀ z H', Ex H H' → Rw K H' z [val a b c d p q, mo1 a b c d p q r s, mo2 a b c d p q r s, val a b c d r s] → Q z H'
theorem fk59 (R : Raw K mg "_law_moved" s59) (F_law_value : Fk P w K mg base "_law_value" 1 ["_law_row_here", "_law_x", "_law_y"] (spFormAt K)) : Fk P w K mg base "_law_moved" 2 ["_law_row_here", "_law_change_here"] (spMoved K) := by
  refine R.fk sc59 (fun _ _ _ _ _ _ us hl => match us, hl with | [_, _], _ => rfl) (fun vs H Q E h => ?_) (fun f cdv A outer s H vs Q E hr h => ?_)
  · obtain ⟨v, u, a, b, c, d, p, q, r, s, rfl, _⟩ := h; rfl
  · obtain ⟨v, u, a, b, c, d, p, q, r, s, rfl, hv, ⟨za, zb, zc, zd⟩, hu, ⟨zp, zq, zr, zs⟩, k⟩ := h
    refine ⟨_, (pss_cons (ps_asg (pv 0) (pg_tup rfl (pgs_cons (pg_name (i := 2) sc59.nd rfl (Or.inl rfl)) (pgs_cons (pg_name (i := 3) sc59.nd rfl (Or.inl rfl)) (pgs_cons (pg_name (i := 4) sc59.nd rfl (Or.inl rfl)) (pgs_cons (pg_name (i := 5) sc59.nd rfl (Or.inl rfl)) pgs_nil))))))
      (pss_cons (ps_asg (pv 1) (pg_tup rfl (pgs_cons (pg_tup rfl (pgs_cons (pg_name (i := 6) sc59.nd rfl (Or.inl rfl)) (pgs_cons (pg_name (i := 7) sc59.nd rfl (Or.inl rfl)) pgs_nil))) (pgs_cons (pg_tup rfl (pgs_cons (pg_name (i := 8) sc59.nd rfl (Or.inl rfl)) (pgs_cons (pg_name (i := 9) sc59.nd rfl (Or.inl rfl)) pgs_nil))) pgs_nil))))
      (pss_cons (ps_set (i := 10) sc59.nd rfl (Or.inl rfl) (pe_op op_add (pe_op op_mulW (pe_op op_mulW (pe_op op_mulW (pe_op op_mulW pe_int (pv 2)) (pv 6)) (pv 6)) (pv 8)) (pe_op op_mulW (pe_op op_mulW (pv 3) (pv 6)) (pe_op op_add (pe_op op_mulW (pv 6) (pv 9)) (pe_op op_mulW (pe_op op_mulW pe_int (pv 7)) (pv 8))))))
      (pss_cons (ps_set (i := 10) sc59.nd rfl (Or.inl rfl) (pe_op op_add (pe_op op_add (pv 10) (pe_op op_mulW (pe_op op_mulW (pv 4) (pv 7)) (pe_op op_add (pe_op op_mulW (pv 7) (pv 8)) (pe_op op_mulW (pe_op op_mulW pe_int (pv 6)) (pv 9))))) (pe_op op_mulW (pe_op op_mulW (pe_op op_mulW (pe_op op_mulW pe_int (pv 5)) (pv 7)) (pv 7)) (pv 9))))
      (pss_cons (ps_set (i := 11) sc59.nd rfl (Or.inl rfl) (pe_op op_add (pe_op op_mulW (pe_op op_mulW (pe_op op_mulW (pe_op op_mulW pe_int (pv 2)) (pv 6)) (pv 8)) (pv 8)) (pe_op op_mulW (pe_op op_mulW (pv 3) (pv 8)) (pe_op op_add (pe_op op_mulW (pv 8) (pv 7)) (pe_op op_mulW (pe_op op_mulW pe_int (pv 6)) (pv 9))))))
      (pss_cons (ps_set (i := 11) sc59.nd rfl (Or.inl rfl) (pe_op op_add (pe_op op_add (pv 11) (pe_op op_mulW (pe_op op_mulW (pv 4) (pv 9)) (pe_op op_add (pe_op op_mulW (pv 9) (pv 6)) (pe_op op_mulW (pe_op op_mulW pe_int (pv 7)) (pv 8))))) (pe_op op_mulW (pe_op op_mulW (pe_op op_mulW (pe_op op_mulW pe_int (pv 5)) (pv 7)) (pv 9)) (pv 9))))
      (pss_one (ps_ret (pe_tup (pa_cons (pf F_law_value (hr.mono (by decide)) rfl (pa_cons (pv 0) (pa_cons (pv 6) (pa_cons (pv 7) pa_nil)))) (pa_cons (pv 10) (pa_cons (pv 11) (pa_cons (pf F_law_value (hr.mono (by decide)) rfl (pa_cons (pv 0) (pa_cons (pv 8) (pa_cons (pv 9) pa_nil)))) pa_nil))))))))))))), ?_⟩
    obtain ⟨pa, rfl, hp⟩ := rw_at hv
    refine at_st (σ2 := [some _, some _, none, none, none, none, none, none, none, none, none, none]) rfl ?_
    refine q_unp4 (K := K) (ev_var rfl) hp fun H1 e1 => ?_
    walk_at "zn"
    refine q_unp22 (K := K) (ev_var rfl) (ch_ex e1 hu) fun H2 e2 => ?_
    walk_at "zn"
    refine' q_asgI ?a fun hs1 H3 e3 => ?_
    case a => walk_at "zi"
    walk_at "zn"
    refine' q_asgI (evi_is (j := mo1 a b c d p q r s) ?a ?b) fun hs2 H4 e4 => ?_
    case a => walk_at "zi"
    case b => rfl
    walk_at "zn"
    refine' q_asgI ?a fun hs3 H5 e5 => ?_
    case a => walk_at "zi"
    walk_at "zn"
    refine' q_asgI (evi_is (j := mo2 a b c d p q r s) ?a ?b) fun hs4 H6 e6 => ?_
    case a => walk_at "zi"
    case b => rfl
    walk_at "zn"
    have e06 := ((((e1.trans e2).trans e3).trans e4).trans e5).trans e6
    have hv6 := rw_ex e06 hv
    refine s_retR (er_row (K := K) (ns := [val a b c d p q, mo1 a b c d p q r s, mo2 a b c d p q r s, val a b c d r s]) (ea_cons (ev_call' (ea_cons (ev_var rfl) (ea_cons (ev_var rfl) (ea_cons (ev_var rfl) ea_nil))) ?_)
      (ea_cons (ev_var rfl) (ea_cons (ev_var rfl) (ea_cons (ev_call' (ea_cons (ev_var rfl) (ea_cons (ev_var rfl) (ea_cons (ev_var rfl) ea_nil))) ?_) ea_nil)))) (by simp)) fun z H7 e7 hz => k z H7 (e06.trans e7) hz
    · exact fun H7 e7 Q' q' => ⟨_, a, b, c, d, p, q, rfl, rw_ex e7 hv6, ⟨za, zb, zc, zd⟩, zp, zq, q'⟩
    · exact fun H7 e7 Q' q' => ⟨_, a, b, c, d, r, s, rfl, rw_ex e7 hv6, ⟨za, zb, zc, zd⟩, zr, zs, q'⟩
end
end Z
namespace Z
open PySem PySem.Spec PyProof.Rows L2 Evl Zm
local macro_rules | `(tactic| walk_at "zi") => `(tactic| (repeat' first | exact evi_c | exact evi_var rfl (by with_reducible assumption) | apply evi_add | apply evi_sub | apply evi_mul); all_goals (show _ ≤ 1000000; decide))
local macro_rules | `(tactic| walk_at "zn") => `(tactic| dsimp only [List.set_cons_zero, List.set_cons_succ])
section
variable {P : Program} {w : World} {K : PySem.W.Frag} {mg : Str → Option Value} {base : Heap}
/-! Zc: what is walked, comprehensions, loops; isinstance; isqrt, repr -/
/-! data without lists is kept when a list changes -/
mutual
def noL : PyData → Bool
  | .list _ => false
  | .tuple ds => noLs ds
  | _ => true
def noLs : List PyData → Bool
  | [] => true
  | d :: ds => noL d && noLs ds
end
section
variable {H H' : Hp} {σ : L2.St}
/-- all but the lists stay -/
def ExL (H H' : Hp) : Prop := ∀ a o, H a = some o → (∀ xs, o ≠ .lst xs) → H' a = some o
theorem ExL.refl (H : Hp) : ExL H H := fun _ _ h _ => h
theorem ExL.trans {H H1 H2 : Hp} (a : ExL H H1) (b : ExL H1 H2) : ExL H H2 := fun x o h n => b x o (a x o h n) n
theorem toL (e : Ex H H') : ExL H H' := fun a o h _ => e a o h
theorem exl_upd {D : Addr} {acc : List V} {o : HO} (h : H D = some (.lst acc)) : ExL H (upd H D o) := fun a u ha n => by
  have : a ≠ D := fun z => by
    rw [z, h] at ha
    exact n acc (Option.some.inj ha).symm
  rw [upd_ne this]; exact ha
theorem ext_l {a : Addr} {xs : List V} (e : ExL H H') (h : SqT K H a xs) : SqT K H' a xs := by
  rcases h with (h | ⟨o, h⟩) | h
  · exact Or.inl (Or.inl (e a _ h (fun _ z => by cases z)))
  · exact Or.inl (Or.inr ⟨o, e a _ h (fun _ z => by cases z)⟩)
  · exact Or.inr h
mutual
theorem dp_exl (e : ExL H H') : ∀ (d : PyData) (v : V), noL d = true → Dp K H v d → Dp K H' v d
  | .none, _, _, .non => .non
  | .bool _, _, _, .bl b => .bl b
  | .int _, _, _, .int i => .int i
  | .str _, _, _, .str s => .str s
  | .list ds, _, z, _ => by simp [noL] at z
  | .tuple ds, _, z, .tup h a => .tup (ext_l e h) (dpa_exl e ds _ (by simpa [noL] using z) a)
theorem dpa_exl (e : ExL H H') : ∀ (ds : List PyData) (vs : List V), noLs ds = true → DpAll K H vs ds → DpAll K H' vs ds
  | [], _, _, .nil => .nil
  | d :: ds, _, z, .cons h t => by
    simp only [noLs, Bool.and_eq_true] at z
    exact .cons (dp_exl e d _ z.1 h) (dpa_exl e ds _ z.2 t)
end
theorem dpa_mk : ∀ {xs : List V} {ds : List PyData}, xs.length = ds.length → (∀ (k : Nat) x, xs[k]? = some x → ∃ d, ds[k]? = some d ∧ Dp K H x d) → DpAll K H xs ds
  | [], [], _, _ => .nil
  | [], _ :: _, h, _ => by simp at h
  | _ :: _, [], h, _ => by simp at h
  | x :: xs, d :: ds, h, k => by
    obtain ⟨d', e, r⟩ := k 0 x rfl
    have : d = d' := Option.some.inj e
    subst this
    exact .cons r (dpa_mk (by simpa using h) fun i y hy => k (i + 1) y hy)
end

/-! ### what is walked -/
section
variable {σ : L2.St} {H : Hp} {ta tb te : TE} {t : TT} {n : Nat}
def Ei (wi : TI) (σ : L2.St) (H : Hp) (S : It → Hp → Prop) : Prop := ∀ H1, Ex H H1 → ∀ R : It → Hp → Prop, (∀ J H2, Ex H1 H2 → S J H2 → R J H2) → wi σ H1 R
/-- n turns from H1 on, whatever grows; the i-th gives x, of which Y i tells -/
structure Wk (J : It) (n : Nat) (H1 : Hp) (Y : Nat → V → Hp → Prop) : Prop where
  ex : ∃ (G : Hp → Prop) (Z : Nat → Hp → V → Hp → Prop), Walk J n G Z ∧ (∀ H2, Ex H1 H2 → G H2) ∧ ∀ i x H2 H3, i < n → Ex H1 H2 → Z i H2 x H3 → H3 = H2 ∧ Y i x H2
/-- .. though lists change, but the one at a -/
theorem ei_list {tl : TE} {a : Addr} {xs : List V} (h : Ev tl σ H (.ref a)) (hx : SqL K H a xs) : Ei (iList K tl) σ H (fun J H1 => Wk J xs.length H1 (fun i x _ => xs[i]? = some x)) := fun H1 e R q =>
  h H1 e _ fun H2 e2 => ⟨a, rfl, ⟨xs, ex_l (e.trans e2) hx⟩, q _ H2 e2 ⟨_, _, walk_list (K := K) (xs := xs), fun H3 e3 => ex_l ((e.trans e2).trans e3) hx, fun i x H3 H4 _ _ z => z⟩⟩
theorem ei_tup {tl : TE} {a : Addr} {xs : List V} (h : Ev tl σ H (.ref a)) (hx : SqT K H a xs) : Ei (iTup K tl) σ H (fun J H1 => Wk J xs.length H1 (fun i x _ => xs[i]? = some x)) := fun H1 e R q =>
  h H1 e _ fun H2 e2 => ⟨a, rfl, ⟨xs, ex_t (e.trans e2) hx⟩, q _ H2 e2 ⟨_, _, walk_tup (K := K) (xs := xs), fun H3 e3 => ex_t ((e.trans e2).trans e3) hx, fun i x H3 H4 _ _ z => z⟩⟩
/-- a list of data -/
theorem ei_dlist {tl : TE} {ds : List PyData} (h : Er tl σ H (fun v H' => Dp K H' v (.list ds))) : Ei (iList K tl) σ H (fun J H1 => Wk J ds.length H1 (fun i x H' => ∃ d, ds[i]? = some d ∧ Dp K H' x d)) := fun H1 e R q =>
  h H1 e _ fun v H2 e2 r => by
    obtain ⟨a, xs, rfl, hx, hd⟩ := dp_lst r
    refine ⟨a, rfl, ⟨xs, hx⟩, q _ H2 e2 ⟨_, _, (by rw [← dpa_len hd]; exact walk_list (K := K) (xs := xs)), fun H3 e3 => ex_l e3 hx, fun i x H3 H4 _ e3 (z : YAt xs i H3 x H4) => ⟨z.1, ?_⟩⟩⟩
    obtain ⟨d, h1, h2⟩ := dpa_get hd z.2
    exact ⟨d, h1, dp_ex e3 _ _ h2⟩
theorem ei_dtup {tl : TE} {ds : List PyData} (h : Er tl σ H (fun v H' => Dp K H' v (.tuple ds))) : Ei (iTup K tl) σ H (fun J H1 => Wk J ds.length H1 (fun i x H' => ∃ d, ds[i]? = some d ∧ Dp K H' x d)) := fun H1 e R q =>
  h H1 e _ fun v H2 e2 r => by
    obtain ⟨a, xs, rfl, hx, hd⟩ := dp_tup r
    refine ⟨a, rfl, ⟨xs, hx⟩, q _ H2 e2 ⟨_, _, (by rw [← dpa_len hd]; exact walk_tup (K := K) (xs := xs)), fun H3 e3 => ex_t e3 hx, fun i x H3 H4 _ e3 (z : YAt xs i H3 x H4) => ⟨z.1, ?_⟩⟩⟩
    obtain ⟨d, h1, h2⟩ := dpa_get hd z.2
    exact ⟨d, h1, dp_ex e3 _ _ h2⟩
theorem ei_r1 {ta : TA} {m : Int} (h : EvA ta σ H [.int m]) (h1 : 0 ≤ m) (h2 : m < 2 ^ 62) : Ei (iRng1 ta) σ H (fun J H1 => Wk J m.toNat H1 (fun i x _ => x = .int (i : Int))) := fun H1 e R q =>
  h H1 e _ fun H2 e2 => ⟨m, rfl, by omega, by omega, q _ H2 e2 ⟨_, _, walk_range (lo := 0) (n := m.toNat), fun _ _ => trivial, fun i x H3 H4 _ _ z => ⟨z.1, by rw [z.2]; simp⟩⟩⟩
theorem ei_r2 {ta : TA} {l m : Int} (h : EvA ta σ H [.int l, .int m]) (h1 : 0 ≤ l) (h2 : l ≤ m) (h3 : m < 2 ^ 62) : Ei (iRng2 ta) σ H (fun J H1 => Wk J (m - l).toNat H1 (fun i x _ => x = .int (l + (i : Int)))) := fun H1 e R q =>
  h H1 e _ fun H2 e2 => ⟨l, m, rfl, ⟨by omega, by omega, by omega, by omega⟩, q _ H2 e2 ⟨_, _, walk_range (lo := l) (n := (m - l).toNat), fun _ _ => trivial, fun i x H3 H4 _ _ z => ⟨z.1, z.2⟩⟩⟩
theorem ei_r3 {ta : TA} {l m c : Int} {n : Nat} (h : EvA ta σ H [.int l, .int m, .int c]) (hg : RgC l m c n) : Ei (iRng3 ta) σ H (fun J H1 => Wk J n H1 (fun i x _ => x = .int (l + (i : Nat) * c))) := fun H1 e R q =>
  h H1 e _ fun H2 e2 => ⟨l, m, c, n, rfl, hg, q _ H2 e2 ⟨_, _, walk_rangeC (lo := l) (c := c) (n := n), fun _ _ => trivial, fun i x H3 H4 _ _ z => ⟨z.1, z.2⟩⟩⟩

/-! ### comprehensions -/
theorem et_yes : EvT tYes σ H true := fun H1 _ _ q => q H1 (Ex.refl H1)
theorem range_filter_yes {b : Nat → Bool} {i : Nat} (h : b i = true) : (List.range (i + 1)).filter b = (List.range i).filter b ++ [i] := by
  rw [List.range_succ, List.filter_append, List.filter_cons, if_pos h]; rfl
theorem range_filter_no {b : Nat → Bool} {i : Nat} (h : b i = false) : (List.range (i + 1)).filter b = (List.range i).filter b := by
  rw [List.range_succ, List.filter_append, List.filter_cons, if_neg (by rw [h]; decide)]; simp
theorem range_filter_len (b : Nat → Bool) (i : Nat) : ((List.range i).filter b).length ≤ i := by
  have := List.length_filter_le b (List.range i)
  rw [List.length_range] at this
  exact this
/-- the list so far -/
structure LcQ (H1 : Hp) (D : Addr) (b : Nat → Bool) (R : Nat → V → Hp → Prop) (i : Nat) (H' : Hp) : Prop where
  nD : H1 D = none
  ex : Ex H1 H'
  xs : ∃ xs, H' D = some (.lst xs) ∧ xs.length = ((List.range i).filter b).length ∧ ∀ (k : Nat) x, xs[k]? = some x → ∃ j, ((List.range i).filter b)[k]? = some j ∧ R j x H'
theorem er_lc {wi : TI} {tt : TT} {j : Nat} {vs : List Nat} {Y : Nat → V → Hp → Prop} (b : Nat → Bool) (R : Nat → V → Hp → Prop) (h : Ei wi σ H (fun J H1 => Wk J n H1 Y)) (hn : n ≤ 100000) (hw : ∀ x, wipe ((wipe σ vs).set j (some x)) vs = wipe σ vs)
    (hR : ∀ j x H1 H2, ExL H1 H2 → R j x H1 → R j x H2) (ht : ∀ i x H1, i < n → Ex H H1 → Y i x H1 → EvT tt ((wipe σ vs).set j (some x)) H1 (b i)) (he : ∀ i x H1, i < n → Ex H H1 → Y i x H1 → b i = true → Er te ((wipe σ vs).set j (some x)) H1 (R i))
    (hY : ∀ i x H1 H2, Ex H1 H2 → Y i x H1 → Y i x H2) :
    Er (tLc wi (gName j) tt te vs) σ H (fun v H' => ∃ p xs, v = .ref p ∧ H' p = some (.lst xs) ∧ xs.length = ((List.range n).filter b).length ∧ ∀ (k : Nat) x, xs[k]? = some x → ∃ j, ((List.range n).filter b)[k]? = some j ∧ R j x H') := fun H0 e Q q =>
  h H0 e _ fun J H1 e1 w => by
    obtain ⟨G, Z, w, hG, hZ⟩ := w.ex
    intro D hD
    refine lc_it w (fun i H' => LcQ H1 D b R i H') ⟨hD, Ex.new hD, [], upd_same, rfl, fun k x hx => by simp at hx⟩ (fun i H' _ p => hG H' p.ex) (fun i x H2 H3 hi p z => ?_) fun H' p => ?_
    · obtain ⟨rfl, hy⟩ := hZ i x H2 H3 hi p.ex z
      have eH : Ex H H3 := (e.trans e1).trans p.ex
      refine ⟨hw x, ht i x H3 hi eH hy H3 (Ex.refl H3) _ fun H4 e4 => ?_⟩
      obtain ⟨nD, px, xs, hD2, hl, hr⟩ := p
      cases hb : b i with
      | true =>
        show te _ H4 _
        refine he i x H4 hi (eH.trans e4) (hY i x H3 H4 e4 hy) hb H4 (Ex.refl H4) _ fun y H5 e5 ry => ?_
        have hD5 : H5 D = some (.lst xs) := e5 D _ (e4 D _ hD2)
        refine ⟨xs, hD5, ?_, nD, Ex.mut ((px.trans e4).trans e5) nD, xs ++ [y], upd_same, ?_, fun k x' hk => ?_⟩
        · have := range_filter_len b i
          exact Nat.lt_of_le_of_lt (show xs.length ≤ 100000 by omega) (by decide)
        · rw [range_filter_yes hb, List.length_append, List.length_append, hl]; rfl
        · rw [range_filter_yes hb]
          by_cases hk2 : k < xs.length
          · rw [List.getElem?_append_left hk2] at hk
            obtain ⟨j', h1, h2⟩ := hr k x' hk
            exact ⟨j', by rw [List.getElem?_append_left (by omega)]; exact h1, hR _ _ _ _ ((toL (e4.trans e5)).trans (exl_upd hD5)) h2⟩
          · have hk3 : k = xs.length := by
              have := (List.getElem?_eq_some_iff.mp hk).1
              simp at this
              omega
            subst hk3
            rw [List.getElem?_append_right (Nat.le_refl _), Nat.sub_self] at hk
            have : y = x' := Option.some.inj hk
            subst this
            exact ⟨i, by rw [hl, List.getElem?_append_right (Nat.le_refl _), Nat.sub_self]; rfl, hR _ _ _ _ (exl_upd hD5) ry⟩
      | false =>
        show LcQ H1 D b R (i + 1) H4
        exact ⟨nD, px.trans e4, xs, e4 D _ hD2, by rw [range_filter_no hb]; exact hl, fun k x' hk => by
          rw [range_filter_no hb]
          obtain ⟨j', h1, h2⟩ := hr k x' hk
          exact ⟨j', h1, hR _ _ _ _ (toL e4) h2⟩⟩
    · obtain ⟨nD, px, xs, hD2, hl, hr⟩ := p
      exact q (.ref D) H' (e1.trans px) ⟨D, xs, rfl, hD2, hl, hr⟩
/-- without a test -/
theorem er_lc0 {wi : TI} {j : Nat} {vs : List Nat} {Y : Nat → V → Hp → Prop} (R : Nat → V → Hp → Prop) (h : Ei wi σ H (fun J H1 => Wk J n H1 Y)) (hn : n ≤ 100000) (hw : ∀ x, wipe ((wipe σ vs).set j (some x)) vs = wipe σ vs)
    (hR : ∀ j x H1 H2, ExL H1 H2 → R j x H1 → R j x H2) (he : ∀ i x H1, i < n → Ex H H1 → Y i x H1 → Er te ((wipe σ vs).set j (some x)) H1 (R i))
    (hY : ∀ i x H1 H2, Ex H1 H2 → Y i x H1 → Y i x H2) :
    Er (tLc wi (gName j) tYes te vs) σ H (fun v H' => ∃ p xs, v = .ref p ∧ H' p = some (.lst xs) ∧ xs.length = n ∧ ∀ (k : Nat) x, xs[k]? = some x → R k x H') :=
  (er_lc (fun _ => true) R h hn hw hR (fun i x H1 hi e y => et_yes) (fun i x H1 hi e y _ => he i x H1 hi e y) hY).imp fun v H' ⟨p, xs, a, b, c, d⟩ => by
    have e0 : (List.range n).filter (fun _ => true) = List.range n := List.filter_eq_self.mpr (fun _ _ => rfl)
    rw [e0] at c d
    refine ⟨p, xs, a, b, by rw [c, List.length_range], fun k x hk => ?_⟩
    obtain ⟨j', h1, h2⟩ := d k x hk
    have := List.getElem?_eq_some_iff.mp h1
    obtain ⟨h3, h4⟩ := this
    rw [List.getElem_range] at h4
    subst h4
    exact h2
/-- each element an int, a bool: the list told -/
theorem el_lc0 {wi : TI} {j : Nat} {vs : List Nat} {Y : Nat → V → Hp → Prop} (f : Nat → V) (h : Ei wi σ H (fun J H1 => Wk J n H1 Y)) (hn : n ≤ 100000) (hw : ∀ x, wipe ((wipe σ vs).set j (some x)) vs = wipe σ vs)
    (he : ∀ i x H1, i < n → Ex H H1 → Y i x H1 → Ev te ((wipe σ vs).set j (some x)) H1 (f i)) (hY : ∀ i x H1 H2, Ex H1 H2 → Y i x H1 → Y i x H2) :
    Er (tLc wi (gName j) tYes te vs) σ H (fun v H' => ∃ p, v = .ref p ∧ H' p = some (.lst ((List.range n).map f))) :=
  (er_lc0 (fun i x _ => x = f i) h hn hw (fun _ _ _ _ _ z => z) (fun i x H1 hi e y => er_ev (he i x H1 hi e y)) hY).imp fun v H' ⟨p, xs, a, b, c, d⟩ => by
    refine ⟨p, a, ?_⟩
    rw [b]
    congr 2
    refine List.ext_getElem? fun k => ?_
    rw [List.getElem?_map]
    by_cases hk : k < n
    · have hx : xs[k]? = some xs[k] := List.getElem?_eq_getElem (by omega)
      rw [hx, List.getElem?_range hk, d k _ hx]; rfl
    · rw [List.getElem?_eq_none (by omega), List.getElem?_eq_none (by simp; omega)]; rfl
/-- all([b for ..]) -/
theorem ev_all {tl : TA} {bs : List Bool} (h : Ea tl σ H (fun vs H' => ∃ p, vs = [.ref p] ∧ H' p = some (.lst (bs.map V.bl)))) : Ev (tCB (rAll K) tl) σ H (.bl (bs.all id)) := fun H1 e Q q =>
  h H1 e _ fun vs H2 e2 ⟨p, hv, hp⟩ => ⟨p, bs, hv, SqL.of hp, q H2 e2⟩
theorem ea_one {R : V → Hp → Prop} (h : Er te σ H R) : Ea (tCons te tNil) σ H (fun vs H' => ∃ v, vs = [v] ∧ R v H') := fun H1 e Q q =>
  h H1 e _ fun v H2 e2 r => q [v] H2 e2 ⟨v, rfl, r⟩
theorem ev_all_lc {tl : TE} {n : Nat} {f : Nat → Bool} (h : Er tl σ H (fun v H' => ∃ p, v = .ref p ∧ H' p = some (.lst ((List.range n).map fun i => V.bl (f i))))) : Ev (tCB (rAll K) (tCons tl tNil)) σ H (.bl ((List.range n).all f)) := by
  have e0 : ∀ l : List Nat, l.map (fun i => V.bl (f i)) = (l.map f).map V.bl := fun l => by rw [List.map_map]; rfl
  have e1 : ((List.range n).map f).all id = (List.range n).all f := by rw [List.all_map]; rfl
  rw [← e1]
  refine ev_all (K := K) (fun H1 e Q q => ea_one h H1 e Q fun vs H2 e2 ⟨v, hv, p, hp, hx⟩ => q vs H2 e2 ⟨p, ?_, ?_⟩)
  · rw [hv, hp]
  · rw [hx, e0]

/-! ### isinstance -/
/-- x is of the built-in type t -/
theorem ev_isi {x : V} {t T : String} {b : Bool} {ta : TA} (h : EvA ta σ H [x, .ty T]) (ht : ∀ H1, Ex H H1 → TyX K H1 x (.type t)) (hb : kitB t T = some b) : Ev (tCB (rIsi K) ta) σ H (.bl b) := fun H1 e Q q =>
  h H1 e _ fun H2 e2 => ⟨x, .ty T, .type t, .type T, b, rfl, .ty T, ht H2 (e.trans e2), kit_ty hb, q H2 e2⟩
theorem tyx_int {H : Hp} (i : Int) : TyX K H (.int i) (.type "int") := .base (.int i)
theorem tyx_bl {H : Hp} (i : Bool) : TyX K H (.bl i) (.type "bool") := .base (.bl i)
theorem tyx_str {H : Hp} (i : Str) : TyX K H (.str i) (.type "str") := .base (.str i)
theorem tyx_tup {H : Hp} {p : Addr} {xs : List V} (h : SqT K H p xs) : TyX K H (.ref p) (.type "tuple") := by
  rcases h with (h | ⟨o, h⟩) | ⟨o, its, n, hk, hc, _⟩
  · exact .base (.tup h)
  · exact .fTuple h
  · exact .kTuple hk hc
theorem tyx_lst {H : Hp} {p : Addr} {xs : List V} (h : SqL K H p xs) : TyX K H (.ref p) (.type "list") := by
  rcases h with (h | ⟨o, h⟩) | ⟨o, its, n, hk, hc, _⟩
  · exact .base (.lst h)
  · exact .base (.frz h)
  · exact .kList hk hc
end

/-! ### isqrt, repr -/
section
variable {X : Cx}
def rIsqrt : List V → Hp → VK → Prop := fun vs H Q => ∃ a : Int, vs = [.int a] ∧ 0 ≤ a ∧ a < 2 ^ 64 ∧ Q (.int ((Float64.isqrt a.toNat : Nat) : Int)) H
theorem call_isqrt : CallR X (.builtin "math.isqrt") rIsqrt := by
  intro pins s σ H vs us Q I r h
  obtain ⟨a, rfl, h0, h1, q⟩ := h
  obtain ⟨u, rfl, t, rfl⟩ := vals1 r
  exact PySem.W.mg_isqrt h0 h1 ⟨.int _, H, I.tok _, ⟨_, rfl⟩, q⟩
def rReprB : List V → Hp → VK → Prop := fun vs H Q => ∃ b : Bool, vs = [.bl b] ∧ Q (.str (if b then "True" else "False")) H
theorem call_repr_bl : CallR X (.builtin "repr") rReprB := by
  intro pins s σ H xs us Q I r h
  obtain ⟨b, rfl, q⟩ := h
  obtain ⟨u, rfl, hu⟩ := vals1 r
  obtain rfl : u = Value.bool b := hu
  exact PySem.P.repr_of_bool ⟨.str _, H, I.tok _, ⟨_, rfl⟩, q⟩
end
theorem isqrt_ok : ((List.range 10001).all fun n => decide (Float64.isqrt n * Float64.isqrt n ≤ n) && decide (n < (Float64.isqrt n + 1) * (Float64.isqrt n + 1))) = true := by decide +kernel
theorem isqrt_at {n : Nat} (h : n ≤ 10000) : Float64.isqrt n * Float64.isqrt n ≤ n ∧ n < (Float64.isqrt n + 1) * (Float64.isqrt n + 1) := by
  have := List.all_eq_true.mp isqrt_ok n (List.mem_range.mpr (by omega))
  simpa using this
theorem rg2_ok : ((List.range 101).all fun q => Builtin.Range.small 3 ((q : Int) + 1) 2 && decide (Builtin.Range.rangeSize 3 ((q : Int) + 1) 2 = (((q - 1) / 2 : Nat) : Int))) = true := by decide +kernel
theorem rg2_at {q : Nat} (h : q ≤ 100) : RgC 3 ((q : Int) + 1) 2 ((q - 1) / 2) := by
  have := List.all_eq_true.mp rg2_ok q (List.mem_range.mpr (by omega))
  simp only [Bool.and_eq_true, decide_eq_true_eq] at this
  exact ⟨by decide, by decide, this.1, this.2⟩
end
end Z
namespace Z
open PySem PySem.Spec PyProof.Rows L2 Evl Zm
local macro_rules | `(tactic| walk_at "zi") => `(tactic| (repeat' first | exact evi_c | exact evi_var rfl (by with_reducible assumption) | apply evi_add | apply evi_sub | apply evi_mul); all_goals (show _ ≤ 1000000; decide))
local macro_rules | `(tactic| walk_at "zn") => `(tactic| dsimp only [List.set_cons_zero, List.set_cons_succ])
section
variable {P : Program} {w : World} {K : PySem.W.Frag} {mg : Str → Option Value} {base : Heap}
/-! Zd: deep equality, more readings; is_whole .. is_small_prime, is_divided -/
section
variable {σ : L2.St} {H : Hp} {ta tb te : TE} {t : TT} {n : Nat}
/-- a comprehension, its list as data -/
theorem er_lcD {wi : TI} {tt : TT} {j : Nat} {vs : List Nat} {Y : Nat → V → Hp → Prop} (b : Nat → Bool) (D : Nat → PyData) (h : Ei wi σ H (fun J H1 => Wk J n H1 Y)) (hn : n ≤ 100000) (hw : ∀ x, wipe ((wipe σ vs).set j (some x)) vs = wipe σ vs)
    (hD : ∀ i, noL (D i) = true) (ht : ∀ i x H1, i < n → Ex H H1 → Y i x H1 → EvT tt ((wipe σ vs).set j (some x)) H1 (b i)) (he : ∀ i x H1, i < n → Ex H H1 → Y i x H1 → b i = true → Er te ((wipe σ vs).set j (some x)) H1 (fun v H' => Dp K H' v (D i)))
    (hY : ∀ i x H1 H2, Ex H1 H2 → Y i x H1 → Y i x H2) :
    Er (tLc wi (gName j) tt te vs) σ H (fun v H' => Dp K H' v (.list (((List.range n).filter b).map D))) :=
  (er_lc b (fun i v H' => Dp K H' v (D i)) h hn hw (fun i x H1 H2 e d => dp_exl e _ _ (hD i) d) ht he hY).imp fun v H' ⟨p, xs, e1, e2, e3, e4⟩ => by
    subst e1
    refine .lst (SqL.of e2) (dpa_mk (by rw [e3, List.length_map]) fun k x hk => ?_)
    obtain ⟨i, h1, h2⟩ := e4 k x hk
    exact ⟨D i, by rw [List.getElem?_map, h1]; rfl, h2⟩
theorem er_lcD0 {wi : TI} {j : Nat} {vs : List Nat} {Y : Nat → V → Hp → Prop} (D : Nat → PyData) (h : Ei wi σ H (fun J H1 => Wk J n H1 Y)) (hn : n ≤ 100000) (hw : ∀ x, wipe ((wipe σ vs).set j (some x)) vs = wipe σ vs)
    (hD : ∀ i, noL (D i) = true) (he : ∀ i x H1, i < n → Ex H H1 → Y i x H1 → Er te ((wipe σ vs).set j (some x)) H1 (fun v H' => Dp K H' v (D i)))
    (hY : ∀ i x H1 H2, Ex H1 H2 → Y i x H1 → Y i x H2) :
    Er (tLc wi (gName j) tYes te vs) σ H (fun v H' => Dp K H' v (.list ((List.range n).map D))) :=
  (er_lcD (fun _ => true) D h hn hw hD (fun _ _ _ _ _ _ => et_yes) (fun i x H1 hi e y _ => he i x H1 hi e y) hY).imp fun v H' d => by
    rw [List.filter_eq_self.mpr (fun _ _ => rfl)] at d
    exact d
theorem ev_eqD {d e : PyData} (h1 : Er ta σ H (fun v H' => Dp K H' v d)) (h2 : Er tb σ H (fun v H' => Dp K H' v e)) (s1 : SeqAt.shaped d = true) (s2 : SeqAt.shaped e = true) : Ev (tOp (rEqD K) ta tb) σ H (.bl (PyData.eqv d e)) := fun H1 e1 Q q =>
  h1 H1 e1 _ fun x H2 e2 r1 => h2 H2 (e1.trans e2) _ fun y H3 e3 r2 => ⟨d, e, dp_ex e3 _ _ r1, r2, s1, s2, q H3 (e2.trans e3)⟩
theorem ev_neD {d e : PyData} (h1 : Er ta σ H (fun v H' => Dp K H' v d)) (h2 : Er tb σ H (fun v H' => Dp K H' v e)) (s1 : SeqAt.shaped d = true) (s2 : SeqAt.shaped e = true) : Ev (tOp (rNeD K) ta tb) σ H (.bl (!PyData.eqv d e)) := fun H1 e1 Q q =>
  h1 H1 e1 _ fun x H2 e2 r1 => h2 H2 (e1.trans e2) _ fun y H3 e3 r2 => ⟨d, e, dp_ex e3 _ _ r1, r2, s1, s2, q H3 (e2.trans e3)⟩
theorem er_dvar {i : Nat} {v : V} {d : PyData} (h : σ[i]? = some (some v)) (hd : Dp K H v d) : Er (tVar i) σ H (fun v H' => Dp K H' v d) := er_var h fun H1 e => dp_ex e _ _ hd
/-- a display of data -/
inductive EaD (K : PySem.W.Frag) (σ : L2.St) (H : Hp) : TA → List PyData → Prop
  | nil : EaD K σ H tNil []
  | cons {te : TE} {ta : TA} {d : PyData} {ds : List PyData} : Er te σ H (fun v H' => Dp K H' v d) → EaD K σ H ta ds → EaD K σ H (tCons te ta) (d :: ds)
theorem EaD.ea {ta : TA} {ds : List PyData} (h : EaD K σ H ta ds) : Ea ta σ H (fun vs H' => DpAll K H' vs ds) := by
  induction h with
  | nil => exact fun H1 e Q q => q [] H1 (Ex.refl H1) .nil
  | cons h _ ih => exact fun H1 e Q q => h H1 e _ fun v H2 e2 r => ih H2 (e.trans e2) _ fun us H3 e3 rs => q (v :: us) H3 (e2.trans e3) (.cons (dp_ex e3 _ _ r) rs)
theorem er_dtup {ta : TA} {ds : List PyData} (h : EaD K σ H ta ds) (hz : ds.length ≤ 1000) : Er (tTup ta) σ H (fun v H' => Dp K H' v (.tuple ds)) := fun H1 e Q q =>
  h.ea H1 e _ fun vs H2 e2 rs => ⟨Nat.le_trans (by rw [dpa_len rs]; exact hz) (show 1000 ≤ sizeLine by decide), fun p hp => q _ _ (e2.trans (Ex.new hp)) (.tup (SqT.of upd_same) (dpa_ex (Ex.new hp) _ _ rs))⟩
theorem er_dlst {ta : TA} {ds : List PyData} (h : EaD K σ H ta ds) (hz : ds.length ≤ 1000) : Er (tLst ta) σ H (fun v H' => Dp K H' v (.list ds)) := fun H1 e Q q =>
  h.ea H1 e _ fun vs H2 e2 rs => ⟨Nat.le_trans (by rw [dpa_len rs]; exact hz) (show 1000 ≤ sizeLine by decide), fun p hp => q _ _ (e2.trans (Ex.new hp)) (.lst (SqL.of upd_same) (dpa_ex (Ex.new hp) _ _ rs))⟩
theorem er_dint {i : Int} (h : Ev te σ H (.int i)) : Er te σ H (fun v H' => Dp K H' v (.int i)) := (er_ev h).imp fun v H' e => by subst e; exact .int i
theorem er_dstr {i : Str} (h : Ev te σ H (.str i)) : Er te σ H (fun v H' => Dp K H' v (.str i)) := (er_ev h).imp fun v H' e => by subst e; exact .str i
theorem er_dbl {i : Bool} (h : Ev te σ H (.bl i)) : Er te σ H (fun v H' => Dp K H' v (.bool i)) := (er_ev h).imp fun v H' e => by subst e; exact .bl i
theorem er_dnon (h : Ev te σ H .non) : Er te σ H (fun v H' => Dp K H' v .none) := (er_ev h).imp fun v H' e => by subst e; exact .non
theorem canLayAll : ∀ {ds : List PyData}, (∀ d ∈ ds, d.canLay0 = true) → PyData.canLayAll0 ds = true
  | [], _ => rfl
  | d :: ds, h => by
    show (PyData.canLay0 d && PyData.canLayAll0 ds) = true
    rw [h d List.mem_cons_self, canLayAll fun x hx => h x (List.mem_cons_of_mem _ hx)]; rfl
theorem depthAll_le : ∀ {ds : List PyData} {k : Nat}, (∀ d ∈ ds, d.depth ≤ k) → PyData.depthAll ds ≤ k
  | [], _, _ => Nat.zero_le _
  | d :: ds, k, h => by
    show max (PyData.depth d) (PyData.depthAll ds) ≤ k
    have h1 := h d List.mem_cons_self
    have h2 := depthAll_le (ds := ds) (k := k) fun x hx => h x (List.mem_cons_of_mem _ hx)
    omega
theorem shaped_list {ds : List PyData} (h : ∀ d ∈ ds, d.canLay0 = true ∧ d.depth ≤ 10) : SeqAt.shaped (.list ds) = true := by
  unfold SeqAt.shaped
  have h1 : PyData.canLay0 (.list ds) = true := canLayAll fun d hd => (h d hd).1
  have h2 : PyData.depth (.list ds) ≤ 64 := by
    show PyData.depthAll ds + 1 ≤ 64
    have := depthAll_le (k := 10) fun d hd => (h d hd).2
    omega
  rw [h1, decide_eq_true h2]; rfl
theorem eqv_nil {ds : List PyData} : PyData.eqv (.list ds) (.list []) = ds.isEmpty := by
  cases ds <;> simp [PyData.eqv, PyData.eqvAll]
theorem ev_abs {i : Int} {ta : TA} (h : EvA ta σ H [.int i]) : Ev (tCB (fun xs H Q => ∃ i, xs = [.int i] ∧ Q (.int (if i < 0 then -i else i)) H) ta) σ H (.int (if i < 0 then -i else i)) := fun H1 e Q q =>
  h H1 e _ fun H2 e2 => ⟨i, rfl, q H2 e2⟩
theorem abs_natAbs (i : Int) : (if i < 0 then -i else i) = (i.natAbs : Int) := by split <;> omega
end

/-! ### is_whole, is_integer -/
variable {aE cF cK : Addr}
/-- whether a flat value is an int -/
def isI : V → Option Bool
  | .int _ => some true
  | .bl _ => some false
  | .str _ => some false
  | _ => none
def spWhole : Sp := fun vs H Q _ => ∃ (x : V) (b : Bool), vs = [x] ∧ isI x = some b ∧ ∀ H', Ex H H' → Q (.bl b) H'
abbrev s11 : Stmt := topS 11
theorem sc11 : FnScope ["value"] ["value"] (defScope s11) := ⟨rfl, rfl, rfl, by decide +kernel, rfl, by decide +kernel, by decide +kernel⟩
theorem fk11 (R : Raw K mg "is_whole" s11) (T : Bt K mg aE cF cK) : Fk P w K mg base "is_whole" 1 ["value"] spWhole := by
  refine R.fk sc11 (fun _ _ _ _ _ _ us hl => match us, hl with | [_], _ => rfl) (fun vs H Q E h => ?_) (fun f cdv A outer s H vs Q E hr h => ?_)
  · obtain ⟨x, b, rfl, _⟩ := h; rfl
  · obtain ⟨x, b, rfl, hx, k⟩ := h
    refine ⟨_, (pss_one (ps_ret (pe_and (pe_callB call_isi (by rfl) T.isinstance (by decide +kernel) (pa_cons (pv 0) (pa_cons (pe_bltn (v := .ty "int") rfl T.int (by decide +kernel) rfl) pa_nil))) (pe_one (pe_not (pe_callB call_isi (by rfl) T.isinstance (by decide +kernel) (pa_cons (pv 0) (pa_cons (pe_bltn (v := .ty "bool") rfl T.bool (by decide +kernel) rfl) pa_nil)))))))), ?_⟩
    refine at_st (σ2 := [some _]) rfl ?_
    cases x with
    | int i =>
      cases hx
      exact s_ret (ev_andV (a := true) (b := true) (ev_isi (ea_cons (ev_var rfl) (ea_cons ev_c ea_nil)) (fun _ _ => tyx_int i) (by decide +kernel))
        (fun _ => ev_notV (a := false) (ev_isi (ea_cons (ev_var rfl) (ea_cons ev_c ea_nil)) (fun _ _ => tyx_int i) (by decide +kernel)))) k
    | bl i =>
      cases hx
      exact s_ret (ev_andV (a := true) (b := false) (ev_isi (ea_cons (ev_var rfl) (ea_cons ev_c ea_nil)) (fun _ _ => tyx_bl i) (by decide +kernel))
        (fun _ => ev_notV (a := true) (ev_isi (ea_cons (ev_var rfl) (ea_cons ev_c ea_nil)) (fun _ _ => tyx_bl i) (by decide +kernel)))) k
    | str i =>
      cases hx
      exact s_ret (ev_andV (a := false) (b := false) (ev_isi (ea_cons (ev_var rfl) (ea_cons ev_c ea_nil)) (fun _ _ => tyx_str i) (by decide +kernel)) (fun z => by cases z)) k
    | non => cases hx
    | byt _ => cases hx
    | flt _ => cases hx
    | ref _ => cases hx
    | ty _ => cases hx
def spInteger : Sp := fun vs H Q _ => ∃ (x : V) (b : Bool), vs = [x] ∧ isI x = some b ∧ (∀ i, x = .int i → i.natAbs < 2 ^ 199) ∧ ∀ H', Ex H H' → Q (.bl b) H'
abbrev s12 : Stmt := topS 12
theorem sc12 : FnScope ["value"] ["value"] (defScope s12) := ⟨rfl, rfl, rfl, by decide +kernel, rfl, by decide +kernel, by decide +kernel⟩
theorem small60 {i : Int} (h : i.natAbs < 2 ^ 199) : decide ((i.natAbs : Int) < 10 ^ 60) = true := by
  have h2 : (2 : Nat) ^ 199 < 10 ^ 60 := by decide
  have h3 : i.natAbs < 10 ^ 60 := Nat.lt_trans h h2
  exact decide_eq_true (by exact_mod_cast h3)
theorem fk12 (R : Raw K mg "is_integer" s12) (T : Bt K mg aE cF cK) (F_is_whole : Fk P w K mg base "is_whole" 1 ["value"] spWhole) : Fk P w K mg base "is_integer" 2 ["value"] spInteger := by
  refine R.fk sc12 (fun _ _ _ _ _ _ us hl => match us, hl with | [_], _ => rfl) (fun vs H Q E h => ?_) (fun f cdv A outer s H vs Q E hr h => ?_)
  · obtain ⟨x, b, rfl, _⟩ := h; rfl
  · obtain ⟨x, b, rfl, hx, hz, k⟩ := h
    refine ⟨_, (pss_one (ps_ret (pe_and (pf F_is_whole (hr.mono (by decide)) rfl (pa_cons (pv 0) pa_nil)) (pe_one (pe_cmpR op_lt (pe_callB call_abs (by rfl) T.abs (by decide +kernel) (pa_cons (pv 0) pa_nil)) (pe_gi rfl T.SIXTY_DIGITS) (nomark _)))))), ?_⟩
    refine at_st (σ2 := [some _]) rfl ?_
    refine s_ret (ev_is (v := .bl (b && b)) (ev_andV (ev_call' (ea_cons (ev_var rfl) ea_nil) fun H1 e1 Q' q' => ⟨x, b, rfl, hx, q'⟩) fun hb => ?_) (by cases b <;> rfl)) k
    subst hb
    cases x with
    | int i => exact ev_is (ev_op (ev_abs (ea_cons (ev_var rfl) ea_nil)) ev_c rv_I0) (by rw [abs_natAbs, small60 (hz i rfl)])
    | non => cases hx
    | bl _ => cases hx
    | str _ => cases hx
    | byt _ => cases hx
    | flt _ => cases hx
    | ref _ => cases hx
    | ty _ => cases hx
end
end Z
namespace Z
open PySem PySem.Spec PyProof.Rows L2 Evl Zm
local macro_rules | `(tactic| walk_at "zi") => `(tactic| (repeat' first | exact evi_c | exact evi_var rfl (by with_reducible assumption) | apply evi_add | apply evi_sub | apply evi_mul); all_goals (show _ ≤ 1000000; decide))
local macro_rules | `(tactic| walk_at "zn") => `(tactic| dsimp only [List.set_cons_zero, List.set_cons_succ])
section
variable {P : Program} {w : World} {K : PySem.W.Frag} {mg : Str → Option Value} {base : Heap}
variable {aE cF cK : Addr}
/-! Ze: is_prime_number, is_small_prime, the law's is_prime; is_divided; is_heavy; is_place -/
section
variable {σ : L2.St} {H : Hp} {ta tb tc te : TE} {t : TT} {n : Nat} {x y z : V} {r r' : R2}
theorem dec_int' {i j : Int} : decide (V.int i = V.int j) = decide (i = j) := by
  rw [decide_eq_decide]
  exact ⟨fun h => V.int.inj h, fun h => by rw [h]⟩
theorem dec_str' {i j : Str} : decide (V.str i = V.str j) = decide (i = j) := by
  rw [decide_eq_decide]
  exact ⟨fun h => V.str.inj h, fun h => by rw [h]⟩
theorem dec_bl' {i j : Bool} : decide (V.bl i = V.bl j) = decide (i = j) := by
  rw [decide_eq_decide]
  exact ⟨fun h => V.bl.inj h, fun h => by rw [h]⟩
theorem rv_eqI {i j : Int} : RV rEq (.int i) (.int j) H (.bl (decide (i = j))) := by rw [← dec_int']; exact rv_eq rfl
theorem rv_neI {i j : Int} : RV rNe (.int i) (.int j) H (.bl (!decide (i = j))) := by rw [← dec_int']; exact rv_ne rfl
theorem rv_eqS {i j : Str} : RV rEq (.str i) (.str j) H (.bl (decide (i = j))) := by rw [← dec_str']; exact rv_eq rfl
theorem rv_neS {i j : Str} : RV rNe (.str i) (.str j) H (.bl (!decide (i = j))) := by rw [← dec_str']; exact rv_ne rfl
theorem rv_neB {i j : Bool} : RV rNe (.bl i) (.bl j) H (.bl (!decide (i = j))) := by rw [← dec_bl']; exact rv_ne rfl
theorem ev_chain {b1 b2 : Bool} (ha : Ev ta σ H x) (hb : Ev tb σ H y) (h1 : RV r x y H (.bl b1)) (h2 : b1 = true → Ev tc σ H z ∧ RV r' y z H (.bl b2)) : Ev (tChain r r' ta tb tc) σ H (.bl (b1 && b2)) := fun H1 e Q q =>
  ha H1 e _ fun H2 e2 => hb H2 (e.trans e2) _ fun H3 e3 => h1 H3 ((e.trans e2).trans e3) _ fun H4 e4 => ⟨b1, rfl, by
    cases b1 with
    | true =>
      obtain ⟨k1, k2⟩ := h2 rfl
      have e14 := ((e.trans e2).trans e3).trans e4
      rw [if_pos rfl]
      exact k1 H4 e14 _ fun H5 e5 => k2 H5 (e14.trans e5) Q fun H6 e6 => q H6 ((((e2.trans e3).trans e4).trans e5).trans e6)
    | false =>
      rw [if_neg Bool.false_ne_true]
      exact q H4 ((e2.trans e3).trans e4)⟩
theorem ev_isqrt {n : Nat} {ta : TA} (h : EvA ta σ H [.int (n : Int)]) (hn : n ≤ 10000) : Ev (tCB rIsqrt ta) σ H (.int (Float64.isqrt n : Nat)) := ev_cb h fun H1 _ Q q => ⟨(n : Int), rfl, by omega, by omega, q H1 (Ex.refl H1)⟩
theorem ev_len {p : Addr} {xs : List V} {ta : TA} (h : EvA ta σ H [.ref p]) (hx : SqL K H p xs ∨ SqT K H p xs) : Ev (tCB (fun xs H Q => ∃ p ys, xs = [.ref p] ∧ (SqL K H p ys ∨ SqT K H p ys) ∧ Q (.int ys.length) H) ta) σ H (.int xs.length) := fun H1 e Q q =>
  h H1 e _ fun H2 e2 => ⟨p, xs, rfl, hx.elim (fun z => .inl (ex_l (e.trans e2) z)) (fun z => .inr (ex_t (e.trans e2) z)), q H2 e2⟩
end
abbrev s14 : Stmt := topS 14
theorem sc14 : FnScope ["number", "divisor"] ["number"] (defScope s14) := ⟨rfl, rfl, rfl, by decide +kernel, rfl, by decide +kernel, by decide +kernel⟩
def spPrimeNum : Sp := fun vs H Q _ => ∃ n : Nat, vs = [.int (n : Int)] ∧ 2 ≤ n ∧ n ≤ 10000 ∧ ∀ H', Ex H H' → Q (.bl (pr (n : Int))) H'
theorem fk14 (R : Raw K mg "is_prime_number" s14) (T : Bt K mg aE cF cK) : Fk P w K mg base "is_prime_number" 1 ["number"] spPrimeNum := by
  refine R.fk sc14 (fun _ _ _ _ _ _ us hl => match us, hl with | [_], _ => rfl) (fun vs H Q E h => ?_) (fun f cdv A outer s H vs Q E hr h => ?_)
  · obtain ⟨n, rfl, _⟩ := h; rfl
  · obtain ⟨n, rfl, h2, hn, k⟩ := h
    refine ⟨_, (pss_cons (ps_if (pt_cmpR op_lt (pv 0) pe_int (nomark _)) (pss_one (ps_ret (pe_cmpR op_ge (pv 0) pe_int (nomark _)))) pss_nil)
      (pss_cons (ps_if (pt_cmpR op_eq (pe_op op_mod (pv 0) pe_int) pe_int (nomark _)) (pss_one (ps_ret pe_bl)) pss_nil)
      (pss_one (ps_ret (pe_callB (cr_all rfl) (by rfl) T.all (by decide +kernel) (pa_cons (pe_lc (own := [(("divisor" : Str), 1)]) (g := gName 1) rfl sc14.nd (pi_range3 rfl T.range (pa_cons pe_int (pa_cons (pe_op op_add (pe_callBfun call_isqrt rfl T.isqrt (pa_cons (pv 0) pa_nil)) pe_int) (pa_cons pe_int pa_nil)))) (blkOk_by (own := [(("divisor" : Str), 1)]) (N := ["number", "divisor"]) (sc := defScope s14) (by decide +kernel)) (fun _ _ _ _ _ => pg_name (i := 1) sc14.nd rfl (Or.inl rfl)) (fun _ _ _ _ _ => pts_nil) (fun _ _ _ _ _ => (pe_cmpR op_ne (pe_op op_mod (pv 0) (pv 1)) pe_int (nomark _)))) pa_nil)))))), ?_⟩
    refine at_st (σ2 := [some _, none]) rfl ?_
    rw [← prog_prime h2 hn (isqrt_at hn).1 (isqrt_at hn).2] at k
    refine q_when (b := decide ((n : Int) < 4)) (et_test (ev_op (ev_var rfl) ev_c rv_I0)) (fun hb H1 e1 => ?_) (fun hb H1 e1 => ?_)
    · have h4 : n < 4 := by have := of_decide_eq_true hb; omega
      rw [if_pos h4] at k
      exact s_ret (ev_is (ev_op (ev_var rfl) ev_c rv_I0) (by rw [decide_eq_true (show (2 : Int) ≤ n by omega)])) fun H2 e2 => k H2 (e1.trans e2)
    · have h4 : ¬ n < 4 := by have := of_decide_eq_false hb; omega
      rw [if_neg h4] at k
      refine q_when (b := decide ((n : Int) % 2 = 0)) (et_test (ev_op (ev_mod (ev_var rfl) ev_c (by decide)) ev_c rv_eqI)) (fun hb H2 e2 => ?_) (fun hb H2 e2 => ?_)
      · have h5 : n % 2 = 0 := by have := of_decide_eq_true hb; omega
        rw [if_pos h5] at k
        exact s_ret ev_c fun H3 e3 => k H3 ((e1.trans e2).trans e3)
      · have h5 : ¬ n % 2 = 0 := by have := of_decide_eq_false hb; omega
        rw [if_neg h5] at k
        have hq : Float64.isqrt n ≤ 100 := by
          rcases Nat.lt_or_ge 100 (Float64.isqrt n) with z | z
          · have := Nat.mul_le_mul z z
            have := (isqrt_at hn).1
            omega
          · exact z
        refine s_ret (ev_all_lc (f := fun k => !decide ((n : Int) % (3 + (k : Int) * 2) = 0)) (el_lc0 (fun k => V.bl (!decide ((n : Int) % (3 + (k : Int) * 2) = 0)))
          (ei_r3 (ea_cons ev_c (ea_cons (ev_op (ev_isqrt (ea_cons (ev_var rfl) ea_nil) hn) ev_c rv_I0) (ea_cons ev_c ea_nil))) (rg2_at hq)) (by omega) (fun _ => rfl) (fun i x H3 hi e3 y => ?_) (fun _ _ _ _ _ y => y))) fun H3 e3 => k H3 ((e1.trans e2).trans e3)
        subst y
        exact ev_op (ev_mod (ev_var rfl) (ev_var rfl) (by omega)) ev_c rv_neI
abbrev s41 : Stmt := topS 41
theorem sc41 : FnScope ["value"] ["value"] (defScope s41) := ⟨rfl, rfl, rfl, by decide +kernel, rfl, by decide +kernel, by decide +kernel⟩
def spSmallP : Sp := fun vs H Q _ => ∃ v : Int, vs = [.int v] ∧ v.natAbs < 2 ^ 199 ∧ ∀ H', Ex H H' → Q (.bl (pr v)) H'
theorem fk41 (R : Raw K mg "is_small_prime" s41) (T : Bt K mg aE cF cK) (F_is_integer : Fk P w K mg base "is_integer" 2 ["value"] spInteger) (F_is_prime_number : Fk P w K mg base "is_prime_number" 1 ["number"] spPrimeNum) : Fk P w K mg base "is_small_prime" 3 ["value"] spSmallP := by
  refine R.fk sc41 (fun _ _ _ _ _ _ us hl => match us, hl with | [_], _ => rfl) (fun vs H Q E h => ?_) (fun f cdv A outer s H vs Q E hr h => ?_)
  · obtain ⟨v, rfl, _⟩ := h; rfl
  · obtain ⟨v, rfl, hv, k⟩ := h
    refine ⟨_, (pss_one (ps_ret (pe_and (pf F_is_integer (hr.mono (by decide)) rfl (pa_cons (pv 0) pa_nil)) (pe_and (pe_chain op_le op_le pe_int (pv 0) (pe_gi rfl T.MOST_PRIME)) (pe_one (pf F_is_prime_number (hr.mono (by decide)) rfl (pa_cons (pv 0) pa_nil))))))), ?_⟩
    refine at_st (σ2 := [some _]) rfl ?_
    refine s_ret (ev_is (ev_andV (a := true) (b := (decide (2 ≤ v) && decide (v ≤ 10000)) && pr v) (ev_call' (ea_cons (ev_var rfl) ea_nil) fun H1 e1 Q' q' => ⟨.int v, true, rfl, rfl, fun i hi => by cases hi; exact hv, q'⟩)
      fun _ => ev_andV (a := decide (2 ≤ v) && decide (v ≤ 10000)) (b := pr v) (ev_chain (ev_c (v := .int 2)) (ev_var rfl) rv_I0 fun _ => ⟨ev_c, rv_I0⟩) fun hb => ?_) ?_) k
    · simp at hb
      obtain ⟨n, rfl⟩ := Int.eq_ofNat_of_zero_le (show 0 ≤ v by omega)
      exact ev_call' (ea_cons (ev_var rfl) ea_nil) fun H1 e1 Q' q' => ⟨n, rfl, by omega, by omega, q'⟩
    · congr 1
      rcases Int.lt_or_le v 2 with z | z
      · rw [pr_small z]; simp
      · rcases Int.lt_or_le 10000 v with z2 | z2
        · rw [pr_big z2]; simp
        · rw [decide_eq_true z, decide_eq_true z2]; rfl
def prV : V → Bool
  | .int i => pr i
  | _ => false
def spLawPrime : Sp := fun vs H Q _ => ∃ (x : V) (b : Bool), vs = [x] ∧ isI x = some b ∧ (∀ i, x = .int i → (i ≤ 10000 ∨ i % 2 = 0) ∧ i.natAbs < 2 ^ 199) ∧ ∀ H', Ex H H' → Q (.bl (prV x)) H'
abbrev s73 : Stmt := topS 73
theorem sc73 : FnScope ["_law_value_here", "_law_one"] ["_law_value_here"] (defScope s73) := ⟨rfl, rfl, rfl, by decide +kernel, rfl, by decide +kernel, by decide +kernel⟩
theorem fk73 (R : Raw K mg "_law_is_prime" s73) (T : Bt K mg aE cF cK) : Fk P w K mg base "_law_is_prime" 1 ["_law_value_here"] spLawPrime := by
  refine R.fk sc73 (fun _ _ _ _ _ _ us hl => match us, hl with | [_], _ => rfl) (fun vs H Q E h => ?_) (fun f cdv A outer s H vs Q E hr h => ?_)
  · obtain ⟨x, b, rfl, _⟩ := h; rfl
  · obtain ⟨x, b, rfl, hx, hz, k⟩ := h
    refine ⟨_, (pss_cons (ps_if (PW.pt (pw_or (pt_not (pt_val (pe_callB call_isi (by rfl) T.isinstance (by decide +kernel) (pa_cons (pv 0) (pa_cons (pe_bltn (v := .ty "int") rfl T.int (by decide +kernel) rfl) pa_nil))))) (pw_or (pt_val (pe_callB call_isi (by rfl) T.isinstance (by decide +kernel) (pa_cons (pv 0) (pa_cons (pe_bltn (v := .ty "bool") rfl T.bool (by decide +kernel) rfl) pa_nil)))) (pw_or1 (pt_cmpR op_lt (pv 0) pe_int (nomark _)))))) (pss_one (ps_ret pe_bl)) pss_nil)
      (pss_one (ps_ret (pe_and (pe_cmpR op_lt (pv 0) (pe_op op_pow pe_int pe_int) (nomark _)) (pe_one (pe_cmpR (op_eqD hr.units) (pe_lc (own := [(("_law_one" : Str), 1)]) (g := gName 1) rfl sc73.nd (pi_range2 rfl T.range (pa_cons pe_int (pa_cons pe_int pa_nil))) (blkOk_by (own := [(("_law_one" : Str), 1)]) (N := ["_law_value_here", "_law_one"]) (sc := defScope s73) (by decide +kernel)) (fun _ _ _ _ _ => pg_name (i := 1) sc73.nd rfl (Or.inl rfl)) (fun _ _ _ _ _ => pts_one (PW.pt (pw_and (pt_cmpR op_le (pe_op op_mulW (pv 1) (pv 1)) (pv 0) (nomark _)) (pw_and1 (pt_cmpR op_eq (pe_op op_mod (pv 0) (pv 1)) pe_int (nomark _)))))) (fun _ _ _ _ _ => (pv 1))) (pe_lst pa_nil) (nomark _))))))), ?_⟩
    refine at_st (σ2 := [some _, none]) rfl ?_
    cases x with
    | int i =>
      obtain ⟨hz, hsz⟩ := hz i rfl
      refine q_when (b := decide (i < 2)) (et_is (et_or (a := !true) (et_not (et_B (ev_isi (ea_cons (ev_var rfl) (ea_cons ev_c ea_nil)) (fun _ _ => tyx_int i) (by decide +kernel))))
        fun _ => et_or (a := false) (et_B (ev_isi (ea_cons (ev_var rfl) (ea_cons ev_c ea_nil)) (fun _ _ => tyx_int i) (by decide +kernel))) fun _ => et_test (ev_op (ev_var rfl) ev_c rv_I0)) (by rfl)) (fun hb H1 e1 => ?_) (fun hb H1 e1 => ?_)
      · have hb := of_decide_eq_true hb
        exact s_ret (ev_is ev_c (by show V.bl false = V.bl (pr i); rw [pr_small hb])) fun H2 e2 => k H2 (e1.trans e2)
      · have hb := of_decide_eq_false hb
        have hl := law_prime (v := i) (by omega) hz
        have k : ∀ H', Ex H H' → Q (.bl (pr i)) H' := k
        rw [← hl] at k
        have hw : EvI (tVar 0) [some (.int i), none] H1 i 199 := evi_var rfl hsz
        refine s_ret (ev_is (ev_andV (a := decide (i < 100000)) (ev_op (ev_var rfl) (ev_op ev_c ev_c (rv_I (C := CPow) (g := fun i j => .int (i ^ j.toNat)) (i := 10) (j := 5) (by unfold CPow; decide))) rv_I0) fun _ =>
          ev_eqD (K := K) (d := .list _) (e := .list []) (er_lcD (fun (j : Nat) => decide ((2 + (j : Int)) * (2 + (j : Int)) ≤ i) && decide (i % (2 + (j : Int)) = 0)) (fun j => .int (2 + (j : Int))) (ei_r2 (l := 2) (m := 320) (ea_cons ev_c (ea_cons ev_c ea_nil)) (by decide) (by decide) (by decide)) (by decide) (fun _ => rfl) (fun _ => rfl)
            (fun j x H2 hj e2 y => ?_) (fun j x H2 hj e2 y _ => ?_) (fun _ _ _ _ _ y => y)) (er_dlst .nil (by decide)) (shaped_list fun d hd => ?_) rfl) ?_) fun H2 e2 => k H2 (e1.trans e2)
        · subst y
          have hj' : j < 318 := hj
          have e0 : EvI (tVar 1) ([some (.int i), some (.int (2 + (j : Int)))] : L2.St) H2 (2 + (j : Int)) 20 := evi_var rfl (by omega)
          exact et_and (et_test (ev_op (evi_mul e0 e0).ev (ev_var rfl) rv_I0)) fun _ => et_test (ev_op (ev_mod (ev_var rfl) (ev_var rfl) (by omega)) ev_c rv_eqI)
        · subst y
          exact er_dint (ev_var rfl)
        · obtain ⟨j, _, rfl⟩ := List.mem_map.mp hd
          exact ⟨rfl, Nat.zero_le _⟩
        · rw [eqv_nil]
          show V.bl (decide (i < 100000) && _) = V.bl (decide (i < 100000) && _)
          congr 2
          rw [Bool.eq_iff_iff]
          simp only [List.isEmpty_iff, List.map_eq_nil_iff]
          exact Iff.rfl
    | bl i =>
      exact q_when (b := true) (et_is (et_or (a := !true) (et_not (et_B (ev_isi (ea_cons (ev_var rfl) (ea_cons ev_c ea_nil)) (fun _ _ => tyx_bl i) (by decide +kernel))))
        fun _ => et_or (a := true) (b := true) (et_B (ev_isi (ea_cons (ev_var rfl) (ea_cons ev_c ea_nil)) (fun _ _ => tyx_bl i) (by decide +kernel))) fun z => by cases z) (by rfl)) (fun hb H1 e1 => s_ret ev_c fun H2 e2 => k H2 (e1.trans e2)) (fun hb => by cases hb)
    | str i =>
      exact q_when (b := true) (et_is (et_or (a := !false) (b := true) (et_not (et_B (ev_isi (ea_cons (ev_var rfl) (ea_cons ev_c ea_nil)) (fun _ _ => tyx_str i) (by decide +kernel)))) fun z => by cases z) (by rfl))
        (fun hb H1 e1 => s_ret ev_c fun H2 e2 => k H2 (e1.trans e2)) (fun hb => by cases hb)
    | non => cases hx
    | byt _ => cases hx
    | flt _ => cases hx
    | ref _ => cases hx
    | ty _ => cases hx
abbrev s46 : Stmt := topS 46
theorem sc46 : FnScope ["numbers", "prime", "number"] ["numbers", "prime"] (defScope s46) := ⟨rfl, rfl, rfl, by decide +kernel, rfl, by decide +kernel, by decide +kernel⟩
def spDivided (K : PySem.W.Frag) : Sp := fun vs H Q _ => ∃ (v : V) (a b c d p : Int), vs = [v, .int p] ∧ Rw K H v [a, b, c, d] ∧ 0 < p ∧ ∀ H', Ex H H' → Q (.bl (divB a b c d p)) H'
theorem fk46 (R : Raw K mg "is_divided" s46) (T : Bt K mg aE cF cK) : Fk P w K mg base "is_divided" 1 ["numbers", "prime"] (spDivided K) := by
  refine R.fk sc46 (fun _ _ _ _ _ _ us hl => match us, hl with | [_, _], _ => rfl) (fun vs H Q E h => ?_) (fun f cdv A outer s H vs Q E hr h => ?_)
  · obtain ⟨v, a, b, c, d, p, rfl, _⟩ := h; rfl
  · obtain ⟨v, a, b, c, d, p, rfl, hv, hp, k⟩ := h
    refine ⟨_, (pss_one (ps_ret (pe_callB (cr_all rfl) (by rfl) T.all (by decide +kernel) (pa_cons (pe_lc (own := [(("number" : Str), 2)]) (g := gName 2) rfl sc46.nd (pi_tup (pv 0)) (blkOk_by (own := [(("number" : Str), 2)]) (N := ["numbers", "prime", "number"]) (sc := defScope s46) (by decide +kernel)) (fun _ _ _ _ _ => pg_name (i := 2) sc46.nd rfl (Or.inl rfl)) (fun _ _ _ _ _ => pts_nil) (fun _ _ _ _ _ => (pe_cmpR op_eq (pe_op op_mod (pv 2) (pv 1)) pe_int (nomark _)))) pa_nil)))), ?_⟩
    refine at_st (σ2 := [some _, some _, none]) rfl ?_
    obtain ⟨z, rfl, hz⟩ := rw_at hv
    refine s_ret (ev_is (ev_all_lc (n := 4) (f := fun i => decide (([a, b, c, d].getD i 0) % p = 0)) (el_lc0 (fun i => V.bl (decide (([a, b, c, d].getD i 0) % p = 0))) (ei_tup (ev_var rfl) hz) (by simp) (fun _ => rfl) (fun i x H1 hi e1 y => ?_) (fun _ _ _ _ _ y => y))) ?_) k
    · rw [List.getElem?_map] at y
      obtain ⟨u, hu, rfl⟩ := Option.map_eq_some_iff.mp y
      have e2 : [a, b, c, d].getD i 0 = u := by rw [List.getD_eq_getElem?_getD, hu]; rfl
      rw [e2]
      exact ev_op (ev_mod (ev_var rfl) (ev_var rfl) hp) ev_c rv_eqI
    · congr 1
      unfold divB
      simp [List.range_succ, List.range_zero, Bool.and_assoc]
abbrev s45 : Stmt := topS 45
theorem sc45 : FnScope ["numbers", "prime", "place"] ["numbers", "prime", "place"] (defScope s45) := ⟨rfl, rfl, rfl, by decide +kernel, rfl, by decide +kernel, by decide +kernel⟩
def spHeavy (K : PySem.W.Frag) : Sp := fun vs H Q _ => ∃ (v u : V) (a b c d p x y : Int), vs = [v, .int p, u] ∧ Rw K H v [a, b, c, d] ∧ RowZ 400 a b c d ∧ 0 < p ∧ p.natAbs < 2 ^ 100 ∧ Rw K H u [x, y] ∧ x.natAbs < 2 ^ 100 ∧ y.natAbs < 2 ^ 100 ∧
  ∀ H', Ex H H' → Q (.bl (hvB a b c d p x y)) H'
theorem eqv_end {x y : Int} : PyData.eqv (.tuple [.int x, .int y]) (.tuple [.int 1, .int 0]) = decide (x = 1 ∧ y = 0) := by
  rw [Bool.eq_iff_iff]
  simp [PyData.eqv, PyData.eqvAll]
theorem dp_end (T : Bt K mg aE cF cK) (H : Hp) : Dp K H (.ref aE) (.tuple [.int 1, .int 0]) := rw_mk (ns := [1, 0]) (T.atE H)
theorem fk45 (R : Raw K mg "is_heavy" s45) (T : Bt K mg aE cF cK) (F_form_at : Fk P w K mg base "form_at" 1 ["numbers", "x", "y"] (spFormAt K)) (F_slope_at : Fk P w K mg base "slope_at" 1 ["numbers", "x"] (spSlope K)) : Fk P w K mg base "is_heavy" 2 ["numbers", "prime", "place"] (spHeavy K) := by
  refine R.fk sc45 (fun _ _ _ _ _ _ us hl => match us, hl with | [_, _, _], _ => rfl) (fun vs H Q E h => ?_) (fun f cdv A outer s H vs Q E hr h => ?_)
  · obtain ⟨v, u, a, b, c, d, p, x, y, rfl, _⟩ := h; rfl
  · obtain ⟨v, u, a, b, c, d, p, x, y, rfl, hv, hz, hp, hpz, hu, hx, hy, k⟩ := h
    refine ⟨_, (pss_cons (ps_if (pt_cmpR op_ne (pe_op op_mod (pf F_form_at (hr.mono (by decide)) rfl (pa_cons (pv 0) (pa_cons (pe_ix ix_tup (pv 2) pe_int (fun _ _ => rfl)) (pa_cons (pe_ix ix_tup (pv 2) pe_int (fun _ _ => rfl)) pa_nil)))) (pe_op op_mulW (pv 1) (pv 1))) pe_int (nomark _)) (pss_one (ps_ret pe_bl)) pss_nil)
      (pss_one (ps_ret (pe_cmpR op_eq (pe_op op_mod (pe_ifExp (pt_cmpR (op_eqD hr.units) (pv 2) (pe_gr rfl T.END) (nomark _)) (pe_ix ix_tup (pv 0) pe_int (fun _ _ => rfl)) (pf F_slope_at (hr.mono (by decide)) rfl (pa_cons (pv 0) (pa_cons (pe_ix ix_tup (pv 2) pe_int (fun _ _ => rfl)) pa_nil)))) (pv 1)) pe_int (nomark _))))), ?_⟩
    refine at_st (σ2 := [some _, some _, some _]) rfl ?_
    obtain ⟨z, rfl, hzv⟩ := rw_at hv
    obtain ⟨z2, rfl, hzu⟩ := rw_at hu
    have ep : ∀ H1, EvI (tVar 1) ([some (.ref z), some (.int p), some (.ref z2)] : L2.St) H1 p 100 := fun H1 => evi_var rfl hpz
    refine q_when (b := !decide (val a b c d x y % (p * p) = 0)) (et_test (ev_op (ev_mod (ev_call' (ea_cons (ev_var rfl) (ea_cons (ev_ixt (i := 0) (ev_var rfl) ev_c hzu rfl) (ea_cons (ev_ixt (i := 1) (ev_var rfl) ev_c hzu rfl) ea_nil)))
      fun H1 e1 Q' q' => ⟨_, a, b, c, d, x, y, rfl, rw_ex e1 hv, hz, hx, hy, q'⟩) (evi_mul (ep H) (ep H)).ev (Int.mul_pos hp hp)) ev_c rv_neI)) (fun hb H1 e1 => ?_) (fun hb H1 e1 => ?_)
    · have h0 : ¬ val a b c d x y % (p * p) = 0 := by simpa using hb
      exact s_ret (ev_is ev_c (by unfold hvB; rw [decide_eq_false h0]; rfl)) fun H2 e2 => k H2 (e1.trans e2)
    · have h0 : val a b c d x y % (p * p) = 0 := by simpa using hb
      refine s_ret (ev_is (ev_op (ev_mod (i := if x = 1 ∧ y = 0 then b else slo a b c x) (ev_if (et_test (ev_eqD (K := K) (er_dvar rfl (dp_ex e1 _ _ hu)) (er_c fun H2 e2 => dp_end T H2) rfl rfl)) (fun hc => ?_) (fun hc => ?_)) (ev_var rfl) hp) ev_c rv_eqI) ?_) fun H2 e2 => k H2 (e1.trans e2)
      · have hc := eqv_end.symm.trans hc
        rw [if_pos (of_decide_eq_true hc)]
        exact ev_ixt (i := 1) (ev_var rfl) ev_c (ex_t e1 hzv) rfl
      · have hc := eqv_end.symm.trans hc
        rw [if_neg (of_decide_eq_false hc)]
        exact ev_call' (ea_cons (ev_var rfl) (ea_cons (ev_ixt (i := 0) (ev_var rfl) ev_c (ex_t e1 hzu) rfl) ea_nil)) fun H2 e2 Q' q' => ⟨_, a, b, c, d, x, rfl, rw_ex (e1.trans e2) hv, hz, hx, q'⟩
      · unfold hvB; rw [decide_eq_true h0]; rfl
end
end Z
namespace Z
open PySem PySem.Spec PyProof.Rows L2 Evl Zm SlX
local macro_rules | `(tactic| walk_at "zi") => `(tactic| (repeat' first | exact evi_c | exact evi_var rfl (by with_reducible assumption) | apply evi_add | apply evi_sub | apply evi_mul); all_goals (show _ ≤ 1000000; decide))
local macro_rules | `(tactic| walk_at "zn") => `(tactic| dsimp only [List.set_cons_zero, List.set_cons_succ])
section
variable {P : Program} {w : World} {K : PySem.W.Frag} {mg : Str → Option Value} {base : Heap}
variable {aE cF cK : Addr}
/-! Zf: lists as data, sorted pairs: places; is_place; the law's is_heavy -/
section
variable {σ : L2.St} {H H' : Hp} {ta tb te tl : TE} {t : TT} {n : Nat} {D : Ends} {tz : TS}
/-- a list of the program's own, its items as data -/
def LtD (K : PySem.W.Frag) (H : Hp) (v : V) (ds : List PyData) : Prop := ∃ p xs, v = .ref p ∧ H p = some (.lst xs) ∧ DpAll K H xs ds
theorem LtD.dp {v : V} {ds : List PyData} (h : LtD K H v ds) : Dp K H v (.list ds) := by
  obtain ⟨p, xs, rfl, h1, h2⟩ := h
  exact .lst (SqL.of h1) h2
theorem ltd_ex (e : Ex H H') {v : V} {ds : List PyData} (h : LtD K H v ds) : LtD K H' v ds := by
  obtain ⟨p, xs, rfl, h1, h2⟩ := h
  exact ⟨p, xs, rfl, e _ _ h1, dpa_ex e _ _ h2⟩
theorem er_dp {ds : List PyData} (h : Er te σ H (fun v H' => LtD K H' v ds)) : Er te σ H (fun v H' => Dp K H' v (.list ds)) := h.imp fun _ _ z => z.dp
theorem er_lcL {wi : TI} {tt : TT} {j : Nat} {vs : List Nat} {Y : Nat → V → Hp → Prop} (b : Nat → Bool) (D : Nat → PyData) (h : Ei wi σ H (fun J H1 => Wk J n H1 Y)) (hn : n ≤ 100000) (hw : ∀ x, wipe ((wipe σ vs).set j (some x)) vs = wipe σ vs)
    (hD : ∀ i, noL (D i) = true) (ht : ∀ i x H1, i < n → Ex H H1 → Y i x H1 → EvT tt ((wipe σ vs).set j (some x)) H1 (b i)) (he : ∀ i x H1, i < n → Ex H H1 → Y i x H1 → b i = true → Er te ((wipe σ vs).set j (some x)) H1 (fun v H' => Dp K H' v (D i)))
    (hY : ∀ i x H1 H2, Ex H1 H2 → Y i x H1 → Y i x H2) :
    Er (tLc wi (gName j) tt te vs) σ H (fun v H' => LtD K H' v (((List.range n).filter b).map D)) :=
  (er_lc b (fun i v H' => Dp K H' v (D i)) h hn hw (fun i x H1 H2 e d => dp_exl e _ _ (hD i) d) ht he hY).imp fun v H' ⟨p, xs, e1, e2, e3, e4⟩ => by
    subst e1
    refine ⟨p, xs, rfl, e2, dpa_mk (by rw [e3, List.length_map]) fun k x hk => ?_⟩
    obtain ⟨i, h1, h2⟩ := e4 k x hk
    exact ⟨D i, by rw [List.getElem?_map, h1]; rfl, h2⟩
theorem er_lcL0 {wi : TI} {j : Nat} {vs : List Nat} {Y : Nat → V → Hp → Prop} (D : Nat → PyData) (h : Ei wi σ H (fun J H1 => Wk J n H1 Y)) (hn : n ≤ 100000) (hw : ∀ x, wipe ((wipe σ vs).set j (some x)) vs = wipe σ vs)
    (hD : ∀ i, noL (D i) = true) (he : ∀ i x H1, i < n → Ex H H1 → Y i x H1 → Er te ((wipe σ vs).set j (some x)) H1 (fun v H' => Dp K H' v (D i)))
    (hY : ∀ i x H1 H2, Ex H1 H2 → Y i x H1 → Y i x H2) :
    Er (tLc wi (gName j) tYes te vs) σ H (fun v H' => LtD K H' v ((List.range n).map D)) :=
  (er_lcL (fun _ => true) D h hn hw hD (fun _ _ _ _ _ _ => et_yes) (fun i x H1 hi e y _ => he i x H1 hi e y) hY).imp fun v H' d => by
    rw [List.filter_eq_self.mpr (fun _ _ => rfl)] at d
    exact d
theorem er_lstL {ta : TA} {ds : List PyData} (h : Ea ta σ H (fun vs H' => DpAll K H' vs ds)) (hz : ds.length ≤ 200000) : Er (tLst ta) σ H (fun v H' => LtD K H' v ds) := fun H1 e Q q =>
  h H1 e _ fun vs H2 e2 rs => ⟨Nat.le_trans (by rw [dpa_len rs]; exact hz) (show 200000 ≤ sizeLine by decide), fun p hp => q _ _ (e2.trans (Ex.new hp)) ⟨p, vs, rfl, upd_same, dpa_ex (Ex.new hp) _ _ rs⟩⟩
/-- a, *l -/
theorem ea_star {d : PyData} {ds : List PyData} (h1 : Er ta σ H (fun v H' => Dp K H' v d)) (h2 : Er tl σ H (fun v H' => Dp K H' v (.list ds))) : Ea (tCons ta (StX.tStar K tl tNil)) σ H (fun vs H' => DpAll K H' vs (d :: ds)) := fun H1 e Q q =>
  h1 H1 e _ fun v H2 e2 r1 => h2 H2 (e.trans e2) _ fun u H3 e3 r2 => by
    obtain ⟨p, xs, rfl, hx, hd⟩ := dp_lst r2
    exact ⟨p, xs, rfl, .inr hx, q _ H3 (e2.trans e3) (.cons (dp_ex e3 _ _ r1) (by rw [List.append_nil]; exact hd))⟩
theorem er_cat {ds es : List PyData} (h1 : Er ta σ H (fun v H' => LtD K H' v ds)) (h2 : Er tb σ H (fun v H' => LtD K H' v es)) (hz : ds.length + es.length ≤ 1000000) : Er (tOp rCat ta tb) σ H (fun v H' => LtD K H' v (ds ++ es)) := fun H1 e Q q =>
  h1 H1 e _ fun v H2 e2 r1 => h2 H2 (e.trans e2) _ fun u H3 e3 r2 => by
    obtain ⟨p, xs, rfl, hx, hd⟩ := ltd_ex e3 r1
    obtain ⟨p2, ys, rfl, hy, hd2⟩ := r2
    exact ⟨p, p2, xs, ys, rfl, rfl, hx, hy, Nat.le_trans (by rw [dpa_len hd, dpa_len hd2]; exact hz) (show 1000000 ≤ sizeLine by decide), fun q1 hq1 => q _ _ ((e2.trans e3).trans (Ex.new hq1))
      ⟨q1, xs ++ ys, rfl, upd_same, dpa_app (dpa_ex (Ex.new hq1) _ _ hd) (dpa_ex (Ex.new hq1) _ _ hd2)⟩⟩
end
/-! sorted of pairs, wherever they stand -/
def rSortQ (K : PySem.W.Frag) : List V → Hp → VK → Prop := fun vs H Q => ∃ (a : Addr) (xs : List V), vs = [V.ref a] ∧ SqL K H a xs ∧ ((∀ t us ws, SqT K H t us → SqT K H t ws → us = ws) →
  ∃ k : V → Int × Int, (∀ x ∈ xs, ∃ t, x = V.ref t ∧ SqT K H t [.int (k x).1, .int (k x).2]) ∧ ∀ ys p, SrtO.Srtd (ltP k) ys → SrtO.Stb (ltP k) ys xs → H p = none → Q (.ref p) (upd H p (.lst ys)))
theorem cr_sortQ {X : Cx} : CallR X (.builtin "sorted") (rSortQ X.K) := by
  intro pins st σ H vs us Q Iv r h
  obtain ⟨a, xs, rfl, hs, h⟩ := h
  obtain ⟨k, hx, q⟩ := h fun t us ws h1 h2 => Iv.tuple_inj h1 h2
  obtain ⟨itm, rvv, hli, hzz⟩ := Iv.list hs
  obtain ⟨uu, rfl, ruu⟩ := vals1 r
  obtain rfl : uu = Value.ref a := ruu
  obtain ⟨e1, e2⟩ := refs_back rvv fun x m => by
    obtain ⟨t, e, _⟩ := hx x m
    exact ⟨t, e⟩
  refine SrtO.sorted_pairsO (k := fun uu => k (backV uu)) hli.isList (by rw [← rvv.length]; exact hzz) (fun v hv => ?_) fun h' dd out h1 h2 kpp hd hn => ?_
  · obtain ⟨t, rfl⟩ := e2 v hv
    have gm : V.ref t ∈ xs := by rw [e1]; exact List.mem_map.mpr ⟨_, hv, rfl⟩
    obtain ⟨t', e, ht⟩ := hx _ gm
    cases e
    obtain ⟨its2, r2, ⟨o, hoo, hc, n, hd⟩, _⟩ := Iv.tuple ht
    obtain ⟨u1, u2, rfl, rii, rjj⟩ := vals2 r2
    obtain ⟨t1, rfl⟩ := rii
    obtain ⟨t2, rfl⟩ := rjj
    exact ⟨t, o, t1, t2, n, rfl, hoo, hc, hd⟩
  · have g3 : ∀ uu ∈ out, ∃ a, uu = Value.ref a := fun uu hu => e2 uu (h2.perm.mem_iff.mp hu)
    obtain ⟨n, hn⟩ := hn
    have gb : SrtO.Stb (ltP k) (out.map backV) xs := by
      rw [e1]
      exact SrtO.Stb.map (ltP_swo k) backV h2
    refine ⟨.ref dd, upd H dd (.lst (out.map backV)), Iv.laid (t' := st.toks) kpp hd ⟨?_, out, n, vals_back g3, hn⟩, rfl, q _ dd (SrtO.srtd_map h1) gb (Iv.hok.fresh hd)⟩
    rw [gb.len]
    exact hzz
def pairD (u : Int × Int) : PyData := .tuple [.int u.1, .int u.2]
theorem dpa_pairs {H : Hp} : ∀ {xs : List V} {L : List (Int × Int)}, DpAll K H xs (L.map pairD) → xs.length = L.length ∧ ∀ (i : Nat) x, xs[i]? = some x → ∃ u, L[i]? = some u ∧ ∃ t, x = .ref t ∧ SqT K H t [.int u.1, .int u.2] := by
  intro xs L h
  refine ⟨by rw [dpa_len h, List.length_map], fun i x hx => ?_⟩
  obtain ⟨d, h1, h2⟩ := dpa_get h hx
  rw [List.getElem?_map] at h1
  obtain ⟨u, hu, rfl⟩ := Option.map_eq_some_iff.mp h1
  obtain ⟨t, e, ht⟩ := rw_at (ns := [u.1, u.2]) h2
  exact ⟨u, hu, t, e, ht⟩
open Classical in
theorem er_sorted {σ : L2.St} {H : Hp} {ta : TE} {L : List (Int × Int)} {n : Nat} (h : Er ta σ H (fun v H' => Dp K H' v (.list (L.map pairD)))) (hp : L.Perm (plc n)) : Er (tCB (rSortQ K) (tCons ta tNil)) σ H (fun v H' => LtD K H' v ((plc n).map pairD)) := fun H1 e Q q =>
  h H1 e _ fun v H2 e2 r => by
    obtain ⟨a, xs, rfl, hx, hd⟩ := dp_lst r
    obtain ⟨hlen, hall⟩ := dpa_pairs hd
    refine ⟨a, xs, rfl, hx, fun inj => ?_⟩
    refine ⟨fun x => if h : ∃ u : Int × Int, ∃ t, x = V.ref t ∧ SqT K H2 t [.int u.1, .int u.2] then Classical.choose h else (0, 0), fun x hm => ?_, fun ys p hs hst hpn => ?_⟩
    · obtain ⟨i, hi, ei⟩ := List.getElem_of_mem hm
      obtain ⟨u, _, t, rfl, ht⟩ := hall i x (by rw [List.getElem?_eq_getElem hi, ei])
      have hh : ∃ u : Int × Int, ∃ t', V.ref t = V.ref t' ∧ SqT K H2 t' [.int u.1, .int u.2] := ⟨u, t, rfl, ht⟩
      dsimp only
      rw [dif_pos hh]
      obtain ⟨t2, e3, h4⟩ := Classical.choose_spec hh
      cases e3
      exact ⟨t, rfl, h4⟩
    · generalize hk : (fun x => if h : ∃ u : Int × Int, ∃ t, x = V.ref t ∧ SqT K H2 t [.int u.1, .int u.2] then Classical.choose h else (0, 0)) = k at hs hst
      have kat : ∀ (i : Nat) x, xs[i]? = some x → L[i]? = some (k x) ∧ ∃ t, x = .ref t ∧ SqT K H2 t [.int (k x).1, .int (k x).2] := fun i x hix => by
        obtain ⟨u, hu, t, rfl, ht⟩ := hall i x hix
        have hh : ∃ u : Int × Int, ∃ t', V.ref t = V.ref t' ∧ SqT K H2 t' [.int u.1, .int u.2] := ⟨u, t, rfl, ht⟩
        have ek : k (.ref t) = Classical.choose hh := by rw [← hk]; exact dif_pos hh
        obtain ⟨t2, e3, h4⟩ := Classical.choose_spec hh
        cases e3
        have := inj _ _ _ ht h4
        have e5 : u = Classical.choose hh := by
          injection this with a1 a2
          injection a2 with a2 _
          exact Prod.ext (V.int.inj a1) (V.int.inj a2)
        rw [ek, ← e5]
        exact ⟨hu, t, rfl, ht⟩
      have emap : xs.map k = L := List.ext_getElem? fun i => by
        rw [List.getElem?_map]
        by_cases hi : i < xs.length
        · have hx1 : xs[i]? = some xs[i] := List.getElem?_eq_getElem hi
          rw [hx1, (kat i _ hx1).1]; rfl
        · rw [List.getElem?_eq_none (by omega), List.getElem?_eq_none (by omega)]; rfl
      have hperm : (ys.map k).Perm (plc n) := by
        have := hst.perm.map k
        rw [emap] at this
        exact this.trans hp
      have hsort : (ys.map k).Pairwise lexL := by
        refine List.pairwise_map.mpr (List.Pairwise.imp ?_ hs)
        intro x y hxy
        have := SrtO.lexB_no.mp hxy
        unfold lexL
        omega
      have eys : ys.map k = plc n := plc_uniq hsort hperm
      refine q _ _ (e2.trans (Ex.new hpn)) ⟨p, ys, rfl, upd_same, dpa_mk (by rw [← eys, List.length_map, List.length_map]) fun i y hy => ?_⟩
      have hm : y ∈ xs := hst.perm.mem_iff.mp (List.mem_of_getElem? hy)
      obtain ⟨j, hj, ej⟩ := List.getElem_of_mem hm
      obtain ⟨_, t, rfl, ht⟩ := kat j y (by rw [List.getElem?_eq_getElem hj, ej])
      refine ⟨pairD (k (.ref t)), by rw [← eys, List.map_map, List.getElem?_map, hy]; rfl, ?_⟩
      exact dp_ex (Ex.new hpn) _ _ (rw_mk (ns := [(k (.ref t)).1, (k (.ref t)).2]) ht)
/-! ### places -/
def spPlaces (K : PySem.W.Frag) : Sp := fun vs H Q _ => ∃ p : Nat, vs = [.int (p : Int)] ∧ 1 ≤ p ∧ p ≤ 10000 ∧ ∀ v H', Ex H H' → LtD K H' v ((plc p).map pairD) → Q v H'
abbrev s42 : Stmt := topS 42
theorem sc42 : FnScope ["prime", "x"] ["prime"] (defScope s42) := ⟨rfl, rfl, rfl, by decide +kernel, rfl, by decide +kernel, by decide +kernel⟩
theorem fk42 (R : Raw K mg "places_at" s42) (T : Bt K mg aE cF cK) : Fk P w K mg base "places_at" 1 ["prime"] (spPlaces K) := by
  refine R.fk sc42 (fun _ _ _ _ _ _ us hl => match us, hl with | [_], _ => rfl) (fun vs H Q E h => ?_) (fun f cdv A outer s H vs Q E hr h => ?_)
  · obtain ⟨p, rfl, _⟩ := h; rfl
  · obtain ⟨p, rfl, h1, hp, k⟩ := h
    refine ⟨_, (pss_one (ps_ret (pe_callB cr_sortQ (by rfl) T.sorted (by decide +kernel) (pa_cons (pe_lst (pa_cons (pe_gr rfl T.END) (StX.pa_star (pe_lc (own := [(("x" : Str), 1)]) (g := gName 1) rfl sc42.nd (pi_range1 rfl T.range (pa_cons (pv 0) pa_nil)) (blkOk_by (own := [(("x" : Str), 1)]) (N := ["prime", "x"]) (sc := defScope s42) (by decide +kernel)) (fun _ _ _ _ _ => pg_name (i := 1) sc42.nd rfl (Or.inl rfl)) (fun _ _ _ _ _ => pts_nil) (fun _ _ _ _ _ => (pe_tup (pa_cons (pv 1) (pa_cons pe_int pa_nil))))) pa_nil))) pa_nil)))), ?_⟩
    refine at_st (σ2 := [some _, none]) rfl ?_
    have e0 : ((1, 0) :: (List.range p).map fun (i : Nat) => ((i : Int), (1 : Int))).map pairD = .tuple [.int 1, .int 0] :: ((List.range p).map fun (i : Nat) => PyData.tuple [.int (i : Int), .int 1]) := by
      rw [List.map_cons, List.map_map]; rfl
    refine s_retR (er_sorted (K := K) (L := (1, 0) :: (List.range p).map fun (i : Nat) => ((i : Int), (1 : Int))) ?_ (plc_perm' h1)) fun v H1 e1 hv => k v H1 e1 hv
    rw [e0]
    refine er_dp (er_lstL (ea_star (er_c fun H1 e1 => dp_end T H1) (er_dp (er_lcL0 (n := p) (Y := fun i x _ => x = V.int (i : Int)) (fun i => .tuple [.int (i : Int), .int 1]) (ei_r1 (m := (p : Int)) (ea_cons (ev_var rfl) ea_nil) (by omega) (by omega)) (by omega) (fun _ => rfl) (fun _ => rfl) (fun i x H1 hi e1 y => ?_) (fun _ _ _ _ _ y => y)))) (by simp; omega))
    subst y
    exact er_dtup (.cons (er_dint (ev_var rfl)) (.cons (er_dint ev_c) .nil)) (by simp)
abbrev s65 : Stmt := topS 65
theorem sc65 : FnScope ["_law_prime", "_law_x"] ["_law_prime"] (defScope s65) := ⟨rfl, rfl, rfl, by decide +kernel, rfl, by decide +kernel, by decide +kernel⟩
theorem fk65 (R : Raw K mg "_law_places" s65) (T : Bt K mg aE cF cK) : Fk P w K mg base "_law_places" 1 ["_law_prime"] (spPlaces K) := by
  refine R.fk sc65 (fun _ _ _ _ _ _ us hl => match us, hl with | [_], _ => rfl) (fun vs H Q E h => ?_) (fun f cdv A outer s H vs Q E hr h => ?_)
  · obtain ⟨p, rfl, _⟩ := h; rfl
  · obtain ⟨p, rfl, h1, hp, k⟩ := h
    refine ⟨_, (pss_one (ps_ret (pe_callB cr_sortQ (by rfl) T.sorted (by decide +kernel) (pa_cons (pe_op op_cat (pe_lc (own := [(("_law_x" : Str), 1)]) (g := gName 1) rfl sc65.nd (pi_range1 rfl T.range (pa_cons (pv 0) pa_nil)) (blkOk_by (own := [(("_law_x" : Str), 1)]) (N := ["_law_prime", "_law_x"]) (sc := defScope s65) (by decide +kernel)) (fun _ _ _ _ _ => pg_name (i := 1) sc65.nd rfl (Or.inl rfl)) (fun _ _ _ _ _ => pts_nil) (fun _ _ _ _ _ => (pe_tup (pa_cons (pv 1) (pa_cons pe_int pa_nil))))) (pe_lst (pa_cons (pe_tup (pa_cons pe_int (pa_cons pe_int pa_nil))) pa_nil))) pa_nil)))), ?_⟩
    refine at_st (σ2 := [some _, none]) rfl ?_
    have e0 : (((List.range p).map fun (i : Nat) => ((i : Int), (1 : Int))) ++ [(1, 0)]).map pairD = ((List.range p).map fun (i : Nat) => PyData.tuple [.int (i : Int), .int 1]) ++ [.tuple [.int 1, .int 0]] := by
      rw [List.map_append, List.map_map]; rfl
    refine s_retR (er_sorted (K := K) (L := ((List.range p).map fun (i : Nat) => ((i : Int), (1 : Int))) ++ [(1, 0)]) ?_ (plc_perm h1)) fun v H1 e1 hv => k v H1 e1 hv
    rw [e0]
    refine er_dp (er_cat (er_lcL0 (n := p) (Y := fun i x _ => x = V.int (i : Int)) (fun i => .tuple [.int (i : Int), .int 1]) (ei_r1 (m := (p : Int)) (ea_cons (ev_var rfl) ea_nil) (by omega) (by omega)) (by omega) (fun _ => rfl) (fun _ => rfl) (fun i x H1 hi e1 y => ?_) (fun _ _ _ _ _ y => y))
      (er_lstL (EaD.ea (.cons (er_dtup (.cons (er_dint ev_c) (.cons (er_dint ev_c) .nil)) (by simp)) .nil)) (by simp)) (by simp; omega))
    subst y
    exact er_dtup (.cons (er_dint (ev_var rfl)) (.cons (er_dint ev_c) .nil)) (by simp)
/-! ### is_place -/
inductive OkPl : PyData → Prop
  | pair (x y : Int) (hx : x.natAbs < 2 ^ 100) (hy : y.natAbs < 2 ^ 100) : OkPl (.tuple [.int x, .int y])
  | pb (x : Int) (b : Bool) (hx : x.natAbs < 2 ^ 100) : OkPl (.tuple [.int x, .bool b])
  | lst (ds : List PyData) : OkPl (.list ds)
  | int (i : Int) : OkPl (.int i)
def plB (p : Int) : PyData → Bool
  | .tuple [.int x, .int y] => decide (x = 1 ∧ y = 0) || (decide (y = 1) && (decide (0 ≤ x) && decide (x < p)))
  | _ => false
def spIsPlace (K : PySem.W.Frag) : Sp := fun vs H Q _ => ∃ (p : Int) (u : V) (d : PyData), vs = [.int p, u] ∧ Dp K H u d ∧ OkPl d ∧ ∀ H', Ex H H' → Q (.bl (plB p d)) H'
theorem lt199 {x : Int} (h : x.natAbs < 2 ^ 100) : x.natAbs < 2 ^ 199 := Nat.lt_of_lt_of_le h (Nat.pow_le_pow_right (by decide) (by decide))
abbrev s43 : Stmt := topS 43
theorem sc43 : FnScope ["prime", "value", "entry"] ["prime", "value"] (defScope s43) := ⟨rfl, rfl, rfl, by decide +kernel, rfl, by decide +kernel, by decide +kernel⟩
theorem fk43 (R : Raw K mg "is_place" s43) (T : Bt K mg aE cF cK) (F_is_integer : Fk P w K mg base "is_integer" 2 ["value"] spInteger) : Fk P w K mg base "is_place" 3 ["prime", "value"] (spIsPlace K) := by
  refine R.fk sc43 (fun _ _ _ _ _ _ us hl => match us, hl with | [_, _], _ => rfl) (fun vs H Q E h => ?_) (fun f cdv A outer s H vs Q E hr h => ?_)
  · obtain ⟨p, u, d, rfl, _⟩ := h; rfl
  · obtain ⟨p, u, d, rfl, hu, hd, k⟩ := h
    refine ⟨_, (pss_cons (ps_if (PW.pt (pw_or (pt_not (pt_val (pe_callB call_isi (by rfl) T.isinstance (by decide +kernel) (pa_cons (pv 1) (pa_cons (pe_bltn (v := .ty "tuple") rfl T.tuple (by decide +kernel) rfl) pa_nil))))) (pw_or (pt_cmpR op_ne (pe_callB call_len_seq (by rfl) T.len (by decide +kernel) (pa_cons (pv 1) pa_nil)) pe_int (nomark _)) (pw_or1 (pt_not (pt_val (pe_callB (cr_all rfl) (by rfl) T.all (by decide +kernel) (pa_cons (pe_lc (own := [(("entry" : Str), 2)]) (g := gName 2) rfl sc43.nd (pi_tup (pv 1)) (blkOk_by (own := [(("entry" : Str), 2)]) (N := ["prime", "value", "entry"]) (sc := defScope s43) (by decide +kernel)) (fun _ _ _ _ _ => pg_name (i := 2) sc43.nd rfl (Or.inl rfl)) (fun _ _ _ _ _ => pts_nil) (fun _ _ _ _ _ => (pf F_is_integer (hr.mono (by decide)) rfl (pa_cons (pv 2) pa_nil)))) pa_nil)))))))) (pss_one (ps_ret pe_bl)) pss_nil)
      (pss_one (ps_ret (pe_or (pe_cmpR (op_eqD hr.units) (pv 1) (pe_gr rfl T.END) (nomark _)) (pe_one (pe_and (pe_cmpR op_eq (pe_ix ix_tup (pv 1) pe_int (fun _ _ => rfl)) pe_int (nomark _)) (pe_one (pe_chain op_le op_lt pe_int (pe_ix ix_tup (pv 1) pe_int (fun _ _ => rfl)) (pv 0))))))))), ?_⟩
    refine at_st (σ2 := [some _, some _, none]) rfl ?_
    cases hd with
    | pair x y hx hy =>
      obtain ⟨z, rfl, hz⟩ := rw_at (ns := [x, y]) hu
      refine q_when (b := false) (et_is (et_or (a := !true) (et_not (et_B (ev_isi (ea_cons (ev_var rfl) (ea_cons ev_c ea_nil)) (fun H1 e1 => tyx_tup (ex_t e1 hz)) (by decide +kernel)))) fun _ =>
        et_or (a := !decide ((2 : Int) = 2)) (et_test (ev_op (ev_len (ea_cons (ev_var rfl) ea_nil) (.inr hz)) ev_c rv_neI)) fun _ => et_not (a := true) (et_B (ev_is (ev_all_lc (n := 2) (f := fun _ => true) (el_lc0 (fun _ => V.bl true) (ei_tup (ev_var rfl) hz) (by simp) (fun _ => rfl) (fun i v H1 hi e1 y' => ?_) (fun _ _ _ _ _ y' => y'))) rfl))) (by decide)) (fun hb => by cases hb) (fun hb H1 e1 => ?_)
      · rw [List.getElem?_map] at y'
        obtain ⟨m, hm, rfl⟩ := Option.map_eq_some_iff.mp y'
        refine ev_call' (ea_cons (ev_var rfl) ea_nil) fun H2 e2 Q' q' => ⟨.int m, true, rfl, rfl, fun i' hi' => ?_, q'⟩
        cases hi'
        match i, hm with
        | 0, hm => cases hm; exact lt199 hx
        | 1, hm => cases hm; exact lt199 hy
      · refine s_ret (ev_orV (a := decide (x = 1 ∧ y = 0)) (b := decide (y = 1) && (decide (0 ≤ x) && decide (x < p))) (ev_is (ev_eqD (K := K) (er_dvar rfl (dp_ex e1 _ _ hu)) (er_c fun H2 e2 => dp_end T H2) rfl rfl) (by rw [← eqv_end]))
          fun _ => ev_andV (a := decide (y = 1)) (b := decide (0 ≤ x) && decide (x < p)) (ev_op (ev_ixt (i := 1) (ev_var rfl) ev_c (ex_t e1 hz) rfl) ev_c rv_eqI) fun _ => ev_chain (ev_c (v := .int 0)) (ev_ixt (i := 0) (ev_var rfl) ev_c (ex_t e1 hz) rfl) rv_I0 fun _ => ⟨ev_var rfl, rv_I0⟩) fun H2 e2 => k H2 (e1.trans e2)
    | pb x b hx =>
      obtain ⟨z, xs, rfl, hz, hd⟩ := dp_tup hu
      obtain ⟨v1, us, rfl, h3, h4⟩ := dpa_cons hd
      obtain ⟨v2, us2, rfl, h5, h6⟩ := dpa_cons h4
      obtain rfl := dpa_nil h6
      obtain rfl := dp_int h3
      obtain rfl := dp_bl h5
      refine q_when (b := true) (et_is (et_or (a := !true) (et_not (et_B (ev_isi (ea_cons (ev_var rfl) (ea_cons ev_c ea_nil)) (fun H1 e1 => tyx_tup (ex_t e1 hz)) (by decide +kernel)))) fun _ =>
        et_or (a := !decide ((2 : Int) = 2)) (et_test (ev_op (ev_len (ea_cons (ev_var rfl) ea_nil) (.inr hz)) ev_c rv_neI)) fun _ => et_not (a := false) (et_B (ev_is (ev_all_lc (n := 2) (f := fun i => decide (i = 0)) (el_lc0 (fun i => V.bl (decide (i = 0))) (ei_tup (ev_var rfl) hz) (by simp) (fun _ => rfl) (fun i v H1 hi e1 y' => ?_) (fun _ _ _ _ _ y' => y'))) rfl))) (by decide)) (fun hb H1 e1 => s_ret ev_c fun H2 e2 => k H2 (e1.trans e2)) (fun hb => by cases hb)
      match i, y' with
      | 0, y' => cases y'; exact ev_call' (ea_cons (ev_var rfl) ea_nil) fun H2 e2 Q' q' => ⟨.int x, true, rfl, rfl, fun i' hi' => by cases hi'; exact lt199 hx, q'⟩
      | 1, y' => cases y'; exact ev_call' (ea_cons (ev_var rfl) ea_nil) fun H2 e2 Q' q' => ⟨.bl b, false, rfl, rfl, fun i' hi' => (by cases hi'), q'⟩
    | lst ds =>
      obtain ⟨z, xs, rfl, hz, hd⟩ := dp_lst hu
      exact q_when (b := true) (et_is (et_or (a := !false) (b := true) (et_not (et_B (ev_isi (ea_cons (ev_var rfl) (ea_cons ev_c ea_nil)) (fun H1 e1 => tyx_lst (ex_l e1 hz)) (by decide +kernel)))) fun z => by cases z) (by decide)) (fun hb H1 e1 => s_ret ev_c fun H2 e2 => k H2 (e1.trans e2)) (fun hb => by cases hb)
    | int i =>
      obtain rfl := dp_int hu
      exact q_when (b := true) (et_is (et_or (a := !false) (b := true) (et_not (et_B (ev_isi (ea_cons (ev_var rfl) (ea_cons ev_c ea_nil)) (fun H1 e1 => tyx_int i) (by decide +kernel)))) fun z => by cases z) (by decide)) (fun hb H1 e1 => s_ret ev_c fun H2 e2 => k H2 (e1.trans e2)) (fun hb => by cases hb)
/-! ### the law's is_heavy -/
def spHeavyL (K : PySem.W.Frag) : Sp := fun vs H Q _ => ∃ (v u : V) (a b c d p x y : Int), vs = [v, .int p, u] ∧ Rw K H v [a, b, c, d] ∧ RowZ 400 a b c d ∧ 0 < p ∧ p.natAbs < 2 ^ 100 ∧ Rw K H u [x, y] ∧ x.natAbs < 2 ^ 100 ∧ ((x = 1 ∧ y = 0) ∨ y = 1) ∧
  ∀ H', Ex H H' → Q (.bl (hvB a b c d p x y)) H'
abbrev s66 : Stmt := topS 66
theorem sc66 : FnScope ["_law_row_here", "_law_prime", "_law_place", "_law_moved_here"] ["_law_row_here", "_law_prime", "_law_place"] (defScope s66) := ⟨rfl, rfl, rfl, by decide +kernel, rfl, by decide +kernel, by decide +kernel⟩
theorem fk66 (R : Raw K mg "_law_is_heavy" s66) (T : Bt K mg aE cF cK) (F_law_moved : Fk P w K mg base "_law_moved" 2 ["_law_row_here", "_law_change_here"] (spMoved K)) : Fk P w K mg base "_law_is_heavy" 3 ["_law_row_here", "_law_prime", "_law_place"] (spHeavyL K) := by
  refine R.fk sc66 (fun _ _ _ _ _ _ us hl => match us, hl with | [_, _, _], _ => rfl) (fun vs H Q E h => ?_) (fun f cdv A outer s H vs Q E hr h => ?_)
  · obtain ⟨v, u, a, b, c, d, p, x, y, rfl, _⟩ := h; rfl
  · obtain ⟨v, u, a, b, c, d, p, x, y, rfl, hv, hz, hp, hpz, hu, hx, hxy, k⟩ := h
    refine ⟨_, (pss_cons (ps_set (i := 3) sc66.nd rfl (Or.inl rfl) (pf F_law_moved (hr.mono (by decide)) rfl (pa_cons (pv 0) (pa_cons (pe_tup (pa_cons (pv 2) (pa_cons (pe_ifExp (pt_cmpR op_eq (pe_ix ix_tup (pv 2) pe_int (fun _ _ => rfl)) pe_int (nomark _)) (pe_tup (pa_cons pe_int (pa_cons pe_int pa_nil))) (pe_tup (pa_cons pe_int (pa_cons pe_int pa_nil)))) pa_nil))) pa_nil))))
      (pss_one (ps_ret (pe_and (pe_cmpR op_eq (pe_op op_mod (pe_ix ix_tup (pv 3) pe_int (fun _ _ => rfl)) (pe_op op_mulW (pv 1) (pv 1))) pe_int (nomark _)) (pe_one (pe_cmpR op_eq (pe_op op_mod (pe_ix ix_tup (pv 3) pe_int (fun _ _ => rfl)) (pv 1)) pe_int (nomark _))))))), ?_⟩
    refine at_st (σ2 := [some _, some _, some _, none]) rfl ?_
    obtain ⟨z2, e2, hzu⟩ := rw_at hu
    have hy : y.natAbs < 2 ^ 100 := by
      have : (1 : Nat) < 2 ^ 100 := by decide
      omega
    obtain ⟨r, s', hrs, hr', hs', hm1⟩ : ∃ r s' : Int, (if y = 0 then (0, 1) else (1, 0)) = ((r, s') : Int × Int) ∧ r.natAbs < 2 ^ 100 ∧ s'.natAbs < 2 ^ 100 ∧ mo1 a b c d x y r s' = (if x = 1 ∧ y = 0 then b else slo a b c x) := by
      have h1 : (1 : Nat) < 2 ^ 100 := by decide
      rcases hxy with ⟨rfl, rfl⟩ | rfl
      · exact ⟨0, 1, by simp, by omega, by omega, by rw [mo1_e]; simp⟩
      · exact ⟨1, 0, by simp, by omega, by omega, by rw [mo1_x]; simp⟩
    refine q_asgR (R := fun z H' => Rw K H' z [val a b c d x y, mo1 a b c d x y r s', mo2 a b c d x y r s', val a b c d r s']) (er_call (Rs := fun vs H' => ∃ u', vs = [v, u'] ∧ Ch K H' u' x y r s') ?_ ?_) fun m H1 e1 hm => ?_
    · refine fun H1 e1 Q' q' => ⟨v, rfl, ?_⟩
      refine er_dtup (K := K) (ds := [.tuple [.int x, .int y], .tuple [.int r, .int s']]) (.cons (er_dvar rfl hu) (.cons (er_if (b := decide (y = 0)) (et_test (ev_op (ev_ixt (i := 1) (ev_is (ev_var rfl) e2) ev_c hzu rfl) ev_c rv_eqI)) (fun hb => ?_) (fun hb => ?_)) .nil)) (by simp) H1 e1 _ fun u' H2 e2 hu' => q' _ H2 e2 ⟨u', rfl, hu'⟩
      · have hb := of_decide_eq_true hb
        rw [if_pos hb] at hrs
        obtain ⟨rfl, rfl⟩ := Prod.mk.inj hrs
        exact er_dtup (.cons (er_dint ev_c) (.cons (er_dint ev_c) .nil)) (by simp)
      · have hb := of_decide_eq_false hb
        rw [if_neg hb] at hrs
        obtain ⟨rfl, rfl⟩ := Prod.mk.inj hrs
        exact er_dtup (.cons (er_dint ev_c) (.cons (er_dint ev_c) .nil)) (by simp)
    · rintro vs H1 e1 ⟨u', rfl, hu'⟩ Q' q'
      exact ⟨v, u', a, b, c, d, x, y, r, s', rfl, rw_ex e1 hv, hz, hu', ⟨hx, hy, hr', hs'⟩, fun z H2 e2 hz2 => q' z H2 e2 hz2⟩
    · walk_at "zn"
      obtain ⟨zm, rfl, hzm⟩ := rw_at hm
      have ep : EvI (tVar 1) ([some v, some (.int p), some u, some (.ref zm)] : L2.St) H1 p 100 := evi_var rfl hpz
      refine s_ret (ev_is (ev_andV (a := decide (val a b c d x y % (p * p) = 0)) (b := decide (mo1 a b c d x y r s' % p = 0)) (ev_op (ev_mod (ev_ixt (i := 0) (ev_var rfl) ev_c hzm rfl) (evi_mul ep ep).ev (Int.mul_pos hp hp)) ev_c rv_eqI)
        fun _ => ev_op (ev_mod (ev_ixt (i := 1) (ev_var rfl) ev_c hzm rfl) (ev_var rfl) hp) ev_c rv_eqI) ?_) fun H2 e2 => k H2 (e1.trans e2)
      unfold hvB
      rw [hm1]
end
end Z
namespace Z
open PySem PySem.Spec PyProof.Rows L2 Evl Zm SlX
local macro_rules | `(tactic| walk_at "zi") => `(tactic| (repeat' first | exact evi_c | exact evi_var rfl (by with_reducible assumption) | apply evi_add | apply evi_sub | apply evi_mul); all_goals (show _ ≤ 1000000; decide))
local macro_rules | `(tactic| walk_at "zn") => `(tactic| dsimp only [List.set_cons_zero, List.set_cons_succ])
section
variable {P : Program} {w : World} {K : PySem.W.Frag} {mg : Str → Option Value} {base : Heap}
variable {aE cF cK : Addr}
/-! Zg: loops: the primes whose square divides, the content, the least bar -/
section
variable {σ : L2.St} {H H' : Hp} {ta' : TA} {ta tb te tl : TE} {t : TT} {n : Nat} {D : Ends} {tz tu : TS}
theorem s_par {i j : Nat} {v w : V} (h : EvA ta' σ H [v, w]) (k : ∀ H1, Ex H H1 → D.nx ((σ.set i (some v)).set j (some w)) H1) : tPar i j ta' D σ H := h H (Ex.refl H) _ fun H1 e => ⟨v, w, rfl, k H1 e⟩
theorem q_par {i j : Nat} {v w : V} (h : EvA ta' σ H [v, w]) (k : ∀ H1, Ex H H1 → tz D ((σ.set i (some v)).set j (some w)) H1) : tSeq (tPar i j ta') tz D σ H := s_par (D := { D with nx := tz D }) h k
/-- a for over what stays -/
theorem s_forW {wi : TI} {j : Nat} {Y : Nat → V → Hp → Prop} (h : Ei wi σ H (fun J H1 => Wk J n H1 Y)) (Pv : Nat → L2.St → Hp → Prop) (h0 : ∀ H1, Ex H H1 → Pv 0 σ H1)
    (hs : ∀ H1, Ex H H1 → ∀ i x σ' H', i < n → Ex H1 H' → Pv i σ' H' → Y i x H' → tu { D with nx := fun σ2 H2 => Ex H1 H2 ∧ Pv (i + 1) σ2 H2, ct := fun σ2 H2 => Ex H1 H2 ∧ Pv (i + 1) σ2 H2, bk := D.nx } (σ'.set j (some x)) H')
    (hd : ∀ H1, Ex H H1 → ∀ σ' H', Ex H1 H' → Pv n σ' H' → D.nx σ' H') : tFor wi (gName j) tu D σ H :=
  h H (Ex.refl H) _ fun J H1 e w => by
    obtain ⟨G, Z, w, hG, hZ⟩ := w.ex
    refine for_it w (fun i σ' H' => Ex H1 H' ∧ Pv i σ' H') ⟨Ex.refl H1, h0 H1 e⟩ (fun i σ' H' _ p => hG H' p.1) (fun i x σ' H2 H3 hi p z => ?_) fun σ' H' p => hd H1 e σ' H' p.1 p.2
    obtain ⟨rfl, hy⟩ := hZ i x H2 H3 hi p.1 z
    exact hs H1 e i x σ' H3 hi p.1 p.2 hy
theorem q_forW {wi : TI} {j : Nat} {Y : Nat → V → Hp → Prop} (h : Ei wi σ H (fun J H1 => Wk J n H1 Y)) (Pv : Nat → L2.St → Hp → Prop) (h0 : ∀ H1, Ex H H1 → Pv 0 σ H1)
    (hs : ∀ H1, Ex H H1 → ∀ i x σ' H', i < n → Ex H1 H' → Pv i σ' H' → Y i x H' → tu { D with nx := fun σ2 H2 => Ex H1 H2 ∧ Pv (i + 1) σ2 H2, ct := fun σ2 H2 => Ex H1 H2 ∧ Pv (i + 1) σ2 H2, bk := tz D } (σ'.set j (some x)) H')
    (hd : ∀ H1, Ex H H1 → ∀ σ' H', Ex H1 H' → Pv n σ' H' → tz D σ' H') : tSeq (tFor wi (gName j) tu) tz D σ H := s_forW (D := { D with nx := tz D }) h Pv h0 hs hd
theorem dpa_map {α : Type} {H : Hp} (f : α → V) (g : α → PyData) (h : ∀ a, Dp K H (f a) (g a)) : ∀ l : List α, DpAll K H (l.map f) (l.map g)
  | [] => .nil
  | a :: l => .cons (h a) (dpa_map f g h l)
theorem ev_fdiv {i j : Int} (ha : Ev ta σ H (.int i)) (hb : Ev tb σ H (.int j)) (h : 0 < j) (hz : j.natAbs < 2 ^ 1000) : Ev (tOp (rI CDivW fun i j => .int (i / j)) ta tb) σ H (.int (i / j)) := ev_op ha hb (rv_I (wide_div h hz (by decide) (by decide)))
end
def qV (q : Nat) : V := .int (q : Int)
def qD (q : Nat) : PyData := .int (q : Int)
/-- the loop so far: the list at l holds pre -/
structure DpI (H : Hp) (l : Addr) (n : Nat) (H' : Hp) (left p : Nat) (pre : List Nat) : Prop where
  nl : H l = none
  ex : Ex H H'
  at_ : H' l = some (.lst (pre.map qV))
  l0 : 0 < left
  ln : left ≤ n
  p2 : 2 ≤ p
  pn : p ≤ n + 1
  eq : pre ++ dpl left p = dp n
  len : pre.length ≤ p
theorem DpI.step {H H' H2 : Hp} {l : Addr} {n left p : Nat} {pre : List Nat} (I : DpI H l n H' left p pre) (hle : p * p ≤ left) (e : Ex H H2) (h2 : H2 l = some (.lst ((pre ++ (if 1 < (strip p left).2 then [p] else [])).map qV))) :
    DpI H l n H2 (strip p left).1 (p + 1) (pre ++ (if 1 < (strip p left).2 then [p] else [])) := by
  have h1 : p ≤ p * p := Nat.le_mul_self p
  have h3 := strip_le p left
  have := I.ln
  have := I.p2
  have := I.len
  refine ⟨I.nl, e, h2, strip_pos p left I.l0, by omega, by omega, by omega, ?_, ?_⟩
  · rw [List.append_assoc, ← dpl_go I.p2 hle]; exact I.eq
  · rw [List.length_append]
    split
    · show pre.length + 1 ≤ p + 1
      omega
    · show pre.length + 0 ≤ p + 1
      omega
theorem DpI.done {H H' : Hp} {l : Addr} {n left p : Nat} {pre : List Nat} (I : DpI H l n H' left p pre) (h : ¬ p * p ≤ left) : pre = dp n := by
  have := I.eq
  rw [dpl_stop (by omega), List.append_nil] at this
  exact this
theorem DpI.at {H H' H2 : Hp} {l : Addr} {n left p : Nat} {pre : List Nat} (I : DpI H l n H' left p pre) (e : Ex H' H2) : DpI H l n H2 left p pre := ⟨I.nl, I.ex.trans e, e _ _ I.at_, I.l0, I.ln, I.p2, I.pn, I.eq, I.len⟩
/-- taking p out -/
structure StI (H : Hp) (l : Addr) (H' : Hp) (pre : List Nat) (p left left2 many : Nat) : Prop where
  ex : Ex H H'
  at_ : H' l = some (.lst (pre.map qV))
  l0 : 0 < left2
  le : left2 ≤ left
  s1 : (strip p left2).1 = (strip p left).1
  s2 : many + (strip p left2).2 = (strip p left).2
theorem StI.step {H H' H2 : Hp} {l : Addr} {pre : List Nat} {p left left2 many : Nat} (I : StI H l H' pre p left left2 many) (hp : 2 ≤ p) (h : left2 % p = 0) (e : Ex H' H2) : StI H l H2 pre p left (left2 / p) (many + 1) ∧ left2 / p < left2 := by
  have hs := strip_yes I.l0 hp h
  have h1 := I.s1
  have h2 := I.s2
  rw [hs] at h1 h2
  have hlt := div_lt' I.l0 hp
  have := I.le
  exact ⟨⟨I.ex.trans e, e _ _ I.at_, div_pos' I.l0 hp h, by omega, h1, by simp at h2; omega⟩, hlt⟩
theorem StI.done {H H' : Hp} {l : Addr} {pre : List Nat} {p left left2 many : Nat} (I : StI H l H' pre p left left2 many) (h : left2 % p ≠ 0) : left2 = (strip p left).1 ∧ many = (strip p left).2 := by
  have hs := strip_no h
  have h1 := I.s1
  have h2 := I.s2
  rw [hs] at h1 h2
  exact ⟨h1, h2⟩
theorem ep_p {i : Nat} {p : Nat} {σ : L2.St} {H : Hp} (h : σ[i]? = some (some (.int (p : Int)))) (hp : p ≤ 100000001) : EvI (tVar i) σ H (p : Int) 40 := evi_var h (by
  have : (100000001 : Nat) < 2 ^ 40 := by decide
  omega)
theorem mod_dec {a p : Nat} : decide ((a : Int) % (p : Int) = 0) = decide (a % p = 0) := by
  rw [← Int.natCast_emod, decide_eq_decide]
  omega
theorem le_dec {p a : Nat} : decide ((p : Int) * (p : Int) ≤ (a : Int)) = decide (p * p ≤ a) := by
  rw [← Int.natCast_mul, decide_eq_decide]
  omega
def spDouble (K : PySem.W.Frag) : Sp := fun vs H Q _ => ∃ n : Nat, vs = [.int (n : Int)] ∧ 0 < n ∧ n ≤ 100000000 ∧ ∀ v H', Ex H H' → Dp K H' v (.list ((dp n).map qD)) → Q v H'
abbrev s48 : Stmt := topS 48
theorem sc48 : FnScope ["number", "found", "part", "many"] ["number"] (defScope s48) := ⟨rfl, rfl, rfl, by decide +kernel, rfl, by decide +kernel, by decide +kernel⟩
theorem fk48 (R : Raw K mg "double_primes" s48) : Fk P w K mg base "double_primes" 1 ["number"] (spDouble K) := by
  refine R.fk sc48 (fun _ _ _ _ _ _ us hl => match us, hl with | [_], _ => rfl) (fun vs H Q E h => ?_) (fun f cdv A outer s H vs Q E hr h => ?_)
  · obtain ⟨n, rfl, _⟩ := h; rfl
  · obtain ⟨n, rfl, h0, hn, k⟩ := h
    refine ⟨_, (pss_cons (ps_par (i := 1) (j := 2) (by rfl) sc48.nd rfl rfl (by decide) rfl rfl (pa_cons (pe_lst pa_nil) (pa_cons pe_int pa_nil)) (by rfl))
      (pss_cons (ps_while PassesOwn.never (pt_cmpR op_le (pe_op op_mulW (pv 2) (pv 2)) (pv 0) (nomark _)) (pss_cons (ps_if (pt_cmpR op_eq (pe_op op_mod (pv 0) (pv 2)) pe_int (nomark _)) (pss_cons (ps_set (i := 3) sc48.nd rfl (Or.inl rfl) pe_int)
      (pss_cons (ps_while PassesOwn.never (pt_cmpR op_eq (pe_op op_mod (pv 0) (pv 2)) pe_int (nomark _)) (pss_one (ps_par (i := 0) (j := 3) (by rfl) sc48.nd rfl rfl (by decide) rfl rfl (pa_cons (pe_op op_fdivW (pv 0) (pv 2)) (pa_cons (pe_op op_add (pv 3) pe_int) pa_nil)) (by rfl))))
      (pss_one (ps_if (pt_cmpR op_gt (pv 3) pe_int (nomark _)) (pss_one (ps_expr (pe_bm PySem.F.plainAttrs_list PySem.F.slot_list_append PySem.F.type_list_append mt_append (pv 1) (pa_cons (pv 2) pa_nil)))) pss_nil)))) pss_nil)
      (pss_one (ps_aug (i := 2) sc48.nd rfl (Or.inl rfl) pe_int ip_add))))
      (pss_one (ps_ret (pv 1))))), ?_⟩
    refine at_st (σ2 := [some _, none, none, none]) rfl ?_
    refine ⟨Nat.zero_le _, fun l hl => ⟨_, _, rfl, ?_⟩⟩
    refine at_st (σ2 := [some (.int (n : Int)), some (.ref l), some (.int ((2 : Nat) : Int)), none]) rfl ?_
    refine q_while (fun m σ' H' => ∃ (left p : Nat) (pre : List Nat) (mv : Option V), σ' = [some (.int (left : Int)), some (.ref l), some (.int (p : Int)), mv] ∧ DpI H l n H' left p pre ∧ m = n + 2 - p) (n + 2 - 2)
      ⟨n, 2, [], none, rfl, ⟨hl, Ex.new hl, upd_same, h0, Nat.le_refl _, Nat.le_refl _, by omega, rfl, Nat.zero_le _⟩, rfl⟩ ?_
    rintro m σ' H' ⟨left, p, pre, mv, rfl, I, rfl⟩
    have hpn : p ≤ 100000001 := by have := I.pn; omega
    refine ⟨decide (p * p ≤ left), et_is (et_test (ev_op (evi_mul (ep_p (i := 2) rfl hpn) (ep_p (i := 2) rfl hpn)).ev (ev_var rfl) rv_I0)) le_dec, fun hb H1 e1 => ?_, fun hb H1 e1 => ?_⟩
    · have hle := of_decide_eq_true hb
      have hp2 := I.p2
      have hpp : p ≤ p * p := Nat.le_mul_self p
      have hln := I.ln
      have I1 := I.at e1
      refine ⟨fun σ2 H2 => ∃ m', m' < n + 2 - p ∧ ∃ (left p : Nat) (pre : List Nat) (mv : Option V), σ2 = [some (.int (left : Int)), some (.ref l), some (.int (p : Int)), mv] ∧ DpI H l n H2 left p pre ∧ m' = n + 2 - p, fun _ _ z => z, ?_⟩
      -- what is left of the turn
      have fin : ∀ (mv : Option V) H2, Ex H H2 → H2 l = some (.lst ((pre ++ (if 1 < (strip p left).2 then [p] else [])).map qV)) →
          tAug 2 (tC (.int 1)) (ipI fun i j => i + j) { nx := fun σ2 H2 => ∃ m', m' < n + 2 - p ∧ ∃ (left p : Nat) (pre : List Nat) (mv : Option V), σ2 = [some (.int (left : Int)), some (.ref l), some (.int (p : Int)), mv] ∧ DpI H l n H2 left p pre ∧ m' = n + 2 - p, rt := Q, bk := fun σ' H' => tRet (tVar 1) { nx := fun x H' => Q V.non H', rt := Q } σ' H', ct := fun σ2 H2 => ∃ m', m' < n + 2 - p ∧ ∃ (left p : Nat) (pre : List Nat) (mv : Option V), σ2 = [some (.int (left : Int)), some (.ref l), some (.int (p : Int)), mv] ∧ DpI H l n H2 left p pre ∧ m' = n + 2 - p }
            [some (.int ((strip p left).1 : Int)), some (.ref l), some (.int (p : Int)), mv] H2 := fun mv H2 e2 h2 => by
        refine s_aug (a := (p : Int)) (b := 1) rfl ev_c fun H3 e3 => ⟨n + 2 - (p + 1), by omega, (strip p left).1, p + 1, _, mv, rfl, I1.step hle (e2.trans e3) (e3 _ _ h2), rfl⟩
      refine q_when (b := decide (left % p = 0)) (et_is (et_test (ev_op (ev_mod (ev_var rfl) (ev_var rfl) (by omega)) ev_c rv_eqI)) mod_dec) (fun hc H2 e2 => ?_) (fun hc H2 e2 => ?_)
      · refine q_asg (v := .int ((0 : Nat) : Int)) ev_c fun H3 e3 => ?_
        walk_at "zn"
        have I3 := I1.at (e2.trans e3)
        refine q_while (fun m σ' H' => ∃ (left2 many : Nat), σ' = [some (.int (left2 : Int)), some (.ref l), some (.int (p : Int)), some (.int (many : Int))] ∧ StI H l H' pre p left left2 many ∧ m = left2) left
          ⟨left, 0, rfl, ⟨I3.ex, I3.at_, I3.l0, Nat.le_refl _, rfl, Nat.zero_add _⟩, rfl⟩ ?_
        rintro m σ' H' ⟨left2, many, rfl, J, rfl⟩
        refine ⟨decide (m % p = 0), et_is (et_test (ev_op (ev_mod (ev_var rfl) (ev_var rfl) (by omega)) ev_c rv_eqI)) mod_dec, fun hd H4 e4 => ?_, fun hd H4 e4 => ?_⟩
        · have hd := of_decide_eq_true hd
          refine ⟨fun σ2 H2 => ∃ m', m' < m ∧ ∃ (left2 many : Nat), σ2 = [some (.int (left2 : Int)), some (.ref l), some (.int (p : Int)), some (.int (many : Int))] ∧ StI H l H2 pre p left left2 many ∧ m' = left2, fun _ _ z => z, ?_⟩
          refine s_par (v := .int ((m / p : Nat) : Int)) (w := .int ((many + 1 : Nat) : Int)) (ea_cons (ev_is (ev_fdiv (ev_var rfl) (ev_var rfl) (by omega) (by
            have : (100000001 : Nat) < 2 ^ 1000 := Nat.lt_of_lt_of_le (show (100000001 : Nat) < 2 ^ 40 by decide) (Nat.pow_le_pow_right (by decide) (by decide))
            omega)) (by rw [Int.natCast_ediv])) (ea_cons (ev_op (ev_var rfl) ev_c rv_I0) ea_nil)) fun H5 e5 => ?_
          obtain ⟨J2, hlt⟩ := J.step hp2 hd (e4.trans e5)
          exact ⟨m / p, hlt, m / p, many + 1, rfl, J2, rfl⟩
        · have hd := of_decide_eq_false hd
          obtain ⟨d1, d2⟩ := J.done hd
          refine s_when (b := decide ((1 : Int) < (many : Int))) (et_test (ev_op (ev_var rfl) ev_c rv_I0)) (fun he H5 e5 => ?_) (fun he H5 e5 => ?_)
          · have he := of_decide_eq_true he
            have hm : 1 < (strip p left).2 := by omega
            have hat := e5 _ _ (e4 _ _ J.at_)
            refine s_app (K := K) hat (ev_var rfl) (ev_var rfl) (by rw [List.length_map]; have := I.len; have := sq_le (q := p) (by omega); omega) fun H6 e6 => ?_
            rw [d1]
            refine fin _ _ (Ex.mut (((J.ex.trans e4).trans e5).trans e6) I.nl) ?_
            rw [upd_same, if_pos hm, List.map_append]; rfl
          · have he := of_decide_eq_false he
            have hm : ¬ 1 < (strip p left).2 := by omega
            rw [d1]
            refine fin _ _ ((J.ex.trans e4).trans e5) ?_
            rw [if_neg hm, List.append_nil]
            exact e5 _ _ (e4 _ _ J.at_)
      · have hc := of_decide_eq_false hc
        have hs := strip_no hc
        have I3 := I1.at e2
        have := fin mv H2 I3.ex (by rw [hs]; simp; exact I3.at_)
        rw [hs] at this
        exact this
    · have hle := of_decide_eq_false hb
      have I1 := I.at e1
      have hd := I.done hle
      refine s_retR (er_var rfl fun H2 e2 => ?_) fun v H2 e2 hv => k v H2 (I1.ex.trans e2) hv
      rw [← hd]
      exact .lst (SqL.of (e2 _ _ I1.at_)) (dpa_map qV qD (fun q => .int _) pre)
end
end Z
namespace Z
open PySem PySem.Spec PyProof.Rows L2 Evl Zm SlX
local macro_rules | `(tactic| walk_at "zi") => `(tactic| (repeat' first | exact evi_c | exact evi_var rfl (by with_reducible assumption) | apply evi_add | apply evi_sub | apply evi_mul); all_goals (show _ ≤ 1000000; decide))
local macro_rules | `(tactic| walk_at "zn") => `(tactic| dsimp only [List.set_cons_zero, List.set_cons_succ])
section
variable {P : Program} {w : World} {K : PySem.W.Frag} {mg : Str → Option Value} {base : Heap}
variable {aE cF cK : Addr}
/-! Zh: the law's primes_of, content, least_bar -/
def spPrimesOf (K : PySem.W.Frag) : Sp := fun vs H Q _ => ∃ z : Int, vs = [.int z] ∧ z ≠ 0 ∧ z.natAbs ≤ 100000000 ∧ ∀ v H', Ex H H' → Dp K H' v (.list ((dp z.natAbs).map qD)) → Q v H'
abbrev s68 : Stmt := topS 68
theorem sc68 : FnScope ["_law_number", "_law_found", "_law_left", "_law_prime", "_law_many"] ["_law_number"] (defScope s68) := ⟨rfl, rfl, rfl, by decide +kernel, rfl, by decide +kernel, by decide +kernel⟩
theorem fk68 (R : Raw K mg "_law_primes_of" s68) (T : Bt K mg aE cF cK) : Fk P w K mg base "_law_primes_of" 1 ["_law_number"] (spPrimesOf K) := by
  refine R.fk sc68 (fun _ _ _ _ _ _ us hl => match us, hl with | [_], _ => rfl) (fun vs H Q E h => ?_) (fun f cdv A outer s H vs Q E hr h => ?_)
  · obtain ⟨n, rfl, _⟩ := h; rfl
  · obtain ⟨z, rfl, hz0, hn, k⟩ := h
    refine ⟨_, (pss_cons (ps_par3 (i := 1) (j := 2) (l := 3) (by rfl) sc68.nd rfl rfl rfl (by decide) (by decide) (by decide) rfl rfl rfl (pa_cons (pe_lst pa_nil) (pa_cons (pe_callB call_abs (by rfl) T.abs (by decide +kernel) (pa_cons (pv 0) pa_nil)) (pa_cons pe_int pa_nil))) (by rfl))
      (pss_cons (ps_while PassesOwn.never (pt_cmpR op_le (pe_op op_mulW (pv 3) (pv 3)) (pv 2) (nomark _)) (pss_cons (ps_set (i := 4) sc68.nd rfl (Or.inl rfl) pe_int)
      (pss_cons (ps_while PassesOwn.never (pt_cmpR op_eq (pe_op op_mod (pv 2) (pv 3)) pe_int (nomark _)) (pss_one (ps_par (i := 2) (j := 4) (by rfl) sc68.nd rfl rfl (by decide) rfl rfl (pa_cons (pe_op op_fdivW (pv 2) (pv 3)) (pa_cons (pe_op op_add (pv 4) pe_int) pa_nil)) (by rfl))))
      (pss_cons (ps_if (pt_cmpR op_gt (pv 4) pe_int (nomark _)) (pss_one (ps_expr (pe_bm PySem.F.plainAttrs_list PySem.F.slot_list_append PySem.F.type_list_append mt_append (pv 1) (pa_cons (pv 3) pa_nil)))) pss_nil)
      (pss_one (ps_set (i := 3) sc68.nd rfl (Or.inl rfl) (pe_op op_add (pv 3) pe_int)))))))
      (pss_one (ps_ret (pv 1))))), ?_⟩
    refine at_st (σ2 := [some _, none, none, none, none]) rfl ?_
    generalize hnz : z.natAbs = n at hn k
    have h0 : 0 < n := by omega
    refine ⟨Nat.zero_le _, fun l hl => ⟨.int z, rfl, z, rfl, _, _, _, rfl, ?_⟩⟩
    refine at_st (σ2 := [some (.int z), some (.ref l), some (.int (n : Int)), some (.int ((2 : Nat) : Int)), none]) (by rw [abs_natAbs, hnz]; rfl) ?_
    refine q_while (fun m σ' H' => ∃ (left p : Nat) (pre : List Nat) (mv : Option V), σ' = [some (.int z), some (.ref l), some (.int (left : Int)), some (.int (p : Int)), mv] ∧ DpI H l n H' left p pre ∧ m = n + 2 - p) (n + 2 - 2)
      ⟨n, 2, [], none, rfl, ⟨hl, Ex.new hl, upd_same, h0, Nat.le_refl _, Nat.le_refl _, by omega, rfl, Nat.zero_le _⟩, rfl⟩ ?_
    rintro m σ' H' ⟨left, p, pre, mv, rfl, I, rfl⟩
    have hpn : p ≤ 100000001 := by have := I.pn; omega
    refine ⟨decide (p * p ≤ left), et_is (et_test (ev_op (evi_mul (ep_p (i := 3) rfl hpn) (ep_p (i := 3) rfl hpn)).ev (ev_var rfl) rv_I0)) le_dec, fun hb H1 e1 => ?_, fun hb H1 e1 => ?_⟩
    · have hle := of_decide_eq_true hb
      have hp2 := I.p2
      have hpp : p ≤ p * p := Nat.le_mul_self p
      have hln := I.ln
      have I1 := I.at e1
      refine ⟨fun σ2 H2 => ∃ m', m' < n + 2 - p ∧ ∃ (left p : Nat) (pre : List Nat) (mv : Option V), σ2 = [some (.int z), some (.ref l), some (.int (left : Int)), some (.int (p : Int)), mv] ∧ DpI H l n H2 left p pre ∧ m' = n + 2 - p, fun _ _ z => z, ?_⟩
      refine q_asg (v := .int ((0 : Nat) : Int)) ev_c fun H3 e3 => ?_
      walk_at "zn"
      have I3 := I1.at e3
      refine q_while (fun m σ' H' => ∃ (left2 many : Nat), σ' = [some (.int z), some (.ref l), some (.int (left2 : Int)), some (.int (p : Int)), some (.int (many : Int))] ∧ StI H l H' pre p left left2 many ∧ m = left2) left
        ⟨left, 0, rfl, ⟨I3.ex, I3.at_, I3.l0, Nat.le_refl _, rfl, Nat.zero_add _⟩, rfl⟩ ?_
      rintro m σ' H' ⟨left2, many, rfl, J, rfl⟩
      refine ⟨decide (m % p = 0), et_is (et_test (ev_op (ev_mod (ev_var rfl) (ev_var rfl) (by omega)) ev_c rv_eqI)) mod_dec, fun hd H4 e4 => ?_, fun hd H4 e4 => ?_⟩
      · have hd := of_decide_eq_true hd
        refine ⟨fun σ2 H2 => ∃ m', m' < m ∧ ∃ (left2 many : Nat), σ2 = [some (.int z), some (.ref l), some (.int (left2 : Int)), some (.int (p : Int)), some (.int (many : Int))] ∧ StI H l H2 pre p left left2 many ∧ m' = left2, fun _ _ z => z, ?_⟩
        refine s_par (v := .int ((m / p : Nat) : Int)) (w := .int ((many + 1 : Nat) : Int)) (ea_cons (ev_is (ev_fdiv (ev_var rfl) (ev_var rfl) (by omega) (by
          have : (100000001 : Nat) < 2 ^ 1000 := Nat.lt_of_lt_of_le (show (100000001 : Nat) < 2 ^ 40 by decide) (Nat.pow_le_pow_right (by decide) (by decide))
          omega)) (by rw [Int.natCast_ediv])) (ea_cons (ev_op (ev_var rfl) ev_c rv_I0) ea_nil)) fun H5 e5 => ?_
        obtain ⟨J2, hlt⟩ := J.step hp2 hd (e4.trans e5)
        exact ⟨m / p, hlt, m / p, many + 1, rfl, J2, rfl⟩
      · have hd := of_decide_eq_false hd
        obtain ⟨d1, d2⟩ := J.done hd
        refine q_when (b := decide ((1 : Int) < (many : Int))) (et_test (ev_op (ev_var rfl) ev_c rv_I0)) (fun he H5 e5 => ?_) (fun he H5 e5 => ?_)
        · have he := of_decide_eq_true he
          have hm : 1 < (strip p left).2 := by omega
          have hat := e5 _ _ (e4 _ _ J.at_)
          refine s_app (K := K) hat (ev_var rfl) (ev_var rfl) (by rw [List.length_map]; have := I.len; have := sq_le (q := p) (by omega); omega) fun H6 e6 => ?_
          refine s_asg (v := .int ((p + 1 : Nat) : Int)) (ev_op (ev_var rfl) ev_c rv_I0) fun H7 e7 => ⟨n + 2 - (p + 1), by omega, m, p + 1, pre ++ (if 1 < (strip p left).2 then [p] else []), _, rfl, ?_, rfl⟩
          rw [d1]
          refine I1.step hle ((Ex.mut (((J.ex.trans e4).trans e5).trans e6) I.nl).trans e7) (e7 _ _ ?_)
          rw [upd_same, if_pos hm, List.map_append]; rfl
        · have he := of_decide_eq_false he
          have hm : ¬ 1 < (strip p left).2 := by omega
          refine s_asg (v := .int ((p + 1 : Nat) : Int)) (ev_op (ev_var rfl) ev_c rv_I0) fun H7 e7 => ⟨n + 2 - (p + 1), by omega, m, p + 1, pre ++ (if 1 < (strip p left).2 then [p] else []), _, rfl, ?_, rfl⟩
          rw [d1]
          refine I1.step hle (((J.ex.trans e4).trans e5).trans e7) (e7 _ _ ?_)
          rw [if_neg hm, List.append_nil]
          exact e5 _ _ (e4 _ _ J.at_)
    · have hle := of_decide_eq_false hb
      have I1 := I.at e1
      have hd := I.done hle
      refine s_retR (er_var rfl fun H2 e2 => ?_) fun v H2 e2 hv => k v H2 (I1.ex.trans e2) hv
      rw [← hd]
      exact .lst (SqL.of (e2 _ _ I1.at_)) (dpa_map qV qD (fun q => .int _) pre)
/-! the content -/
def cf (l : List Int) (g : Nat) : Nat := l.foldl (fun g a => Nat.gcd g a.natAbs) g
theorem cf_take {l : List Int} {i : Nat} {u : Int} (h : l[i]? = some u) : cf (l.take (i + 1)) 0 = Nat.gcd (cf (l.take i) 0) u.natAbs := by
  unfold cf
  rw [List.take_add_one, h, List.foldl_append]; rfl
def spContent (K : PySem.W.Frag) : Sp := fun vs H Q _ => ∃ (v : V) (a b c d : Int), vs = [v] ∧ Rw K H v [a, b, c, d] ∧ ∀ H', Ex H H' → Q (.int (cont a b c d : Nat)) H'
abbrev s61 : Stmt := topS 61
theorem sc61 : FnScope ["_law_row_here", "_law_found", "_law_entry", "_law_one"] ["_law_row_here"] (defScope s61) := ⟨rfl, rfl, rfl, by decide +kernel, rfl, by decide +kernel, by decide +kernel⟩
theorem fk61 (R : Raw K mg "_law_content" s61) (T : Bt K mg aE cF cK) : Fk P w K mg base "_law_content" 1 ["_law_row_here"] (spContent K) := by
  refine R.fk sc61 (fun _ _ _ _ _ _ us hl => match us, hl with | [_], _ => rfl) (fun vs H Q E h => ?_) (fun f cdv A outer s H vs Q E hr h => ?_)
  · obtain ⟨v, a, b, c, d, rfl, _⟩ := h; rfl
  · obtain ⟨v, a, b, c, d, rfl, hv, k⟩ := h
    refine ⟨_, (pss_cons (ps_set (i := 1) sc61.nd rfl (Or.inl rfl) pe_int)
      (pss_cons (ps_for PassesOwn.never rfl (pi_tup (pv 0)) (pg_name (i := 2) sc61.nd rfl (Or.inl rfl)) (pss_cons (ps_set (i := 3) sc61.nd rfl (Or.inl rfl) (pe_callB call_abs (by rfl) T.abs (by decide +kernel) (pa_cons (pv 2) pa_nil)))
      (pss_one (ps_while PassesOwn.never (pt_cmpR op_gt (pv 3) pe_int (nomark _)) (pss_one (ps_par (i := 1) (j := 3) (by rfl) sc61.nd rfl rfl (by decide) rfl rfl (pa_cons (pv 3) (pa_cons (pe_op op_mod (pv 1) (pv 3)) pa_nil)) (by rfl)))))))
      (pss_one (ps_ret (pv 1))))), ?_⟩
    refine at_st (σ2 := [some _, none, none, none]) rfl ?_
    obtain ⟨z, rfl, hz⟩ := rw_at hv
    generalize hns : [a, b, c, d] = ns at hz
    refine q_asg (v := .int ((0 : Nat) : Int)) ev_c fun H1 e1 => ?_
    walk_at "zn"
    refine q_forW (ei_tup (ev_var rfl) (ex_t e1 hz)) (fun i σ' H' => ∃ e o, σ' = [some (.ref z), some (.int (cf (ns.take i) 0 : Nat)), e, o]) (fun H2 e2 => ⟨none, none, rfl⟩) (fun H2 e2 i x σ' H' hi ex ⟨e, o, hs⟩ hx => ?_) (fun H2 e2 σ' H' ex ⟨e, o, hs⟩ => ?_)
    · subst hs
      rw [List.getElem?_map] at hx
      obtain ⟨u, hu, rfl⟩ := Option.map_eq_some_iff.mp hx
      walk_at "zn"
      refine q_asg (v := .int (u.natAbs : Int)) (ev_is (ev_abs (ea_cons (ev_var rfl) ea_nil)) (by rw [abs_natAbs])) fun H3 e3 => ?_
      walk_at "zn"
      refine s_while (fun m σ' H' => ∃ f o : Nat, σ' = [some (.ref z), some (.int (f : Int)), some (.int u), some (.int (o : Int))] ∧ Ex H2 H' ∧ Nat.gcd f o = cf (ns.take (i + 1)) 0 ∧ m = o) u.natAbs ⟨_, _, rfl, ex.trans e3, (cf_take hu).symm, rfl⟩ ?_
      rintro m σ' H4 ⟨f, o, rfl, e4, hg, rfl⟩
      refine ⟨decide ((0 : Int) < (m : Int)), et_test (ev_op (ev_var rfl) ev_c rv_I0), fun hb H5 e5 => ?_, fun hb H5 e5 => ?_⟩
      · have hb := of_decide_eq_true hb
        refine ⟨fun σ2 H2' => ∃ m', m' < m ∧ ∃ f o : Nat, σ2 = [some (.ref z), some (.int (f : Int)), some (.int u), some (.int (o : Int))] ∧ Ex H2 H2' ∧ Nat.gcd f o = cf (ns.take (i + 1)) 0 ∧ m' = o, fun _ _ z => z, ?_⟩
        refine s_par (v := .int (m : Int)) (w := .int ((f % m : Nat) : Int)) (ea_cons (ev_var rfl) (ea_cons (ev_is (ev_mod (ev_var rfl) (ev_var rfl) (by omega)) (by rw [Int.natCast_emod])) ea_nil)) fun H6 e6 => ⟨f % m, Nat.mod_lt _ (by omega), m, f % m, rfl, (e4.trans e5).trans e6, ?_, rfl⟩
        rw [← hg, Nat.gcd_comm f m, Nat.gcd_rec m f, Nat.gcd_comm]
      · have hb := of_decide_eq_false hb
        have hm : m = 0 := by omega
        subst hm
        rw [Nat.gcd_zero_right] at hg
        subst hg
        exact ⟨e4.trans e5, _, _, rfl⟩
    · subst hs
      refine s_ret (ev_is (ev_var rfl) ?_) fun H3 e3 => k H3 (((e1.trans e2).trans ex).trans e3)
      rw [List.length_map, List.take_length, ← hns]; rfl
/-! the least bar -/
def heavyAt (a b c d : Int) (p : Nat) (u : Int × Int) : Bool := hvB a b c d p u.1 u.2
def barA (a b c d : Int) (p : Nat) : PyData := if divB a b c d p = true then .tuple [.str "content", .int p] else match (plc p).find? (heavyAt a b c d p) with
  | some u => .tuple [.str "place", .int p, pairD u]
  | none => .none
def lbar (a b c d : Int) : List Nat → PyData
  | [] => .none
  | p :: ps => match barA a b c d p with
    | .none => lbar a b c d ps
    | x => x
def noneD : PyData → Bool
  | .none => true
  | _ => false
theorem lbar_skip {a b c d : Int} {p : Nat} {ps : List Nat} (h : barA a b c d p = .none) : lbar a b c d (p :: ps) = lbar a b c d ps := by
  show (match barA a b c d p with | .none => lbar a b c d ps | x => x) = _
  rw [h]
theorem lbar_stop {a b c d : Int} {p : Nat} {ps : List Nat} (h : noneD (barA a b c d p) = false) : lbar a b c d (p :: ps) = barA a b c d p := by
  show (match barA a b c d p with | .none => lbar a b c d ps | x => x) = _
  generalize barA a b c d p = x at h
  cases x <;> first | rfl | cases h
theorem drop_at {α : Type} {l : List α} {i : Nat} {x : α} (h : l[i]? = some x) : l.drop i = x :: l.drop (i + 1) := by
  obtain ⟨h1, h2⟩ := List.getElem?_eq_some_iff.mp h
  rw [List.drop_eq_getElem_cons h1, h2]
theorem barA_div {a b c d : Int} {p : Nat} (h : divB a b c d p = true) : barA a b c d p = .tuple [.str "content", .int p] := by
  unfold barA; rw [if_pos h]
theorem barA_no {a b c d : Int} {p : Nat} (h : divB a b c d p = false) (h2 : (plc p).find? (heavyAt a b c d p) = none) : barA a b c d p = .none := by
  unfold barA; rw [if_neg (by rw [h]; decide), h2]
theorem barA_yes {a b c d : Int} {p : Nat} {u : Int × Int} (h : divB a b c d p = false) (h2 : (plc p).find? (heavyAt a b c d p) = some u) : barA a b c d p = .tuple [.str "place", .int p, pairD u] := by
  unfold barA; rw [if_neg (by rw [h]; decide), h2]
theorem place_small {p : Nat} {u : Int × Int} (h1 : 1 ≤ p) (hp : p ≤ 10000) (h : u ∈ plc p) : u.1.natAbs < 2 ^ 100 ∧ u.2.natAbs < 2 ^ 100 ∧ ((u.1 = 1 ∧ u.2 = 0) ∨ u.2 = 1) := by
  have h3 : (10001 : Nat) < 2 ^ 100 := by decide
  rcases plc_mem h1 h with e | ⟨e1, e2, e4⟩
  · rw [e]; simp
  · refine ⟨?_, ?_, .inr e1⟩ <;> omega
def spLeast (K : PySem.W.Frag) : Sp := fun vs H Q _ => ∃ (v : V) (a b c d : Int), vs = [v] ∧ Rw K H v [a, b, c, d] ∧ RowZ 400 a b c d ∧ disc a b c d ≠ 0 ∧ (disc a b c d).natAbs ≤ 100000000 ∧ ∀ z H', Ex H H' → Dp K H' z (lbar a b c d (dp (disc a b c d).natAbs)) → Q z H'
abbrev s69 : Stmt := topS 69
theorem sc69 : FnScope ["_law_row_here", "_law_prime", "_law_place"] ["_law_row_here"] (defScope s69) := ⟨rfl, rfl, rfl, by decide +kernel, rfl, by decide +kernel, by decide +kernel⟩
theorem fk69 (R : Raw K mg "_law_least_bar" s69) (T : Bt K mg aE cF cK) (F_law_discriminant : Fk P w K mg base "_law_discriminant" 1 ["_law_row_here"] (spDisc K)) (F_law_primes_of : Fk P w K mg base "_law_primes_of" 1 ["_law_number"] (spPrimesOf K))
    (F_law_content : Fk P w K mg base "_law_content" 1 ["_law_row_here"] (spContent K)) (F_law_places : Fk P w K mg base "_law_places" 1 ["_law_prime"] (spPlaces K)) (F_law_is_heavy : Fk P w K mg base "_law_is_heavy" 3 ["_law_row_here", "_law_prime", "_law_place"] (spHeavyL K)) : Fk P w K mg base "_law_least_bar" 4 ["_law_row_here"] (spLeast K) := by
  refine R.fk sc69 (fun _ _ _ _ _ _ us hl => match us, hl with | [_], _ => rfl) (fun vs H Q E h => ?_) (fun f cdv A outer s H vs Q E hr h => ?_)
  · obtain ⟨v, a, b, c, d, rfl, _⟩ := h; rfl
  · obtain ⟨v, a, b, c, d, rfl, hv, hz, hd0, hdn, k⟩ := h
    refine ⟨_, (pss_cons (ps_for PassesOwn.never rfl (pi_list (pf F_law_primes_of (hr.mono (by decide)) rfl (pa_cons (pf F_law_discriminant (hr.mono (by decide)) rfl (pa_cons (pv 0) pa_nil)) pa_nil))) (pg_name (i := 1) sc69.nd rfl (Or.inl rfl)) (pss_cons (ps_if (pt_cmpR op_eq (pe_op op_mod (pf F_law_content (hr.mono (by decide)) rfl (pa_cons (pv 0) pa_nil)) (pv 1)) pe_int (nomark _)) (pss_one (ps_ret (pe_tup (pa_cons pe_str (pa_cons (pv 1) pa_nil))))) pss_nil)
      (pss_one (ps_for PassesOwn.never rfl (pi_list (pf F_law_places (hr.mono (by decide)) rfl (pa_cons (pv 1) pa_nil))) (pg_name (i := 2) sc69.nd rfl (Or.inl rfl)) (pss_one (ps_if (pt_val (pf F_law_is_heavy (hr.mono (by decide)) rfl (pa_cons (pv 0) (pa_cons (pv 1) (pa_cons (pv 2) pa_nil))))) (pss_one (ps_ret (pe_tup (pa_cons pe_str (pa_cons (pv 1) (pa_cons (pv 2) pa_nil)))))) pss_nil))))))
      (pss_one (ps_ret pe_non))), ?_⟩
    refine at_st (σ2 := [some _, none, none]) rfl ?_
    have hmem := fun q (h : q ∈ dp (disc a b c d).natAbs) => dp_mem h hdn
    generalize hps : dp (disc a b c d).natAbs = ps at k hmem
    refine q_forW (n := (ps.map qD).length) (Y := fun i x H' => ∃ d, (ps.map qD)[i]? = some d ∧ Dp K H' x d) (ei_dlist (er_callV (ea_cons (ev_call' (ea_cons (ev_var rfl) ea_nil) fun H1 e1 Q' q' => ⟨_, a, b, c, d, rfl, rw_ex e1 hv, hz, q'⟩) ea_nil)
      fun H1 e1 Q' q' => ⟨_, rfl, hd0, hdn, fun v H2 e2 hv2 => q' v H2 e2 (by rw [← hps]; exact hv2)⟩)) (fun i σ' H' => lbar a b c d ps = lbar a b c d (ps.drop i) ∧ ∃ x y, σ' = [some v, x, y]) (fun H1 e1 => ⟨rfl, none, none, rfl⟩)
      (fun H1 e1 i x σ' H' hi ex ⟨hl, x0, y0, hs⟩ hx => ?_) (fun H1 e1 σ' H' ex ⟨hl, x0, y0, hs⟩ => ?_)
    · subst hs
      obtain ⟨d', hd1, hd2⟩ := hx
      rw [List.getElem?_map] at hd1
      obtain ⟨p, hpi, rfl⟩ := Option.map_eq_some_iff.mp hd1
      obtain rfl := dp_int hd2
      obtain ⟨hp2, hpn⟩ := hmem p (List.mem_of_getElem? hpi)
      have hpz : (p : Int).natAbs < 2 ^ 100 := by
        have : (10001 : Nat) < 2 ^ 100 := by decide
        omega
      walk_at "zn"
      rw [drop_at hpi] at hl
      have hv' := rw_ex (e1.trans ex) hv
      refine q_when (b := divB a b c d p) (et_is (et_test (ev_op (ev_mod (ev_call' (ea_cons (ev_var rfl) ea_nil) fun H2 e2 Q' q' => ⟨_, a, b, c, d, rfl, rw_ex e2 hv', q'⟩) (ev_var rfl) (by omega)) ev_c rv_eqI)) (cont_div a b c d p)) (fun hb H2 e2 => ?_) (fun hb H2 e2 => ?_)
      · refine s_retR (er_dtup (K := K) (.cons (er_dstr ev_c) (.cons (er_dint (ev_var rfl)) .nil)) (by simp)) fun z H3 e3 hz3 => k z H3 (((e1.trans ex).trans e2).trans e3) ?_
        rw [hl, lbar_stop (by rw [barA_div hb]; rfl), barA_div hb]
        exact hz3
      · have hv2 := rw_ex e2 hv'
        refine s_forW (n := ((plc p).map pairD).length) (Y := fun i x H' => ∃ d, ((plc p).map pairD)[i]? = some d ∧ Dp K H' x d) (ei_dlist (er_dp (er_callV (ea_cons (ev_var rfl) ea_nil) fun H3 e3 Q' q' => ⟨p, rfl, by omega, hpn, q'⟩)))
          (fun j σ' H' => (plc p).find? (heavyAt a b c d p) = ((plc p).drop j).find? (heavyAt a b c d p) ∧ ∃ y, σ' = [some v, some (.int (p : Int)), y]) (fun H3 e3 => ⟨rfl, _, rfl⟩)
          (fun H3 e3 j x σ' H' hj ex3 ⟨hf, y1, hs⟩ hx => ?_) (fun H3 e3 σ' H' ex3 ⟨hf, y1, hs⟩ => ?_)
        · subst hs
          obtain ⟨d', hd1, hd2⟩ := hx
          rw [List.getElem?_map] at hd1
          obtain ⟨u, hu, rfl⟩ := Option.map_eq_some_iff.mp hd1
          obtain ⟨hu1, hu2, hu3⟩ := place_small (by omega) hpn (List.mem_of_getElem? hu)
          walk_at "zn"
          rw [drop_at hu, List.find?_cons] at hf
          have hv3 := rw_ex (e3.trans ex3) hv2
          refine s_when (b := heavyAt a b c d p u) (et_B (ev_call' (ea_cons (ev_var rfl) (ea_cons (ev_var rfl) (ea_cons (ev_var rfl) ea_nil))) fun H4 e4 Q' q' => ⟨_, _, a, b, c, d, p, u.1, u.2, rfl, rw_ex e4 hv3, hz, by omega, hpz, dp_ex e4 _ _ hd2, hu1, hu3, q'⟩)) (fun hc H4 e4 => ?_) (fun hc H4 e4 => ?_)
          · rw [hc] at hf
            have hbar := barA_yes hb hf
            refine s_retR (er_dtup (K := K) (.cons (er_dstr ev_c) (.cons (er_dint (ev_var rfl)) (.cons (er_dvar rfl (dp_ex e4 _ _ hd2)) .nil))) (by simp)) fun z H5 e5 hz5 => k z H5 ((((((e1.trans ex).trans e2).trans e3).trans ex3).trans e4).trans e5) ?_
            rw [hl, lbar_stop (by rw [hbar]; rfl), hbar]
            exact hz5
          · rw [hc] at hf
            exact ⟨ex3.trans e4, hf, _, rfl⟩
        · subst hs
          rw [List.length_map, List.drop_length] at hf
          have hbar := barA_no hb hf
          exact ⟨((ex.trans e2).trans e3).trans ex3, by rw [hl, lbar_skip hbar], _, _, rfl⟩
    · subst hs
      rw [List.length_map, List.drop_length] at hl
      refine s_ret ev_c fun H2 e2 => k _ H2 ((e1.trans ex).trans e2) ?_
      rw [hl]
      exact .non
end
end Z
namespace Z
open PySem PySem.Spec PyProof.Rows L2 Evl Zm SlX
local macro_rules | `(tactic| walk_at "zi") => `(tactic| (repeat' first | exact evi_c | exact evi_var rfl (by with_reducible assumption) | apply evi_add | apply evi_sub | apply evi_mul); all_goals (show _ ≤ 1000000; decide))
local macro_rules | `(tactic| walk_at "zn") => `(tactic| dsimp only [List.set_cons_zero, List.set_cons_succ])
section
variable {P : Program} {w : World} {K : PySem.W.Frag} {mg : Str → Option Value} {base : Heap}
variable {aE cF cK pS pD gD fI : Addr}
/-! Zi: the class Form: made, its discriminant; what is asked of it -/
theorem Fk.fnr {k : Nat} {x : Str} {ps : List Str} {sp : Sp} (F : Fk P w K mg base x k ps sp) : ∃ f, mg x = some (.ref f) ∧ FnR P w K mg base CX0 k f sp := by
  obtain ⟨f, fd, h1, h2, h3, h4⟩ := F.ex
  exact ⟨f, h1, (h4.raw (ds := []) (dvs := []) h3 .nil).imp fun vs H Q E h => by rw [List.append_nil]; exact h⟩
/-- a method's def at f -/
def RawM (K : PySem.W.Frag) (x qual : Str) (st : Stmt) (f : Addr) : Prop := ∃ fd : FuncData, Fun K x qual st f fd
theorem RawM.fnr {x qual : Str} {st : Stmt} {f : Addr} {N ps : List Str} {k : Nat} {sp : Sp} (R : RawM K x qual st f) (S : FnScope N ps (defScope st))
    (hb : ∀ (kV doc pm : Value) (an : Option Addr) (cdv ct : Value) (us : List Value), us.length = ps.length → bindArgs (PySem.W.fnOf x qual (defArgs st) (defBody st) (defScope st) .none kV doc pm an cdv ct) ⟨us, []⟩ = pure (ps.zip us))
    (len : ∀ vs H Q E, sp vs H Q E → vs.length = ps.length)
    (hbody : ∀ (cdv : Value) (A : Around) (outer : List Env) (s : Shared) (H : Hp) (vs : List V) (Q : VK) (E : XK), Room k (A.deeper (envOfC qual (defScope st) s.heap.objs.size f cdv)) → sp vs H Q E →
      ∃ t, PSs (cxOf CX0 P w K mg base N qual (defScope st) f cdv A outer s H E).nox (defBody st) t ∧ t { nx := fun _ H' => Q .non H', rt := Q } (start N vs) H) : FnR P w K mg base CX0 (k + 1) f sp := by
  obtain ⟨fd, F⟩ := R
  exact ((F.ok S len hbody).raw (ds := []) (dvs := []) (F.binds hb) .nil).imp fun vs H Q E h => by rw [List.append_nil]; exact h
/-- what the class Form is: its slot at pS, its property at pD with the getter gD, its __init__ fI -/
structure FcK (K : PySem.W.Frag) (cF cK pS pD gD fI : Addr) : Prop where
  sc : SCls K cF
  si : SlX.SIsi K cF
  sl : Slot1 K cF "own_coefficients" pS 0
  da : PySem.W.findIn K (.ref cF) "discriminant" = some (some (.ref pD))
  dg : PySem.W.specialIn K (.ref pD) "__get__" = some (some (.builtin "property.__get__"))
  dt : PySem.W.takesIn K (.ref pD) = some true
  dr : ∃ rest, PySem.W.recIn K pD "property" = some (.ref gD :: rest)
  mak : Mk K cF fI
  nk : PySem.W.kitOne K (.type "tuple") (.ref cK) = some false
  fk : PySem.W.kitOne K (.ref cF) (.ref cF) = some true
section
variable {X : Cx} {sp : Sp} {n k : Nat} {e : Expr} {es : List Expr} {pos p : Pos} {ta : TE} {t : TA}
theorem pe_discr (FC : FcK X.K cF cK pS pD gD fI) (F : FnR X.prog X.w X.K X.mg X.base CX0 n gD sp) (hr : Room (n + 1) X.A) (he : PE X e ta) (hb : attributeBase e "discriminant" X.env (eval e X.env) = eval e X.env := by rfl) : PE X (.Attribute e "discriminant" pos) (SlX.tPropSl cF sp E0 ta) :=
  SlX.pe_propSl he FC.sc FC.da FC.dg FC.dt FC.dr F hr (fun _ _ _ _ h => h.elim) hb
theorem mkForm (FC : FcK X.K cF cK pS pD gD fI) (F : FnR X.prog X.w X.K X.mg X.base CX0 k fI sp) (hr : Room (k + 1) X.A) (hg : Gl X "Form") (hm : X.mg "Form" = some (.ref cF)) (ha : PA X (e :: es) t)
    (he : starEach (e :: es) X.env = (false, eval e X.env) :: starEach es X.env := by rfl) (hpl : (backTo pos (starEach es X.env)).any (·.1) = false := by rfl) : PE X (.Call (.Name "Form" p) (e :: es) [] pos) (StX.tMakeR cF sp E0 t) :=
  StX.pe_makeR FC.mak F hr hg hm pass0 ha (by decide) he hpl
end
/-! ### are_integers, form_told -/
abbrev s16 : Stmt := topS 16
theorem sc16 : FnScope ["value", "size", "entry"] ["value", "size"] (defScope s16) := ⟨rfl, rfl, rfl, by decide +kernel, rfl, by decide +kernel, by decide +kernel⟩
def spAreInts (K : PySem.W.Frag) : Sp := fun vs H Q _ => ∃ (v : V) (a b c d : Int), vs = [v, .int 4] ∧ Rw K H v [a, b, c, d] ∧ RowZ 199 a b c d ∧ ∀ H', Ex H H' → Q (.bl true) H'
theorem fk16 (R : Raw K mg "are_integers" s16) (T : Bt K mg aE cF cK) (F_is_integer : Fk P w K mg base "is_integer" 2 ["value"] spInteger) : Fk P w K mg base "are_integers" 3 ["value", "size"] (spAreInts K) := by
  refine R.fk sc16 (fun _ _ _ _ _ _ us hl => match us, hl with | [_, _], _ => rfl) (fun vs H Q E h => ?_) (fun f cdv A outer s H vs Q E hr h => ?_)
  · obtain ⟨v, a, b, c, d, rfl, _⟩ := h; rfl
  · obtain ⟨v, a, b, c, d, rfl, hv, hz, k⟩ := h
    refine ⟨_, (pss_one (ps_ret (pe_and (pe_callB call_isi (by rfl) T.isinstance (by decide +kernel) (pa_cons (pv 0) (pa_cons (pe_bltn (v := .ty "tuple") rfl T.tuple (by decide +kernel) rfl) pa_nil))) (pe_and (pe_cmpR op_eq (pe_callB call_len_seq (by rfl) T.len (by decide +kernel) (pa_cons (pv 0) pa_nil)) (pv 1) (nomark _)) (pe_one (pe_callB (cr_all rfl) (by rfl) T.all (by decide +kernel) (pa_cons (pe_lc (own := [(("entry" : Str), 2)]) (g := gName 2) rfl sc16.nd (pi_tup (pv 0)) (blkOk_by (own := [(("entry" : Str), 2)]) (N := ["value", "size", "entry"]) (sc := defScope s16) (by decide +kernel)) (fun _ _ _ _ _ => pg_name (i := 2) sc16.nd rfl (Or.inl rfl)) (fun _ _ _ _ _ => pts_nil) (fun _ _ _ _ _ => (pf F_is_integer (hr.mono (by decide)) rfl (pa_cons (pv 2) pa_nil)))) pa_nil))))))), ?_⟩
    obtain ⟨p, rfl, hp⟩ := rw_at hv
    refine at_st (σ2 := [some _, some _, none]) rfl ?_
    refine s_ret (ev_is (v := .bl (true && (decide ((4 : Int) = 4) && true))) (ev_andV (ev_isi (ea_cons (ev_var rfl) (ea_cons ev_c ea_nil)) (fun H1 e1 => tyx_tup (ex_t e1 hp)) (by decide +kernel)) fun _ =>
      ev_andV (ev_op (ev_len (ea_cons (ev_var rfl) ea_nil) (.inr hp)) (ev_var rfl) rv_eqI) fun _ => ev_is (ev_all_lc (n := 4) (f := fun _ => true) (el_lc0 (fun _ => V.bl true) (ei_tup (ev_var rfl) hp) (by simp) (fun _ => rfl) (fun i x H1 hi e1 y => ?_) (fun _ _ _ _ _ y => y))) rfl) rfl) k
    rw [List.getElem?_map] at y
    obtain ⟨u, hu, rfl⟩ := Option.map_eq_some_iff.mp y
    refine ev_call' (ea_cons (ev_var rfl) ea_nil) fun H2 e2 Q' q' => ⟨.int u, true, rfl, rfl, fun i' hi' => ?_, q'⟩
    cases hi'
    match i, hu with
    | 0, hu => cases hu; exact hz.a
    | 1, hu => cases hu; exact hz.b
    | 2, hu => cases hu; exact hz.c
    | 3, hu => cases hu; exact hz.d
abbrev s30 : Stmt := topS 30
theorem sc30 : FnScope ["coefficients"] ["coefficients"] (defScope s30) := ⟨rfl, rfl, rfl, by decide +kernel, rfl, by decide +kernel, by decide +kernel⟩
def spTold (K : PySem.W.Frag) : Sp := fun vs H Q _ => ∃ (v : V) (a b c d : Int), vs = [v] ∧ Rw K H v [a, b, c, d] ∧ RowZ 199 a b c d ∧ ∀ H', Ex H H' → Q v H'
theorem fk30 (R : Raw K mg "form_told" s30) (T : Bt K mg aE cF cK) (FC : FcK K cF cK pS pD gD fI) (F_are_integers : Fk P w K mg base "are_integers" 3 ["value", "size"] (spAreInts K)) : Fk P w K mg base "form_told" 4 ["coefficients"] (spTold K) := by
  refine R.fk sc30 (fun _ _ _ _ _ _ us hl => match us, hl with | [_], _ => rfl) (fun vs H Q E h => ?_) (fun f cdv A outer s H vs Q E hr h => ?_)
  · obtain ⟨v, a, b, c, d, rfl, _⟩ := h; rfl
  · obtain ⟨v, a, b, c, d, rfl, hv, hz, k⟩ := h
    refine ⟨_, (pss_cons (ps_if (pt_val (pe_callB call_isi (by rfl) T.isinstance (by decide +kernel) (pa_cons (pv 0) (pa_cons (pe_gr rfl T.KeptForm) pa_nil)))) (pss_one (ps_ret (pe_sl (pv 0)))) pss_nil)
      (pss_cons (ps_if (pt_not (pt_val (pf F_are_integers (hr.mono (by decide)) rfl (pa_cons (pv 0) (pa_cons (pe_gi rfl T.SIZE) pa_nil))))) (pss_one ps_never) pss_nil)
      (pss_one (ps_ret (pv 0))))), ?_⟩
    obtain ⟨p, rfl, hp⟩ := rw_at hv
    refine at_st (σ2 := [some _]) rfl ?_
    refine q_when (b := false) (et_B fun H1 e1 Q' q' => ea_cons (ev_var rfl) (ea_cons ev_c ea_nil) H1 e1 _ fun H2 e2 => ⟨_, _, _, _, _, rfl, .own cK, tyx_tup (ex_t (e1.trans e2) hp), FC.nk, q' H2 e2⟩) (fun hb => by cases hb) (fun _ H1 e1 => ?_)
    refine q_when (b := false) (et_is (et_not (a := true) (et_B (ev_call' (ea_cons (ev_var rfl) (ea_cons ev_c ea_nil)) fun H2 e2 Q' q' => ⟨_, a, b, c, d, rfl, rw_ex (e1.trans e2) hv, hz, q'⟩))) rfl) (fun hb => by cases hb) (fun _ H2 e2 => ?_)
    exact s_ret (ev_var rfl) fun H3 e3 => k H3 ((e1.trans e2).trans e3)
/-! ### a form -/
def Fm (K : PySem.W.Frag) (cF : Addr) (H : Hp) (z : V) (a b c d : Int) : Prop := ∃ x dx v, z = .ref x ∧ Slt H x cF dx [some v] ∧ Rw K H v [a, b, c, d]
theorem slt_ex {H H' : Hp} {x C dx : Addr} {vs : List (Option V)} (e : Ex H H') (h : Slt H x C dx vs) : Slt H' x C dx vs := by
  rcases h with ⟨h1, h2⟩ | ⟨h1, h2⟩
  · exact .inl ⟨e _ _ h1, h2⟩
  · exact .inr ⟨e _ _ h1, e _ _ h2⟩
theorem fm_ex {H H' : Hp} {z : V} {a b c d : Int} (e : Ex H H') (h : Fm K cF H z a b c d) : Fm K cF H' z a b c d := by
  obtain ⟨x, dx, v, h1, h2, h3⟩ := h
  exact ⟨x, dx, v, h1, slt_ex e h2, rw_ex e h3⟩
abbrev s29_1 : Stmt := inClass (topS 29) 1
theorem sc29_1 : FnScope ["self", "coefficients"] ["self", "coefficients"] (defScope s29_1) := ⟨rfl, rfl, rfl, by decide +kernel, rfl, by decide +kernel, by decide +kernel⟩
def spInit (K : PySem.W.Frag) (cF : Addr) : Sp := fun vs H Q _ => ∃ (x dx : Addr) (v : V) (a b c d : Int), vs = [.ref x, v] ∧ H x = some (.ins cF dx []) ∧ Rw K H v [a, b, c, d] ∧ RowZ 199 a b c d ∧ ∀ H', Ex H H' → Q .non (slH H' x cF dx [some v])
theorem fn_init (R : RawM K "__init__" "Form.__init__" s29_1 fI) (T : Bt K mg aE cF cK) (FC : FcK K cF cK pS pD gD fI) (F_form_told : Fk P w K mg base "form_told" 4 ["coefficients"] (spTold K)) : FnR P w K mg base CX0 5 fI (spInit K cF) := by
  refine R.fnr sc29_1 (fun _ _ _ _ _ _ us hl => match us, hl with | [_, _], _ => rfl) (fun vs H Q E h => ?_) (fun cdv A outer s H vs Q E hr h => ?_)
  · obtain ⟨x, dx, v, a, b, c, d, rfl, _⟩ := h; rfl
  · obtain ⟨x, dx, v, a, b, c, d, rfl, hx, hv, hz, k⟩ := h
    refine ⟨_, (pss_one (ps_sl (pv 0) (pf F_form_told (hr.mono (by decide)) rfl (pa_cons (pv 1) pa_nil)))), ?_⟩
    refine at_st (σ2 := [some _, some _]) rfl ?_
    refine ev_call' (H := H) (z := v) (ea_cons (ev_var rfl) ea_nil) (fun H1 e1 Q' q' => ⟨_, a, b, c, d, rfl, rw_ex e1 hv, hz, q'⟩) H (Ex.refl H) _ fun H1 e1 => ?_
    exact ⟨.ref x, rfl, x, cF, dx, pS, [], 0, rfl, .inl ⟨e1 _ _ hx, rfl⟩, FC.sc, FC.sl, k H1 e1⟩
abbrev s29_4 : Stmt := inClass (topS 29) 4
theorem sc29_4 : FnScope ["self"] ["self"] (defScope s29_4) := ⟨rfl, rfl, rfl, by decide +kernel, rfl, by decide +kernel, by decide +kernel⟩
def spDiscP (K : PySem.W.Frag) (cF : Addr) : Sp := fun vs H Q _ => ∃ (z : V) (a b c d : Int), vs = [z] ∧ Fm K cF H z a b c d ∧ RowZ 400 a b c d ∧ ∀ H', Ex H H' → Q (.int (disc a b c d)) H'
theorem ev_own {σ : L2.St} {H : Hp} {ta : TE} {x dx : Addr} {v : V} (FC : FcK K cF cK pS pD gD fI) (h : Ev ta σ H (.ref x)) (hs : Slt H x cF dx [some v]) : Ev (tSl K ta "own_coefficients") σ H v := fun H1 e Q q =>
  h H1 e _ fun H2 e2 => ⟨x, cF, dx, pS, _, 0, v, rfl, slt_ex (e.trans e2) hs, FC.sc, FC.sl, rfl, q H2 e2⟩
theorem fn_discr (R : RawM K "discriminant" "Form.discriminant" s29_4 gD) (T : Bt K mg aE cF cK) (FC : FcK K cF cK pS pD gD fI) (F_discriminant_of : Fk P w K mg base "discriminant_of" 1 ["numbers"] (spDisc K)) : FnR P w K mg base CX0 2 gD (spDiscP K cF) := by
  refine R.fnr sc29_4 (fun _ _ _ _ _ _ us hl => match us, hl with | [_], _ => rfl) (fun vs H Q E h => ?_) (fun cdv A outer s H vs Q E hr h => ?_)
  · obtain ⟨z, a, b, c, d, rfl, _⟩ := h; rfl
  · obtain ⟨z, a, b, c, d, rfl, ⟨x, dx, v, rfl, hs, hv⟩, hz, k⟩ := h
    refine ⟨_, (pss_one (ps_ret (pf F_discriminant_of (hr.mono (by decide)) rfl (pa_cons (pe_sl (pv 0)) pa_nil)))), ?_⟩
    refine at_st (σ2 := [some _]) rfl ?_
    exact s_ret (ev_call' (ea_cons (ev_own FC (ev_var rfl) hs) ea_nil) fun H1 e1 Q' q' => ⟨_, a, b, c, d, rfl, rw_ex e1 hv, hz, q'⟩) k
/-- a form made -/
theorem er_form {σ : L2.St} {H : Hp} {ta : TE} {a b c d : Int} (h : Er ta σ H (fun v H' => Rw K H' v [a, b, c, d])) (hz : RowZ 199 a b c d) : Er (StX.tMakeR cF (spInit K cF) E0 (tCons ta tNil)) σ H (fun z H' => Fm K cF H' z a b c d) := fun H1 e Q q =>
  h H1 e _ fun v H2 e2 hv x dx hx hdx hne => by
    have e3 : Ex H2 (upd (upd H2 dx (.own x)) x (.ins cF dx [])) := (Ex.new hdx).trans (Ex.new (by rw [upd_ne (fun z => hne z.symm)]; exact hx))
    refine ⟨x, dx, v, a, b, c, d, rfl, upd_same, rw_ex e3 hv, hz, fun H' e4 => ⟨rfl, ?_⟩⟩
    have e5 : Ex H2 (slH H' x cF dx [some v]) := fun a o h => by
      rw [slH_ne (ne_of_none h hx) (ne_of_none h hdx)]
      exact e4 a o (e3 a o h)
    exact q _ _ (e2.trans e5) ⟨x, dx, v, rfl, slH_slt hne, rw_ex e5 hv⟩
theorem ev_discr {σ : L2.St} {H : Hp} {ta : TE} {z : V} {a b c d : Int} (h : Ev ta σ H z) (hs : Fm K cF H z a b c d) (hz : RowZ 400 a b c d) : Ev (SlX.tPropSl cF (spDiscP K cF) E0 ta) σ H (.int (disc a b c d)) := fun H1 e Q q =>
  h H1 e _ fun H2 e2 => by
    obtain ⟨x, dx, v, rfl, h2, h3⟩ := hs
    exact ⟨x, dx, _, rfl, slt_ex (e.trans e2) h2, .ref x, a, b, c, d, rfl, ⟨x, dx, v, rfl, slt_ex (e.trans e2) h2, rw_ex (e.trans e2) h3⟩, hz, fun H' e3 => q H' (e2.trans e3)⟩
theorem et_isF {σ : L2.St} {H : Hp} {ta : TA} {z : V} {a b c d : Int} (FC : FcK K cF cK pS pD gD fI) (h : EvA ta σ H [z, .ref cF]) (hs : Fm K cF H z a b c d) : Ev (tCB (SlX.rIsiSl K (.ref cF)) ta) σ H (.bl true) := fun H1 e Q q =>
  h H1 e _ fun H2 e2 => by
    obtain ⟨x, dx, v, rfl, h2, h3⟩ := hs
    exact ⟨x, cF, dx, _, .ref cF, true, rfl, rfl, fun w r => r, slt_ex (e.trans e2) h2, FC.sc, FC.si, FC.fk, q H2 e2⟩
/-! ### require_form, require_stepped -/
abbrev s32 : Stmt := topS 32
theorem sc32 : FnScope ["value"] ["value"] (defScope s32) := ⟨rfl, rfl, rfl, by decide +kernel, rfl, by decide +kernel, by decide +kernel⟩
def spReqF (K : PySem.W.Frag) (cF : Addr) : Sp := fun vs H Q _ => ∃ (z : V) (a b c d : Int), vs = [z] ∧ Fm K cF H z a b c d ∧ ∀ H', Ex H H' → Q .non H'
theorem fk32 (R : Raw K mg "require_form" s32) (T : Bt K mg aE cF cK) (FC : FcK K cF cK pS pD gD fI) : Fk P w K mg base "require_form" 1 ["value"] (spReqF K cF) := by
  refine R.fk sc32 (fun _ _ _ _ _ _ us hl => match us, hl with | [_], _ => rfl) (fun vs H Q E h => ?_) (fun f cdv A outer s H vs Q E hr h => ?_)
  · obtain ⟨z, a, b, c, d, rfl, _⟩ := h; rfl
  · obtain ⟨z, a, b, c, d, rfl, hs, k⟩ := h
    refine ⟨_, (pss_one (ps_if (pt_not (pt_val (pe_callB (call_isiSl (.ref cF)) (by rfl) T.isinstance (by decide +kernel) (pa_cons (pv 0) (pa_cons (pe_gr rfl T.Form) pa_nil))))) (pss_one ps_never) pss_nil)), ?_⟩
    refine at_st (σ2 := [some _]) rfl ?_
    exact s_when (b := false) (et_is (et_not (a := true) (et_B (et_isF FC (ea_cons (ev_var rfl) (ea_cons ev_c ea_nil)) hs))) rfl) (fun hb => by cases hb) fun _ H1 e1 => k H1 e1
abbrev s47 : Stmt := topS 47
theorem sc47 : FnScope ["form", "size"] ["form"] (defScope s47) := ⟨rfl, rfl, rfl, by decide +kernel, rfl, by decide +kernel, by decide +kernel⟩
def spReqS (K : PySem.W.Frag) (cF : Addr) : Sp := fun vs H Q _ => ∃ (z : V) (a b c d : Int), vs = [z] ∧ Fm K cF H z a b c d ∧ RowZ 400 a b c d ∧ disc a b c d ≠ 0 ∧ (disc a b c d).natAbs ≤ 100000000 ∧ ∀ H', Ex H H' → Q .non H'
theorem fk47 (R : Raw K mg "require_stepped" s47) (T : Bt K mg aE cF cK) (FC : FcK K cF cK pS pD gD fI) (F_discr : FnR P w K mg base CX0 2 gD (spDiscP K cF)) (F_require_form : Fk P w K mg base "require_form" 1 ["value"] (spReqF K cF)) : Fk P w K mg base "require_stepped" 4 ["form"] (spReqS K cF) := by
  refine R.fk sc47 (fun _ _ _ _ _ _ us hl => match us, hl with | [_], _ => rfl) (fun vs H Q E h => ?_) (fun f cdv A outer s H vs Q E hr h => ?_)
  · obtain ⟨z, a, b, c, d, rfl, _⟩ := h; rfl
  · obtain ⟨z, a, b, c, d, rfl, hs, hz, hd0, hdn, k⟩ := h
    refine ⟨_, (pss_cons (ps_expr (pf F_require_form (hr.mono (by decide)) rfl (pa_cons (pv 0) pa_nil)))
      (pss_cons (ps_set (i := 1) sc47.nd rfl (Or.inl rfl) (pe_callB call_abs (by rfl) T.abs (by decide +kernel) (pa_cons (pe_discr FC F_discr (hr.mono (by decide)) (pv 0)) pa_nil)))
      (pss_cons (ps_if (pt_cmpR op_eq (pv 1) pe_int (nomark _)) (pss_one ps_never) pss_nil)
      (pss_one (ps_if (pt_cmpR op_gt (pv 1) (pe_gi rfl T.MAX_STEPPED) (nomark _)) (pss_one ps_never) pss_nil))))), ?_⟩
    refine at_st (σ2 := [some _, none]) rfl ?_
    refine q_drop (v := .non) (ev_call' (ea_cons (ev_var rfl) ea_nil) fun H1 e1 Q' q' => ⟨z, a, b, c, d, rfl, fm_ex e1 hs, q'⟩) fun H1 e1 => ?_
    refine q_asg (v := .int ((disc a b c d).natAbs : Int)) (ev_is (ev_abs (ea_cons (ev_discr (ev_var rfl) (fm_ex e1 hs) hz) ea_nil)) (by rw [abs_natAbs])) fun H2 e2 => ?_
    walk_at "zn"
    refine q_when (b := decide (((disc a b c d).natAbs : Int) = 0)) (et_test (ev_op (ev_var rfl) ev_c rv_eqI)) (fun hb => by have := of_decide_eq_true hb; omega) fun _ H3 e3 => ?_
    refine s_when (b := decide ((100000000 : Int) < ((disc a b c d).natAbs : Int))) (et_test (ev_op (ev_var rfl) ev_c rv_I0)) (fun hb => by have := of_decide_eq_true hb; omega) fun _ H4 e4 => ?_
    exact k H4 (((e1.trans e2).trans e3).trans e4)
end
end Z
/-! Zn: next over a generator expression, with a default. -/
namespace Z
open PySem PySem.Spec PyProof.Rows L2 GxR
abbrev genX (X : Cx) (A : Around) (s : Shared) (H : Hp) (cenv : Env) (fp : List Addr) : Cx :=
  { X with A := A, s_0 := s, H_0 := H, env := cenv, outer := X.stack, stack := cenv :: X.stack, ex := fp, fn := fun _ => false, pn := [], xe := fun _ _ => False }
abbrev genE (X : Cx) (scope : Scope) (C : Nat) (code : Value) : Env := genEnv scope (cloFrom X.env.cells scope.names []) C code builtinsNs X.env
section
variable {X : Cx} {pins : List (Addr × Obj)} {σ : L2.St} {H : Hp} {s : Shared}
theorem gen_start {scope : Scope} {own : List (Str × Nat)} {fp : List Addr} {code : Value} {h' : Heap} {g' : Array GenState} {tk : Nat} {A' : Around} {mm : Str → Option Value} (Iv : Inv X pins σ H s) (bo : BlkOk X.N X.env.scope scope own) (hN : X.N.Nodup)
    (noCl : ∀ y ∈ scope.names, y.2 ≠ .cell) (hfp : ∀ b ∈ fp, FpOk X pins H b ∧ b < s.heap.objs.size) (kp : ∀ b o, s.heap.get? b = some o → h'.get? b = some o) (hn : h'.Ns s.heap.objs.size mm)
    (hA : A'.handled = none) (hfr : A'.frames = some (genE X scope s.heap.objs.size code :: X.stack)) (hg : AllBare g') :
    Inv (genX X A' s H (genE X scope s.heap.objs.size code) fp) [] (wipe σ (own.map (·.2))) H { s with heap := h', gens := g', toks := tk } := by
  have frees : ∀ y ∈ scope.names, y.2 = .free → ∃ cc, X.env.cells.lookup y.1 = some cc := fun y yo e => by
    rcases bo.free y yo e with k | k
    · exact Iv.ok.has _ (.inl k)
    · exact Iv.ok.has _ (.inr k)
  have cm : ∀ {y cc}, (y, cc) ∈ cloFrom X.env.cells scope.names [] → (y, NameKind.free) ∈ scope.names ∧ X.env.cells.lookup y = some cc ∧ cc < s.heap.objs.size := fun {y cc} hmn => by
    rcases cloFrom_mem hmn with hmn | ⟨h1, rfl⟩
    · cases hmn
    · obtain ⟨cc, hc⟩ := frees _ h1 rfl
      rw [hc]
      obtain ⟨w, zz⟩ := Iv.cell _ _ hc
      exact ⟨h1, rfl, zz.lt⟩
  have look : ∀ {y}, scope.names.lookup y = some .free → ∃ cc, (cloFrom X.env.cells scope.names []).lookup y = some cc ∧ X.env.cells.lookup y = some cc := fun {y} hl => by
    have yo : (y, NameKind.free) ∈ scope.names := PySem.mem_of_lookup hl
    obtain ⟨c', e'⟩ := mem_lookup (cloFrom_has (cells := X.env.cells) (acc := []) yo)
    exact ⟨c', e', (cm (PySem.mem_of_lookup e')).2.1⟩
  have okB : (genX X A' s H (genE X scope s.heap.objs.size code) fp).Ok := by
    refine ⟨Iv.ok.mod, bo.kind, Iv.ok.glob, rfl, Nat.le_refl _, fun y zz cc e1 e2 => ?_, fun y yo => ?_, fun y cc e => (nomatch e), fun _ => hA, hfr, .inr ⟨rfl, rfl⟩, fun b hb => ⟨?_, fun y cc e zz => ?_⟩, Iv.bs, Nat.le_trans Iv.ok.bsz Iv.sz, fun b o e hb => ?_, fun b hb zz => ?_, Iv.stack, Iv.stkFree⟩
    · exact Iv.ok.inj y zz cc (cm (PySem.mem_of_lookup e1)).2.1 (cm (PySem.mem_of_lookup e2)).2.1
    · rcases yo with yo | yo
      · exact absurd rfl (noCl _ (PySem.mem_of_lookup yo))
      · obtain ⟨cc, h1, _⟩ := look yo
        exact ⟨cc, h1⟩
    · exact Nat.ne_of_lt (hfp b hb).2
    · exact (hfp b hb).1.2.2.2.2.1 y cc (cm (PySem.mem_of_lookup e)).2.1 zz
    · rcases (hfp b hb).1.2.2.2.1 with zz | zz
      · exact Iv.ok.noex b o e zz
      · exact absurd (Nat.lt_of_lt_of_le (Heap.lt_size e) (Nat.le_trans Iv.ok.bsz zz)) (Nat.lt_irrefl _)
    · rcases List.mem_cons.mp (Iv.stkSub b zz) with zz | zz
      · exact (hfp b hb).1.2.1 zz
      · exact (hfp b hb).1.2.2.1 zz
  refine ⟨okB, rfl, hg, Un.kept kp, ⟨mm, hn, fun i y av e1 e2 e3 => ?_⟩, fun y cc e => ?_, Iv.hok.fresh (Nat.le_refl _), fun y cc e => Iv.freeC y cc (cm (PySem.mem_of_lookup e)).2.1, fun p hp => absurd (show p ∈ ([] : List (Addr × Obj)) ++ [] from hp) (by simp), Iv.hok.kept kp, by rw [wipe_length]; exact Iv.len⟩
  · obtain ⟨e2, hne⟩ := wipe_some e2
    have e3 : Vis scope y := e3
    have hf : scope.names.lookup y = some .free := by
      rcases e3 with e3 | e3 | e3
      · rcases bo.own _ (PySem.mem_of_lookup e3) (.inl rfl) with e' | e'
        · obtain ⟨p, hp, hpy⟩ := List.mem_map.mp e'
          have e4 := bo.ix p hp
          have : p.1 = y := hpy
          rw [this] at e4
          exact absurd (List.mem_map.mpr ⟨p, hp, nodup_ix hN e4 e1⟩) hne
        · exact absurd (List.mem_of_getElem? e1) e'
      · exact absurd rfl (noCl _ (PySem.mem_of_lookup e3))
      · exact e3
    obtain ⟨m0, hn0, hl⟩ := Iv.loc
    have hvis : Vis X.env.scope y := (bo.free _ (PySem.mem_of_lookup hf) rfl).elim (fun k => .inr (.inl k)) (fun k => .inr (.inr k))
    obtain ⟨w, r, q⟩ := hl i y av e1 e2 hvis
    refine ⟨w, r, .inr ⟨.inr hf, ?_⟩⟩
    obtain ⟨cc, h1, h2⟩ := look hf
    rcases q with ⟨k, _⟩ | ⟨_, c', e', zz⟩
    · have k : X.env.scope.names.lookup y = some .local := k
      rcases bo.free _ (PySem.mem_of_lookup hf) rfl with k' | k' <;> rw [show X.env.scope.names.lookup y = _ from k'] at k <;> cases k
    · rw [h2] at e'; cases e'
      exact ⟨cc, h1, zz.keeps kp⟩
  · obtain ⟨w, zz⟩ := Iv.cell y cc (cm (PySem.mem_of_lookup e)).2.1
    exact ⟨w, zz.keeps kp⟩
end
def tNextG (P : Addr) (wi : TI) (g : TG) (tt : TT) (te : TE) (vs : List Nat) : TE := fun σ H Q => wi σ H fun J H1 => TabG H1 P ∧ ∀ H2, Tabbed P H1 H2 → ∃ W : Nat → Nat → Hp → Prop, (∃ mm, W 0 mm H2) ∧ ∀ i mm H, W i mm H →
  (J.stop i H ∧ Q .non H) ∨ (J.go i H ∧ ∃ Nx : Hp → Prop, (∀ H', Nx H' → ∃ m', m' < mm ∧ W (i + 1) m' H') ∧ ∀ x H', J.yld i H x H' → g x (wipe σ vs) H' fun σ2 H2 => wipe σ2 vs = wipe σ vs ∧ tt σ2 H2 fun b H3 =>
    if b = true then te σ2 H3 Q else Nx H3)
section
variable {X : Cx} {σ : L2.St}
/-- the loop's segment up to its first yield, or its end -/
theorem gen_seg {elt tg iter : Expr} {ifs : List Expr} {scope : Scope} {pos : Pos} {it : Addr} {fp : List Addr} {tn : Nat → Heap → Prop} {J : It} {Ag : Around} {s4 : Shared} {H4 : Hp} {cenv : Env} {g : TG} {tt : TT} {te : TE} {vs : List Nat} {Q : VK} {W : Nat → Nat → Hp → Prop}
    (hc : X.calm = true) (hco : cenv.scope.isCoroutine = false) (Tn : Turn X.prog X.w X.K tg J fp it tn)
    (pg : PG (genX X (Ag.over (.compLoop (.GeneratorExp elt [⟨tg, iter, ifs, 0⟩] scope pos) 0 (.ref it) .none cenv) []) s4 H4 cenv fp) tg g)
    (pt : PTs (genX X (Ag.over (.compLoop (.GeneratorExp elt [⟨tg, iter, ifs, 0⟩] scope pos) 0 (.ref it) .none cenv) []) s4 H4 cenv fp) ifs tt)
    (pe : PE (genX X (Ag.over (.compLoop (.GeneratorExp elt [⟨tg, iter, ifs, 0⟩] scope pos) 0 (.ref it) .none cenv) []) s4 H4 cenv fp) elt te)
    (turn : ∀ i mm H, W i mm H → (J.stop i H ∧ Q .non H) ∨ (J.go i H ∧ ∃ Nx : Hp → Prop, (∀ H', Nx H' → ∃ m', m' < mm ∧ W (i + 1) m' H') ∧ ∀ x H', J.yld i H x H' → g x (wipe σ vs) H' fun σ2 H2 => wipe σ2 vs = wipe σ vs ∧ tt σ2 H2 fun b H3 =>
      if b = true then te σ2 H3 Q else Nx H3)) :
    ∀ (n i : Nat) (s₀ s : Shared) (H : Hp), Inv (genX X (Ag.over (.compLoop (.GeneratorExp elt [⟨tg, iter, ifs, 0⟩] scope pos) 0 (.ref it) .none cenv) []) s4 H4 cenv fp) [] (wipe σ vs) H s → tn i s.heap → (∀ b ∈ fp, H b = none) → W i n H →
      Seg (model X.prog X.w) Ag (fun _ _ r s₁ => r = .ok .next ∧ ∃ σ' H', Inv (genX X (Ag.over (.compLoop (.GeneratorExp elt [⟨tg, iter, ifs, 0⟩] scope pos) 0 (.ref it) .none cenv) []) s4 H4 cenv fp) [] σ' H' s₁ ∧ Q .non H')
        (fun _ _ v s₁ _ => ∃ σ' H' x, Inv (genX X (Ag.over (.compLoop (.GeneratorExp elt [⟨tg, iter, ifs, 0⟩] scope pos) 0 (.ref it) .none cenv) []) s4 H4 cenv fp) [] σ' H' s₁ ∧ RelV x v ∧ Q x H') 1 s₀
        (.compLoop (.GeneratorExp elt [⟨tg, iter, ifs, 0⟩] scope pos) 0 (.ref it) .none cenv) ((model X.prog X.w).den (.compLoop (.GeneratorExp elt [⟨tg, iter, ifs, 0⟩] scope pos) 0 (.ref it) .none cenv)) [] s := by
  generalize hXg : genX X (Ag.over (.compLoop (.GeneratorExp elt [⟨tg, iter, ifs, 0⟩] scope pos) 0 (.ref it) .none cenv) []) s4 H4 cenv fp = Xg at pg pt pe ⊢
  have eP : Xg.prog = X.prog := by rw [← hXg]
  have ew : Xg.w = X.w := by rw [← hXg]
  have eK : Xg.K = X.K := by rw [← hXg]
  have ec : Xg.calm = true := by rw [← hXg]; exact hc
  have eA : Xg.A = Ag.over (.compLoop (.GeneratorExp elt [⟨tg, iter, ifs, 0⟩] scope pos) 0 (.ref it) .none cenv) [] := by rw [← hXg]
  have ex : Xg.xe = fun _ _ => False := by rw [← hXg]
  have ee : Xg.env = cenv := by rw [← hXg]
  have eo : Xg.ex = fp := by rw [← hXg]
  have epn : Xg.pn = [] := by rw [← hXg]
  have stat : ∀ {σ' : L2.St} {H' : Hp} {s' : Shared}, Inv Xg [] σ' H' s' → (∀ b ∈ fp, H' b = none) → ∀ b ∈ fp, FpOk Xg [] H' b := fun {σ' H' s'} I' hn b hb =>
    ⟨hn b hb, (I'.ok.exf b (by rw [eo]; exact hb)).1, I'.ok.exfs b (by rw [eo]; exact hb), .inl (by rw [eo]; exact hb), fun x cc e => (I'.ok.exf b (by rw [eo]; exact hb)).2 x cc e, fun p hp => by rw [epn] at hp; exact absurd hp (by simp)⟩
  intro n
  induction n using Nat.strongRecOn with
  | _ n ihn =>
  intro i s₀ s H Iv hst hnf wz
  show Seg _ Ag _ _ 1 s₀ _ ((compTurn (.GeneratorExp elt [⟨tg, iter, ifs, 0⟩] scope pos) 0 (.ref it) .none cenv).onRaise (leaving cenv)) [] s
  rw [compTurn_gen, Sem.onRaise_eq_wrap]
  refine seg_bind_wrap (wpAny_standAt ?_)
  refine seg_bind_wrap ?_
  rcases turn i n H wz with ⟨stop, qq⟩ | ⟨go, Nx, hNx, step⟩
  · have tdn := Tn.done Xg eP ew eK ec i [] s _ H (fun _ _ => False) Iv (stat Iv hnf) hst stop
    rw [eA] at tdn
    refine thnF tdn fun r s6 ⟨hr, I6⟩ => ?_
    subst hr
    exact seg_end (.ok .next) ⟨rfl, _, _, I6, qq⟩
  · have tit := Tn.item Xg eP ew eK ec i [] s _ H (fun _ _ => False) Iv (stat Iv hnf) hst go
    rw [eA] at tit
    refine thnF tit fun r s6 ⟨u, hr, h6⟩ => ?_
    subst hr
    refine seg_bind_wrap (thnF h6 fun _ s7 ⟨x, H7, I7, r7, y7, st7, n7⟩ => ?_)
    have I7' := I7.pinned (stat I7 n7) (Tn.obj _ _ st7)
    have hg' := pg.run _ s7 _ H7 x u _ I7' r7 (step x H7 y7)
    rw [eP, ew, eA, ex, ee] at hg'
    refine seg_bind_wrap (thnF hg' fun _ s8 ⟨σ8, H8, I8, hw8, q8⟩ => ?_)
    have ht' := pt.run _ s8 σ8 H8 _ I8 q8
    rw [eP, ew, eA, ex, ee] at ht'
    refine seg_bind_wrap (thnF ht' fun b s9 ⟨H9, I9, q9⟩ => ?_)
    cases b with
    | false =>
      simp only [Bool.false_eq_true, if_false] at q9 ⊢
      obtain ⟨m', hmn, w'⟩ := hNx H9 q9
      have pin' : ∀ b ∈ fp, ∀ o, s7.heap.get? b = some o → s9.heap.get? b = some o ∧ H9 b = none := fun b hb o e =>
        let zz := I9.pin (b, o) (List.mem_append_right _ (List.mem_append_right _ (mem_pinsAt hb e)))
        ⟨zz.1, zz.2.1⟩
      have hl : (wipe σ vs).length = σ8.length := by rw [← hw8, wipe_length]
      refine seg_again rfl (ihn m' hmn (i + 1) s₀ s9 H9 ((I9.unpinned (pins := [])).weak hl (fun j v e => ?_)) (Tn.keep _ _ _ st7 fun b hb o e => (pin' b hb o e).1) (fun b hb => ?_) w')
      · rw [← hw8] at e
        exact (wipe_some e).1
      · obtain ⟨o, e, _⟩ := Tn.obj _ _ st7 b hb
        exact (pin' b hb o e).2
    | true =>
      simp only [if_true] at q9 ⊢
      have yo : ∀ v, yieldOut cenv v = yieldValue v := fun v => by simp only [yieldOut, hco, Bool.false_eq_true, if_false]
      simp only [yo]
      rw [Sem.bind_eq_wrap', Sem.bind_eq_wrap', Sem.wrap_wrap, Sem.wrap_wrap]
      have he' := pe.run _ s9 σ8 H9 _ I9 q9
      rw [eP, ew, eA, ex, ee] at he'
      refine seg_wrap (thnF he' fun y s10 ⟨yv, H10, I10, r10, q10⟩ => ?_)
      exact seg_at (seg_yield rfl rfl rfl ⟨_, _, _, I10.unpinned (pins := []), r10, q10⟩)

theorem bare_setGen {s : Shared} {g : Nat} {gs : GenState} (h : AllBare s.gens) (hb : gs.bare = true) : AllBare (s.setGen g gs).gens := fun y yo => by
  have yo : y ∈ s.gens.setIfInBounds g gs := yo
  rcases Array.mem_or_eq_of_mem_setIfInBounds yo with zz | zz
  · exact h y zz
  · rw [zz]; exact hb
theorem blt_next : bootBuiltins "next" = some (.builtin "next") := by decide +kernel
theorem room_gen {k : Nat} {A : Around} {elt : Expr} {gs : List Comprehension} {scope : Scope} {pos : Pos} {it acc : Value} {cenv : Env} (hr : Room (k + 1) A) : Room k (A.in1.in1.over (.compLoop (.GeneratorExp elt gs scope pos) 0 it acc cenv) []) := by
  have e1 : (A.in1.in1.over (.compLoop (.GeneratorExp elt gs scope pos) 0 it acc cenv) []).depth = A.depth + 1 := by
    simp [Around.over, Code.weight, Code.isCreation, Code.isGuard, Code.isCaller, Code.frames, Code.isFrame, frameCount]
  have e2 : (A.in1.in1.over (.compLoop (.GeneratorExp elt gs scope pos) 0 it acc cenv) []).units ≤ A.units + 10 := by
    simp [Around.over, Code.cUnits, Code.frames, Code.isFrame, unitsOf]
  exact ⟨hr.hd, by have := hr.dp; omega, by have := hr.un; omega⟩
theorem frames_gen {A : Around} {elt : Expr} {gs : List Comprehension} {scope : Scope} {pos : Pos} {it acc : Value} {cenv : Env} {l : List Env} (h : A.frames = some l) : (A.in1.in1.over (.compLoop (.GeneratorExp elt gs scope pos) 0 it acc cenv) []).frames = some (cenv :: l) := by
  show pushEnvs [cenv] (pushEnvs [] A.frames) = _
  rw [h]; rfl
/-- next((elt for tg in iter if ..), None) -/
theorem pe_nextG {cc P : Addr} {elt tg iter : Expr} {ifs : List Expr} {scope : Scope} {own : List (Str × Nat)} {gpos p pos npos : Pos} {j : Nat} {wi : TI} {g : TG} {tt : TT} {te : TE} {k : Nat}
    (TB : TabB X.base X.mg cc P) (hcode : X.env.code = .ref cc) (hc : X.calm = true) (hr : Room (k + 1) X.A) (hg : Gl X "next") (hmn : X.mg "next" = none) (hN : X.N.Nodup) (hco : scope.isCoroutine = false) (noCl : ∀ y ∈ scope.names, y.2 ≠ .cell)
    (hdot : scope.names.lookup (".0" : Str) = some NameKind.local) (hi : PI X tg iter wi) (bo : BlkOk X.N X.env.scope scope own)
    (hpg : ∀ (A : Around) (s : Shared) (H : Hp) (C : Nat) (code : Value) (fp : List Addr), PG (genX X A s H (genE X scope C code) fp) tg g)
    (hpt : ∀ (A : Around) (s : Shared) (H : Hp) (C : Nat) (code : Value) (fp : List Addr), Room k A → PTs (genX X A s H (genE X scope C code) fp) ifs tt)
    (hpe : ∀ (A : Around) (s : Shared) (H : Hp) (C : Nat) (code : Value) (fp : List Addr), PE (genX X A s H (genE X scope C code) fp) elt te)
    (hs : ∀ v, genFold iter X.env v = pure v := by intro _; rfl)
    (he : starEach [.GeneratorExp elt [⟨tg, iter, ifs, 0⟩] scope gpos, .Constant .none j npos] X.env = (false, eval (.GeneratorExp elt [⟨tg, iter, ifs, 0⟩] scope gpos) X.env) :: starEach [.Constant .none j npos] X.env := by rfl)
    (he2 : starEach [.Constant .none j npos] X.env = [(false, eval (.Constant .none j npos) X.env)] := by rfl) :
    PE X (.Call (.Name "next" p) [.GeneratorExp elt [⟨tg, iter, ifs, 0⟩] scope gpos, .Constant .none j npos] [] pos) (tNextG P wi g tt te (own.map (·.2))) := by
  refine ⟨fun pins s σ H Q Iv h => ?_⟩
  refine wpAny_Call_Name_kw (ld_blt Iv hg hmn blt_next ?_)
  refine PyProof.Rows.callWith_builtin1 ?_ he (by rfl)
  rw [he]
  show wpAny _ _ (spliced ((false, eval (.GeneratorExp elt [⟨tg, iter, ifs, 0⟩] scope gpos) X.env) :: backTo pos (starEach [.Constant .none j npos] X.env))) _ _ s
  have frees : ∀ y ∈ scope.names, y.2 = .free → ∃ cc, X.env.cells.lookup y.1 = some cc := fun y yo e => by
    rcases bo.free y yo e with k | k
    · exact Iv.ok.has _ (.inl k)
    · exact Iv.ok.has _ (.inr k)
  refine Calls.spliced_cons (wpAny_GeneratorExp_make hco (closure_ok frees) noCl hdot bo.kind hr.depth ?_ hs)
  refine thn (hi.run pins s σ H _ Iv h) fun xv s1 hxe => thn hxe fun itv s2 h2 => ?_
  obtain ⟨it, fp, tn, J, H2, e, I2, Tn, st2, f2, ⟨ps, hP, ht⟩, q⟩ := h2
  subst e
  have hPs : s2.heap.get? P = some { cls := .none, data := .fields ps } := I2.hok P _ hP
  have hPlt : P < s2.heap.objs.size := Heap.lt_size hPs
  have cd : PySem.W.CodeHd s2.heap cc P := TB.code.keeps fun b u e => I2.bk b u e
  have nP : ∀ b, H2 b = none → b ≠ P := fun b e zz => by rw [zz, hP] at e; cases e
  refine ⟨I2.nolimit, ?_⟩
  have cont : ∀ (code : Value) (h3 : Heap) (tk : Nat) (ps' : Array Value), Heap.ExtBut P s2.heap h3 → s2.heap.objs.size ≤ h3.objs.size → h3.get? P = some { cls := .none, data := .fields ps' } → (∃ more, ps' = ps ++ more) → TriplesOk ps'.toList →
      wpAny (model X.prog X.w) X.A (builtinsFor X.env.globals X.env.builtins) (fun bi s₄ =>
        ∀ h', h'.Ns s₄.heap.objs.size (fun y => if y = ".0" then some (.ref it) else none) → Heap.SameBut s₄.heap.objs.size (s₄.heap.push { cls := .type "frame", data := .dict #[] }) h' →
          (fun v s' => wpAny (model X.prog X.w) X.A (spliced (backTo pos (starEach [.Constant .none j npos] X.env))) (fun us s₁ => wpAny (model X.prog X.w) X.A (call (.builtin "next") (v :: us)) (EP X pins σ Q) X.xe s₁) X.xe s') (.ref h'.objs.size) { s₄ with
            gens := s₄.gens.push (.fresh (.compStart (.GeneratorExp elt [⟨tg, iter, ifs, 0⟩] scope gpos) 0 (.ref it) .none (genEnv scope (cloFrom X.env.cells scope.names []) s₄.heap.objs.size code bi X.env))),
            toks := s₄.toks + 1 + 1 + 1,
            heap := h'.push { cls := .type "generator", data := .fields #[.int s₄.gens.size 0, .str "<genexpr>" (s₄.toks + 1), .str (X.env.qual ++ "<genexpr>") (s₄.toks + 1 + 1)] } }) X.xe { s2 with heap := h3, toks := tk } := by
    intro code h3 tk ps' hxe hsiz hP3 hmore ht3
    obtain ⟨bm, ob, e1, e2, e3, e4, e5, e6, e7, e8⟩ := TB.bm
    have keep3 : ∀ b u, b ≠ P → s2.heap.get? b = some u → h3.get? b = some u := fun b u hb e => hxe b u hb e
    refine wpAny_builtinsFor (m := X.mg) (by rw [I2.ok.glob]; exact (I2.mod.glob.keeps I2.bk).extBut hxe TB.gP) e1 e2 (keep3 _ _ e4 (I2.bk _ _ e5)) e6 e7 e8 ?_
    obtain ⟨more, rfl⟩ := hmore
    have I4 : Inv X pins σ (upd H2 P (.tbl (ps ++ more))) { s2 with heap := h3, toks := tk } := inv_tab (g' := s2.gens) (d' := s2.drawn) I2 hP keep3 hP3 I2.bare
    have hW := q (upd H2 P (.tbl (ps ++ more))) ⟨⟨ps ++ more, upd_same, ht3⟩, fun b hb => upd_ne hb⟩
    generalize hH4 : upd H2 P (.tbl (ps ++ more)) = H4 at I4 hW
    have aH4 : ∀ b, b ≠ P → H4 b = H2 b := fun b hb => by rw [← hH4]; exact upd_ne hb
    generalize hs4 : ({ s2 with heap := h3, toks := tk } : Shared) = s4 at I4 ⊢
    have f4 : ∀ b ∈ fp, FpOk X pins H4 b ∧ b < s4.heap.objs.size := fun b hb => by
      obtain ⟨o, e, _⟩ := Tn.obj _ _ st2 b hb
      exact ⟨⟨by rw [aH4 b (nP b (f2 b hb).1)]; exact (f2 b hb).1, (f2 b hb).2⟩, by rw [← hs4]; exact Nat.lt_of_lt_of_le (Heap.lt_size e) hsiz⟩
    have st4 : tn 0 s4.heap := Tn.keep _ _ _ st2 fun b hb o e => by rw [← hs4]; exact keep3 b o (nP b (f2 b hb).1) e
    obtain ⟨W, ⟨m0, wz⟩, turn⟩ := hW
    intro h' hn' hsb
    have kp' : ∀ b o, s4.heap.get? b = some o → h'.get? b = some o := fun b o e => hsb.extBut b o (Nat.ne_of_lt (Heap.lt_size e)) (Heap.get?_push_of_some _ e)
    generalize hgo : ({ cls := .type "generator", data := .fields #[.int s4.gens.size 0, .str "<genexpr>" (s4.toks + 1), .str (X.env.qual ++ "<genexpr>") (s4.toks + 1 + 1)] } : Obj) = go
    have kp5 : ∀ b o, s4.heap.get? b = some o → (h'.push go).get? b = some o := fun b o e => Heap.get?_push_of_some _ (kp' b o e)
    show wpAny _ _ (spliced (backTo pos (starEach [.Constant .none j npos] X.env))) _ _ _
    rw [he2]
    refine Calls.spliced_cons (Constant_none (k := j) (pos := npos) (Calls.spliced_nil ?_))
    refine Calls.call_function_entry (by decide +kernel) (by decide +kernel) PySem.W.kdk_entry_next (PySem.W.kdk_args_next2 _ _) ?_
    unfold Builtin.«next»
    refine wpAny_bind (m := someArgs "next" 1 2 _) (wpAny_of_eq (a := [Value.ref h'.objs.size, Value.none]) (by first | rfl | kernel_rfl!) ?_)
    dsimp only
    have hgen : (h'.push go).IsGen h'.objs.size s4.gens.size := ⟨_, _, _, Heap.get?_push_size _ (by rw [← hgo]; rfl), by rw [← hgo], by rw [← hgo], by rw [← hgo]⟩
    refine wpAny_bind (wpAny_specialOf (name := Str.ofString "__next__") hgen.typeIs slot_gen_next.lookup ?_)
    refine wpAny_ite_split (fun hab => absurd hab (by decide)) (fun _ => ?_)
    refine wpAny_bind ?_
    have fr4 : X.A.frames = some X.stack := I4.ok.frames
    have lim5 : (h'.push go).NoLimit := I4.nolimit.keeps kp5
    have hC : (h'.push go).Ns s4.heap.objs.size (fun y => if y = ".0" then some (.ref it) else none) := hn'.push go
    have hcs : ∀ (g' : Array GenState) (tk : Nat), AllBare g' → Inv (genX X (X.A.in1.in1.over (.compLoop (.GeneratorExp elt [⟨tg, iter, ifs, 0⟩] scope gpos) 0 (.ref it) .none (genE X scope s4.heap.objs.size code)) []) s4 H4 (genE X scope s4.heap.objs.size code) fp) [] (wipe σ (own.map (·.2))) H4 { s4 with heap := h'.push go, gens := g', toks := tk } :=
      fun g' tk hb => gen_start I4 bo hN noCl f4 kp5 hC hr.hd (frames_gen fr4) hb
    have back : ∀ {s' : Shared} {σ' : L2.St} {H' : Hp}, Inv (genX X (X.A.in1.in1.over (.compLoop (.GeneratorExp elt [⟨tg, iter, ifs, 0⟩] scope gpos) 0 (.ref it) .none (genE X scope s4.heap.objs.size code)) []) s4 H4 (genE X scope s4.heap.objs.size code) fp) [] σ' H' s' → ∀ gs', gs'.bare = true → Inv X pins σ H' (s'.setGen s4.gens.size gs') :=
      fun {s' σ' H'} I6 gs' hb => I4.call' (s' := s'.setGen s4.gens.size gs') (ch := fp) I6.os I6.base I6.hok (bare_setGen I6.bare hb) fun b hb => ⟨(f4 b hb).1.2.2.2.1, (f4 b hb).1.2.1, (f4 b hb).1.2.2.2.2.1, (f4 b hb).1.2.2.2.2.2⟩
    refine wpAny_pyNext_genexpQ (n := 1) (P := fun _ _ s₁ => ∃ σ' H', Inv (genX X (X.A.in1.in1.over (.compLoop (.GeneratorExp elt [⟨tg, iter, ifs, 0⟩] scope gpos) 0 (.ref it) .none (genE X scope s4.heap.objs.size code)) []) s4 H4 (genE X scope s4.heap.objs.size code) fp) [] σ' H' s₁ ∧ Q .non H')
      (Y := fun _ _ v s₁ _ => ∃ σ' H' x, Inv (genX X (X.A.in1.in1.over (.compLoop (.GeneratorExp elt [⟨tg, iter, ifs, 0⟩] scope gpos) 0 (.ref it) .none (genE X scope s4.heap.objs.size code)) []) s4 H4 (genE X scope s4.heap.objs.size code) fp) [] σ' H' s₁ ∧ RelV x v ∧ Q x H')
      hr.hd lim5 (hr.in1 (k := k)).depth hgen (Array.getElem?_push_size ..) ⟨rfl, ?_⟩ (fun v s₁ gs' hb ⟨σ', H', x, I6, r6, q6⟩ => ?_) (fun s₁ ⟨σ', H', I6, q6⟩ h'' kp'' => ?_)
    · have hb5 : AllBare (s4.gens.push (GenState.fresh (.compStart (.GeneratorExp elt [⟨tg, iter, ifs, 0⟩] scope gpos) 0 (.ref it) .none (genE X scope s4.heap.objs.size code)))) := I4.bare.push rfl
      have st5 : tn 0 (h'.push go) := Tn.keep _ _ _ st4 fun b _ o e => kp5 b o e
      have nf : ∀ b ∈ fp, H4 b = none := fun b hb => (f4 b hb).1.1
      generalize hs6 : Shared.setGen _ s4.gens.size .running = s6
      have I6 : Inv (genX X (X.A.in1.in1.over (.compLoop (.GeneratorExp elt [⟨tg, iter, ifs, 0⟩] scope gpos) 0 (.ref it) .none (genE X scope s4.heap.objs.size code)) []) s4 H4 (genE X scope s4.heap.objs.size code) fp) [] (wipe σ (own.map (·.2))) H4 s6 := by
        rw [← hs6]
        exact hcs _ _ (bare_setGen (s := { s4 with gens := _, heap := h'.push go }) hb5 rfl)
      have st6 : tn 0 s6.heap := by rw [← hs6]; exact st5
      have loop := fun s₀ => gen_seg (Ag := X.A.in1.in1) hc hco Tn (hpg _ s4 H4 s4.heap.objs.size code fp) (hpt _ s4 H4 s4.heap.objs.size code fp (room_gen hr)) (hpe _ s4 H4 s4.heap.objs.size code fp) turn m0 0 s₀ s6 H4 I6 st6 nf wz
      show Seg _ _ _ _ 1 _ _ ((compStart (.GeneratorExp elt [⟨tg, iter, ifs, 0⟩] scope gpos) 0 (.ref it) .none (genE X scope s4.heap.objs.size code)).onRaise (leaving (genE X scope s4.heap.objs.size code))) [] _
      unfold compStart
      rw [Sem.onRaise_eq_wrap]
      show Seg _ _ _ _ 1 _ _ ((ask >>= _).wrap _ _ _ _) [] _
      refine seg_bind_wrap (wpAny_askSetting ?_)
      split
      · exact seg_again rfl (loop _)
      · first
          | exact seg_bind_wrap (wpAny_rule (seg_bind_wrap (wpAny_standAt (seg_bind_wrap (Tn.self _ 0 _ _ _ st6 (seg_again rfl (loop _)))))))
          | (refine seg_bind_wrap (wpAny_rule ?_); show Seg _ _ _ _ 1 _ _ ((standAt iter.pos >>= _).wrap _ _ _ _) [] _; exact seg_bind_wrap (wpAny_standAt (seg_bind_wrap (Tn.self _ 0 _ _ _ st6 (seg_again rfl (loop _))))))
    · exact wpAny_pure ⟨_, rfl, x, H', back I6 gs' hb, r6, q6⟩
    · have I7 := back I6 .finished rfl
      exact wpAny_pure ⟨_, rfl, .non, H', I7.kept (t' := s₁.toks) kp'', rfl, q6⟩
  cases hf : codeAmong gpos ps.toList with
  | none =>
    refine wpAny_genexprCodeX hcode (cd.code hPs ht) (cd.tab hPs) hf fun c' h' tk hxe hge hlt hco' _ htab' _ => ?_
    obtain ⟨o1, vs, f1, tf, fl, tg, inF, tx, tt, op, _, _, _, _, _, _, _, _, _, htr, _⟩ := hco'
    exact cont _ h' tk _ hxe (Nat.le_trans hge (Nat.le_of_lt hlt)) htab'.2 ⟨_, rfl⟩ htr
  | some cv =>
    refine wpAny_genexprCode_hit hcode (cd.code hPs ht) hf ?_
    exact cont cv s2.heap s2.toks ps (Heap.ExtBut.refl _ _) (Nat.le_refl _) hPs ⟨#[], by simp⟩ ht
end
end Z
namespace Z
open PySem PySem.Spec PyProof.Rows L2 Evl Zm SlX
local macro_rules | `(tactic| walk_at "zi") => `(tactic| (repeat' first | exact evi_c | exact evi_var rfl (by with_reducible assumption) | apply evi_add | apply evi_sub | apply evi_mul); all_goals (show _ ≤ 1000000; decide))
local macro_rules | `(tactic| walk_at "zn") => `(tactic| dsimp only [List.set_cons_zero, List.set_cons_succ])
section
variable {P : Program} {w : World} {K : PySem.W.Frag} {mg : Str → Option Value} {base : Heap}
variable {aE cF cK pS pD gD fI P1 P2 : Addr}
open GxR
/-! Zj: the tables that grow; bar_at, first_bar -/
/-- a def whose code object stands at c -/
def RawT (K : PySem.W.Frag) (mg : Str → Option Value) (x : Str) (st : Stmt) (c : Addr) : Prop := ∃ (f : Addr) (oc : Value) (od an : Option Addr) (kV doc pm ct : Value) (osl : Array (Option Value)),
  mg x = some (.ref f) ∧ K.lookup f = some ⟨oc, od, .func (PySem.W.fnOf x x (defArgs st) (defBody st) (defScope st) .none kV doc pm an (.ref c) ct), osl⟩ ∧ PySem.W.codeIn K (.ref c) x = true ∧ PySem.W.keepIn K (.ref f) = true
theorem RawT.fk {x : Str} {st : Stmt} {c : Addr} {N ps : List Str} {k : Nat} {sp : Sp} (R : RawT K mg x st c) (S : FnScope N ps (defScope st))
    (hb : ∀ (kV doc pm : Value) (an : Option Addr) (cdv ct : Value) (us : List Value), us.length = ps.length → bindArgs (PySem.W.fnOf x x (defArgs st) (defBody st) (defScope st) .none kV doc pm an cdv ct) ⟨us, []⟩ = pure (ps.zip us))
    (len : ∀ vs H Q E, sp vs H Q E → vs.length = ps.length)
    (hbody : ∀ (f : Addr) (A : Around) (outer : List Env) (s : Shared) (H : Hp) (vs : List V) (Q : VK) (E : XK), Room k (A.deeper (envOfC x (defScope st) s.heap.objs.size f (.ref c))) → sp vs H Q E →
      ∃ t, PSs (cxOf CX0 P w K mg base N x (defScope st) f (.ref c) A outer s H E).nox (defBody st) t ∧ t { nx := fun _ H' => Q .non H', rt := Q } (start N vs) H) : Fk P w K mg base x (k + 1) ps sp := by
  obtain ⟨f, oc, od, an, kV, doc, pm, ct, osl, hm, lk, hcd, hk⟩ := R
  refine ⟨f, _, hm, hk, .all (hb kV doc pm an _ ct), fn_of lk hcd S len fun A outer s H vs Q E hr hsp => ?_⟩
  obtain ⟨t, h, q⟩ := hbody f A outer s H vs Q E hr hsp
  exact ⟨t, h.nox, q⟩
/-! ### all but tables stay -/
structure ExN (P1 P2 : Addr) (H H' : Hp) : Prop where
  k : ∀ a o, H a = some o → (∀ q, o ≠ .tbl q) → H' a = some o
  t1 : TabG H P1 → TabG H' P1
  t2 : TabG H P2 → TabG H' P2
section
variable {H H' H1 H2 : Hp}
theorem ExN.refl (H : Hp) : ExN P1 P2 H H := ⟨fun _ _ h _ => h, id, id⟩
theorem ExN.trans (a : ExN P1 P2 H H1) (b : ExN P1 P2 H1 H2) : ExN P1 P2 H H2 := ⟨fun x o h n => b.k x o (a.k x o h n) n, fun h => b.t1 (a.t1 h), fun h => b.t2 (a.t2 h)⟩
theorem tab_ex {p : Addr} (e : Ex H H') (h : TabG H p) : TabG H' p := by
  obtain ⟨ps, h1, h2⟩ := h
  exact ⟨ps, e _ _ h1, h2⟩
theorem toN (e : Ex H H') : ExN P1 P2 H H' := ⟨fun a o h _ => e a o h, tab_ex e, tab_ex e⟩
theorem tabbed_N {p : Addr} (ht : TabG H p) (h : Tabbed p H H') : ExN P1 P2 H H' := by
  have key : ∀ q, TabG H q → TabG H' q := fun q hq => by
    by_cases e : q = p
    · rw [e]; exact h.1
    · obtain ⟨ps, h1, h2⟩ := hq
      exact ⟨ps, by rw [h.2 q e]; exact h1, h2⟩
  obtain ⟨ps, h1, _⟩ := ht
  refine ⟨fun a o ha n => ?_, key P1, key P2⟩
  have : a ≠ p := fun z => by
    rw [z, h1] at ha
    exact n ps (Option.some.inj ha).symm
  rw [h.2 a this]; exact ha
theorem exn_upd {D : Addr} {acc : List V} {o : HO} (h : H D = some (.lst acc)) (hD : H1 D = none) (e : ExN P1 P2 H1 H) : ExN P1 P2 H1 (upd H D o) := by
  have key : ∀ q, TabG H q → TabG (upd H D o) q := fun q ⟨ps, h1, h2⟩ => ⟨ps, by rw [upd_ne (fun z => by rw [z, h] at h1; cases h1)]; exact h1, h2⟩
  refine ⟨fun a u ha n => ?_, fun z => key _ (e.t1 z), fun z => key _ (e.t2 z)⟩
  rw [upd_ne (ne_of_none ha hD)]
  exact e.k a u ha n
theorem exn_t {a : Addr} {xs : List V} (e : ExN P1 P2 H H') (h : SqT K H a xs) : SqT K H' a xs := by
  rcases h with (h | ⟨o, h⟩) | h
  · exact Or.inl (Or.inl (e.k a _ h (fun _ z => by cases z)))
  · exact Or.inl (Or.inr ⟨o, e.k a _ h (fun _ z => by cases z)⟩)
  · exact Or.inr h
theorem exn_l {a : Addr} {xs : List V} (e : ExN P1 P2 H H') (h : SqL K H a xs) : SqL K H' a xs := by
  rcases h with (h | ⟨o, h⟩) | h
  · exact Or.inl (Or.inl (e.k a _ h (fun _ z => by cases z)))
  · exact Or.inl (Or.inr ⟨o, e.k a _ h (fun _ z => by cases z)⟩)
  · exact Or.inr h
mutual
theorem dp_exn (e : ExN P1 P2 H H') : ∀ (d : PyData) (v : V), Dp K H v d → Dp K H' v d
  | .none, _, .non => .non
  | .bool _, _, .bl b => .bl b
  | .int _, _, .int i => .int i
  | .str _, _, .str s => .str s
  | .list ds, _, .lst h a => .lst (exn_l e h) (dpa_exn e ds _ a)
  | .tuple ds, _, .tup h a => .tup (exn_t e h) (dpa_exn e ds _ a)
theorem dpa_exn (e : ExN P1 P2 H H') : ∀ (ds : List PyData) (vs : List V), DpAll K H vs ds → DpAll K H' vs ds
  | [], _, .nil => .nil
  | d :: ds, _, .cons h t => .cons (dp_exn e d _ h) (dpa_exn e ds _ t)
end
theorem rw_exn (e : ExN P1 P2 H H') {v : V} {ns : List Int} (h : Rw K H v ns) : Rw K H' v ns := dp_exn e _ _ h
theorem fm_exn {z : V} {a b c d : Int} (e : ExN P1 P2 H H') (h : Fm K cF H z a b c d) : Fm K cF H' z a b c d := by
  obtain ⟨x, dx, v, h1, h2, h3⟩ := h
  refine ⟨x, dx, v, h1, ?_, rw_exn e h3⟩
  rcases h2 with ⟨a1, a2⟩ | ⟨a1, a2⟩
  · cases a2
  · exact .inr ⟨e.k _ _ a1 (fun q z => by cases z), e.k _ _ a2 (fun q z => by cases z)⟩
end
/-! ### readings over it -/
def ErN (P1 P2 : Addr) (te : TE) (σ : L2.St) (H : Hp) (R : V → Hp → Prop) : Prop := ∀ H1, ExN P1 P2 H H1 → ∀ Q : VK, (∀ v H2, ExN P1 P2 H1 H2 → R v H2 → Q v H2) → te σ H1 Q
section
variable {σ : L2.St} {H : Hp} {te ta tl : TE} {tt : TT} {R : V → Hp → Prop} {D : Ends} {tz : TS}
theorem er_N (h : ∀ H1, ExN P1 P2 H H1 → Er te σ H1 R) : ErN P1 P2 te σ H R := fun H1 e Q q => h H1 e H1 (Ex.refl H1) Q fun v H2 e2 r => q v H2 (toN e2) r
theorem ErN.imp {R' : V → Hp → Prop} (h : ErN P1 P2 te σ H R) (i : ∀ v H', R v H' → R' v H') : ErN P1 P2 te σ H R' := fun H1 a Q q => h H1 a Q fun v H2 e r => q v H2 e (i v H2 r)
theorem s_asgN {i : Nat} (h : ErN P1 P2 te σ H R) (k : ∀ v H1, ExN P1 P2 H H1 → R v H1 → D.nx (σ.set i (some v)) H1) : tAsg te (gName i) D σ H := h H (ExN.refl H) _ fun v H1 e r => k v H1 e r
theorem q_asgN {i : Nat} (h : ErN P1 P2 te σ H R) (k : ∀ v H1, ExN P1 P2 H H1 → R v H1 → tz D (σ.set i (some v)) H1) : tSeq (tAsg te (gName i)) tz D σ H := s_asgN (D := { D with nx := tz D }) h k
theorem s_retN (h : ErN P1 P2 te σ H R) (k : ∀ v H1, ExN P1 P2 H H1 → R v H1 → D.rt v H1) : tRet te D σ H := h H (ExN.refl H) _ fun v H1 e r => k v H1 e r
/-- next((x for x in l if b), None) -/
theorem ern_next {p : Addr} {ds : List PyData} {b : PyData → Bool} {j : Nat} {vs : List Nat} (h : ErN P1 P2 tl σ H (fun v H1 => TabG H1 p ∧ Dp K H1 v (.list ds))) (hw : ∀ x, wipe ((wipe σ vs).set j (some x)) vs = wipe σ vs)
    (hj : ∀ x : V, ((wipe σ vs).set j (some x))[j]? = some (some x)) (ht : ∀ d x H3, d ∈ ds → ExN P1 P2 H H3 → Dp K H3 x d → EvT tt ((wipe σ vs).set j (some x)) H3 (b d)) :
    ErN P1 P2 (tNextG p (iList K tl) (gName j) tt (tVar j) vs) σ H (fun v H' => Dp K H' v ((ds.find? b).getD .none)) := fun H1 e Q q =>
  h H1 e _ fun v H2 e2 ⟨hT, r⟩ => by
    obtain ⟨a, xs, rfl, hx, hd⟩ := dp_lst r
    refine ⟨a, rfl, ⟨xs, hx⟩, hT, fun H3 tab => ?_⟩
    have e3 : ExN P1 P2 H2 H3 := tabbed_N hT tab
    have hlen := dpa_len hd
    refine ⟨fun i m H' => m = ds.length - i ∧ i ≤ ds.length ∧ ExN P1 P2 H3 H' ∧ ds.find? b = (ds.drop i).find? b, ⟨ds.length, by simp, Nat.zero_le _, ExN.refl _, rfl⟩, ?_⟩
    rintro i m H' ⟨rfl, hi, e4, hf⟩
    have hx' : SqL K H' a xs := exn_l (e3.trans e4) hx
    by_cases hlt : i < ds.length
    · have hlt' : i < xs.length := by omega
      refine .inr ⟨⟨xs, xs[i], hx', by simp [hlt']⟩, fun H5 => ExN P1 P2 H3 H5 ∧ ds.find? b = (ds.drop (i + 1)).find? b, fun H5 ⟨e5, hf5⟩ => ⟨ds.length - (i + 1), by omega, rfl, hlt, e5, hf5⟩, fun x H5 y => ?_⟩
      obtain ⟨rfl, y⟩ := y
      have hxi := y xs hx'
      obtain ⟨d, h1, h2⟩ := dpa_get hd hxi
      have h2' := dp_exn (e3.trans e4) _ _ h2
      rw [drop_at h1, List.find?_cons] at hf
      refine ⟨hw x, ht d x H5 (List.mem_of_getElem? h1) (((e.trans e2).trans e3).trans e4) h2' H5 (Ex.refl H5) _ fun H6 e6 => ?_⟩
      cases hb : b d with
      | true =>
        rw [hb] at hf
        show tVar j _ H6 Q
        refine ⟨x, hj x, q x H6 (((e2.trans e3).trans e4).trans (toN e6)) ?_⟩
        rw [hf]
        exact dp_ex e6 _ _ h2'
      | false =>
        rw [hb] at hf
        exact ⟨e4.trans (toN e6), hf⟩
    · have e0 : i = ds.length := by omega
      subst e0
      rw [List.drop_length] at hf
      refine .inl ⟨⟨xs, hx', by omega⟩, q .non H' ((e2.trans e3).trans e4) ?_⟩
      rw [hf]
      exact .non
/-- [.. for x in l], the tables growing -/
theorem ern_lc {ds es : List PyData} {j : Nat} {vs : List Nat} (h : ErN P1 P2 tl σ H (fun v H1 => Dp K H1 v (.list ds))) (hn : ds.length ≤ 100000) (he0 : es.length = ds.length) (hw : ∀ x, wipe ((wipe σ vs).set j (some x)) vs = wipe σ vs)
    (he : ∀ (i : Nat) d x H3, ds[i]? = some d → ExN P1 P2 H H3 → Dp K H3 x d → ErN P1 P2 te ((wipe σ vs).set j (some x)) H3 (fun v H' => ∃ d', es[i]? = some d' ∧ noL d' = true ∧ Dp K H' v d')) :
    ErN P1 P2 (tLc (iList K tl) (gName j) tYes te vs) σ H (fun v H' => LtD K H' v es) := fun H1 e Q q =>
  h H1 e _ fun v H2 e2 r => by
    obtain ⟨a, xs, rfl, hx, hd⟩ := dp_lst r
    have hlen := dpa_len hd
    refine ⟨a, rfl, ⟨xs, hx⟩, fun L hL => ?_⟩
    refine lc_it (walk_list (K := K) (a := a) (xs := xs)) (fun i H' => ExN P1 P2 H2 H' ∧ ∃ ys, H' L = some (.lst ys) ∧ ys.length = i ∧ ∀ (k : Nat) y, ys[k]? = some y → ∃ d', es[k]? = some d' ∧ noL d' = true ∧ Dp K H' y d')
      ⟨toN (Ex.new hL), [], upd_same, rfl, fun k y hy => by simp at hy⟩ (fun i H' _ p => exn_l p.1 hx) (fun i x H3 H4 hi p z => ?_) fun H' p => ?_
    · obtain ⟨rfl, hxi⟩ := z
      obtain ⟨e3, ys, hL3, hyl, hall⟩ := p
      obtain ⟨d, h1, h2⟩ := dpa_get hd hxi
      refine ⟨hw x, ?_⟩
      show te _ H4 _
      refine he i d x H4 h1 ((e.trans e2).trans e3) (dp_exn e3 _ _ h2) H4 (ExN.refl _) _ fun y H5 e5 ⟨d', hd1, hd2, hd3⟩ => ?_
      have hL5 : H5 L = some (.lst ys) := e5.k L _ hL3 (fun q z => by cases z)
      refine ⟨ys, hL5, ?_, exn_upd hL5 hL (e3.trans e5), ys ++ [y], upd_same, by rw [List.length_append, hyl]; rfl, fun k y' hk => ?_⟩
      · exact Nat.lt_of_le_of_lt (show ys.length ≤ 100000 by omega) (by decide)
      · by_cases hk2 : k < ys.length
        · rw [List.getElem?_append_left hk2] at hk
          obtain ⟨d2, g1, g2, g3⟩ := hall k y' hk
          exact ⟨d2, g1, g2, dp_exl (exl_upd hL5) _ _ g2 (dp_exn e5 _ _ g3)⟩
        · have hk3 : k = ys.length := by
            have := (List.getElem?_eq_some_iff.mp hk).1
            simp at this
            omega
          subst hk3
          rw [List.getElem?_append_right (Nat.le_refl _), Nat.sub_self] at hk
          have : y = y' := Option.some.inj hk
          subst this
          exact ⟨d', by rw [hyl]; exact hd1, hd2, dp_exl (exl_upd hL5) _ _ hd2 hd3⟩
    · obtain ⟨e3, ys, hL3, hyl, hall⟩ := p
      refine q (.ref L) H' (e2.trans e3) ⟨L, ys, rfl, hL3, dpa_mk (by omega) fun k y hk => ?_⟩
      obtain ⟨d2, g1, _, g3⟩ := hall k y hk
      exact ⟨d2, g1, g3⟩
end

/-! ### bar_at, first_bar -/
theorem rv_isN {x : V} {H : Hp} : RV (fun x y H Q => y = .non ∧ Q (.bl (decide (x = .non))) H) x .non H (.bl (decide (x = .non))) := fun H1 e Q q => ⟨rfl, q H1 (Ex.refl H1)⟩
theorem rv_notN {x : V} {H : Hp} : RV (fun x y H Q => y = .non ∧ Q (.bl (!decide (x = .non))) H) x .non H (.bl (!decide (x = .non))) := fun H1 e Q q => ⟨rfl, q H1 (Ex.refl H1)⟩
theorem dec_non {x : V} {H : Hp} {d : PyData} (h : Dp K H x d) : decide (x = .non) = noneD d := by
  cases h <;> first | rfl | exact decide_eq_false (fun z => by cases z)
def hvD (a b c d : Int) (p : Nat) : PyData → Bool
  | .tuple [.int x, .int y] => hvB a b c d p x y
  | _ => false
theorem find_pairs {a b c d : Int} {p : Nat} : ∀ L : List (Int × Int), (L.map pairD).find? (hvD a b c d p) = (L.find? (heavyAt a b c d p)).map pairD
  | [] => rfl
  | u :: L => by
    rw [List.map_cons, List.find?_cons, List.find?_cons]
    have e : hvD a b c d p (pairD u) = heavyAt a b c d p u := rfl
    rw [e, find_pairs L]
    cases heavyAt a b c d p u <;> rfl
theorem noL_barA {a b c d : Int} {p : Nat} : noL (barA a b c d p) = true := by
  unfold barA
  split
  · rfl
  · cases (plc p).find? (heavyAt a b c d p) <;> rfl
theorem lbar_find {a b c d : Int} : ∀ ps : List Nat, ((ps.map (barA a b c d)).find? (fun x => !noneD x)).getD .none = lbar a b c d ps
  | [] => rfl
  | p :: ps => by
    rw [List.map_cons, List.find?_cons]
    cases h : noneD (barA a b c d p) with
    | true =>
      have e : barA a b c d p = .none := by
        generalize barA a b c d p = x at h
        cases x <;> first | rfl | cases h
      rw [lbar_skip e, ← lbar_find ps]; rfl
    | false => rw [lbar_stop h]; rfl
abbrev s49 : Stmt := topS 49
theorem sc49 : FnScope ["numbers", "prime", "place"] ["numbers", "prime"] (defScope s49) := ⟨rfl, rfl, rfl, by decide +kernel, rfl, by decide +kernel, by decide +kernel⟩
def spBarAt (K : PySem.W.Frag) (P1 P2 : Addr) : Sp := fun vs H Q _ => ∃ (v : V) (a b c d : Int) (p : Nat), vs = [v, .int p] ∧ Rw K H v [a, b, c, d] ∧ RowZ 400 a b c d ∧ 2 ≤ p ∧ p ≤ 10000 ∧ TabG H P1 ∧ ∀ z H', ExN P1 P2 H H' → Dp K H' z (barA a b c d p) → Q z H'
theorem fk49 {c1 : Addr} (R : RawT K mg "bar_at" s49 c1) (TB : TabB base mg c1 P1) (T : Bt K mg aE cF cK) (F_is_divided : Fk P w K mg base "is_divided" 1 ["numbers", "prime"] (spDivided K)) (F_places_at : Fk P w K mg base "places_at" 1 ["prime"] (spPlaces K)) (F_is_heavy : Fk P w K mg base "is_heavy" 2 ["numbers", "prime", "place"] (spHeavy K)) :
    Fk P w K mg base "bar_at" 4 ["numbers", "prime"] (spBarAt K P1 P2) := by
  refine R.fk sc49 (fun _ _ _ _ _ _ us hl => match us, hl with | [_, _], _ => rfl) (fun vs H Q E h => ?_) (fun f A outer s H vs Q E hr h => ?_)
  · obtain ⟨v, a, b, c, d, p, rfl, _⟩ := h; rfl
  · obtain ⟨v, a, b, c, d, p, rfl, hv, hz, hp2, hpn, hT, k⟩ := h
    refine ⟨_, (pss_cons (ps_if (pt_val (pf F_is_divided (hr.mono (by decide)) rfl (pa_cons (pv 0) (pa_cons (pv 1) pa_nil)))) (pss_one (ps_ret (pe_tup (pa_cons (pe_gs rfl T.CONTENT) (pa_cons (pv 1) pa_nil))))) pss_nil)
      (pss_cons (ps_set (i := 2) sc49.nd rfl (Or.inl rfl) (pe_nextG (k := 2) (own := [(("place" : Str), 2)]) (g := gName 2) TB rfl rfl (hr.mono (by decide)) rfl T.next sc49.nd rfl (by decide +kernel) (by decide +kernel) (pi_list (pf F_places_at (hr.mono (by decide)) rfl (pa_cons (pv 1) pa_nil))) (blkOk_by (own := [(("place" : Str), 2)]) (N := ["numbers", "prime", "place"]) (sc := defScope s49) (by decide +kernel)) (fun _ _ _ _ _ _ => pg_name (i := 2) sc49.nd rfl (Or.inl rfl)) (fun _ _ _ _ _ _ hr => pts_one (pt_val (pf F_is_heavy (hr.mono (by decide)) rfl (pa_cons (pv 0) (pa_cons (pv 1) (pa_cons (pv 2) pa_nil)))))) (fun _ _ _ _ _ _ => (pv 2))))
      (pss_one (ps_ret (pe_ifExp (pt_cmpR op_isN (pv 2) pe_non (nomark _)) pe_non (pe_tup (pa_cons (pe_gs rfl T.PLACE) (pa_cons (pv 1) (pa_cons (pv 2) pa_nil))))))))), ?_⟩
    refine at_st (σ2 := [some _, some _, none]) rfl ?_
    have hpz : (p : Int).natAbs < 2 ^ 100 := by
      have : (10001 : Nat) < 2 ^ 100 := by decide
      omega
    refine q_when (b := divB a b c d p) (et_B (ev_call' (ea_cons (ev_var rfl) (ea_cons (ev_var rfl) ea_nil)) fun H1 e1 Q' q' => ⟨_, a, b, c, d, p, rfl, rw_ex e1 hv, by omega, q'⟩)) (fun hb H1 e1 => ?_) (fun hb H1 e1 => ?_)
    · refine s_retR (er_dtup (K := K) (.cons (er_dstr ev_c) (.cons (er_dint (ev_var rfl)) .nil)) (by simp)) fun z H2 e2 hz2 => k z H2 (toN (e1.trans e2)) ?_
      rw [barA_div hb]
      exact hz2
    · have hv1 := rw_ex e1 hv
      refine q_asgN (P1 := P1) (P2 := P2) (ern_next (K := K) (p := P1) (ds := (plc p).map pairD) (b := hvD a b c d p) (er_N fun H2 e2 => ?_) (fun _ => rfl) (fun _ => rfl) fun d' x H3 hd' e3 hx => ?_) fun z H2 e2 hz2 => ?_
      · exact (er_callV (R := fun v H' => TabG H' P1 ∧ Dp K H' v (.list ((plc p).map pairD))) (ea_cons (ev_var rfl) ea_nil) fun H3 e3 Q' q' => ⟨p, rfl, by omega, hpn, fun v H4 e4 hv4 => q' v H4 e4 ⟨tab_ex e4 (tab_ex e3 (e2.t1 (tab_ex e1 hT))), hv4.dp⟩⟩)
      · obtain ⟨u, hu, rfl⟩ := List.mem_map.mp hd'
        obtain ⟨hu1, hu2, hu3⟩ := place_small (by omega) hpn hu
        exact et_B (ev_call' (ea_cons (ev_var rfl) (ea_cons (ev_var rfl) (ea_cons (ev_var rfl) ea_nil))) fun H4 e4 Q' q' => ⟨v, x, a, b, c, d, p, u.1, u.2, rfl, rw_ex e4 (rw_exn e3 hv1), hz, by omega, hpz, dp_ex e4 _ _ hx, hu1, hu2, q'⟩)
      · rw [find_pairs] at hz2
        walk_at "zn"
        cases hf : (plc p).find? (heavyAt a b c d p) with
        | none =>
          rw [hf] at hz2
          obtain rfl := dp_non hz2
          exact s_retR (er_if (R := fun z H' => Dp K H' z (barA a b c d p)) (et_is (b := true) (et_test (ev_op (ev_var rfl) ev_c rv_isN)) rfl) (fun _ => er_c fun H3 e3 => by rw [barA_no hb hf]; exact .non) (fun z => by cases z)) fun z H3 e3 hz3 => k z H3 ((toN e1).trans (e2.trans (toN e3))) hz3
        | some u =>
          rw [hf] at hz2
          have hz2 : Dp K H2 z (pairD u) := hz2
          refine s_retR (er_if (R := fun z H' => Dp K H' z (barA a b c d p)) (et_is (b := false) (et_test (ev_op (ev_var rfl) ev_c rv_isN)) (dec_non hz2)) (fun z => by cases z) (fun _ => ?_)) fun z H3 e3 hz3 => k z H3 ((toN e1).trans (e2.trans (toN e3))) hz3
          rw [barA_yes hb hf]
          exact er_dtup (K := K) (.cons (er_dstr ev_c) (.cons (er_dint (ev_var rfl)) (.cons (er_dvar rfl hz2) .nil))) (by simp)
abbrev s50 : Stmt := topS 50
theorem sc50 : FnScope ["numbers", "primes", "one", "prime"] ["numbers", "primes"] (defScope s50) := ⟨rfl, rfl, rfl, by decide +kernel, rfl, by decide +kernel, by decide +kernel⟩
def spFirst (K : PySem.W.Frag) (P1 P2 : Addr) : Sp := fun vs H Q _ => ∃ (v u : V) (a b c d : Int) (ps : List Nat), vs = [v, u] ∧ Rw K H v [a, b, c, d] ∧ RowZ 400 a b c d ∧ Dp K H u (.list (ps.map qD)) ∧ (∀ q ∈ ps, 2 ≤ q ∧ q ≤ 10000) ∧ ps.length ≤ 100000 ∧ TabG H P1 ∧ TabG H P2 ∧ ∀ z H', ExN P1 P2 H H' → Dp K H' z (lbar a b c d ps) → Q z H'
theorem fk50 {c2 : Addr} (R : RawT K mg "first_bar" s50 c2) (TB : TabB base mg c2 P2) (T : Bt K mg aE cF cK) (F_bar_at : Fk P w K mg base "bar_at" 4 ["numbers", "prime"] (spBarAt K P1 P2)) : Fk P w K mg base "first_bar" 5 ["numbers", "primes"] (spFirst K P1 P2) := by
  refine R.fk sc50 (fun _ _ _ _ _ _ us hl => match us, hl with | [_, _], _ => rfl) (fun vs H Q E h => ?_) (fun f A outer s H vs Q E hr h => ?_)
  · obtain ⟨v, u, a, b, c, d, ps, rfl, _⟩ := h; rfl
  · obtain ⟨v, u, a, b, c, d, ps, rfl, hv, hz, hu, hps, hlen, hT1, hT2, k⟩ := h
    refine ⟨_, (pss_one (ps_ret (pe_nextG (k := 2) (own := [(("one" : Str), 2)]) (g := gName 2) TB rfl rfl (hr.mono (by decide)) rfl T.next sc50.nd rfl (by decide +kernel) (by decide +kernel) (pi_list (pe_lc (own := [(("prime" : Str), 3)]) (g := gName 3) rfl sc50.nd (pi_list (pv 1)) (blkOk_by (own := [(("prime" : Str), 3)]) (N := ["numbers", "primes", "one", "prime"]) (sc := defScope s50) (by decide +kernel)) (fun _ _ _ _ _ => pg_name (i := 3) sc50.nd rfl (Or.inl rfl)) (fun _ _ _ _ _ => pts_nil) (fun _ _ _ _ _ => (pf F_bar_at (hr.mono (by decide)) rfl (pa_cons (pv 0) (pa_cons (pv 3) pa_nil)))))) (blkOk_by (own := [(("one" : Str), 2)]) (N := ["numbers", "primes", "one", "prime"]) (sc := defScope s50) (by decide +kernel)) (fun _ _ _ _ _ _ => pg_name (i := 2) sc50.nd rfl (Or.inl rfl)) (fun _ _ _ _ _ _ hr => pts_one (pt_cmpR op_notN (pv 2) pe_non (nomark _))) (fun _ _ _ _ _ _ => (pv 2))))), ?_⟩
    refine at_st (σ2 := [some _, some _, none, none]) rfl ?_
    refine s_retN (P1 := P1) (P2 := P2) (ern_next (K := K) (p := P2) (ds := ps.map (barA a b c d)) (b := fun x => !noneD x) (fun H1 e1 Q' q' => ?_) (fun _ => rfl) (fun _ => rfl) fun d' x H3 hd' e3 hx => ?_) fun z H2 e2 hz2 => k z H2 e2 ?_
    · refine ern_lc (P1 := P1) (P2 := P2) (σ := [some v, some u, none, none]) (H := H) (K := K) (ds := ps.map qD) (es := ps.map (barA a b c d)) (er_N fun H3 e3 => er_var rfl fun H4 e4 => dp_ex e4 _ _ (dp_exn e3 _ _ hu)) (by rw [List.length_map]; exact hlen) (by simp) (fun _ => rfl) (fun i d' x H3 hi e3 hx => ?_) H1 e1 Q' fun v' H4 e4 hv4 => q' v' H4 e4 ⟨(e1.trans e4).t2 hT2, hv4.dp⟩
      rw [List.getElem?_map] at hi
      obtain ⟨p, hp, rfl⟩ := Option.map_eq_some_iff.mp hi
      obtain rfl := dp_int hx
      obtain ⟨hp2, hpn⟩ := hps p (List.mem_of_getElem? hp)
      intro H4 e4 Q2 q2
      refine ea_cons (ev_var (v := v) rfl) (ea_cons (ev_var (v := .int (p : Int)) rfl) ea_nil) H4 (Ex.refl H4) _ fun H5 e5 => ?_
      exact ⟨v, a, b, c, d, p, rfl, rw_ex e5 (rw_exn (e3.trans e4) hv), hz, hp2, hpn, tab_ex e5 ((e3.trans e4).t1 hT1), fun z H6 e6 hz6 => q2 z H6 ((toN e5).trans e6) ⟨barA a b c d p, by rw [List.getElem?_map, hp]; rfl, noL_barA, hz6⟩⟩
    · exact et_is (et_test (ev_op (ev_var rfl) ev_c rv_notN)) (by rw [dec_non hx])
    · rw [← lbar_find]; exact hz2
end
end Z
namespace Z
open PySem PySem.Spec PyProof.Rows L2 Evl Zm SlX
local macro_rules | `(tactic| walk_at "zi") => `(tactic| (repeat' first | exact evi_c | exact evi_var rfl (by with_reducible assumption) | apply evi_add | apply evi_sub | apply evi_mul); all_goals (show _ ≤ 1000000; decide))
local macro_rules | `(tactic| walk_at "zn") => `(tactic| dsimp only [List.set_cons_zero, List.set_cons_succ])
section
variable {P : Program} {w : World} {K : PySem.W.Frag} {mg : Str → Option Value} {base : Heap}
variable {aE cF cK pS pD gD fI P1 P2 : Addr}
open GxR
/-! Zk: bar, is_greatest, is_bar; the law's is_bar -/
theorem dpl_len2 : ∀ (k n p : Nat), 10001 - p = k → n ≤ 100000000 → (dpl n p).length ≤ k := by
  intro k
  induction k with
  | zero =>
    intro n p hk hn
    have : n < p * p := by
      have := Nat.mul_le_mul (show 10001 ≤ p by omega) (show 10001 ≤ p by omega)
      omega
    rw [dpl_stop this]; exact Nat.le_refl _
  | succ k ih =>
    intro n p hk hn
    by_cases h : 2 ≤ p ∧ p * p ≤ n
    · rw [dpl_go h.1 h.2, List.length_append]
      have h1 := strip_le p n
      have := ih (strip p n).1 (p + 1) (by omega) (by omega)
      split
      · show 1 + _ ≤ _
        omega
      · show 0 + _ ≤ _
        omega
    · rw [dpl, dif_neg h]; exact Nat.zero_le _
theorem dp_len2 {n : Nat} (hn : n ≤ 100000000) : (dp n).length ≤ 100000 := Nat.le_trans (dpl_len2 _ n 2 rfl hn) (by decide)
theorem ern_call {σ : L2.St} {H : Hp} {sp : Sp} {E : XK} {t : TA} {Rs : List V → Hp → Prop} {R : V → Hp → Prop} (h : ∀ H1, ExN P1 P2 H H1 → Ea t σ H1 Rs) (hs : ∀ vs H1, ExN P1 P2 H H1 → Rs vs H1 → ∀ Q : VK, (∀ v H2, ExN P1 P2 H1 H2 → R v H2 → Q v H2) → sp vs H1 Q E) : ErN P1 P2 (tCall sp [] E t) σ H R := fun H1 e Q q =>
  h H1 e H1 (Ex.refl H1) _ fun vs H2 e2 rs => by
    have := hs vs H2 (e.trans (toN e2)) rs Q fun v H3 e3 r3 => q v H3 ((toN e2).trans e3) r3
    show sp (vs ++ []) H2 Q E
    rw [List.append_nil]
    exact this
theorem ea_ev {σ : L2.St} {H : Hp} {t : TA} {vs : List V} (h : EvA t σ H vs) : Ea t σ H (fun us _ => us = vs) := fun H1 e Q q => h H1 e Q fun H2 e2 => q vs H2 e2 rfl
theorem ern_isN {σ : L2.St} {H : Hp} {ta : TE} {D : PyData} (h : ErN P1 P2 ta σ H (fun v H' => Dp K H' v D)) : ErN P1 P2 (tOp (fun x y H Q => y = .non ∧ Q (.bl (decide (x = .non))) H) ta (tC .non)) σ H (fun v _ => v = .bl (noneD D)) := fun H1 e Q q =>
  h H1 e _ fun v H2 e2 r => ⟨rfl, by rw [dec_non r]; exact q _ H2 e2 rfl⟩
abbrev s51 : Stmt := topS 51
theorem sc51 : FnScope ["form"] ["form"] (defScope s51) := ⟨rfl, rfl, rfl, by decide +kernel, rfl, by decide +kernel, by decide +kernel⟩
def spBar (K : PySem.W.Frag) (cF P1 P2 : Addr) : Sp := fun vs H Q _ => ∃ (z : V) (a b c d : Int), vs = [z] ∧ Fm K cF H z a b c d ∧ RowZ 400 a b c d ∧ disc a b c d ≠ 0 ∧ (disc a b c d).natAbs ≤ 100000000 ∧ TabG H P1 ∧ TabG H P2 ∧
  ∀ y H', ExN P1 P2 H H' → Dp K H' y (lbar a b c d (dp (disc a b c d).natAbs)) → Q y H'
theorem fk51 (R : Raw K mg "bar" s51) (T : Bt K mg aE cF cK) (FC : FcK K cF cK pS pD gD fI) (F_discr : FnR P w K mg base CX0 2 gD (spDiscP K cF)) (F_require_stepped : Fk P w K mg base "require_stepped" 4 ["form"] (spReqS K cF)) (F_double_primes : Fk P w K mg base "double_primes" 1 ["number"] (spDouble K)) (F_first_bar : Fk P w K mg base "first_bar" 5 ["numbers", "primes"] (spFirst K P1 P2)) :
    Fk P w K mg base "bar" 6 ["form"] (spBar K cF P1 P2) := by
  refine R.fk sc51 (fun _ _ _ _ _ _ us hl => match us, hl with | [_], _ => rfl) (fun vs H Q E h => ?_) (fun f cdv A outer s H vs Q E hr h => ?_)
  · obtain ⟨z, a, b, c, d, rfl, _⟩ := h; rfl
  · obtain ⟨z, a, b, c, d, rfl, hs, hz, hd0, hdn, hT1, hT2, k⟩ := h
    refine ⟨_, (pss_cons (ps_expr (pf F_require_stepped (hr.mono (by decide)) rfl (pa_cons (pv 0) pa_nil)))
      (pss_one (ps_ret (pf F_first_bar (hr.mono (by decide)) rfl (pa_cons (pe_sl (pv 0)) (pa_cons (pf F_double_primes (hr.mono (by decide)) rfl (pa_cons (pe_callB call_abs (by rfl) T.abs (by decide +kernel) (pa_cons (pe_discr FC F_discr (hr.mono (by decide)) (pv 0)) pa_nil)) pa_nil)) pa_nil)))))), ?_⟩
    refine at_st (σ2 := [some _]) rfl ?_
    refine q_drop (v := .non) (ev_call' (ea_cons (ev_var rfl) ea_nil) fun H1 e1 Q' q' => ⟨z, a, b, c, d, rfl, fm_ex e1 hs, hz, hd0, hdn, q'⟩) fun H1 e1 => ?_
    have hs1 := fm_ex e1 hs
    obtain ⟨x, dx, v, rfl, h2, h3⟩ := hs1
    refine s_retN (P1 := P1) (P2 := P2) (ern_call (Rs := fun us H' => ∃ v' us', us = v' :: us' ∧ (v' = v ∧ Rw K H' v [a, b, c, d]) ∧ ∃ u, us' = [u] ∧ Dp K H' u (.list ((dp (disc a b c d).natAbs).map qD))) (R := fun y H' => Dp K H' y (lbar a b c d (dp (disc a b c d).natAbs))) (fun H2 e2 => ?_) fun us H2 e2 hus Q' q' => ?_) fun y H2 e2 hy => k y H2 ((toN e1).trans e2) hy
    · have hf : Fm K cF H2 (.ref x) a b c d := fm_exn e2 ⟨x, dx, v, rfl, h2, h3⟩
      have h2' : Slt H2 x cF dx [some v] := by
        rcases h2 with ⟨_, z⟩ | ⟨a1, a2⟩
        · cases z
        · exact .inr ⟨e2.k _ _ a1 (fun q z => by cases z), e2.k _ _ a2 (fun q z => by cases z)⟩
      refine ea_cons' (R := fun v' H' => v' = v ∧ Rw K H' v [a, b, c, d]) (Rs := fun us' H' => ∃ u, us' = [u] ∧ Dp K H' u (.list ((dp (disc a b c d).natAbs).map qD))) (fun H3 e3 Q3 q3 => ev_own FC (ev_var rfl) h2' H3 e3 Q3 fun H4 e4 => q3 v H4 e4 ⟨rfl, rw_ex (e3.trans e4) (rw_exn e2 h3)⟩) (fun v' H3 H4 e3 hv' => ⟨hv'.1, rw_ex e3 hv'.2⟩) (ea_one ?_)
      exact er_callV (vs := [.int ((disc a b c d).natAbs : Int)]) (ea_cons (ev_is (ev_abs (ea_cons (ev_discr (ev_var rfl) hf hz) ea_nil)) (by rw [abs_natAbs])) ea_nil) fun H3 e3 Q3 q3 => ⟨_, rfl, by omega, hdn, q3⟩
    · obtain ⟨v', us', rfl, ⟨rfl, hv'⟩, u, rfl, hu⟩ := hus
      exact ⟨v', u, a, b, c, d, _, rfl, hv', hz, hu, fun q hq => dp_mem hq hdn, dp_len2 hdn, e2.t1 (tab_ex e1 hT1), e2.t2 (tab_ex e1 hT2), q'⟩
abbrev s53 : Stmt := topS 53
theorem sc53 : FnScope ["form"] ["form"] (defScope s53) := ⟨rfl, rfl, rfl, by decide +kernel, rfl, by decide +kernel, by decide +kernel⟩
def spGreat (K : PySem.W.Frag) (cF P1 P2 : Addr) : Sp := fun vs H Q _ => ∃ (z : V) (a b c d : Int), vs = [z] ∧ Fm K cF H z a b c d ∧ RowZ 400 a b c d ∧ disc a b c d ≠ 0 ∧ (disc a b c d).natAbs ≤ 100000000 ∧ TabG H P1 ∧ TabG H P2 ∧
  ∀ H', ExN P1 P2 H H' → Q (.bl (noneD (lbar a b c d (dp (disc a b c d).natAbs)))) H'
theorem fk53 (R : Raw K mg "is_greatest" s53) (T : Bt K mg aE cF cK) (F_bar : Fk P w K mg base "bar" 6 ["form"] (spBar K cF P1 P2)) : Fk P w K mg base "is_greatest" 7 ["form"] (spGreat K cF P1 P2) := by
  refine R.fk sc53 (fun _ _ _ _ _ _ us hl => match us, hl with | [_], _ => rfl) (fun vs H Q E h => ?_) (fun f cdv A outer s H vs Q E hr h => ?_)
  · obtain ⟨z, a, b, c, d, rfl, _⟩ := h; rfl
  · obtain ⟨z, a, b, c, d, rfl, hs, hz, hd0, hdn, hT1, hT2, k⟩ := h
    refine ⟨_, (pss_one (ps_ret (pe_cmpR op_isN (pf F_bar (hr.mono (by decide)) rfl (pa_cons (pv 0) pa_nil)) pe_non (nomark _)))), ?_⟩
    refine at_st (σ2 := [some _]) rfl ?_
    refine s_retN (P1 := P1) (P2 := P2) (ern_isN (K := K) (D := lbar a b c d (dp (disc a b c d).natAbs)) (ern_call (Rs := fun us _ => us = [z]) (fun H1 e1 => ea_ev (ea_cons (ev_var rfl) ea_nil)) fun us H1 e1 hus Q' q' => ?_)) fun y H2 e2 hy => by
      subst hy
      exact k H2 e2
    subst hus
    exact ⟨z, a, b, c, d, rfl, fm_exn e1 hs, hz, hd0, hdn, e1.t1 hT1, e1.t2 hT2, q'⟩
/-! ### the values that the law asks about -/
inductive OkV : PyData → Prop
  | non : OkV .none
  | str (s : Str) : OkV (.str s)
  | int (i : Int) : OkV (.int i)
  | lst (ds : List PyData) : OkV (.list ds)
  | t0 : OkV (.tuple [])
  | t4 (d0 d1 d2 d3 : PyData) : OkV (.tuple [d0, d1, d2, d3])
  | c2 (s : Str) (i : Int) (hi : i ≤ 10000 ∨ i % 2 = 0) (hz : i.natAbs < 2 ^ 199) : OkV (.tuple [.str s, .int i])
  | b2 (s : Str) (b : Bool) : OkV (.tuple [.str s, .bool b])
  | s2 (i : Int) (s : Str) : OkV (.tuple [.int i, .str s])
  | c3 (s : Str) (i : Int) (pl : PyData) (hi : i ≤ 10000 ∨ i % 2 = 0) (hz : i.natAbs < 2 ^ 199) (hp : OkPl pl) : OkV (.tuple [.str s, .int i, pl])
def hvP (a b c d p : Int) : PyData → Bool
  | .tuple [.int x, .int y] => hvB a b c d p x y
  | _ => false
def isb (a b c d : Int) : PyData → Bool
  | .tuple [.str s, .int i] => decide (s = "content") && (pr i && divB a b c d i)
  | .tuple [.str s, .int i, pl] => decide (s = "place") && (pr i && (plB i pl && hvP a b c d i pl))
  | _ => false
theorem isb_t4 (a b c d : Int) : ∀ d0 d1 d2 d3 : PyData, isb a b c d (.tuple [d0, d1, d2, d3]) = false := by
  intro d0 d1 d2 d3
  cases d0 <;> cases d1 <;> rfl
theorem dp_two {H : Hp} {v : V} {d1 d2 : PyData} (h : Dp K H v (.tuple [d1, d2])) : ∃ t x y, v = .ref t ∧ SqT K H t [x, y] ∧ Dp K H x d1 ∧ Dp K H y d2 := by
  obtain ⟨t, xs, rfl, h1, h2⟩ := dp_tup h
  obtain ⟨x, us, rfl, h3, h4⟩ := dpa_cons h2
  obtain ⟨y, us2, rfl, h5, h6⟩ := dpa_cons h4
  have := dpa_nil h6
  subst this
  exact ⟨t, x, y, rfl, h1, h3, h5⟩
theorem dp_three {H : Hp} {v : V} {d1 d2 d3 : PyData} (h : Dp K H v (.tuple [d1, d2, d3])) : ∃ t x y z, v = .ref t ∧ SqT K H t [x, y, z] ∧ Dp K H x d1 ∧ Dp K H y d2 ∧ Dp K H z d3 := by
  obtain ⟨t, xs, rfl, h1, h2⟩ := dp_tup h
  obtain ⟨x, us, rfl, h3, h4⟩ := dpa_cons h2
  obtain ⟨y, us2, rfl, h5, h6⟩ := dpa_cons h4
  obtain ⟨z, us3, rfl, h7, h8⟩ := dpa_cons h6
  have := dpa_nil h8
  subst this
  exact ⟨t, x, y, z, rfl, h1, h3, h5, h7⟩
/-- the built-in type's name -/
def tyD : PyData → String
  | .none => "NoneType"
  | .bool _ => "bool"
  | .int _ => "int"
  | .str _ => "str"
  | .list _ => "list"
  | .tuple _ => "tuple"
  | _ => "?"
theorem tyx_dp {H : Hp} {v : V} {d : PyData} (h : Dp K H v d) : TyX K H v (.type (tyD d)) := by
  cases h with
  | non => exact .base .non
  | bl b => exact tyx_bl b
  | int i => exact tyx_int i
  | str s => exact tyx_str s
  | lst h _ => exact tyx_lst h
  | tup h _ => exact tyx_tup h
def inCP (s : Str) : Bool := inV (.str s) [.str "content", .str "place"]
theorem inCP_c : inCP "content" = true := by decide +kernel
theorem inCP_p : inCP "place" = true := by decide +kernel
theorem rv_notin {H : Hp} {x : V} {t : Addr} {xs : List V} (h : SqT K H t xs) (h1 : flatV x = true) (h2 : xs.all flatV = true) : RV (rIn K true) x (.ref t) H (.bl (!inV x xs)) := fun H1 e Q q => ⟨t, xs, rfl, .inr (ex_t e h), h1, h2, q H1 (Ex.refl H1)⟩
theorem ev_notin {σ : L2.St} {H : Hp} {ta : TE} {tb : TA} {x : V} {xs : List V} (h : Ev ta σ H x) (hb : EvA tb σ H xs) (h1 : flatV x = true) (h2 : xs.all flatV = true) (hz : xs.length ≤ 1000) : Ev (tOp (rIn K true) ta (tTup tb)) σ H (.bl (!inV x xs)) := fun H1 e Q q =>
  h H1 e _ fun H2 e2 => er_tupV hb hz H2 (e.trans e2) _ fun v H3 e3 ⟨t, hv, ht⟩ => by
    subst hv
    exact ⟨t, xs, rfl, .inr (SqT.of ht), h1, h2, q H3 (e2.trans e3)⟩
abbrev s52 : Stmt := topS 52
theorem sc52 : FnScope ["form", "value"] ["form", "value"] (defScope s52) := ⟨rfl, rfl, rfl, by decide +kernel, rfl, by decide +kernel, by decide +kernel⟩
def spIsBar (K : PySem.W.Frag) (cF : Addr) : Sp := fun vs H Q _ => ∃ (z v : V) (a b c d : Int) (D : PyData), vs = [z, v] ∧ Fm K cF H z a b c d ∧ RowZ 400 a b c d ∧ disc a b c d ≠ 0 ∧ (disc a b c d).natAbs ≤ 100000000 ∧ Dp K H v D ∧ OkV D ∧ ∀ H', Ex H H' → Q (.bl (isb a b c d D)) H'
theorem fk52 (R : Raw K mg "is_bar" s52) (T : Bt K mg aE cF cK) (FC : FcK K cF cK pS pD gD fI) (F_require_stepped : Fk P w K mg base "require_stepped" 4 ["form"] (spReqS K cF)) (F_is_integer : Fk P w K mg base "is_integer" 2 ["value"] spInteger) (F_is_small_prime : Fk P w K mg base "is_small_prime" 3 ["value"] spSmallP)
    (F_is_divided : Fk P w K mg base "is_divided" 1 ["numbers", "prime"] (spDivided K)) (F_is_place : Fk P w K mg base "is_place" 3 ["prime", "value"] (spIsPlace K)) (F_is_heavy : Fk P w K mg base "is_heavy" 2 ["numbers", "prime", "place"] (spHeavy K)) : Fk P w K mg base "is_bar" 5 ["form", "value"] (spIsBar K cF) := by
  refine R.fk sc52 (fun _ _ _ _ _ _ us hl => match us, hl with | [_, _], _ => rfl) (fun vs H Q E h => ?_) (fun f cdv A outer s H vs Q E hr h => ?_)
  · obtain ⟨z, v, a, b, c, d, D, rfl, _⟩ := h; rfl
  · obtain ⟨z, v, a, b, c, d, D, rfl, hs, hz, hd0, hdn, hv, hD, k⟩ := h
    refine ⟨_, (pss_cons (ps_expr (pf F_require_stepped (hr.mono (by decide)) rfl (pa_cons (pv 0) pa_nil)))
      (pss_cons (ps_if (PW.pt (pw_or (pt_not (pt_val (pe_callB call_isi (by rfl) T.isinstance (by decide +kernel) (pa_cons (pv 1) (pa_cons (pe_bltn (v := .ty "tuple") rfl T.tuple (by decide +kernel) rfl) pa_nil))))) (pw_or (pt_not (pt_chain op_le op_le pe_int (pe_callB call_len_seq (by rfl) T.len (by decide +kernel) (pa_cons (pv 1) pa_nil)) pe_int)) (pw_or1 (pt_not (pt_val (pf F_is_integer (hr.mono (by decide)) rfl (pa_cons (pe_ix ix_tup (pv 1) pe_int (fun _ _ => rfl)) pa_nil)))))))) (pss_one (ps_ret pe_bl)) pss_nil)
      (pss_cons (ps_if (PW.pt (pw_or (pt_cmpR op_notIn_seq (pe_ix ix_tup (pv 1) pe_int (fun _ _ => rfl)) (pe_tup (pa_cons (pe_gs rfl T.CONTENT) (pa_cons (pe_gs rfl T.PLACE) pa_nil))) rfl) (pw_or1 (pt_not (pt_val (pf F_is_small_prime (hr.mono (by decide)) rfl (pa_cons (pe_ix ix_tup (pv 1) pe_int (fun _ _ => rfl)) pa_nil))))))) (pss_one (ps_ret pe_bl)) pss_nil)
      (pss_cons (ps_if (pt_cmpR op_eq (pe_callB call_len_seq (by rfl) T.len (by decide +kernel) (pa_cons (pv 1) pa_nil)) pe_int (nomark _)) (pss_one (ps_ret (pe_and (pe_cmpR op_eq (pe_ix ix_tup (pv 1) pe_int (fun _ _ => rfl)) (pe_gs rfl T.CONTENT) (nomark _)) (pe_one (pf F_is_divided (hr.mono (by decide)) rfl (pa_cons (pe_sl (pv 0)) (pa_cons (pe_ix ix_tup (pv 1) pe_int (fun _ _ => rfl)) pa_nil))))))) pss_nil)
      (pss_cons (ps_if (PW.pt (pw_or (pt_cmpR op_ne (pe_ix ix_tup (pv 1) pe_int (fun _ _ => rfl)) (pe_gs rfl T.PLACE) (nomark _)) (pw_or1 (pt_not (pt_val (pf F_is_place (hr.mono (by decide)) rfl (pa_cons (pe_ix ix_tup (pv 1) pe_int (fun _ _ => rfl)) (pa_cons (pe_ix ix_tup (pv 1) pe_int (fun _ _ => rfl)) pa_nil)))))))) (pss_one (ps_ret pe_bl)) pss_nil)
      (pss_one (ps_ret (pf F_is_heavy (hr.mono (by decide)) rfl (pa_cons (pe_sl (pv 0)) (pa_cons (pe_ix ix_tup (pv 1) pe_int (fun _ _ => rfl)) (pa_cons (pe_ix ix_tup (pv 1) pe_int (fun _ _ => rfl)) pa_nil))))))))))), ?_⟩
    refine at_st (σ2 := [some _, some _]) rfl ?_
    refine q_drop (v := .non) (ev_call' (ea_cons (ev_var rfl) ea_nil) fun H1 e1 Q' q' => ⟨z, a, b, c, d, rfl, fm_ex e1 hs, hz, hd0, hdn, q'⟩) fun H1 e1 => ?_
    replace hv := dp_ex e1 _ _ hv
    replace k : ∀ H', Ex H1 H' → Q (.bl (isb a b c d D)) H' := fun H' e => k H' (e1.trans e)
    replace hs := fm_ex e1 hs
    clear e1
    obtain ⟨x, dx, r, rfl, hsl, hr4⟩ := hs
    cases hD with
    | non => exact q_when (b := true) (et_is (et_or (a := !false) (b := true) (et_not (et_B (ev_isi (ea_cons (ev_var rfl) (ea_cons ev_c ea_nil)) (fun H2 e2 => tyx_dp (dp_ex e2 _ _ hv)) (by decide +kernel)))) fun z => by cases z) rfl) (fun _ H2 e2 => s_ret ev_c fun H3 e3 => k H3 (e2.trans e3)) (fun z => by cases z)
    | str s => exact q_when (b := true) (et_is (et_or (a := !false) (b := true) (et_not (et_B (ev_isi (ea_cons (ev_var rfl) (ea_cons ev_c ea_nil)) (fun H2 e2 => tyx_dp (dp_ex e2 _ _ hv)) (by show kitB "str" "tuple" = some false; decide +kernel)))) fun z => by cases z) rfl) (fun _ H2 e2 => s_ret ev_c fun H3 e3 => k H3 (e2.trans e3)) (fun z => by cases z)
    | int i => exact q_when (b := true) (et_is (et_or (a := !false) (b := true) (et_not (et_B (ev_isi (ea_cons (ev_var rfl) (ea_cons ev_c ea_nil)) (fun H2 e2 => tyx_dp (dp_ex e2 _ _ hv)) (by show kitB "int" "tuple" = some false; decide +kernel)))) fun z => by cases z) rfl) (fun _ H2 e2 => s_ret ev_c fun H3 e3 => k H3 (e2.trans e3)) (fun z => by cases z)
    | lst ds => exact q_when (b := true) (et_is (et_or (a := !false) (b := true) (et_not (et_B (ev_isi (ea_cons (ev_var rfl) (ea_cons ev_c ea_nil)) (fun H2 e2 => tyx_dp (dp_ex e2 _ _ hv)) (by show kitB "list" "tuple" = some false; decide +kernel)))) fun z => by cases z) rfl) (fun _ H2 e2 => s_ret ev_c fun H3 e3 => k H3 (e2.trans e3)) (fun z => by cases z)
    | t0 =>
      obtain ⟨t, xs, rfl, ht, hxs⟩ := dp_tup hv
      have := dpa_nil hxs
      subst this
      exact q_when (b := true) (et_is (et_or (a := !true) (b := true) (et_not (et_B (ev_isi (ea_cons (ev_var rfl) (ea_cons ev_c ea_nil)) (fun H2 e2 => tyx_tup (ex_t e2 ht)) (by decide +kernel)))) fun _ =>
        et_or (a := !(decide ((2 : Int) ≤ 0) && false)) (b := true) (et_not (et_B (ev_chain (z := .int 3) (ev_c (v := .int 2)) (ev_len (ea_cons (ev_var rfl) ea_nil) (.inr ht)) rv_I0 fun z => by cases z))) fun z => by cases z) rfl) (fun _ H2 e2 => s_ret ev_c fun H3 e3 => k H3 (e2.trans e3)) (fun z => by cases z)
    | t4 d0 d1 d2 d3 =>
      obtain ⟨t, xs, rfl, ht, hxs⟩ := dp_tup hv
      have hlen : xs.length = 4 := dpa_len hxs
      exact q_when (b := true) (et_is (et_or (a := !true) (b := true) (et_not (et_B (ev_isi (ea_cons (ev_var rfl) (ea_cons ev_c ea_nil)) (fun H2 e2 => tyx_tup (ex_t e2 ht)) (by decide +kernel)))) fun _ =>
        et_or (a := !(decide ((2 : Int) ≤ 4) && decide ((4 : Int) ≤ 3))) (b := true) (et_not (et_B (ev_chain (y := .int 4) (ev_c (v := .int 2)) (ev_is (ev_len (ea_cons (ev_var rfl) ea_nil) (.inr ht)) (by rw [hlen]; rfl)) rv_I0 fun _ => ⟨ev_c, rv_I0⟩))) fun z => by cases z) rfl) (fun _ H2 e2 => s_ret (ev_is ev_c (by rw [isb_t4])) fun H3 e3 => k H3 (e2.trans e3)) (fun z => by cases z)
    | b2 s b' =>
      obtain ⟨t, x0, x1, rfl, ht, h0, h1⟩ := dp_two hv
      obtain rfl := dp_str h0
      obtain rfl := dp_bl h1
      exact q_when (b := true) (et_is (et_or (a := !true) (b := true) (et_not (et_B (ev_isi (ea_cons (ev_var rfl) (ea_cons ev_c ea_nil)) (fun H2 e2 => tyx_tup (ex_t e2 ht)) (by decide +kernel)))) fun _ =>
        et_or (a := !(decide ((2 : Int) ≤ 2) && decide ((2 : Int) ≤ 3))) (b := true) (et_not (et_B (ev_chain (z := .int 3) (ev_c (v := .int 2)) (ev_len (ea_cons (ev_var rfl) ea_nil) (.inr ht)) rv_I0 fun _ => ⟨ev_c, rv_I0⟩))) fun _ =>
        et_not (a := false) (et_B (ev_call' (ea_cons (ev_ixt (i := 1) (ev_var rfl) ev_c ht rfl) ea_nil) fun H2 e2 Q' q' => ⟨_, false, rfl, rfl, fun i hi => (by cases hi), q'⟩))) rfl) (fun _ H2 e2 => s_ret ev_c fun H3 e3 => k H3 (e2.trans e3)) (fun z => by cases z)
    | s2 i s =>
      obtain ⟨t, x0, x1, rfl, ht, h0, h1⟩ := dp_two hv
      obtain rfl := dp_int h0
      obtain rfl := dp_str h1
      exact q_when (b := true) (et_is (et_or (a := !true) (b := true) (et_not (et_B (ev_isi (ea_cons (ev_var rfl) (ea_cons ev_c ea_nil)) (fun H2 e2 => tyx_tup (ex_t e2 ht)) (by decide +kernel)))) fun _ =>
        et_or (a := !(decide ((2 : Int) ≤ 2) && decide ((2 : Int) ≤ 3))) (b := true) (et_not (et_B (ev_chain (z := .int 3) (ev_c (v := .int 2)) (ev_len (ea_cons (ev_var rfl) ea_nil) (.inr ht)) rv_I0 fun _ => ⟨ev_c, rv_I0⟩))) fun _ =>
        et_not (a := false) (et_B (ev_call' (ea_cons (ev_ixt (i := 1) (ev_var rfl) ev_c ht rfl) ea_nil) fun H2 e2 Q' q' => ⟨_, false, rfl, rfl, fun i hi => (by cases hi), q'⟩))) rfl) (fun _ H2 e2 => s_ret ev_c fun H3 e3 => k H3 (e2.trans e3)) (fun z => by cases z)
    | c2 s i hi hiz =>
      obtain ⟨t, x0, x1, rfl, ht, h0, h1⟩ := dp_two hv
      obtain rfl := dp_str h0
      obtain rfl := dp_int h1
      have k : ∀ H', Ex H1 H' → Q (.bl (decide (s = "content") && (pr i && divB a b c d i))) H' := k
      refine q_when (b := false) (et_is (et_or (a := !true) (b := false) (et_not (et_B (ev_isi (ea_cons (ev_var rfl) (ea_cons ev_c ea_nil)) (fun H2 e2 => tyx_tup (ex_t e2 ht)) (by decide +kernel)))) fun _ =>
        et_or (a := !(decide ((2 : Int) ≤ 2) && decide ((2 : Int) ≤ 3))) (b := false) (et_not (et_B (ev_chain (ev_c (v := .int 2)) (ev_len (ea_cons (ev_var rfl) ea_nil) (.inr ht)) rv_I0 fun _ => ⟨ev_c, rv_I0⟩))) fun _ =>
        et_not (a := true) (et_B (ev_call' (ea_cons (ev_ixt (i := 1) (ev_var rfl) ev_c ht rfl) ea_nil) fun H2 e2 Q' q' => ⟨_, true, rfl, rfl, fun i' hi' => (by cases hi'; exact hiz), q'⟩))) rfl) (fun z => by cases z) (fun _ H2 e2 => ?_)
      have ht2 := ex_t e2 ht
      refine q_when (b := !inCP s || !pr i) (et_or (et_test (ev_notin (ev_ixt (i := 0) (ev_var rfl) ev_c ht2 rfl) (ea_cons ev_c (ea_cons ev_c ea_nil)) rfl rfl (by simp))) fun _ =>
        et_not (et_B (ev_call' (ea_cons (ev_ixt (i := 1) (ev_var rfl) ev_c ht2 rfl) ea_nil) fun H3 e3 Q' q' => ⟨i, rfl, hiz, q'⟩))) (fun hb H3 e3 => ?_) (fun hb H3 e3 => ?_)
      · refine s_ret (ev_is ev_c ?_) fun H4 e4 => k H4 ((e2.trans e3).trans e4)
        congr 1
        by_cases hc : s = "content"
        · subst hc
          rw [inCP_c] at hb
          cases hp : pr i with
          | true => rw [hp] at hb; cases hb
          | false => simp
        · rw [decide_eq_false hc]; rfl
      · have hp : pr i = true := by
          cases hp : pr i with
          | true => rfl
          | false => rw [hp] at hb; simp at hb
        obtain ⟨hp2, hpn⟩ := pr_bounds hp
        have ht3 := ex_t e3 ht2
        have hsl3 := slt_ex (e2.trans e3) hsl
        have hr3 := rw_ex (e2.trans e3) hr4
        refine q_when (b := true) (et_is (et_test (ev_op (ev_len (ea_cons (ev_var rfl) ea_nil) (.inr ht3)) ev_c rv_eqI)) rfl) (fun _ H4 e4 => ?_) (fun z => by cases z)
        refine s_ret (ev_is (ev_andV (a := decide (s = "content")) (b := divB a b c d i) (ev_op (ev_ixt (i := 0) (ev_var rfl) ev_c (ex_t e4 ht3) rfl) ev_c rv_eqS) fun _ => ev_call' (ea_cons (ev_own FC (ev_var rfl) (slt_ex e4 hsl3)) (ea_cons (ev_ixt (i := 1) (ev_var rfl) ev_c (ex_t e4 ht3) rfl) ea_nil)) fun H5 e5 Q' q' =>
          ⟨r, a, b, c, d, i, rfl, rw_ex (e4.trans e5) hr3, by omega, q'⟩) (by rw [hp]; rfl)) fun H5 e5 => k H5 (((e2.trans e3).trans e4).trans e5)
    | c3 s i pl hi hiz hpl =>
      obtain ⟨t, x0, x1, x2, rfl, ht, h0, h1, h2⟩ := dp_three hv
      obtain rfl := dp_str h0
      obtain rfl := dp_int h1
      have k : ∀ H', Ex H1 H' → Q (.bl (decide (s = "place") && (pr i && (plB i pl && hvP a b c d i pl)))) H' := k
      refine q_when (b := false) (et_is (et_or (a := !true) (b := false) (et_not (et_B (ev_isi (ea_cons (ev_var rfl) (ea_cons ev_c ea_nil)) (fun H2 e2 => tyx_tup (ex_t e2 ht)) (by decide +kernel)))) fun _ =>
        et_or (a := !(decide ((2 : Int) ≤ 3) && decide ((3 : Int) ≤ 3))) (b := false) (et_not (et_B (ev_chain (ev_c (v := .int 2)) (ev_len (ea_cons (ev_var rfl) ea_nil) (.inr ht)) rv_I0 fun _ => ⟨ev_c, rv_I0⟩))) fun _ =>
        et_not (a := true) (et_B (ev_call' (ea_cons (ev_ixt (i := 1) (ev_var rfl) ev_c ht rfl) ea_nil) fun H2 e2 Q' q' => ⟨_, true, rfl, rfl, fun i' hi' => (by cases hi'; exact hiz), q'⟩))) rfl) (fun z => by cases z) (fun _ H2 e2 => ?_)
      have ht2 := ex_t e2 ht
      refine q_when (b := !inCP s || !pr i) (et_or (et_test (ev_notin (ev_ixt (i := 0) (ev_var rfl) ev_c ht2 rfl) (ea_cons ev_c (ea_cons ev_c ea_nil)) rfl rfl (by simp))) fun _ =>
        et_not (et_B (ev_call' (ea_cons (ev_ixt (i := 1) (ev_var rfl) ev_c ht2 rfl) ea_nil) fun H3 e3 Q' q' => ⟨i, rfl, hiz, q'⟩))) (fun hb H3 e3 => ?_) (fun hb H3 e3 => ?_)
      · refine s_ret (ev_is ev_c ?_) fun H4 e4 => k H4 ((e2.trans e3).trans e4)
        congr 1
        by_cases hc : s = "place"
        · subst hc
          rw [inCP_p] at hb
          cases hp : pr i with
          | true => rw [hp] at hb; cases hb
          | false => simp
        · rw [decide_eq_false hc]; rfl
      · have hp : pr i = true := by
          cases hp : pr i with
          | true => rfl
          | false => rw [hp] at hb; simp at hb
        obtain ⟨hp2, hpn⟩ := pr_bounds hp
        have ht3 := ex_t e3 ht2
        have hsl3 := slt_ex (e2.trans e3) hsl
        have hr3 := rw_ex (e2.trans e3) hr4
        have h23 := dp_ex (e2.trans e3) _ _ h2
        refine q_when (b := false) (et_is (et_test (ev_op (ev_len (ea_cons (ev_var rfl) ea_nil) (.inr ht3)) ev_c rv_eqI)) rfl) (fun z => by cases z) (fun _ H4 e4 => ?_)
        have ht4 := ex_t e4 ht3
        refine q_when (b := !decide (s = "place") || !plB i pl) (et_or (et_test (ev_op (ev_ixt (i := 0) (ev_var rfl) ev_c ht4 rfl) ev_c rv_neS)) fun _ =>
          et_not (et_B (ev_call' (ea_cons (ev_ixt (i := 1) (ev_var rfl) ev_c ht4 rfl) (ea_cons (ev_ixt (i := 2) (ev_var rfl) ev_c ht4 rfl) ea_nil)) fun H5 e5 Q' q' => ⟨i, x2, pl, rfl, dp_ex (e4.trans e5) _ _ h23, hpl, q'⟩))) (fun hc H5 e5 => ?_) (fun hc H5 e5 => ?_)
        · refine s_ret (ev_is ev_c ?_) fun H6 e6 => k H6 ((((e2.trans e3).trans e4).trans e5).trans e6)
          congr 1
          rw [hp]
          revert hc
          cases decide (s = "place") <;> cases plB i pl <;> simp
        · have hc1 : decide (s = "place") = true ∧ plB i pl = true := by
            revert hc
            cases decide (s = "place") <;> cases plB i pl <;> simp
          rw [hc1.1, hp, hc1.2] at k
          have ht5 := ex_t e5 ht4
          cases hpl with
          | pair x' y' hx' hy' =>
            have hiz2 : i.natAbs < 2 ^ 100 := by
              have : (10001 : Nat) < 2 ^ 100 := by decide
              omega
            exact s_ret (ev_call' (ea_cons (ev_own FC (ev_var rfl) (slt_ex (e4.trans e5) hsl3)) (ea_cons (ev_ixt (i := 1) (ev_var rfl) ev_c ht5 rfl) (ea_cons (ev_ixt (i := 2) (ev_var rfl) ev_c ht5 rfl) ea_nil))) fun H6 e6 Q' q' =>
              ⟨r, x2, a, b, c, d, i, x', y', rfl, rw_ex ((e4.trans e5).trans e6) hr3, hz, by omega, hiz2, dp_ex ((e4.trans e5).trans e6) _ _ h23, hx', hy', q'⟩) fun H6 e6 => k H6 ((((e2.trans e3).trans e4).trans e5).trans e6)
          | pb x' b' hx' => exact absurd hc1.2 (by simp [plB])
          | lst ds => exact absurd hc1.2 (by simp [plB])
          | int j => exact absurd hc1.2 (by simp [plB])
end
end Z
namespace Z
open PySem PySem.Spec PyProof.Rows L2 Evl Zm SlX
local macro_rules | `(tactic| walk_at "zi") => `(tactic| (repeat' first | exact evi_c | exact evi_var rfl (by with_reducible assumption) | apply evi_add | apply evi_sub | apply evi_mul); all_goals (show _ ≤ 1000000; decide))
local macro_rules | `(tactic| walk_at "zn") => `(tactic| dsimp only [List.set_cons_zero, List.set_cons_succ])
section
variable {P : Program} {w : World} {K : PySem.W.Frag} {mg : Str → Option Value} {base : Heap}
variable {aE cF cK pS pD gD fI P1 P2 : Addr}
open GxR
/-! Zl: the law's is_bar -/
theorem in23_0 : inV (.int 0) [.int 2, .int 3] = false := by decide +kernel
theorem in23_2 : inV (.int 2) [.int 2, .int 3] = true := by decide +kernel
theorem in23_3 : inV (.int 3) [.int 2, .int 3] = true := by decide +kernel
theorem in23_4 : inV (.int 4) [.int 2, .int 3] = false := by decide +kernel
theorem plB_eqv {x y i : Int} : (!PyData.eqv (.tuple [.int x, .int y]) (.tuple [.int 1, .int 0]) && !(decide (y = 1) && (decide (0 ≤ x) && decide (x < i)))) = !plB i (.tuple [.int x, .int y]) := by
  rw [eqv_end]
  show _ = !(decide (x = 1 ∧ y = 0) || (decide (y = 1) && (decide (0 ≤ x) && decide (x < i))))
  cases decide (x = 1 ∧ y = 0) <;> simp
abbrev s74 : Stmt := topS 74
theorem sc74 : FnScope ["_law_row_here", "_law_value_here", "_law_place", "_law_prime", "_law_one"] ["_law_row_here", "_law_value_here"] (defScope s74) := ⟨rfl, rfl, rfl, by decide +kernel, rfl, by decide +kernel, by decide +kernel⟩
def spIsBarL (K : PySem.W.Frag) : Sp := fun vs H Q _ => ∃ (r v : V) (a b c d : Int) (D : PyData), vs = [r, v] ∧ Rw K H r [a, b, c, d] ∧ RowZ 400 a b c d ∧ Dp K H v D ∧ OkV D ∧ ∀ H', Ex H H' → Q (.bl (isb a b c d D)) H'
theorem fk74 (R : Raw K mg "_law_is_bar" s74) (T : Bt K mg aE cF cK) (F_law_is_prime : Fk P w K mg base "_law_is_prime" 1 ["_law_value_here"] spLawPrime) (F_law_content : Fk P w K mg base "_law_content" 1 ["_law_row_here"] (spContent K)) (F_law_is_heavy : Fk P w K mg base "_law_is_heavy" 3 ["_law_row_here", "_law_prime", "_law_place"] (spHeavyL K)) :
    Fk P w K mg base "_law_is_bar" 4 ["_law_row_here", "_law_value_here"] (spIsBarL K) := by
  refine R.fk sc74 (fun _ _ _ _ _ _ us hl => match us, hl with | [_, _], _ => rfl) (fun vs H Q E h => ?_) (fun f cdv A outer s H vs Q E hr h => ?_)
  · obtain ⟨r, v, a, b, c, d, D, rfl, _⟩ := h; rfl
  · obtain ⟨r, v, a, b, c, d, D, rfl, hr4, hz, hv, hD, k⟩ := h
    refine ⟨_, (pss_cons (ps_if (PW.pt (pw_or (pt_not (pt_val (pe_callB (id := "isinstance") (r := rIsi K) call_isi (by rfl) T.isinstance (by decide +kernel) (pa_cons (pv 1) (pa_cons (pe_bltn (v := .ty "tuple") rfl T.tuple (by decide +kernel) rfl) pa_nil))))) (pw_or (pt_cmpR op_notIn_seq (pe_callB call_len_seq (by rfl) T.len (by decide +kernel) (pa_cons (pv 1) pa_nil)) (pe_tup (pa_cons pe_int (pa_cons pe_int pa_nil))) rfl) (pw_or1 (pt_not (pt_val (pf F_law_is_prime (hr.mono (by decide)) rfl (pa_cons (pe_ix ix_tup (pv 1) pe_int (fun _ _ => rfl)) pa_nil)))))))) (pss_one (ps_ret pe_bl)) pss_nil)
      (pss_cons (ps_if (pt_cmpR op_eq (pe_callB call_len_seq (by rfl) T.len (by decide +kernel) (pa_cons (pv 1) pa_nil)) pe_int (nomark _)) (pss_one (ps_ret (pe_and (pe_cmpR op_eq (pe_ix ix_tup (pv 1) pe_int (fun _ _ => rfl)) pe_str (nomark _)) (pe_one (pe_cmpR op_eq (pe_op op_mod (pf F_law_content (hr.mono (by decide)) rfl (pa_cons (pv 0) pa_nil)) (pe_ix ix_tup (pv 1) pe_int (fun _ _ => rfl))) pe_int (nomark _)))))) pss_nil)
      (pss_cons (ps_par (i := 2) (j := 3) (by rfl) sc74.nd rfl rfl (by decide) rfl rfl (pa_cons (pe_ix ix_tup (pv 1) pe_int (fun _ _ => rfl)) (pa_cons (pe_ix ix_tup (pv 1) pe_int (fun _ _ => rfl)) pa_nil)) (by rfl))
      (pss_cons (ps_if (PW.pt (pw_or (pt_cmpR op_ne (pe_ix ix_tup (pv 1) pe_int (fun _ _ => rfl)) pe_str (nomark _)) (pw_or (pt_not (pt_val (pe_callB (id := "isinstance") (r := rIsi K) call_isi (by rfl) T.isinstance (by decide +kernel) (pa_cons (pv 2) (pa_cons (pe_bltn (v := .ty "tuple") rfl T.tuple (by decide +kernel) rfl) pa_nil))))) (pw_or1 (pt_cmpR op_ne (pe_callB call_len_seq (by rfl) T.len (by decide +kernel) (pa_cons (pv 2) pa_nil)) pe_int (nomark _)))))) (pss_one (ps_ret pe_bl)) pss_nil)
      (pss_cons (ps_if (pt_cmpR (op_neD hr.units) (pe_lc (own := [(("_law_one" : Str), 4)]) (g := gName 4) rfl sc74.nd (pi_tup (pv 2)) (blkOk_by (own := [(("_law_one" : Str), 4)]) (N := ["_law_row_here", "_law_value_here", "_law_place", "_law_prime", "_law_one"]) (sc := defScope s74) (by decide +kernel)) (fun _ _ _ _ _ => pg_name (i := 4) sc74.nd rfl (Or.inl rfl)) (fun _ _ _ _ _ => pts_one (PW.pt (pw_or (pt_not (pt_val (pe_callB (id := "isinstance") (r := rIsi K) call_isi (by rfl) T.isinstance (by decide +kernel) (pa_cons (pv 4) (pa_cons (pe_bltn (v := .ty "int") rfl T.int (by decide +kernel) rfl) pa_nil))))) (pw_or1 (pt_val (pe_callB (id := "isinstance") (r := rIsi K) call_isi (by rfl) T.isinstance (by decide +kernel) (pa_cons (pv 4) (pa_cons (pe_bltn (v := .ty "bool") rfl T.bool (by decide +kernel) rfl) pa_nil)))))))) (fun _ _ _ _ _ => (pv 4))) (pe_lst pa_nil) (nomark _)) (pss_one (ps_ret pe_bl)) pss_nil)
      (pss_cons (ps_if (PW.pt (pw_and (pt_cmpR (op_neD hr.units) (pv 2) (pe_tup (pa_cons pe_int (pa_cons pe_int pa_nil))) (nomark _)) (pw_and1 (pt_not (PW.pt (pw_and (pt_cmpR op_eq (pe_ix ix_tup (pv 2) pe_int (fun _ _ => rfl)) pe_int (nomark _)) (pw_and1 (pt_chain op_le op_lt pe_int (pe_ix ix_tup (pv 2) pe_int (fun _ _ => rfl)) (pv 3))))))))) (pss_one (ps_ret pe_bl)) pss_nil)
      (pss_one (ps_ret (pf F_law_is_heavy (hr.mono (by decide)) rfl (pa_cons (pv 0) (pa_cons (pv 3) (pa_cons (pv 2) pa_nil)))))))))))), ?_⟩
    refine at_st (σ2 := [some _, some _, none, none, none]) rfl ?_
    cases hD with
    | non => exact q_when (b := true) (et_is (et_or (a := !false) (b := true) (et_not (et_B (ev_isi (ea_cons (ev_var rfl) (ea_cons ev_c ea_nil)) (fun H2 e2 => tyx_dp (dp_ex e2 _ _ hv)) (by decide +kernel)))) fun z => by cases z) rfl) (fun _ H2 e2 => s_ret ev_c fun H3 e3 => k H3 (e2.trans e3)) (fun z => by cases z)
    | str s => exact q_when (b := true) (et_is (et_or (a := !false) (b := true) (et_not (et_B (ev_isi (ea_cons (ev_var rfl) (ea_cons ev_c ea_nil)) (fun H2 e2 => tyx_dp (dp_ex e2 _ _ hv)) (by show kitB "str" "tuple" = some false; decide +kernel)))) fun z => by cases z) rfl) (fun _ H2 e2 => s_ret ev_c fun H3 e3 => k H3 (e2.trans e3)) (fun z => by cases z)
    | int i => exact q_when (b := true) (et_is (et_or (a := !false) (b := true) (et_not (et_B (ev_isi (ea_cons (ev_var rfl) (ea_cons ev_c ea_nil)) (fun H2 e2 => tyx_dp (dp_ex e2 _ _ hv)) (by show kitB "int" "tuple" = some false; decide +kernel)))) fun z => by cases z) rfl) (fun _ H2 e2 => s_ret ev_c fun H3 e3 => k H3 (e2.trans e3)) (fun z => by cases z)
    | lst ds => exact q_when (b := true) (et_is (et_or (a := !false) (b := true) (et_not (et_B (ev_isi (ea_cons (ev_var rfl) (ea_cons ev_c ea_nil)) (fun H2 e2 => tyx_dp (dp_ex e2 _ _ hv)) (by show kitB "list" "tuple" = some false; decide +kernel)))) fun z => by cases z) rfl) (fun _ H2 e2 => s_ret ev_c fun H3 e3 => k H3 (e2.trans e3)) (fun z => by cases z)
    | t0 =>
      obtain ⟨t, xs, rfl, ht, hxs⟩ := dp_tup hv
      have := dpa_nil hxs
      subst this
      exact q_when (b := true) (et_is (et_or (a := !true) (et_not (et_B (ev_isi (ea_cons (ev_var rfl) (ea_cons ev_c ea_nil)) (fun H2 e2 => tyx_tup (ex_t e2 ht)) (by decide +kernel)))) fun _ =>
        et_or (a := !inV (.int 0) [.int 2, .int 3]) (b := true) (et_test (ev_notin (x := .int 0) (xs := [.int 2, .int 3]) (ev_len (ea_cons (ev_var rfl) ea_nil) (.inr ht)) (ea_cons ev_c (ea_cons ev_c ea_nil)) rfl rfl (by simp))) fun z => by rw [in23_0] at z; cases z) (by rw [in23_0]; rfl)) (fun _ H2 e2 => s_ret ev_c fun H3 e3 => k H3 (e2.trans e3)) (fun z => by cases z)
    | t4 d0 d1 d2 d3 =>
      obtain ⟨t, xs, rfl, ht, hxs⟩ := dp_tup hv
      have hlen : xs.length = 4 := dpa_len hxs
      exact q_when (b := true) (et_is (et_or (a := !true) (et_not (et_B (ev_isi (ea_cons (ev_var rfl) (ea_cons ev_c ea_nil)) (fun H2 e2 => tyx_tup (ex_t e2 ht)) (by decide +kernel)))) fun _ =>
        et_or (a := !inV (.int 4) [.int 2, .int 3]) (b := true) (et_test (ev_notin (x := .int 4) (xs := [.int 2, .int 3]) (ev_is (ev_len (ea_cons (ev_var rfl) ea_nil) (.inr ht)) (by rw [hlen]; rfl)) (ea_cons ev_c (ea_cons ev_c ea_nil)) rfl rfl (by simp))) fun z => by rw [in23_4] at z; cases z) (by rw [in23_4]; rfl)) (fun _ H2 e2 => s_ret (ev_is ev_c (by rw [isb_t4])) fun H3 e3 => k H3 (e2.trans e3)) (fun z => by cases z)
    | b2 s b' =>
      obtain ⟨t, x0, x1, rfl, ht, h0, h1⟩ := dp_two hv
      obtain rfl := dp_str h0
      obtain rfl := dp_bl h1
      exact q_when (b := true) (et_is (et_or (a := !true) (et_not (et_B (ev_isi (ea_cons (ev_var rfl) (ea_cons ev_c ea_nil)) (fun H2 e2 => tyx_tup (ex_t e2 ht)) (by decide +kernel)))) fun _ =>
        et_or (a := !inV (.int 2) [.int 2, .int 3]) (b := !false) (et_test (ev_notin (x := .int 2) (xs := [.int 2, .int 3]) (ev_len (ea_cons (ev_var rfl) ea_nil) (.inr ht)) (ea_cons ev_c (ea_cons ev_c ea_nil)) rfl rfl (by simp))) fun _ =>
        et_not (et_B (ev_call' (ea_cons (ev_ixt (i := 1) (ev_var rfl) ev_c ht rfl) ea_nil) fun H2 e2 Q' q' => ⟨.bl b', false, rfl, rfl, fun i hi => (by cases hi), q'⟩))) (by rw [in23_2]; rfl)) (fun _ H2 e2 => s_ret ev_c fun H3 e3 => k H3 (e2.trans e3)) (fun z => by cases z)
    | s2 i s =>
      obtain ⟨t, x0, x1, rfl, ht, h0, h1⟩ := dp_two hv
      obtain rfl := dp_int h0
      obtain rfl := dp_str h1
      exact q_when (b := true) (et_is (et_or (a := !true) (et_not (et_B (ev_isi (ea_cons (ev_var rfl) (ea_cons ev_c ea_nil)) (fun H2 e2 => tyx_tup (ex_t e2 ht)) (by decide +kernel)))) fun _ =>
        et_or (a := !inV (.int 2) [.int 2, .int 3]) (b := !false) (et_test (ev_notin (x := .int 2) (xs := [.int 2, .int 3]) (ev_len (ea_cons (ev_var rfl) ea_nil) (.inr ht)) (ea_cons ev_c (ea_cons ev_c ea_nil)) rfl rfl (by simp))) fun _ =>
        et_not (et_B (ev_call' (ea_cons (ev_ixt (i := 1) (ev_var rfl) ev_c ht rfl) ea_nil) fun H2 e2 Q' q' => ⟨.str s, false, rfl, rfl, fun i hi => (by cases hi), q'⟩))) (by rw [in23_2]; rfl)) (fun _ H2 e2 => s_ret ev_c fun H3 e3 => k H3 (e2.trans e3)) (fun z => by cases z)
    | c2 s i hi hiz =>
      obtain ⟨t, x0, x1, rfl, ht, h0, h1⟩ := dp_two hv
      obtain rfl := dp_str h0
      obtain rfl := dp_int h1
      have k : ∀ H', Ex H H' → Q (.bl (decide (s = "content") && (pr i && divB a b c d i))) H' := k
      refine q_when (b := !pr i) (et_is (et_or (a := !true) (et_not (et_B (ev_isi (ea_cons (ev_var rfl) (ea_cons ev_c ea_nil)) (fun H2 e2 => tyx_tup (ex_t e2 ht)) (by decide +kernel)))) fun _ =>
        et_or (a := !inV (.int 2) [.int 2, .int 3]) (b := !pr i) (et_test (ev_notin (x := .int 2) (xs := [.int 2, .int 3]) (ev_len (ea_cons (ev_var rfl) ea_nil) (.inr ht)) (ea_cons ev_c (ea_cons ev_c ea_nil)) rfl rfl (by simp))) fun _ =>
        et_not (et_B (ev_call' (ea_cons (ev_ixt (i := 1) (ev_var rfl) ev_c ht rfl) ea_nil) fun H2 e2 Q' q' => ⟨.int i, true, rfl, rfl, fun i' hi' => (by cases hi'; exact ⟨hi, hiz⟩), q'⟩))) (by rw [in23_2]; rfl)) (fun hb H2 e2 => ?_) (fun hb H2 e2 => ?_)
      · have hp : pr i = false := by simpa using hb
        exact s_ret (ev_is ev_c (by rw [hp]; simp)) fun H3 e3 => k H3 (e2.trans e3)
      · have hp : pr i = true := by simpa using hb
        obtain ⟨hp2, hpn⟩ := pr_bounds hp
        obtain ⟨n, rfl⟩ := Int.eq_ofNat_of_zero_le (show 0 ≤ i by omega)
        have ht2 := ex_t e2 ht
        refine q_when (b := true) (et_is (et_test (ev_op (ev_len (ea_cons (ev_var rfl) ea_nil) (.inr ht2)) ev_c rv_eqI)) rfl) (fun _ H3 e3 => ?_) (fun z => by cases z)
        have ht3 := ex_t e3 ht2
        refine s_ret (ev_is (ev_andV (a := decide (s = "content")) (b := divB a b c d n) (ev_op (ev_ixt (i := 0) (ev_var rfl) ev_c ht3 rfl) ev_c rv_eqS) fun _ => ev_is (ev_op (ev_mod (ev_call' (ea_cons (ev_var rfl) ea_nil) fun H4 e4 Q' q' => ⟨r, a, b, c, d, rfl, rw_ex ((e2.trans e3).trans e4) hr4, q'⟩)
          (ev_ixt (i := 1) (ev_var rfl) ev_c ht3 rfl) (by omega)) ev_c rv_eqI) (by rw [cont_div])) (by rw [hp]; rfl)) fun H4 e4 => k H4 ((e2.trans e3).trans e4)
    | c3 s i pl hi hiz hpl =>
      obtain ⟨t, x0, x1, x2, rfl, ht, h0, h1, h2⟩ := dp_three hv
      obtain rfl := dp_str h0
      obtain rfl := dp_int h1
      have k : ∀ H', Ex H H' → Q (.bl (decide (s = "place") && (pr i && (plB i pl && hvP a b c d i pl)))) H' := k
      refine q_when (b := !pr i) (et_is (et_or (a := !true) (et_not (et_B (ev_isi (ea_cons (ev_var rfl) (ea_cons ev_c ea_nil)) (fun H2 e2 => tyx_tup (ex_t e2 ht)) (by decide +kernel)))) fun _ =>
        et_or (a := !inV (.int 3) [.int 2, .int 3]) (b := !pr i) (et_test (ev_notin (x := .int 3) (xs := [.int 2, .int 3]) (ev_len (ea_cons (ev_var rfl) ea_nil) (.inr ht)) (ea_cons ev_c (ea_cons ev_c ea_nil)) rfl rfl (by simp))) fun _ =>
        et_not (et_B (ev_call' (ea_cons (ev_ixt (i := 1) (ev_var rfl) ev_c ht rfl) ea_nil) fun H2 e2 Q' q' => ⟨.int i, true, rfl, rfl, fun i' hi' => (by cases hi'; exact ⟨hi, hiz⟩), q'⟩))) (by rw [in23_3]; rfl)) (fun hb H2 e2 => ?_) (fun hb H2 e2 => ?_)
      · have hp : pr i = false := by simpa using hb
        exact s_ret (ev_is ev_c (by rw [hp]; simp)) fun H3 e3 => k H3 (e2.trans e3)
      · have hp : pr i = true := by simpa using hb
        obtain ⟨hp2, hpn⟩ := pr_bounds hp
        have ht2 := ex_t e2 ht
        refine q_when (b := false) (et_is (et_test (ev_op (ev_len (ea_cons (ev_var rfl) ea_nil) (.inr ht2)) ev_c rv_eqI)) rfl) (fun z => by cases z) (fun _ H3 e3 => ?_)
        have ht3 := ex_t e3 ht2
        refine q_par (v := x2) (w := .int i) (ea_cons (ev_ixt (i := 2) (ev_var rfl) ev_c ht3 rfl) (ea_cons (ev_ixt (i := 1) (ev_var rfl) ev_c ht3 rfl) ea_nil)) fun H4 e4 => ?_
        refine at_st (σ2 := [some r, some (.ref t), some x2, some (.int i), none]) rfl ?_
        have ht4 := ex_t e4 ht3
        have h24 := dp_ex ((e2.trans e3).trans e4) _ _ h2
        have e14 := (e2.trans e3).trans e4
        have hr5 := rw_ex e14 hr4
        replace k : ∀ H', Ex H4 H' → Q (.bl (decide (s = "place") && (pr i && (plB i pl && hvP a b c d i pl)))) H' := fun H' e => k H' (e14.trans e)
        clear e14 h2
        cases hpl with
        | lst ds =>
          refine q_when (b := true) (et_is (et_or (a := !decide (s = "place")) (b := true) (et_test (ev_op (ev_ixt (i := 0) (ev_var rfl) ev_c ht4 rfl) ev_c rv_neS)) fun _ => et_or (a := !false) (b := true) (et_not (et_B (ev_isi (ea_cons (ev_var rfl) (ea_cons ev_c ea_nil)) (fun H5 e5 => tyx_dp (dp_ex e5 _ _ h24)) (by show kitB "list" "tuple" = some false; decide +kernel)))) fun z => by cases z) (by simp)) (fun _ H5 e5 => s_ret (ev_is ev_c (by simp [plB])) fun H6 e6 => k H6 (e5.trans e6)) (fun z => by cases z)
        | int j =>
          refine q_when (b := true) (et_is (et_or (a := !decide (s = "place")) (b := true) (et_test (ev_op (ev_ixt (i := 0) (ev_var rfl) ev_c ht4 rfl) ev_c rv_neS)) fun _ => et_or (a := !false) (b := true) (et_not (et_B (ev_isi (ea_cons (ev_var rfl) (ea_cons ev_c ea_nil)) (fun H5 e5 => tyx_dp (dp_ex e5 _ _ h24)) (by show kitB "int" "tuple" = some false; decide +kernel)))) fun z => by cases z) (by simp)) (fun _ H5 e5 => s_ret (ev_is ev_c (by simp [plB])) fun H6 e6 => k H6 (e5.trans e6)) (fun z => by cases z)
        | pb x' b' hx' =>
          obtain ⟨u, y0, y1, rfl, hu, g0, g1⟩ := dp_two h24
          obtain rfl := dp_int g0
          obtain rfl := dp_bl g1
          refine q_when (b := !decide (s = "place")) (et_is (et_or (a := !decide (s = "place")) (b := false) (et_test (ev_op (ev_ixt (i := 0) (ev_var rfl) ev_c ht4 rfl) ev_c rv_neS)) fun _ => et_or (a := !true) (b := false) (et_not (et_B (ev_isi (ea_cons (ev_var rfl) (ea_cons ev_c ea_nil)) (fun H5 e5 => tyx_tup (ex_t e5 hu)) (by decide +kernel)))) fun _ =>
            et_is (et_test (ev_op (ev_len (ea_cons (ev_var rfl) ea_nil) (.inr hu)) ev_c rv_neI)) rfl) (by simp)) (fun hb H5 e5 => s_ret (ev_is ev_c (by simp [plB])) fun H6 e6 => k H6 (e5.trans e6)) (fun hb H5 e5 => ?_)
          have hu5 := ex_t e5 hu
          refine q_when (b := true) (et_is (et_test (ev_neD (K := K) (d := .list _) (e := .list []) (er_lcD (fun j => decide (j = 1)) (fun _ => .bool b') (ei_tup (ev_var rfl) hu5) (by simp) (fun _ => rfl) (fun _ => rfl) (fun j x H6 hj e6 y => ?_) (fun j x H6 hj e6 y hb => ?_) (fun _ _ _ _ _ y => y)) (er_dlst .nil (by decide)) (shaped_list fun d hd => ?_) rfl)) (by rw [eqv_nil]; rfl)) (fun hb H6 e6 => s_ret (ev_is ev_c (by simp [plB])) fun H7 e7 => k H7 ((e5.trans e6).trans e7)) (fun z => by cases z)
          · match j, hj, y with
            | 0, _, y => cases y; exact et_is (et_or (a := !true) (b := false) (et_not (et_B (ev_isi (ea_cons (ev_var rfl) (ea_cons ev_c ea_nil)) (fun H7 e7 => tyx_int _) (by decide +kernel)))) fun _ => et_B (ev_isi (ea_cons (ev_var rfl) (ea_cons ev_c ea_nil)) (fun H7 e7 => tyx_int _) (by decide +kernel))) rfl
            | 1, _, y => cases y; exact et_is (et_or (a := !true) (b := true) (et_not (et_B (ev_isi (ea_cons (ev_var rfl) (ea_cons ev_c ea_nil)) (fun H7 e7 => tyx_bl _) (by decide +kernel)))) fun _ => et_B (ev_isi (ea_cons (ev_var rfl) (ea_cons ev_c ea_nil)) (fun H7 e7 => tyx_bl _) (by decide +kernel))) rfl
          · obtain rfl := of_decide_eq_true hb
            cases y
            exact er_dbl (ev_var rfl)
          · obtain ⟨_, _, rfl⟩ := List.mem_map.mp hd
            exact ⟨rfl, Nat.zero_le _⟩
        | pair x' y' hx' hy' =>
          obtain ⟨u, y0, y1, rfl, hu, g0, g1⟩ := dp_two h24
          obtain rfl := dp_int g0
          obtain rfl := dp_int g1
          refine q_when (b := !decide (s = "place")) (et_is (et_or (a := !decide (s = "place")) (b := false) (et_test (ev_op (ev_ixt (i := 0) (ev_var rfl) ev_c ht4 rfl) ev_c rv_neS)) fun _ => et_or (a := !true) (b := false) (et_not (et_B (ev_isi (ea_cons (ev_var rfl) (ea_cons ev_c ea_nil)) (fun H5 e5 => tyx_tup (ex_t e5 hu)) (by decide +kernel)))) fun _ =>
            et_is (et_test (ev_op (ev_len (ea_cons (ev_var rfl) ea_nil) (.inr hu)) ev_c rv_neI)) rfl) (by simp)) (fun hb H5 e5 => ?_) (fun hb H5 e5 => ?_)
          · have hs0 : decide (s = "place") = false := by simpa using hb
            exact s_ret (ev_is ev_c (by rw [hs0]; rfl)) fun H6 e6 => k H6 (e5.trans e6)
          have hs1 : decide (s = "place") = true := by simpa using hb
          rw [hs1, hp] at k
          have hu5 := ex_t e5 hu
          refine q_when (b := false) (et_is (et_test (ev_neD (K := K) (d := .list _) (e := .list []) (er_lcD (fun _ => false) (fun _ => .none) (ei_tup (ev_var rfl) hu5) (by simp) (fun _ => rfl) (fun _ => rfl) (fun j x H6 hj e6 y => ?_) (fun j x H6 hj e6 y hb => by cases hb) (fun _ _ _ _ _ y => y)) (er_dlst .nil (by decide)) (shaped_list fun d hd => ?_) rfl)) (by rw [eqv_nil]; rfl)) (fun z => by cases z) (fun hb H6 e6 => ?_)
          · match j, hj, y with
            | 0, _, y => cases y; exact et_is (et_or (a := !true) (b := false) (et_not (et_B (ev_isi (ea_cons (ev_var rfl) (ea_cons ev_c ea_nil)) (fun H7 e7 => tyx_int _) (by decide +kernel)))) fun _ => et_B (ev_isi (ea_cons (ev_var rfl) (ea_cons ev_c ea_nil)) (fun H7 e7 => tyx_int _) (by decide +kernel))) rfl
            | 1, _, y => cases y; exact et_is (et_or (a := !true) (b := false) (et_not (et_B (ev_isi (ea_cons (ev_var rfl) (ea_cons ev_c ea_nil)) (fun H7 e7 => tyx_int _) (by decide +kernel)))) fun _ => et_B (ev_isi (ea_cons (ev_var rfl) (ea_cons ev_c ea_nil)) (fun H7 e7 => tyx_int _) (by decide +kernel))) rfl
          · obtain ⟨_, _, rfl⟩ := List.mem_map.mp hd
            exact ⟨rfl, Nat.zero_le _⟩
          · have hu6 := ex_t e6 hu5
            have h26 := dp_ex (e5.trans e6) _ _ h24
            refine q_when (b := !plB i (.tuple [.int x', .int y'])) (et_is (et_and (et_test (ev_neD (K := K) (er_dvar rfl h26) (er_dtup (.cons (er_dint ev_c) (.cons (er_dint ev_c) .nil)) (by simp)) rfl rfl)) fun _ => et_not (et_and (a := decide (y' = 1)) (b := decide (0 ≤ x') && decide (x' < i)) (et_test (ev_op (ev_ixt (i := 1) (ev_var rfl) ev_c hu6 rfl) ev_c rv_eqI)) fun _ =>
              et_test (ev_chain (ev_c (v := .int 0)) (ev_ixt (i := 0) (ev_var rfl) ev_c hu6 rfl) rv_I0 fun _ => ⟨ev_var rfl, rv_I0⟩))) plB_eqv) (fun hc H7 e7 => ?_) (fun hc H7 e7 => ?_)
            · have hc : plB i (.tuple [.int x', .int y']) = false := by simpa using hc
              exact s_ret (ev_is ev_c (by rw [hc]; rfl)) fun H8 e8 => k H8 (((e5.trans e6).trans e7).trans e8)
            · have hc : plB i (.tuple [.int x', .int y']) = true := by simpa using hc
              rw [hc] at k
              have hxy : (x' = 1 ∧ y' = 0) ∨ y' = 1 := by
                have hc : (decide (x' = 1 ∧ y' = 0) || (decide (y' = 1) && (decide (0 ≤ x') && decide (x' < i)))) = true := hc
                simp at hc
                omega
              have hiz2 : i.natAbs < 2 ^ 100 := by
                have : (10001 : Nat) < 2 ^ 100 := by decide
                omega
              exact s_ret (ev_call' (ea_cons (ev_var rfl) (ea_cons (ev_var rfl) (ea_cons (ev_var rfl) ea_nil))) fun H8 e8 Q' q' => ⟨r, .ref u, a, b, c, d, i, x', y', rfl, rw_ex (((e5.trans e6).trans e7).trans e8) hr5, hz, by omega, hiz2, dp_ex (e7.trans e8) _ _ h26, hx', hxy, q'⟩) fun H8 e8 => k H8 (((e5.trans e6).trans e7).trans e8)
end
end Z
namespace Z
open PySem PySem.Spec PyProof.Rows L2 Evl Zm SlX
local macro_rules | `(tactic| walk_at "zi") => `(tactic| (repeat' first | exact evi_c | exact evi_var rfl (by with_reducible assumption) | apply evi_add | apply evi_sub | apply evi_mul); all_goals (show _ ≤ 1000000; decide))
local macro_rules | `(tactic| walk_at "zn") => `(tactic| dsimp only [List.set_cons_zero, List.set_cons_succ])
section
variable {P : Program} {w : World} {K : PySem.W.Frag} {mg : Str → Option Value} {base : Heap}
variable {aE cF cK pS pD gD fI P1 P2 : Addr}
open GxR
/-! Zo: the kettle: made, a sip, what is taken -/
def CPowW (i j : Int) : Prop := 0 ≤ j ∧ (Builtin.Int.intBits i : Int) * j ≤ 2 ^ 27
theorem op_powW {X : Cx} : OpR X (binaryOp .Pow) (rI CPowW fun i j => .int (i ^ j.toNat)) := opI fun _ _ _ _ _ _ _ hc q => PyProof.Rows.pow_int hc.1 hc.2 q
/-- the kettle at kl -/
def Ket (N : Nat) (kl : Addr) (H : Hp) : Prop := ∃ k0 k1 k2 : Int, H kl = some (.lst [.int k0, .int k1, .int k2]) ∧ 0 ≤ k0 ∧ k0.natAbs < 2 ^ 1000 ∧ 0 ≤ k1 ∧ k1.natAbs < 2 ^ 60 ∧ 0 ≤ k2 ∧ k2 ≤ (N : Int)
theorem Ket.ex {N : Nat} {kl : Addr} {H H' : Hp} (h : Ket N kl H) (e : Ex H H') : Ket N kl H' := by
  obtain ⟨k0, k1, k2, h1, h2⟩ := h
  exact ⟨k0, k1, k2, e _ _ h1, h2⟩
theorem Ket.up {N M : Nat} {kl : Addr} {H : Hp} (h : Ket N kl H) (l : N ≤ M) : Ket M kl H := by
  obtain ⟨k0, k1, k2, h1, h2, h3, h4, h5, h6, h7⟩ := h
  exact ⟨k0, k1, k2, h1, h2, h3, h4, h5, h6, by omega⟩
/-- all but the list at kl stays -/
def ExK (kl : Addr) (H H' : Hp) : Prop := ∀ a o, a ≠ kl → H a = some o → H' a = some o
section
variable {kl : Addr} {H H' H1 H2 : Hp}
theorem ExK.refl (H : Hp) : ExK kl H H := fun _ _ _ h => h
theorem ExK.trans (a : ExK kl H H1) (b : ExK kl H1 H2) : ExK kl H H2 := fun x o n h => b x o n (a x o n h)
theorem toK (e : Ex H H') : ExK kl H H' := fun a o _ h => e a o h
theorem exk_upd {o : HO} : ExK kl H (upd H kl o) := fun a u n h => by rw [upd_ne n]; exact h
theorem exk_L {N : Nat} (k : Ket N kl H) (e : ExK kl H H') : ExL H H' := fun a o h n => by
  obtain ⟨k0, k1, k2, h1, _⟩ := k
  refine e a o (fun z => ?_) h
  rw [z, h1] at h
  exact n _ (Option.some.inj h).symm
theorem rw_exk {N : Nat} (k : Ket N kl H) (e : ExK kl H H') {v : V} {ns : List Int} (h : Rw K H v ns) : Rw K H' v ns := dp_exl (exk_L k e) _ _ (by
  show noLs (ns.map PyData.int) = true
  clear h
  induction ns with
  | nil => rfl
  | cons n ns ih => exact ih) h
theorem ch_exk {N : Nat} (k : Ket N kl H) (e : ExK kl H H') {v : V} {p q r s : Int} (h : Ch K H v p q r s) : Ch K H' v p q r s := dp_exl (exk_L k e) _ _ rfl h
theorem tab_exk {N : Nat} (k : Ket N kl H) (e : ExK kl H H') {p : Addr} (h : TabG H p) : TabG H' p := by
  obtain ⟨k0, k1, k2, h1, _⟩ := k
  obtain ⟨ps, h2, h3⟩ := h
  exact ⟨ps, e p _ (fun z => by rw [z, h1] at h2; cases h2) h2, h3⟩
theorem exk_new {N : Nat} (k : Ket N kl H) {p : Addr} (h : H p = none) : p ≠ kl := fun z => by
  obtain ⟨k0, k1, k2, h1, _⟩ := k
  rw [z, h1] at h
  cases h
end
section
variable {σ : L2.St} {H : Hp} {te ta tb : TE}
theorem ev_ixl {v : V} {xs : List V} {i : Nat} {p : Addr} (ha : Ev ta σ H (.ref p)) (hb : Ev tb σ H (.int (i : Int))) (h : SqL K H p xs) (hi : xs[i]? = some v) : Ev (tOp (rIxL K) ta tb) σ H v := ev_op ha hb (rv_ixL h (atI_nat hi))
theorem ev_int {t : TA} {i : Int} (h : EvA t σ H [.int i]) : Ev (tCB (fun xs H Q => (∃ i, xs = [.int i] ∧ Q (.int i) H) ∨ ∃ k, xs = [.bl k] ∧ Q (.int (if k then 1 else 0)) H) t) σ H (.int i) := fun H1 e Q q =>
  h H1 e _ fun H2 e2 => .inl ⟨i, rfl, q H2 e2⟩
theorem ev_intB {t : TA} {b : Bool} (h : EvA t σ H [.bl b]) : Ev (tCB (fun xs H Q => (∃ i, xs = [.int i] ∧ Q (.int i) H) ∨ ∃ k, xs = [.bl k] ∧ Q (.int (if k then 1 else 0)) H) t) σ H (.int (if b then 1 else 0)) := fun H1 e Q q =>
  h H1 e _ fun H2 e2 => .inr ⟨b, rfl, q H2 e2⟩
theorem ev_max {t : TA} {i j : Int} (h : EvA t σ H [.int i, .int j]) : Ev (tCB (fun xs H Q => ∃ i j, xs = [.int i, .int j] ∧ Q (.int (if j > i then j else i)) H) t) σ H (.int (if j > i then j else i)) := fun H1 e Q q =>
  h H1 e _ fun H2 e2 => ⟨i, j, rfl, q H2 e2⟩
theorem evi_ev {i : Int} {n : Nat} (h : Ev te σ H (.int i)) (hz : i.natAbs < 2 ^ n) (hn : 0 < n := by decide) : EvI te σ H i n := ⟨h, hz, hn⟩
end
/-! ### the kettle is made -/
theorem small_great {c : Int} : 0 ≤ c % (10 ^ 55) ^ 5 ∧ (c % (10 ^ 55) ^ 5).natAbs < 2 ^ 1000 := by
  have h0 : (0 : Int) < (10 ^ 55) ^ 5 := by decide
  have h1 := Int.emod_nonneg c (show ((10 : Int) ^ 55) ^ 5 ≠ 0 by omega)
  have h2 := Int.emod_lt_of_pos c h0
  have h3 : ((10 : Int) ^ 55) ^ 5 < 2 ^ 1000 := by decide
  refine ⟨h1, ?_⟩
  have h4 : ((c % (10 ^ 55) ^ 5).natAbs : Int) < 2 ^ 1000 := by omega
  exact_mod_cast h4
abbrev s55 : Stmt := topS 55
theorem sc55 : FnScope ["_law_script", "_law_spot", "_law_cell", "_law_great"] ["_law_script", "_law_spot"] (defScope s55) := ⟨rfl, rfl, rfl, by decide +kernel, rfl, by decide +kernel, by decide +kernel⟩
def spKettle (K : PySem.W.Frag) : Sp := fun vs H Q _ => ∃ (a : Addr) (ns : List Int) (i : Nat), vs = [.ref a, .int (i : Int)] ∧ SqL K H a (ns.map V.int) ∧ i ≤ 3 ∧ ∀ kl H', H kl = none → Ex H H' → Ket 0 kl H' → Q (.ref kl) H'
theorem fk55 (R : Raw K mg "_law_kettle" s55) (T : Bt K mg aE cF cK) : Fk P w K mg base "_law_kettle" 1 ["_law_script", "_law_spot"] (spKettle K) := by
  refine R.fk sc55 (fun _ _ _ _ _ _ us hl => match us, hl with | [_, _], _ => rfl) (fun vs H Q E h => ?_) (fun f cdv A outer s H vs Q E hr h => ?_)
  · obtain ⟨a, ns, i, rfl, _⟩ := h; rfl
  · obtain ⟨a, ns, i, rfl, ha, hi, k⟩ := h
    refine ⟨_, (pss_cons (ps_set (i := 2) sc55.nd rfl (Or.inl rfl) (pe_ifExp (pt_cmpR op_lt (pv 1) (pe_callB call_len_seq (by rfl) T.len (by decide +kernel) (pa_cons (pv 0) pa_nil)) (nomark _)) (pe_callTy call_int1 (by rfl) T.int (by decide +kernel) (pa_cons (pe_ix ix_list (pv 0) (pv 1) (fun _ _ => rfl)) pa_nil)) (pe_op op_add (pe_op op_mulW pe_int (pv 1)) pe_int)))
      (pss_cons (ps_set (i := 3) sc55.nd rfl (Or.inl rfl) (pe_op op_mod (pe_callTy call_int1 (by rfl) T.int (by decide +kernel) (pa_cons (pe_callB call_abs (by rfl) T.abs (by decide +kernel) (pa_cons (pv 2) pa_nil)) pa_nil)) (pe_op op_powW (pe_op op_pow pe_int pe_int) pe_int)))
      (pss_one (ps_ret (pe_lst (pa_cons (pe_callB (call_max2 rfl) (by rfl) T.max (by decide +kernel) (pa_cons pe_int (pa_cons (pe_op op_sub (pv 3) (pe_op op_pow pe_int pe_int)) pa_nil))) (pa_cons (pe_op op_add (pe_op op_add (pe_op op_add (pe_op op_mulW (pe_op op_mod (pe_callTy call_int1 (by rfl) T.int (by decide +kernel) (pa_cons (pv 3) pa_nil)) pe_int) pe_int) (pe_op op_mulW pe_int (pv 1))) (pe_op op_mulW pe_int (pe_callTy call_int1 (by rfl) T.int (by decide +kernel) (pa_cons (pe_cmpR op_lt (pv 2) pe_int (nomark _)) pa_nil)))) pe_int) (pa_cons pe_int pa_nil)))))))), ?_⟩
    refine at_st (σ2 := [some _, some _, none, none]) rfl ?_
    have hiz : ((i : Int)).natAbs < 2 ^ 20 := by omega
    have key : ∃ c : Int, Ev (tIf (tTest (tOp (rI0 fun i j => V.bl (decide (i < j))) (tVar 1) (tCB (fun xs H Q => ∃ p ys, xs = [.ref p] ∧ (SqL K H p ys ∨ SqT K H p ys) ∧ Q (.int ys.length) H) (tCons (tVar 0) tNil)))) (tCB (fun xs H Q => (∃ i, xs = [.int i] ∧ Q (.int i) H) ∨ ∃ k, xs = [.bl k] ∧ Q (.int (if k then 1 else 0)) H) (tCons (tOp (rIxL K) (tVar 0) (tVar 1)) tNil))
        (tOp (rI0 fun i j => .int (i + j)) (tOp (rI CMulW fun i j => .int (i * j)) (tC (.int 113)) (tVar 1)) (tC (.int 47)))) [some (.ref a), some (.int (i : Int)), none, none] H (.int c) := by
      by_cases hlt : i < ns.length
      · have hx : (ns.map V.int)[i]? = some (.int ns[i]) := by rw [List.getElem?_map, List.getElem?_eq_getElem hlt]; rfl
        refine ⟨ns[i], ev_if (b := true) (et_is (et_test (ev_op (ev_var rfl) (ev_len (ea_cons (ev_var rfl) ea_nil) (.inl ha)) rv_I0)) (by rw [List.length_map]; exact decide_eq_true (by omega))) (fun _ => ev_int (ea_cons (ev_ixl (ev_var rfl) (ev_var rfl) ha hx) ea_nil)) (fun z => by cases z)⟩
      · refine ⟨113 * (i : Int) + 47, ev_if (b := false) (et_is (et_test (ev_op (ev_var rfl) (ev_len (ea_cons (ev_var rfl) ea_nil) (.inl ha)) rv_I0)) (by rw [List.length_map]; exact decide_eq_false (by omega))) (fun z => by cases z) (fun _ => (evi_add (evi_mul evi_c (evi_var rfl hiz)) evi_c).ev)⟩
    obtain ⟨c, hc⟩ := key
    refine q_asg hc fun H1 e1 => ?_
    walk_at "zn"
    obtain ⟨g0, gz⟩ := small_great (c := if c < 0 then -c else c)
    generalize hg : (if c < 0 then -c else c) % (10 ^ 55) ^ 5 = gr at g0 gz
    refine q_asg (v := .int gr) (ev_is (ev_mod (i := if c < 0 then -c else c) (j := ((10 : Int) ^ 55) ^ 5) (ev_int (ea_cons (ev_abs (ea_cons (ev_var rfl) ea_nil)) ea_nil)) (ev_op (ev_op ev_c ev_c (rv_I (C := CPow) (g := fun i j => .int (i ^ j.toNat)) (i := 10) (j := 55) (by unfold CPow; decide))) ev_c (rv_I (C := CPowW) (g := fun i j => .int (i ^ j.toNat)) (i := 10 ^ 55) (j := 5) (by unfold CPowW; decide +kernel))) (by decide)) (by rw [hg])) fun H2 e2 => ?_
    walk_at "zn"
    have hm0 := Int.emod_nonneg gr (show (2147483587 : Int) ≠ 0 by decide)
    have hm1 := Int.emod_lt_of_pos gr (show (0 : Int) < 2147483587 by decide)
    have eg : EvI (tOp (rI (fun _ j => 0 < j) fun i j => .int (i % j)) (tCB (fun xs H Q => (∃ i, xs = [.int i] ∧ Q (.int i) H) ∨ ∃ k, xs = [.bl k] ∧ Q (.int (if k then 1 else 0)) H) (tCons (tVar 3) tNil)) (tC (.int 2147483587))) [some (.ref a), some (.int (i : Int)), some (.int c), some (.int gr)] H2 (gr % 2147483587) 40 :=
      evi_ev (ev_mod (ev_int (ea_cons (ev_var rfl) ea_nil)) ev_c (by decide)) (by omega)
    have ec : EvI (tCB (fun xs H Q => (∃ i, xs = [.int i] ∧ Q (.int i) H) ∨ ∃ k, xs = [.bl k] ∧ Q (.int (if k then 1 else 0)) H) (tCons (tOp (rI0 fun i j => V.bl (decide (i < j))) (tVar 2) (tC (.int 0))) tNil)) [some (.ref a), some (.int (i : Int)), some (.int c), some (.int gr)] H2 (if decide (c < 0) then 1 else 0) 10 :=
      evi_ev (ev_intB (ea_cons (ev_op (ev_var rfl) ev_c rv_I0) ea_nil)) (by split <;> decide)
    refine s_retL (el_lst (ea_cons (ev_max (ea_cons ev_c (ea_cons (ev_op (ev_var rfl) (ev_op ev_c ev_c (rv_I (C := CPow) (g := fun i j => .int (i ^ j.toNat)) (i := 10) (j := 16) (by unfold CPow; decide))) rv_I0) ea_nil))) (ea_cons (evi_add (evi_add (evi_add (evi_mul eg evi_c) (evi_mul evi_c (evi_var rfl hiz))) (evi_mul evi_c ec)) evi_c).ev (ea_cons ev_c ea_nil))) (by simp)) fun kl H3 hn e3 hkl => ?_
    refine k kl H3 (fresh_back (e1.trans e2) hn) ((e1.trans e2).trans e3) ⟨_, _, _, hkl, ?_, ?_, ?_, ?_, ?_, ?_⟩
    · split <;> omega
    · have h1 : (if gr - 10 ^ (16 : Int).toNat > 0 then gr - 10 ^ (16 : Int).toNat else (0 : Int)).natAbs ≤ gr.natAbs := by
        have h2 : (0 : Int) ≤ 10 ^ (16 : Int).toNat := by decide
        split <;> omega
      exact Nat.lt_of_le_of_lt h1 gz
    · have : (0 : Int) ≤ (if decide (c < 0) = true then 1 else 0) := by split <;> decide
      omega
    · have h5 : (if decide (c < 0) = true then (1 : Int) else 0) ≤ 1 := by split <;> decide
      have h6 : (0 : Int) ≤ (if decide (c < 0) = true then 1 else 0) := by split <;> decide
      have h7 : (2 : Nat) ^ 60 = 1152921504606846976 := by decide
      rw [h7]
      omega
    · decide
    · decide

/-! ### a sip -/
theorem mod_sz {i j : Int} {n : Nat} (hj : 0 < j) (hz : j ≤ 2 ^ n) : 0 ≤ i % j ∧ (i % j).natAbs < 2 ^ n := by
  have h1 := Int.emod_nonneg i (show j ≠ 0 by omega)
  have h2 := Int.emod_lt_of_pos i hj
  refine ⟨h1, ?_⟩
  have h4 : ((i % j).natAbs : Int) < 2 ^ n := by omega
  exact_mod_cast h4
abbrev s56 : Stmt := topS 56
theorem sc56 : FnScope ["_law_kettle_here", "_law_top", "_law_found", "_law_one", "_law_two"] ["_law_kettle_here", "_law_top"] (defScope s56) := ⟨rfl, rfl, rfl, by decide +kernel, rfl, by decide +kernel, by decide +kernel⟩
def spSip : Sp := fun vs H Q _ => ∃ (kl : Addr) (N : Nat) (top : Int), vs = [.ref kl, .int top] ∧ Ket N kl H ∧ N < 1000 ∧ 0 < top ∧ top ≤ 1000 ∧ ∀ (v : Int) H', 0 ≤ v → v < top → ExK kl H H' → Ket (N + 1) kl H' → Q (.int v) H'
theorem fk56 (R : Raw K mg "_law_sip" s56) (T : Bt K mg aE cF cK) : Fk P w K mg base "_law_sip" 1 ["_law_kettle_here", "_law_top"] spSip := by
  refine R.fk sc56 (fun _ _ _ _ _ _ us hl => match us, hl with | [_, _], _ => rfl) (fun vs H Q E h => ?_) (fun f cdv A outer s H vs Q E hr h => ?_)
  · obtain ⟨kl, N, top, rfl, _⟩ := h; rfl
  · obtain ⟨kl, N, top, rfl, ⟨k0, k1, k2, hk, hk0, hk0z, hk1, hk1z, hk2, hk2n⟩, hN, ht0, htz, k⟩ := h
    refine ⟨_, (pss_cons (ps_if (pt_cmpR op_gt (pe_ix ix_list (pv 0) pe_int (fun _ _ => rfl)) pe_int (nomark _)) (pss_cons (ps_set (i := 2) sc56.nd rfl (Or.inl rfl) (pe_op op_mod (pe_callTy call_int1 (by rfl) T.int (by decide +kernel) (pa_cons (pe_ix ix_list (pv 0) pe_int (fun _ _ => rfl)) pa_nil)) (pv 1)))
      (pss_cons (ps_asg (pe_op op_fdivW (pe_ix ix_list (pv 0) pe_int (fun _ _ => rfl)) (pv 1)) (pg_sub (pv 0) pe_int set_list))
      (pss_one (ps_ret (pv 2))))) pss_nil)
      (pss_cons (ps_asg (pe_op op_add (pe_ix ix_list (pv 0) pe_int (fun _ _ => rfl)) pe_int) (pg_sub (pv 0) pe_int set_list))
      (pss_cons (ps_set (i := 3) sc56.nd rfl (Or.inl rfl) (pe_op op_mod (pe_callTy call_int1 (by rfl) T.int (by decide +kernel) (pa_cons (pe_op op_add (pe_ix ix_list (pv 0) pe_int (fun _ _ => rfl)) (pe_op op_mulW pe_int (pe_ix ix_list (pv 0) pe_int (fun _ _ => rfl)))) pa_nil)) pe_int))
      (pss_cons (ps_set (i := 4) sc56.nd rfl (Or.inl rfl) (pe_op op_add (pe_op op_mulW (pe_op op_mod (pe_callTy call_int1 (by rfl) T.int (by decide +kernel) (pa_cons (pe_op op_add (pe_op op_mulW (pv 3) (pv 3)) (pe_op op_mulW pe_int (pe_ix ix_list (pv 0) pe_int (fun _ _ => rfl)))) pa_nil)) pe_int) pe_int) (pv 3)))
      (pss_one (ps_ret (pe_op op_mod (pe_callTy call_int1 (by rfl) T.int (by decide +kernel) (pa_cons (pe_op op_fdivW (pv 4) pe_int) pa_nil)) (pv 1)))))))), ?_⟩
    refine at_st (σ2 := [some _, some _, none, none, none]) rfl ?_
    have hl : SqL K H kl [.int k0, .int k1, .int k2] := SqL.of hk
    have htop : top.natAbs < 2 ^ 1000 := Nat.lt_of_lt_of_le (show top.natAbs < 2 ^ 10 by omega) (Nat.pow_le_pow_right (by decide) (by decide))
    refine q_when (b := decide (k0 > 0)) (et_test (ev_op (ev_ixl (i := 0) (ev_var rfl) ev_c hl rfl) ev_c rv_I0)) (fun hb H1 e1 => ?_) (fun hb H1 e1 => ?_)
    · have hb := of_decide_eq_true hb
      have hl1 := ex_l e1 hl
      refine q_asg (v := .int (k0 % top)) (ev_mod (ev_int (ea_cons (ev_ixl (i := 0) (ev_var rfl) ev_c hl1 rfl) ea_nil)) (ev_var rfl) ht0) fun H2 e2 => ?_
      walk_at "zn"
      have hk2' := e2 _ _ (e1 _ _ hk)
      refine s_setL (D := { nx := tRet (tVar 2) _, rt := Q }) (j := 0) hk2' (ev_fdiv (ev_ixl (i := 0) (ev_var rfl) ev_c (ex_l e2 hl1) rfl) (ev_var rfl) ht0 htop) (ev_var rfl) ev_c (by simp) fun H3 e3 => ?_
      have h1 := Int.emod_nonneg k0 (show top ≠ 0 by omega)
      have h2 := Int.emod_lt_of_pos k0 ht0
      refine s_ret (D := { nx := fun _ H' => Q .non H', rt := Q }) (ev_var rfl) fun H4 e4 => k _ H4 h1 h2 ((((toK e1).trans (toK e2)).trans (toK e3)).trans (exk_upd.trans (toK e4))) ⟨k0 / top, k1, k2, e4 _ _ upd_same, ?_, ?_, hk1, hk1z, hk2, by omega⟩
      · exact Int.ediv_nonneg (by omega) (by omega)
      · refine Nat.lt_of_le_of_lt ?_ hk0z
        have h3 := Int.ediv_nonneg (show 0 ≤ k0 by omega) (show 0 ≤ top by omega)
        have h4 := Int.ediv_le_self top (show 0 ≤ k0 by omega)
        omega
    · have hb := of_decide_eq_false hb
      have hl1 := ex_l e1 hl
      have hk1' := e1 _ _ hk
      refine s_setL (D := { nx := _, rt := Q }) (j := 2) hk1' (ev_op (ev_ixl (i := 2) (ev_var rfl) ev_c hl1 rfl) ev_c rv_I0) (ev_var rfl) ev_c (by simp) fun H2 e2 => ?_
      have hk3 : (upd H2 kl (.lst [.int k0, .int k1, .int (k2 + 1)])) kl = some (.lst [.int k0, .int k1, .int (k2 + 1)]) := upd_same
      have hx : ExK kl H (upd H2 kl (.lst [.int k0, .int k1, .int (k2 + 1)])) := ((toK e1).trans (toK e2)).trans exk_upd
      show tSeq _ _ _ _ (upd H2 kl (.lst [.int k0, .int k1, .int (k2 + 1)]))
      generalize upd H2 kl (.lst [.int k0, .int k1, .int (k2 + 1)]) = H3 at hk3 hx
      have hl3 : SqL K H3 kl [.int k0, .int k1, .int (k2 + 1)] := SqL.of hk3
      obtain ⟨o0, oz⟩ := mod_sz (i := k1 + 6700417 * (k2 + 1)) (j := 2305843009213693951) (n := 61) (by decide) (by decide)
      have hk2z : (k2 + 1).natAbs < 2 ^ 20 := by omega
      have q1 : EvI (tOp (rIxL K) (tVar 0) (tC (.int 1))) [some (.ref kl), some (.int top), none, none, none] H3 k1 60 := evi_ev (ev_ixl (i := 1) (ev_var rfl) ev_c hl3 rfl) hk1z
      have q2 : EvI (tOp (rIxL K) (tVar 0) (tC (.int 2))) [some (.ref kl), some (.int top), none, none, none] H3 (k2 + 1) 20 := evi_ev (ev_ixl (i := 2) (ev_var rfl) ev_c hl3 rfl) hk2z
      refine q_asg (v := .int ((k1 + 6700417 * (k2 + 1)) % 2305843009213693951)) (ev_mod (ev_int (ea_cons (evi_add q1 (evi_mul evi_c q2)).ev ea_nil)) ev_c (by decide)) fun H4 e4 => ?_
      walk_at "zn"
      generalize (k1 + 6700417 * (k2 + 1)) % 2305843009213693951 = one at o0 oz
      have q3 : EvI (tOp (rIxL K) (tVar 0) (tC (.int 2))) [some (.ref kl), some (.int top), none, some (.int one), none] H4 (k2 + 1) 20 := evi_ev (ev_ixl (i := 2) (ev_var rfl) ev_c (ex_l e4 hl3) rfl) hk2z
      obtain ⟨m0, mz⟩ := mod_sz (i := one * one + 173 * (k2 + 1)) (j := 2305843009213693951) (n := 61) (by decide) (by decide)
      have q4 : EvI (tOp (rI (fun _ j => 0 < j) fun i j => .int (i % j)) (tCB (fun xs H Q => (∃ i, xs = [.int i] ∧ Q (.int i) H) ∨ ∃ k, xs = [.bl k] ∧ Q (.int (if k then 1 else 0)) H) (tCons (tOp (rI0 fun i j => .int (i + j)) (tOp (rI CMulW fun i j => .int (i * j)) (tVar 3) (tVar 3)) (tOp (rI CMulW fun i j => .int (i * j)) (tC (.int 173)) (tOp (rIxL K) (tVar 0) (tC (.int 2))))) tNil)) (tC (.int 2305843009213693951)))
          [some (.ref kl), some (.int top), none, some (.int one), none] H4 ((one * one + 173 * (k2 + 1)) % 2305843009213693951) 61 :=
        evi_ev (ev_mod (ev_int (ea_cons (evi_add (evi_mul (evi_var rfl oz) (evi_var rfl oz)) (evi_mul evi_c q3)).ev ea_nil)) ev_c (by decide)) mz
      refine q_asg (evi_add (evi_mul q4 evi_c) (evi_var rfl oz)).ev fun H5 e5 => ?_
      walk_at "zn"
      generalize (one * one + 173 * (k2 + 1)) % 2305843009213693951 * 5915587 + one = two
      have h1 := Int.emod_nonneg (two / 65536) (show top ≠ 0 by omega)
      have h2 := Int.emod_lt_of_pos (two / 65536) ht0
      refine s_ret (D := { nx := fun _ H' => Q .non H', rt := Q }) (ev_mod (ev_int (ea_cons (ev_fdiv (ev_var rfl) ev_c (by decide) (Nat.lt_of_lt_of_le (show (65536 : Int).natAbs < 2 ^ 20 by decide) (Nat.pow_le_pow_right (by decide) (by decide)))) ea_nil)) (ev_var rfl) ht0) fun H6 e6 => k _ H6 h1 h2 (((hx.trans (toK e4)).trans (toK e5)).trans (toK e6)) ⟨k0, k1, k2 + 1, e6 _ _ (e5 _ _ (e4 _ _ hk3)), hk0, hk0z, hk1, hk1z, by omega, by omega⟩
/-! ### readings over the kettle -/
def ErK (kl : Addr) (N M : Nat) (te : TE) (σ : L2.St) (H : Hp) (R : V → Hp → Prop) : Prop := ∀ H1, ExK kl H H1 → Ket N kl H1 → ∀ Q : VK, (∀ v H2, ExK kl H1 H2 → Ket M kl H2 → R v H2 → Q v H2) → te σ H1 Q
section
variable {σ : L2.St} {H : Hp} {te ta tb tl : TE} {tt : TT} {kl : Addr} {N M M2 : Nat} {R S : V → Hp → Prop} {D : Ends} {tz : TS}
theorem er_K (h : ∀ H1, ExK kl H H1 → Ket N kl H1 → Er te σ H1 R) : ErK kl N N te σ H R := fun H1 e k Q q => h H1 e k H1 (Ex.refl H1) Q fun v H2 e2 r => q v H2 (toK e2) (k.ex e2) r
theorem ev_K {v : V} (h : ∀ H1, ExK kl H H1 → Ket N kl H1 → Ev te σ H1 v) : ErK kl N N te σ H (fun u _ => u = v) := er_K fun H1 e k => er_ev (h H1 e k)
theorem ErK.imp (h : ErK kl N M te σ H R) (i : ∀ v H', R v H' → S v H') : ErK kl N M te σ H S := fun H1 a k Q q => h H1 a k Q fun v H2 e k2 r => q v H2 e k2 (i v H2 r)
theorem ErK.up (h : ErK kl N M te σ H R) (l : M ≤ M2) : ErK kl N M2 te σ H R := fun H1 a k Q q => h H1 a k Q fun v H2 e k2 r => q v H2 e (k2.up l) r
theorem s_asgK {i : Nat} (k0 : Ket N kl H) (h : ErK kl N M te σ H R) (k : ∀ v H1, ExK kl H H1 → Ket M kl H1 → R v H1 → D.nx (σ.set i (some v)) H1) : tAsg te (gName i) D σ H := h H (ExK.refl H) k0 _ fun v H1 e k1 r => k v H1 e k1 r
theorem q_asgK {i : Nat} (k0 : Ket N kl H) (h : ErK kl N M te σ H R) (k : ∀ v H1, ExK kl H H1 → Ket M kl H1 → R v H1 → tz D (σ.set i (some v)) H1) : tSeq (tAsg te (gName i)) tz D σ H := s_asgK (D := { D with nx := tz D }) k0 h k
theorem s_retK (k0 : Ket N kl H) (h : ErK kl N M te σ H R) (k : ∀ v H1, ExK kl H H1 → Ket M kl H1 → R v H1 → D.rt v H1) : tRet te D σ H := h H (ExK.refl H) k0 _ fun v H1 e k1 r => k v H1 e k1 r
/-- a call, the arguments first -/
theorem k_call {sp : Sp} {E : XK} {t : TA} {vs : List V} (h : ∀ H1, ExK kl H H1 → Ket N kl H1 → EvA t σ H1 vs) (hs : ∀ H1, ExK kl H H1 → Ket N kl H1 → ∀ Q : VK, (∀ v H2, ExK kl H1 H2 → Ket M kl H2 → R v H2 → Q v H2) → sp vs H1 Q E) : ErK kl N M (tCall sp [] E t) σ H R := fun H1 e k Q q =>
  h H1 e k H1 (Ex.refl H1) _ fun H2 e2 => by
    have := hs H2 (e.trans (toK e2)) (k.ex e2) Q fun v H3 e3 k3 r3 => q v H3 ((toK e2).trans e3) k3 r3
    show sp (vs ++ []) H2 Q E
    rw [List.append_nil]
    exact this
/-- a sip -/
theorem k_sip {t : TA} {top : Int} (h : ∀ H1, ExK kl H H1 → Ket N kl H1 → EvA t σ H1 [.ref kl, .int top]) (hN : N < 1000) (h0 : 0 < top) (hz : top ≤ 1000) : ErK kl N (N + 1) (tCall spSip [] E0 t) σ H (fun v _ => ∃ i : Int, v = .int i ∧ 0 ≤ i ∧ i < top) :=
  k_call h fun H1 e k Q q => ⟨kl, N, top, rfl, k, hN, h0, hz, fun v H2 h1 h2 e2 k2 => q _ H2 e2 k2 ⟨v, rfl, h1, h2⟩⟩
/-- .. - j, .. + j, .. as an op -/
theorem k_op {r : R2} {y : V} (h : ErK kl N M ta σ H R) (hb : ∀ H1, ExK kl H H1 → Ket M kl H1 → Ev tb σ H1 y) (hr : ∀ x H1, ExK kl H H1 → R x H1 → ∃ z, RV r x y H1 z ∧ ∀ H2, Ex H1 H2 → S z H2) (hR : ∀ x H1 H2, Ex H1 H2 → R x H1 → R x H2) : ErK kl N M (tOp r ta tb) σ H S := fun H1 e k Q q =>
  h H1 e k _ fun x H2 e2 k2 rx => hb H2 (e.trans e2) k2 H2 (Ex.refl H2) _ fun H3 e3 => by
    obtain ⟨z, hz, hs⟩ := hr x H3 ((e.trans e2).trans (toK e3)) (hR x H2 H3 e3 rx)
    exact hz H3 (Ex.refl H3) Q fun H4 e4 => q z H4 (e2.trans (toK (e3.trans e4))) (k2.ex (e3.trans e4)) (hs H4 e4)
end
/-! ### what is taken -/
abbrev s57 : Stmt := topS 57
theorem sc57 : FnScope ["_law_kettle_here", "_law_items"] ["_law_kettle_here", "_law_items"] (defScope s57) := ⟨rfl, rfl, rfl, by decide +kernel, rfl, by decide +kernel, by decide +kernel⟩
def spTaken (K : PySem.W.Frag) : Sp := fun vs H Q _ => ∃ (kl p : Addr) (N : Nat) (xs : List V), vs = [.ref kl, .ref p] ∧ Ket N kl H ∧ N < 1000 ∧ SqL K H p xs ∧ (∀ H', ExK kl H H' → SqL K H' p xs) ∧ 0 < xs.length ∧ xs.length ≤ 1000 ∧
  ∀ (i : Nat) v H', xs[i]? = some v → ExK kl H H' → Ket (N + 1) kl H' → Q v H'
theorem fk57 (R : Raw K mg "_law_taken" s57) (T : Bt K mg aE cF cK) (F_law_sip : Fk P w K mg base "_law_sip" 1 ["_law_kettle_here", "_law_top"] spSip) : Fk P w K mg base "_law_taken" 2 ["_law_kettle_here", "_law_items"] (spTaken K) := by
  refine R.fk sc57 (fun _ _ _ _ _ _ us hl => match us, hl with | [_, _], _ => rfl) (fun vs H Q E h => ?_) (fun f cdv A outer s H vs Q E hr h => ?_)
  · obtain ⟨kl, p, N, xs, rfl, _⟩ := h; rfl
  · obtain ⟨kl, p, N, xs, rfl, hk, hN, hx, hxk, h0, hz, k⟩ := h
    refine ⟨_, (pss_one (ps_ret (pe_ix ix_list (pv 1) (pf F_law_sip (hr.mono (by decide)) rfl (pa_cons (pv 0) (pa_cons (pe_callB call_len_seq (by rfl) T.len (by decide +kernel) (pa_cons (pv 1) pa_nil)) pa_nil))) (fun _ _ => rfl)))), ?_⟩
    refine at_st (σ2 := [some _, some _]) rfl ?_
    show tOp (rIxL K) (tVar 1) (tCall spSip [] E0 (tCons (tVar 0) (tCons (tCB _ (tCons (tVar 1) tNil)) tNil))) [some (.ref kl), some (.ref p)] H Q
    refine ⟨.ref p, rfl, ?_⟩
    refine k_sip (N := N) (kl := kl) (σ := [some (.ref kl), some (.ref p)]) (H := H) (top := (xs.length : Int)) (fun H1 e1 k1 => ea_cons (ev_var rfl) (ea_cons (ev_len (ea_cons (ev_var rfl) ea_nil) (.inl (hxk H1 e1))) ea_nil)) hN (by omega) (by omega) H (ExK.refl H) hk _ fun v H1 e1 k1 ⟨i, hv, hi0, hin⟩ => ?_
    subst hv
    obtain ⟨n, rfl⟩ := Int.eq_ofNat_of_zero_le hi0
    have hn : n < xs.length := by omega
    exact ⟨p, xs, (n : Int), xs[n], rfl, rfl, hxk H1 e1, atI_nat (List.getElem?_eq_getElem hn), k n _ H1 (List.getElem?_eq_getElem hn) e1 k1⟩
end
end Z
namespace Z
open PySem PySem.Spec PyProof.Rows L2 Evl Zm SlX
local macro_rules | `(tactic| walk_at "zi") => `(tactic| (repeat' first | exact evi_c | exact evi_var rfl (by with_reducible assumption) | apply evi_add | apply evi_sub | apply evi_mul); all_goals (show _ ≤ 1000000; decide))
local macro_rules | `(tactic| walk_at "zn") => `(tactic| dsimp only [List.set_cons_zero, List.set_cons_succ])
section
variable {P : Program} {w : World} {K : PySem.W.Frag} {mg : Str → Option Value} {base : Heap}
variable {aE cF cK pS pD gD fI P1 P2 : Addr}
open GxR
/-! Zq: readings over the kettle; row, change, led, below, small_row, kept -/
def ErKA (kl : Addr) (N M : Nat) (ta : TA) (σ : L2.St) (H : Hp) (R : List V → Hp → Prop) : Prop := ∀ H1, ExK kl H H1 → Ket N kl H1 → ∀ Q : List V → Hp → Prop, (∀ v H2, ExK kl H1 H2 → Ket M kl H2 → R v H2 → Q v H2) → ta σ H1 Q
section
variable {σ : L2.St} {H : Hp} {te ta tb tl : TE} {tr : TA} {t : TT} {kl : Addr} {N M M2 : Nat} {R S : V → Hp → Prop} {Rs : List V → Hp → Prop} {D : Ends} {tz tu : TS}
theorem k_nil : ErKA kl N N tNil σ H (fun vs _ => vs = []) := fun H1 e k Q q => q [] H1 (ExK.refl H1) k rfl
theorem k_cons (h : ErK kl N M te σ H R) (m : ∀ v H1 H2, Ket M kl H1 → ExK kl H1 H2 → R v H1 → R v H2) (hr : ErKA kl M M2 tr σ H Rs) : ErKA kl N M2 (tCons te tr) σ H (fun vs H' => ∃ v us, vs = v :: us ∧ R v H' ∧ Rs us H') := fun H1 e k Q q =>
  h H1 e k _ fun v H2 e2 k2 r => hr H2 (e.trans e2) k2 _ fun us H3 e3 k3 rs => q (v :: us) H3 (e2.trans e3) k3 ⟨v, us, rfl, m v H2 H3 k2 e3 r, rs⟩
theorem k_callA {sp : Sp} {E : XK} (h : ErKA kl N M tr σ H Rs) (hs : ∀ vs H1, ExK kl H H1 → Ket M kl H1 → Rs vs H1 → ∀ Q : VK, (∀ v H2, ExK kl H1 H2 → Ket M2 kl H2 → R v H2 → Q v H2) → sp vs H1 Q E) : ErK kl N M2 (tCall sp [] E tr) σ H R := fun H1 e k Q q =>
  h H1 e k _ fun vs H2 e2 k2 rs => by
    have := hs vs H2 (e.trans e2) k2 rs Q fun v H3 e3 k3 r3 => q v H3 (e2.trans e3) k3 r3
    show sp (vs ++ []) H2 Q E
    rw [List.append_nil]
    exact this
theorem s_parK {i j : Nat} {Rv : V → V → Hp → Prop} (k0 : Ket N kl H) (h : ErKA kl N M tr σ H (fun vs H' => ∃ v w, vs = [v, w] ∧ Rv v w H')) (k : ∀ v w H1, ExK kl H H1 → Ket M kl H1 → Rv v w H1 → D.nx ((σ.set i (some v)).set j (some w)) H1) : tPar i j tr D σ H :=
  h H (ExK.refl H) k0 _ fun vs H1 e k1 ⟨v, w, hv, r⟩ => ⟨v, w, hv, k v w H1 e k1 r⟩
theorem q_parK {i j : Nat} {Rv : V → V → Hp → Prop} (k0 : Ket N kl H) (h : ErKA kl N M tr σ H (fun vs H' => ∃ v w, vs = [v, w] ∧ Rv v w H')) (k : ∀ v w H1, ExK kl H H1 → Ket M kl H1 → Rv v w H1 → tz D ((σ.set i (some v)).set j (some w)) H1) : tSeq (tPar i j tr) tz D σ H := s_parK (D := { D with nx := tz D }) k0 h k
theorem k_if {c : Bool} (h : ∀ H1, ExK kl H H1 → Ket N kl H1 → EvT t σ H1 c) (h1 : c = true → ErK kl N M ta σ H R) (h2 : c = false → ErK kl N M tb σ H R) : ErK kl N M (tIf t ta tb) σ H R := fun H1 e k Q q => h H1 e k H1 (Ex.refl H1) _ fun H2 e2 => by
  cases c with
  | true =>
    show ta σ H2 Q
    exact h1 rfl H2 (e.trans (toK e2)) (k.ex e2) Q fun v H3 e3 k3 => q v H3 ((toK e2).trans e3) k3
  | false =>
    show tb σ H2 Q
    exact h2 rfl H2 (e.trans (toK e2)) (k.ex e2) Q fun v H3 e3 k3 => q v H3 ((toK e2).trans e3) k3
/-- a statement's test that sips -/
theorem s_if0 (k0 : Ket N kl H) (h : ErK kl N M ta σ H (fun v _ => ∃ i : Int, v = .int i ∧ R v H)) (k : ∀ (b : Bool) H1, ExK kl H H1 → Ket M kl H1 → if b = true then tu D σ H1 else tz D σ H1) : tIfS (tTest (tOp rEq ta (tC (.int 0)))) tu tz D σ H :=
  h H (ExK.refl H) k0 _ fun v H1 e k1 ⟨i, hv, _⟩ => ⟨by subst hv; rfl, decide (v = .int 0), rfl, k _ H1 e k1⟩
/-- for j in range(..) -/
theorem s_forK {ta : TA} {j : Nat} {tb : TS} {n : Int} (k0 : Ket N kl H) (h : ErKA kl N M ta σ H (fun vs _ => ∃ i : Int, vs = [.int i] ∧ 0 ≤ i ∧ i ≤ n)) (hn : n ≤ 1000) (Pv : Nat → L2.St → Hp → Prop) (h0 : ∀ H1, ExK kl H H1 → Ket M kl H1 → Pv 0 σ H1)
    (hs : ∀ (i : Nat) σ' H', (i : Int) < n → Pv i σ' H' → tb { D with nx := Pv (i + 1), ct := Pv (i + 1), bk := D.nx } (σ'.set j (some (.int (i : Int)))) H') (hd : ∀ (i : Nat) σ' H', (i : Int) ≤ n → Pv i σ' H' → D.nx σ' H') : tFor (iRng1 ta) (gName j) tb D σ H :=
  h H (ExK.refl H) k0 _ fun vs H1 e k1 ⟨i, hv, h1, h2⟩ => by
    refine ⟨i, hv, by omega, by omega, ?_⟩
    refine for_it (walk_range (lo := 0) (n := i.toNat)) Pv (h0 H1 e k1) (fun _ _ _ _ _ => trivial) (fun m x σ' H2 H3 hm p z => ?_) fun σ' H' p => hd _ σ' H' (by omega) p
    obtain ⟨rfl, rfl⟩ := z
    have := hs m σ' H3 (by omega) p
    rw [← Int.zero_add (m : Int)] at this
    exact this
theorem q_forK {ta : TA} {j : Nat} {tb : TS} {n : Int} (k0 : Ket N kl H) (h : ErKA kl N M ta σ H (fun vs _ => ∃ i : Int, vs = [.int i] ∧ 0 ≤ i ∧ i ≤ n)) (hn : n ≤ 1000) (Pv : Nat → L2.St → Hp → Prop) (h0 : ∀ H1, ExK kl H H1 → Ket M kl H1 → Pv 0 σ H1)
    (hs : ∀ (i : Nat) σ' H', (i : Int) < n → Pv i σ' H' → tb { D with nx := Pv (i + 1), ct := Pv (i + 1), bk := tz D } (σ'.set j (some (.int (i : Int)))) H') (hd : ∀ (i : Nat) σ' H', (i : Int) ≤ n → Pv i σ' H' → tz D σ' H') : tSeq (tFor (iRng1 ta) (gName j) tb) tz D σ H := s_forK (D := { D with nx := tz D }) k0 h hn Pv h0 hs hd
/-- a comprehension that sips at each turn -/
theorem k_lc {ta : TA} {j : Nat} {vs : List Nat} {n : Nat} {Rv : V → Prop} (h : ∀ H1, ExK kl H H1 → Ket N kl H1 → EvA ta σ H1 [.int (n : Int)]) (hn : n ≤ 1000) (hw : ∀ x, wipe ((wipe σ vs).set j (some x)) vs = wipe σ vs)
    (he : ∀ (i : Nat), i < n → ErK kl (N + i) (N + i + 1) te ((wipe σ vs).set j (some (.int (i : Int)))) H (fun v _ => Rv v)) :
    ErK kl N (N + n) (tLc (iRng1 ta) (gName j) tYes te vs) σ H (fun v H' => ∃ p xs, v = .ref p ∧ H' p = some (.lst xs) ∧ xs.length = n ∧ ∀ x ∈ xs, Rv x) := fun H1 e k Q q =>
  h H1 e k H1 (Ex.refl H1) _ fun H2 e2 => by
    refine ⟨(n : Int), rfl, by omega, by omega, fun L hL => ?_⟩
    have kL : L ≠ kl := exk_new (k.ex e2) hL
    refine lc_it (walk_range (lo := 0) (n := n)) (fun i H' => ExK kl H1 H' ∧ Ket (N + i) kl H' ∧ ∃ xs, H' L = some (.lst xs) ∧ xs.length = i ∧ ∀ x ∈ xs, Rv x)
      ⟨toK (e2.trans (Ex.new hL)), k.ex (e2.trans (Ex.new hL)), [], upd_same, rfl, fun x hx => by simp at hx⟩ (fun _ _ _ _ => trivial) (fun i x H3 H4 hi p z => ?_) fun H' p => ?_
    · obtain ⟨rfl, rfl⟩ := z
      obtain ⟨e3, k3, xs, hxs, hlen, hall⟩ := p
      refine ⟨hw _, ?_⟩
      have ei : V.int (0 + (i : Int)) = V.int (i : Int) := by rw [Int.zero_add]
      show te (((wipe σ vs)).set j (some (V.int (0 + (i : Int))))) H4 _
      rw [ei]
      refine he i hi H4 (e.trans e3) k3 _ fun y H5 e5 k5 ry => ⟨xs, e5 L _ kL hxs, ?_, fun a o ha h5 => ?_, ?_, xs ++ [y], upd_same, by rw [List.length_append, hlen]; rfl, fun x hx => ?_⟩
      · exact Nat.lt_of_le_of_lt (show xs.length ≤ 1000 by omega) (by decide)
      · have : a ≠ L := fun z => by
          rw [z] at h5
          have h6 := fresh_back e2 hL
          rw [h6] at h5
          cases h5
        rw [upd_ne this]
        exact e5 a o ha (e3 a o ha h5)
      · obtain ⟨k0, k1, k2, h1, h2⟩ := k5
        exact ⟨k0, k1, k2, by rw [upd_ne (fun z => kL z.symm)]; exact h1, h2⟩
      · rcases List.mem_append.mp hx with hx | hx
        · exact hall x hx
        · rw [List.mem_singleton.mp hx]; exact ry
    · obtain ⟨e3, k3, xs, hxs, hlen, hall⟩ := p
      exact q (.ref L) H' e3 k3 ⟨L, xs, rfl, hxs, hlen, hall⟩
/-- tuple(a list just made) -/
theorem k_tup {P : List V → Prop} (h : ErK kl N M tl σ H (fun v H' => ∃ p xs, v = .ref p ∧ H' p = some (.lst xs) ∧ P xs)) : ErK kl N M (tCB (fun xs H Q => ∃ p ys, xs = [.ref p] ∧ ((SqL K H p ys ∧ ∀ l, H l = none → Q (.ref l) (upd H l (.tup ys))) ∨ (SqT K H p ys ∧ Q (.ref p) H))) (tCons tl tNil)) σ H
    (fun v H' => ∃ p xs, v = .ref p ∧ SqT K H' p xs ∧ P xs) := fun H1 e k Q q =>
  h H1 e k _ fun v H2 e2 k2 ⟨p, xs, hv, hp, hP⟩ => ⟨p, xs, by rw [hv], .inl ⟨SqL.of hp, fun l hl => q _ _ (e2.trans (toK (Ex.new hl))) (k2.ex (Ex.new hl)) ⟨l, xs, rfl, SqT.of upd_same, hP⟩⟩⟩
theorem er_tupof {xs : List V} (h : Er tl σ H (fun v H' => ∃ p, v = .ref p ∧ H' p = some (.lst xs))) : Er (tCB (fun xs H Q => ∃ p ys, xs = [.ref p] ∧ ((SqL K H p ys ∧ ∀ l, H l = none → Q (.ref l) (upd H l (.tup ys))) ∨ (SqT K H p ys ∧ Q (.ref p) H))) (tCons tl tNil)) σ H
    (fun v H' => ∃ p, v = .ref p ∧ SqT K H' p xs) := fun H1 e Q q =>
  h H1 e _ fun v H2 e2 ⟨p, hv, hp⟩ => ⟨p, xs, by rw [hv], .inl ⟨SqL.of hp, fun l hl => q _ _ (e2.trans (Ex.new hl)) ⟨l, rfl, SqT.of upd_same⟩⟩⟩
/-- taken from a new list of flat values -/
theorem k_takenV {i : Nat} {xs : List V} (hi : σ[i]? = some (some (.ref kl))) (h : ∀ H1, ExK kl H H1 → Ket N kl H1 → EvL tl σ H1 xs) (hN : N < 1000) (h0 : 0 < xs.length) (hz : xs.length ≤ 1000) :
    ErK kl N (N + 1) (tCall (spTaken K) [] E0 (tCons (tVar i) (tCons tl tNil))) σ H (fun v _ => v ∈ xs) := fun H1 e k Q q => by
  refine ⟨.ref kl, hi, ?_⟩
  refine h H1 e k H1 (Ex.refl H1) _ fun p H2 hp e2 hx => ?_
  have kp : p ≠ kl := exk_new k hp
  exact ⟨kl, p, N, xs, rfl, k.ex e2, hN, SqL.of hx, fun H' e3 => SqL.of (e3 p _ kp hx), h0, hz, fun m v H' hm e3 k3 => q v H' ((toK e2).trans e3) k3 (List.mem_of_getElem? hm)⟩
theorem dpa_three {H : Hp} {a b c : Int} {ds : List PyData} (h : DpAll K H [.int a, .int b, .int c] ds) : ds = [.int a, .int b, .int c] := by
  cases h with
  | cons h1 h =>
    cases h1
    cases h with
    | cons h2 h =>
      cases h2
      cases h with
      | cons h3 h =>
        cases h3
        cases h
        rfl
theorem noLs_all : ∀ {ds : List PyData}, (∀ d ∈ ds, noL d = true) → noLs ds = true
  | [], _ => rfl
  | d :: ds, h => by
    show (noL d && noLs ds) = true
    rw [h d List.mem_cons_self, noLs_all fun x hx => h x (List.mem_cons_of_mem _ hx)]; rfl
/-- taken from a list of data, none of them a kettle's entry -/
theorem k_takenD {i : Nat} {ds : List PyData} (hi : σ[i]? = some (some (.ref kl))) (h : ∀ H1, ExK kl H H1 → Ket N kl H1 → Er tl σ H1 (fun v H' => LtD K H' v ds)) (hd : ∀ d ∈ ds, noL d = true) (hne : ∀ a b c, ds ≠ [.int a, .int b, .int c]) (hN : N < 1000) (h0 : 0 < ds.length) (hz : ds.length ≤ 1000) :
    ErK kl N (N + 1) (tCall (spTaken K) [] E0 (tCons (tVar i) (tCons tl tNil))) σ H (fun v H' => ∃ d ∈ ds, Dp K H' v d) := fun H1 e k Q q => by
  refine ⟨.ref kl, hi, ?_⟩
  refine h H1 e k H1 (Ex.refl H1) _ fun v H2 e2 ⟨p, xs, hv, hx, hds⟩ => ?_
  subst hv
  have k2 := k.ex e2
  have hlen := dpa_len hds
  have kp : p ≠ kl := fun z => by
    obtain ⟨a, b, c, hk, _⟩ := k2
    rw [z, hk] at hx
    have : [V.int a, V.int b, V.int c] = xs := by injection hx with hx; injection hx
    subst this
    exact hne a b c (dpa_three hds)
  refine ⟨kl, p, N, xs, rfl, k2, hN, SqL.of hx, fun H' e3 => SqL.of (e3 p _ kp hx), by omega, by omega, fun m v H' hm e3 k3 => q v H' ((toK e2).trans e3) k3 ?_⟩
  obtain ⟨d, h1, h2⟩ := dpa_get hds hm
  have hmem := List.mem_of_getElem? h1
  exact ⟨d, hmem, dp_exl (exk_L k2 e3) _ _ (hd d hmem) h2⟩
end
end
end Z
namespace Z
open PySem PySem.Spec PyProof.Rows L2 Evl Zm SlX
local macro_rules | `(tactic| walk_at "zi") => `(tactic| (repeat' first | exact evi_c | exact evi_var rfl (by with_reducible assumption) | apply evi_add | apply evi_sub | apply evi_mul); all_goals (show _ ≤ 1000000; decide))
local macro_rules | `(tactic| walk_at "zn") => `(tactic| dsimp only [List.set_cons_zero, List.set_cons_succ])
section
variable {P : Program} {w : World} {K : PySem.W.Frag} {mg : Str → Option Value} {base : Heap}
variable {aE cF cK pS pD gD fI P1 P2 : Addr}
open GxR
/-! Zr: row, change, led, below, small_row, kept -/
section
variable {σ : L2.St} {H : Hp} {te ta tb tl : TE} {D : Ends} {tz tu : TS} {a b c d : V} {i j k l : Nat}
theorem s_unp4R (h : Er te σ H (fun v H' => ∃ p, v = .ref p ∧ SqT K H' p [a, b, c, d])) (q : ∀ H1, Ex H H1 → D.nx ((((σ.set i (some a)).set j (some b)).set k (some c)).set l (some d)) H1) :
    tAsg te (gTup K 4 (gCons (gName i) (gCons (gName j) (gCons (gName k) (gCons (gName l) gNil))))) D σ H :=
  h H (Ex.refl H) _ fun v H1 e ⟨p, hv, hp⟩ => by
    subst hv
    exact ⟨p, _, rfl, hp, rfl, _, _, rfl, _, _, rfl, _, _, rfl, _, _, rfl, rfl, q H1 e⟩
theorem q_unp4R (h : Er te σ H (fun v H' => ∃ p, v = .ref p ∧ SqT K H' p [a, b, c, d])) (q : ∀ H1, Ex H H1 → tz D ((((σ.set i (some a)).set j (some b)).set k (some c)).set l (some d)) H1) :
    tSeq (tAsg te (gTup K 4 (gCons (gName i) (gCons (gName j) (gCons (gName k) (gCons (gName l) gNil)))))) tz D σ H := s_unp4R (D := { D with nx := tz D }) h q
theorem er_tup4 {ta : TA} (h : EvA ta σ H [a, b, c, d]) : Er (tTup ta) σ H (fun v H' => ∃ p, v = .ref p ∧ SqT K H' p [a, b, c, d]) := (er_tupV h (by simp)).imp fun v H' ⟨p, e, hp⟩ => ⟨p, e, SqT.of hp⟩
/-- tuple([f(n) for n in a tuple of ints]) -/
theorem er_mapRow {ns : List Int} {f : Int → Int} {j : Nat} {vs : List Nat} (h : Er tl σ H (fun v H' => Rw K H' v ns)) (hn : ns.length ≤ 1000) (hw : ∀ x, wipe ((wipe σ vs).set j (some x)) vs = wipe σ vs)
    (he : ∀ n ∈ ns, ∀ H1, Ex H H1 → Ev te ((wipe σ vs).set j (some (.int n))) H1 (.int (f n))) :
    Er (tCB (fun xs H Q => ∃ p ys, xs = [.ref p] ∧ ((SqL K H p ys ∧ ∀ l, H l = none → Q (.ref l) (upd H l (.tup ys))) ∨ (SqT K H p ys ∧ Q (.ref p) H))) (tCons (tLc (iTup K tl) (gName j) tYes te vs) tNil)) σ H (fun v H' => Rw K H' v (ns.map f)) := by
  refine (er_tupof (xs := (ns.map f).map V.int) ((er_lc0 (n := (ns.map PyData.int).length) (Y := fun i x H' => ∃ d, (ns.map PyData.int)[i]? = some d ∧ Dp K H' x d) (fun i x _ => ∃ n, ns[i]? = some n ∧ x = .int (f n)) (ei_dtup h) (by rw [List.length_map]; omega) hw (fun _ _ _ _ _ z => z) (fun i x H1 hi e y => ?_) (fun i x H1 H2 e ⟨d, h1, h2⟩ => ⟨d, h1, dp_ex e _ _ h2⟩)).imp fun v H' ⟨p, xs, e1, e2, e3, e4⟩ => ⟨p, e1, ?_⟩)).imp fun v H' ⟨p, e, hp⟩ => by subst e; exact rw_mk hp
  · obtain ⟨d, h1, h2⟩ := y
    rw [List.getElem?_map] at h1
    obtain ⟨n, hn', rfl⟩ := Option.map_eq_some_iff.mp h1
    obtain rfl := dp_int h2
    exact (er_ev (he n (List.mem_of_getElem? hn') H1 e)).imp fun v H' ev => ⟨n, hn', ev⟩
  · rw [e2]
    congr 2
    refine List.ext_getElem? fun i => ?_
    rw [List.getElem?_map, List.getElem?_map]
    by_cases hi : i < xs.length
    · have hx : xs[i]? = some xs[i] := List.getElem?_eq_getElem hi
      obtain ⟨n, h1, h2⟩ := e4 i _ hx
      rw [hx, h1, h2]; rfl
    · rw [List.length_map] at e3
      rw [List.getElem?_eq_none (by omega), List.getElem?_eq_none (by omega)]; rfl
end
theorem rowZ_of {M n : Nat} {a b c d : Int} (h : RowB M a b c d) (l : M < 2 ^ n) : RowZ n a b c d := ⟨Nat.lt_of_le_of_lt h.a l, Nat.lt_of_le_of_lt h.b l, Nat.lt_of_le_of_lt h.c l, Nat.lt_of_le_of_lt h.d l⟩
/-! ### row -/
def RowOk (K : PySem.W.Frag) (H : Hp) (v : V) : Prop := ∃ a b c d, RowB 3 a b c d ∧ disc a b c d ≠ 0 ∧ Rw K H v [a, b, c, d]
def fallback : List PyData := [.tuple [.int 1, .int 0, .int 0, .int 2], .tuple [.int 1, .int 1, .int 2, .int 1], .tuple [.int 0, .int 1, .int 1, .int 0], .tuple [.int 0, .int 2, .int 1, .int 3], .tuple [.int 1, .int 2, .int (-1), .int (-1)]]
theorem fallback_ok {H : Hp} {v : V} {D : PyData} (hD : D ∈ fallback) (h : Dp K H v D) : RowOk K H v := by
  simp only [fallback, List.mem_cons, List.not_mem_nil, or_false] at hD
  rcases hD with rfl | rfl | rfl | rfl | rfl
  · exact ⟨1, 0, 0, 2, ⟨by decide, by decide, by decide, by decide⟩, by decide, h⟩
  · exact ⟨1, 1, 2, 1, ⟨by decide, by decide, by decide, by decide⟩, by decide, h⟩
  · exact ⟨0, 1, 1, 0, ⟨by decide, by decide, by decide, by decide⟩, by decide, h⟩
  · exact ⟨0, 2, 1, 3, ⟨by decide, by decide, by decide, by decide⟩, by decide, h⟩
  · exact ⟨1, 2, -1, -1, ⟨by decide, by decide, by decide, by decide⟩, by decide, h⟩
abbrev s62 : Stmt := topS 62
theorem sc62 : FnScope ["_law_kettle_here", "_law_most", "_law_row_here", "_law_turn"] ["_law_kettle_here", "_law_most"] (defScope s62) := ⟨rfl, rfl, rfl, by decide +kernel, rfl, by decide +kernel, by decide +kernel⟩
def spRow (K : PySem.W.Frag) : Sp := fun vs H Q _ => ∃ (kl : Addr) (N : Nat) (most : Int), vs = [.ref kl, .int most] ∧ Ket N kl H ∧ N + 5 ≤ 1000 ∧ 1 ≤ most ∧ most ≤ 3 ∧ ∀ v H', ExK kl H H' → Ket (N + 5) kl H' → RowOk K H' v → Q v H'
theorem fk62 (R : Raw K mg "_law_row" s62) (T : Bt K mg aE cF cK) (F_law_sip : Fk P w K mg base "_law_sip" 1 ["_law_kettle_here", "_law_top"] spSip) (F_law_taken : Fk P w K mg base "_law_taken" 2 ["_law_kettle_here", "_law_items"] (spTaken K)) (F_law_discriminant : Fk P w K mg base "_law_discriminant" 1 ["_law_row_here"] (spDisc K)) : Fk P w K mg base "_law_row" 3 ["_law_kettle_here", "_law_most"] (spRow K) := by
  refine R.fk sc62 (fun _ _ _ _ _ _ us hl => match us, hl with | [_, _], _ => rfl) (fun vs H Q E h => ?_) (fun f cdv A outer s H vs Q E hr h => ?_)
  · obtain ⟨kl, N, most, rfl, _⟩ := h; rfl
  · obtain ⟨kl, N, most, rfl, hk, hN, hm1, hm3, k⟩ := h
    refine ⟨_, (pss_cons (ps_set (i := 2) sc62.nd rfl (Or.inl rfl) (pe_callTy call_tuple_of (by rfl) T.tuple (by decide +kernel) (pa_cons (pe_lc (own := [(("_law_turn" : Str), 3)]) (g := gName 3) rfl sc62.nd (pi_range1 rfl T.range (pa_cons pe_int pa_nil)) (blkOk_by (own := [(("_law_turn" : Str), 3)]) (N := ["_law_kettle_here", "_law_most", "_law_row_here", "_law_turn"]) (sc := defScope s62) (by decide +kernel)) (fun _ _ _ _ _ => pg_name (i := 3) sc62.nd rfl (Or.inl rfl)) (fun _ _ _ _ _ => pts_nil) (fun _ _ _ _ _ => (pe_op op_sub (pf F_law_sip (hr.mono (by decide)) rfl (pa_cons (pv 0) (pa_cons (pe_op op_add (pe_op op_mulW pe_int (pv 1)) pe_int) pa_nil))) (pv 1)))) pa_nil)))
      (pss_one (ps_ret (pe_ifExp (pt_cmpR op_ne (pf F_law_discriminant (hr.mono (by decide)) rfl (pa_cons (pv 2) pa_nil)) pe_int (nomark _)) (pv 2) (pf F_law_taken (hr.mono (by decide)) rfl (pa_cons (pv 0) (pa_cons (pe_lst (pa_cons (pe_tup (pa_cons pe_int (pa_cons pe_int (pa_cons pe_int (pa_cons pe_int pa_nil))))) (pa_cons (pe_tup (pa_cons pe_int (pa_cons pe_int (pa_cons pe_int (pa_cons pe_int pa_nil))))) (pa_cons (pe_tup (pa_cons pe_int (pa_cons pe_int (pa_cons pe_int (pa_cons pe_int pa_nil))))) (pa_cons (pe_tup (pa_cons pe_int (pa_cons pe_int (pa_cons pe_int (pa_cons pe_int pa_nil))))) (pa_cons (pe_tup (pa_cons pe_int (pa_cons pe_int (pa_cons (pe_un un_neg pe_int) (pa_cons (pe_un un_neg pe_int) pa_nil))))) pa_nil)))))) pa_nil))))))), ?_⟩
    refine at_st (σ2 := [some _, some _, none, none]) rfl ?_
    have hmz : most.natAbs < 2 ^ 10 := by omega
    refine q_asgK hk (k_tup (K := K) (P := fun xs => xs.length = 4 ∧ ∀ x ∈ xs, ∃ i : Int, x = .int i ∧ i.natAbs ≤ 3) (k_lc (n := 4) (Rv := fun x => ∃ i : Int, x = .int i ∧ i.natAbs ≤ 3) (fun H1 e1 k1 => ea_cons ev_c ea_nil) (by decide) (fun _ => rfl) fun i hi => ?_)) fun v H1 e1 k1 ⟨p, xs, hv, hp, hl, hall⟩ => ?_
    · refine k_op (y := .int most) (k_sip (top := 2 * most + 1) (fun H1 e1 k1 => ea_cons (ev_var rfl) (ea_cons (evi_add (evi_mul evi_c (evi_var rfl hmz)) evi_c).ev ea_nil)) (by omega) (by omega) (by omega)) (fun H1 e1 k1 => ev_var rfl) (fun x H1 e1 ⟨j, hj, h0, h1⟩ => ?_) (fun _ _ _ _ z => z)
      subst hj
      exact ⟨_, rv_I0, fun H2 e2 => ⟨_, rfl, by omega⟩⟩
    · subst hv
      match xs, hl, hall, hp with
      | [x0, x1, x2, x3], _, hall, hp =>
        obtain ⟨a, rfl, za⟩ := hall x0 (by simp)
        obtain ⟨b, rfl, zb⟩ := hall x1 (by simp)
        obtain ⟨c, rfl, zc⟩ := hall x2 (by simp)
        obtain ⟨d, rfl, zd⟩ := hall x3 (by simp)
        walk_at "zn"
        have hrow : Rw K H1 (.ref p) [a, b, c, d] := rw_mk (ns := [a, b, c, d]) hp
        have hB : RowB 3 a b c d := ⟨za, zb, zc, zd⟩
        have hz : RowZ 400 a b c d := rowZ_of hB (Nat.lt_of_lt_of_le (show 3 < 2 ^ 10 by decide) (Nat.pow_le_pow_right (by decide) (by decide)))
        refine s_retK k1 (M := N + 4 + 1) (R := fun v H' => RowOk K H' v) (k_if (c := !decide (disc a b c d = 0)) (fun H2 e2 k2 => et_test (ev_op (ev_call' (ea_cons (ev_var rfl) ea_nil) fun H3 e3 Q' q' => ⟨_, a, b, c, d, rfl, rw_ex e3 (rw_exk k1 e2 hrow), hz, q'⟩) ev_c rv_neI)) (fun hc => ?_) (fun hc => ?_)) fun v H2 e2 k2 hv => k v H2 (e1.trans e2) k2 hv
        · exact ((er_K (kl := kl) (N := N + 4) fun H2 e2 k2 => er_var rfl fun H3 e3 => ⟨a, b, c, d, hB, by simpa using hc, rw_ex e3 (rw_exk k1 e2 hrow)⟩)).up (by omega)
        · refine (k_takenD (K := K) (ds := fallback) rfl (fun H2 e2 k2 => er_lstL (EaD.ea (.cons (er_dtup (.cons (er_dint ev_c) (.cons (er_dint ev_c) (.cons (er_dint ev_c) (.cons (er_dint ev_c) .nil)))) (by simp)) (.cons (er_dtup (.cons (er_dint ev_c) (.cons (er_dint ev_c) (.cons (er_dint ev_c) (.cons (er_dint ev_c) .nil)))) (by simp))
            (.cons (er_dtup (.cons (er_dint ev_c) (.cons (er_dint ev_c) (.cons (er_dint ev_c) (.cons (er_dint ev_c) .nil)))) (by simp)) (.cons (er_dtup (.cons (er_dint ev_c) (.cons (er_dint ev_c) (.cons (er_dint ev_c) (.cons (er_dint ev_c) .nil)))) (by simp))
            (.cons (er_dtup (.cons (er_dint ev_c) (.cons (er_dint ev_c) (.cons (er_dint (ev_un ev_c ru_neg)) (.cons (er_dint (ev_un ev_c ru_neg)) .nil)))) (by simp)) .nil)))))) (by decide)) (fun D hD => ?_) (fun _ _ _ z => by simp [fallback] at z) (by omega) (by decide) (by decide)).imp fun v H' ⟨D, hD, hv⟩ => fallback_ok hD hv
          simp only [fallback, List.mem_cons, List.not_mem_nil, or_false] at hD
          rcases hD with rfl | rfl | rfl | rfl | rfl <;> rfl

/-! ### small_row, kept -/
abbrev s70 : Stmt := topS 70
theorem sc70 : FnScope ["_law_kettle_here", "_law_row_here"] ["_law_kettle_here"] (defScope s70) := ⟨rfl, rfl, rfl, by decide +kernel, rfl, by decide +kernel, by decide +kernel⟩
def spSmallRow (K : PySem.W.Frag) : Sp := fun vs H Q _ => ∃ (kl : Addr) (N : Nat), vs = [.ref kl] ∧ Ket N kl H ∧ N + 6 ≤ 1000 ∧ ∀ v H', ExK kl H H' → Ket (N + 6) kl H' → RowOk K H' v → Q v H'
theorem fk70 (R : Raw K mg "_law_small_row" s70) (T : Bt K mg aE cF cK) (F_law_row : Fk P w K mg base "_law_row" 3 ["_law_kettle_here", "_law_most"] (spRow K)) (F_law_taken : Fk P w K mg base "_law_taken" 2 ["_law_kettle_here", "_law_items"] (spTaken K)) (F_law_discriminant : Fk P w K mg base "_law_discriminant" 1 ["_law_row_here"] (spDisc K)) : Fk P w K mg base "_law_small_row" 4 ["_law_kettle_here"] (spSmallRow K) := by
  refine R.fk sc70 (fun _ _ _ _ _ _ us hl => match us, hl with | [_], _ => rfl) (fun vs H Q E h => ?_) (fun f cdv A outer s H vs Q E hr h => ?_)
  · obtain ⟨kl, N, rfl, _⟩ := h; rfl
  · obtain ⟨kl, N, rfl, hk, hN, k⟩ := h
    refine ⟨_, (pss_cons (ps_set (i := 1) sc70.nd rfl (Or.inl rfl) (pf F_law_row (hr.mono (by decide)) rfl (pa_cons (pv 0) (pa_cons (pf F_law_taken (hr.mono (by decide)) rfl (pa_cons (pv 0) (pa_cons (pe_lst (pa_cons pe_int (pa_cons pe_int (pa_cons pe_int pa_nil)))) pa_nil))) pa_nil))))
      (pss_one (ps_ret (pe_ifExp (pt_cmpR op_le (pe_callB call_abs (by rfl) T.abs (by decide +kernel) (pa_cons (pf F_law_discriminant (hr.mono (by decide)) rfl (pa_cons (pv 1) pa_nil)) pa_nil)) pe_int (nomark _)) (pv 1) (pe_tup (pa_cons pe_int (pa_cons pe_int (pa_cons pe_int (pa_cons pe_int pa_nil))))))))), ?_⟩
    refine at_st (σ2 := [some _, none]) rfl ?_
    refine q_asgK hk (M := N + 6) (R := fun v H' => RowOk K H' v) (k_callA (M := N + 1) (k_cons (R := fun v _ => v = .ref kl) (ev_K fun H1 e1 k1 => ev_var rfl) (fun _ _ _ _ _ z => z) (k_cons (R := fun v _ => v ∈ [V.int 1, .int 2, .int 3]) (k_takenV (K := K) (xs := [.int 1, .int 2, .int 3]) rfl (fun H1 e1 k1 => el_lst (ea_cons ev_c (ea_cons ev_c (ea_cons ev_c ea_nil))) (by simp)) (by omega) (by simp) (by simp)) (fun _ _ _ _ _ z => z) k_nil))
      fun vs H1 e1 k1 ⟨v, us, hvs, hv, u, us2, hus, hu, hus2⟩ Q' q' => ?_) fun v H1 e1 k1 hv => ?_
    · subst hvs hv hus hus2
      simp only [List.mem_cons, List.not_mem_nil, or_false] at hu
      rcases hu with rfl | rfl | rfl
      · exact ⟨kl, N + 1, 1, rfl, k1, by omega, by decide, by decide, fun v H2 e2 k2 hv => q' v H2 e2 k2 hv⟩
      · exact ⟨kl, N + 1, 2, rfl, k1, by omega, by decide, by decide, fun v H2 e2 k2 hv => q' v H2 e2 k2 hv⟩
      · exact ⟨kl, N + 1, 3, rfl, k1, by omega, by decide, by decide, fun v H2 e2 k2 hv => q' v H2 e2 k2 hv⟩
    · walk_at "zn"
      obtain ⟨a, b, c, d, hB, hd0, hrow⟩ := hv
      have hz : RowZ 400 a b c d := rowZ_of hB (Nat.lt_of_lt_of_le (show 3 < 2 ^ 10 by decide) (Nat.pow_le_pow_right (by decide) (by decide)))
      refine s_retR (R := fun v H' => RowOk K H' v) (er_if (b := decide (((disc a b c d).natAbs : Int) ≤ 3000)) (et_test (ev_op (ev_is (ev_abs (ea_cons (ev_call' (ea_cons (ev_var rfl) ea_nil) fun H2 e2 Q' q' => ⟨_, a, b, c, d, rfl, rw_ex e2 hrow, hz, q'⟩) ea_nil)) (by rw [abs_natAbs])) ev_c rv_I0)) (fun hc => ?_) (fun hc => ?_)) fun v H2 e2 hv => k v H2 (e1.trans (toK e2)) (k1.ex e2) hv
      · exact er_var rfl fun H2 e2 => ⟨a, b, c, d, hB, hd0, rw_ex e2 hrow⟩
      · exact (er_dtup (K := K) (.cons (er_dint ev_c) (.cons (er_dint ev_c) (.cons (er_dint ev_c) (.cons (er_dint ev_c) .nil)))) (by simp)).imp fun v H' hv => ⟨1, 1, 2, 1, ⟨by decide, by decide, by decide, by decide⟩, by decide, hv⟩
def KeptOk (K : PySem.W.Frag) (H : Hp) (v : V) : Prop := ∃ a b c d, RowZ 199 a b c d ∧ disc a b c d ≠ 0 ∧ (disc a b c d).natAbs ≤ 100000000 ∧ Rw K H v [a, b, c, d]
abbrev s72 : Stmt := topS 72
theorem sc72 : FnScope ["_law_row_here"] ["_law_row_here"] (defScope s72) := ⟨rfl, rfl, rfl, by decide +kernel, rfl, by decide +kernel, by decide +kernel⟩
def spKept (K : PySem.W.Frag) : Sp := fun vs H Q _ => ∃ (v : V) (a b c d : Int), vs = [v] ∧ Rw K H v [a, b, c, d] ∧ RowZ 199 a b c d ∧ disc a b c d ≠ 0 ∧ ∀ v H', Ex H H' → KeptOk K H' v → Q v H'
theorem rowZ_up {n m : Nat} {a b c d : Int} (h : RowZ n a b c d) (l : n ≤ m) : RowZ m a b c d := by
  have e := Nat.pow_le_pow_right (show 0 < 2 by decide) l
  exact ⟨Nat.lt_of_lt_of_le h.a e, Nat.lt_of_lt_of_le h.b e, Nat.lt_of_lt_of_le h.c e, Nat.lt_of_lt_of_le h.d e⟩
theorem fk72 (R : Raw K mg "_law_kept" s72) (T : Bt K mg aE cF cK) (F_law_discriminant : Fk P w K mg base "_law_discriminant" 1 ["_law_row_here"] (spDisc K)) : Fk P w K mg base "_law_kept" 2 ["_law_row_here"] (spKept K) := by
  refine R.fk sc72 (fun _ _ _ _ _ _ us hl => match us, hl with | [_], _ => rfl) (fun vs H Q E h => ?_) (fun f cdv A outer s H vs Q E hr h => ?_)
  · obtain ⟨v, a, b, c, d, rfl, _⟩ := h; rfl
  · obtain ⟨v, a, b, c, d, rfl, hrow, hz, hd0, k⟩ := h
    refine ⟨_, (pss_one (ps_ret (pe_ifExp (pt_cmpR op_le (pe_callB call_abs (by rfl) T.abs (by decide +kernel) (pa_cons (pf F_law_discriminant (hr.mono (by decide)) rfl (pa_cons (pv 0) pa_nil)) pa_nil)) (pe_op op_pow pe_int pe_int) (nomark _)) (pv 0) (pe_tup (pa_cons pe_int (pa_cons pe_int (pa_cons pe_int (pa_cons pe_int pa_nil)))))))), ?_⟩
    refine at_st (σ2 := [some _]) rfl ?_
    refine s_retR (R := fun v H' => KeptOk K H' v) (er_if (b := decide (((disc a b c d).natAbs : Int) ≤ 10 ^ (8 : Int).toNat)) (et_test (ev_op (ev_is (ev_abs (ea_cons (ev_call' (ea_cons (ev_var rfl) ea_nil) fun H2 e2 Q' q' => ⟨_, a, b, c, d, rfl, rw_ex e2 hrow, rowZ_up hz (by decide), q'⟩) ea_nil)) (by rw [abs_natAbs])) (ev_op ev_c ev_c (rv_I (C := CPow) (g := fun i j => .int (i ^ j.toNat)) (i := 10) (j := 8) (by unfold CPow; decide))) rv_I0)) (fun hc => ?_) (fun hc => ?_)) fun v H2 e2 hv => k v H2 e2 hv
    · have hc := of_decide_eq_true hc
      have e8 : (10 : Int) ^ (8 : Int).toNat = 100000000 := by decide
      rw [e8] at hc
      exact er_var rfl fun H2 e2 => ⟨a, b, c, d, hz, hd0, by omega, rw_ex e2 hrow⟩
    · exact (er_dtup (K := K) (.cons (er_dint ev_c) (.cons (er_dint ev_c) (.cons (er_dint ev_c) (.cons (er_dint ev_c) .nil)))) (by simp)).imp fun v H' hv => ⟨2, 2, 0, 2, ⟨by decide, by decide, by decide, by decide⟩, by decide, by decide, hv⟩
/-! ### led, below -/
abbrev s64 : Stmt := topS 64
theorem sc64 : FnScope ["_law_row_here", "_law_change_here", "_law_p", "_law_q", "_law_r", "_law_s", "_law_entry"] ["_law_row_here", "_law_change_here"] (defScope s64) := ⟨rfl, rfl, rfl, by decide +kernel, rfl, by decide +kernel, by decide +kernel⟩
def spLed (K : PySem.W.Frag) : Sp := fun vs H Q _ => ∃ (v u : V) (a b c d p q r s : Int), vs = [v, u] ∧ Rw K H v [a, b, c, d] ∧ RowZ 300 a b c d ∧ Ch K H u p q r s ∧ RowB 81 p q r s ∧
  ∀ z H', Ex H H' → Rw K H' z [(p * s - q * r) * val a b c d p q, (p * s - q * r) * mo1 a b c d p q r s, (p * s - q * r) * mo2 a b c d p q r s, (p * s - q * r) * val a b c d r s] → Q z H'
theorem z400 {a b c d p q r s : Int} (hz : RowZ 300 a b c d) (h : RowB 81 p q r s) : RowB (2 ^ 340) (val a b c d p q) (mo1 a b c d p q r s) (mo2 a b c d p q r s) (val a b c d r s) := by
  have h0 : RowB (2 ^ 300) a b c d := ⟨Nat.le_of_lt hz.a, Nat.le_of_lt hz.b, Nat.le_of_lt hz.c, Nat.le_of_lt hz.d⟩
  refine (moved_size h0 h.a h.b h.c h.d).mono ?_
  have e : (2 : Nat) ^ 340 = 2 ^ 300 * 2 ^ 40 := by rw [← Nat.pow_add]
  rw [e]
  generalize 2 ^ 300 = M
  have : (2 : Nat) ^ 40 = 1099511627776 := by decide
  rw [this]
  omega
theorem fk64 (R : Raw K mg "_law_led" s64) (T : Bt K mg aE cF cK) (F_law_moved : Fk P w K mg base "_law_moved" 2 ["_law_row_here", "_law_change_here"] (spMoved K)) : Fk P w K mg base "_law_led" 3 ["_law_row_here", "_law_change_here"] (spLed K) := by
  refine R.fk sc64 (fun _ _ _ _ _ _ us hl => match us, hl with | [_, _], _ => rfl) (fun vs H Q E h => ?_) (fun f cdv A outer s H vs Q E hr h => ?_)
  · obtain ⟨v, u, a, b, c, d, p, q, r, s, rfl, _⟩ := h; rfl
  · obtain ⟨v, u, a, b, c, d, p, q, r, s', rfl, hrow, hz, hu, hB, k⟩ := h
    refine ⟨_, (pss_cons (ps_asg (pv 1) (pg_tup rfl (pgs_cons (pg_tup rfl (pgs_cons (pg_name (i := 2) sc64.nd rfl (Or.inr rfl)) (pgs_cons (pg_name (i := 3) sc64.nd rfl (Or.inr rfl)) pgs_nil))) (pgs_cons (pg_tup rfl (pgs_cons (pg_name (i := 4) sc64.nd rfl (Or.inr rfl)) (pgs_cons (pg_name (i := 5) sc64.nd rfl (Or.inr rfl)) pgs_nil))) pgs_nil))))
      (pss_one (ps_ret (pe_callTy call_tuple_of (by rfl) T.tuple (by decide +kernel) (pa_cons (pe_lc (own := [(("_law_entry" : Str), 6)]) (g := gName 6) rfl sc64.nd (pi_tup (pf F_law_moved (hr.mono (by decide)) rfl (pa_cons (pv 0) (pa_cons (pv 1) pa_nil)))) (blkOk_by (own := [(("_law_entry" : Str), 6)]) (N := ["_law_row_here", "_law_change_here", "_law_p", "_law_q", "_law_r", "_law_s", "_law_entry"]) (sc := defScope s64) (by decide +kernel)) (fun _ _ _ _ _ => pg_name (i := 6) sc64.nd rfl (Or.inl rfl)) (fun _ _ _ _ _ => pts_nil) (fun _ _ _ _ _ => (pe_op op_mulW (pe_op op_sub (pe_op op_mulW (pv 2) (pv 5)) (pe_op op_mulW (pv 3) (pv 4))) (pv 6)))) pa_nil))))), ?_⟩
    refine at_st (σ2 := [some _, some _, none, none, none, none, none]) rfl ?_
    refine q_unp22 (ev_var rfl) hu fun H1 e1 => ?_
    walk_at "zn"
    have hm := z400 hz hB
    have z20 : (81 : Nat) < 2 ^ 20 := by decide
    have zp : p.natAbs < 2 ^ 20 := Nat.lt_of_le_of_lt hB.a z20
    have zq : q.natAbs < 2 ^ 20 := Nat.lt_of_le_of_lt hB.b z20
    have zr : r.natAbs < 2 ^ 20 := Nat.lt_of_le_of_lt hB.c z20
    have zs : s'.natAbs < 2 ^ 20 := Nat.lt_of_le_of_lt hB.d z20
    refine s_retR (er_mapRow (K := K) (ns := [val a b c d p q, mo1 a b c d p q r s', mo2 a b c d p q r s', val a b c d r s']) (f := fun n => (p * s' - q * r) * n) (er_callV (ea_cons (ev_var rfl) (ea_cons (ev_var rfl) ea_nil)) fun H2 e2 Q' q' => ⟨v, u, a, b, c, d, p, q, r, s', rfl, rw_ex (e1.trans e2) hrow, rowZ_up hz (by decide), ch_ex (e1.trans e2) hu, rowZ_of hB (Nat.lt_of_lt_of_le z20 (Nat.pow_le_pow_right (by decide) (by decide))), q'⟩) (by simp) (fun _ => rfl) fun n hn H2 e2 => ?_) fun z H2 e2 hz2 => k z H2 (e1.trans e2) hz2
    have hn2 : n.natAbs < 2 ^ 400 := by
      have e : (2 : Nat) ^ 340 < 2 ^ 400 := Nat.pow_lt_pow_right (by decide) (by decide)
      simp only [List.mem_cons, List.not_mem_nil, or_false] at hn
      rcases hn with rfl | rfl | rfl | rfl
      · exact Nat.lt_of_le_of_lt hm.a e
      · exact Nat.lt_of_le_of_lt hm.b e
      · exact Nat.lt_of_le_of_lt hm.c e
      · exact Nat.lt_of_le_of_lt hm.d e
    exact (evi_mul (evi_sub (evi_mul (evi_var rfl zp) (evi_var rfl zs)) (evi_mul (evi_var rfl zq) (evi_var rfl zr))) (evi_var rfl hn2)).ev
abbrev s67 : Stmt := topS 67
theorem sc67 : FnScope ["_law_row_here", "_law_prime", "_law_place", "_law_way", "_law_entry"] ["_law_row_here", "_law_prime", "_law_place"] (defScope s67) := ⟨rfl, rfl, rfl, by decide +kernel, rfl, by decide +kernel, by decide +kernel⟩
def spBelow (K : PySem.W.Frag) : Sp := fun vs H Q _ => ∃ (v u : V) (a b c d p x y : Int), vs = [v, .int p, u] ∧ Rw K H v [a, b, c, d] ∧ RowZ 300 a b c d ∧ 2 ≤ p ∧ p ≤ 5 ∧ Rw K H u [x, y] ∧ x.natAbs ≤ 5 ∧ ((x = 1 ∧ y = 0) ∨ y = 1) ∧
  ∀ z H', Ex H H' → Rw K H' z (if y = 1 then [val a b c d p 0 / p, mo1 a b c d p 0 x 1 / p, mo2 a b c d p 0 x 1 / p, val a b c d x 1 / p] else [val a b c d 1 0 / p, mo1 a b c d 1 0 0 p / p, mo2 a b c d 1 0 0 p / p, val a b c d 0 p / p]) → Q z H'
theorem fk67 (R : Raw K mg "_law_below" s67) (T : Bt K mg aE cF cK) (F_law_moved : Fk P w K mg base "_law_moved" 2 ["_law_row_here", "_law_change_here"] (spMoved K)) : Fk P w K mg base "_law_below" 3 ["_law_row_here", "_law_prime", "_law_place"] (spBelow K) := by
  refine R.fk sc67 (fun _ _ _ _ _ _ us hl => match us, hl with | [_, _, _], _ => rfl) (fun vs H Q E h => ?_) (fun f cdv A outer s H vs Q E hr h => ?_)
  · obtain ⟨v, u, a, b, c, d, p, x, y, rfl, _⟩ := h; rfl
  · obtain ⟨v, u, a, b, c, d, p, x, y, rfl, hrow, hz, hp2, hp5, hu, hx5, hxy, k⟩ := h
    refine ⟨_, (pss_cons (ps_set (i := 3) sc67.nd rfl (Or.inl rfl) (pe_ifExp (pt_cmpR op_eq (pe_ix ix_tup (pv 2) pe_int (fun _ _ => rfl)) pe_int (nomark _)) (pe_tup (pa_cons (pe_tup (pa_cons (pv 1) (pa_cons pe_int pa_nil))) (pa_cons (pe_tup (pa_cons (pe_ix ix_tup (pv 2) pe_int (fun _ _ => rfl)) (pa_cons pe_int pa_nil))) pa_nil))) (pe_tup (pa_cons (pe_tup (pa_cons pe_int (pa_cons pe_int pa_nil))) (pa_cons (pe_tup (pa_cons pe_int (pa_cons (pv 1) pa_nil))) pa_nil)))))
      (pss_one (ps_ret (pe_callTy call_tuple_of (by rfl) T.tuple (by decide +kernel) (pa_cons (pe_lc (own := [(("_law_entry" : Str), 4)]) (g := gName 4) rfl sc67.nd (pi_tup (pf F_law_moved (hr.mono (by decide)) rfl (pa_cons (pv 0) (pa_cons (pv 3) pa_nil)))) (blkOk_by (own := [(("_law_entry" : Str), 4)]) (N := ["_law_row_here", "_law_prime", "_law_place", "_law_way", "_law_entry"]) (sc := defScope s67) (by decide +kernel)) (fun _ _ _ _ _ => pg_name (i := 4) sc67.nd rfl (Or.inl rfl)) (fun _ _ _ _ _ => pts_nil) (fun _ _ _ _ _ => (pe_op op_fdivW (pv 4) (pv 1)))) pa_nil))))), ?_⟩
    refine at_st (σ2 := [some _, some _, some _, none, none]) rfl ?_
    have hpz : p.natAbs < 2 ^ 1000 := Nat.lt_of_lt_of_le (show p.natAbs < 2 ^ 10 by omega) (Nat.pow_le_pow_right (by decide) (by decide))
    have z5 : (5 : Nat) < 2 ^ 100 := by decide
    obtain ⟨t, rfl, ht⟩ := rw_at hu
    by_cases hy : y = 1
    · rw [if_pos hy] at k
      refine q_asgR (R := fun z H' => Ch K H' z p 0 x 1) (er_if (b := true) (et_is (et_test (ev_op (ev_ixt (i := 1) (ev_var rfl) ev_c ht rfl) ev_c rv_eqI)) (decide_eq_true hy)) (fun _ => ?_) (fun z => by cases z)) fun z H1 e1 hch => ?_
      · exact er_dtup (K := K) (.cons (er_dtup (.cons (er_dint (ev_var rfl)) (.cons (er_dint ev_c) .nil)) (by simp)) (.cons (er_dtup (.cons (er_dint (ev_ixt (i := 0) (ev_var rfl) ev_c ht rfl)) (.cons (er_dint ev_c) .nil)) (by simp)) .nil)) (by simp)
      · walk_at "zn"
        refine s_retR (er_mapRow (K := K) (ns := [val a b c d p 0, mo1 a b c d p 0 x 1, mo2 a b c d p 0 x 1, val a b c d x 1]) (f := fun n => n / p) (er_callV (ea_cons (ev_var rfl) (ea_cons (ev_var rfl) ea_nil)) fun H2 e2 Q' q' => ⟨v, z, a, b, c, d, p, 0, x, 1, rfl, rw_ex (e1.trans e2) hrow, rowZ_up hz (by decide), ch_ex e2 hch, ⟨by omega, by decide, by omega, by decide⟩, q'⟩) (by simp) (fun _ => rfl) fun n hn H2 e2 => ?_) fun z H2 e2 hz2 => k z H2 (e1.trans e2) hz2
        exact ev_fdiv (ev_var rfl) (ev_var rfl) (by omega) hpz
    · rw [if_neg hy] at k
      refine q_asgR (R := fun z H' => Ch K H' z 1 0 0 p) (er_if (b := false) (et_is (et_test (ev_op (ev_ixt (i := 1) (ev_var rfl) ev_c ht rfl) ev_c rv_eqI)) (decide_eq_false hy)) (fun z => by cases z) (fun _ => ?_)) fun z H1 e1 hch => ?_
      · exact er_dtup (K := K) (.cons (er_dtup (.cons (er_dint ev_c) (.cons (er_dint ev_c) .nil)) (by simp)) (.cons (er_dtup (.cons (er_dint ev_c) (.cons (er_dint (ev_var rfl)) .nil)) (by simp)) .nil)) (by simp)
      · walk_at "zn"
        refine s_retR (er_mapRow (K := K) (ns := [val a b c d 1 0, mo1 a b c d 1 0 0 p, mo2 a b c d 1 0 0 p, val a b c d 0 p]) (f := fun n => n / p) (er_callV (ea_cons (ev_var rfl) (ea_cons (ev_var rfl) ea_nil)) fun H2 e2 Q' q' => ⟨v, z, a, b, c, d, 1, 0, 0, p, rfl, rw_ex (e1.trans e2) hrow, rowZ_up hz (by decide), ch_ex e2 hch, ⟨by decide, by decide, by decide, by omega⟩, q'⟩) (by simp) (fun _ => rfl) fun n hn H2 e2 => ?_) fun z H2 e2 hz2 => k z H2 (e1.trans e2) hz2
        exact ev_fdiv (ev_var rfl) (ev_var rfl) (by omega) hpz
/-! ### change -/
abbrev s63 : Stmt := topS 63
theorem sc63 : FnScope ["_law_kettle_here", "_law_p", "_law_q", "_law_r", "_law_s", "_law_turn", "_law_way", "_law_many"] ["_law_kettle_here"] (defScope s63) := ⟨rfl, rfl, rfl, by decide +kernel, rfl, by decide +kernel, by decide +kernel⟩
def spChange (K : PySem.W.Frag) : Sp := fun vs H Q _ => ∃ (kl : Addr) (N : Nat), vs = [.ref kl] ∧ Ket N kl H ∧ N + 9 ≤ 1000 ∧ ∀ v (p q r s : Int) H', RowB 81 p q r s → (p * s - q * r = 1 ∨ p * s - q * r = -1) → ExK kl H H' → Ket (N + 9) kl H' → Ch K H' v p q r s → Q v H'
structure ChI (kl : Addr) (N : Nat) (H : Hp) (i : Nat) (H' : Hp) (p q r s : Int) : Prop where
  ex : ExK kl H H'
  ket : Ket (N + 1 + 2 * i) kl H'
  sz : RowB (3 ^ i) p q r s
  det : p * s - q * r = 1 ∨ p * s - q * r = -1
theorem step_sz {x y m : Int} {i : Nat} (hx : x.natAbs ≤ 3 ^ i) (hy : y.natAbs ≤ 3 ^ i) (h1 : -2 ≤ m) (h2 : m ≤ 2) : (x + m * y).natAbs ≤ 3 ^ (i + 1) := by
  have h3 := nb_mul (show m.natAbs ≤ 2 by omega) hy
  have e : 3 ^ (i + 1) = 3 ^ i + 2 * 3 ^ i := by rw [Nat.pow_succ]; omega
  omega
theorem fk63 (R : Raw K mg "_law_change" s63) (T : Bt K mg aE cF cK) (F_law_sip : Fk P w K mg base "_law_sip" 1 ["_law_kettle_here", "_law_top"] spSip) : Fk P w K mg base "_law_change" 2 ["_law_kettle_here"] (spChange K) := by
  refine R.fk sc63 (fun _ _ _ _ _ _ us hl => match us, hl with | [_], _ => rfl) (fun vs H Q E h => ?_) (fun f cdv A outer s H vs Q E hr h => ?_)
  · obtain ⟨kl, N, rfl, _⟩ := h; rfl
  · obtain ⟨kl, N, rfl, hk, hN, k⟩ := h
    refine ⟨_, (pss_cons (ps_asg (pe_tup (pa_cons pe_int (pa_cons pe_int (pa_cons pe_int (pa_cons pe_int pa_nil))))) (pg_tup rfl (pgs_cons (pg_name (i := 1) sc63.nd rfl (Or.inl rfl)) (pgs_cons (pg_name (i := 2) sc63.nd rfl (Or.inl rfl)) (pgs_cons (pg_name (i := 3) sc63.nd rfl (Or.inl rfl)) (pgs_cons (pg_name (i := 4) sc63.nd rfl (Or.inl rfl)) pgs_nil))))))
      (pss_cons (ps_for PassesOwn.never rfl (pi_range1 rfl T.range (pa_cons (pf F_law_sip (hr.mono (by decide)) rfl (pa_cons (pv 0) (pa_cons pe_int pa_nil))) pa_nil)) (pg_name (i := 5) sc63.nd rfl (Or.inl rfl)) (pss_cons (ps_par (i := 6) (j := 7) (by rfl) sc63.nd rfl rfl (by decide) rfl rfl (pa_cons (pf F_law_sip (hr.mono (by decide)) rfl (pa_cons (pv 0) (pa_cons pe_int pa_nil))) (pa_cons (pe_op op_sub (pf F_law_sip (hr.mono (by decide)) rfl (pa_cons (pv 0) (pa_cons pe_int pa_nil))) pe_int) pa_nil)) (by rfl))
      (pss_cons (ps_if (pt_cmpR op_eq (pv 6) pe_int (nomark _)) (pss_one (ps_par (i := 1) (j := 2) (by rfl) sc63.nd rfl rfl (by decide) rfl rfl (pa_cons (pe_op op_add (pv 1) (pe_op op_mulW (pv 7) (pv 3))) (pa_cons (pe_op op_add (pv 2) (pe_op op_mulW (pv 7) (pv 4))) pa_nil)) (by rfl))) pss_nil)
      (pss_cons (ps_if (pt_cmpR op_eq (pv 6) pe_int (nomark _)) (pss_one (ps_par (i := 3) (j := 4) (by rfl) sc63.nd rfl rfl (by decide) rfl rfl (pa_cons (pe_op op_add (pv 3) (pe_op op_mulW (pv 7) (pv 1))) (pa_cons (pe_op op_add (pv 4) (pe_op op_mulW (pv 7) (pv 2))) pa_nil)) (by rfl))) pss_nil)
      (pss_one (ps_if (pt_cmpR op_eq (pv 6) pe_int (nomark _)) (pss_one (ps_asg (pe_tup (pa_cons (pv 3) (pa_cons (pv 4) (pa_cons (pv 1) (pa_cons (pv 2) pa_nil))))) (pg_tup rfl (pgs_cons (pg_name (i := 1) sc63.nd rfl (Or.inl rfl)) (pgs_cons (pg_name (i := 2) sc63.nd rfl (Or.inl rfl)) (pgs_cons (pg_name (i := 3) sc63.nd rfl (Or.inl rfl)) (pgs_cons (pg_name (i := 4) sc63.nd rfl (Or.inl rfl)) pgs_nil))))))) pss_nil))))))
      (pss_one (ps_ret (pe_tup (pa_cons (pe_tup (pa_cons (pv 1) (pa_cons (pv 2) pa_nil))) (pa_cons (pe_tup (pa_cons (pv 3) (pa_cons (pv 4) pa_nil))) pa_nil))))))), ?_⟩
    refine at_st (σ2 := [some _, none, none, none, none, none, none, none]) rfl ?_
    refine q_unp4R (er_tup4 (ea_cons ev_c (ea_cons ev_c (ea_cons ev_c (ea_cons ev_c ea_nil))))) fun H1 e1 => ?_
    walk_at "zn"
    refine q_forK (n := 4) (k0 := hk.ex e1) (N := N) (M := N + 1) (fun H2 e2 k2 Q' q' => k_cons (k_sip (top := 5) (fun H3 e3 k3 => ea_cons (ev_var rfl) (ea_cons ev_c ea_nil)) (by omega) (by decide) (by decide)) (fun _ _ _ _ _ z => z) k_nil H2 e2 k2 Q' fun vs H3 e3 k3 ⟨v, us, hvs, ⟨i, hv, h0, h5⟩, hus⟩ => q' vs H3 e3 k3 ⟨i, by rw [hvs, hv, hus], h0, by omega⟩) (by decide)
      (fun i σ' H' => ∃ (p q r s : Int) (o1 o2 o3 : Option V), σ' = [some (.ref kl), some (.int p), some (.int q), some (.int r), some (.int s), o1, o2, o3] ∧ ChI kl N H i H' p q r s) (fun H2 e2 k2 => ⟨1, 0, 0, 1, none, none, none, rfl, (toK e1).trans e2, k2, ⟨by decide, by decide, by decide, by decide⟩, .inl (by decide)⟩)
      (fun i σ' H' hi ⟨p, q, r, s', o1, o2, o3, hs, I⟩ => ?_) (fun i σ' H' hi ⟨p, q, r, s', o1, o2, o3, hs, I⟩ => ?_)
    · subst hs
      walk_at "zn"
      have hz81 : (3 : Nat) ^ i ≤ 81 := Nat.le_trans (Nat.pow_le_pow_right (by decide) (show i ≤ 4 by omega)) (by decide)
      have z20 : (81 : Nat) < 2 ^ 20 := by decide
      have zp : p.natAbs < 2 ^ 20 := Nat.lt_of_le_of_lt (Nat.le_trans I.sz.a hz81) z20
      have zq : q.natAbs < 2 ^ 20 := Nat.lt_of_le_of_lt (Nat.le_trans I.sz.b hz81) z20
      have zr : r.natAbs < 2 ^ 20 := Nat.lt_of_le_of_lt (Nat.le_trans I.sz.c hz81) z20
      have zs : s'.natAbs < 2 ^ 20 := Nat.lt_of_le_of_lt (Nat.le_trans I.sz.d hz81) z20
      refine q_parK (N := N + 1 + 2 * i) (M := N + 1 + 2 * (i + 1)) (kl := kl) (Rv := fun v w _ => ∃ wy m : Int, v = .int wy ∧ w = .int m ∧ 0 ≤ wy ∧ wy < 3 ∧ -2 ≤ m ∧ m ≤ 2) I.ket (fun H2 e2 k2 Q' q' => k_cons (M := N + 1 + 2 * i + 1) (k_sip (top := 3) (fun H3 e3 k3 => ea_cons (ev_var rfl) (ea_cons ev_c ea_nil)) (by omega) (by decide) (by decide)) (fun _ _ _ _ _ z => z)
        (k_cons (M := N + 1 + 2 * i + 1 + 1) (R := fun v _ => ∃ m : Int, v = .int m ∧ -2 ≤ m ∧ m ≤ 2) (k_op (y := .int 2) (k_sip (top := 5) (fun H3 e3 k3 => ea_cons (ev_var rfl) (ea_cons ev_c ea_nil)) (by omega) (by decide) (by decide)) (fun H3 e3 k3 => ev_c) (fun x H3 e3 ⟨j, hj, h0, h1⟩ => by subst hj; exact ⟨_, rv_I0, fun H4 e4 => ⟨_, rfl, by omega, by omega⟩⟩) (fun _ _ _ _ z => z)) (fun _ _ _ _ _ z => z) k_nil) H2 e2 k2 Q'
        fun vs H3 e3 k3 ⟨v, us, hvs, ⟨wy, hv, h0, h3⟩, u, us2, hus, ⟨m, hm, h4, h5⟩, hus2⟩ => q' vs H3 e3 (k3.up (by omega)) ⟨v, u, by rw [hvs, hus, hus2], wy, m, hv, hm, h0, h3, h4, h5⟩) fun v w H2 e2 k2 ⟨wy, m, hv, hw, hw0, hw3, hm1, hm2⟩ => ?_
      subst hv hw
      walk_at "zn"
      have zm : m.natAbs < 2 ^ 20 := by omega
      have hI := I.ex.trans e2
      have hsz : RowB (3 ^ (i + 1)) p q r s' := I.sz.mono (Nat.pow_le_pow_right (by decide) (by omega))
      rcases (show wy = 0 ∨ wy = 1 ∨ wy = 2 by omega) with rfl | rfl | rfl
      · refine q_when (b := true) (et_is (et_test (ev_op (ev_var rfl) ev_c rv_eqI)) rfl) (fun _ H3 e3 => ?_) (fun z => by cases z)
        refine s_par (v := .int (p + m * r)) (w := .int (q + m * s')) (ea_cons (evi_add (evi_var rfl zp) (evi_mul (evi_var rfl zm) (evi_var rfl zr))).ev (ea_cons (evi_add (evi_var rfl zq) (evi_mul (evi_var rfl zm) (evi_var rfl zs))).ev ea_nil)) fun H4 e4 => ?_
        walk_at "zn"
        refine q_when (b := false) (et_is (et_test (ev_op (ev_var rfl) ev_c rv_eqI)) rfl) (fun z => by cases z) (fun _ H5 e5 => ?_)
        refine s_when (b := false) (et_is (et_test (ev_op (ev_var rfl) ev_c rv_eqI)) rfl) (fun z => by cases z) (fun _ H6 e6 => ?_)
        have e := ((e3.trans e4).trans e5).trans e6
        exact ⟨_, _, _, _, _, _, _, rfl, hI.trans (toK e), k2.ex e, ⟨step_sz I.sz.a I.sz.c hm1 hm2, step_sz I.sz.b I.sz.d hm1 hm2, hsz.c, hsz.d⟩, by
          have : (p + m * r) * s' - (q + m * s') * r = p * s' - q * r := by grind
          rw [this]; exact I.det⟩
      · refine q_when (b := false) (et_is (et_test (ev_op (ev_var rfl) ev_c rv_eqI)) rfl) (fun z => by cases z) (fun _ H3 e3 => ?_)
        refine q_when (b := true) (et_is (et_test (ev_op (ev_var rfl) ev_c rv_eqI)) rfl) (fun _ H4 e4 => ?_) (fun z => by cases z)
        refine s_par (v := .int (r + m * p)) (w := .int (s' + m * q)) (ea_cons (evi_add (evi_var rfl zr) (evi_mul (evi_var rfl zm) (evi_var rfl zp))).ev (ea_cons (evi_add (evi_var rfl zs) (evi_mul (evi_var rfl zm) (evi_var rfl zq))).ev ea_nil)) fun H5 e5 => ?_
        walk_at "zn"
        refine s_when (b := false) (et_is (et_test (ev_op (ev_var rfl) ev_c rv_eqI)) rfl) (fun z => by cases z) (fun _ H6 e6 => ?_)
        have e := ((e3.trans e4).trans e5).trans e6
        exact ⟨_, _, _, _, _, _, _, rfl, hI.trans (toK e), k2.ex e, ⟨hsz.a, hsz.b, step_sz I.sz.c I.sz.a hm1 hm2, step_sz I.sz.d I.sz.b hm1 hm2⟩, by
          have : p * (s' + m * q) - q * (r + m * p) = p * s' - q * r := by grind
          rw [this]; exact I.det⟩
      · refine q_when (b := false) (et_is (et_test (ev_op (ev_var rfl) ev_c rv_eqI)) rfl) (fun z => by cases z) (fun _ H3 e3 => ?_)
        refine q_when (b := false) (et_is (et_test (ev_op (ev_var rfl) ev_c rv_eqI)) rfl) (fun z => by cases z) (fun _ H4 e4 => ?_)
        refine s_when (b := true) (et_is (et_test (ev_op (ev_var rfl) ev_c rv_eqI)) rfl) (fun _ H5 e5 => ?_) (fun z => by cases z)
        refine s_unp4R (er_tup4 (a := .int r) (b := .int s') (c := .int p) (d := .int q) (ea_cons (ev_var rfl) (ea_cons (ev_var rfl) (ea_cons (ev_var rfl) (ea_cons (ev_var rfl) ea_nil))))) fun H6 e6 => ?_
        have e := ((e3.trans e4).trans e5).trans e6
        exact ⟨_, _, _, _, _, _, _, rfl, hI.trans (toK e), k2.ex e, ⟨hsz.c, hsz.d, hsz.a, hsz.b⟩, by
          have : r * q - s' * p = -(p * s' - q * r) := by grind
          rw [this]
          rcases I.det with h | h <;> rw [h]
          · exact .inr rfl
          · exact .inl rfl⟩
    · subst hs
      refine s_retR (R := fun z H' => Ch K H' z p q r s') (er_dtup (K := K) (.cons (er_dtup (.cons (er_dint (ev_var rfl)) (.cons (er_dint (ev_var rfl)) .nil)) (by simp)) (.cons (er_dtup (.cons (er_dint (ev_var rfl)) (.cons (er_dint (ev_var rfl)) .nil)) (by simp)) .nil)) (by simp)) fun v H2 e2 hv => ?_
      exact k v p q r s' H2 (I.sz.mono (Nat.le_trans (Nat.pow_le_pow_right (by decide) (show i ≤ 4 by omega)) (by decide))) I.det (I.ex.trans (toK e2)) ((I.ket.up (by omega)).ex e2) hv
end
end Z
namespace Z
open PySem PySem.Spec PyProof.Rows L2 Evl Zm SlX
local macro_rules | `(tactic| walk_at "zi") => `(tactic| (repeat' first | exact evi_c | exact evi_var rfl (by with_reducible assumption) | apply evi_add | apply evi_sub | apply evi_mul); all_goals (show _ ≤ 1000000; decide))
local macro_rules | `(tactic| walk_at "zn") => `(tactic| dsimp only [List.set_cons_zero, List.set_cons_succ])
section
variable {P : Program} {w : World} {K : PySem.W.Frag} {mg : Str → Option Value} {base : Heap}
variable {aE cF cK pS pD gD fI P1 P2 : Addr}
open GxR
/-! Zs: within -/
section
variable {σ : L2.St} {H : Hp} {te ta tb tl : TE} {tr : TA} {kl : Addr} {N M : Nat} {D : Ends} {tz tu tw : TS} {R2v : V → V → Hp → Prop} {R : V → Hp → Prop}
theorem k_tup2 (h : ErKA kl N M tr σ H (fun vs H' => ∃ x y, vs = [x, y] ∧ R2v x y H')) (hR : ∀ x y H1 H2, Ex H1 H2 → R2v x y H1 → R2v x y H2) : ErK kl N M (tTup tr) σ H (fun v H' => ∃ p x y, v = .ref p ∧ SqT K H' p [x, y] ∧ R2v x y H') := fun H1 e k Q q =>
  h H1 e k _ fun vs H2 e2 k2 ⟨x, y, hv, r⟩ => ⟨by rw [hv]; show 2 ≤ sizeLine; decide, fun p hp => q _ _ (e2.trans (toK (Ex.new hp))) (k2.ex (Ex.new hp)) ⟨p, x, y, rfl, by rw [hv]; exact SqT.of upd_same, hR x y _ _ (Ex.new hp) r⟩⟩
theorem s_unp2K {i j : Nat} (k0 : Ket N kl H) (h : ErK kl N M te σ H (fun v H' => ∃ p x y, v = .ref p ∧ SqT K H' p [x, y] ∧ R2v x y H')) (q : ∀ x y H1, ExK kl H H1 → Ket M kl H1 → R2v x y H1 → D.nx ((σ.set i (some x)).set j (some y)) H1) :
    tAsg te (gTup K 2 (gCons (gName i) (gCons (gName j) gNil))) D σ H :=
  h H (ExK.refl H) k0 _ fun v H1 e k1 ⟨p, x, y, hv, hp, r⟩ => by
    subst hv
    exact ⟨p, _, rfl, hp, rfl, _, _, rfl, _, _, rfl, rfl, q x y H1 e k1 r⟩
theorem q_if0 (k0 : Ket N kl H) (h : ErK kl N M ta σ H (fun v _ => ∃ i : Int, v = .int i ∧ R v H)) (k : ∀ (b : Bool) H1, ExK kl H H1 → Ket M kl H1 → if b = true then tu { D with nx := tz D } σ H1 else tw { D with nx := tz D } σ H1) : tSeq (tIfS (tTest (tOp rEq ta (tC (.int 0)))) tu tw) tz D σ H := s_if0 (D := { D with nx := tz D }) k0 h k
end
theorem ErKA.imp {σ : L2.St} {H : Hp} {tr : TA} {kl : Addr} {N M : Nat} {R S : List V → Hp → Prop} (h : ErKA kl N M tr σ H R) (i : ∀ v H', R v H' → S v H') : ErKA kl N M tr σ H S := fun H1 a k Q q => h H1 a k Q fun v H2 e k2 r => q v H2 e k2 (i v H2 r)
theorem ltd_exk {H H' : Hp} {kl : Addr} {N : Nat} {v : V} {ds : List PyData} (k : Ket N kl H) (e : ExK kl H H') (hne : ∀ a b c, ds ≠ [.int a, .int b, .int c]) (hd : ∀ d ∈ ds, noL d = true) (h : LtD K H v ds) : LtD K H' v ds := by
  obtain ⟨p, xs, rfl, h1, h2⟩ := h
  refine ⟨p, xs, rfl, e p _ (fun z => ?_) h1, dpa_exl (exk_L k e) _ _ (noLs_all hd) h2⟩
  obtain ⟨a, b, c, hk, _⟩ := k
  rw [z, hk] at h1
  have : [V.int a, V.int b, V.int c] = xs := by injection h1 with h1; injection h1
  subst this
  exact hne a b c (dpa_three h2)
theorem pair_dep {u : Int × Int} : (pairD u).depth ≤ 10 := by
  unfold pairD
  simp [PyData.depth, PyData.depthAll]
theorem ediv_size {n p : Int} {M : Nat} (h : n.natAbs ≤ M) : (n / p).natAbs ≤ M := Nat.le_trans (Int.natAbs_ediv_le_natAbs n p) h
/-- the loop's state -/
structure WI (K : PySem.W.Frag) (kl : Addr) (N : Nat) (H : Hp) (i : Nat) (H' : Hp) (v : V) (a b c d ix : Int) : Prop where
  ex : ExK kl H H'
  ket : Ket (N + 13 * i) kl H'
  row : Rw K H' v [a, b, c, d]
  sz : RowB (3 * 10000000000 ^ i) a b c d
  d0 : disc a b c d ≠ 0
  ix : ix.natAbs ≤ 25 ^ i
def WithinOk (K : PySem.W.Frag) (H : Hp) (z : V) : Prop := ∃ t x i a b c d, z = .ref t ∧ SqT K H t [x, .int i] ∧ Rw K H x [a, b, c, d] ∧ RowZ 199 a b c d ∧ disc a b c d ≠ 0
abbrev s71 : Stmt := topS 71
theorem sc71 : FnScope ["_law_kettle_here", "_law_row_here", "_law_many", "_law_index", "_law_turn", "_law_prime", "_law_roots", "_law_place", "_law_entry"] ["_law_kettle_here", "_law_row_here", "_law_many"] (defScope s71) := ⟨rfl, rfl, rfl, by decide +kernel, rfl, by decide +kernel, by decide +kernel⟩
def spWithin (K : PySem.W.Frag) : Sp := fun vs H Q _ => ∃ (kl : Addr) (N : Nat) (v : V) (many : Int), vs = [.ref kl, v, .int many] ∧ Ket N kl H ∧ N + 39 ≤ 1000 ∧ 0 ≤ many ∧ many ≤ 3 ∧ RowOk K H v ∧ ∀ z H', ExK kl H H' → Ket (N + 39) kl H' → WithinOk K H' z → Q z H'
/-- the row after the first choice of a turn -/
structure W2 (K : PySem.W.Frag) (kl : Addr) (N : Nat) (H : Hp) (i : Nat) (H' : Hp) (v : V) (a b c d ix : Int) : Prop where
  ex : ExK kl H H'
  ket : Ket (N + 13 * i + 3) kl H'
  row : Rw K H' v [a, b, c, d]
  sz : RowB (1500 * (3 * 10000000000 ^ i)) a b c d
  d0 : disc a b c d ≠ 0
  ix : ix.natAbs ≤ 25 ^ (i + 1)
theorem m_size {i : Nat} (h : i ≤ 3) : 10000000000 ^ i ≤ 1000000000000000000000000000000 := Nat.le_trans (Nat.pow_le_pow_right (by decide) h) (by decide)
theorem fk71 (R : Raw K mg "_law_within" s71) (T : Bt K mg aE cF cK) (F_law_sip : Fk P w K mg base "_law_sip" 1 ["_law_kettle_here", "_law_top"] spSip) (F_law_taken : Fk P w K mg base "_law_taken" 2 ["_law_kettle_here", "_law_items"] (spTaken K)) (F_law_places : Fk P w K mg base "_law_places" 1 ["_law_prime"] (spPlaces K)) (F_law_value : Fk P w K mg base "_law_value" 1 ["_law_row_here", "_law_x", "_law_y"] (spFormAt K))
    (F_law_below : Fk P w K mg base "_law_below" 3 ["_law_row_here", "_law_prime", "_law_place"] (spBelow K)) (F_law_led : Fk P w K mg base "_law_led" 3 ["_law_row_here", "_law_change_here"] (spLed K)) (F_law_change : Fk P w K mg base "_law_change" 2 ["_law_kettle_here"] (spChange K)) : Fk P w K mg base "_law_within" 4 ["_law_kettle_here", "_law_row_here", "_law_many"] (spWithin K) := by
  refine R.fk sc71 (fun _ _ _ _ _ _ us hl => match us, hl with | [_, _, _], _ => rfl) (fun vs H Q E h => ?_) (fun f cdv A outer s H vs Q E hr h => ?_)
  · obtain ⟨kl, N, v, many, rfl, _⟩ := h; rfl
  · obtain ⟨kl, N, v, many, rfl, hk, hN, hm0, hm3, ⟨a, b, c, d, hB, hd0, hrow⟩, k⟩ := h
    refine ⟨_, (pss_cons (ps_set (i := 3) sc71.nd rfl (Or.inl rfl) pe_int)
      (pss_cons (ps_for PassesOwn.never rfl (pi_range1 rfl T.range (pa_cons (pv 2) pa_nil)) (pg_name (i := 4) sc71.nd rfl (Or.inl rfl)) (pss_cons (ps_set (i := 5) sc71.nd rfl (Or.inr rfl) (pf F_law_taken (hr.mono (by decide)) rfl (pa_cons (pv 0) (pa_cons (pe_lst (pa_cons pe_int (pa_cons pe_int (pa_cons pe_int (pa_cons pe_int (pa_cons pe_int pa_nil)))))) pa_nil))))
      (pss_cons (ps_setLc (own := [(("_law_place" : Str), 7)]) (g := gName 7) (i := 6) rfl sc71.nd rfl rfl (sw_true rfl rfl rfl (by decide +kernel)) (pi_list (pf F_law_places (hr.mono (by decide)) rfl (pa_cons (pv 5) pa_nil))) (blkOk_by (own := [(("_law_place" : Str), 7)]) (N := ["_law_kettle_here", "_law_row_here", "_law_many", "_law_index", "_law_turn", "_law_prime", "_law_roots", "_law_place", "_law_entry"]) (sc := defScope s71) (by decide +kernel)) (fun _ _ _ _ _ => pg_name (i := 7) sc71.nd rfl (Or.inl rfl)) (fun _ _ _ _ _ => pts_one (pt_cmpR op_eq (pe_op op_mod (pf F_law_value (hr.mono (by decide)) rfl (pa_cons (pv 1) (pa_cons (pe_ix (r := rIxT K) ix_tup (pv 7) pe_int (fun _ _ => rfl)) (pa_cons (pe_ix (r := rIxT K) ix_tup (pv 7) pe_int (fun _ _ => rfl)) pa_nil)))) (pv 5)) pe_int (nomark _))) (fun _ _ _ _ _ => (pv 7)))
      (pss_cons (ps_if (pt_cmpR op_eq (pf F_law_sip (hr.mono (by decide)) rfl (pa_cons (pv 0) (pa_cons pe_int pa_nil))) pe_int (nomark _)) (pss_one (ps_asg (pe_tup (pa_cons (pe_callTy call_tuple_of (by rfl) T.tuple (by decide +kernel) (pa_cons (pe_lc (own := [(("_law_entry" : Str), 8)]) (g := gName 8) rfl sc71.nd (pi_tup (pv 1)) (blkOk_by (own := [(("_law_entry" : Str), 8)]) (N := ["_law_kettle_here", "_law_row_here", "_law_many", "_law_index", "_law_turn", "_law_prime", "_law_roots", "_law_place", "_law_entry"]) (sc := defScope s71) (by decide +kernel)) (fun _ _ _ _ _ => pg_name (i := 8) sc71.nd rfl (Or.inl rfl)) (fun _ _ _ _ _ => pts_nil) (fun _ _ _ _ _ => (pe_op op_mulW (pv 5) (pv 8)))) pa_nil)) (pa_cons (pe_op op_mulW (pe_op op_mulW (pv 3) (pv 5)) (pv 5)) pa_nil))) (pg_tup rfl (pgs_cons (pg_name (i := 1) sc71.nd rfl (Or.inr rfl)) (pgs_cons (pg_name (i := 3) sc71.nd rfl (Or.inl rfl)) pgs_nil))))) (pss_one (ps_if (pt_cmpR (op_neD hr.units) (pv 6) (pe_lst pa_nil) (nomark _)) (pss_one (ps_asg (pe_tup (pa_cons (pf F_law_below (hr.mono (by decide)) rfl (pa_cons (pv 1) (pa_cons (pv 5) (pa_cons (pf F_law_taken (hr.mono (by decide)) rfl (pa_cons (pv 0) (pa_cons (pv 6) pa_nil))) pa_nil)))) (pa_cons (pe_op op_mulW (pv 3) (pv 5)) pa_nil))) (pg_tup rfl (pgs_cons (pg_name (i := 1) sc71.nd rfl (Or.inr rfl)) (pgs_cons (pg_name (i := 3) sc71.nd rfl (Or.inl rfl)) pgs_nil))))) pss_nil)))
      (pss_one (ps_if (pt_cmpR op_eq (pf F_law_sip (hr.mono (by decide)) rfl (pa_cons (pv 0) (pa_cons pe_int pa_nil))) pe_int (nomark _)) (pss_one (ps_set (i := 1) sc71.nd rfl (Or.inr rfl) (pf F_law_led (hr.mono (by decide)) rfl (pa_cons (pv 1) (pa_cons (pf F_law_change (hr.mono (by decide)) rfl (pa_cons (pv 0) pa_nil)) pa_nil))))) pss_nil))))))
      (pss_one (ps_ret (pe_tup (pa_cons (pv 1) (pa_cons (pv 3) pa_nil))))))), ?_⟩
    refine at_st (σ2 := [some _, some _, some _, none, none, none, none, none, none]) rfl ?_
    refine q_asg (v := .int 1) ev_c fun H1 e1 => ?_
    walk_at "zn"
    refine q_forK (n := 3) (k0 := hk.ex e1) (N := N) (M := N) (fun H2 e2 k2 Q' q' => k_cons (ev_K (v := .int many) fun H3 e3 k3 => ev_var rfl) (fun _ _ _ _ _ z => z) k_nil H2 e2 k2 Q' fun vs H3 e3 k3 ⟨v, us, hvs, hv, hus⟩ => q' vs H3 e3 k3 ⟨many, by rw [hvs, hv, hus], hm0, hm3⟩) (by decide)
      (fun i σ' H' => ∃ (v' : V) (a b c d ix : Int) (o4 o5 o6 o7 o8 : Option V), σ' = [some (.ref kl), some v', some (.int many), some (.int ix), o4, o5, o6, o7, o8] ∧ WI K kl N H i H' v' a b c d ix)
      (fun H2 e2 k2 => ⟨v, a, b, c, d, 1, none, none, none, none, none, rfl, (toK e1).trans e2, k2, rw_exk (hk.ex e1) e2 (rw_ex e1 hrow), by simpa using hB, hd0, by decide⟩)
      (fun i σ' H' hi ⟨v', a, b, c, d, ix, o4, o5, o6, o7, o8, hs, I⟩ => ?_) (fun i σ' H' hi ⟨v', a, b, c, d, ix, o4, o5, o6, o7, o8, hs, I⟩ => ?_)
    · subst hs
      walk_at "zn"
      have hi3 : i ≤ 3 := by omega
      have hM := m_size hi3
      have hix : ix.natAbs < 2 ^ 30 := Nat.lt_of_le_of_lt (Nat.le_trans I.ix (Nat.pow_le_pow_right (by decide) hi3)) (by decide)
      have p110 : (3 : Nat) * 1000000000000000000000000000000 < 2 ^ 110 := by decide
      have hz : RowZ 110 a b c d := rowZ_of I.sz (by omega)
      refine q_asgK (N := N + 13 * i) (M := N + 13 * i + 1) (kl := kl) (R := fun v _ => ∃ p : Nat, v = .int (p : Int) ∧ 2 ≤ p ∧ p ≤ 5) I.ket ((k_takenV (K := K) (xs := [.int 2, .int 2, .int 3, .int 3, .int 5]) rfl (fun H2 e2 k2 => el_lst (ea_cons ev_c (ea_cons ev_c (ea_cons ev_c (ea_cons ev_c (ea_cons ev_c ea_nil))))) (by simp)) (by omega) (by simp) (by simp)).imp fun v _ hv => ?_) fun pv H2 e2 k2 ⟨p, hpv, hp2, hp5⟩ => ?_
      · simp only [List.mem_cons, List.not_mem_nil, or_false] at hv
        rcases hv with rfl | rfl | rfl | rfl | rfl
        · exact ⟨2, rfl, by decide, by decide⟩
        · exact ⟨2, rfl, by decide, by decide⟩
        · exact ⟨3, rfl, by decide, by decide⟩
        · exact ⟨3, rfl, by decide, by decide⟩
        · exact ⟨5, rfl, by decide, by decide⟩
      subst hpv
      walk_at "zn"
      have hrow2 := rw_exk I.ket e2 I.row
      have hpz : ((p : Int)).natAbs < 2 ^ 20 := by omega
      -- the roots
      have hlen : ((plc p).map pairD).length ≤ 1000 := by
        rw [List.length_map]; unfold plc; simp; omega
      refine q_asgR (R := fun v H' => ∃ ds : List PyData, LtD K H' v ds ∧ ds.length ≤ 1000 ∧ ∀ D ∈ ds, ∃ u ∈ plc p, D = pairD u ∧ val a b c d u.1 u.2 % (p : Int) = 0) ((er_lcL (K := K) (n := ((plc p).map pairD).length) (Y := fun i x H' => ∃ d, ((plc p).map pairD)[i]? = some d ∧ Dp K H' x d)
        (fun i => decide (val a b c d ((plc p).getD i (0, 0)).1 ((plc p).getD i (0, 0)).2 % (p : Int) = 0)) (fun i => pairD ((plc p).getD i (0, 0))) (ei_dlist (er_dp (er_callV (ea_cons (ev_var rfl) ea_nil) fun H3 e3 Q' q' => ⟨p, rfl, by omega, by omega, q'⟩))) (by omega) (fun _ => rfl) (fun _ => rfl)
        (fun j x H3 hj e3 y => ?_) (fun j x H3 hj e3 y hb => ?_) (fun j x H3 H4 e3 ⟨D, h1, h2⟩ => ⟨D, h1, dp_ex e3 _ _ h2⟩)).imp fun v H' hv => ⟨_, hv, ?_, fun D hD => ?_⟩) fun rv H3 e3 ⟨ds, hds, hdl, hdm⟩ => ?_
      · obtain ⟨D, h1, h2⟩ := y
        rw [List.getElem?_map] at h1
        obtain ⟨u, hu, rfl⟩ := Option.map_eq_some_iff.mp h1
        have eg : (plc p).getD j (0, 0) = u := by rw [List.getD_eq_getElem?_getD, hu]; rfl
        rw [eg]
        obtain ⟨hu1, hu2, hu3⟩ := place_small (by omega) (by omega) (List.mem_of_getElem? hu)
        obtain ⟨t, rfl, ht⟩ := rw_at (ns := [u.1, u.2]) h2
        exact et_test (ev_op (ev_mod (ev_call' (ea_cons (ev_var rfl) (ea_cons (ev_ixt (i := 0) (ev_var rfl) ev_c ht rfl) (ea_cons (ev_ixt (i := 1) (ev_var rfl) ev_c ht rfl) ea_nil))) fun H4 e4 Q' q' => ⟨v', a, b, c, d, u.1, u.2, rfl, rw_ex (e3.trans e4) hrow2, rowZ_up hz (by decide), hu1, hu2, q'⟩) (ev_var rfl) (by omega)) ev_c rv_eqI)
      · obtain ⟨D, h1, h2⟩ := y
        rw [List.getElem?_map] at h1
        obtain ⟨u, hu, rfl⟩ := Option.map_eq_some_iff.mp h1
        have eg : (plc p).getD j (0, 0) = u := by rw [List.getD_eq_getElem?_getD, hu]; rfl
        rw [eg]
        exact er_dvar rfl h2
      · rw [List.length_map]
        exact Nat.le_trans (Nat.le_trans (List.length_filter_le _ _) (by rw [List.length_range]; exact Nat.le_refl _)) hlen
      · obtain ⟨j, hj, rfl⟩ := List.mem_map.mp hD
        obtain ⟨hj1, hj2⟩ := List.mem_filter.mp hj
        have hj3 : j < (plc p).length := by
          have := List.mem_range.mp hj1
          rw [List.length_map] at this
          exact this
        have eg : (plc p).getD j (0, 0) = (plc p)[j] := by rw [List.getD_eq_getElem?_getD, List.getElem?_eq_getElem hj3]; rfl
        rw [eg] at hj2 ⊢
        exact ⟨_, List.getElem_mem hj3, rfl, of_decide_eq_true hj2⟩
      walk_at "zn"
      have k3 := k2.ex e3
      have hrow3 := rw_ex e3 hrow2
      have hx3 : ExK kl H H3 := (I.ex.trans e2).trans (toK e3)
      -- behind the first choice
      suffices rest : ∀ (v2 : V) (a2 b2 c2 d2 ix2 : Int) (H4 : Hp), W2 K kl N H i H4 v2 a2 b2 c2 d2 ix2 → tIfS (tTest (tOp rEq (tCall spSip [] E0 (tCons (tVar 0) (tCons (tC (.int 3)) tNil))) (tC (.int 0)))) (tAsg (tCall (spLed K) [] E0 (tCons (tVar 1) (tCons (tCall (spChange K) [] E0 (tCons (tVar 0) tNil)) tNil))) (gName 1)) tNext
          { nx := fun σ' H' => ∃ (v' : V) (a b c d ix : Int) (o4 o5 o6 o7 o8 : Option V), σ' = [some (.ref kl), some v', some (.int many), some (.int ix), o4, o5, o6, o7, o8] ∧ WI K kl N H (i + 1) H' v' a b c d ix, rt := Q,
            bk := tRet (tTup (tCons (tVar 1) (tCons (tVar 3) tNil))) { nx := fun _ H' => Q .non H', rt := Q }, ct := fun σ' H' => ∃ (v' : V) (a b c d ix : Int) (o4 o5 o6 o7 o8 : Option V), σ' = [some (.ref kl), some v', some (.int many), some (.int ix), o4, o5, o6, o7, o8] ∧ WI K kl N H (i + 1) H' v' a b c d ix }
          [some (.ref kl), some v2, some (.int many), some (.int ix2), some (.int (i : Int)), some (.int (p : Int)), some rv, o7, o8] H4 by
        have hne : ∀ a b c : Int, ds ≠ [.int a, .int b, .int c] := fun a b c z => by
          obtain ⟨u, _, hu, _⟩ := hdm (.int a) (by rw [z]; simp)
          cases hu
        have hnl : ∀ D ∈ ds, noL D = true := fun D hD => by
          obtain ⟨u, _, hu, _⟩ := hdm D hD
          rw [hu]; rfl
        refine q_if0 (N := N + 13 * i + 1) (M := N + 13 * i + 2) (kl := kl) (R := fun _ _ => True) k3 ((k_sip (top := 5) (fun H4 e4 k4 => ea_cons (ev_var rfl) (ea_cons ev_c ea_nil)) (by omega) (by decide) (by decide)).imp fun v _ ⟨i, hv, _⟩ => ⟨i, hv, trivial⟩) fun bb H4 e4 k4 => ?_
        have hrow4 := rw_exk k3 e4 hrow3
        have hx4 := hx3.trans e4
        cases bb with
        | true =>
          refine s_unp2K (N := N + 13 * i + 2) (M := N + 13 * i + 2) (kl := kl) (R2v := fun x y H' => Rw K H' x [p * a, p * b, p * c, p * d] ∧ y = .int (ix * p * p)) k4 (k_tup2 ((k_cons (M := N + 13 * i + 2) (R := fun x H' => Rw K H' x [p * a, p * b, p * c, p * d]) (er_K fun H5 e5 k5 => er_mapRow (K := K) (ns := [a, b, c, d]) (f := fun n => p * n) (er_var rfl fun H6 e6 => rw_ex e6 (rw_exk k4 e5 hrow4)) (by simp) (fun _ => rfl) fun n hn H6 e6 => ?_)
            (fun v H5 H6 k5 e5 hv => rw_exk k5 e5 hv) (k_cons (M := N + 13 * i + 2) (ev_K (v := .int (ix * p * p)) fun H5 e5 k5 => (evi_mul (evi_mul (evi_var rfl hix) (evi_var rfl hpz)) (evi_var rfl hpz)).ev) (fun _ _ _ _ _ z => z) k_nil)).imp fun vs H' ⟨x, us, hvs, hx, y, us2, hus, hy, hus2⟩ => ⟨x, y, by rw [hvs, hus, hus2], hx, hy⟩) (fun x y H5 H6 e5 hxy => ⟨rw_ex e5 hxy.1, hxy.2⟩)) fun x y H5 e5 k5 ⟨hx, hy⟩ => ?_
          · have hn2 : n.natAbs < 2 ^ 110 := by
              simp only [List.mem_cons, List.not_mem_nil, or_false] at hn
              rcases hn with rfl | rfl | rfl | rfl
              · exact hz.a
              · exact hz.b
              · exact hz.c
              · exact hz.d
            exact (evi_mul (evi_var rfl hpz) (evi_var rfl hn2)).ev
          · subst hy
            have sm : ∀ n : Int, n.natAbs ≤ 3 * 10000000000 ^ i → ((p : Int) * n).natAbs ≤ 1500 * (3 * 10000000000 ^ i) := fun n hn => by
              have := nb_mul (show ((p : Int)).natAbs ≤ 5 by omega) hn
              omega
            refine rest x (p * a) (p * b) (p * c) (p * d) (ix * p * p) H5 ⟨hx4.trans e5, k5.up (by omega), hx, ⟨sm a I.sz.a, sm b I.sz.b, sm c I.sz.c, sm d I.sz.d⟩, disc_times (by omega) I.d0, ?_⟩
            have h1 := nb_mul (nb_mul I.ix (show ((p : Int)).natAbs ≤ 5 by omega)) (show ((p : Int)).natAbs ≤ 5 by omega)
            rw [Nat.pow_succ]
            omega
        | false =>
          have hds4 := ltd_exk k3 e4 hne hnl hds
          refine s_when (b := !PyData.eqv (.list ds) (.list [])) (et_test (ev_neD (K := K) (er_dvar rfl hds4.dp) (er_dlst .nil (by decide)) (shaped_list fun D hD => ?_) rfl)) (fun hb H5 e5 => ?_) (fun hb H5 e5 => ?_)
          · obtain ⟨u, _, hu, _⟩ := hdm D hD
            rw [hu]; exact ⟨rfl, pair_dep⟩
          · have hne0 : 0 < ds.length := by
              rw [eqv_nil] at hb
              cases ds with
              | nil => simp at hb
              | cons D ds => simp
            have k5 := k4.ex e5
            refine s_unp2K (N := N + 13 * i + 2) (M := N + 13 * i + 3) (kl := kl) (R2v := fun x y H' => (∃ a2 b2 c2 d2, Rw K H' x [a2, b2, c2, d2] ∧ RowB (1500 * (3 * 10000000000 ^ i)) a2 b2 c2 d2 ∧ disc a2 b2 c2 d2 ≠ 0) ∧ y = .int (ix * p)) k5 (k_tup2 ((k_cons (M := N + 13 * i + 3) (R := fun x H' => ∃ a2 b2 c2 d2, Rw K H' x [a2, b2, c2, d2] ∧ RowB (1500 * (3 * 10000000000 ^ i)) a2 b2 c2 d2 ∧ disc a2 b2 c2 d2 ≠ 0)
              (k_callA (M := N + 13 * i + 3) (k_cons (R := fun x H' => x = v' ∧ Rw K H' x [a, b, c, d]) (er_K fun H6 e6 k6 => er_var rfl fun H7 e7 => ⟨rfl, rw_ex e7 (rw_exk k5 e6 (rw_ex e5 hrow4))⟩) (fun v H6 H7 k6 e6 hv => ⟨hv.1, rw_exk k6 e6 hv.2⟩) (k_cons (ev_K (v := .int (p : Int)) fun H6 e6 k6 => ev_var rfl) (fun _ _ _ _ _ z => z)
                (k_cons (R := fun u H' => ∃ D ∈ ds, Dp K H' u D) (k_takenD (K := K) (ds := ds) rfl (fun H6 e6 k6 => er_var rfl fun H7 e7 => ltd_ex e7 (ltd_exk k5 e6 hne hnl (ltd_ex e5 hds4))) hnl hne (by omega) hne0 hdl) (fun v H6 H7 k6 e6 ⟨D, hD, hv⟩ => ⟨D, hD, dp_exl (exk_L k6 e6) _ _ (hnl D hD) hv⟩) k_nil)))
                fun vs H6 e6 k6 ⟨x, us, hvs, ⟨hx, hxr⟩, y, us2, hus, hy, z, us3, hus2, ⟨D, hD, hzD⟩, hus3⟩ Q' q' => ?_)
              (fun v H6 H7 k6 e6 ⟨a2, b2, c2, d2, h1, h2⟩ => ⟨a2, b2, c2, d2, rw_exk k6 e6 h1, h2⟩) (k_cons (M := N + 13 * i + 3) (ev_K (v := .int (ix * p)) fun H6 e6 k6 => (evi_mul (evi_var rfl hix) (evi_var rfl hpz)).ev) (fun _ _ _ _ _ z => z) k_nil)).imp fun vs H' ⟨x, us, hvs, hx, y, us2, hus, hy, hus2⟩ => ⟨x, y, by rw [hvs, hus, hus2], hx, hy⟩) (fun x y H6 H7 e6 ⟨⟨a2, b2, c2, d2, h1, h2⟩, hy⟩ => ⟨⟨a2, b2, c2, d2, rw_ex e6 h1, h2⟩, hy⟩)) fun x y H6 e6 k6 ⟨⟨a2, b2, c2, d2, h1, h2, h3⟩, hy⟩ => ?_
            · subst hvs hx hus hy hus2 hus3
              obtain ⟨u, hu, rfl, hval⟩ := hdm D hD
              have hpl := plc_mem (by omega) hu
              have hx5 : u.1.natAbs ≤ 5 := by
                rcases hpl with e | ⟨_, h2, h3⟩
                · rw [e]; decide
                · omega
              have h0 : RowB (3 * 10000000000 ^ i) a b c d := I.sz
              have e1500 : 12 * (3 * 10000000000 ^ i * 5 * 5 * 5) = 1500 * (3 * 10000000000 ^ i) := by omega
              have p5 : ((p : Int)).natAbs ≤ 5 := by omega
              rcases hpl with eu | ⟨eu2, eu3, eu4⟩
              · have hu1 : u.1 = 1 := by rw [eu]
                have hu2 : u.2 = 0 := by rw [eu]
                rw [hu1, hu2] at hval
                obtain ⟨e, g1, g2, g3, g4, g5, g6⟩ := below_e (p := (p : Int)) (by omega) hval I.d0
                refine ⟨_, _, a, b, c, d, p, u.1, u.2, rfl, hxr, rowZ_up hz (by decide), by omega, by omega, hzD, hx5, .inl ⟨hu1, hu2⟩, fun z' H7 e7 hz7 => q' z' H7 (toK e7) (k6.ex e7) ?_⟩
                rw [if_neg (by omega), g1, g3, g4, g5] at hz7
                have hs := moved_size h0 (B := 5) (p := 1) (q := 0) (r := 0) (s := (p : Int)) (by decide) (by decide) (by decide) p5
                rw [e1500] at hs
                refine ⟨_, _, _, _, hz7, ⟨?_, ?_, ?_, ?_⟩, g6⟩
                · rw [← g1]; exact ediv_size hs.a
                · rw [← g3]; exact ediv_size hs.b
                · rw [← g4]; exact ediv_size hs.c
                · rw [← g5]; exact ediv_size hs.d
              · rw [eu2] at hval
                obtain ⟨e, g1, g2, g3, g4, _, g6⟩ := below_x (p := (p : Int)) (by omega) hval I.d0
                refine ⟨_, _, a, b, c, d, p, u.1, u.2, rfl, hxr, rowZ_up hz (by decide), by omega, by omega, hzD, hx5, .inr eu2, fun z' H7 e7 hz7 => q' z' H7 (toK e7) (k6.ex e7) ?_⟩
                rw [if_pos eu2, g1, g2, g3, g4] at hz7
                have hs := moved_size h0 (B := 5) (p := (p : Int)) (q := 0) (r := u.1) (s := 1) p5 (by decide) hx5 (by decide)
                rw [e1500] at hs
                refine ⟨_, _, _, _, hz7, ⟨?_, ?_, ?_, ?_⟩, g6⟩
                · rw [← g1]; exact ediv_size hs.a
                · rw [← g2]; exact ediv_size hs.b
                · rw [← g3]; exact ediv_size hs.c
                · rw [← g4]; exact ediv_size hs.d
            · subst hy
              refine rest x a2 b2 c2 d2 (ix * p) H6 ⟨(hx4.trans (toK e5)).trans e6, k6, h1, h2, h3, ?_⟩
              have h1 := nb_mul I.ix (show ((p : Int)).natAbs ≤ 5 by omega)
              rw [Nat.pow_succ]
              omega
          · refine rest v' a b c d ix H5 ⟨hx4.trans (toK e5), (k4.ex e5).up (by omega), rw_ex e5 hrow4, I.sz.mono (by omega), I.d0, Nat.le_trans I.ix (Nat.pow_le_pow_right (by decide) (by omega))⟩
      intro v2 a2 b2 c2 d2 ix2 H4 W
      refine s_if0 (N := N + 13 * i + 3) (M := N + 13 * i + 4) (kl := kl) (R := fun _ _ => True) W.ket ((k_sip (top := 3) (fun H5 e5 k5 => ea_cons (ev_var rfl) (ea_cons ev_c ea_nil)) (by omega) (by decide) (by decide)).imp fun v _ ⟨i, hv, _⟩ => ⟨i, hv, trivial⟩) fun bb H5 e5 k5 => ?_
      have hrow5 := rw_exk W.ket e5 W.row
      have hx5 := W.ex.trans e5
      have hM4 : 1500 * (3 * 10000000000 ^ i) < 2 ^ 150 := by
        have : 1500 * (3 * 1000000000000000000000000000000) < 2 ^ 150 := by decide
        omega
      cases bb with
      | true =>
        refine s_asgK k5 (M := N + 13 * i + 13) (R := fun z H' => ∃ a3 b3 c3 d3, Rw K H' z [a3, b3, c3, d3] ∧ RowB (3 * 10000000000 ^ (i + 1)) a3 b3 c3 d3 ∧ disc a3 b3 c3 d3 ≠ 0) (k_callA (M := N + 13 * i + 13) (k_cons (R := fun x H' => x = v2 ∧ Rw K H' x [a2, b2, c2, d2]) (er_K fun H6 e6 k6 => er_var rfl fun H7 e7 => ⟨rfl, rw_ex e7 (rw_exk k5 e6 hrow5)⟩) (fun v H6 H7 k6 e6 hv => ⟨hv.1, rw_exk k6 e6 hv.2⟩)
          (k_cons (R := fun u H' => ∃ p q r s, RowB 81 p q r s ∧ (p * s - q * r = 1 ∨ p * s - q * r = -1) ∧ Ch K H' u p q r s) (k_call (vs := [.ref kl]) (fun H6 e6 k6 => ea_cons (ev_var rfl) ea_nil) fun H6 e6 k6 Q' q' => ⟨kl, N + 13 * i + 4, rfl, k6, by omega, fun v p q r s H' hB det ex ket ch => q' v H' ex ket ⟨p, q, r, s, hB, det, ch⟩⟩)
            (fun v H6 H7 k6 e6 ⟨p, q, r, s, h1, h2, h3⟩ => ⟨p, q, r, s, h1, h2, ch_exk k6 e6 h3⟩) k_nil)) fun vs H6 e6 k6 ⟨x, us, hvs, ⟨hx, hxr⟩, u, us2, hus, ⟨p, q, r, s, h1, h2, h3⟩, hus2⟩ Q' q' => ?_) fun z H6 e6 k6 ⟨a3, b3, c3, d3, h1, h2, h3⟩ => ?_
        · walk_at "zn"
          exact ⟨z, a3, b3, c3, d3, ix2, _, _, _, _, _, rfl, hx5.trans e6, by
            have : N + 13 * (i + 1) = N + 13 * i + 13 := by omega
            rw [this]; exact k6, h1, h2, h3, W.ix⟩
        · subst hvs hx hus hus2
          refine ⟨_, u, a2, b2, c2, d2, p, q, r, s, rfl, hxr, rowZ_up (rowZ_of W.sz hM4) (by decide), h3, h1, fun z H7 e7 hz7 => q' z H7 (toK e7) (k6.ex e7) ⟨_, _, _, _, hz7, ?_, disc_led h2 W.d0⟩⟩
          refine (led_size W.sz h1.a h1.b h1.c h1.d h2).mono ?_
          rw [Nat.pow_succ]
          omega
      | false =>
        refine ⟨v2, a2, b2, c2, d2, ix2, _, _, _, _, _, rfl, hx5, k5.up (by omega), hrow5, W.sz.mono ?_, W.d0, W.ix⟩
        rw [Nat.pow_succ]
        omega
    · subst hs
      have hi3 : i ≤ 3 := by omega
      have hM := m_size hi3
      have p110 : (3 : Nat) * 1000000000000000000000000000000 < 2 ^ 199 := by decide
      refine s_retR (R := fun z H' => ∃ t, z = .ref t ∧ H' t = some (.tup [v', .int ix])) (er_tupV (ea_cons (ev_var rfl) (ea_cons (ev_var rfl) ea_nil)) (by simp)) fun z H2 e2 ⟨t, hz, ht⟩ => k z H2 (I.ex.trans (toK e2)) ((I.ket.up (by omega)).ex e2) ⟨t, v', ix, a, b, c, d, hz, SqT.of ht, rw_ex e2 I.row, rowZ_of I.sz (by omega), I.d0⟩
end
end Z
namespace Z
open PySem PySem.Spec PyProof.Rows L2 Evl Zm SlX
local macro_rules | `(tactic| walk_at "zi") => `(tactic| (repeat' first | exact evi_c | exact evi_var rfl (by with_reducible assumption) | apply evi_add | apply evi_sub | apply evi_mul); all_goals (show _ ≤ 1000000; decide))
local macro_rules | `(tactic| walk_at "zn") => `(tactic| dsimp only [List.set_cons_zero, List.set_cons_succ])
section
variable {P : Program} {w : World} {K : PySem.W.Frag} {mg : Str → Option Value} {base : Heap}
variable {aE cF cK pS pD gD fI P1 P2 : Addr}
open GxR
/-! Zu: near -/
inductive Told : PyData → Prop
  | non : Told .none
  | con (p : Nat) (h2 : 2 ≤ p) (hp : p ≤ 10000) : Told (.tuple [.str "content", .int p])
  | pla (p : Nat) (u : Int × Int) (h2 : 2 ≤ p) (hp : p ≤ 10000) (hu : u ∈ plc p) : Told (.tuple [.str "place", .int p, pairD u])
theorem told_bar {a b c d : Int} {p : Nat} (h2 : 2 ≤ p) (hp : p ≤ 10000) : Told (barA a b c d p) := by
  unfold barA
  split
  · exact .con p h2 hp
  · cases hf : (plc p).find? (heavyAt a b c d p) with
    | none => exact .non
    | some u => exact .pla p u h2 hp (List.mem_of_find?_eq_some hf)
theorem told_lbar {a b c d : Int} : ∀ ps : List Nat, (∀ q ∈ ps, 2 ≤ q ∧ q ≤ 10000) → Told (lbar a b c d ps)
  | [], _ => .non
  | p :: ps, h => by
    cases hb : noneD (barA a b c d p) with
    | true =>
      have e : barA a b c d p = .none := by
        generalize barA a b c d p = x at hb
        cases x <;> first | rfl | cases hb
      rw [lbar_skip e]
      exact told_lbar ps fun q hq => h q (List.mem_cons_of_mem _ hq)
    | false =>
      rw [lbar_stop hb]
      exact told_bar (h p List.mem_cons_self).1 (h p List.mem_cons_self).2
theorem z199 {i : Int} (h : i.natAbs ≤ 100000) : i.natAbs < 2 ^ 199 := Nat.lt_of_le_of_lt h (by decide)
theorem Told.okV {D : PyData} (h : Told D) : OkV D := by
  cases h with
  | non => exact .non
  | con p h2 hp => exact .c2 _ _ (.inl (by omega)) (z199 (by omega))
  | pla p u h2 hp hu =>
    obtain ⟨h3, h4, _⟩ := place_small (by omega) hp hu
    exact .c3 _ _ _ (.inl (by omega)) (z199 (by omega)) (.pair _ _ h3 h4)
theorem Told.noL {D : PyData} (h : Told D) : noL D = true := by cases h <;> rfl
/-- a list of values that may be asked about -/
def LV (K : PySem.W.Frag) (n : Nat) (H : Hp) (v : V) : Prop := ∃ ds, LtD K H v ds ∧ ds.length ≤ n ∧ ∀ d ∈ ds, OkV d
theorem LV.ex {n : Nat} {H H' : Hp} {v : V} (h : LV K n H v) (e : Ex H H') : LV K n H' v := by
  obtain ⟨ds, h1, h2⟩ := h
  exact ⟨ds, ltd_ex e h1, h2⟩
theorem LV.up {n m : Nat} {H : Hp} {v : V} (h : LV K n H v) (l : n ≤ m) : LV K m H v := by
  obtain ⟨ds, h1, h2, h3⟩ := h
  exact ⟨ds, h1, Nat.le_trans h2 l, h3⟩
section
variable {σ : L2.St} {H : Hp} {te ta tb tl : TE}
theorem er_LV {n m : Nat} {es : List PyData} (h1 : Er ta σ H (fun v H' => LV K n H' v)) (h2 : Er tb σ H (fun v H' => LtD K H' v es)) (hes : ∀ d ∈ es, OkV d) (hl : es.length ≤ m) (hz : n + m ≤ 1000000) : Er (tOp rCat ta tb) σ H (fun v H' => LV K (n + m) H' v) := fun H1 e Q q =>
  h1 H1 e _ fun v H2 e2 ⟨ds, hd, hdl, hdo⟩ => h2 H2 (e.trans e2) _ fun u H3 e3 r2 => by
    obtain ⟨p, xs, rfl, hx, hd⟩ := ltd_ex e3 hd
    obtain ⟨p2, ys, rfl, hy, hd2⟩ := r2
    have l1 := dpa_len hd
    have l2 := dpa_len hd2
    exact ⟨p, p2, xs, ys, rfl, rfl, hx, hy, Nat.le_trans (by omega) (show 1000000 ≤ sizeLine by decide), fun q1 hq1 => q _ _ ((e2.trans e3).trans (Ex.new hq1))
      ⟨ds ++ es, ⟨q1, xs ++ ys, rfl, upd_same, dpa_app (dpa_ex (Ex.new hq1) _ _ hd) (dpa_ex (Ex.new hq1) _ _ hd2)⟩, by rw [List.length_append]; omega, fun d hd => (List.mem_append.mp hd).elim (hdo d) (hes d)⟩⟩
def cutD (ds : List PyData) : List PyData := (ds.drop (HT.sIx ds.length 0 none)).take (HT.sIx ds.length ds.length (some 6) - HT.sIx ds.length 0 none)
theorem cutD_len (ds : List PyData) : (cutD ds).length ≤ 6 := by
  unfold cutD
  rw [List.length_take]
  refine Nat.le_trans (Nat.min_le_left _ _) ?_
  unfold HT.sIx
  simp
  omega
theorem cutD_mem {ds : List PyData} {d : PyData} (h : d ∈ cutD ds) : d ∈ ds := List.mem_of_mem_drop (List.mem_of_mem_take h)
theorem dpa_drop {H : Hp} : ∀ (i : Nat) {xs : List V} {ds : List PyData}, DpAll K H xs ds → DpAll K H (xs.drop i) (ds.drop i)
  | 0, _, _, h => h
  | i + 1, _, _, .nil => .nil
  | i + 1, _, _, .cons _ h => dpa_drop i h
theorem dpa_take {H : Hp} : ∀ (i : Nat) {xs : List V} {ds : List PyData}, DpAll K H xs ds → DpAll K H (xs.take i) (ds.take i)
  | 0, _, _, _ => by rw [List.take_zero, List.take_zero]; exact .nil
  | i + 1, _, _, .nil => .nil
  | i + 1, _, _, .cons a h => .cons a (dpa_take i h)
theorem er_cut {ds : List PyData} (h : Er te σ H (fun v H' => Dp K H' v (.list ds))) : Er (tSl (rSlL K) te tNoPart (tPart (tC (.int 6)))) σ H (fun v H' => Dp K H' v (.list (cutD ds))) := fun H1 e Q q =>
  h H1 e _ fun v H2 e2 r => by
    obtain ⟨a, xs, rfl, hx, hd⟩ := dp_lst r
    refine ⟨6, rfl, a, xs, rfl, hx, fun p hp => q _ _ (e2.trans (Ex.new hp)) (.lst (SqL.of upd_same) (dpa_ex (Ex.new hp) _ _ ?_))⟩
    unfold cutV cutD
    rw [dpa_len hd]
    exact dpa_take _ (dpa_drop _ hd)
theorem er_dix {ds : List PyData} {d : PyData} {i : Nat} {v : V} (ha : Ev ta σ H v) (hb : Ev tb σ H (.int (i : Int))) (h : Dp K H v (.tuple ds)) (hi : ds[i]? = some d) : Er (tOp (rIxT K) ta tb) σ H (fun v H' => Dp K H' v d) := by
  obtain ⟨p, xs, rfl, hx, hd⟩ := dp_tup h
  have hlt : i < xs.length := by rw [dpa_len hd]; exact (List.getElem?_eq_some_iff.mp hi).1
  have hxi := List.getElem?_eq_getElem hlt
  obtain ⟨d', h1, h2⟩ := dpa_get hd hxi
  rw [hi] at h1
  obtain rfl := Option.some.inj h1
  exact fun H1 e Q q => ev_ixt ha hb hx hxi H1 e Q fun H2 e2 => q _ H2 e2 (dp_ex (e.trans e2) _ _ h2)
theorem er_listof {ds : List PyData} (h : Er te σ H (fun v H' => Dp K H' v (.tuple ds))) : Er (tCB (fun xs H Q => ∃ p ys, xs = [.ref p] ∧ (SqL K H p ys ∨ SqT K H p ys) ∧ ∀ l, H l = none → Q (.ref l) (upd H l (.lst ys))) (tCons te tNil)) σ H (fun v H' => Dp K H' v (.list ds)) := fun H1 e Q q =>
  h H1 e _ fun v H2 e2 r => by
    obtain ⟨a, xs, rfl, hx, hd⟩ := dp_tup r
    exact ⟨a, xs, rfl, .inr hx, fun l hl => q _ _ (e2.trans (Ex.new hl)) (.lst (SqL.of upd_same) (dpa_ex (Ex.new hl) _ _ hd))⟩
theorem er_catT {ds es : List PyData} (h1 : Er ta σ H (fun v H' => Dp K H' v (.tuple ds))) (h2 : Er tb σ H (fun v H' => Dp K H' v (.tuple es))) (hd0 : ds ≠ []) (he0 : es ≠ []) (hz : ds.length + es.length ≤ 1000) : Er (tOp (rCatT K) ta tb) σ H (fun v H' => Dp K H' v (.tuple (ds ++ es))) := fun H1 e Q q =>
  h1 H1 e _ fun v H2 e2 r1 => h2 H2 (e.trans e2) _ fun u H3 e3 r2 => by
    obtain ⟨a, xs, rfl, hx, hd⟩ := dp_tup (dp_ex e3 _ _ r1)
    obtain ⟨b, ys, rfl, hy, hd2⟩ := dp_tup r2
    have l1 := dpa_len hd
    have l2 := dpa_len hd2
    refine ⟨a, b, xs, ys, rfl, rfl, hx, hy, fun z => ?_, Nat.le_trans (by omega) (show 1000 ≤ sizeLine by decide), fun z => ?_, fun _ p hp => q _ _ ((e2.trans e3).trans (Ex.new hp)) (.tup (SqT.of upd_same) (dpa_ex (Ex.new hp) _ _ (dpa_app hd hd2)))⟩
    · rw [z] at l1
      exact hd0 (List.length_eq_zero_iff.mp l1.symm)
    · rw [z] at l2
      exact absurd (List.length_eq_zero_iff.mp l2.symm) he0
end
abbrev s75 : Stmt := topS 75
theorem sc75 : FnScope ["_law_kettle_here", "_law_row_here", "_law_told", "_law_prime", "_law_place", "_law_found", "_law_shifted", "_law_other", "_law_one"] ["_law_kettle_here", "_law_row_here", "_law_told"] (defScope s75) := ⟨rfl, rfl, rfl, by decide +kernel, rfl, by decide +kernel, by decide +kernel⟩
def spNear (K : PySem.W.Frag) : Sp := fun vs H Q _ => ∃ (kl : Addr) (N : Nat) (r tv : V) (a b c d : Int) (D : PyData), vs = [.ref kl, r, tv] ∧ Ket N kl H ∧ N + 2 ≤ 1000 ∧ Rw K H r [a, b, c, d] ∧ RowZ 400 a b c d ∧ disc a b c d ≠ 0 ∧ (disc a b c d).natAbs ≤ 100000000 ∧ Dp K H tv D ∧ Told D ∧
  ∀ v H', ExK kl H H' → Ket (N + 2) kl H' → LV K 1000000 H' v → Q v H'
def places8 : List PyData := [(0, 1), (1, 0), (1, 1), (2, 1), (1, 2), (0, 0), (-1, 1), (5, 1)].map pairD
theorem fk75 (R : Raw K mg "_law_near" s75) (T : Bt K mg aE cF cK) (F_law_taken : Fk P w K mg base "_law_taken" 2 ["_law_kettle_here", "_law_items"] (spTaken K)) (F_law_primes_of : Fk P w K mg base "_law_primes_of" 1 ["_law_number"] (spPrimesOf K)) (F_law_discriminant : Fk P w K mg base "_law_discriminant" 1 ["_law_row_here"] (spDisc K)) (F_law_places : Fk P w K mg base "_law_places" 1 ["_law_prime"] (spPlaces K)) : Fk P w K mg base "_law_near" 3 ["_law_kettle_here", "_law_row_here", "_law_told"] (spNear K) := by
  refine R.fk sc75 (fun _ _ _ _ _ _ us hl => match us, hl with | [_, _, _], _ => rfl) (fun vs H Q E h => ?_) (fun f cdv A outer s H vs Q E hr h => ?_)
  · obtain ⟨kl, N, r, tv, a, b, c, d, D, rfl, _⟩ := h; rfl
  · obtain ⟨kl, N, r, tv, a, b, c, d, D, rfl, hk, hN, hrow, hz, hd0, hdn, htv, hT, k⟩ := h
    refine ⟨_, (pss_cons (ps_set (i := 3) sc75.nd rfl (Or.inl rfl) (pf F_law_taken (hr.mono (by decide)) rfl (pa_cons (pv 0) (pa_cons (pe_lst (pa_cons pe_int (pa_cons pe_int (pa_cons pe_int (pa_cons pe_int (pa_cons pe_int (pa_cons pe_int (pa_cons (pe_un un_neg pe_int) (pa_cons pe_int pa_nil))))))))) pa_nil))))
      (pss_cons (ps_set (i := 4) sc75.nd rfl (Or.inl rfl) (pf F_law_taken (hr.mono (by decide)) rfl (pa_cons (pv 0) (pa_cons (pe_lst (pa_cons (pe_tup (pa_cons pe_int (pa_cons pe_int pa_nil))) (pa_cons (pe_tup (pa_cons pe_int (pa_cons pe_int pa_nil))) (pa_cons (pe_tup (pa_cons pe_int (pa_cons pe_int pa_nil))) (pa_cons (pe_tup (pa_cons pe_int (pa_cons pe_int pa_nil))) (pa_cons (pe_tup (pa_cons pe_int (pa_cons pe_int pa_nil))) (pa_cons (pe_tup (pa_cons pe_int (pa_cons pe_int pa_nil))) (pa_cons (pe_tup (pa_cons (pe_un un_neg pe_int) (pa_cons pe_int pa_nil))) (pa_cons (pe_tup (pa_cons pe_int (pa_cons pe_int pa_nil))) pa_nil))))))))) pa_nil))))
      (pss_cons (ps_set (i := 5) sc75.nd rfl (Or.inl rfl) (pe_lst (pa_cons (pv 2) (pa_cons (pe_tup (pa_cons pe_str (pa_cons (pv 3) pa_nil))) (pa_cons (pe_tup (pa_cons pe_str (pa_cons (pv 3) (pa_cons (pv 4) pa_nil)))) (pa_cons (pe_tup (pa_cons pe_str (pa_cons (pv 3) (pa_cons (pv 4) pa_nil)))) (pa_cons (pe_tup (pa_cons pe_str (pa_cons (pv 3) pa_nil))) (pa_cons (pe_tup pa_nil) (pa_cons pe_non (pa_cons pe_str (pa_cons pe_int pa_nil)))))))))))
      (pss_cons (ps_set (i := 5) sc75.nd rfl (Or.inl rfl) (pe_op op_cat (pv 5) (pe_lst (pa_cons (pe_tup (pa_cons pe_str (pa_cons pe_bl pa_nil))) (pa_cons (pe_tup (pa_cons pe_str (pa_cons pe_int (pa_cons (pe_lst (pa_cons pe_int (pa_cons pe_int pa_nil))) pa_nil)))) (pa_cons (pe_tup (pa_cons pe_str (pa_cons pe_int (pa_cons (pe_tup (pa_cons pe_int (pa_cons pe_bl pa_nil))) pa_nil)))) (pa_cons (pe_lst (pa_cons pe_str (pa_cons pe_int pa_nil))) (pa_cons (pe_tup (pa_cons pe_str (pa_cons pe_int (pa_cons pe_int pa_nil)))) (pa_cons (pe_tup (pa_cons pe_int (pa_cons pe_str pa_nil))) pa_nil)))))))))
      (pss_cons (ps_if (PW.pt (pw_and (pt_cmpR op_notN (pv 2) pe_non (nomark _)) (pw_and1 (pt_cmpR op_eq (pe_callB call_len_seq (by rfl) T.len (by decide +kernel) (pa_cons (pv 2) pa_nil)) pe_int (nomark _))))) (pss_cons (ps_set (i := 6) sc75.nd rfl (Or.inl rfl) (pe_tup (pa_cons (pe_op op_add (pe_ix (r := rIxT K) ix_tup (pe_ix (r := rIxT K) ix_tup (pv 2) pe_int (fun _ _ => rfl)) pe_int (fun _ _ => rfl)) (pe_ix (r := rIxT K) ix_tup (pv 2) pe_int (fun _ _ => rfl))) (pa_cons (pe_ix (r := rIxT K) ix_tup (pe_ix (r := rIxT K) ix_tup (pv 2) pe_int (fun _ _ => rfl)) pe_int (fun _ _ => rfl)) pa_nil))))
      (pss_one (ps_set (i := 5) sc75.nd rfl (Or.inl rfl) (pe_op op_cat (pv 5) (pe_lst (pa_cons (pe_tup (pa_cons pe_str (pa_cons (pe_ix (r := rIxT K) ix_tup (pv 2) pe_int (fun _ _ => rfl)) (pa_cons (pv 6) pa_nil)))) (pa_cons (pe_tup (pa_cons pe_str (pa_cons (pe_ix (r := rIxT K) ix_tup (pv 2) pe_int (fun _ _ => rfl)) pa_nil))) (pa_cons (pe_tup (pa_cons pe_str (pa_cons (pe_op op_mulW (pe_ix (r := rIxT K) ix_tup (pv 2) pe_int (fun _ _ => rfl)) pe_int) (pa_cons (pe_ix (r := rIxT K) ix_tup (pv 2) pe_int (fun _ _ => rfl)) pa_nil)))) (pa_cons (pe_callTy call_list_of (by rfl) T.list (by decide +kernel) (pa_cons (pv 2) pa_nil)) (pa_cons (pe_op op_catT (pv 2) (pe_tup (pa_cons pe_int pa_nil))) pa_nil)))))))))) pss_nil)
      (pss_cons (ps_for PassesOwn.never rfl (pi_list (pf F_law_primes_of (hr.mono (by decide)) rfl (pa_cons (pf F_law_discriminant (hr.mono (by decide)) rfl (pa_cons (pv 1) pa_nil)) pa_nil))) (pg_name (i := 7) sc75.nd rfl (Or.inr rfl)) (pss_one (ps_set (i := 5) sc75.nd rfl (Or.inl rfl) (pe_op op_cat (pe_op op_cat (pv 5) (pe_lst (pa_cons (pe_tup (pa_cons pe_str (pa_cons (pv 7) pa_nil))) pa_nil))) (pe_lc (own := [(("_law_one" : Str), 8)]) (g := gName 8) rfl sc75.nd (pi_list (pe_slice sl_list (pf F_law_places (hr.mono (by decide)) rfl (pa_cons (pv 7) pa_nil)) po_none (po_some pe_int))) (blkOk_by (own := [(("_law_one" : Str), 8)]) (N := ["_law_kettle_here", "_law_row_here", "_law_told", "_law_prime", "_law_place", "_law_found", "_law_shifted", "_law_other", "_law_one"]) (sc := defScope s75) (by decide +kernel)) (fun _ _ _ _ _ => pg_name (i := 8) sc75.nd rfl (Or.inl rfl)) (fun _ _ _ _ _ => pts_nil) (fun _ _ _ _ _ => (pe_tup (pa_cons pe_str (pa_cons (pv 7) (pa_cons (pv 8) pa_nil))))))))))
      (pss_one (ps_ret (pv 5))))))))), ?_⟩
    refine at_st (σ2 := [some _, some _, some _, none, none, none, none, none, none]) rfl ?_
    refine q_asgK (N := N) (M := N + 1) (kl := kl) (R := fun v _ => ∃ i : Int, v = .int i ∧ i.natAbs ≤ 7) hk ((k_takenV (K := K) (xs := [.int 2, .int 3, .int 5, .int 4, .int 1, .int 0, .int (-2), .int 7]) rfl (fun H1 e1 k1 => el_lst (ea_cons ev_c (ea_cons ev_c (ea_cons ev_c (ea_cons ev_c (ea_cons ev_c (ea_cons ev_c (ea_cons (ev_un ev_c ru_neg) (ea_cons ev_c ea_nil)))))))) (by simp)) (by omega) (by simp) (by simp)).imp fun v _ hv => ?_) fun pv H1 e1 k1 ⟨i, hpv, hi⟩ => ?_
    · simp only [List.mem_cons, List.not_mem_nil, or_false] at hv
      rcases hv with rfl | rfl | rfl | rfl | rfl | rfl | rfl | rfl <;> exact ⟨_, rfl, by decide⟩
    subst hpv
    walk_at "zn"
    refine q_asgK (N := N + 1) (M := N + 2) (kl := kl) (R := fun v H' => ∃ x y : Int, Dp K H' v (.tuple [.int x, .int y]) ∧ x.natAbs ≤ 5 ∧ y.natAbs ≤ 5) k1 ((k_takenD (K := K) (ds := places8) rfl (fun H2 e2 k2 => er_lstL (EaD.ea (.cons (er_dtup (.cons (er_dint ev_c) (.cons (er_dint ev_c) .nil)) (by simp)) (.cons (er_dtup (.cons (er_dint ev_c) (.cons (er_dint ev_c) .nil)) (by simp)) (.cons (er_dtup (.cons (er_dint ev_c) (.cons (er_dint ev_c) .nil)) (by simp)) (.cons (er_dtup (.cons (er_dint ev_c) (.cons (er_dint ev_c) .nil)) (by simp))
      (.cons (er_dtup (.cons (er_dint ev_c) (.cons (er_dint ev_c) .nil)) (by simp)) (.cons (er_dtup (.cons (er_dint ev_c) (.cons (er_dint ev_c) .nil)) (by simp)) (.cons (er_dtup (.cons (er_dint (ev_un ev_c ru_neg)) (.cons (er_dint ev_c) .nil)) (by simp)) (.cons (er_dtup (.cons (er_dint ev_c) (.cons (er_dint ev_c) .nil)) (by simp)) .nil))))))))) (by decide)) (fun D hD => ?_) (fun _ _ _ z => by simp [places8] at z) (by omega) (by decide) (by decide)).imp fun v H' ⟨D, hD, hv⟩ => ?_) fun lv H2 e2 k2 ⟨x, y, hxy, hx5, hy5⟩ => ?_
    · obtain ⟨u, _, rfl⟩ := List.mem_map.mp hD
      rfl
    · obtain ⟨u, hu, rfl⟩ := List.mem_map.mp hD
      refine ⟨u.1, u.2, hv, ?_, ?_⟩
      · simp only [List.mem_cons, List.not_mem_nil, or_false] at hu
        rcases hu with rfl | rfl | rfl | rfl | rfl | rfl | rfl | rfl <;> decide
      · simp only [List.mem_cons, List.not_mem_nil, or_false] at hu
        rcases hu with rfl | rfl | rfl | rfl | rfl | rfl | rfl | rfl <;> decide
    walk_at "zn"
    have eK := e1.trans e2
    have hrow2 := rw_exk hk eK hrow
    have htv2 : Dp K H2 tv D := dp_exl (exk_L hk eK) _ _ hT.noL htv
    have hpl : OkPl (.tuple [.int x, .int y]) := .pair x y (Nat.lt_of_le_of_lt hx5 (by decide)) (Nat.lt_of_le_of_lt hy5 (by decide))
    have hi1 : i ≤ 10000 ∨ i % 2 = 0 := .inl (by omega)
    have hi2 : i.natAbs < 2 ^ 199 := z199 (by omega)
    refine q_asgR (R := fun v H' => LV K 9 H' v) ((er_lstL (K := K) (EaD.ea (.cons (er_dvar rfl htv2) (.cons (er_dtup (.cons (er_dstr ev_c) (.cons (er_dint (ev_var rfl)) .nil)) (by simp)) (.cons (er_dtup (.cons (er_dstr ev_c) (.cons (er_dint (ev_var rfl)) (.cons (er_dvar rfl hxy) .nil))) (by simp)) (.cons (er_dtup (.cons (er_dstr ev_c) (.cons (er_dint (ev_var rfl)) (.cons (er_dvar rfl hxy) .nil))) (by simp))
      (.cons (er_dtup (.cons (er_dstr ev_c) (.cons (er_dint (ev_var rfl)) .nil)) (by simp)) (.cons (er_dtup .nil (by simp)) (.cons (er_dnon ev_c) (.cons (er_dstr ev_c) (.cons (er_dint ev_c) .nil)))))))))) (by simp)).imp fun v H' hv => ⟨_, hv, by simp, fun d hd => ?_⟩) fun f1 H3 e3 hf1 => ?_
    · simp only [List.mem_cons, List.not_mem_nil, or_false] at hd
      rcases hd with rfl | rfl | rfl | rfl | rfl | rfl | rfl | rfl | rfl
      · exact hT.okV
      · exact .c2 _ _ hi1 hi2
      · exact .c3 _ _ _ hi1 hi2 hpl
      · exact .c3 _ _ _ hi1 hi2 hpl
      · exact .c2 _ _ hi1 hi2
      · exact .t0
      · exact .non
      · exact .str _
      · exact .int _
    walk_at "zn"
    refine q_asgR (R := fun v H' => LV K (9 + 6) H' v) (er_LV (er_var rfl fun H4 e4 => hf1.ex e4) (er_lstL (K := K) (EaD.ea (.cons (er_dtup (.cons (er_dstr ev_c) (.cons (er_dbl ev_c) .nil)) (by simp)) (.cons (er_dtup (.cons (er_dstr ev_c) (.cons (er_dint ev_c) (.cons (er_dlst (.cons (er_dint ev_c) (.cons (er_dint ev_c) .nil)) (by simp)) .nil))) (by simp)) (.cons (er_dtup (.cons (er_dstr ev_c) (.cons (er_dint ev_c) (.cons (er_dtup (.cons (er_dint ev_c) (.cons (er_dbl ev_c) .nil)) (by simp)) .nil))) (by simp))
      (.cons (er_dlst (.cons (er_dstr ev_c) (.cons (er_dint ev_c) .nil)) (by simp)) (.cons (er_dtup (.cons (er_dstr ev_c) (.cons (er_dint ev_c) (.cons (er_dint ev_c) .nil))) (by simp)) (.cons (er_dtup (.cons (er_dint ev_c) (.cons (er_dstr ev_c) .nil)) (by simp)) .nil))))))) (by simp)) (fun d hd => ?_) (by simp) (by decide)) fun f2 H4 e4 hf2 => ?_
    · simp only [List.mem_cons, List.not_mem_nil, or_false] at hd
      rcases hd with rfl | rfl | rfl | rfl | rfl | rfl
      · exact .b2 _ _
      · exact .c3 _ _ _ (.inl (by decide)) (by decide) (.lst _)
      · exact .c3 _ _ _ (.inl (by decide)) (by decide) (.pb _ _ (by decide))
      · exact .lst _
      · exact .c3 _ _ _ (.inl (by decide)) (by decide) (.int _)
      · exact .s2 _ _
    walk_at "zn"
    have e34 := e3.trans e4
    have htv4 := dp_ex e34 _ _ htv2
    have hrow4 := rw_ex e34 hrow2
    have k4 := k2.ex e34
    have eK4 : ExK kl H H4 := eK.trans (toK e34)
    clear hf1 e1 e2 e3 e4 htv htv2 hrow hrow2 k1 k2 e34
    -- behind the if
    suffices rest : ∀ (f3 : V) (o6 : Option V) (H5 : Hp), Ex H4 H5 → LV K 20 H5 f3 → tSeq (tFor (iList K (tCall (spPrimesOf K) [] E0 (tCons (tCall (spDisc K) [] E0 (tCons (tVar 1) tNil)) tNil))) (gName 7)
        (tAsg (tOp rCat (tOp rCat (tVar 5) (tLst (tCons (tTup (tCons (tC (.str "content")) (tCons (tVar 7) tNil))) tNil))) (tLc (iList K (tSl (rSlL K) (tCall (spPlaces K) [] E0 (tCons (tVar 7) tNil)) tNoPart (tPart (tC (.int 6))))) (gName 8) tYes (tTup (tCons (tC (.str "place")) (tCons (tVar 7) (tCons (tVar 8) tNil)))) [8])) (gName 5))) (tRet (tVar 5))
        { nx := fun _ H' => Q .non H', rt := Q } [some (.ref kl), some r, some tv, some (.int i), some lv, some f3, o6, none, none] H5 by
      cases hT with
      | non =>
        obtain rfl := dp_non htv4
        refine q_when (b := false) (et_and (a := false) (b := true) (et_is (et_test (ev_op (ev_var rfl) ev_c rv_notN)) rfl) fun z => by cases z) (fun z => by cases z) (fun _ H5 e5 => ?_)
        exact rest f2 none H5 e5 ((hf2.ex e5).up (by decide))
      | con p h2 hp =>
        obtain ⟨t, x0, x1, rfl, ht, g0, g1⟩ := dp_two htv4
        refine q_when (b := false) (et_is (et_and (a := true) (b := decide ((2 : Int) = 3)) (et_is (et_test (ev_op (ev_var rfl) ev_c rv_notN)) (by rw [dec_non htv4]; rfl)) fun _ => et_test (ev_op (ev_len (ea_cons (ev_var rfl) ea_nil) (.inr ht)) ev_c rv_eqI)) (by decide)) (fun z => by cases z) (fun _ H5 e5 => ?_)
        exact rest f2 none H5 e5 ((hf2.ex e5).up (by decide))
      | pla p u h2 hp hu =>
        obtain ⟨t, x0, x1, x2, rfl, ht, g0, g1, g2⟩ := dp_three htv4
        obtain rfl := dp_int g1
        obtain ⟨w, rfl, hw⟩ := rw_at (ns := [u.1, u.2]) g2
        obtain ⟨hu1, hu2, _⟩ := place_small (by omega) hp hu
        refine q_if (b := true) (et_is (et_and (a := true) (b := decide ((3 : Int) = 3)) (et_is (et_test (ev_op (ev_var rfl) ev_c rv_notN)) (by rw [dec_non htv4]; rfl)) fun _ => et_test (ev_op (ev_len (ea_cons (ev_var rfl) ea_nil) (.inr ht)) ev_c rv_eqI)) (by decide)) (fun _ H5 e5 => ?_) (fun z => by cases z)
        have ht5 := ex_t e5 ht
        have hw5 := ex_t e5 hw
        have e02 : ∀ H6, Ex H5 H6 → Ev (tOp (rIxT K) (tVar 2) (tC (.int 2))) [some (.ref kl), some r, some (.ref t), some (.int i), some lv, some f2, none, none, none] H6 (.ref w) := fun H6 e6 => ev_ixt (i := 2) (ev_var rfl) ev_c (ex_t e6 ht5) rfl
        refine q_asgR (R := fun v H' => Dp K H' v (.tuple [.int (u.1 + p), .int u.2])) (er_dtup (.cons (er_dint (ev_op (ev_ixt (i := 0) (e02 H5 (Ex.refl H5)) ev_c hw5 rfl) (ev_ixt (i := 1) (ev_var rfl) ev_c ht5 rfl) rv_I0)) (.cons (er_dint (ev_ixt (i := 1) (e02 H5 (Ex.refl H5)) ev_c hw5 rfl)) .nil)) (by simp)) fun sv H6 e6 hsv => ?_
        walk_at "zn"
        have ht6 := ex_t e6 ht5
        have hw6 := ex_t e6 hw5
        have htv6 := dp_ex (e5.trans e6) _ _ htv4
        have hp1 : ((p : Int)) ≤ 10000 ∨ ((p : Int)) % 2 = 0 := .inl (by omega)
        have hpz : ((p : Int)).natAbs < 2 ^ 199 := z199 (by omega)
        have hsm : ((u.1 + p : Int)).natAbs < 2 ^ 100 := by
          obtain h | ⟨h1, h3, h4⟩ := plc_mem (show 1 ≤ p by omega) hu
          · rw [h]
            have : (20000 : Nat) < 2 ^ 100 := by decide
            show (1 + (p : Int)).natAbs < _
            omega
          · have : (20001 : Nat) < 2 ^ 100 := by decide
            omega
        refine s_asgR (R := fun v H' => LV K (9 + 6 + 5) H' v) (er_LV (er_var rfl fun H7 e7 => hf2.ex ((e5.trans e6).trans e7)) (er_lstL (K := K) (EaD.ea (.cons (er_dtup (.cons (er_dstr ev_c) (.cons (er_dint (ev_ixt (i := 1) (ev_var rfl) ev_c ht6 rfl)) (.cons (er_dvar rfl hsv) .nil))) (by simp)) (.cons (er_dtup (.cons (er_dstr ev_c) (.cons (er_dint (ev_ixt (i := 1) (ev_var rfl) ev_c ht6 rfl)) .nil)) (by simp))
          (.cons (er_dtup (.cons (er_dstr ev_c) (.cons (er_dint (evi_mul (evi_ev (n := 200) (ev_ixt (i := 1) (ev_var rfl) ev_c ht6 rfl) (Nat.lt_trans hpz (Nat.pow_lt_pow_right (by decide) (by decide)))) evi_c).ev) (.cons (er_dix (i := 2) (ev_var rfl) ev_c htv6 rfl) .nil))) (by simp)) (.cons (er_listof (er_dvar rfl htv6)) (.cons (er_catT (er_dvar rfl htv6) (er_dtup (.cons (er_dint ev_c) .nil) (by simp)) (by simp) (by simp) (by simp)) .nil)))))) (by simp)) (fun d hd => ?_) (by simp) (by decide)) fun f3 H7 e7 hf3 => ?_
        · simp only [List.mem_cons, List.not_mem_nil, or_false] at hd
          rcases hd with rfl | rfl | rfl | rfl | rfl
          · exact .c3 _ _ _ hp1 hpz (.pair _ _ hsm hu2)
          · exact .c2 _ _ hp1 hpz
          · exact .c3 _ _ _ (.inr (by omega)) (z199 (by omega)) (.pair _ _ hu1 hu2)
          · exact .lst _
          · exact .t4 _ _ _ _
        · exact rest f3 (some sv) H7 ((e5.trans e6).trans e7) hf3
    intro f3 o6 H5 e5 hf3
    have hrow5 := rw_ex e5 hrow4
    have hlen := dpl_len2 _ (disc a b c d).natAbs 2 rfl hdn
    have hmem := fun q (h : q ∈ dp (disc a b c d).natAbs) => dp_mem h hdn
    refine q_forW (n := ((dp (disc a b c d).natAbs).map qD).length) (Y := fun i x H' => ∃ d', ((dp (disc a b c d).natAbs).map qD)[i]? = some d' ∧ Dp K H' x d') (ei_dlist (er_callV (ea_cons (ev_call' (ea_cons (ev_var rfl) ea_nil) fun H6 e6 Q' q' => ⟨_, a, b, c, d, rfl, rw_ex e6 hrow5, hz, q'⟩) ea_nil) fun H6 e6 Q' q' => ⟨_, rfl, hd0, hdn, q'⟩))
      (fun m σ' H' => ∃ f o7 o8, σ' = [some (.ref kl), some r, some tv, some (.int i), some lv, some f, o6, o7, o8] ∧ LV K (20 + 7 * m) H' f) (fun H6 e6 => ⟨f3, none, none, rfl, hf3.ex e6⟩) (fun H6 e6 m x σ' H' hm ex ⟨f, o7, o8, hs, hf⟩ hx => ?_) (fun H6 e6 σ' H' ex ⟨f, o7, o8, hs, hf⟩ => ?_)
    · subst hs
      obtain ⟨d', h1, h2⟩ := hx
      rw [List.getElem?_map] at h1
      obtain ⟨q, hq, rfl⟩ := Option.map_eq_some_iff.mp h1
      obtain rfl := dp_int h2
      obtain ⟨hq2, hqn⟩ := hmem q (List.mem_of_getElem? hq)
      walk_at "zn"
      have hm1 : m < 9999 := Nat.lt_of_lt_of_le hm (by rw [List.length_map]; exact hlen)
      have hq1 : ((q : Int)) ≤ 10000 ∨ ((q : Int)) % 2 = 0 := .inl (by omega)
      have hqz : ((q : Int)).natAbs < 2 ^ 199 := z199 (by omega)
      refine s_asgR (R := fun v H' => LV K (20 + 7 * m + 1 + 6) H' v) (er_LV (er_LV (er_var rfl fun H7 e7 => hf.ex e7) (er_lstL (K := K) (EaD.ea (.cons (er_dtup (.cons (er_dstr ev_c) (.cons (er_dint (ev_var rfl)) .nil)) (by simp)) .nil)) (by simp)) (fun d hd => ?_) (by simp) (by omega))
        (er_lcL0 (K := K) (n := (cutD ((plc q).map pairD)).length) (Y := fun i x H' => ∃ d', (cutD ((plc q).map pairD))[i]? = some d' ∧ Dp K H' x d') (fun i => .tuple [.str "place", .int q, ((cutD ((plc q).map pairD)).getD i .none)]) (ei_dlist (er_cut (er_dp (er_callV (ea_cons (ev_var rfl) ea_nil) fun H7 e7 Q' q' => ⟨q, rfl, by omega, hqn, q'⟩)))) (Nat.le_trans (cutD_len _) (by decide)) (fun _ => rfl) (fun j => ?_) (fun j x H7 hj e7 y => ?_) (fun j x H7 H8 e7 ⟨d', h1, h2⟩ => ⟨d', h1, dp_ex e7 _ _ h2⟩)) (fun d hd => ?_) (by rw [List.length_map, List.length_range]; exact cutD_len _) (by omega)) fun f4 H7 e7 hf4 => ?_
      · rw [List.mem_singleton.mp hd]
        exact .c2 _ _ hq1 hqz
      · show (true && (true && (noL _ && true))) = true
        have : noL ((cutD ((plc q).map pairD)).getD j .none) = true := by
          rw [List.getD_eq_getElem?_getD]
          cases hc : (cutD ((plc q).map pairD))[j]? with
          | none => rfl
          | some d' =>
            obtain ⟨u, _, rfl⟩ := List.mem_map.mp (cutD_mem (List.mem_of_getElem? hc))
            rfl
        rw [this]; rfl
      · obtain ⟨d', h1, h2⟩ := y
        have eg : (cutD ((plc q).map pairD)).getD j .none = d' := by rw [List.getD_eq_getElem?_getD, h1]; rfl
        rw [eg]
        exact er_dtup (.cons (er_dstr ev_c) (.cons (er_dint (ev_var rfl)) (.cons (er_dvar rfl h2) .nil))) (by simp)
      · obtain ⟨j, hj, rfl⟩ := List.mem_map.mp hd
        have hj := List.mem_range.mp hj
        have hc := List.getElem?_eq_getElem hj
        have eg : (cutD ((plc q).map pairD)).getD j .none = (cutD ((plc q).map pairD))[j] := by rw [List.getD_eq_getElem?_getD, hc]; rfl
        rw [eg]
        obtain ⟨u, hu, eu⟩ := List.mem_map.mp (cutD_mem (List.getElem_mem hj))
        rw [← eu]
        obtain ⟨hu1, hu2, _⟩ := place_small (by omega) hqn hu
        exact .c3 _ _ _ hq1 hqz (.pair _ _ hu1 hu2)
      · walk_at "zn"
        exact ⟨ex.trans e7, f4, _, _, rfl, hf4.up (by omega)⟩
    · subst hs
      have hm1 : ((dp (disc a b c d).natAbs).map qD).length ≤ 9999 := by rw [List.length_map]; exact hlen
      exact s_ret (ev_var rfl) fun H7 e7 => k f H7 (eK4.trans (toK (((e5.trans e6).trans ex).trans e7))) (k4.ex (((e5.trans e6).trans ex).trans e7)) ((hf.ex e7).up (by omega))
end
end Z
namespace Z
open PySem PySem.Spec PyProof.Rows L2 Evl Zm SlX
local macro_rules | `(tactic| walk_at "zi") => `(tactic| (repeat' first | exact evi_c | exact evi_var rfl (by with_reducible assumption) | apply evi_add | apply evi_sub | apply evi_mul); all_goals (show _ ≤ 1000000; decide))
local macro_rules | `(tactic| walk_at "zn") => `(tactic| dsimp only [List.set_cons_zero, List.set_cons_succ])
section
variable {P : Program} {w : World} {K : PySem.W.Frag} {mg : Str → Option Value} {base : Heap}
variable {aE cF cK pS pD gD fI P1 P2 : Addr}
open GxR
/-! Zv: right, law -/
/-- all but the kettle and the tables stay -/
structure ExR (kl P1 P2 : Addr) (H H' : Hp) : Prop where
  k : ∀ a o, a ≠ kl → H a = some o → (∀ q, o ≠ .tbl q) → H' a = some o
  t1 : TabG H P1 → TabG H' P1
  t2 : TabG H P2 → TabG H' P2
section
variable {kl : Addr} {H H' H1 H2 : Hp} {N M : Nat}
theorem ExR.trans (a : ExR kl P1 P2 H H1) (b : ExR kl P1 P2 H1 H2) : ExR kl P1 P2 H H2 := ⟨fun x o n h q => b.k x o n (a.k x o n h q) q, fun h => b.t1 (a.t1 h), fun h => b.t2 (a.t2 h)⟩
theorem nR (e : ExN P1 P2 H H') : ExR kl P1 P2 H H' := ⟨fun a o _ h q => e.k a o h q, e.t1, e.t2⟩
theorem kR (k : Ket N kl H) (e : ExK kl H H') : ExR kl P1 P2 H H' := ⟨fun a o n h _ => e a o n h, tab_exk k e, tab_exk k e⟩
theorem Ket.exn (k : Ket N kl H) (e : ExN P1 P2 H H') : Ket N kl H' := by
  obtain ⟨k0, k1, k2, h1, h2⟩ := k
  exact ⟨k0, k1, k2, e.k _ _ h1 (fun q z => by cases z), h2⟩
theorem fm_exk {z : V} {a b c d : Int} (k : Ket N kl H) (e : ExK kl H H') (h : Fm K cF H z a b c d) : Fm K cF H' z a b c d := by
  obtain ⟨x, dx, v, h1, h2, h3⟩ := h
  obtain ⟨k0, k1, k2, hk, _⟩ := id k
  refine ⟨x, dx, v, h1, ?_, rw_exk k e h3⟩
  rcases h2 with ⟨a1, a2⟩ | ⟨a1, a2⟩
  · cases a2
  · exact .inr ⟨e _ _ (fun z => by rw [z, hk] at a1; cases a1) a1, e _ _ (fun z => by rw [z, hk] at a2; cases a2) a2⟩
theorem sqL_exR {a : Addr} {xs : List V} (e : ExR kl P1 P2 H H') (hn : a ≠ kl ∨ H a = none) (h : SqL K H a xs) : SqL K H' a xs := by
  rcases h with (h | ⟨o, h⟩) | h
  · rcases hn with hn | hn
    · exact Or.inl (Or.inl (e.k a _ hn h (fun _ z => by cases z)))
    · rw [hn] at h; cases h
  · rcases hn with hn | hn
    · exact Or.inl (Or.inr ⟨o, e.k a _ hn h (fun _ z => by cases z)⟩)
    · rw [hn] at h; cases h
  · exact Or.inr h
end
theorem sqL_kl {a kl : Addr} {H1 H' : Hp} {xs : List V} (h : SqL K H1 a xs) (hn : H1 kl = none) (e : ∀ b o, b ≠ kl → H1 b = some o → (∀ q, o ≠ .tbl q) → H' b = some o) : SqL K H' a xs := by
  rcases h with (h | ⟨o, h⟩) | h
  · exact Or.inl (Or.inl (e a _ (fun z => by rw [z, hn] at h; cases h) h (fun _ z => by cases z)))
  · exact Or.inl (Or.inr ⟨o, e a _ (fun z => by rw [z, hn] at h; cases h) h (fun _ z => by cases z)⟩)
  · exact Or.inr h
theorem eqv_told {D : PyData} (h : Told D) : PyData.eqv D D = true := by
  cases h <;> simp [PyData.eqv, PyData.eqvAll, pairD]
theorem shaped_told {D : PyData} (h : Told D) : SeqAt.shaped D = true := by
  have s1 : PyData.strOk "content" = true := by decide +kernel
  have s2 : PyData.strOk "place" = true := by decide +kernel
  cases h <;> (unfold SeqAt.shaped; simp [PyData.canLay0, PyData.canLayAll0, PyData.depth, PyData.depthAll, pairD, s1, s2])
section
variable {σ : L2.St} {H : Hp} {te ta tb tl : TE} {tr : TA} {t t' : TT} {kl : Addr} {N M : Nat} {D : Ends} {tz tu : TS} {Rv : V → V → Hp → Prop}
theorem q_parE {i j : Nat} (h : Ea tr σ H (fun vs H' => ∃ v w, vs = [v, w] ∧ Rv v w H')) (k : ∀ v w H1, Ex H H1 → Rv v w H1 → tz D ((σ.set i (some v)).set j (some w)) H1) : tSeq (tPar i j tr) tz D σ H :=
  h H (Ex.refl H) _ fun vs H1 e ⟨v, w, hv, r⟩ => ⟨v, w, hv, k v w H1 e r⟩
/-- a test whose second half calls what changes tables: it is false -/
theorem q_orN {b : Bool} (h1 : EvT t σ H false) (h2 : ErN P1 P2 ta σ H (fun v _ => v = .bl b)) (h3 : ∀ H1, ExN P1 P2 H H1 → Ev tb σ H1 (.bl b)) (k : ∀ H1, ExN P1 P2 H H1 → tz D σ H1) : tSeq (tIfS (tOr t (tTest (tOp rNe ta tb))) tu tNext) tz D σ H :=
  h1 H (Ex.refl H) _ fun H1 e1 => h2 H1 (toN e1) _ fun v H2 e2 hv => by
    subst hv
    exact h3 H2 ((toN e1).trans e2) H2 (Ex.refl H2) _ fun H3 e3 => ⟨rfl, !decide (V.bl b = V.bl b), rfl, by
      rw [decide_eq_true rfl]
      exact k H3 (((toN e1).trans e2).trans (toN e3))⟩
/-- for over a list that comes with sips; the turns only lay -/
theorem q_forKL {j : Nat} {P : PyData → Prop} (k0 : Ket N kl H) (h : ErK kl N M tl σ H (fun v H' => ∃ ds, LtD K H' v ds ∧ ∀ d ∈ ds, P d)) (Pv : L2.St → Prop) (h0 : Pv σ)
    (hs : ∀ H1, ExK kl H H1 → Ket M kl H1 → ∀ x d σ' H', P d → Ex H1 H' → Pv σ' → Dp K H' x d → tu { D with nx := fun σ2 H2 => Ex H1 H2 ∧ Pv σ2, ct := fun σ2 H2 => Ex H1 H2 ∧ Pv σ2, bk := tz D } (σ'.set j (some x)) H')
    (hd : ∀ H1, ExK kl H H1 → Ket M kl H1 → ∀ σ' H', Ex H1 H' → Pv σ' → tz D σ' H') : tSeq (tFor (iList K tl) (gName j) tu) tz D σ H :=
  h H (ExK.refl H) k0 _ fun v H1 e1 k1 ⟨ds, ⟨p, xs, hv, hp, hds⟩, hP⟩ => by
    subst hv
    refine ⟨p, rfl, ⟨xs, SqL.of hp⟩, for_it (walk_list (K := K) (a := p) (xs := xs)) (fun i σ' H' => Ex H1 H' ∧ Pv σ') ⟨Ex.refl H1, h0⟩ (fun i σ' H' _ q => SqL.of (q.1 _ _ hp)) (fun i x σ' H2 H3 hi q z => ?_) fun σ' H' q => hd H1 e1 k1 σ' H' q.1 q.2⟩
    obtain ⟨rfl, hxi⟩ := z
    obtain ⟨d, g1, g2⟩ := dpa_get hds hxi
    exact hs H1 e1 k1 x d σ' H3 (hP d (List.mem_of_getElem? g1)) q.1 q.2 (dp_ex q.1 _ _ g2)
theorem ev_repr {b : Bool} {ta : TA} (h : EvA ta σ H [.bl b]) : Ev (tCB rReprB ta) σ H (.str (if b then "True" else "False")) := fun H1 e Q q => h H1 e _ fun H2 e2 => ⟨b, rfl, q H2 e2⟩
end
abbrev s76 : Stmt := topS 76
theorem sc76 : FnScope ["_law_kettle_here", "_law_row_here", "_law_form", "_law_due", "_law_told", "_law_value_here"] ["_law_kettle_here"] (defScope s76) := ⟨rfl, rfl, rfl, by decide +kernel, rfl, by decide +kernel, by decide +kernel⟩
def spRight (P1 P2 : Addr) : Sp := fun vs H Q _ => ∃ (kl : Addr) (N : Nat), vs = [.ref kl] ∧ Ket N kl H ∧ N + 50 ≤ 1000 ∧ TabG H P1 ∧ TabG H P2 ∧ ∀ H', ExR kl P1 P2 H H' → Ket (N + 50) kl H' → Q (.bl true) H'
theorem fk76 (R : Raw K mg "_law_right" s76) (T : Bt K mg aE cF cK) (FC : FcK K cF cK pS pD gD fI) (F_init : FnR P w K mg base CX0 5 fI (spInit K cF))
    (F_law_sip : Fk P w K mg base "_law_sip" 1 ["_law_kettle_here", "_law_top"] spSip) (F_law_small_row : Fk P w K mg base "_law_small_row" 4 ["_law_kettle_here"] (spSmallRow K)) (F_law_within : Fk P w K mg base "_law_within" 4 ["_law_kettle_here", "_law_row_here", "_law_many"] (spWithin K)) (F_law_kept : Fk P w K mg base "_law_kept" 2 ["_law_row_here"] (spKept K))
    (F_law_least_bar : Fk P w K mg base "_law_least_bar" 4 ["_law_row_here"] (spLeast K)) (F_bar : Fk P w K mg base "bar" 6 ["form"] (spBar K cF P1 P2)) (F_is_greatest : Fk P w K mg base "is_greatest" 7 ["form"] (spGreat K cF P1 P2))
    (F_law_near : Fk P w K mg base "_law_near" 3 ["_law_kettle_here", "_law_row_here", "_law_told"] (spNear K)) (F_is_bar : Fk P w K mg base "is_bar" 5 ["form", "value"] (spIsBar K cF)) (F_law_is_bar : Fk P w K mg base "_law_is_bar" 4 ["_law_row_here", "_law_value_here"] (spIsBarL K)) : Fk P w K mg base "_law_right" 8 ["_law_kettle_here"] (spRight P1 P2) := by
  refine R.fk sc76 (fun _ _ _ _ _ _ us hl => match us, hl with | [_], _ => rfl) (fun vs H Q E h => ?_) (fun f cdv A outer s H vs Q E hr h => ?_)
  · obtain ⟨kl, N, rfl, _⟩ := h; rfl
  · obtain ⟨kl, N, rfl, hk, hN, hT1, hT2, k⟩ := h
    refine ⟨_, (pss_cons (ps_set (i := 1) sc76.nd rfl (Or.inl rfl) (pf F_law_kept (hr.mono (by decide)) rfl (pa_cons (pe_ix (r := rIxT K) ix_tup (pf F_law_within (hr.mono (by decide)) rfl (pa_cons (pv 0) (pa_cons (pf F_law_small_row (hr.mono (by decide)) rfl (pa_cons (pv 0) pa_nil)) (pa_cons (pf F_law_sip (hr.mono (by decide)) rfl (pa_cons (pv 0) (pa_cons pe_int pa_nil))) pa_nil)))) pe_int (fun _ _ => rfl)) pa_nil)))
      (pss_cons (ps_par (i := 2) (j := 3) (by rfl) sc76.nd rfl rfl (by decide) rfl rfl (pa_cons (mkForm FC F_init (hr.mono (by decide)) rfl T.Form (pa_cons (pv 1) pa_nil)) (pa_cons (pf F_law_least_bar (hr.mono (by decide)) rfl (pa_cons (pv 1) pa_nil)) pa_nil)) (by rfl))
      (pss_cons (ps_set (i := 4) sc76.nd rfl (Or.inl rfl) (pf F_bar (hr.mono (by decide)) rfl (pa_cons (pv 2) pa_nil)))
      (pss_cons (ps_if (PW.pt (pw_or (pt_cmpR (op_neD hr.units) (pv 4) (pv 3) (nomark _)) (pw_or1 (pt_cmpR op_ne (pf F_is_greatest (hr.mono (by decide)) rfl (pa_cons (pv 2) pa_nil)) (pe_cmpR op_isN (pv 3) pe_non (nomark _)) (nomark _))))) (pss_one (ps_ret pe_bl)) pss_nil)
      (pss_cons (ps_for PassesOwn.never rfl (pi_list (pf F_law_near (hr.mono (by decide)) rfl (pa_cons (pv 0) (pa_cons (pv 1) (pa_cons (pv 4) pa_nil))))) (pg_name (i := 5) sc76.nd rfl (Or.inl rfl)) (pss_one (ps_if (pt_cmpR op_ne (pe_callB call_repr_bl (by rfl) T.repr (by decide +kernel) (pa_cons (pf F_is_bar (hr.mono (by decide)) rfl (pa_cons (pv 2) (pa_cons (pv 5) pa_nil))) pa_nil)) (pe_callB call_repr_bl (by rfl) T.repr (by decide +kernel) (pa_cons (pf F_law_is_bar (hr.mono (by decide)) rfl (pa_cons (pv 1) (pa_cons (pv 5) pa_nil))) pa_nil)) (nomark _)) (pss_one (ps_ret pe_bl)) pss_nil)))
      (pss_one (ps_ret pe_bl))))))), ?_⟩
    refine at_st (σ2 := [some _, none, none, none, none, none]) rfl ?_
    refine q_asgK (N := N) (M := N + 46) (kl := kl) (R := fun v H' => KeptOk K H' v) hk (k_callA (M := N + 46) (k_cons (R := fun x H' => ∃ a b c d, Rw K H' x [a, b, c, d] ∧ RowZ 199 a b c d ∧ disc a b c d ≠ 0)
      (k_op (M := N + 46) (R := fun z H' => WithinOk K H' z) (y := .int 0) (k_callA (M := N + 7) (k_cons (R := fun v _ => v = .ref kl) (ev_K fun H1 e1 k1 => ev_var rfl) (fun _ _ _ _ _ z => z) (k_cons (M := N + 6) (R := fun v H' => RowOk K H' v) (k_call (vs := [.ref kl]) (fun H1 e1 k1 => ea_cons (ev_var rfl) ea_nil) fun H1 e1 k1 Q' q' => ⟨kl, N, rfl, k1, by omega, q'⟩) (fun v H1 H2 k1 e1 ⟨a, b, c, d, h1, h2, h3⟩ => ⟨a, b, c, d, h1, h2, rw_exk k1 e1 h3⟩)
          (k_cons (k_sip (top := 4) (fun H1 e1 k1 => ea_cons (ev_var rfl) (ea_cons ev_c ea_nil)) (by omega) (by decide) (by decide)) (fun _ _ _ _ _ z => z) k_nil))) fun vs H1 e1 k1 ⟨v, us, hvs, hv, u, us2, hus, hu, i, us3, hus2, ⟨m, hm, hm0, hm4⟩, hus3⟩ Q' q' => ?_)
        (fun H1 e1 k1 => ev_c) (fun z H1 e1 ⟨t, x, i, a, b, c, d, hz, ht, hx, h1, h2⟩ => ?_) (fun z H1 H2 e1 ⟨t, x, i, a, b, c, d, hz, ht, hx, h1, h2⟩ => ⟨t, x, i, a, b, c, d, hz, ex_t e1 ht, rw_ex e1 hx, h1, h2⟩))
      (fun v H1 H2 k1 e1 ⟨a, b, c, d, h1, h2⟩ => ⟨a, b, c, d, rw_exk k1 e1 h1, h2⟩) k_nil) fun vs H1 e1 k1 ⟨v, us, hvs, ⟨a, b, c, d, h1, h2, h3⟩, hus⟩ Q' q' => ?_) fun rv H1 e1 k1 hrv => ?_
    · subst hvs hv hus hus2 hm hus3
      exact ⟨kl, N + 7, u, m, rfl, k1, by omega, hm0, by omega, hu, q'⟩
    · subst hz
      exact ⟨x, rv_ixT (i := 0) ht rfl, fun H2 e2 => ⟨a, b, c, d, rw_ex e2 hx, h1, h2⟩⟩
    · subst hvs hus
      exact ⟨v, a, b, c, d, rfl, h1, h2, h3, fun z H2 e2 hz => q' z H2 (toK e2) (k1.ex e2) hz⟩
    · obtain ⟨a, b, c, d, hz, hd0, hdn, hrow⟩ := hrv
      walk_at "zn"
      have hT := told_lbar (a := a) (b := b) (c := c) (d := d) (dp (disc a b c d).natAbs) fun q hq => dp_mem hq hdn
      generalize hL : lbar a b c d (dp (disc a b c d).natAbs) = L at hT
      have hz4 := rowZ_up hz (show 199 ≤ 400 by decide)
      refine q_parE (Rv := fun z y H' => Fm K cF H' z a b c d ∧ Dp K H' y L) ((fun H2 e2 Q2 q2 => ea_cons' (R := fun z H' => Fm K cF H' z a b c d) (Rs := fun us H' => ∃ y, us = [y] ∧ Dp K H' y L) (er_form (er_var rfl fun H3 e3 => rw_ex e3 hrow) hz) (fun z H3 H4 e3 h3 => fm_ex e3 h3) (ea_one (er_callV (ea_cons (ev_var rfl) ea_nil) fun H3 e3 Q3 q3 => ⟨rv, a, b, c, d, rfl, rw_ex e3 hrow, hz4, hd0, hdn, fun y H4 e4 hy => q3 y H4 e4 (by rw [← hL]; exact hy)⟩)) H2 e2 Q2
        fun vs H3 e3 ⟨z, us, hvs, hfz, y, hus, hy⟩ => q2 vs H3 e3 ⟨z, y, by rw [hvs, hus], hfz, hy⟩)) fun fv dv H2 e2 ⟨hf, hdue⟩ => ?_
      walk_at "zn"
      have k2 := k1.ex e2
      have hT1' := tab_ex e2 (tab_exk hk e1 hT1)
      have hT2' := tab_ex e2 (tab_exk hk e1 hT2)
      have x2 : ExR kl P1 P2 H H2 := (kR hk e1).trans (nR (toN e2))
      refine q_asgN (P1 := P1) (P2 := P2) (R := fun y H' => Dp K H' y L) (ern_call (Rs := fun us _ => us = [fv]) (fun H3 e3 => ea_ev (ea_cons (ev_var rfl) ea_nil)) fun us H3 e3 hus Q3 q3 => ?_) fun tv H3 e3 htv => ?_
      · subst hus
        exact ⟨fv, a, b, c, d, rfl, fm_exn e3 hf, hz4, hd0, hdn, e3.t1 hT1', e3.t2 hT2', fun y H4 e4 hy => q3 y H4 e4 (by rw [← hL]; exact hy)⟩
      walk_at "zn"
      have hf3 := fm_exn e3 hf
      have hdue3 := dp_exn e3 _ _ hdue
      refine q_orN (P1 := P1) (P2 := P2) (b := noneD L) (et_is (et_test (ev_neD (K := K) (er_dvar rfl htv) (er_dvar rfl hdue3) (shaped_told hT) (shaped_told hT))) (by rw [eqv_told hT]; rfl)) (ern_call (Rs := fun us _ => us = [fv]) (fun H4 e4 => ea_ev (ea_cons (ev_var rfl) ea_nil)) fun us H4 e4 hus Q4 q4 => ?_) (fun H4 e4 => ev_is (ev_op (ev_var rfl) ev_c rv_isN) (by rw [dec_non (dp_exn e4 _ _ hdue3)])) fun H4 e4 => ?_
      · subst hus
        exact ⟨fv, a, b, c, d, rfl, fm_exn e4 hf3, hz4, hd0, hdn, e4.t1 (e3.t1 hT1'), e4.t2 (e3.t2 hT2'), fun H5 e5 => q4 _ H5 e5 (by rw [← hL])⟩
      have k4 : Ket (N + 46) kl H4 := (k2.exn e3).exn e4
      have x4 : ExR kl P1 P2 H H4 := x2.trans ((nR e3).trans (nR e4))
      have hf4 := fm_exn e4 hf3
      have htv4 := dp_exn e4 _ _ htv
      have hrow4 := rw_exn e4 (rw_exn e3 (rw_ex e2 hrow))
      refine q_forKL (K := K) (N := N + 46) (M := N + 48) (P := OkV) k4 (k_callA (M := N + 46) (k_cons (R := fun v _ => v = .ref kl) (ev_K fun H5 e5 k5 => ev_var rfl) (fun _ _ _ _ _ z => z) (k_cons (R := fun v H' => v = rv ∧ Rw K H' rv [a, b, c, d]) (er_K fun H5 e5 k5 => er_var rfl fun H6 e6 => ⟨rfl, rw_ex e6 (rw_exk k4 e5 hrow4)⟩) (fun v H5 H6 k5 e5 hv => ⟨hv.1, rw_exk k5 e5 hv.2⟩)
        (k_cons (R := fun v H' => v = tv ∧ Dp K H' tv L) (er_K fun H5 e5 k5 => er_var rfl fun H6 e6 => ⟨rfl, dp_ex e6 _ _ (dp_exl (exk_L k4 e5) _ _ hT.noL htv4)⟩) (fun v H5 H6 k5 e5 hv => ⟨hv.1, dp_exl (exk_L k5 e5) _ _ hT.noL hv.2⟩) k_nil))) fun vs H5 e5 k5 ⟨v, us, hvs, hv, u, us2, hus, ⟨hu, hur⟩, x, us3, hus2, ⟨hx, hxd⟩, hus3⟩ Q5 q5 => ?_)
        (fun σ' => ∃ o5, σ' = [some (.ref kl), some rv, some fv, some dv, some tv, o5]) ⟨none, rfl⟩ (fun H5 e5 k5 x D σ' H6 hD e6 ⟨o5, hs⟩ hx => ?_) (fun H5 e5 k5 σ' H6 e6 ⟨o5, hs⟩ => ?_)
      · subst hvs hv hus hu hus2 hx hus3
        exact ⟨kl, N + 46, _, _, a, b, c, d, L, rfl, k5, by omega, hur, hz4, hd0, hdn, hxd, hT, fun v H6 e6 k6 ⟨ds, h1, h2, h3⟩ => q5 v H6 e6 k6 ⟨ds, h1, h3⟩⟩
      · subst hs
        walk_at "zn"
        have hf6 := fm_ex e6 (fm_exk k4 e5 hf4)
        have hrow6 := rw_ex e6 (rw_exk k4 e5 hrow4)
        refine s_when (b := false) (et_is (et_test (ev_op (ev_repr (b := isb a b c d D) (ea_cons (ev_call' (ea_cons (ev_var rfl) (ea_cons (ev_var rfl) ea_nil)) fun H7 e7 Q7 q7 => ⟨fv, x, a, b, c, d, D, rfl, fm_ex e7 hf6, hz4, hd0, hdn, dp_ex e7 _ _ hx, hD, q7⟩) ea_nil)) (ev_repr (b := isb a b c d D) (ea_cons (ev_call' (ea_cons (ev_var rfl) (ea_cons (ev_var rfl) ea_nil)) fun H7 e7 Q7 q7 => ⟨rv, x, a, b, c, d, D, rfl, rw_ex e7 hrow6, hz4, dp_ex e7 _ _ hx, hD, q7⟩) ea_nil)) rv_neS)) (by rw [decide_eq_true rfl]; rfl)) (fun z => by cases z) (fun _ H7 e7 => ⟨e6.trans e7, _, rfl⟩)
      · subst hs
        exact s_ret ev_c fun H7 e7 => k H7 (((x4.trans (kR k4 e5)).trans (nR (toN e6))).trans (nR (toN e7))) (((k5.ex e6).ex e7).up (by omega))

/-! ### law -/
def EaN (P1 P2 : Addr) (ta : TA) (σ : L2.St) (H : Hp) (R : List V → Hp → Prop) : Prop := ∀ H1, ExN P1 P2 H H1 → ∀ Q : List V → Hp → Prop, (∀ v H2, ExN P1 P2 H1 H2 → R v H2 → Q v H2) → ta σ H1 Q
section
variable {σ : L2.St} {H : Hp} {te ta tb tl : TE} {tr : TA} {D : Ends} {tz tu : TS}
theorem ean_nil : EaN P1 P2 tNil σ H (fun vs H' => DpAll K H' vs []) := fun H1 e Q q => q [] H1 (ExN.refl H1) .nil
theorem ean_cons {d : PyData} {ds : List PyData} (h : ErN P1 P2 te σ H (fun v H' => Dp K H' v d)) (hr : EaN P1 P2 tr σ H (fun vs H' => DpAll K H' vs ds)) : EaN P1 P2 (tCons te tr) σ H (fun vs H' => DpAll K H' vs (d :: ds)) := fun H1 e Q q =>
  h H1 e _ fun v H2 e2 r => hr H2 (e.trans e2) _ fun us H3 e3 rs => q (v :: us) H3 (e2.trans e3) (.cons (dp_exn e3 _ _ r) rs)
theorem ern_lst {ds : List PyData} (h : EaN P1 P2 tr σ H (fun vs H' => DpAll K H' vs ds)) (hz : ds.length ≤ 1000) : ErN P1 P2 (tLst tr) σ H (fun v H' => Dp K H' v (.list ds)) := fun H1 e Q q =>
  h H1 e _ fun vs H2 e2 rs => ⟨Nat.le_trans (by rw [dpa_len rs]; exact hz) (show 1000 ≤ sizeLine by decide), fun p hp => q _ _ (e2.trans (toN (Ex.new hp))) (.lst (SqL.of upd_same) (dpa_ex (Ex.new hp) _ _ rs))⟩
theorem s_forA {ta : TA} {j : Nat} {tb : TS} {n : Int} (h : EvA ta σ H [.int n]) (h0n : 0 ≤ n) (hn : n ≤ 1000) (Pv : L2.St → Hp → Prop) (h0 : ∀ H1, Ex H H1 → Pv σ H1)
    (hs : ∀ (i : Nat) σ' H', (i : Int) < n → Pv σ' H' → tb { D with nx := Pv, ct := Pv, bk := D.nx } (σ'.set j (some (.int (i : Int)))) H') (hd : ∀ σ' H', Pv σ' H' → D.nx σ' H') : tFor (iRng1 ta) (gName j) tb D σ H :=
  h H (Ex.refl H) _ fun H1 e1 => by
    refine ⟨n, rfl, by omega, by omega, ?_⟩
    refine for_it (walk_range (lo := 0) (n := n.toNat)) (fun _ => Pv) (h0 H1 e1) (fun _ _ _ _ _ => trivial) (fun m x σ' H2 H3 hm p z => ?_) fun σ' H' p => hd σ' H' p
    obtain ⟨rfl, rfl⟩ := z
    have := hs m σ' H3 (by omega) p
    rw [← Int.zero_add (m : Int)] at this
    exact this
theorem q_forA {ta : TA} {j : Nat} {tb : TS} {n : Int} (h : EvA ta σ H [.int n]) (h0n : 0 ≤ n) (hn : n ≤ 1000) (Pv : L2.St → Hp → Prop) (h0 : ∀ H1, Ex H H1 → Pv σ H1)
    (hs : ∀ (i : Nat) σ' H', (i : Int) < n → Pv σ' H' → tb { D with nx := Pv, ct := Pv, bk := tz D } (σ'.set j (some (.int (i : Int)))) H') (hd : ∀ σ' H', Pv σ' H' → tz D σ' H') : tSeq (tFor (iRng1 ta) (gName j) tb) tz D σ H := s_forA (D := { D with nx := tz D }) h h0n hn Pv h0 hs hd
theorem ev_min {t : TA} {i j : Int} (h : EvA t σ H [.int i, .int j]) : Ev (tCB (fun xs H Q => ∃ i j, xs = [.int i, .int j] ∧ Q (.int (if j < i then j else i)) H) t) σ H (.int (if j < i then j else i)) := fun H1 e Q q =>
  h H1 e _ fun H2 e2 => ⟨i, j, rfl, q H2 e2⟩
end
/-! the four that are written -/
theorem st0 {p n m : Nat} (hn : 0 < n) (hp : 2 ≤ p) (h : n % p = 0) (e : n / p = m) : strip p n = ((strip p m).1, (strip p m).2 + 1) := by rw [strip_yes hn hp h, e]
theorem dp108 : dp 108 = [2, 3] := by
  have h1 : strip 2 108 = (27, 2) := by rw [st0 (m := 54) (by decide) (by decide) (by decide) (by decide), st0 (m := 27) (by decide) (by decide) (by decide) (by decide), strip_no (by decide)]
  have h2 : strip 3 27 = (1, 3) := by rw [st0 (m := 9) (by decide) (by decide) (by decide) (by decide), st0 (m := 3) (by decide) (by decide) (by decide) (by decide), st0 (m := 1) (by decide) (by decide) (by decide) (by decide), strip_no (by decide)]
  show dpl 108 2 = _
  rw [dpl_go (by decide) (by decide), h1, dpl_go (by decide) (by decide), h2, dpl_stop (by decide)]; rfl
theorem dp496 : dp 496 = [2] := by
  have h1 : strip 2 496 = (31, 4) := by rw [st0 (m := 248) (by decide) (by decide) (by decide) (by decide), st0 (m := 124) (by decide) (by decide) (by decide) (by decide), st0 (m := 62) (by decide) (by decide) (by decide) (by decide), st0 (m := 31) (by decide) (by decide) (by decide) (by decide), strip_no (by decide)]
  have h3 : strip 3 31 = (31, 0) := strip_no (by decide)
  have h4 : strip 4 31 = (31, 0) := strip_no (by decide)
  have h5 : strip 5 31 = (31, 0) := strip_no (by decide)
  show dpl 496 2 = _
  rw [dpl_go (by decide) (by decide), h1, dpl_go (by decide) (by decide), h3, dpl_go (by decide) (by decide), h4, dpl_go (by decide) (by decide), h5, dpl_stop (by decide)]; rfl
theorem dp2700 : dp 2700 = [2, 3, 5] := by
  have h1 : strip 2 2700 = (675, 2) := by rw [st0 (m := 1350) (by decide) (by decide) (by decide) (by decide), st0 (m := 675) (by decide) (by decide) (by decide) (by decide), strip_no (by decide)]
  have h2 : strip 3 675 = (25, 3) := by rw [st0 (m := 225) (by decide) (by decide) (by decide) (by decide), st0 (m := 75) (by decide) (by decide) (by decide) (by decide), st0 (m := 25) (by decide) (by decide) (by decide) (by decide), strip_no (by decide)]
  have h4 : strip 4 25 = (25, 0) := strip_no (by decide)
  have h5 : strip 5 25 = (1, 2) := by rw [st0 (m := 5) (by decide) (by decide) (by decide) (by decide), st0 (m := 1) (by decide) (by decide) (by decide) (by decide), strip_no (by decide)]
  show dpl 2700 2 = _
  rw [dpl_go (by decide) (by decide), h1, dpl_go (by decide) (by decide), h2, dpl_go (by decide) (by decide), h4, dpl_go (by decide) (by decide), h5, dpl_stop (by decide)]; rfl
theorem dp16 : dp 16 = [2] := by
  have h1 : strip 2 16 = (1, 4) := by rw [st0 (m := 8) (by decide) (by decide) (by decide) (by decide), st0 (m := 4) (by decide) (by decide) (by decide) (by decide), st0 (m := 2) (by decide) (by decide) (by decide) (by decide), st0 (m := 1) (by decide) (by decide) (by decide) (by decide), strip_no (by decide)]
  show dpl 16 2 = _
  rw [dpl_go (by decide) (by decide), h1, dpl_stop (by decide)]; rfl
theorem lb1 : lbar 1 0 0 (-2) [2, 3] = .none := by rfl
theorem lb2 (ps : List Nat) : lbar 2 2 0 2 (2 :: ps) = .tuple [.str "content", .int 2] := by rfl
theorem lb3 (ps : List Nat) : lbar 1 0 0 (-10) (2 :: 3 :: ps) = .tuple [.str "place", .int 3, .tuple [.int 1, .int 1]] := by rfl
theorem lb4 (ps : List Nat) : lbar 0 2 2 0 (2 :: ps) = .tuple [.str "content", .int 2] := by rfl

/-- bar(Form(a written tuple)) -/
theorem ern_barF {σ : L2.St} {H : Hp} {te : TE} {a b c d : Int} {L : PyData} (h : ∀ H1, ExN P1 P2 H H1 → Er te σ H1 (fun v H' => Rw K H' v [a, b, c, d])) (hz : RowZ 199 a b c d) (h0 : disc a b c d ≠ 0) (hn : (disc a b c d).natAbs ≤ 100000000) (hL : lbar a b c d (dp (disc a b c d).natAbs) = L) (hT1 : TabG H P1) (hT2 : TabG H P2) :
    ErN P1 P2 (tCall (spBar K cF P1 P2) [] E0 (tCons (StX.tMakeR cF (spInit K cF) E0 (tCons te tNil)) tNil)) σ H (fun v H' => Dp K H' v L) :=
  ern_call (Rs := fun us H' => ∃ z, us = [z] ∧ Fm K cF H' z a b c d) (fun H1 e1 => ea_one (er_form (h H1 e1) hz)) fun us H1 e1 ⟨z, hus, hf⟩ Q' q' => by
    subst hus
    exact ⟨z, a, b, c, d, rfl, hf, rowZ_up hz (by decide), h0, hn, e1.t1 hT1, e1.t2 hT2, fun y H2 e2 hy => q' y H2 e2 (by rw [← hL]; exact hy)⟩
abbrev s77 : Stmt := topS 77
theorem sc77 : FnScope ["_law_script", "_law_spot", "_law_kettle_here", "_law_told"] ["_law_script"] (defScope s77) := ⟨rfl, rfl, rfl, by decide +kernel, rfl, by decide +kernel, by decide +kernel⟩
def spLaw (K : PySem.W.Frag) (P1 P2 : Addr) : Sp := fun vs H Q _ => ∃ (a : Addr) (ns : List Int), vs = [.ref a] ∧ SqL K H a (ns.map V.int) ∧ TabG H P1 ∧ TabG H P2 ∧ ∀ H', Q (.bl true) H'
theorem fn77 {f : Addr} {fd : FuncData} (R : Fun K "law" "law" s77 f fd) (T : Bt K mg aE cF cK) (FC : FcK K cF cK pS pD gD fI) (F_init : FnR P w K mg base CX0 5 fI (spInit K cF))
    (F_law_kettle : Fk P w K mg base "_law_kettle" 1 ["_law_script", "_law_spot"] (spKettle K)) (F_law_right : Fk P w K mg base "_law_right" 8 ["_law_kettle_here"] (spRight P1 P2)) (F_bar : Fk P w K mg base "bar" 6 ["form"] (spBar K cF P1 P2)) (F_is_bar : Fk P w K mg base "is_bar" 5 ["form", "value"] (spIsBar K cF)) : FnOk P w K mg base CX0 9 f fd ["_law_script"] (spLaw K P1 P2) := by
  refine R.ok sc77 (fun vs H Q E h => ?_) (fun cdv A outer s H vs Q E hr h => ?_)
  · obtain ⟨a, ns, rfl, _⟩ := h; rfl
  · obtain ⟨a, ns, rfl, ha, hT1, hT2, k⟩ := h
    refine ⟨_, (pss_cons (ps_for PassesOwn.never rfl (pi_range1 rfl T.range (pa_cons (pe_callB (call_max2 rfl) (by rfl) T.max (by decide +kernel) (pa_cons pe_int (pa_cons (pe_callB (call_min2 rfl) (by rfl) T.min (by decide +kernel) (pa_cons pe_int (pa_cons (pe_callB call_len_seq (by rfl) T.len (by decide +kernel) (pa_cons (pv 0) pa_nil)) pa_nil))) pa_nil))) pa_nil)) (pg_name (i := 1) sc77.nd rfl (Or.inl rfl)) (pss_cons (ps_set (i := 2) sc77.nd rfl (Or.inl rfl) (pf F_law_kettle (hr.mono (by decide)) rfl (pa_cons (pv 0) (pa_cons (pv 1) pa_nil))))
      (pss_one (ps_if (PW.pt (pw_or (pt_not (pt_val (pf F_law_right (hr.mono (by decide)) rfl (pa_cons (pv 2) pa_nil)))) (pw_or1 (pt_not (pt_val (pf F_law_right (hr.mono (by decide)) rfl (pa_cons (pv 2) pa_nil))))))) (pss_one (ps_ret pe_bl)) pss_nil))))
      (pss_cons (ps_set (i := 3) sc77.nd rfl (Or.inl rfl) (pe_lst (pa_cons (pf F_bar (hr.mono (by decide)) rfl (pa_cons (mkForm FC F_init (hr.mono (by decide)) rfl T.Form (pa_cons (pe_tup (pa_cons pe_int (pa_cons pe_int (pa_cons pe_int (pa_cons (pe_un un_neg pe_int) pa_nil))))) pa_nil)) pa_nil)) (pa_cons (pf F_bar (hr.mono (by decide)) rfl (pa_cons (mkForm FC F_init (hr.mono (by decide)) rfl T.Form (pa_cons (pe_tup (pa_cons pe_int (pa_cons pe_int (pa_cons pe_int (pa_cons pe_int pa_nil))))) pa_nil)) pa_nil)) (pa_cons (pf F_bar (hr.mono (by decide)) rfl (pa_cons (mkForm FC F_init (hr.mono (by decide)) rfl T.Form (pa_cons (pe_tup (pa_cons pe_int (pa_cons pe_int (pa_cons pe_int (pa_cons (pe_un un_neg pe_int) pa_nil))))) pa_nil)) pa_nil)) (pa_cons (pf F_bar (hr.mono (by decide)) rfl (pa_cons (mkForm FC F_init (hr.mono (by decide)) rfl T.Form (pa_cons (pe_tup (pa_cons pe_int (pa_cons pe_int (pa_cons pe_int (pa_cons pe_int pa_nil))))) pa_nil)) pa_nil)) pa_nil))))))
      (pss_one (ps_ret (pe_and (pe_cmpR (op_eqD hr.units) (pv 3) (pe_lst (pa_cons pe_non (pa_cons (pe_tup (pa_cons pe_str (pa_cons pe_int pa_nil))) (pa_cons (pe_tup (pa_cons pe_str (pa_cons pe_int (pa_cons (pe_tup (pa_cons pe_int (pa_cons pe_int pa_nil))) pa_nil)))) (pa_cons (pe_tup (pa_cons pe_str (pa_cons pe_int pa_nil))) pa_nil))))) (nomark _)) (pe_one (pf F_is_bar (hr.mono (by decide)) rfl (pa_cons (mkForm FC F_init (hr.mono (by decide)) rfl T.Form (pa_cons (pe_tup (pa_cons pe_int (pa_cons pe_int (pa_cons pe_int (pa_cons pe_int pa_nil))))) pa_nil)) (pa_cons (pe_tup (pa_cons pe_str (pa_cons pe_int pa_nil))) pa_nil))))))))), ?_⟩
    refine at_st (σ2 := [some _, none, none, none]) rfl ?_
    refine q_forA (n := if (if ((ns.map V.int).length : Int) < 3 then ((ns.map V.int).length : Int) else 3) > 1 then (if ((ns.map V.int).length : Int) < 3 then ((ns.map V.int).length : Int) else 3) else 1) (ea_cons (ev_max (ea_cons ev_c (ea_cons (ev_min (ea_cons ev_c (ea_cons (ev_len (ea_cons (ev_var rfl) ea_nil) (.inl ha)) ea_nil))) ea_nil))) ea_nil) (by split <;> (try split) <;> omega) (by split <;> (try split) <;> omega)
      (fun σ' H' => ∃ o1 o2 o3, σ' = [some (.ref a), o1, o2, o3] ∧ SqL K H' a (ns.map V.int) ∧ TabG H' P1 ∧ TabG H' P2) (fun H1 e1 => ⟨none, none, none, rfl, ex_l e1 ha, tab_ex e1 hT1, tab_ex e1 hT2⟩) (fun i σ' H1 hi ⟨o1, o2, o3, hs, ha1, t1, t2⟩ => ?_) (fun σ' H1 ⟨o1, o2, o3, hs, ha1, t1, t2⟩ => ?_)
    · subst hs
      walk_at "zn"
      have hi3 : i ≤ 3 := by
        have : (i : Int) < 4 := Int.lt_of_lt_of_le hi (by split <;> (try split) <;> omega)
        omega
      refine q_asgR (R := fun v H' => ∃ kl, v = .ref kl ∧ H1 kl = none ∧ Ket 0 kl H') (fun H2 e2 Q2 q2 => ?_) fun kv H2 e2 ⟨kl, hkv, hn, hk⟩ => ?_
      · refine er_callV (R := fun v H' => ∃ kl, v = .ref kl ∧ H2 kl = none ∧ Ket 0 kl H') (σ := [some (.ref a), some (.int (i : Int)), o2, o3]) (H := H2) (vs := [.ref a, .int (i : Int)]) (ea_cons (ev_var rfl) (ea_cons (ev_var rfl) ea_nil)) (fun H3 e3 Q3 q3 => ⟨a, ns, i, rfl, ex_l (e2.trans e3) ha1, hi3, fun kl H4 hn e4 hk => q3 _ H4 e4 ⟨kl, rfl, fresh_back e3 hn, hk⟩⟩) H2 (Ex.refl H2) Q2 fun v H4 e4 ⟨kl, hv, hn, hk⟩ => q2 v H4 e4 ⟨kl, hv, fresh_back e2 hn, hk⟩
      subst hkv
      walk_at "zn"
      have ha2 := ex_l e2 ha1
      refine ⟨.ref kl, rfl, kl, 0, rfl, hk, by decide, tab_ex e2 t1, tab_ex e2 t2, fun H3 e3 k3 => ⟨true, rfl, ?_⟩⟩
      refine ⟨.ref kl, rfl, kl, 50, rfl, k3, by decide, e3.t1 (tab_ex e2 t1), e3.t2 (tab_ex e2 t2), fun H4 e4 k4 => ⟨true, rfl, ?_⟩⟩
      exact ⟨_, _, _, rfl, sqL_kl ha1 hn (fun b o hb h1 h2 => e4.k b o hb (e3.k b o hb (e2 b o h1) h2) h2), e4.t1 (e3.t1 (tab_ex e2 t1)), e4.t2 (e3.t2 (tab_ex e2 t2))⟩
    · subst hs
      have dt : ∀ {σ : L2.St} {H2 : Hp} {te1 te2 te3 te4 : TE} {a b c d : Int}, Ev te1 σ H2 (.int a) → Ev te2 σ H2 (.int b) → Ev te3 σ H2 (.int c) → Ev te4 σ H2 (.int d) → Er (tTup (tCons te1 (tCons te2 (tCons te3 (tCons te4 tNil))))) σ H2 (fun v H' => Rw K H' v [a, b, c, d]) := fun h1 h2 h3 h4 => er_row (ns := [_, _, _, _]) (ea_cons h1 (ea_cons h2 (ea_cons h3 (ea_cons h4 ea_nil)))) (by simp)
      refine q_asgN (P1 := P1) (P2 := P2) (R := fun v H' => Dp K H' v (.list [.none, .tuple [.str "content", .int 2], .tuple [.str "place", .int 3, .tuple [.int 1, .int 1]], .tuple [.str "content", .int 2]]))
        (ern_lst (ean_cons (ern_barF (a := 1) (b := 0) (c := 0) (d := -2) (fun H2 e2 => dt ev_c ev_c ev_c (ev_un ev_c ru_neg)) ⟨by decide, by decide, by decide, by decide⟩ (by decide) (by decide) (by rw [show (disc 1 0 0 (-2)).natAbs = 108 from by decide, dp108]; exact lb1) t1 t2)
          (ean_cons (ern_barF (a := 2) (b := 2) (c := 0) (d := 2) (fun H2 e2 => dt ev_c ev_c ev_c ev_c) ⟨by decide, by decide, by decide, by decide⟩ (by decide) (by decide) (by rw [show (disc 2 2 0 2).natAbs = 496 from by decide, dp496]; exact lb2 []) t1 t2)
          (ean_cons (ern_barF (a := 1) (b := 0) (c := 0) (d := -10) (fun H2 e2 => dt ev_c ev_c ev_c (ev_un ev_c ru_neg)) ⟨by decide, by decide, by decide, by decide⟩ (by decide) (by decide) (by rw [show (disc 1 0 0 (-10)).natAbs = 2700 from by decide, dp2700]; exact lb3 [5]) t1 t2)
          (ean_cons (ern_barF (a := 0) (b := 2) (c := 2) (d := 0) (fun H2 e2 => dt ev_c ev_c ev_c ev_c) ⟨by decide, by decide, by decide, by decide⟩ (by decide) (by decide) (by rw [show (disc 0 2 2 0).natAbs = 16 from by decide, dp16]; exact lb4 []) t1 t2) ean_nil)))) (by simp)) fun tv H2 e2 htv => ?_
      walk_at "zn"
      have s1 : PyData.strOk "content" = true := by decide +kernel
      have s2 : PyData.strOk "place" = true := by decide +kernel
      have hsh : SeqAt.shaped (.list [.none, .tuple [.str "content", .int 2], .tuple [.str "place", .int 3, .tuple [.int 1, .int 1]], .tuple [.str "content", .int 2]]) = true := by
        unfold SeqAt.shaped
        simp [PyData.canLay0, PyData.canLayAll0, PyData.depth, PyData.depthAll, s1, s2]
      have hpr : pr 3 = true := by decide +kernel
      have hib : isb 6 0 0 6 (.tuple [.str "content", .int 3]) = true := by
        show (decide (("content" : Str) = "content") && (pr 3 && divB 6 0 0 6 3)) = true
        rw [hpr, decide_eq_true rfl]; decide
      refine s_ret (ev_is (ev_andV (a := true) (b := true) (ev_is (ev_eqD (K := K) (er_dvar rfl htv) (er_dlst (.cons (er_dnon ev_c) (.cons (er_dtup (.cons (er_dstr ev_c) (.cons (er_dint ev_c) .nil)) (by simp)) (.cons (er_dtup (.cons (er_dstr ev_c) (.cons (er_dint ev_c) (.cons (er_dtup (.cons (er_dint ev_c) (.cons (er_dint ev_c) .nil)) (by simp)) .nil))) (by simp)) (.cons (er_dtup (.cons (er_dstr ev_c) (.cons (er_dint ev_c) .nil)) (by simp)) .nil)))) (by simp)) hsh hsh) (by simp [PyData.eqv, PyData.eqvAll])) fun _ =>
        ev_er (er_call (Rs := fun vs H' => ∃ z us, vs = z :: us ∧ Fm K cF H' z 6 0 0 6 ∧ ∃ v, us = [v] ∧ Dp K H' v (.tuple [.str "content", .int 3])) (ea_cons' (er_form (dt ev_c ev_c ev_c ev_c) ⟨by decide, by decide, by decide, by decide⟩) (fun v H3 H4 e3 h3 => fm_ex e3 h3) (ea_one (er_dtup (.cons (er_dstr ev_c) (.cons (er_dint ev_c) .nil)) (by simp)))) fun vs H3 e3 ⟨z, us, hvs, hf, v, hus, hv⟩ Q3 q3 => ?_)) rfl) fun H3 e3 => k H3
      subst hvs hus
      exact ⟨z, v, 6, 0, 0, 6, _, rfl, hf, ⟨by decide, by decide, by decide, by decide⟩, by decide, by decide, hv, .c2 _ _ (.inl (by decide)) (by decide), fun H4 e4 => q3 _ H4 e4 (by rw [hib])⟩
end
end Z
namespace Z
open PySem PySem.Spec PyProof.Rows L2 Evl Zm SlX
local macro_rules | `(tactic| walk_at "zi") => `(tactic| (repeat' first | exact evi_c | exact evi_var rfl (by with_reducible assumption) | apply evi_add | apply evi_sub | apply evi_mul); all_goals (show _ ≤ 1000000; decide))
local macro_rules | `(tactic| walk_at "zn") => `(tactic| dsimp only [List.set_cons_zero, List.set_cons_succ])
section
variable {P : Program} {w : World} {K : PySem.W.Frag} {mg : Str → Option Value} {base : Heap}
variable {aE cF cK pS pD gD fI P1 P2 c1 c2 : Addr}
open GxR
/-! Zy: the end: what the text has written is taken, def by def -/
section
variable {h : Heap}
theorem raw_mk {x : Str} {st : Stmt} {f : Addr} {oc kV doc pm cdv ct : Value} {od an : Option Addr} {osl : Array (Option Value)} (X : K.In h) (G : h.Ns mainGlobals mg) (a : PySem.W.nsIn K mainGlobals x = some (some (.ref f)))
    (l : K.lookup f = some ⟨oc, od, .func (PySem.W.fnOf x x (defArgs st) (defBody st) (defScope st) .none kV doc pm an cdv ct), osl⟩) (c : PySem.W.codeIn K cdv x = true) (k : PySem.W.keepIn K (.ref f) = true) : Raw K mg x st := ⟨f, _, PySem.W.mg_of X G a, fun_mk l c k⟩
theorem rawT_mk {x : Str} {st : Stmt} {f c0 : Addr} {oc kV doc pm ct : Value} {od an : Option Addr} {osl : Array (Option Value)} (X : K.In h) (G : h.Ns mainGlobals mg) (a : PySem.W.nsIn K mainGlobals x = some (some (.ref f)))
    (l : K.lookup f = some ⟨oc, od, .func (PySem.W.fnOf x x (defArgs st) (defBody st) (defScope st) .none kV doc pm an (.ref c0) ct), osl⟩) (c : PySem.W.codeIn K (.ref c0) x = true) (k : PySem.W.keepIn K (.ref f) = true) : RawT K mg x st c0 := ⟨f, oc, od, an, kV, doc, pm, ct, osl, PySem.W.mg_of X G a, l, c, k⟩
theorem rawM_mk {x qual : Str} {st : Stmt} {f : Addr} {oc kV doc pm cdv ct : Value} {od an : Option Addr} {osl : Array (Option Value)}
    (l : K.lookup f = some ⟨oc, od, .func (PySem.W.fnOf x qual (defArgs st) (defBody st) (defScope st) .none kV doc pm an cdv ct), osl⟩) (c : PySem.W.codeIn K cdv qual = true) (k : PySem.W.keepIn K (.ref f) = true) : RawM K x qual st f := ⟨_, fun_mk l c k⟩
/-- where the code's table stands -/
theorem tab_mk {x : Str} {f c0 P0 : Addr} {oc e : Value} {od dd : Option Addr} {fd : FuncData} {osl sl : Array (Option Value)} {vs : Array Value} (a : PySem.W.nsIn K mainGlobals x = some (some (.ref f))) (l : K.lookup f = some ⟨oc, od, .func fd, osl⟩) (hc : fd.code = .ref c0)
    (lc : K.lookup c0 = some ⟨e, dd, .fields vs, sl⟩) (hv : vs[11]? = some (.ref P0)) : PySem.W.tabIn K x = some (c0, P0) := by
  unfold PySem.W.tabIn
  rw [a]
  dsimp only
  rw [l]
  dsimp only
  rw [hc]
  dsimp only
  rw [lc]
  dsimp only
  rw [hv]
theorem kit_mk {t : Value} {C : Addr} {b : Bool} (h1 : PySem.W.isClsIn K C = true) (h2 : PySem.W.typeIn K (.ref C) = some (.type "type")) (h3 : PySem.W.subIn K t (.ref C) = some b) (h4 : (t == .ref C) = false) (h5 : (PySem.W.clsIn K C).isSome = true) : PySem.W.kitOne K t (.ref C) = some b := by
  unfold PySem.W.kitOne
  rw [if_neg (by rw [h4]; decide)]
  show (if ((PySem.W.clsIn K C).isSome && PySem.W.typeIn K (.ref C) == some (.type "type")) = true then PySem.W.subIn K t (.ref C) else none) = _
  rw [h5, h2, if_pos (by simp), h3]
theorem some_of {α : Type} {o : Option α} {x : α} (e : o = some x) : o.isSome = true := by rw [e]; rfl
theorem kit_self {C : Addr} : PySem.W.kitOne K (.ref C) (.ref C) = some true := by
  unfold PySem.W.kitOne
  rw [if_pos (by simp)]
theorem bt_mk {q : Program} {dE : Option Addr} {slE : Array (Option Value)} {t1 t2 t3 t4 t5 t6 t7 : Tok} {nE : Nat} (X : K.In h) (G : h.Ns mainGlobals mg) (hX : PySem.W.XL q [("SIXTY_DIGITS", PySem.W.WData.int 1000000000000000000000000000000000000000000000000000000000000)] mg h)
    (zabs : PySem.W.nsIn K mainGlobals "abs" = some none)
    (zall : PySem.W.nsIn K mainGlobals "all" = some none)
    (zbool : PySem.W.nsIn K mainGlobals "bool" = some none)
    (zint : PySem.W.nsIn K mainGlobals "int" = some none)
    (zisinstance : PySem.W.nsIn K mainGlobals "isinstance" = some none)
    (zlen : PySem.W.nsIn K mainGlobals "len" = some none)
    (zlist : PySem.W.nsIn K mainGlobals "list" = some none)
    (zmax : PySem.W.nsIn K mainGlobals "max" = some none)
    (zmin : PySem.W.nsIn K mainGlobals "min" = some none)
    (znext : PySem.W.nsIn K mainGlobals "next" = some none)
    (zrange : PySem.W.nsIn K mainGlobals "range" = some none)
    (zrepr : PySem.W.nsIn K mainGlobals "repr" = some none)
    (zsorted : PySem.W.nsIn K mainGlobals "sorted" = some none)
    (ztuple : PySem.W.nsIn K mainGlobals "tuple" = some none)
    (zisqrt : PySem.W.nsIn K mainGlobals "isqrt" = some (some (.builtin "math.isqrt"))) (zsize : PySem.W.nsIn K mainGlobals "SIZE" = some (some (.int 4 t1))) (zmxs : PySem.W.nsIn K mainGlobals "MAX_STEPPED" = some (some (.int 100000000 t2))) (zmost : PySem.W.nsIn K mainGlobals "MOST_PRIME" = some (some (.int 10000 t3)))
    (zcon : PySem.W.nsIn K mainGlobals "CONTENT" = some (some (.str "content" t4))) (zpla : PySem.W.nsIn K mainGlobals "PLACE" = some (some (.str "place" t5))) (zend : PySem.W.nsIn K mainGlobals "END" = some (some (.ref aE))) (lend : K.lookup aE = some ⟨.type "tuple", dE, .seq #[.int 1 t6, .int 0 t7] nE, slE⟩)
    (zF : PySem.W.nsIn K mainGlobals "Form" = some (some (.ref cF))) (zK : PySem.W.nsIn K mainGlobals "KeptForm" = some (some (.ref cK))) : Bt K mg aE cF cK where
  abs := PySem.W.mg_none_of X G zabs
  all := PySem.W.mg_none_of X G zall
  bool := PySem.W.mg_none_of X G zbool
  int := PySem.W.mg_none_of X G zint
  isinstance := PySem.W.mg_none_of X G zisinstance
  len := PySem.W.mg_none_of X G zlen
  list := PySem.W.mg_none_of X G zlist
  max := PySem.W.mg_none_of X G zmax
  min := PySem.W.mg_none_of X G zmin
  next := PySem.W.mg_none_of X G znext
  range := PySem.W.mg_none_of X G zrange
  repr := PySem.W.mg_none_of X G zrepr
  sorted := PySem.W.mg_none_of X G zsorted
  tuple := PySem.W.mg_none_of X G ztuple
  isqrt := PySem.W.mg_of X G zisqrt
  SIXTY_DIGITS := by
    obtain ⟨v, h1, h2⟩ := hX.2.val _ (List.mem_singleton.mpr rfl)
    cases h2 with
    | int i t => exact ⟨t, h1⟩
  SIZE := ⟨t1, PySem.W.mg_of X G zsize⟩
  MAX_STEPPED := ⟨t2, PySem.W.mg_of X G zmxs⟩
  MOST_PRIME := ⟨t3, PySem.W.mg_of X G zmost⟩
  CONTENT := ⟨t4, PySem.W.mg_of X G zcon⟩
  PLACE := ⟨t5, PySem.W.mg_of X G zpla⟩
  END := PySem.W.mg_of X G zend
  atE := fun H => .inr ⟨_, #[.int 1 t6, .int 0 t7], nE, lend, rfl, rfl, (by show 2 ≤ sizeLine; decide), .cons ⟨t6, rfl⟩ (.cons ⟨t7, rfl⟩ .nil)⟩
  Form := PySem.W.mg_of X G zF
  KeptForm := PySem.W.mg_of X G zK
theorem fc_mk {rest : List Value} (pg : PySem.W.plainGet K cF Str.empty = true) (ic : PySem.W.isClsIn K cF = true) (po : PySem.W.plainOver K cF = true) (sa : PySem.W.findIn K (.ref cF) "__setattr__" = some (some (.builtin "object.__setattr__")))
    (ca : PySem.W.findIn K (.ref cF) "__class__" = some (some (.builtin "object.__class__"))) (cn : PySem.W.specialIn K (.builtin "object.__class__") "__get__" = some (some (.builtin "getset_descriptor.__get__"))) (ct : PySem.W.takesIn K (.builtin "object.__class__") = some true) (cm : PySem.W.mroIn K cF (.type "object") = some true)
    (sl : PySem.W.findIn K (.ref cF) "own_coefficients" = some (some (.ref pS))) (sg : PySem.W.specialIn K (.ref pS) "__get__" = some (some (.builtin "member_descriptor.__get__"))) (st : PySem.W.takesIn K (.ref pS) = some true) (sty : PySem.W.typeIn K (.ref pS) = some (.type "member_descriptor")) (six : PySem.W.slotIn K pS cF = some 0)
    (da : PySem.W.findIn K (.ref cF) "discriminant" = some (some (.ref pD))) (dg : PySem.W.specialIn K (.ref pD) "__get__" = some (some (.builtin "property.__get__"))) (dt : PySem.W.takesIn K (.ref pD) = some true) (dr : PySem.W.recIn K pD "property" = some (.ref gD :: rest))
    (mk : PySem.W.makesIn K cF = true) (mi : PySem.W.findIn K (.ref cF) "__init__" = some (some (.ref fI))) (mf : PySem.W.isFn K (.ref fI) = true) (mkp : PySem.W.keepIn K (.ref cF) = true) (nk : PySem.W.kitOne K (.type "tuple") (.ref cK) = some false) : FcK K cF cK pS pD gD fI where
  sc := ⟨pg, ic, po, sa⟩
  si := ⟨ca, cn, ct, cm⟩
  sl := ⟨sl, sg, st, sty, six, by decide⟩
  da := da
  dg := dg
  dt := dt
  dr := ⟨rest, dr⟩
  mak := ⟨mk, mi, mf, mkp⟩
  nk := nk
  fk := kit_self
theorem trip0 : TriplesOk (#[] : Array Value).toList := by
  first | exact trivial | constructor | simp [TriplesOk]
theorem all_mk {l : PySem.W.OpenLaw} {fa f77 : Addr} {oc kV doc pm cdv ct : Value} {od an : Option Addr} {osl : Array (Option Value)} (X : K.In h) (G : h.Ns mainGlobals mg) (hmg : mg "law" = some (.ref fa))
    (R11 : Raw K mg "is_whole" s11)
    (R12 : Raw K mg "is_integer" s12)
    (R14 : Raw K mg "is_prime_number" s14)
    (R16 : Raw K mg "are_integers" s16)
    (R26 : Raw K mg "form_at" s26)
    (R27 : Raw K mg "discriminant_of" s27)
    (R30 : Raw K mg "form_told" s30)
    (R32 : Raw K mg "require_form" s32)
    (R41 : Raw K mg "is_small_prime" s41)
    (R42 : Raw K mg "places_at" s42)
    (R43 : Raw K mg "is_place" s43)
    (R44 : Raw K mg "slope_at" s44)
    (R45 : Raw K mg "is_heavy" s45)
    (R46 : Raw K mg "is_divided" s46)
    (R47 : Raw K mg "require_stepped" s47)
    (R48 : Raw K mg "double_primes" s48)
    (R51 : Raw K mg "bar" s51)
    (R53 : Raw K mg "is_greatest" s53)
    (R52 : Raw K mg "is_bar" s52)
    (R55 : Raw K mg "_law_kettle" s55)
    (R56 : Raw K mg "_law_sip" s56)
    (R57 : Raw K mg "_law_taken" s57)
    (R58 : Raw K mg "_law_value" s58)
    (R59 : Raw K mg "_law_moved" s59)
    (R60 : Raw K mg "_law_discriminant" s60)
    (R61 : Raw K mg "_law_content" s61)
    (R62 : Raw K mg "_law_row" s62)
    (R63 : Raw K mg "_law_change" s63)
    (R64 : Raw K mg "_law_led" s64)
    (R65 : Raw K mg "_law_places" s65)
    (R66 : Raw K mg "_law_is_heavy" s66)
    (R67 : Raw K mg "_law_below" s67)
    (R68 : Raw K mg "_law_primes_of" s68)
    (R69 : Raw K mg "_law_least_bar" s69)
    (R70 : Raw K mg "_law_small_row" s70)
    (R71 : Raw K mg "_law_within" s71)
    (R72 : Raw K mg "_law_kept" s72)
    (R73 : Raw K mg "_law_is_prime" s73)
    (R74 : Raw K mg "_law_is_bar" s74)
    (R75 : Raw K mg "_law_near" s75)
    (R76 : Raw K mg "_law_right" s76)
    (R49 : RawT K mg "bar_at" s49 c1) (R50 : RawT K mg "first_bar" s50 c2) (RI : RawM K "__init__" "Form.__init__" s29_1 fI) (RD : RawM K "discriminant" "Form.discriminant" s29_4 gD) (T : Bt K mg aE cF cK) (FC : FcK K cF cK pS pD gD fI)
    (a77 : PySem.W.nsIn K mainGlobals "law" = some (some (.ref f77))) (l77 : K.lookup f77 = some ⟨oc, od, .func (PySem.W.fnOf "law" "law" (defArgs s77) (defBody s77) (defScope s77) .none kV doc pm an cdv ct), osl⟩) (d77 : PySem.W.codeIn K cdv "law" = true) (k77 : PySem.W.keepIn K (.ref f77) = true)
    (t1 : PySem.W.CodeHd h c1 P1 ∧ h.get? P1 = some (PySem.W.tabObj #[])) (t2 : PySem.W.CodeHd h c2 P2 ∧ h.get? P2 = some (PySem.W.tabObj #[])) (n1 : K.lookup P1 = none) (n2 : K.lookup P2 = none) : LamX.LawAtS l w K CX0 9 63 "_law_script" mg fa h := by
  have e := hmg.symm.trans (PySem.W.mg_of X G a77)
  cases e
  refine ⟨PySem.W.fnOf "law" "law" (defArgs s77) (defBody s77) (defScope s77) .none kV doc pm an cdv ct, [(c1, P1), (c2, P2)], spLaw K P1 P2, fun p hp => ?_, fun p hp => ?_, fun p hp => ?_, fun s v => .of_eq rfl,
    fun H a ns _ _ hH hS => ⟨a, ns, rfl, hS, ⟨#[], hH (c1, P1) (by simp), trip0⟩, ⟨#[], hH (c2, P2) (by simp), trip0⟩, fun _ => rfl⟩, fun base _ _ hTB => ?_⟩
  · rcases List.mem_cons.mp hp with rfl | hp
    · exact t1.2
    · rw [List.mem_singleton.mp hp]; exact t2.2
  · rcases List.mem_cons.mp hp with rfl | hp
    · exact n1
    · rw [List.mem_singleton.mp hp]; exact n2
  · rcases List.mem_cons.mp hp with rfl | hp
    · exact t1.1
    · rw [List.mem_singleton.mp hp]; exact t2.1
  · have b1 := hTB (c1, P1) (by simp)
    have b2 := hTB (c2, P2) (by simp)
    have TB1 : TabB base mg c1 P1 := ⟨b1.code, b1.bm, b1.gP⟩
    have TB2 : TabB base mg c2 P2 := ⟨b2.code, b2.bm, b2.gP⟩
    have F11 := fk11 (P := l.prog) (w := w) (base := base) R11 T
    have F12 := fk12 (P := l.prog) (w := w) (base := base) R12 T F11
    have F14 := fk14 (P := l.prog) (w := w) (base := base) R14 T
    have F16 := fk16 (P := l.prog) (w := w) (base := base) R16 T F12
    have F26 := fk26 (P := l.prog) (w := w) (base := base) R26 
    have F27 := fk27 (P := l.prog) (w := w) (base := base) R27 
    have F30 := fk30 (P := l.prog) (w := w) (base := base) R30 T FC F16
    have FI := fn_init (P := l.prog) (w := w) (base := base) RI T FC F30
    have FD := fn_discr (P := l.prog) (w := w) (base := base) RD T FC F27
    have F32 := fk32 (P := l.prog) (w := w) (base := base) R32 T FC
    have F41 := fk41 (P := l.prog) (w := w) (base := base) R41 T F12 F14
    have F42 := fk42 (P := l.prog) (w := w) (base := base) R42 T
    have F43 := fk43 (P := l.prog) (w := w) (base := base) R43 T F12
    have F44 := fk44 (P := l.prog) (w := w) (base := base) R44 
    have F45 := fk45 (P := l.prog) (w := w) (base := base) R45 T F26 F44
    have F46 := fk46 (P := l.prog) (w := w) (base := base) R46 T
    have F47 := fk47 (P := l.prog) (w := w) (base := base) R47 T FC FD F32
    have F48 := fk48 (P := l.prog) (w := w) (base := base) R48 
    have F49 := fk49 (P := l.prog) (w := w) (base := base) (P1 := P1) (P2 := P2) R49 TB1 T F46 F42 F45
    have F50 := fk50 (P := l.prog) (w := w) (base := base) R50 TB2 T F49
    have F51 := fk51 (P := l.prog) (w := w) (base := base) R51 T FC FD F47 F48 F50
    have F53 := fk53 (P := l.prog) (w := w) (base := base) R53 T F51
    have F52 := fk52 (P := l.prog) (w := w) (base := base) R52 T FC F47 F12 F41 F46 F43 F45
    have F55 := fk55 (P := l.prog) (w := w) (base := base) R55 T
    have F56 := fk56 (P := l.prog) (w := w) (base := base) R56 T
    have F57 := fk57 (P := l.prog) (w := w) (base := base) R57 T F56
    have F58 := fk58 (P := l.prog) (w := w) (base := base) R58 
    have F59 := fk59 (P := l.prog) (w := w) (base := base) R59 F58
    have F60 := fk60 (P := l.prog) (w := w) (base := base) R60 
    have F61 := fk61 (P := l.prog) (w := w) (base := base) R61 T
    have F62 := fk62 (P := l.prog) (w := w) (base := base) R62 T F56 F57 F60
    have F63 := fk63 (P := l.prog) (w := w) (base := base) R63 T F56
    have F64 := fk64 (P := l.prog) (w := w) (base := base) R64 T F59
    have F65 := fk65 (P := l.prog) (w := w) (base := base) R65 T
    have F66 := fk66 (P := l.prog) (w := w) (base := base) R66 T F59
    have F67 := fk67 (P := l.prog) (w := w) (base := base) R67 T F59
    have F68 := fk68 (P := l.prog) (w := w) (base := base) R68 T
    have F69 := fk69 (P := l.prog) (w := w) (base := base) R69 T F60 F68 F61 F65 F66
    have F70 := fk70 (P := l.prog) (w := w) (base := base) R70 T F62 F57 F60
    have F71 := fk71 (P := l.prog) (w := w) (base := base) R71 T F56 F57 F65 F58 F67 F64 F63
    have F72 := fk72 (P := l.prog) (w := w) (base := base) R72 T F60
    have F73 := fk73 (P := l.prog) (w := w) (base := base) R73 T
    have F74 := fk74 (P := l.prog) (w := w) (base := base) R74 T F73 F61 F66
    have F75 := fk75 (P := l.prog) (w := w) (base := base) R75 T F57 F68 F60 F65
    have F76 := fk76 (P := l.prog) (w := w) (base := base) R76 T FC FI F56 F70 F71 F72 F69 F51 F53 F75 F52 F74
    exact fn77 (fun_mk l77 d77 k77) T FC FI F55 F76 F51 F52
end
theorem walk_tabs {l : PySem.W.OpenLaw} {k : Nat} {q : Program} {loose : List Str} {XP : (Str → Option Value) → Heap → Prop} {YP : World → Heap → Prop} {d : DefRec} {K : Params → PySem.W.Frag} {x : Str} (hn : l.most = some 63) (hdf : d.params.defaults = []) (hr : Room k callerA) (hY : ∀ (w : World) (h : Heap), YP w h → (K w.params).In h)
    (F : ∀ (w : World) (mg : Str → Option Value) (fa : Addr) (h : Heap), (K w.params).In h → h.Ns mainGlobals mg → mg d.name = some (.ref fa) → XP mg h →
      (∀ (y : Str) (dd : DefRec) (c P : Addr), (recsOf q).find? (fun e => e.name == y) = some dd → PySem.W.tabIn (K w.params) y = some (c, P) → PySem.W.CodeHd h c P ∧ h.get? P = some (PySem.W.tabObj #[])) → LamX.LawAtS l w (K w.params) CX0 k 63 x mg fa h) :
    PySem.W.WalkO q loose XP YP l.row.toRowW d [] (fun f vs => PySem.call f vs) := by
  refine Att.attach_callB hn hdf fun w s₀ s₁ mg mb fa o pm cd doc a vs ns G Y ho hd hcd hmg hobj hints hlen hbits hg => ?_
  have KX := hY w s₁.heap Y
  obtain ⟨fd, cs, sp, hT, nT, C, hb, hsp, hF⟩ := F w mg fa s₁.heap KX G.T.g hmg G.X fun y dd c P h1 h2 => PySem.W.tab_of G.T KX h1 h2
  exact LamX.law_callTs KX G.T.g G.T.b G.T.builtins G.T.nolimit hg hT nT C G.T.bmain hobj hints (Nat.le_trans hlen (by decide)) hr hF hb (fun H hH hS => hsp H a ns hlen hbits hH hS) fun _ _ _ z => z
end
end Z
open PySem PySem.W PyProof.Rows in
set_option maxRecDepth 100000 in
set_option maxHeartbeats 0 in
theorem PySem.Challenge.cw_formrings_k42_whole_bars_of_rings_holds : PySem.Challenge.rw_formrings_k42_whole_bars_of_rings.Holds := by
  w_on; o_law; k_head; (case hw => w_witness2)
  k_fill
  refine Z.walk_tabs (l := PySem.Challenge.rw_formrings_k42_whole_bars_of_rings) (k := 9) (x := "_law_script") rfl rfl ⟨rfl, by decide, by decide⟩ (fun w h Y => PySem.W.kIn_of Y) ?F
  case F =>
    intro w mg fa h KX G hmg hX hT
    refine' Z.all_mk KX G hmg ?R11 ?R12 ?R14 ?R16 ?R26 ?R27 ?R30 ?R32 ?R41 ?R42 ?R43 ?R44 ?R45 ?R46 ?R47 ?R48 ?R51 ?R53 ?R52 ?R55 ?R56 ?R57 ?R58 ?R59 ?R60 ?R61 ?R62 ?R63 ?R64 ?R65 ?R66 ?R67 ?R68 ?R69 ?R70 ?R71 ?R72 ?R73 ?R74 ?R75 ?R76 ?R49 ?R50 ?RI ?RD ?T ?FC ?a77 ?l77 ?d77 ?k77 ?t1 ?t2 ?n1 ?n2
    (case R11 => refine' Z.raw_mk KX G ?a ?l ?c ?k; (case a => k_is); (case l => k_is); (case c => k_is); (case k => k_is))
    (case R12 => refine' Z.raw_mk KX G ?a ?l ?c ?k; (case a => k_is); (case l => k_is); (case c => k_is); (case k => k_is))
    (case R14 => refine' Z.raw_mk KX G ?a ?l ?c ?k; (case a => k_is); (case l => k_is); (case c => k_is); (case k => k_is))
    (case R16 => refine' Z.raw_mk KX G ?a ?l ?c ?k; (case a => k_is); (case l => k_is); (case c => k_is); (case k => k_is))
    (case R26 => refine' Z.raw_mk KX G ?a ?l ?c ?k; (case a => k_is); (case l => k_is); (case c => k_is); (case k => k_is))
    (case R27 => refine' Z.raw_mk KX G ?a ?l ?c ?k; (case a => k_is); (case l => k_is); (case c => k_is); (case k => k_is))
    (case R30 => refine' Z.raw_mk KX G ?a ?l ?c ?k; (case a => k_is); (case l => k_is); (case c => k_is); (case k => k_is))
    (case R32 => refine' Z.raw_mk KX G ?a ?l ?c ?k; (case a => k_is); (case l => k_is); (case c => k_is); (case k => k_is))
    (case R41 => refine' Z.raw_mk KX G ?a ?l ?c ?k; (case a => k_is); (case l => k_is); (case c => k_is); (case k => k_is))
    (case R42 => refine' Z.raw_mk KX G ?a ?l ?c ?k; (case a => k_is); (case l => k_is); (case c => k_is); (case k => k_is))
    (case R43 => refine' Z.raw_mk KX G ?a ?l ?c ?k; (case a => k_is); (case l => k_is); (case c => k_is); (case k => k_is))
    (case R44 => refine' Z.raw_mk KX G ?a ?l ?c ?k; (case a => k_is); (case l => k_is); (case c => k_is); (case k => k_is))
    (case R45 => refine' Z.raw_mk KX G ?a ?l ?c ?k; (case a => k_is); (case l => k_is); (case c => k_is); (case k => k_is))
    (case R46 => refine' Z.raw_mk KX G ?a ?l ?c ?k; (case a => k_is); (case l => k_is); (case c => k_is); (case k => k_is))
    (case R47 => refine' Z.raw_mk KX G ?a ?l ?c ?k; (case a => k_is); (case l => k_is); (case c => k_is); (case k => k_is))
    (case R48 => refine' Z.raw_mk KX G ?a ?l ?c ?k; (case a => k_is); (case l => k_is); (case c => k_is); (case k => k_is))
    (case R51 => refine' Z.raw_mk KX G ?a ?l ?c ?k; (case a => k_is); (case l => k_is); (case c => k_is); (case k => k_is))
    (case R53 => refine' Z.raw_mk KX G ?a ?l ?c ?k; (case a => k_is); (case l => k_is); (case c => k_is); (case k => k_is))
    (case R52 => refine' Z.raw_mk KX G ?a ?l ?c ?k; (case a => k_is); (case l => k_is); (case c => k_is); (case k => k_is))
    (case R55 => refine' Z.raw_mk KX G ?a ?l ?c ?k; (case a => k_is); (case l => k_is); (case c => k_is); (case k => k_is))
    (case R56 => refine' Z.raw_mk KX G ?a ?l ?c ?k; (case a => k_is); (case l => k_is); (case c => k_is); (case k => k_is))
    (case R57 => refine' Z.raw_mk KX G ?a ?l ?c ?k; (case a => k_is); (case l => k_is); (case c => k_is); (case k => k_is))
    (case R58 => refine' Z.raw_mk KX G ?a ?l ?c ?k; (case a => k_is); (case l => k_is); (case c => k_is); (case k => k_is))
    (case R59 => refine' Z.raw_mk KX G ?a ?l ?c ?k; (case a => k_is); (case l => k_is); (case c => k_is); (case k => k_is))
    (case R60 => refine' Z.raw_mk KX G ?a ?l ?c ?k; (case a => k_is); (case l => k_is); (case c => k_is); (case k => k_is))
    (case R61 => refine' Z.raw_mk KX G ?a ?l ?c ?k; (case a => k_is); (case l => k_is); (case c => k_is); (case k => k_is))
    (case R62 => refine' Z.raw_mk KX G ?a ?l ?c ?k; (case a => k_is); (case l => k_is); (case c => k_is); (case k => k_is))
    (case R63 => refine' Z.raw_mk KX G ?a ?l ?c ?k; (case a => k_is); (case l => k_is); (case c => k_is); (case k => k_is))
    (case R64 => refine' Z.raw_mk KX G ?a ?l ?c ?k; (case a => k_is); (case l => k_is); (case c => k_is); (case k => k_is))
    (case R65 => refine' Z.raw_mk KX G ?a ?l ?c ?k; (case a => k_is); (case l => k_is); (case c => k_is); (case k => k_is))
    (case R66 => refine' Z.raw_mk KX G ?a ?l ?c ?k; (case a => k_is); (case l => k_is); (case c => k_is); (case k => k_is))
    (case R67 => refine' Z.raw_mk KX G ?a ?l ?c ?k; (case a => k_is); (case l => k_is); (case c => k_is); (case k => k_is))
    (case R68 => refine' Z.raw_mk KX G ?a ?l ?c ?k; (case a => k_is); (case l => k_is); (case c => k_is); (case k => k_is))
    (case R69 => refine' Z.raw_mk KX G ?a ?l ?c ?k; (case a => k_is); (case l => k_is); (case c => k_is); (case k => k_is))
    (case R70 => refine' Z.raw_mk KX G ?a ?l ?c ?k; (case a => k_is); (case l => k_is); (case c => k_is); (case k => k_is))
    (case R71 => refine' Z.raw_mk KX G ?a ?l ?c ?k; (case a => k_is); (case l => k_is); (case c => k_is); (case k => k_is))
    (case R72 => refine' Z.raw_mk KX G ?a ?l ?c ?k; (case a => k_is); (case l => k_is); (case c => k_is); (case k => k_is))
    (case R73 => refine' Z.raw_mk KX G ?a ?l ?c ?k; (case a => k_is); (case l => k_is); (case c => k_is); (case k => k_is))
    (case R74 => refine' Z.raw_mk KX G ?a ?l ?c ?k; (case a => k_is); (case l => k_is); (case c => k_is); (case k => k_is))
    (case R75 => refine' Z.raw_mk KX G ?a ?l ?c ?k; (case a => k_is); (case l => k_is); (case c => k_is); (case k => k_is))
    (case R76 => refine' Z.raw_mk KX G ?a ?l ?c ?k; (case a => k_is); (case l => k_is); (case c => k_is); (case k => k_is))
    (case R49 => refine' Z.rawT_mk KX G ?a ?l ?c ?k; (case a => k_is); (case l => k_is); (case c => k_is); (case k => k_is))
    (case R50 => refine' Z.rawT_mk KX G ?a ?l ?c ?k; (case a => k_is); (case l => k_is); (case c => k_is); (case k => k_is))
    (case T => refine' Z.bt_mk KX G hX ?zabs ?zall ?zbool ?zint ?zisinstance ?zlen ?zlist ?zmax ?zmin ?znext ?zrange ?zrepr ?zsorted ?ztuple ?zisqrt ?zsize ?zmxs ?zmost ?zcon ?zpla ?zend ?lend ?zF ?zK; (case zabs => k_is); (case zall => k_is); (case zbool => k_is); (case zint => k_is); (case zisinstance => k_is); (case zlen => k_is); (case zlist => k_is); (case zmax => k_is); (case zmin => k_is); (case znext => k_is); (case zrange => k_is); (case zrepr => k_is); (case zsorted => k_is); (case ztuple => k_is); (case zisqrt => k_is); (case zsize => k_is); (case zmxs => k_is); (case zmost => k_is); (case zcon => k_is); (case zpla => k_is); (case zend => k_is); (case lend => k_is); (case zF => k_is); (case zK => k_is))
    (case FC => refine' Z.fc_mk ?pg ?ic ?po ?sa ?ca ?cn ?ct ?cm ?sl ?sg ?st ?sty ?six ?da ?dg ?dt ?dr ?mk ?mi ?mf ?mkp ?nk; (case pg => k_is); (case ic => k_is); (case po => k_is); (case sa => k_is); (case ca => k_is); (case cn => k_is); (case ct => k_is); (case cm => k_is); (case sl => k_is); (case sg => k_is); (case st => k_is); (case sty => k_is); (case six => k_is); (case da => k_is); (case dg => k_is); (case dt => k_is); (case dr => k_is); (case mk => k_is); (case mi => k_is); (case mf => k_is); (case mkp => k_is); (case nk => refine' Z.kit_mk ?h1 ?h2 ?h3 ?h4 (Z.some_of ?h5); (case h1 => k_is); (case h2 => k_is); (case h3 => k_is); (case h4 => rfl); (case h5 => k_is)))
    (case RI => refine' Z.rawM_mk ?l ?c ?k; (case l => k_is); (case c => k_is); (case k => k_is))
    (case RD => refine' Z.rawM_mk ?l ?c ?k; (case l => k_is); (case c => k_is); (case k => k_is))
    (case a77 => k_is)
    (case l77 => k_is)
    (case d77 => k_is)
    (case k77 => k_is)
    (case t1 => refine' hT "bar_at" _ _ _ ?tr1 (Z.tab_mk ?ta1 ?tl1 ?tc1 ?tt1 ?tv1); (case ta1 => k_is); (case tl1 => k_is); (case tc1 => rfl); (case tt1 => k_is); (case tv1 => rfl); (case tr1 => rfl))
    (case t2 => refine' hT "first_bar" _ _ _ ?tr2 (Z.tab_mk ?ta2 ?tl2 ?tc2 ?tt2 ?tv2); (case ta2 => k_is); (case tl2 => k_is); (case tc2 => rfl); (case tt2 => k_is); (case tv2 => rfl); (case tr2 => rfl))
    (case n1 => (first | rfl | kernel_rfl | decide +kernel))
    (case n2 => (first | rfl | kernel_rfl | decide +kernel))
