import PyProof.Rows.All
import HandS.DictEq
import HandS.EndBits
import HandS.ForMost
import HandS.IsInst
import HandS.NoneIn
import HandS.RevRange
import HandS.SetFor
import HandS.SortInts
import HandS.Strs
import HandS.Style
import HandS.TupAny
import HandS.TupLe
import HandS.TupLen
import HandS.TupMul
import HandS.Wide
import HandS.Zip
import KE.DataCmp
import KE.DataEq
import KE.DataIsa
import KE.DataMinMax
import KE.GoesEnum
import KE.GoesNew
import KE.KAssignIn
import KE.KDictCopyH
import KE.KDictDisplayH
import KE.KDictZip
import KE.SortData
import PySem.Challenge.RW_flankturns_k35_whole_costs_of_ends
section
set_option Elab.async false
set_option linter.all false
set_option maxRecDepth 100000
set_option maxHeartbeats 4000000
/-! Fk1: judgements by evaluation over two abstract heaps: G never changes any more, H is all there is. -/
namespace Fk
open PySem PySem.Spec L2
open PyProof.Rows hiding St

/-! ### heaps -/
structure Grow (G H G' H' : Hp) : Prop where
  g : Same G G'
  h : Same H H'
  i : Same G' H'
  n : ∀ a o, G a = none → H a = some o → (∀ xs, o ≠ .tup xs) → G' a = none
section
variable {G H G1 H1 G2 H2 : Hp} {p : Addr} {o : HO}
theorem Grow.refl (i : Same G H) : Grow G H G H := ⟨.refl _, .refl _, i, fun _ _ h _ _ => h⟩
theorem Grow.trans (a : Grow G H G1 H1) (b : Grow G1 H1 G2 H2) : Grow G H G2 H2 :=
  ⟨a.g.trans b.g, a.h.trans b.h, b.i, fun x o h1 h2 h3 => b.n x o (a.n x o h1 h2 h3) (a.h x o h2) h3⟩
theorem same_new (hp : H p = none) : Same H (upd H p o) := fun a u e => by rw [upd_ne (ne_of_none e hp)]; exact e
theorem same_mut (e : Same G H) (hp : G p = none) : Same G (upd H p o) := fun a u h => by rw [upd_ne (ne_of_none h hp)]; exact e a u h
theorem same_both (i : Same G H) : Same (upd G p o) (upd H p o) := fun a u e => by
  by_cases q : a = p
  · subst q; rw [upd_same] at e ⊢; exact e
  · rw [upd_ne q] at e ⊢; exact i a u e
theorem Grow.new (i : Same G H) (hp : H p = none) : Grow G H (upd G p o) (upd H p o) :=
  ⟨same_new (i.free hp), same_new hp, same_both i, fun a o h1 h2 _ => by
    rw [upd_ne (ne_of_none h2 hp)]; exact h1⟩
theorem Grow.newH (i : Same G H) (hp : H p = none) : Grow G H G (upd H p o) := ⟨.refl _, same_new hp, i.trans (same_new hp), fun _ _ h _ _ => h⟩
/-- a list that is whole goes over to what never changes -/
theorem same_fix (i : Same G H) (hp : H p = some o) : Same (upd G p o) H := fun a u e => by
  by_cases q : a = p
  · subst q; rw [upd_same] at e; cases e; exact hp
  · rw [upd_ne q] at e; exact i a u e
end

/-- a premise that a walk may leave open -/
structure Side (p : Prop) : Prop where
  mk ::
  h : p

/-! ### data -/
inductive Da (G : Hp) : V → PyData → Prop
  | non : Da G .non .none
  | bl (b : Bool) : Da G (.bl b) (.bool b)
  | int (i : Int) : Da G (.int i) (.int i)
  | lst {a : Addr} {xs : List V} {ds : List PyData} (h : G a = some (.lst xs)) (hl : xs.length = ds.length) (ha : ∀ (i : Nat) (v : V) (d : PyData), xs[i]? = some v → ds[i]? = some d → Da G v d) : Da G (.ref a) (.list ds)
  | tup {a : Addr} {xs : List V} {ds : List PyData} (h : G a = some (.tup xs)) (hl : xs.length = ds.length) (ha : ∀ (i : Nat) (v : V) (d : PyData), xs[i]? = some v → ds[i]? = some d → Da G v d) : Da G (.ref a) (.tuple ds)
structure DaAll (G : Hp) (xs : List V) (ds : List PyData) : Prop where
  len : xs.length = ds.length
  at' : ∀ (i : Nat) (v : V) (d : PyData), xs[i]? = some v → ds[i]? = some d → Da G v d
section
variable {G G' H : Hp} {v : V} {d : PyData} {vs xs : List V} {ds es : List PyData} {a : Addr}
theorem Da.mono (e : Same G G') (h : Da G v d) : Da G' v d := by
  induction h with
  | non => exact .non
  | bl b => exact .bl b
  | int i => exact .int i
  | lst h hl _ ih => exact .lst (e _ _ h) hl ih
  | tup h hl _ ih => exact .tup (e _ _ h) hl ih
theorem DaAll.mono (e : Same G G') (h : DaAll G xs ds) : DaAll G' xs ds := ⟨h.len, fun i v d h1 h2 => (h.at' i v d h1 h2).mono e⟩
theorem DaAll.nil : DaAll G [] [] := ⟨rfl, fun i v d h _ => by simp at h⟩
theorem DaAll.cons (h : Da G v d) (t : DaAll G vs ds) : DaAll G (v :: vs) (d :: ds) := ⟨by simp [t.len], fun i w e h1 h2 => by
  cases i with
  | zero => simp at h1 h2; subst h1 h2; exact h
  | succ i => exact t.at' i w e (by simpa using h1) (by simpa using h2)⟩
theorem DaAll.hd (h : DaAll G (v :: vs) (d :: ds)) : Da G v d := h.at' 0 v d rfl rfl
theorem DaAll.tl (h : DaAll G (v :: vs) (d :: ds)) : DaAll G vs ds := ⟨by simpa using h.len, fun i w e h1 h2 => h.at' (i + 1) w e (by simpa using h1) (by simpa using h2)⟩
theorem DaAll.inv_nil (h : DaAll G xs []) : xs = [] := List.eq_nil_of_length_eq_zero h.len
theorem DaAll.inv_cons (h : DaAll G xs (d :: ds)) : ∃ v vs, xs = v :: vs ∧ Da G v d ∧ DaAll G vs ds := by
  cases xs with
  | nil => exact absurd h.len (by simp)
  | cons v vs => exact ⟨v, vs, rfl, h.hd, h.tl⟩
theorem DaAll.inv1 (h : DaAll G xs [d]) : ∃ v, xs = [v] ∧ Da G v d := by
  obtain ⟨v, vs, rfl, h1, h2⟩ := h.inv_cons
  cases h2.inv_nil
  exact ⟨v, rfl, h1⟩
theorem DaAll.inv2 {d e} (h : DaAll G xs [d, e]) : ∃ v w, xs = [v, w] ∧ Da G v d ∧ Da G w e := by
  obtain ⟨v, vs, rfl, h1, h2⟩ := h.inv_cons
  obtain ⟨w, rfl, h3⟩ := h2.inv1
  exact ⟨v, w, rfl, h1, h3⟩
theorem DaAll.inv3 {d e f} (h : DaAll G xs [d, e, f]) : ∃ v w u, xs = [v, w, u] ∧ Da G v d ∧ Da G w e ∧ Da G u f := by
  obtain ⟨v, vs, rfl, h1, h2⟩ := h.inv_cons
  obtain ⟨w, u, rfl, h3, h4⟩ := h2.inv2
  exact ⟨v, w, u, rfl, h1, h3, h4⟩
theorem DaAll.inv4 {d e f g} (h : DaAll G xs [d, e, f, g]) : ∃ v w u t, xs = [v, w, u, t] ∧ Da G v d ∧ Da G w e ∧ Da G u f ∧ Da G t g := by
  obtain ⟨v, vs, rfl, h1, h2⟩ := h.inv_cons
  obtain ⟨w, u, t, rfl, h3, h4, h5⟩ := h2.inv3
  exact ⟨v, w, u, t, rfl, h1, h3, h4, h5⟩
theorem DaAll.app (h : DaAll G xs ds) (t : DaAll G vs es) : DaAll G (xs ++ vs) (ds ++ es) := ⟨by simp [h.len, t.len], fun i w e h1 h2 => by
  have hl := h.len
  by_cases q : i < xs.length
  · rw [List.getElem?_append_left q] at h1
    rw [List.getElem?_append_left (by omega)] at h2
    exact h.at' i w e h1 h2
  · rw [List.getElem?_append_right (by omega)] at h1
    rw [List.getElem?_append_right (by omega)] at h2
    rw [hl] at h1
    exact t.at' _ w e h1 h2⟩
theorem DaAll.snoc (h : DaAll G xs ds) (t : Da G v d) : DaAll G (xs ++ [v]) (ds ++ [d]) := h.app (.cons t .nil)
theorem DaAll.get {i : Nat} (h : DaAll G xs ds) (e : ds[i]? = some d) : ∃ v, xs[i]? = some v ∧ Da G v d := by
  have hi := (List.getElem?_eq_some_iff.mp e).1
  have hx : i < xs.length := by rw [h.len]; exact hi
  exact ⟨xs[i], List.getElem?_eq_getElem hx, h.at' i _ _ (List.getElem?_eq_getElem hx) e⟩
theorem DaAll.set {i : Nat} (h : DaAll G xs ds) (t : Da G v d) : DaAll G (xs.set i v) (ds.set i d) := ⟨by simp [h.len], fun j w e h1 h2 => by
  by_cases q : i = j
  · subst q
    have hi : i < xs.length := by
      have := (List.getElem?_eq_some_iff.mp h1).1
      simpa using this
    rw [List.getElem?_set_self hi] at h1
    rw [List.getElem?_set_self (by rw [← h.len]; exact hi)] at h2
    cases h1; cases h2; exact t
  · rw [List.getElem?_set_ne q] at h1 h2
    exact h.at' j w e h1 h2⟩
theorem DaAll.drop (n : Nat) (h : DaAll G xs ds) : DaAll G (xs.drop n) (ds.drop n) := ⟨by simp [h.len], fun i w e h1 h2 => by
  rw [List.getElem?_drop] at h1 h2
  exact h.at' _ w e h1 h2⟩
theorem DaAll.take (n : Nat) (h : DaAll G xs ds) : DaAll G (xs.take n) (ds.take n) := ⟨by simp [h.len], fun i w e h1 h2 => by
  rw [List.getElem?_take] at h1 h2
  split at h1
  · rename_i q
    rw [if_pos q] at h2
    exact h.at' _ w e h1 h2
  · cases h1⟩
theorem DaAll.lst (h : G a = some (.lst xs)) (t : DaAll G xs ds) : Da G (.ref a) (.list ds) := .lst h t.len t.at'
theorem DaAll.tup (h : G a = some (.tup xs)) (t : DaAll G xs ds) : Da G (.ref a) (.tuple ds) := .tup h t.len t.at'
theorem Da.inv_lst (h : Da G v (.list ds)) : ∃ a xs, v = .ref a ∧ G a = some (.lst xs) ∧ DaAll G xs ds := by
  cases h with
  | lst h hl ha => exact ⟨_, _, rfl, h, hl, ha⟩
theorem Da.inv_tup (h : Da G v (.tuple ds)) : ∃ a xs, v = .ref a ∧ G a = some (.tup xs) ∧ DaAll G xs ds := by
  cases h with
  | tup h hl ha => exact ⟨_, _, rfl, h, hl, ha⟩
theorem Da.inv_int {i : Int} (h : Da G v (.int i)) : v = .int i := by cases h; rfl
theorem Da.inv_bl {b : Bool} (h : Da G v (.bool b)) : v = .bl b := by cases h; rfl
theorem Da.inv_non (h : Da G v .none) : v = .non := by cases h; rfl
theorem DaAll.inv_ints {ns : List Int} (h : DaAll G xs (ns.map .int)) : xs = ns.map V.int := by
  induction ns generalizing xs with
  | nil => exact h.inv_nil
  | cons n ns ih =>
    obtain ⟨v, vs, rfl, h1, h2⟩ := DaAll.inv_cons (d := .int n) (ds := ns.map .int) h
    rw [h1.inv_int, ih h2]; rfl
theorem DaAll.ints (ns : List Int) : DaAll G (ns.map V.int) (ns.map .int) := ⟨by simp, fun i w e h1 h2 => by
  rw [List.getElem?_map] at h1 h2
  cases q : ns[i]? with
  | none => rw [q] at h1; simp at h1
  | some n => rw [q] at h1 h2; simp at h1 h2; subst h1 h2; exact .int n⟩
theorem DaAll.inv_bls {ns : List Bool} (h : DaAll G xs (ns.map .bool)) : xs = ns.map V.bl := by
  induction ns generalizing xs with
  | nil => exact h.inv_nil
  | cons n ns ih =>
    obtain ⟨v, vs, rfl, h1, h2⟩ := DaAll.inv_cons (d := .bool n) (ds := ns.map .bool) h
    rw [h1.inv_bl, ih h2]; rfl
theorem dpAll_of {K : PySem.W.Frag} : ∀ {xs : List V} {ds : List PyData}, xs.length = ds.length → (∀ (i : Nat) (v : V) (d : PyData), xs[i]? = some v → ds[i]? = some d → Dp K G v d) → DpAll K G xs ds
  | [], [], _, _ => .nil
  | [], _ :: _, h, _ => absurd h (by simp)
  | _ :: _, [], h, _ => absurd h (by simp)
  | v :: vs, d :: ds, h, f => .cons (f 0 v d rfl rfl) (dpAll_of (by simpa using h) fun i w e h1 h2 => f (i + 1) w e (by simpa using h1) (by simpa using h2))
theorem Da.dp {K : PySem.W.Frag} (h : Da G v d) : Dp K G v d := by
  induction h with
  | non => exact .non
  | bl b => exact .bl b
  | int i => exact .int i
  | lst h hl _ ih => exact .lst (SqL.of h) (dpAll_of hl ih)
  | tup h hl _ ih => exact .tup (SqT.of h) (dpAll_of hl ih)
theorem plainAll_of : ∀ {ds : List PyData}, (∀ d ∈ ds, d.plain = true) → PyData.plainAll ds = true
  | [], _ => by rw [PyData.plainAll]
  | d :: ds, h => by rw [PyData.plainAll, h d (by simp), plainAll_of fun e he => h e (by simp [he])]; rfl
theorem Da.plain (h : Da G v d) : d.plain = true := by
  induction h with
  | non => rw [PyData.plain]
  | bl b => rw [PyData.plain]
  | int i => rw [PyData.plain]
  | lst h hl _ ih =>
    rw [PyData.plain]
    refine plainAll_of fun d hd => ?_
    obtain ⟨i, hi⟩ := List.mem_iff_getElem?.mp hd
    have hi2 := (List.getElem?_eq_some_iff.mp hi).1
    exact ih i _ d (List.getElem?_eq_getElem (by omega)) hi
  | tup h hl _ ih =>
    rw [PyData.plain]
    refine plainAll_of fun d hd => ?_
    obtain ⟨i, hi⟩ := List.mem_iff_getElem?.mp hd
    have hi2 := (List.getElem?_eq_some_iff.mp hi).1
    exact ih i _ d (List.getElem?_eq_getElem (by omega)) hi
theorem Da.reads {X : Cx} {pins : List (Addr × Obj)} {σ : St} {s : Shared} {u : Value} (h : Da G v d) (i : Same G H) (I : Inv X pins σ H s) (r : RelV v u) : ∃ as, Reads s.heap u d as := Dp.reads I d v u (h.mono i).dp r
end

/-! ### the semantics of a piece of syntax, as its own reading -/
section
variable {X : Cx}
def RE (X : Cx) (e : Expr) : TE := fun σ H Q => ∀ pins s, Inv X pins σ H s → wpAny (model X.prog X.w) X.A (eval e X.env) (EP X pins σ Q) X.xe s
def RT (X : Cx) (e : Expr) : TT := fun σ H Q => ∀ pins s, Inv X pins σ H s → wpAny (model X.prog X.w) X.A (isTrue e X.env (eval e X.env)) (TP X pins σ Q) X.xe s
def RW (X : Cx) (e : Expr) : TT := fun σ H Q => ∀ (whole : Sem Value) pins s, Inv X pins σ H s → wpAny (model X.prog X.w) X.A (isTrue e X.env whole) (TP X pins σ Q) X.xe s
def RA (X : Cx) (es : List Expr) : TA := fun σ H Q => ∀ (pos : Pos) pins s, Inv X pins σ H s → wpAny (model X.prog X.w) X.A (spliced (backTo pos (starEach es X.env))) (AP X pins σ Q) X.xe s
def RS (X : Cx) (st : Stmt) : TS := fun D σ H => ∀ pins s, Inv X pins σ H s → wpAny (model X.prog X.w) X.A (exec st X.env) (SP X pins D) X.xe s
def RB (X : Cx) (st : List Stmt) : TS := fun D σ H => ∀ pins s, Inv X pins σ H s → wpAny (model X.prog X.w) X.A (execs st X.env) (SP X pins D) X.xe s
def RG (X : Cx) (tg : Expr) : TG := fun v σ H Q => ∀ pins s u, Inv X pins σ H s → RelV v u → wpAny (model X.prog X.w) X.A (assign tg X.env u) (fun _ s' => ∃ σ' H', Inv X pins σ' H' s' ∧ Q σ' H') X.xe s
theorem pe_self {e : Expr} : PE X e (RE X e) := ⟨fun pins s _ _ _ I h => h pins s I⟩
theorem pt_self {e : Expr} : PT X e (RT X e) := ⟨fun pins s _ _ _ I h => h pins s I⟩
theorem pw_self {e : Expr} : PW X e (RW X e) := ⟨fun wh pins s _ _ _ I h => h wh pins s I⟩
theorem pa_self {es : List Expr} : PA X es (RA X es) := ⟨fun pos pins s _ _ _ I h => h pos pins s I⟩
theorem ps_self {st : Stmt} : PS X st (RS X st) := ⟨fun pins s _ _ _ I h => h pins s I⟩
theorem pss_self {st : List Stmt} : PSs X st (RB X st) := ⟨fun pins s _ _ _ I h => h pins s I⟩
theorem pg_self {tg : Expr} : PG X tg (RG X tg) := ⟨fun pins s _ _ _ u _ I r h => h pins s u I r⟩
variable {e : Expr} {es : List Expr} {st : Stmt} {sts : List Stmt} {σ : St} {H : Hp}
theorem re_of {t : TE} {Q : VK} (p : PE X e t) (h : t σ H Q) : RE X e σ H Q := fun pins s I => p.run pins s σ H Q I h
theorem rt_of {t : TT} {Q : Bool → Hp → Prop} (p : PT X e t) (h : t σ H Q) : RT X e σ H Q := fun pins s I => p.run pins s σ H Q I h
theorem rw_of {t : TT} {Q : Bool → Hp → Prop} (p : PW X e t) (h : t σ H Q) : RW X e σ H Q := fun wh pins s I => p.run wh pins s σ H Q I h
theorem ra_of {t : TA} {Q : List V → Hp → Prop} (p : PA X es t) (h : t σ H Q) : RA X es σ H Q := fun pos pins s I => p.run pos pins s σ H Q I h
theorem rs_of {t : TS} {D : Ends} (p : PS X st t) (h : t D σ H) : RS X st D σ H := fun pins s I => p.run pins s σ H D I h
theorem rb_of {t : TS} {D : Ends} (p : PSs X sts t) (h : t D σ H) : RB X sts D σ H := fun pins s I => p.run pins s σ H D I h
theorem rg_of {tg : Expr} {t : TG} {v : V} {Q : St → Hp → Prop} (p : PG X tg t) (h : t v σ H Q) : RG X tg v σ H Q := fun pins s u I r => p.run pins s σ H v u Q I r h
end

/-! ### judgements: what an expression evaluates to -/
/-- to something of which P holds -/
structure Ep (X : Cx) (σ : St) (G H : Hp) (e : Expr) (P : V → Hp → Hp → Prop) : Prop where
  run : ∀ G1 H1, Grow G H G1 H1 → ∀ Q : VK, (∀ v G2 H2, Grow G1 H1 G2 H2 → P v G2 H2 → Q v H2) → RE X e σ H1 Q
/-- to a datum -/
structure Ed (X : Cx) (σ : St) (G H : Hp) (e : Expr) (d : PyData) : Prop where
  run : ∀ G1 H1, Grow G H G1 H1 → ∀ Q : VK, (∀ v G2 H2, Grow G1 H1 G2 H2 → Da G2 v d → Q v H2) → RE X e σ H1 Q
/-- to a known value -/
structure Er (X : Cx) (σ : St) (G H : Hp) (e : Expr) (v : V) : Prop where
  run : ∀ G1 H1, Grow G H G1 H1 → ∀ Q : VK, (∀ G2 H2, Grow G1 H1 G2 H2 → Q v H2) → RE X e σ H1 Q
/-- to a new list that may still change -/
structure En (X : Cx) (σ : St) (G H : Hp) (e : Expr) (ds : List PyData) : Prop where
  run : ∀ G1 H1, Grow G H G1 H1 → ∀ Q : VK, (∀ p xs G2 H2, Grow G1 H1 G2 H2 → H1 p = none → G2 p = none → H2 p = some (.lst xs) → DaAll G2 xs ds → Q (.ref p) H2) → RE X e σ H1 Q
/-- a test -/
structure Et (X : Cx) (σ : St) (G H : Hp) (e : Expr) (b : Bool) : Prop where
  run : ∀ G1 H1, Grow G H G1 H1 → ∀ Q : Bool → Hp → Prop, (∀ G2 H2, Grow G1 H1 G2 H2 → Q b H2) → RT X e σ H1 Q
/-- a chain of and, or -/
structure Ew (X : Cx) (σ : St) (G H : Hp) (e : Expr) (b : Bool) : Prop where
  run : ∀ G1 H1, Grow G H G1 H1 → ∀ Q : Bool → Hp → Prop, (∀ G2 H2, Grow G1 H1 G2 H2 → Q b H2) → RW X e σ H1 Q
/-- arguments that are data -/
structure Ea (X : Cx) (σ : St) (G H : Hp) (es : List Expr) (ds : List PyData) : Prop where
  run : ∀ G1 H1, Grow G H G1 H1 → ∀ Q : List V → Hp → Prop, (∀ vs G2 H2, Grow G1 H1 G2 H2 → DaAll G2 vs ds → Q vs H2) → RA X es σ H1 Q
/-- a comparison -/
structure Cm (X : Cx) (σ : St) (G H : Hp) (op : CmpOp) (a b : Expr) (c : Bool) : Prop where
  run : ∃ r, OpR X (compareOp op) r ∧ ∀ G1 H1, Grow G H G1 H1 → ∀ Q : VK, (∀ G2 H2, Grow G1 H1 G2 H2 → Q (.bl c) H2) → tOp r (RE X a) (RE X b) σ H1 Q

section
variable {X : Cx} {σ : St} {G H G' H' : Hp} {e a b c : Expr} {d d' : PyData} {pos p : Pos} {es rest : List Expr}
theorem Ed.mono (g : Grow G H G' H') (h : Ed X σ G H e d) : Ed X σ G' H' e d := ⟨fun G1 H1 g1 => h.run G1 H1 (g.trans g1)⟩
theorem Er.mono {v : V} (g : Grow G H G' H') (h : Er X σ G H e v) : Er X σ G' H' e v := ⟨fun G1 H1 g1 => h.run G1 H1 (g.trans g1)⟩
theorem Et.mono {b : Bool} (g : Grow G H G' H') (h : Et X σ G H e b) : Et X σ G' H' e b := ⟨fun G1 H1 g1 => h.run G1 H1 (g.trans g1)⟩
theorem Ep.mono {P} (g : Grow G H G' H') (h : Ep X σ G H e P) : Ep X σ G' H' e P := ⟨fun G1 H1 g1 => h.run G1 H1 (g.trans g1)⟩
theorem Ed.is (h : Ed X σ G H e d) (q : d = d') : Ed X σ G H e d' := q ▸ h
theorem Et.is {b b' : Bool} (h : Et X σ G H e b) (q : b = b') : Et X σ G H e b' := q ▸ h

/-! names and constants -/
def lk : List Str → St → Str → Option V
  | n :: ns, v :: vs, x => if (n == x) = true then v else lk ns vs x
  | _, _, _ => none
theorem lk_ix : ∀ {ns : List Str} {vs : St} {x : Str} {v : V}, lk ns vs x = some v → ∃ i : Nat, ns[i]? = some x ∧ vs[i]? = some (some v)
  | [], _, _, _, h => by simp [lk] at h
  | _ :: _, [], _, _, h => by simp [lk] at h
  | n :: ns, w :: vs, x, v, h => by
    unfold lk at h
    split at h
    · rename_i q
      exact ⟨0, by simpa using q, by simpa using h⟩
    · obtain ⟨i, h1, h2⟩ := lk_ix h
      exact ⟨i + 1, by simpa using h1, by simpa using h2⟩
theorem re_nm {x : Str} {v : V} {Q : VK} (h : lk X.N σ x = some v) (hv : Vis X.env.scope x) (q : Q v H) (hd : (x == ("__debug__" : Str)) = false) (hcd : (x == ("__classdict__" : Str)) = false) : RE X (.Name x pos) σ H Q := by
  obtain ⟨i, h1, h2⟩ := lk_ix h
  exact re_of (pe_var h1 hv hd hcd) ⟨v, h2, q⟩
theorem ed_nm {x : Str} {v : V} (h : lk X.N σ x = some v) (hd : Da G v d) (hv : Vis X.env.scope x := by first | exact Or.inl rfl | exact Or.inr (Or.inl rfl) | exact Or.inr (Or.inr rfl))
    (h1 : (x == ("__debug__" : Str)) = false := by decide) (h2 : (x == ("__classdict__" : Str)) = false := by decide) : Ed X σ G H (.Name x pos) d :=
  ⟨fun G1 H1 g Q q => re_nm h hv (q v G1 H1 (.refl g.i) (hd.mono g.g)) h1 h2⟩
theorem er_nm {x : Str} {v : V} (h : lk X.N σ x = some v) (hv : Vis X.env.scope x := by first | exact Or.inl rfl | exact Or.inr (Or.inl rfl) | exact Or.inr (Or.inr rfl))
    (h1 : (x == ("__debug__" : Str)) = false := by decide) (h2 : (x == ("__classdict__" : Str)) = false := by decide) : Er X σ G H (.Name x pos) v :=
  ⟨fun G1 H1 g Q q => re_nm h hv (q G1 H1 (.refl g.i)) h1 h2⟩
theorem ed_glob {x : Str} {i : Int} {u : Value} (hm : X.mg x = some u) (r : RelV (.int i) u) (hg : Gl X x := by rfl) (hd : (x == ("__debug__" : Str)) = false := by decide) : Ed X σ G H (.Name x pos) (.int i) :=
  ⟨fun G1 H1 g Q q => re_of (pe_glob hg hm r hd) (q _ G1 H1 (.refl g.i) (.int i))⟩
theorem ed_int {i : Int} {j} : Ed X σ G H (.Constant (.int i) j pos) (.int i) := ⟨fun G1 H1 g Q q => re_of pe_int (q _ G1 H1 (.refl g.i) (.int i))⟩
theorem ed_bl {i : Bool} {j} : Ed X σ G H (.Constant (.bool i) j pos) (.bool i) := ⟨fun G1 H1 g Q q => re_of pe_bl (q _ G1 H1 (.refl g.i) (.bl i))⟩
theorem ed_non {j} : Ed X σ G H (.Constant .none j pos) .none := ⟨fun G1 H1 g Q q => re_of pe_non (q _ G1 H1 (.refl g.i) .non)⟩

/-! two operands -/
theorem op_core {r : R2} {P : V → Hp → Prop} (ha : Ed X σ G H a d) (hb : Ed X σ G H b d')
    (hr : ∀ x y G2 H2, Grow G H G2 H2 → Da G2 x d → Da G2 y d' → ∀ Q : VK, (∀ v G3 H3, Grow G2 H2 G3 H3 → P v G3 → Q v H3) → r x y H2 Q) :
    ∀ G1 H1, Grow G H G1 H1 → ∀ Q : VK, (∀ v G2 H2, Grow G1 H1 G2 H2 → P v G2 → Q v H2) → tOp r (RE X a) (RE X b) σ H1 Q := fun G1 H1 g Q k =>
  ha.run G1 H1 g _ fun x G2 H2 g2 dx => hb.run G2 H2 (g.trans g2) _ fun y G3 H3 g3 dy =>
    hr x y G3 H3 (g.trans (g2.trans g3)) (dx.mono g3.g) dy Q fun v G4 H4 g4 p => k v G4 H4 (g2.trans (g3.trans g4)) p
theorem ed_op {op : Operator} {r : R2} {f : PyData} (ho : OpR X (binaryOp op) r) (ha : Ed X σ G H a d) (hb : Ed X σ G H b d')
    (hr : ∀ x y G2 H2, Grow G H G2 H2 → Da G2 x d → Da G2 y d' → ∀ Q : VK, (∀ v G3 H3, Grow G2 H2 G3 H3 → Da G3 v f → Q v H3) → r x y H2 Q) : Ed X σ G H (.BinOp a op b pos) f :=
  ⟨fun G1 H1 g Q q => re_of (pe_op ho pe_self pe_self) (op_core (P := fun v G => Da G v f) ha hb hr G1 H1 g Q q)⟩
theorem ed_add {i j : Int} (ha : Ed X σ G H a (.int i)) (hb : Ed X σ G H b (.int j)) : Ed X σ G H (.BinOp a .Add b pos) (.int (i + j)) :=
  ed_op op_add ha hb fun x y G2 H2 g dx dy Q q => ⟨i, j, dx.inv_int, dy.inv_int, q _ G2 H2 (.refl g.i) (.int _)⟩
theorem ed_sub {i j : Int} (ha : Ed X σ G H a (.int i)) (hb : Ed X σ G H b (.int j)) : Ed X σ G H (.BinOp a .Sub b pos) (.int (i - j)) :=
  ed_op op_sub ha hb fun x y G2 H2 g dx dy Q q => ⟨i, j, dx.inv_int, dy.inv_int, q _ G2 H2 (.refl g.i) (.int _)⟩
theorem ed_mul {i j : Int} (ha : Ed X σ G H a (.int i)) (hb : Ed X σ G H b (.int j)) (hc : CMul i j) : Ed X σ G H (.BinOp a .Mult b pos) (.int (i * j)) :=
  ed_op op_mul ha hb fun x y G2 H2 g dx dy Q q => ⟨i, j, dx.inv_int, dy.inv_int, hc, q _ G2 H2 (.refl g.i) (.int _)⟩
theorem ed_mod {i j : Int} (ha : Ed X σ G H a (.int i)) (hb : Ed X σ G H b (.int j)) (hc : Side (0 < j)) : Ed X σ G H (.BinOp a .Mod b pos) (.int (i % j)) :=
  ed_op op_mod ha hb fun x y G2 H2 g dx dy Q q => ⟨i, j, dx.inv_int, dy.inv_int, hc.h, q _ G2 H2 (.refl g.i) (.int _)⟩
theorem ed_pow {i j : Int} (ha : Ed X σ G H a (.int i)) (hb : Ed X σ G H b (.int j)) (hc : CPow i j) : Ed X σ G H (.BinOp a .Pow b pos) (.int (i ^ j.toNat)) :=
  ed_op op_pow ha hb fun x y G2 H2 g dx dy Q q => ⟨i, j, dx.inv_int, dy.inv_int, hc, q _ G2 H2 (.refl g.i) (.int _)⟩
/-- list + list -/
theorem ed_cat {as bs : List PyData} (ha : Ed X σ G H a (.list as)) (hb : Ed X σ G H b (.list bs)) (hz : Side (as.length + bs.length ≤ sizeLine)) : Ed X σ G H (.BinOp a .Add b pos) (.list (as ++ bs)) :=
  ed_op op_cat ha hb fun x y G2 H2 g dx dy Q q => by
    obtain ⟨l, xs, rfl, hl, hx⟩ := dx.inv_lst
    obtain ⟨m, ys, rfl, hm, hy⟩ := dy.inv_lst
    exact ⟨l, m, xs, ys, rfl, rfl, g.i _ _ hl, g.i _ _ hm, by rw [hx.len, hy.len]; exact hz.h, fun p hp => q _ _ _ (.new g.i hp) (DaAll.lst upd_same ((hx.app hy).mono (same_new (g.i.free hp))))⟩
/-- tuple + tuple -/
theorem ed_catT {as bs : List PyData} (ha : Ed X σ G H a (.tuple as)) (hb : Ed X σ G H b (.tuple bs)) (hz : Side (as.length + bs.length ≤ sizeLine)) : Ed X σ G H (.BinOp a .Add b pos) (.tuple (as ++ bs)) :=
  ed_op op_catA ha hb fun x y G2 H2 g dx dy Q q => by
    obtain ⟨l, xs, rfl, hl, hx⟩ := dx.inv_tup
    obtain ⟨m, ys, rfl, hm, hy⟩ := dy.inv_tup
    refine ⟨l, m, xs, ys, rfl, rfl, .of (g.i _ _ hl), .of (g.i _ _ hm), by rw [hx.len, hy.len]; exact hz.h, fun e => ?_, fun _ e => ?_, fun _ _ p hp => q _ _ _ (.new g.i hp) (DaAll.tup upd_same ((hx.app hy).mono (same_new (g.i.free hp))))⟩
    · have e2 : as = [] := List.eq_nil_of_length_eq_zero (by rw [← hx.len, e]; rfl)
      subst e2
      exact q _ G2 H2 (.refl g.i) (DaAll.tup hm hy)
    · have e2 : bs = [] := List.eq_nil_of_length_eq_zero (by rw [← hy.len, e]; rfl)
      subst e2
      rw [List.append_nil] at q
      exact q _ G2 H2 (.refl g.i) (DaAll.tup hl hx)

/-! comparisons -/
theorem ed_cmp {op : CmpOp} {k : Bool} (h : Cm X σ G H op a b k) (hm : behindInMarks op b = false := by first | exact nomark _ | with_unfolding_all rfl) : Ed X σ G H (.Compare a [op] [b] pos) (.bool k) := by
  obtain ⟨r, ho, h⟩ := h.run
  exact ⟨fun G1 H1 g Q q => re_of (pe_cmpR ho pe_self pe_self hm) (h G1 H1 g Q fun G2 H2 g2 => q _ G2 H2 g2 (.bl k))⟩
theorem et_cmp {op : CmpOp} {k : Bool} (h : Cm X σ G H op a b k) (hm : behindInMarks op b = false := by first | exact nomark _ | with_unfolding_all rfl) : Et X σ G H (.Compare a [op] [b] pos) k := by
  obtain ⟨r, ho, h⟩ := h.run
  exact ⟨fun G1 H1 g Q q => rt_of (pt_cmpR ho pe_self pe_self hm) (h G1 H1 g _ fun G2 H2 g2 => ⟨k, rfl, q G2 H2 g2⟩)⟩
theorem cm_of {op : CmpOp} {r : R2} {k : Bool} (ho : OpR X (compareOp op) r) (ha : Ed X σ G H a d) (hb : Ed X σ G H b d')
    (hr : ∀ x y G2 H2, Grow G H G2 H2 → Da G2 x d → Da G2 y d' → ∀ Q : VK, Q (.bl k) H2 → r x y H2 Q) : Cm X σ G H op a b k :=
  ⟨r, ho, fun G1 H1 g Q q => op_core (P := fun v _ => v = .bl k) ha hb (fun x y G2 H2 g2 dx dy Q q => hr x y G2 H2 g2 dx dy Q (q _ G2 H2 (.refl g2.i) rfl)) G1 H1 g Q fun v G2 H2 g2 e => e ▸ q G2 H2 g2⟩
theorem cm_lt {i j : Int} (ha : Ed X σ G H a (.int i)) (hb : Ed X σ G H b (.int j)) : Cm X σ G H .Lt a b (decide (i < j)) := cm_of op_lt ha hb fun _ _ _ _ _ dx dy _ q => ⟨i, j, dx.inv_int, dy.inv_int, q⟩
theorem cm_le {i j : Int} (ha : Ed X σ G H a (.int i)) (hb : Ed X σ G H b (.int j)) : Cm X σ G H .LtE a b (decide (i ≤ j)) := cm_of op_le ha hb fun _ _ _ _ _ dx dy _ q => ⟨i, j, dx.inv_int, dy.inv_int, q⟩
theorem cm_gt {i j : Int} (ha : Ed X σ G H a (.int i)) (hb : Ed X σ G H b (.int j)) : Cm X σ G H .Gt a b (decide (j < i)) := cm_of op_gt ha hb fun _ _ _ _ _ dx dy _ q => ⟨i, j, dx.inv_int, dy.inv_int, q⟩
theorem cm_ge {i j : Int} (ha : Ed X σ G H a (.int i)) (hb : Ed X σ G H b (.int j)) : Cm X σ G H .GtE a b (decide (j ≤ i)) := cm_of op_ge ha hb fun _ _ _ _ _ dx dy _ q => ⟨i, j, dx.inv_int, dy.inv_int, q⟩
end
end Fk
end
section
set_option Elab.async false
set_option linter.all false
set_option maxRecDepth 100000
set_option maxHeartbeats 4000000
/-! Fk2: comparisons, tests, displays, subscripts, slices, built-in calls, own calls. -/
namespace Fk
open PySem PySem.Spec L2
open PyProof.Rows hiding St

section
variable {X : Cx} {σ : St} {G H G' H' : Hp} {e a b c : Expr} {d d' : PyData} {pos p : Pos} {es rest : List Expr}

/-! comparisons of data -/
theorem opEq : OpR X (compareOp .Eq) (fun x y H Q => ∃ d e, Da H x d ∧ Da H y e ∧ X.A.units + min d.depth e.depth < cLine ∧ Q (.bl (PyData.eqv d e)) H) := by
  intro pins s σ H x y v u Q I rx ry h
  obtain ⟨d, e, hd, he, hu, q⟩ := h
  obtain ⟨as, r1⟩ := hd.reads (.refl _) I rx
  obtain ⟨bs, r2⟩ := he.reads (.refl _) I ry
  exact PySem.SeqAt.eq_plain r1 r2 hd.plain he.plain hu ⟨.bl _, H, I, rfl, q⟩
theorem opNe : OpR X (compareOp .NotEq) (fun x y H Q => ∃ d e, Da H x d ∧ Da H y e ∧ X.A.units + min d.depth e.depth < cLine ∧ Q (.bl (!PyData.eqv d e)) H) := by
  intro pins s σ H x y v u Q I rx ry h
  obtain ⟨d, e, hd, he, hu, q⟩ := h
  obtain ⟨as, r1⟩ := hd.reads (.refl _) I rx
  obtain ⟨bs, r2⟩ := he.reads (.refl _) I ry
  exact PySem.SeqAt.ne_plain r1 r2 hd.plain he.plain hu ⟨.bl _, H, I, rfl, q⟩
theorem opLtD : OpR X (compareOp .Lt) (fun x y H Q => ∃ d e, Da H x d ∧ Da H y e ∧ PySem.W.alike d e = true ∧ d ≠ .none ∧ X.A.units + min d.depth e.depth < cLine ∧ Q (.bl (PySem.W.dataLt d e)) H) := by
  intro pins s σ H x y v u Q I rx ry h
  obtain ⟨d, e, hd, he, ha, hn, hu, q⟩ := h
  obtain ⟨as, r1⟩ := hd.reads (.refl _) I rx
  obtain ⟨bs, r2⟩ := he.reads (.refl _) I ry
  exact PySem.W.lt_data r1 r2 ha hn hu ⟨.bl _, H, I, rfl, q⟩
theorem opIn : OpR X (compareOp .In) (fun x y H Q => ∃ d ds, Da H x d ∧ (Da H y (.list ds) ∨ Da H y (.tuple ds)) ∧ d.depth = 0 ∧ X.A.units + 1 < cLine ∧ Q (.bl (ds.any fun y => PyData.eqv y d)) H) := by
  intro pins s σ H x y v u Q I rx ry h
  obtain ⟨d, ds, hd, he, hz, hu, q⟩ := h
  obtain ⟨as, r1⟩ := hd.reads (.refl _) I rx
  have hu' : X.A.units + 1 + min (PyData.depthAll ds) d.depth < cLine := by rw [hz]; omega
  rcases he with he | he
  · obtain ⟨bs, r2⟩ := he.reads (.refl _) I ry
    have hp := he.plain
    rw [PyData.plain] at hp
    exact PySem.SeqAt.in_list_data r2 r1 hp hd.plain hu' ⟨.bl _, H, I, rfl, q⟩
  · obtain ⟨bs, r2⟩ := he.reads (.refl _) I ry
    have hp := he.plain
    rw [PyData.plain] at hp
    exact PySem.SeqAt.in_tuple_data r2 r1 hp hd.plain hu' ⟨.bl _, H, I, rfl, q⟩
theorem opNotIn : OpR X (compareOp .NotIn) (fun x y H Q => ∃ d ds, Da H x d ∧ (Da H y (.list ds) ∨ Da H y (.tuple ds)) ∧ d.depth = 0 ∧ X.A.units + 1 < cLine ∧ Q (.bl (!ds.any fun y => PyData.eqv y d)) H) := by
  intro pins s σ H x y v u Q I rx ry h
  obtain ⟨d, ds, hd, he, hz, hu, q⟩ := h
  obtain ⟨as, r1⟩ := hd.reads (.refl _) I rx
  have hu' : X.A.units + 1 + min (PyData.depthAll ds) d.depth < cLine := by rw [hz]; omega
  rcases he with he | he
  · obtain ⟨bs, r2⟩ := he.reads (.refl _) I ry
    have hp := he.plain
    rw [PyData.plain] at hp
    exact PySem.SeqAt.notIn_list_data r2 r1 hp hd.plain hu' ⟨.bl _, H, I, rfl, q⟩
  · obtain ⟨bs, r2⟩ := he.reads (.refl _) I ry
    have hp := he.plain
    rw [PyData.plain] at hp
    exact PySem.SeqAt.notIn_tuple_data r2 r1 hp hd.plain hu' ⟨.bl _, H, I, rfl, q⟩
theorem cm_eq {k : Nat} (hr : Room k X.A) (ha : Ed X σ G H a d) (hb : Ed X σ G H b d') (hd : min d.depth d'.depth ≤ 64) : Cm X σ G H .Eq a b (PyData.eqv d d') :=
  cm_of opEq ha hb fun x y G2 H2 g dx dy Q q => ⟨d, d', dx.mono g.i, dy.mono g.i, by have := hr.un; omega, q⟩
theorem cm_ne {k : Nat} (hr : Room k X.A) (ha : Ed X σ G H a d) (hb : Ed X σ G H b d') (hd : min d.depth d'.depth ≤ 64) : Cm X σ G H .NotEq a b (!PyData.eqv d d') :=
  cm_of opNe ha hb fun x y G2 H2 g dx dy Q q => ⟨d, d', dx.mono g.i, dy.mono g.i, by have := hr.un; omega, q⟩
theorem cm_ltD {k : Nat} (hr : Room k X.A) (ha : Ed X σ G H a d) (hb : Ed X σ G H b d') (hk : PySem.W.alike d d' = true) (hn : d ≠ .none) (hd : min d.depth d'.depth ≤ 64) : Cm X σ G H .Lt a b (PySem.W.dataLt d d') :=
  cm_of opLtD ha hb fun x y G2 H2 g dx dy Q q => ⟨d, d', dx.mono g.i, dy.mono g.i, hk, hn, by have := hr.un; omega, q⟩
theorem cm_inL {k : Nat} {ds : List PyData} (hr : Room k X.A) (ha : Ed X σ G H a d) (hb : Ed X σ G H b (.list ds)) (hd : d.depth = 0 := by rfl) : Cm X σ G H .In a b (ds.any fun y => PyData.eqv y d) :=
  cm_of opIn ha hb fun x y G2 H2 g dx dy Q q => ⟨d, ds, dx.mono g.i, .inl (dy.mono g.i), hd, by have := hr.un; omega, q⟩
theorem cm_inT {k : Nat} {ds : List PyData} (hr : Room k X.A) (ha : Ed X σ G H a d) (hb : Ed X σ G H b (.tuple ds)) (hd : d.depth = 0 := by rfl) : Cm X σ G H .In a b (ds.any fun y => PyData.eqv y d) :=
  cm_of opIn ha hb fun x y G2 H2 g dx dy Q q => ⟨d, ds, dx.mono g.i, .inr (dy.mono g.i), hd, by have := hr.un; omega, q⟩
theorem cm_niL {k : Nat} {ds : List PyData} (hr : Room k X.A) (ha : Ed X σ G H a d) (hb : Ed X σ G H b (.list ds)) (hd : d.depth = 0 := by rfl) : Cm X σ G H .NotIn a b (!ds.any fun y => PyData.eqv y d) :=
  cm_of opNotIn ha hb fun x y G2 H2 g dx dy Q q => ⟨d, ds, dx.mono g.i, .inl (dy.mono g.i), hd, by have := hr.un; omega, q⟩
theorem cm_niT {k : Nat} {ds : List PyData} (hr : Room k X.A) (ha : Ed X σ G H a d) (hb : Ed X σ G H b (.tuple ds)) (hd : d.depth = 0 := by rfl) : Cm X σ G H .NotIn a b (!ds.any fun y => PyData.eqv y d) :=
  cm_of opNotIn ha hb fun x y G2 H2 g dx dy Q q => ⟨d, ds, dx.mono g.i, .inr (dy.mono g.i), hd, by have := hr.un; omega, q⟩
def isNone : PyData → Bool
  | .none => true
  | _ => false
theorem Da.none_iff {v : V} (h : Da G v d) : decide (v = .non) = isNone d := by
  cases h <;> simp [isNone]
theorem cm_is (ha : Ed X σ G H a d) (hb : Ed X σ G H b .none) : Cm X σ G H .Is a b (isNone d) :=
  cm_of op_isN ha hb fun x y G2 H2 g dx dy Q q => ⟨dy.inv_non, by rw [dx.none_iff]; exact q⟩
theorem cm_isnot (ha : Ed X σ G H a d) (hb : Ed X σ G H b .none) : Cm X σ G H .IsNot a b (!isNone d) :=
  cm_of op_notN ha hb fun x y G2 H2 g dx dy Q q => ⟨dy.inv_non, by rw [dx.none_iff]; exact q⟩
/-- chains of ints -/
theorem opI_eq : OpR X (compareOp .Eq) (rI0 fun i j => .bl (decide (i = j))) := by
  intro pins s σ H x y v u Q I rx ry ⟨i, j, e1, e2, q⟩
  subst e1 e2
  exact op_eq pins s σ H _ _ v u Q I rx ry ⟨rfl, by rw [show decide (V.int i = V.int j) = decide (i = j) from by simp]; exact q⟩
theorem opI_ne : OpR X (compareOp .NotEq) (rI0 fun i j => .bl (!decide (i = j))) := by
  intro pins s σ H x y v u Q I rx ry ⟨i, j, e1, e2, q⟩
  subst e1 e2
  exact op_ne pins s σ H _ _ v u Q I rx ry ⟨rfl, by rw [show decide (V.int i = V.int j) = decide (i = j) from by simp]; exact q⟩
theorem chain_core {f f' : Int → Int → Bool} {i j k : Int} (ha : Ed X σ G H a (.int i)) (hb : Ed X σ G H b (.int j)) (hc : Ed X σ G H c (.int k)) :
    ∀ G1 H1, Grow G H G1 H1 → ∀ Q : VK, (∀ G2 H2, Grow G1 H1 G2 H2 → Q (.bl (f i j && f' j k)) H2) → tChain (rI0 fun i j => .bl (f i j)) (rI0 fun i j => .bl (f' i j)) (RE X a) (RE X b) (RE X c) σ H1 Q := fun G1 H1 g Q q =>
  ha.run G1 H1 g _ fun x G2 H2 g2 dx => hb.run G2 H2 (g.trans g2) _ fun y G3 H3 g3 dy => ⟨i, j, dx.inv_int, dy.inv_int, f i j, rfl, by
    cases hf : f i j with
    | false =>
      have := q G3 H3 (g2.trans g3)
      rw [hf] at this
      exact iteF this
    | true =>
      refine iteT (hc.run G3 H3 (g.trans (g2.trans g3)) _ fun z G4 H4 g4 dz => ⟨j, k, dy.inv_int, dz.inv_int, ?_⟩)
      have := q G4 H4 (g2.trans (g3.trans g4))
      rw [hf] at this
      exact this⟩
theorem ed_chain {op op' : CmpOp} {f f' : Int → Int → Bool} {i j k : Int} (ho : OpR X (compareOp op) (rI0 fun i j => .bl (f i j))) (ho' : OpR X (compareOp op') (rI0 fun i j => .bl (f' i j)))
    (ha : Ed X σ G H a (.int i)) (hb : Ed X σ G H b (.int j)) (hc : Ed X σ G H c (.int k)) (hm : lastMarks [op, op'] [b, c] = false := by with_unfolding_all rfl) : Ed X σ G H (.Compare a [op, op'] [b, c] pos) (.bool (f i j && f' j k)) :=
  ⟨fun G1 H1 g Q q => re_of (pe_chain ho ho' pe_self pe_self pe_self hm) (chain_core ha hb hc G1 H1 g Q fun G2 H2 g2 => q _ G2 H2 g2 (.bl _))⟩
theorem et_chain {op op' : CmpOp} {f f' : Int → Int → Bool} {i j k : Int} (ho : OpR X (compareOp op) (rI0 fun i j => .bl (f i j))) (ho' : OpR X (compareOp op') (rI0 fun i j => .bl (f' i j)))
    (ha : Ed X σ G H a (.int i)) (hb : Ed X σ G H b (.int j)) (hc : Ed X σ G H c (.int k)) (hm : lastMarks [op, op'] [b, c] = false := by with_unfolding_all rfl) : Et X σ G H (.Compare a [op, op'] [b, c] pos) (f i j && f' j k) :=
  ⟨fun G1 H1 g Q q => rt_of (pt_chain ho ho' pe_self pe_self pe_self hm) (chain_core ha hb hc G1 H1 g _ fun G2 H2 g2 => ⟨_, rfl, q G2 H2 g2⟩)⟩

/-! tests -/
theorem et_val {k : Bool} (h : Ed X σ G H e (.bool k)) (he : ∀ whole, isTrue e X.env whole = (do let v ← whole; standAt e.pos; holding [v] (truthy v)) := by intro _; rfl) : Et X σ G H e k :=
  ⟨fun G1 H1 g Q q => rt_of (pt_val pe_self he) (h.run G1 H1 g _ fun v G2 H2 g2 dv => ⟨k, dv.inv_bl, q G2 H2 g2⟩)⟩
theorem et_not {k : Bool} (h : Et X σ G H a k) : Et X σ G H (.UnaryOp .Not a pos) (!k) :=
  ⟨fun G1 H1 g Q q => rt_of (pt_not pt_self) (h.run G1 H1 g _ fun G2 H2 g2 => q G2 H2 g2)⟩
theorem ew_and1 {k : Bool} (h : Et X σ G H a k) : Ew X σ G H (.BoolOp .And [a] pos) k := ⟨fun G1 H1 g Q q => rw_of (pw_and1 pt_self) (h.run G1 H1 g Q q)⟩
theorem ew_or1 {k : Bool} (h : Et X σ G H a k) : Ew X σ G H (.BoolOp .Or [a] pos) k := ⟨fun G1 H1 g Q q => rw_of (pw_or1 pt_self) (h.run G1 H1 g Q q)⟩
theorem ew_and {k l : Bool} (h1 : Et X σ G H a k) (h2 : k = true → Ew X σ G H (.BoolOp .And (b :: rest) pos) l) : Ew X σ G H (.BoolOp .And (a :: b :: rest) pos) (k && l) :=
  ⟨fun G1 H1 g Q q => rw_of (pw_and pt_self pw_self) (h1.run G1 H1 g _ fun G2 H2 g2 => by
    cases k with
    | true => exact iteT ((h2 rfl).run G2 H2 (g.trans g2) Q fun G3 H3 g3 => q G3 H3 (g2.trans g3))
    | false => exact iteF (q G2 H2 g2))⟩
theorem ew_or {k l : Bool} (h1 : Et X σ G H a k) (h2 : k = false → Ew X σ G H (.BoolOp .Or (b :: rest) pos) l) : Ew X σ G H (.BoolOp .Or (a :: b :: rest) pos) (k || l) :=
  ⟨fun G1 H1 g Q q => rw_of (pw_or pt_self pw_self) (h1.run G1 H1 g _ fun G2 H2 g2 => by
    cases k with
    | true => exact iteT (q G2 H2 g2)
    | false => exact iteF ((h2 rfl).run G2 H2 (g.trans g2) Q fun G3 H3 g3 => q G3 H3 (g2.trans g3)))⟩
theorem et_w {k : Bool} (h : Ew X σ G H e k) : Et X σ G H e k := ⟨fun G1 H1 g Q q => rt_of (PW.pt pw_self) (h.run G1 H1 g Q q)⟩
/-! and, or, not as values -/
theorem ed_one {op} (h : Ed X σ G H a d) : Ed X σ G H (.BoolOp op [a] pos) d := ⟨fun G1 H1 g Q q => re_of (pe_one pe_self) (h.run G1 H1 g Q q)⟩
theorem ed_and {k l : Bool} (h1 : Ed X σ G H a (.bool k)) (h2 : k = true → Ed X σ G H (.BoolOp .And (b :: rest) pos) (.bool l)) : Ed X σ G H (.BoolOp .And (a :: b :: rest) pos) (.bool (k && l)) :=
  ⟨fun G1 H1 g Q q => re_of (pe_and pe_self pe_self) (h1.run G1 H1 g _ fun v G2 H2 g2 dv => ⟨k, dv.inv_bl, by
    cases k with
    | true => exact iteT ((h2 rfl).run G2 H2 (g.trans g2) Q fun v G3 H3 g3 => q v G3 H3 (g2.trans g3))
    | false => exact iteF (q _ G2 H2 g2 (.bl _))⟩)⟩
theorem ed_or {k l : Bool} (h1 : Ed X σ G H a (.bool k)) (h2 : k = false → Ed X σ G H (.BoolOp .Or (b :: rest) pos) (.bool l)) : Ed X σ G H (.BoolOp .Or (a :: b :: rest) pos) (.bool (k || l)) :=
  ⟨fun G1 H1 g Q q => re_of (pe_or pe_self pe_self) (h1.run G1 H1 g _ fun v G2 H2 g2 dv => ⟨k, dv.inv_bl, by
    cases k with
    | true => exact iteT (q _ G2 H2 g2 (.bl _))
    | false => exact iteF ((h2 rfl).run G2 H2 (g.trans g2) Q fun v G3 H3 g3 => q v G3 H3 (g2.trans g3))⟩)⟩
theorem ed_not {k : Bool} (h : Ed X σ G H a (.bool k)) : Ed X σ G H (.UnaryOp .Not a pos) (.bool (!k)) :=
  ⟨fun G1 H1 g Q q => re_of (pe_not pe_self) (h.run G1 H1 g _ fun v G2 H2 g2 dv => ⟨k, dv.inv_bl, q _ G2 H2 g2 (.bl _)⟩)⟩
theorem ed_if {k : Bool} (h : Et X σ G H c k) (h1 : k = true → Ed X σ G H a d) (h2 : k = false → Ed X σ G H b d) : Ed X σ G H (.IfExp c a b pos) d :=
  ⟨fun G1 H1 g Q q => re_of (pe_ifExp pt_self pe_self pe_self) (h.run G1 H1 g _ fun G2 H2 g2 => by
    cases k with
    | true => exact iteT ((h1 rfl).run G2 H2 (g.trans g2) Q fun v G3 H3 g3 => q v G3 H3 (g2.trans g3))
    | false => exact iteF ((h2 rfl).run G2 H2 (g.trans g2) Q fun v G3 H3 g3 => q v G3 H3 (g2.trans g3)))⟩
/-- the two ways have values of their own -/
theorem ed_if2 {k : Bool} (h : Et X σ G H c k) (h1 : Ed X σ G H a d) (h2 : Ed X σ G H b d') : Ed X σ G H (.IfExp c a b pos) (if k = true then d else d') :=
  ed_if h (fun e => by rw [if_pos e]; exact h1) (fun e => by rw [e, if_neg (by decide)]; exact h2)

/-! arguments, displays -/
theorem ea_nil : Ea X σ G H [] [] := ⟨fun G1 H1 g Q q => ra_of pa_nil (q [] G1 H1 (.refl g.i) .nil)⟩
theorem ea_cons {ds : List PyData} (h : Ed X σ G H e d) (hr : Ea X σ G H es ds) (hs : starEach (e :: es) X.env = (false, eval e X.env) :: starEach es X.env := by rfl) : Ea X σ G H (e :: es) (d :: ds) :=
  ⟨fun G1 H1 g Q q => ra_of (pa_cons pe_self pa_self hs) (h.run G1 H1 g _ fun v G2 H2 g2 dv => hr.run G2 H2 (g.trans g2) _ fun vs G3 H3 g3 dvs => q (v :: vs) G3 H3 (g2.trans g3) (.cons (dv.mono g3.g) dvs))⟩
theorem ed_tup {x1} {ds : List PyData} (h : Ea X σ G H es ds) (hz : ds.length ≤ sizeLine := by decide) : Ed X σ G H (.Tuple es x1 pos) (.tuple ds) :=
  ⟨fun G1 H1 g Q q => re_of (pe_tup pa_self) (h.run G1 H1 g _ fun vs G2 H2 g2 dvs => ⟨by rw [dvs.len]; exact hz, fun p hp => q _ _ _ (g2.trans (.new g2.i hp)) (DaAll.tup upd_same (dvs.mono (same_new (g2.i.free hp))))⟩)⟩
theorem ed_lst {ds : List PyData} (h : Ea X σ G H es ds) (hz : ds.length ≤ sizeLine := by decide) : Ed X σ G H (.List es pos) (.list ds) :=
  ⟨fun G1 H1 g Q q => re_of (pe_lst pa_self) (h.run G1 H1 g _ fun vs G2 H2 g2 dvs => ⟨by rw [dvs.len]; exact hz, fun p hp => q _ _ _ (g2.trans (.new g2.i hp)) (DaAll.lst upd_same (dvs.mono (same_new (g2.i.free hp))))⟩)⟩
theorem Grow.none_h {p : Addr} (g : Grow G H G' H') (h : H' p = none) : H p = none := g.h.free h
theorem en_lst {ds : List PyData} (h : Ea X σ G H es ds) (hz : ds.length ≤ sizeLine := by decide) : En X σ G H (.List es pos) ds :=
  ⟨fun G1 H1 g Q q => re_of (pe_lst pa_self) (h.run G1 H1 g _ fun vs G2 H2 g2 dvs => ⟨by rw [dvs.len]; exact hz, fun p hp => q p vs _ _ (g2.trans (.newH g2.i hp)) (g2.none_h hp) (g2.i.free hp) upd_same dvs⟩)⟩

/-! subscripts -/
theorem DaAll.atI {xs : List V} {ds : List PyData} {i : Int} (h : DaAll G xs ds) (e : L2.atI ds i = some d) : ∃ v, L2.atI xs i = some v ∧ Da G v d := by
  unfold L2.atI at e ⊢
  rw [h.len]
  cases q : ixN ds.length i with
  | none => rw [q] at e; cases e
  | some j =>
    rw [q] at e
    exact h.get e
theorem ed_ixL {ds : List PyData} {i : Int} (ha : Ed X σ G H a (.list ds)) (hb : Ed X σ G H b (.int i)) (h : Side (atI ds i = some d)) (hs : PlainIx b := by exact fun _ _ => rfl) : Ed X σ G H (.Subscript a b pos) d :=
  ⟨fun G1 H1 g Q q => re_of (pe_ix ix_list pe_self pe_self hs) (op_core (P := fun v G => Da G v d) ha hb (fun x y G2 H2 g dx dy Q q => by
    obtain ⟨l, xs, rfl, hl, hx⟩ := dx.inv_lst
    obtain ⟨v, hv, dv⟩ := hx.atI h.h
    exact ⟨l, xs, i, v, rfl, dy.inv_int, .of (g.i _ _ hl), hv, q v G2 H2 (.refl g.i) dv⟩) G1 H1 g Q q)⟩
theorem ed_ixT {ds : List PyData} {i : Int} (ha : Ed X σ G H a (.tuple ds)) (hb : Ed X σ G H b (.int i)) (h : Side (atI ds i = some d)) (hs : PlainIx b := by exact fun _ _ => rfl) : Ed X σ G H (.Subscript a b pos) d :=
  ⟨fun G1 H1 g Q q => re_of (pe_ix ix_tup pe_self pe_self hs) (op_core (P := fun v G => Da G v d) ha hb (fun x y G2 H2 g dx dy Q q => by
    obtain ⟨l, xs, rfl, hl, hx⟩ := dx.inv_tup
    obtain ⟨v, hv, dv⟩ := hx.atI h.h
    exact ⟨l, xs, i, v, rfl, dy.inv_int, .of (g.i _ _ hl), hv, q v G2 H2 (.refl g.i) dv⟩) G1 H1 g Q q)⟩
/-- of a list that may still change -/
theorem ed_ixM {l : Addr} {xs : List V} {ds : List PyData} {i : Int} (ha : Er X σ G H a (.ref l)) (hb : Ed X σ G H b (.int i)) (hl : H l = some (.lst xs)) (hx : DaAll G xs ds) (h : Side (atI ds i = some d)) (hs : PlainIx b := by exact fun _ _ => rfl) : Ed X σ G H (.Subscript a b pos) d :=
  ⟨fun G1 H1 g Q q => re_of (pe_ix ix_list pe_self pe_self hs) (ha.run G1 H1 g _ fun G2 H2 g2 => hb.run G2 H2 (g.trans g2) _ fun y G3 H3 g3 dy => by
    obtain ⟨v, hv, dv⟩ := hx.atI h.h
    have gg := g.trans (g2.trans g3)
    exact ⟨l, xs, i, v, rfl, dy.inv_int, .of (gg.h _ _ hl), hv, q v G3 H3 (g2.trans g3) (dv.mono gg.g)⟩)⟩
/-! slices -/
def cutP (ds : List PyData) (lo hi : Option Int) : List PyData := (ds.drop (HT.sIx ds.length 0 lo)).take (HT.sIx ds.length ds.length hi - HT.sIx ds.length 0 lo)
theorem DaAll.cut {xs : List V} {ds : List PyData} (lo hi : Option Int) (h : DaAll G xs ds) : DaAll G (cutV xs lo hi) (cutP ds lo hi) := by
  unfold cutV cutP
  rw [h.len]
  exact (h.drop _).take _
structure Eo (X : Cx) (σ : St) (G H : Hp) (e : Option Expr) (o : Option Int) : Prop where
  run : ∃ t, PO X e t ∧ ∀ G1 H1, Grow G H G1 H1 → ∀ Q : Option Int → Hp → Prop, (∀ G2 H2, Grow G1 H1 G2 H2 → Q o H2) → t σ H1 Q
theorem eo_none : Eo X σ G H none none := ⟨_, po_none, fun G1 H1 g Q q => q G1 H1 (.refl g.i)⟩
theorem eo_some {i : Int} (h : Ed X σ G H e (.int i)) : Eo X σ G H (some e) (some i) := ⟨_, po_some pe_self, fun G1 H1 g Q q => h.run G1 H1 g _ fun v G2 H2 g2 dv => ⟨i, dv.inv_int, q G2 H2 g2⟩⟩
theorem ed_slT {ds : List PyData} {lo hi : Option Expr} {l u : Option Int} {p2 : Pos} (ha : Ed X σ G H a (.tuple ds)) (h1 : Eo X σ G H lo l) (h2 : Eo X σ G H hi u) : Ed X σ G H (.Subscript a (.Slice lo hi none p2) pos) (.tuple (cutP ds l u)) := by
  obtain ⟨t1, p1, h1⟩ := h1.run
  obtain ⟨t2, p2, h2⟩ := h2.run
  refine ⟨fun G1 H1 g Q q => re_of (pe_slice sl_tupA pe_self p1 p2) (ha.run G1 H1 g _ fun x G2 H2 g2 dx => h1 G2 H2 (g.trans g2) _ fun G3 H3 g3 => h2 G3 H3 (g.trans (g2.trans g3)) _ fun G4 H4 g4 => ?_)⟩
  obtain ⟨t, xs, rfl, ht, hx⟩ := (dx.mono (g3.g.trans g4.g)).inv_tup
  have gg := g2.trans (g3.trans g4)
  refine ⟨t, xs, rfl, .of (g4.i _ _ ht), fun e => ?_, fun _ p hp => q _ _ _ (gg.trans (.new g4.i hp)) (DaAll.tup upd_same ((hx.cut l u).mono (same_new (g4.i.free hp))))⟩
  have e2 : cutP ds l u = ds := by
    unfold cutP
    rw [← hx.len, e.1, e.2, List.drop_zero, Nat.sub_zero]
    exact List.take_of_length_le (by rw [hx.len]; exact Nat.le_refl _)
  refine q _ G4 H4 gg ?_
  rw [e2]
  exact DaAll.tup ht hx
theorem ed_slL {ds : List PyData} {lo hi : Option Expr} {l u : Option Int} {p2 : Pos} (ha : Ed X σ G H a (.list ds)) (h1 : Eo X σ G H lo l) (h2 : Eo X σ G H hi u) : Ed X σ G H (.Subscript a (.Slice lo hi none p2) pos) (.list (cutP ds l u)) := by
  obtain ⟨t1, p1, h1⟩ := h1.run
  obtain ⟨t2, p2, h2⟩ := h2.run
  refine ⟨fun G1 H1 g Q q => re_of (pe_slice sl_list pe_self p1 p2) (ha.run G1 H1 g _ fun x G2 H2 g2 dx => h1 G2 H2 (g.trans g2) _ fun G3 H3 g3 => h2 G3 H3 (g.trans (g2.trans g3)) _ fun G4 H4 g4 => ?_)⟩
  obtain ⟨t, xs, rfl, ht, hx⟩ := (dx.mono (g3.g.trans g4.g)).inv_lst
  have gg := g2.trans (g3.trans g4)
  exact ⟨t, xs, rfl, .of (g4.i _ _ ht), fun p hp => q _ _ _ (gg.trans (.new g4.i hp)) (DaAll.lst upd_same ((hx.cut l u).mono (same_new (g4.i.free hp))))⟩

/-! calls of built-in functions -/
theorem ed_callB {x : Str} {id : String} {r : List V → Hp → VK → Prop} {ds : List PyData} (hc : CallR X (.builtin id) r) (hm : X.mg x = none) (hv : bootBuiltins x = some (.builtin id)) (ha : Ea X σ G H (e :: es) ds)
    (hr : ∀ vs G2 H2, Grow G H G2 H2 → DaAll G2 vs ds → ∀ Q : VK, (∀ v G3 H3, Grow G2 H2 G3 H3 → Da G3 v d → Q v H3) → r vs H2 Q)
    (hg : Gl X x := by rfl) (hn : x ≠ "__name__" := by decide) (hdb : (x == ("__debug__" : Str)) = false := by decide)
    (he : starEach (e :: es) X.env = (false, eval e X.env) :: starEach es X.env := by rfl) (hpl : (backTo pos (starEach es X.env)).any (·.1) = false := by rfl) : Ed X σ G H (.Call (.Name x p) (e :: es) [] pos) d :=
  ⟨fun G1 H1 g Q q => re_of (pe_callB hc hg hm hv pa_self hn hdb he hpl) (ha.run G1 H1 g _ fun vs G2 H2 g2 dvs => hr vs G2 H2 (g.trans g2) dvs Q fun v G3 H3 g3 dv => q v G3 H3 (g2.trans g3) dv)⟩
theorem ed_callTy {x : Str} {T : String} {r : List V → Hp → VK → Prop} {ds : List PyData} (hc : CallR X (.type T) r) (hm : X.mg x = none) (hv : bootBuiltins x = some (.type T)) (ha : Ea X σ G H (e :: es) ds)
    (hr : ∀ vs G2 H2, Grow G H G2 H2 → DaAll G2 vs ds → ∀ Q : VK, (∀ v G3 H3, Grow G2 H2 G3 H3 → Da G3 v d → Q v H3) → r vs H2 Q)
    (hg : Gl X x := by rfl) (hn : x ≠ "__name__" := by decide) (hdb : (x == ("__debug__" : Str)) = false := by decide)
    (he : starEach (e :: es) X.env = (false, eval e X.env) :: starEach es X.env := by rfl) (hpl : (backTo pos (starEach es X.env)).any (·.1) = false := by rfl) : Ed X σ G H (.Call (.Name x p) (e :: es) [] pos) d :=
  ⟨fun G1 H1 g Q q => re_of (pe_callTy hc hg hm hv pa_self hn hdb he hpl) (ha.run G1 H1 g _ fun vs G2 H2 g2 dvs => hr vs G2 H2 (g.trans g2) dvs Q fun v G3 H3 g3 dv => q v G3 H3 (g2.trans g3) dv)⟩
end

section
variable {X : Cx} {σ : St} {G H G' H' : Hp} {e a b c : Expr} {d d' : PyData} {pos p : Pos} {es rest : List Expr}
theorem ed_lenL {ds : List PyData} (hm : X.mg "len" = none) (ha : Ed X σ G H a (.list ds)) (hg : Gl X "len" := by rfl)
    (hs : starEach [a] X.env = (false, eval a X.env) :: starEach [] X.env := by rfl) (hpl : (backTo pos (starEach [] X.env)).any (·.1) = false := by rfl) : Ed X σ G H (.Call (.Name "len" p) [a] [] pos) (.int ds.length) :=
  ed_callB call_len_seq hm PySem.boot_len (ea_cons ha ea_nil hs) (fun vs G2 H2 g dvs Q q => by
    obtain ⟨v, rfl, dv⟩ := dvs.inv1
    obtain ⟨l, xs, rfl, hl, hx⟩ := dv.inv_lst
    refine ⟨l, xs, rfl, .inl (.of (g.i _ _ hl)), ?_⟩
    rw [hx.len]
    exact q _ G2 H2 (.refl g.i) (.int _)) hg (by decide) (by decide) hs hpl
theorem ed_lenT {ds : List PyData} (hm : X.mg "len" = none) (ha : Ed X σ G H a (.tuple ds)) (hg : Gl X "len" := by rfl)
    (hs : starEach [a] X.env = (false, eval a X.env) :: starEach [] X.env := by rfl) (hpl : (backTo pos (starEach [] X.env)).any (·.1) = false := by rfl) : Ed X σ G H (.Call (.Name "len" p) [a] [] pos) (.int ds.length) :=
  ed_callB call_len_seq hm PySem.boot_len (ea_cons ha ea_nil hs) (fun vs G2 H2 g dvs Q q => by
    obtain ⟨v, rfl, dv⟩ := dvs.inv1
    obtain ⟨l, xs, rfl, hl, hx⟩ := dv.inv_tup
    refine ⟨l, xs, rfl, .inr (.of (g.i _ _ hl)), ?_⟩
    rw [hx.len]
    exact q _ G2 H2 (.refl g.i) (.int _)) hg (by decide) (by decide) hs hpl
/-- len of a list that may still change -/
theorem ed_lenM {l : Addr} {xs : List V} (hm : X.mg "len" = none) (ha : Er X σ G H a (.ref l)) (hl : H l = some (.lst xs)) (hg : Gl X "len" := by rfl)
    (hs : starEach [a] X.env = (false, eval a X.env) :: starEach [] X.env := by rfl) (hpl : (backTo pos (starEach [] X.env)).any (·.1) = false := by rfl) : Ed X σ G H (.Call (.Name "len" p) [a] [] pos) (.int xs.length) :=
  ⟨fun G1 H1 g Q q => re_of (pe_callB call_len_seq hg hm PySem.boot_len (pa_cons pe_self pa_nil hs) (by decide) (by decide) hs hpl) (ha.run G1 H1 g _ fun G2 H2 g2 => ⟨l, xs, rfl, .inl (.of (g2.h _ _ (g.h _ _ hl))), q _ G2 H2 g2 (.int _)⟩)⟩
/-- list(x) -/
theorem ed_listOf {ds : List PyData} {y : PyData} (hm : X.mg "list" = none) (ha : Ed X σ G H a y) (hy : y = .list ds ∨ y = .tuple ds) (hg : Gl X "list" := by rfl)
    (hs : starEach [a] X.env = (false, eval a X.env) :: starEach [] X.env := by rfl) (hpl : (backTo pos (starEach [] X.env)).any (·.1) = false := by rfl) : Ed X σ G H (.Call (.Name "list" p) [a] [] pos) (.list ds) :=
  ed_callTy call_list_of hm (by decide +kernel) (ea_cons ha ea_nil hs) (fun vs G2 H2 g dvs Q q => by
    obtain ⟨v, rfl, dv⟩ := dvs.inv1
    rcases hy with rfl | rfl
    · obtain ⟨l, xs, rfl, hl, hx⟩ := dv.inv_lst
      exact ⟨l, xs, rfl, .inl (.of (g.i _ _ hl)), fun p hp => q _ _ _ (.new g.i hp) (DaAll.lst upd_same (hx.mono (same_new (g.i.free hp))))⟩
    · obtain ⟨l, xs, rfl, hl, hx⟩ := dv.inv_tup
      exact ⟨l, xs, rfl, .inr (.of (g.i _ _ hl)), fun p hp => q _ _ _ (.new g.i hp) (DaAll.lst upd_same (hx.mono (same_new (g.i.free hp))))⟩) hg (by decide) (by decide) hs hpl
theorem en_listOf {ds : List PyData} {y : PyData} (hm : X.mg "list" = none) (ha : Ed X σ G H a y) (hy : y = .list ds ∨ y = .tuple ds) (hg : Gl X "list" := by rfl)
    (hs : starEach [a] X.env = (false, eval a X.env) :: starEach [] X.env := by rfl) (hpl : (backTo pos (starEach [] X.env)).any (·.1) = false := by rfl) : En X σ G H (.Call (.Name "list" p) [a] [] pos) ds :=
  ⟨fun G1 H1 g Q q => re_of (pe_callTy call_list_of hg hm (by decide +kernel) (pa_cons pe_self pa_nil hs) (by decide) (by decide) hs hpl) (ha.run G1 H1 g _ fun v G2 H2 g2 dv => by
    rcases hy with rfl | rfl
    · obtain ⟨l, xs, rfl, hl, hx⟩ := dv.inv_lst
      exact ⟨l, xs, rfl, .inl (.of (g2.i _ _ hl)), fun p hp => q p xs _ _ (g2.trans (.newH g2.i hp)) (g2.none_h hp) (g2.i.free hp) upd_same hx⟩
    · obtain ⟨l, xs, rfl, hl, hx⟩ := dv.inv_tup
      exact ⟨l, xs, rfl, .inr (.of (g2.i _ _ hl)), fun p hp => q p xs _ _ (g2.trans (.newH g2.i hp)) (g2.none_h hp) (g2.i.free hp) upd_same hx⟩)⟩
/-- tuple(x) -/
theorem ed_tupleOf {ds : List PyData} (hm : X.mg "tuple" = none) (ha : Ed X σ G H a (.list ds)) (hg : Gl X "tuple" := by rfl)
    (hs : starEach [a] X.env = (false, eval a X.env) :: starEach [] X.env := by rfl) (hpl : (backTo pos (starEach [] X.env)).any (·.1) = false := by rfl) : Ed X σ G H (.Call (.Name "tuple" p) [a] [] pos) (.tuple ds) :=
  ed_callTy call_tuple_of hm (by decide +kernel) (ea_cons ha ea_nil hs) (fun vs G2 H2 g dvs Q q => by
    obtain ⟨v, rfl, dv⟩ := dvs.inv1
    obtain ⟨l, xs, rfl, hl, hx⟩ := dv.inv_lst
    exact ⟨l, xs, rfl, .inl ⟨.of (g.i _ _ hl), fun p hp => q _ _ _ (.new g.i hp) (DaAll.tup upd_same (hx.mono (same_new (g.i.free hp))))⟩⟩) hg (by decide) (by decide) hs hpl
theorem ed_tupleM {l : Addr} {xs : List V} {ds : List PyData} (hm : X.mg "tuple" = none) (ha : Er X σ G H a (.ref l)) (hl : H l = some (.lst xs)) (hx : DaAll G xs ds) (hg : Gl X "tuple" := by rfl)
    (hs : starEach [a] X.env = (false, eval a X.env) :: starEach [] X.env := by rfl) (hpl : (backTo pos (starEach [] X.env)).any (·.1) = false := by rfl) : Ed X σ G H (.Call (.Name "tuple" p) [a] [] pos) (.tuple ds) :=
  ⟨fun G1 H1 g Q q => re_of (pe_callTy call_tuple_of hg hm (by decide +kernel) (pa_cons pe_self pa_nil hs) (by decide) (by decide) hs hpl) (ha.run G1 H1 g _ fun G2 H2 g2 =>
    ⟨l, xs, rfl, .inl ⟨.of (g2.h _ _ (g.h _ _ hl)), fun p hp => q _ _ _ (g2.trans (.new g2.i hp)) (DaAll.tup upd_same (hx.mono (g.g.trans (g2.g.trans (same_new (g2.i.free hp))))))⟩⟩)⟩
theorem ed_sum {ns : List Int} (hm : X.mg "sum" = none) (ha : Ed X σ G H a (.list (ns.map .int))) (hc : X.calm = true := by rfl) (hg : Gl X "sum" := by rfl)
    (hs : starEach [a] X.env = (false, eval a X.env) :: starEach [] X.env := by rfl) (hpl : (backTo pos (starEach [] X.env)).any (·.1) = false := by rfl) : Ed X σ G H (.Call (.Name "sum" p) [a] [] pos) (.int ns.sum) :=
  ed_callB (cr_sum hc) hm (by decide +kernel) (ea_cons ha ea_nil hs) (fun vs G2 H2 g dvs Q q => by
    obtain ⟨v, rfl, dv⟩ := dvs.inv1
    obtain ⟨l, xs, rfl, hl, hx⟩ := dv.inv_lst
    rw [hx.inv_ints] at hl
    exact ⟨l, ns, rfl, .of (g.i _ _ hl), q _ G2 H2 (.refl g.i) (.int _)⟩) hg (by decide) (by decide) hs hpl
theorem ed_max {ns : List Int} {m : Int} (hm : X.mg "max" = none) (ha : Ed X σ G H a (.list (ns.map .int))) (h1 : m ∈ ns) (h2 : ∀ y ∈ ns, y ≤ m) (hc : X.calm = true := by rfl) (hg : Gl X "max" := by rfl)
    (hs : starEach [a] X.env = (false, eval a X.env) :: starEach [] X.env := by rfl) (hpl : (backTo pos (starEach [] X.env)).any (·.1) = false := by rfl) : Ed X σ G H (.Call (.Name "max" p) [a] [] pos) (.int m) :=
  ed_callB (cr_max hc) hm (by decide +kernel) (ea_cons ha ea_nil hs) (fun vs G2 H2 g dvs Q q => by
    obtain ⟨v, rfl, dv⟩ := dvs.inv1
    obtain ⟨l, xs, rfl, hl, hx⟩ := dv.inv_lst
    rw [hx.inv_ints] at hl
    refine ⟨l, ns, rfl, .of (g.i _ _ hl), List.length_pos_of_mem h1, fun k hk hle => ?_⟩
    have e : k = m := Int.le_antisymm (h2 k hk) (hle m h1)
    rw [e]
    exact q _ G2 H2 (.refl g.i) (.int _)) hg (by decide) (by decide) hs hpl
theorem ed_min {ns : List Int} {m : Int} (hm : X.mg "min" = none) (ha : Ed X σ G H a (.list (ns.map .int))) (h1 : m ∈ ns) (h2 : ∀ y ∈ ns, m ≤ y) (hc : X.calm = true := by rfl) (hg : Gl X "min" := by rfl)
    (hs : starEach [a] X.env = (false, eval a X.env) :: starEach [] X.env := by rfl) (hpl : (backTo pos (starEach [] X.env)).any (·.1) = false := by rfl) : Ed X σ G H (.Call (.Name "min" p) [a] [] pos) (.int m) :=
  ed_callB (cr_min hc) hm (by decide +kernel) (ea_cons ha ea_nil hs) (fun vs G2 H2 g dvs Q q => by
    obtain ⟨v, rfl, dv⟩ := dvs.inv1
    obtain ⟨l, xs, rfl, hl, hx⟩ := dv.inv_lst
    rw [hx.inv_ints] at hl
    refine ⟨l, ns, rfl, .of (g.i _ _ hl), List.length_pos_of_mem h1, fun k hk hle => ?_⟩
    have e : k = m := Int.le_antisymm (hle m h1) (h2 k hk)
    rw [e]
    exact q _ G2 H2 (.refl g.i) (.int _)) hg (by decide) (by decide) hs hpl
theorem ed_min2 {i j : Int} (hm : X.mg "min" = none) (ha : Ed X σ G H a (.int i)) (hb : Ed X σ G H b (.int j)) (hc : X.calm = true := by rfl) (hg : Gl X "min" := by rfl)
    (hs : starEach [a, b] X.env = (false, eval a X.env) :: starEach [b] X.env := by rfl) (hs2 : starEach [b] X.env = (false, eval b X.env) :: starEach [] X.env := by rfl) (hpl : (backTo pos (starEach [b] X.env)).any (·.1) = false := by rfl) :
    Ed X σ G H (.Call (.Name "min" p) [a, b] [] pos) (.int (if j < i then j else i)) :=
  ed_callB (call_min2 hc) hm (by decide +kernel) (ea_cons ha (ea_cons hb ea_nil hs2) hs) (fun vs G2 H2 g dvs Q q => by
    obtain ⟨v, w, rfl, dv, dw⟩ := dvs.inv2
    cases dv.inv_int
    cases dw.inv_int
    exact ⟨i, j, rfl, q _ G2 H2 (.refl g.i) (.int _)⟩) hg (by decide) (by decide) hs hpl
theorem ed_int1 {i : Int} (hm : X.mg "int" = none) (ha : Ed X σ G H a (.int i)) (hg : Gl X "int" := by rfl)
    (hs : starEach [a] X.env = (false, eval a X.env) :: starEach [] X.env := by rfl) (hpl : (backTo pos (starEach [] X.env)).any (·.1) = false := by rfl) : Ed X σ G H (.Call (.Name "int" p) [a] [] pos) (.int i) :=
  ed_callTy call_int1 hm (by decide +kernel) (ea_cons ha ea_nil hs) (fun vs G2 H2 g dvs Q q => by
    obtain ⟨v, rfl, dv⟩ := dvs.inv1
    cases dv.inv_int
    exact .inl ⟨i, rfl, q _ G2 H2 (.refl g.i) (.int _)⟩) hg (by decide) (by decide) hs hpl
/-- sorted(ints), any number -/
theorem ed_sortedI {ns ms : List Int} (hm : X.mg "sorted" = none) (ha : Ed X σ G H a (.list (ns.map .int))) (h1 : ms.Perm ns) (h2 : ms.Pairwise (· ≤ ·)) (hg : Gl X "sorted" := by rfl)
    (hs : starEach [a] X.env = (false, eval a X.env) :: starEach [] X.env := by rfl) (hpl : (backTo pos (starEach [] X.env)).any (·.1) = false := by rfl) : Ed X σ G H (.Call (.Name "sorted" p) [a] [] pos) (.list (ms.map .int)) :=
  ed_callB cr_sortedI hm (by decide +kernel) (ea_cons ha ea_nil hs) (fun vs G2 H2 g dvs Q q => by
    obtain ⟨v, rfl, dv⟩ := dvs.inv1
    obtain ⟨l, xs, rfl, hl, hx⟩ := dv.inv_lst
    rw [hx.inv_ints] at hl
    refine ⟨l, ns, rfl, .of (g.i _ _ hl), fun ks p hk hp hf => ?_⟩
    have e : ks = ms := List.Perm.eq_of_pairwise (fun a b _ _ h h' => Int.le_antisymm h h') hp h2 (hk.trans h1.symm)
    subst e
    exact q _ _ _ (.new g.i hf) (DaAll.lst upd_same (DaAll.ints _))) hg (by decide) (by decide) hs hpl
/-! isinstance -/
theorem ed_isi {T : Str} {n : String} {k : Bool} {q' : Pos} (hm : X.mg "isinstance" = none) (hT : X.mg T = none) (hv : bootBuiltins T = some (.type n)) (ha : Ed X σ G H a d)
    (hk : ∀ (pins : List (Addr × Obj)) (s : Shared) (σ : St) (H : Hp) (v : V) (u : Value) (as : List Addr) (Q : Value → Shared → Prop), Inv X pins σ H s → RelV v u → Reads s.heap u d as → (∀ tk, s.toks ≤ tk → Q (.bool k) { s with toks := tk }) → wpAny (model X.prog X.w) X.A (call (.builtin "isinstance") [u, .type n]) Q X.xe s)
    (hg : Gl X "isinstance" := by rfl) (hg2 : Gl X T := by rfl) (hn : T ≠ "__name__" := by decide) (hd : (T == ("__debug__" : Str)) = false := by decide)
    (hs : starEach [a, .Name T q'] X.env = (false, eval a X.env) :: starEach [.Name T q'] X.env := by rfl) (hs2 : starEach [.Name T q'] X.env = (false, eval (.Name T q') X.env) :: starEach [] X.env := by rfl) (hpl : (backTo pos (starEach [.Name T q'] X.env)).any (·.1) = false := by rfl) :
    Ed X σ G H (.Call (.Name "isinstance" p) [a, .Name T q'] [] pos) (.bool k) := by
  have hc : CallR X (.builtin "isinstance") (fun xs H Q => ∃ v, xs = [v, .ty n] ∧ Da H v d ∧ Q (.bl k) H) := by
    intro pins s σ H xs us Q I r h
    obtain ⟨v, rfl, dv, q⟩ := h
    obtain ⟨u, w, rfl, ru, rw'⟩ := r.two
    cases (show w = Value.type n from rw')
    obtain ⟨as, rd⟩ := dv.reads (.refl _) I ru
    exact hk pins s σ H v u as _ I ru rd fun tk _ => ⟨.bl k, H, I.tok tk, rfl, q⟩
  exact ⟨fun G1 H1 g Q q => re_of (pe_callB hc hg hm (by decide +kernel) (pa_cons pe_self (pa_cons (pe_bltn (v := .ty n) hg2 hT hv rfl hn hd) pa_nil hs2) hs) (by decide) (by decide) hs hpl)
    (ha.run G1 H1 g _ fun v G2 H2 g2 dv => ⟨v, rfl, dv.mono g2.i, q _ G2 H2 g2 (.bl k)⟩)⟩
end
end Fk
end
section
set_option Elab.async false
set_option linter.all false
set_option maxRecDepth 100000
set_option maxHeartbeats 4000000
/-! Fk3: what is walked, targets, comprehensions, statements, loops, own defs. -/
namespace Fk
open PySem PySem.Spec L2
open PyProof.Rows hiding St

/-! ### what is walked -/
/-- J walks the data ds while G2 stands -/
structure Wk (J : It) (ds : List PyData) (G2 : Hp) : Prop where
  go : ∀ (i : Nat) G' H', i < ds.length → Same G2 G' → Same G' H' → J.go i H'
  stop : ∀ G' H', Same G2 G' → Same G' H' → J.stop ds.length H'
  yld : ∀ (i : Nat) G' H' x H'', i < ds.length → Same G2 G' → Same G' H' → J.yld i H' x H'' → ∃ G'', Grow G' H' G'' H'' ∧ ∀ d, ds[i]? = some d → Da G'' x d
structure Es (X : Cx) (σ : St) (G H : Hp) (tg iter : Expr) (ds : List PyData) : Prop where
  run : ∃ wi, PI X tg iter wi ∧ ∀ G1 H1, Grow G H G1 H1 → ∀ R : It → Hp → Prop, (∀ J G2 H2, Grow G1 H1 G2 H2 → Wk J ds G2 → R J H2) → wi σ H1 R

def dN (l : List Nat) : List PyData := l.map fun k : Nat => .int (k : Int)
def rngD (lo : Int) (n : Nat) : List PyData := (List.range n).map fun k : Nat => .int (lo + (k : Int))

section
variable {X : Cx} {σ : St} {G H G' H' : Hp} {e a b c tg iter : Expr} {d d' : PyData} {pos p : Pos} {es rest : List Expr} {ds : List PyData}
theorem es_list (h : Ed X σ G H iter (.list ds)) : Es X σ G H tg iter ds := by
  refine ⟨_, pi_list pe_self, fun G1 H1 g R q => h.run G1 H1 g _ fun v G2 H2 g2 dv => ?_⟩
  obtain ⟨l, xs, rfl, hl, hx⟩ := dv.inv_lst
  refine ⟨l, rfl, ⟨xs, .of (g2.i _ _ hl)⟩, q _ G2 H2 g2 ⟨fun i G' H' hi s1 s2 => ?_, fun G' H' s1 s2 => ⟨xs, .of (s2 _ _ (s1 _ _ hl)), Nat.le_of_eq hx.len⟩, fun i G' H' x H'' hi s1 s2 hy => ?_⟩⟩
  · have hi2 : i < xs.length := by rw [hx.len]; exact hi
    exact ⟨xs, xs[i], .of (s2 _ _ (s1 _ _ hl)), List.getElem?_eq_getElem hi2⟩
  · obtain ⟨e, f⟩ := hy
    subst e
    exact ⟨G', .refl s2, fun d hd => (hx.at' i x d (f xs (.of (s2 _ _ (s1 _ _ hl)))) hd).mono s1⟩
theorem es_tup (h : Ed X σ G H iter (.tuple ds)) : Es X σ G H tg iter ds := by
  refine ⟨_, pi_tup pe_self, fun G1 H1 g R q => h.run G1 H1 g _ fun v G2 H2 g2 dv => ?_⟩
  obtain ⟨l, xs, rfl, hl, hx⟩ := dv.inv_tup
  refine ⟨l, rfl, ⟨xs, .of (g2.i _ _ hl)⟩, q _ G2 H2 g2 ⟨fun i G' H' hi s1 s2 => ?_, fun G' H' s1 s2 => ⟨xs, .of (s2 _ _ (s1 _ _ hl)), Nat.le_of_eq hx.len⟩, fun i G' H' x H'' hi s1 s2 hy => ?_⟩⟩
  · have hi2 : i < xs.length := by rw [hx.len]; exact hi
    exact ⟨xs, xs[i], .of (s2 _ _ (s1 _ _ hl)), List.getElem?_eq_getElem hi2⟩
  · obtain ⟨e, f⟩ := hy
    subst e
    exact ⟨G', .refl s2, fun d hd => (hx.at' i x d (f xs (.of (s2 _ _ (s1 _ _ hl)))) hd).mono s1⟩
theorem wk_rng (lo : Int) (n : Nat) (G2 : Hp) : Wk (Itr lo n) (rngD lo n) G2 := by
  have hl : (rngD lo n).length = n := by simp [rngD]
  refine ⟨fun i G' H' hi s1 s2 => by rw [hl] at hi; exact hi, fun G' H' s1 s2 => by rw [hl]; exact Nat.le_refl n, fun i G' H' x H'' hi s1 s2 hy => ?_⟩
  obtain ⟨e, f⟩ := hy
  subst e f
  refine ⟨G', .refl s2, fun d hd => ?_⟩
  rw [hl] at hi
  unfold rngD at hd
  rw [List.getElem?_map, List.getElem?_range hi] at hd
  cases hd
  exact .int _
theorem rngD_zero (n : Nat) : rngD 0 n = dN (List.range n) := by
  unfold rngD dN
  exact List.map_congr_left fun k _ => by rw [Int.zero_add]
theorem es_range {n : Nat} (hm : X.mg "range" = none) (ha : Ed X σ G H a (.int (n : Int))) (hz : n ≤ 1000000) (hg : Gl X "range" := by rfl)
    (hs : starEach [a] X.env = (false, eval a X.env) :: starEach [] X.env := by rfl) : Es X σ G H tg (.Call (.Name "range" p) [a] [] pos) (dN (List.range n)) := by
  refine ⟨_, pi_range1 hg hm pa_self hs, fun G1 H1 g R q => (ea_cons ha ea_nil hs).run G1 H1 g _ fun vs G2 H2 g2 dvs => ?_⟩
  obtain ⟨v, rfl, dv⟩ := dvs.inv1
  cases dv.inv_int
  refine ⟨n, rfl, by omega, by omega, q _ G2 H2 g2 ?_⟩
  rw [← rngD_zero]
  exact wk_rng 0 n G2
theorem es_range2 {lo hi : Int} (hm : X.mg "range" = none) (ha : Ed X σ G H a (.int lo)) (hb : Ed X σ G H b (.int hi)) (hz : -1000000 ≤ lo ∧ lo ≤ 1000000 ∧ -1000000 ≤ hi ∧ hi ≤ 1000000) (hg : Gl X "range" := by rfl)
    (hs : starEach [a, b] X.env = (false, eval a X.env) :: starEach [b] X.env := by rfl) (hs2 : starEach [b] X.env = (false, eval b X.env) :: starEach [] X.env := by rfl) : Es X σ G H tg (.Call (.Name "range" p) [a, b] [] pos) (rngD lo (hi - lo).toNat) := by
  refine ⟨_, pi_range2 hg hm pa_self (by rw [hs, hs2]; rfl) (by rw [hs2]; rfl), fun G1 H1 g R q => (ea_cons ha (ea_cons hb ea_nil hs2) hs).run G1 H1 g _ fun vs G2 H2 g2 dvs => ?_⟩
  obtain ⟨v, w, rfl, dv, dw⟩ := dvs.inv2
  cases dv.inv_int
  cases dw.inv_int
  exact ⟨lo, hi, rfl, by omega, q _ G2 H2 g2 (wk_rng lo _ G2)⟩
theorem Es.is {ds' : List PyData} (h : Es X σ G H tg iter ds) (e : ds = ds') : Es X σ G H tg iter ds' := e ▸ h
/-- for i, x in enumerate(a list) -/
def enD (ds : List PyData) : List PyData := (List.range ds.length).map fun i : Nat => .tuple [.int (i : Int), ds.getD i .none]
theorem enD_length : (enD ds).length = ds.length := by simp [enD]
theorem enD_get {i : Nat} (h : ds[i]? = some d) : (enD ds)[i]? = some (.tuple [.int (i : Int), d]) := by
  have hi := (List.getElem?_eq_some_iff.mp h).1
  unfold enD
  rw [List.getElem?_map, List.getElem?_range hi]
  simp [List.getD_eq_getElem?_getD, h]
theorem es_enum {elts : List Expr} {kk : Nat} {tpos : Pos} (hm : X.mg "enumerate" = none) (ha : Ed X σ G H a (.list ds)) (hz : ds.length ≤ sizeLine := by decide) (hg : Gl X "enumerate" := by rfl)
    (hs : starEach [a] X.env = (false, eval a X.env) :: starEach [] X.env := by rfl) (hpl : (backTo pos (starEach [] X.env)).any (·.1) = false := by rfl) : Es X σ G H (.Tuple elts kk tpos) (.Call (.Name "enumerate" p) [a] [] pos) (enD ds) := by
  refine ⟨_, pi_enum hg hm pa_self hs, fun G1 H1 g R q => (ea_cons ha ea_nil hs).run G1 H1 g _ fun vs G2 H2 g2 dvs => ?_⟩
  obtain ⟨v, rfl, dv⟩ := dvs.inv1
  obtain ⟨l, xs, rfl, hl, hx⟩ := dv.inv_lst
  refine ⟨l, xs, rfl, .of (g2.i _ _ hl), q _ G2 H2 g2 ⟨fun i G' H' hi s1 s2 => ?_, fun G' H' s1 s2 => ⟨xs, .of (s2 _ _ (s1 _ _ hl)), by rw [enD_length, hx.len]; exact Nat.le_refl _⟩, fun i G' H' x H'' hi s1 s2 hy => ?_⟩⟩
  · rw [enD_length] at hi
    have hi2 : i < xs.length := by rw [hx.len]; exact hi
    exact ⟨xs, xs[i], .of (s2 _ _ (s1 _ _ hl)), List.getElem?_eq_getElem hi2⟩
  · obtain ⟨T, y, rfl, hT, rfl, f⟩ := hy
    rw [enD_length] at hi
    refine ⟨_, .new s2 hT, fun d hd => ?_⟩
    have h1 := f xs (.of (s2 _ _ (s1 _ _ hl)))
    have h2 : ds[i]? = some ds[i] := List.getElem?_eq_getElem hi
    rw [enD_get h2] at hd
    cases hd
    exact DaAll.tup upd_same (.cons (.int _) (.cons ((hx.at' i y _ h1 h2).mono (s1.trans (same_new (s2.free hT)))) .nil))
/-- for x, y in zip(two lists) -/
def ziD (ds es : List PyData) : List PyData := (List.range (min ds.length es.length)).map fun i => .tuple [ds.getD i .none, es.getD i .none]
theorem ziD_length {es : List PyData} : (ziD ds es).length = min ds.length es.length := by simp [ziD]
theorem ziD_get {es : List PyData} {i : Nat} {d' : PyData} (h : ds[i]? = some d) (h' : es[i]? = some d') : (ziD ds es)[i]? = some (.tuple [d, d']) := by
  have hi := (List.getElem?_eq_some_iff.mp h).1
  have hi' := (List.getElem?_eq_some_iff.mp h').1
  unfold ziD
  rw [List.getElem?_map, List.getElem?_range (by omega)]
  simp [List.getD_eq_getElem?_getD, h, h']
theorem es_zipLL {es : List PyData} {elts : List Expr} {kk : Nat} {tpos : Pos} (hm : X.mg "zip" = none) (ha : Ed X σ G H a (.list ds)) (hb : Ed X σ G H b (.list es)) (hg : Gl X "zip" := by rfl)
    (hs : starEach [a, b] X.env = (false, eval a X.env) :: starEach [b] X.env := by rfl) (hs2 : starEach [b] X.env = (false, eval b X.env) :: starEach [] X.env := by rfl) (hpl : (backTo pos (starEach [b] X.env)).any (·.1) = false := by rfl) :
    Es X σ G H (.Tuple elts kk tpos) (.Call (.Name "zip" p) [a, b] [] pos) (ziD ds es) := by
  refine ⟨_, RZ.pi_zipA hg hm pa_self hs hpl, fun G1 H1 g R q => (ea_cons ha (ea_cons hb ea_nil hs2) hs).run G1 H1 g _ fun vs G2 H2 g2 dvs => ?_⟩
  obtain ⟨v, w, rfl, dv, dw⟩ := dvs.inv2
  obtain ⟨l, xs, rfl, hl, hx⟩ := dv.inv_lst
  obtain ⟨m, ys, rfl, hm, hy⟩ := dw.inv_lst
  refine ⟨l, m, xs, ys, rfl, .inl ⟨.of (g2.i _ _ hl), .of (g2.i _ _ hm), q _ G2 H2 g2 ⟨fun i G' H' hi s1 s2 => ?_, fun G' H' s1 s2 => ⟨xs, ys, .of (s2 _ _ (s1 _ _ hl)), .of (s2 _ _ (s1 _ _ hm)), ?_⟩, fun i G' H' x H'' hi s1 s2 hyl => ?_⟩⟩⟩
  · rw [ziD_length] at hi
    have hi2 : i < xs.length := by rw [hx.len]; omega
    have hi3 : i < ys.length := by rw [hy.len]; omega
    exact ⟨xs, ys, xs[i], ys[i], .of (s2 _ _ (s1 _ _ hl)), .of (s2 _ _ (s1 _ _ hm)), List.getElem?_eq_getElem hi2, List.getElem?_eq_getElem hi3⟩
  · rw [ziD_length, hx.len, hy.len]; omega
  · obtain ⟨T, x', y', rfl, hT, rfl, f1, f2⟩ := hyl
    rw [ziD_length] at hi
    refine ⟨_, .new s2 hT, fun d hd => ?_⟩
    have h1 := f1 xs (.of (s2 _ _ (s1 _ _ hl)))
    have h2 := f2 ys (.of (s2 _ _ (s1 _ _ hm)))
    have k1 : ds[i]? = some ds[i] := List.getElem?_eq_getElem (by omega)
    have k2 : es[i]? = some es[i] := List.getElem?_eq_getElem (by omega)
    rw [ziD_get k1 k2] at hd
    cases hd
    have s3 := s1.trans (same_new (o := HO.tup [x', y']) (s2.free hT))
    exact DaAll.tup upd_same (.cons ((hx.at' i _ _ h1 k1).mono s3) (.cons ((hy.at' i _ _ h2 k2).mono s3) .nil))
end

/-! ### targets -/
structure Bd (X : Cx) (tg : Expr) (d : PyData) (S : St → Hp → St → Prop) : Prop where
  run : ∀ x σ G H (Q : St → Hp → Prop), Da G x d → Same G H → (∀ σ2, S σ G σ2 → Q σ2 H) → RG X tg x σ H Q
def Sn (i : Nat) (d : PyData) : St → Hp → St → Prop := fun σ G σ2 => ∃ v, σ2 = σ.set i (some v) ∧ Da G v d
def Sp2 (i j : Nat) (d e : PyData) : St → Hp → St → Prop := fun σ G σ2 => ∃ v w, σ2 = (σ.set i (some v)).set j (some w) ∧ Da G v d ∧ Da G w e
def Sp3 (i j k : Nat) (d e f : PyData) : St → Hp → St → Prop := fun σ G σ2 => ∃ v w u, σ2 = ((σ.set i (some v)).set j (some w)).set k (some u) ∧ Da G v d ∧ Da G w e ∧ Da G u f
theorem slotn (k : Nat) {N : List Str} {x : Str} (h : N[k]? = some x) : N[k]? = some x := h
section
variable {X : Cx} {σ : St} {G H G' H' : Hp} {d e f : PyData} {x y z : Str} {i j k : Nat} {p1 p2 p3 pos : Pos} {kk : Nat}
theorem bd_name (hN : X.N.Nodup) (hi : X.N[i]? = some x := by first | exact slotn 0 rfl | exact slotn 1 rfl | exact slotn 2 rfl | exact slotn 3 rfl | exact slotn 4 rfl | exact slotn 5 rfl | exact slotn 6 rfl | exact slotn 7 rfl | exact slotn 8 rfl | exact slotn 9 rfl | exact slotn 10 rfl | exact slotn 11 rfl | exact slotn 12 rfl | exact slotn 13 rfl | exact slotn 14 rfl | exact slotn 15 rfl)
    (hx : Loc X.env.scope x := by first | exact Or.inl rfl | exact Or.inr rfl) (hf : X.fn x = true ∨ X.env.scope.names.lookup x = some .local := by first | exact .inl rfl | exact .inr rfl) : Bd X (.Name x pos) d (Sn i d) :=
  ⟨fun v σ G H Q dv i q => rg_of (pg_name hN hi hx hf) (q _ ⟨v, rfl, dv⟩)⟩
theorem bd_pair (hN : X.N.Nodup) (hi : X.N[i]? = some x := by first | exact slotn 0 rfl | exact slotn 1 rfl | exact slotn 2 rfl | exact slotn 3 rfl | exact slotn 4 rfl | exact slotn 5 rfl | exact slotn 6 rfl | exact slotn 7 rfl | exact slotn 8 rfl | exact slotn 9 rfl | exact slotn 10 rfl | exact slotn 11 rfl | exact slotn 12 rfl | exact slotn 13 rfl | exact slotn 14 rfl | exact slotn 15 rfl)
    (hj : X.N[j]? = some y := by first | exact slotn 0 rfl | exact slotn 1 rfl | exact slotn 2 rfl | exact slotn 3 rfl | exact slotn 4 rfl | exact slotn 5 rfl | exact slotn 6 rfl | exact slotn 7 rfl | exact slotn 8 rfl | exact slotn 9 rfl | exact slotn 10 rfl | exact slotn 11 rfl | exact slotn 12 rfl | exact slotn 13 rfl | exact slotn 14 rfl | exact slotn 15 rfl)
    (hx : Loc X.env.scope x := by first | exact Or.inl rfl | exact Or.inr rfl) (hf : X.fn x = true ∨ X.env.scope.names.lookup x = some .local := by first | exact .inl rfl | exact .inr rfl)
    (hy : Loc X.env.scope y := by first | exact Or.inl rfl | exact Or.inr rfl) (hg : X.fn y = true ∨ X.env.scope.names.lookup y = some .local := by first | exact .inl rfl | exact .inr rfl)
    (hc : X.calm = true := by rfl) (h1 : (assignEach [.Name x p1, .Name y p2] X.env).map (·.2) = assign (.Name x p1) X.env :: (assignEach [.Name y p2] X.env).map (·.2) := by rfl)
    (h2 : (assignEach [.Name y p2] X.env).map (·.2) = assign (.Name y p2) X.env :: (assignEach [] X.env).map (·.2) := by rfl)
    (hn : (assignEach [.Name x p1, .Name y p2] X.env).length = 2 := by rfl) (hst : (assignEach [.Name x p1, .Name y p2] X.env).findIdx? (·.1) = none := by rfl) :
    Bd X (.Tuple [.Name x p1, .Name y p2] kk pos) (.tuple [d, e]) (Sp2 i j d e) :=
  ⟨fun v σ G H Q dv i q => rg_of (pg_tup hc (pgs_cons (pg_name hN hi hx hf) (pgs_cons (pg_name hN hj hy hg) pgs_nil h2) h1) hn hst) (by
    obtain ⟨a, xs, rfl, ha, hx⟩ := dv.inv_tup
    obtain ⟨v, w, rfl, d1, d2⟩ := hx.inv2
    exact ⟨a, _, rfl, .of (i _ _ ha), rfl, v, _, rfl, w, _, rfl, rfl, q _ ⟨v, w, rfl, d1, d2⟩⟩)⟩
theorem bd_triple (hN : X.N.Nodup) (hi : X.N[i]? = some x := by first | exact slotn 0 rfl | exact slotn 1 rfl | exact slotn 2 rfl | exact slotn 3 rfl | exact slotn 4 rfl | exact slotn 5 rfl | exact slotn 6 rfl | exact slotn 7 rfl | exact slotn 8 rfl | exact slotn 9 rfl | exact slotn 10 rfl | exact slotn 11 rfl | exact slotn 12 rfl | exact slotn 13 rfl | exact slotn 14 rfl | exact slotn 15 rfl)
    (hj : X.N[j]? = some y := by first | exact slotn 0 rfl | exact slotn 1 rfl | exact slotn 2 rfl | exact slotn 3 rfl | exact slotn 4 rfl | exact slotn 5 rfl | exact slotn 6 rfl | exact slotn 7 rfl | exact slotn 8 rfl | exact slotn 9 rfl | exact slotn 10 rfl | exact slotn 11 rfl | exact slotn 12 rfl | exact slotn 13 rfl | exact slotn 14 rfl | exact slotn 15 rfl)
    (hk : X.N[k]? = some z := by first | exact slotn 0 rfl | exact slotn 1 rfl | exact slotn 2 rfl | exact slotn 3 rfl | exact slotn 4 rfl | exact slotn 5 rfl | exact slotn 6 rfl | exact slotn 7 rfl | exact slotn 8 rfl | exact slotn 9 rfl | exact slotn 10 rfl | exact slotn 11 rfl | exact slotn 12 rfl | exact slotn 13 rfl | exact slotn 14 rfl | exact slotn 15 rfl)
    (hx : Loc X.env.scope x := by first | exact Or.inl rfl | exact Or.inr rfl) (hf : X.fn x = true ∨ X.env.scope.names.lookup x = some .local := by first | exact .inl rfl | exact .inr rfl)
    (hy : Loc X.env.scope y := by first | exact Or.inl rfl | exact Or.inr rfl) (hg : X.fn y = true ∨ X.env.scope.names.lookup y = some .local := by first | exact .inl rfl | exact .inr rfl)
    (hz : Loc X.env.scope z := by first | exact Or.inl rfl | exact Or.inr rfl) (hh : X.fn z = true ∨ X.env.scope.names.lookup z = some .local := by first | exact .inl rfl | exact .inr rfl)
    (hc : X.calm = true := by rfl) (h1 : (assignEach [.Name x p1, .Name y p2, .Name z p3] X.env).map (·.2) = assign (.Name x p1) X.env :: (assignEach [.Name y p2, .Name z p3] X.env).map (·.2) := by rfl)
    (h2 : (assignEach [.Name y p2, .Name z p3] X.env).map (·.2) = assign (.Name y p2) X.env :: (assignEach [.Name z p3] X.env).map (·.2) := by rfl)
    (h3 : (assignEach [.Name z p3] X.env).map (·.2) = assign (.Name z p3) X.env :: (assignEach [] X.env).map (·.2) := by rfl)
    (hn : (assignEach [.Name x p1, .Name y p2, .Name z p3] X.env).length = 3 := by rfl) (hst : (assignEach [.Name x p1, .Name y p2, .Name z p3] X.env).findIdx? (·.1) = none := by rfl) :
    Bd X (.Tuple [.Name x p1, .Name y p2, .Name z p3] kk pos) (.tuple [d, e, f]) (Sp3 i j k d e f) :=
  ⟨fun v σ G H Q dv i q => rg_of (pg_tup hc (pgs_cons (pg_name hN hi hx hf) (pgs_cons (pg_name hN hj hy hg) (pgs_cons (pg_name hN hk hz hh) pgs_nil h3) h2) h1) hn hst) (by
    obtain ⟨a, xs, rfl, ha, hx⟩ := dv.inv_tup
    obtain ⟨v, w, u, rfl, d1, d2, d3⟩ := hx.inv3
    exact ⟨a, _, rfl, .of (i _ _ ha), rfl, v, _, rfl, w, _, rfl, u, _, rfl, rfl, q _ ⟨v, w, u, rfl, d1, d2, d3⟩⟩)⟩
end

/-! ### comprehensions -/
def given (n : Nat) (f : Nat → Bool) (v : Nat → PyData) : List PyData := ((List.range n).filter f).map v
theorem given_yes {n : Nat} {f : Nat → Bool} {v : Nat → PyData} (h : f n = true) : given (n + 1) f v = given n f v ++ [v n] := by
  unfold given
  rw [List.range_succ, List.filter_append, List.map_append, List.filter_cons, if_pos h]
  rfl
theorem given_no {n : Nat} {f : Nat → Bool} {v : Nat → PyData} (h : f n = false) : given (n + 1) f v = given n f v := by
  unfold given
  rw [List.range_succ, List.filter_append, List.map_append, List.filter_cons, if_neg (by rw [h]; decide)]
  show _ ++ [] = _
  rw [List.append_nil]
theorem given_len (n : Nat) (f : Nat → Bool) (v : Nat → PyData) : (given n f v).length ≤ n := by
  unfold given
  rw [List.length_map]
  have h := List.length_filter_le f (List.range n)
  rw [List.length_range] at h
  exact h
theorem given_all (n : Nat) (v : Nat → PyData) : given n (fun _ => true) v = (List.range n).map v := by
  unfold given
  rw [List.filter_eq_self.mpr fun _ _ => rfl]
abbrev Blk (X : Cx) (scope : Scope) (s0 : Shared) (H0 : Hp) (C : Addr) (cl : List (Str × Addr)) (fp : List Addr) : Cx := X.blk s0 H0 scope (compEnvC scope cl C X.env) fp
section
variable {X : Cx} {σ : St} {G H G' H' : Hp} {elt tg iter t : Expr} {scope : Scope} {own : List (Str × Nat)} {pos spos py : Pos} {ds : List PyData} {S : Nat → PyData → St → Hp → St → Prop}
theorem lc_run {ifs : List Expr} {tt : TT} (f : Nat → Bool) (v : Nat → PyData) {wi : TI} (hs : ∀ G1 H1, Grow G H G1 H1 → ∀ R : It → Hp → Prop, (∀ J G2 H2, Grow G1 H1 G2 H2 → Wk J ds G2 → R J H2) → wi σ H1 R)
    (hg : ∀ s0 H0 C cl fp (i : Nat) d, ds[i]? = some d → Bd (Blk X scope s0 H0 C cl fp) tg d (S i d))
    (hw : ∀ (i : Nat) d G' σ2, S i d (wipe σ (own.map (·.2))) G' σ2 → wipe σ2 (own.map (·.2)) = wipe σ (own.map (·.2)))
    (ht : ∀ (i : Nat) d σ2 G' H', Grow G H G' H' → ds[i]? = some d → S i d (wipe σ (own.map (·.2))) G' σ2 → ∀ Q : Bool → Hp → Prop, (∀ G2 H2, Grow G' H' G2 H2 → Q (f i) H2) → tt σ2 H' Q)
    (he : ∀ s0 H0 C cl fp (i : Nat) d σ2 G' H', Grow G H G' H' → ds[i]? = some d → S i d (wipe σ (own.map (·.2))) G' σ2 → f i = true → Ed (Blk X scope s0 H0 C cl fp) σ2 G' H' elt (v i)) (hz : ds.length ≤ 1000000) :
    ∀ G1 H1, Grow G H G1 H1 → ∀ Q : VK, (∀ p xs G2 H2, Grow G1 H1 G2 H2 → H1 p = none → G2 p = none → H2 p = some (.lst xs) → DaAll G2 xs (given ds.length f v) → Q (.ref p) H2) →
      tLc wi (fun x σ H Q => ∀ s0 H0 C cl fp, RG (Blk X scope s0 H0 C cl fp) tg x σ H Q) tt (fun σ H Q => ∀ s0 H0 C cl fp, RE (Blk X scope s0 H0 C cl fp) elt σ H Q) (own.map (·.2)) σ H1 Q := by
  intro G1 H1 g Q q
  refine hs G1 H1 g _ fun J G2 H2 g2 wk D hD => ?_
  refine ⟨fun i m H' => m = ds.length - i ∧ i ≤ ds.length ∧ ∃ G' acc, Grow G2 H2 G' H' ∧ G' D = none ∧ H' D = some (.lst acc) ∧ DaAll G' acc (given i f v), ⟨ds.length, by simp, Nat.zero_le _, G2, [], .newH g2.i hD, g2.i.free hD, upd_same, .nil⟩, ?_⟩
  rintro i m H' ⟨rfl, hi, G', acc, g3, hGD, hHD, hacc⟩
  by_cases hlt : i < ds.length
  · have hd : ds[i]? = some ds[i] := List.getElem?_eq_getElem hlt
    refine .inr ⟨wk.go i G' H' hlt g3.g g3.i, _, fun H4 h4 => ⟨ds.length - (i + 1), by omega, h4⟩, fun x H'' y => ?_⟩
    obtain ⟨G'', g4, hx⟩ := wk.yld i G' H' x H'' hlt g3.g g3.i y
    intro s0 H0 C cl fp
    refine (hg s0 H0 C cl fp i _ hd).run x _ G'' H'' _ (hx _ hd) g4.i fun σ2 hS => ⟨hw i _ G'' σ2 hS, ?_⟩
    have gg := g.trans (g2.trans (g3.trans g4))
    have hGD2 : G'' D = none := g4.n D _ hGD hHD nofun
    have hHD2 := g4.h D _ hHD
    refine ht i _ σ2 G'' H'' gg hd hS _ fun G5 H5 g5 => ?_
    have hGD3 : G5 D = none := g5.n D _ hGD2 hHD2 nofun
    have hHD3 := g5.h D _ hHD2
    cases hf : f i with
    | false =>
      refine iteF ⟨rfl, hlt, G5, acc, g3.trans (g4.trans g5), hGD3, hHD3, ?_⟩
      rw [given_no hf]
      exact hacc.mono (g4.g.trans g5.g)
    | true =>
      refine iteT fun s0 H0 C cl fp => ?_
      refine ((he s0 H0 C cl fp i _ σ2 G'' H'' gg hd hS hf).run G5 H5 g5 _ fun w G6 H6 g6 dw => ?_)
      have hGD4 : G6 D = none := g6.n D _ hGD3 hHD3 nofun
      have hHD4 := g6.h D _ hHD3
      have hl : acc.length ≤ i := by rw [hacc.len]; exact given_len i f v
      have g7 := g3.trans (g4.trans (g5.trans g6))
      refine ⟨acc, hHD4, Nat.lt_of_le_of_lt (show acc.length ≤ 1000000 by omega) (by decide), rfl, hlt, G6, _, ⟨g7.g, fun a o ha => ?_, same_mut g6.i hGD4, g7.n⟩, hGD4, upd_same, ?_⟩
      · have hne : a ≠ D := ne_of_none ha hD
        rw [upd_ne hne]
        exact g7.h a o ha
      · rw [given_yes hf]
        exact (hacc.mono (g4.g.trans (g5.g.trans g6.g))).snoc dw
  · have e : i = ds.length := by omega
    subst e
    exact .inl ⟨wk.stop G' H' g3.g g3.i, q D acc G' H' (g2.trans g3) (g2.none_h hD) hGD hHD hacc⟩
theorem fix_list {p : Addr} {xs : List V} {G1 H1 G2 H2 : Hp} (g : Grow G1 H1 G2 H2) (h1 : H1 p = none) (h2 : G2 p = none) (h3 : H2 p = some (.lst xs)) : Grow G1 H1 (upd G2 p (.lst xs)) H2 :=
  ⟨g.g.trans (same_new h2), g.h, same_fix g.i h3, fun a o k1 k2 k3 => by
    rw [upd_ne (ne_of_none k2 h1)]
    exact g.n a o k1 k2 k3⟩
theorem tt_one (hcx : ∀ s0 H0 C cl fp, PTs (Blk X scope s0 H0 C cl fp) [t] (fun σ H Q => ∀ s0 H0 C cl fp, RT (Blk X scope s0 H0 C cl fp) t σ H Q)) : True := trivial
/-- [elt for tg in iter if t] -/
theorem en_lc1 (f : Nat → Bool) (v : Nat → PyData) (hN : X.N.Nodup) (hs : Es X σ G H tg iter ds) (ok : BlkOk X.N X.env.scope scope own)
    (hg : ∀ s0 H0 C cl fp (i : Nat) d, ds[i]? = some d → Bd (Blk X scope s0 H0 C cl fp) tg d (S i d))
    (hw : ∀ (i : Nat) d G' σ2, S i d (wipe σ (own.map (·.2))) G' σ2 → wipe σ2 (own.map (·.2)) = wipe σ (own.map (·.2)))
    (ht : ∀ s0 H0 C cl fp (i : Nat) d σ2 G' H', Grow G H G' H' → ds[i]? = some d → S i d (wipe σ (own.map (·.2))) G' σ2 → Et (Blk X scope s0 H0 C cl fp) σ2 G' H' t (f i))
    (he : ∀ s0 H0 C cl fp (i : Nat) d σ2 G' H', Grow G H G' H' → ds[i]? = some d → S i d (wipe σ (own.map (·.2))) G' σ2 → f i = true → Ed (Blk X scope s0 H0 C cl fp) σ2 G' H' elt (v i)) (hz : ds.length ≤ 1000000)
    (hc : X.calm = true := by rfl) (hfs : ∀ x, foldedSetIterable iter X.env x = pure x := by intro _; rfl) : En X σ G H (.ListComp elt [⟨tg, iter, [t], 0⟩] scope pos) (given ds.length f v) := by
  obtain ⟨wi, hi, hs⟩ := hs.run
  exact ⟨fun G1 H1 g Q q => re_of (pe_lc hc hN hi ok (fun s0 H0 C cl fp => ⟨fun pins s σ H v u Q I r h => h s0 H0 C cl fp pins s u I r⟩)
    (fun s0 H0 C cl fp => pts_one (t := fun σ H Q => ∀ s0 H0 C cl fp, RT (Blk X scope s0 H0 C cl fp) t σ H Q) ⟨fun pins s σ H Q I h => h s0 H0 C cl fp pins s I⟩)
    (fun s0 H0 C cl fp => ⟨fun pins s σ H Q I h => h s0 H0 C cl fp pins s I⟩) hfs)
    (lc_run (ifs := [t]) f v hs hg hw (fun i d σ2 G' H' g' hd hS Q k s0 H0 C cl fp => (ht s0 H0 C cl fp i d σ2 G' H' g' hd hS).run G' H' (.refl g'.i) Q k) he hz G1 H1 g Q q)⟩
/-- [elt for tg in iter] -/
theorem en_lc0 (v : Nat → PyData) (hN : X.N.Nodup) (hs : Es X σ G H tg iter ds) (ok : BlkOk X.N X.env.scope scope own)
    (hg : ∀ s0 H0 C cl fp (i : Nat) d, ds[i]? = some d → Bd (Blk X scope s0 H0 C cl fp) tg d (S i d))
    (hw : ∀ (i : Nat) d G' σ2, S i d (wipe σ (own.map (·.2))) G' σ2 → wipe σ2 (own.map (·.2)) = wipe σ (own.map (·.2)))
    (he : ∀ s0 H0 C cl fp (i : Nat) d σ2 G' H', Grow G H G' H' → ds[i]? = some d → S i d (wipe σ (own.map (·.2))) G' σ2 → Ed (Blk X scope s0 H0 C cl fp) σ2 G' H' elt (v i)) (hz : ds.length ≤ 1000000)
    (hc : X.calm = true := by rfl) (hfs : ∀ x, foldedSetIterable iter X.env x = pure x := by intro _; rfl) : En X σ G H (.ListComp elt [⟨tg, iter, [], 0⟩] scope pos) ((List.range ds.length).map v) := by
  obtain ⟨wi, hi, hs⟩ := hs.run
  rw [← given_all]
  exact ⟨fun G1 H1 g Q q => re_of (pe_lc hc hN hi ok (fun s0 H0 C cl fp => ⟨fun pins s σ H v u Q I r h => h s0 H0 C cl fp pins s u I r⟩) (fun s0 H0 C cl fp => pts_nil)
    (fun s0 H0 C cl fp => ⟨fun pins s σ H Q I h => h s0 H0 C cl fp pins s I⟩) hfs)
    (lc_run (ifs := []) (fun _ => true) v hs hg hw (fun i d σ2 G' H' g' hd hS Q k => k G' H' (.refl g'.i)) (fun s0 H0 C cl fp i d σ2 G' H' g' hd hS _ => he s0 H0 C cl fp i d σ2 G' H' g' hd hS) hz G1 H1 g Q q)⟩
theorem En.ed {e : Expr} (h : En X σ G H e ds) : Ed X σ G H e (.list ds) :=
  ⟨fun G1 H1 g Q q => h.run G1 H1 g Q fun p xs G2 H2 g2 h1 h2 h3 dx => q _ _ H2 (fix_list g2 h1 h2 h3) (DaAll.lst upd_same (dx.mono (same_new h2)))⟩
end
end Fk
end
section
set_option Elab.async false
set_option linter.all false
set_option maxRecDepth 100000
set_option maxHeartbeats 4000000
/-! Fk4: statements, loops, own defs. -/
namespace Fk
open PySem PySem.Spec L2
open PyProof.Rows hiding St

section
variable {X : Cx} {σ : St} {G H G' H' : Hp} {e a b c tg iter : Expr} {d d' : PyData} {pos p : Pos} {es : List Expr} {ds : List PyData} {st : Stmt} {sts rest body orelse : List Stmt} {D : Ends} {x y : Str} {i j : Nat}
theorem rb_nil (h : D.nx σ H) : RB X [] D σ H := rb_of pss_nil h
theorem rb_cons (h : RS X st { D with nx := fun σ' H' => RB X rest D σ' H' } σ H) : RB X (st :: rest) D σ H := rb_of (pss_cons ps_self pss_self) h
theorem rb_one (h : RS X st D σ H) : RB X [st] D σ H := rb_of (pss_one ps_self) h
theorem rs_never (h : False) : RS X st D σ H := h.elim
theorem rb_never (h : False) : RB X sts D σ H := h.elim
/-- e evaluates to something of which P holds, in a statement -/
structure Ev (X : Cx) (σ : St) (G H : Hp) (e : Expr) (P : V → Hp → Hp → Prop) : Prop where
  run : ∀ Q : VK, (∀ v G2 H2, Grow G H G2 H2 → P v G2 H2 → Q v H2) → RE X e σ H Q
theorem Ed.ev (h : Ed X σ G H e d) (i : Same G H) : Ev X σ G H e (fun v G2 _ => Da G2 v d) := ⟨fun Q q => h.run G H (.refl i) Q q⟩
theorem Er.ev {v : V} (h : Er X σ G H e v) (i : Same G H) : Ev X σ G H e (fun w _ _ => w = v) := ⟨fun Q q => h.run G H (.refl i) Q fun G2 H2 g => q v G2 H2 g rfl⟩
theorem En.ev (h : En X σ G H e ds) (i : Same G H) : Ev X σ G H e (fun w G2 H2 => ∃ p xs, w = .ref p ∧ H p = none ∧ G2 p = none ∧ H2 p = some (.lst xs) ∧ DaAll G2 xs ds) :=
  ⟨fun Q q => h.run G H (.refl i) Q fun p xs G2 H2 g h1 h2 h3 h4 => q _ G2 H2 g ⟨p, xs, rfl, h1, h2, h3, h4⟩⟩
/-- x = e -/
theorem rs_set {P : V → Hp → Hp → Prop} {pos' : Pos} (h : Ev X σ G H e P) (hN : X.N.Nodup)
    (k : ∀ v G2 H2, Grow G H G2 H2 → P v G2 H2 → D.nx (σ.set i (some v)) H2)
    (hi : X.N[i]? = some x := by first | exact slotn 0 rfl | exact slotn 1 rfl | exact slotn 2 rfl | exact slotn 3 rfl | exact slotn 4 rfl | exact slotn 5 rfl | exact slotn 6 rfl | exact slotn 7 rfl | exact slotn 8 rfl | exact slotn 9 rfl | exact slotn 10 rfl | exact slotn 11 rfl | exact slotn 12 rfl | exact slotn 13 rfl | exact slotn 14 rfl | exact slotn 15 rfl)
    (hx : Loc X.env.scope x := by first | exact Or.inl rfl | exact Or.inr rfl) (hs : swapsWith e (some (.Name x pos')) pos.line X.env = pure false := by rfl) (hf : X.fn x = true ∨ X.env.scope.names.lookup x = some .local := by first | exact .inl rfl | exact .inr rfl) :
    RS X (.Assign [.Name x pos'] e pos) D σ H := rs_of (ps_set hN hi hx pe_self hs hf) (h.run _ k)
/-- targets = e -/
theorem rs_asg {S : St → Hp → St → Prop} (h : Ed X σ G H e d) (hi : Same G H) (hb : Bd X tg d S) (k : ∀ σ2 G2 H2, Grow G H G2 H2 → S σ G2 σ2 → D.nx σ2 H2)
    (hs : swapsWithSole [tg] e pos.line X.env = pure false := by rfl) (hw : swappedStores [tg] e X.env = pure none := by rfl) (h1 : (assignEach [tg] X.env).map (·.2) = [assign tg X.env] := by rfl) : RS X (.Assign [tg] e pos) D σ H :=
  rs_of (ps_asg pe_self pg_self hs hw h1) (h.run G H (.refl hi) _ fun v G2 H2 g2 dv => hb.run v σ G2 H2 _ dv g2.i fun σ2 s => k σ2 G2 H2 g2 s)
/-- x, y = a, b -/
theorem rs_par {px py pt : Pos} {kt k2 pt2} {P : List V → Hp → Hp → Prop} (ha : ∀ Q : List V → Hp → Prop, (∀ vs G2 H2, Grow G H G2 H2 → P vs G2 H2 → Q vs H2) → RA X [a, b] σ H Q) (hp : ∀ vs G2 H2, P vs G2 H2 → vs.length = 2) (hN : X.N.Nodup)
    (k : ∀ v w G2 H2, Grow G H G2 H2 → P [v, w] G2 H2 → D.nx ((σ.set i (some v)).set j (some w)) H2)
    (hi : X.N[i]? = some x := by first | exact slotn 0 rfl | exact slotn 1 rfl | exact slotn 2 rfl | exact slotn 3 rfl | exact slotn 4 rfl | exact slotn 5 rfl | exact slotn 6 rfl | exact slotn 7 rfl | exact slotn 8 rfl | exact slotn 9 rfl | exact slotn 10 rfl | exact slotn 11 rfl | exact slotn 12 rfl | exact slotn 13 rfl | exact slotn 14 rfl | exact slotn 15 rfl)
    (hj : X.N[j]? = some y := by first | exact slotn 0 rfl | exact slotn 1 rfl | exact slotn 2 rfl | exact slotn 3 rfl | exact slotn 4 rfl | exact slotn 5 rfl | exact slotn 6 rfl | exact slotn 7 rfl | exact slotn 8 rfl | exact slotn 9 rfl | exact slotn 10 rfl | exact slotn 11 rfl | exact slotn 12 rfl | exact slotn 13 rfl | exact slotn 14 rfl | exact slotn 15 rfl)
    (hij : i ≠ j := by decide) (hx : X.env.scope.names.lookup x = some .local := by rfl) (hy : X.env.scope.names.lookup y = some .local := by rfl) (hc : X.calm = true := by rfl)
    (hw : swappedStores [.Tuple [.Name x px, .Name y py] kt pt] (.Tuple [a, b] k2 pt2) X.env = pure (some [x, y]) := by rfl)
    (hs : swapsWithSole [.Tuple [.Name x px, .Name y py] kt pt] (.Tuple [a, b] k2 pt2) pos.line X.env = pure false := by rfl) :
    RS X (.Assign [.Tuple [.Name x px, .Name y py] kt pt] (.Tuple [a, b] k2 pt2) pos) D σ H :=
  rs_of (ps_par hc hN hi hj hij hx hy pa_self hw hs) (ha _ fun vs G2 H2 g p => by
    have hl := hp vs G2 H2 p
    match vs, hl with
    | [v, w], _ => exact ⟨v, w, rfl, k v w G2 H2 g p⟩)
theorem Ea.par (h : Ea X σ G H es ds) (i : Same G H) : ∀ Q : List V → Hp → Prop, (∀ vs G2 H2, Grow G H G2 H2 → DaAll G2 vs ds → Q vs H2) → RA X es σ H Q := fun Q q => h.run G H (.refl i) Q q
theorem rs_ret {P : V → Hp → Hp → Prop} (h : Ev X σ G H e P) (k : ∀ v G2 H2, Grow G H G2 H2 → P v G2 H2 → D.rt v H2) : RS X (.Return (some e) pos) D σ H := rs_of (ps_ret pe_self) (h.run _ k)
theorem rs_retD (h : Ed X σ G H e d) (i : Same G H) (k : ∀ v G2 H2, Grow G H G2 H2 → Da G2 v d → D.rt v H2) : RS X (.Return (some e) pos) D σ H := rs_ret (h.ev i) k
theorem rs_setD {pos' : Pos} (h : Ed X σ G H e d) (ii : Same G H) (hN : X.N.Nodup) (k : ∀ v G2 H2, Grow G H G2 H2 → Da G2 v d → D.nx (σ.set i (some v)) H2)
    (hi : X.N[i]? = some x := by first | exact slotn 0 rfl | exact slotn 1 rfl | exact slotn 2 rfl | exact slotn 3 rfl | exact slotn 4 rfl | exact slotn 5 rfl | exact slotn 6 rfl | exact slotn 7 rfl | exact slotn 8 rfl | exact slotn 9 rfl | exact slotn 10 rfl | exact slotn 11 rfl | exact slotn 12 rfl | exact slotn 13 rfl | exact slotn 14 rfl | exact slotn 15 rfl)
    (hx : Loc X.env.scope x := by first | exact Or.inl rfl | exact Or.inr rfl) (hs : swapsWith e (some (.Name x pos')) pos.line X.env = pure false := by rfl) (hf : X.fn x = true ∨ X.env.scope.names.lookup x = some .local := by first | exact .inl rfl | exact .inr rfl) :
    RS X (.Assign [.Name x pos'] e pos) D σ H := rs_set (h.ev ii) hN k hi hx hs hf
theorem rs_if {k : Bool} (h : Et X σ G H c k) (i : Same G H) (h1 : k = true → ∀ G2 H2, Grow G H G2 H2 → RB X body D σ H2) (h2 : k = false → ∀ G2 H2, Grow G H G2 H2 → RB X orelse D σ H2) : RS X (.If c body orelse pos) D σ H :=
  rs_of (ps_if pt_self pss_self pss_self) (h.run G H (.refl i) _ fun G2 H2 g => by
    cases k with
    | true => exact iteT (h1 rfl G2 H2 g)
    | false => exact iteF (h2 rfl G2 H2 g))
/-- an if whose test is known to fail, without else -/
theorem rs_skip (h : Et X σ G H c false) (i : Same G H) (k : ∀ G2 H2, Grow G H G2 H2 → D.nx σ H2) : RS X (.If c body [] pos) D σ H :=
  rs_if h i (fun e => nomatch e) fun _ G2 H2 g => rb_nil (k G2 H2 g)
theorem rs_expr {P : V → Hp → Hp → Prop} (h : Ev X σ G H e P) (k : ∀ v G2 H2, Grow G H G2 H2 → P v G2 H2 → D.nx σ H2) (hs : swapsWith e none pos.line X.env = pure false := by rfl) : RS X (.Expr e pos) D σ H := rs_of (ps_expr pe_self hs) (h.run _ k)
/-- l.append(e) -/
theorem rs_app {l : Addr} {xs : List V} {P : V → Hp → Hp → Prop} {o : Expr} {apos pos' : Pos} (ho : Er X σ G H o (.ref l)) (h : ∀ G1 H1, Grow G H G1 H1 → Ev X σ G1 H1 e P) (i : Same G H) (hl : H l = some (.lst xs)) (hz : xs.length < sizeLine)
    (k : ∀ v G2 H2, Grow G H G2 H2 → P v G2 H2 → D.nx σ (upd H2 l (.lst (xs ++ [v]))))
    (hs : starEach [e] X.env = (false, eval e X.env) :: starEach [] X.env := by rfl)
    (hpe : PE X (.Call (.Attribute o "append" apos) [e] [] pos) (tBM X.K "list" rAppend (RE X o) (tCons (RE X e) tNil)) := by exact pe_bm PySem.F.plainAttrs_list PySem.F.slot_list_append PySem.F.type_list_append mt_append pe_self (pa_cons pe_self pa_nil))
    (hs2 : swapsWith (.Call (.Attribute o "append" apos) [e] [] pos) none pos'.line X.env = pure false := by rfl) :
    RS X (.Expr (.Call (.Attribute o "append" apos) [e] [] pos) pos') D σ H :=
  rs_of (ps_expr hpe hs2) (ho.run G H (.refl i) _ fun G2 H2 g2 => ⟨.inl ⟨rfl, _, SqL.of (g2.h _ _ hl)⟩, (h G2 H2 g2).run _ fun v G3 H3 g3 p => ⟨l, xs, v, rfl, rfl, g3.h _ _ (g2.h _ _ hl), hz, k v G3 H3 (g2.trans g3) p⟩⟩)
/-- l[k] = e -/
theorem rs_setL {l : Addr} {xs : List V} {k : Int} {n : Nat} {o ix : Expr} {pos' : Pos} (he : Ed X σ G H e d) (ho : Er X σ G H o (.ref l)) (hi : Ed X σ G H ix (.int k)) (i : Same G H) (hl : H l = some (.lst xs)) (hk : ixN xs.length k = some n)
    (q : ∀ v G2 H2, Grow G H G2 H2 → Da G2 v d → D.nx σ (upd H2 l (.lst (xs.set n v))))
    (hpe : PG X (.Subscript o ix pos') (gSub (RE X o) (RE X ix) rSetL) := by exact pg_sub pe_self pe_self set_list)
    (hs : swapsWithSole [.Subscript o ix pos'] e pos.line X.env = pure false := by rfl) (hw : swappedStores [.Subscript o ix pos'] e X.env = pure none := by rfl) (h1 : (assignEach [.Subscript o ix pos'] X.env).map (·.2) = [assign (.Subscript o ix pos') X.env] := by rfl) :
    RS X (.Assign [.Subscript o ix pos'] e pos) D σ H :=
  rs_of (ps_asg pe_self hpe hs hw h1) (he.run G H (.refl i) _ fun v G2 H2 g2 dv => ho.run G2 H2 g2 _ fun G3 H3 g3 => hi.run G3 H3 (g2.trans g3) _ fun w G4 H4 g4 dw =>
    ⟨l, xs, k, n, rfl, dw.inv_int, (g2.trans (g3.trans g4)).h _ _ hl, hk, q v G4 H4 (g2.trans (g3.trans g4)) (dv.mono (g3.g.trans g4.g))⟩)
/-- x += e -/
theorem rs_augI {m n : Int} {pos' : Pos} (hv : σ[i]? = some (some (.int m))) (he : Ed X σ G H e (.int n)) (g : Same G H) (hN : X.N.Nodup) (k : ∀ G2 H2, Grow G H G2 H2 → D.nx (σ.set i (some (.int (m + n)))) H2)
    (hi : X.N[i]? = some x := by rfl)
    (hx : Loc X.env.scope x := by first | exact Or.inl rfl | exact Or.inr rfl) (hf : X.fn x = true ∨ X.env.scope.names.lookup x = some .local := by first | exact .inl rfl | exact .inr rfl) : RS X (.AugAssign (.Name x pos') .Add e pos) D σ H :=
  rs_of (ps_aug hN hi hx pe_self ip_add hf) ⟨_, hv, he.run G H (.refl g) _ fun v G2 H2 g2 dv => ⟨m, n, rfl, dv.inv_int, k G2 H2 g2⟩⟩
/-- for tg in iter: body -/
theorem rs_for {S : Nat → PyData → St → Hp → St → Prop} (hs : Es X σ G H tg iter ds) (gi : Same G H) (hb : ∀ (n : Nat) d, ds[n]? = some d → Bd X tg d (S n d)) (I : Nat → St → Hp → Hp → Prop)
    (h0 : ∀ G1 H1, Grow G H G1 H1 → I 0 σ G1 H1)
    (h1 : ∀ (n : Nat) d σ1 G1 H1 G2 H2 σ2, ds[n]? = some d → Same G G1 → Same G1 H1 → I n σ1 G1 H1 → Grow G1 H1 G2 H2 → S n d σ1 G2 σ2 →
      RB X body { D with nx := fun σ' H' => ∃ G', Same G1 G' ∧ Same G' H' ∧ I (n + 1) σ' G' H', ct := fun σ' H' => ∃ G', Same G1 G' ∧ Same G' H' ∧ I (n + 1) σ' G' H', bk := D.nx } σ2 H2)
    (h2 : ∀ σ1 G1 H1, Same G G1 → Same G1 H1 → I ds.length σ1 G1 H1 → D.nx σ1 H1)
    (hp : PassesOwn (model X.prog X.w) X.A X.env X.xe := by exact PassesOwn.never) (hc : X.calm = true := by rfl) (hfs : ∀ x, foldedSetIterable iter X.env x = pure x := by intro _; rfl) : RS X (.For tg iter body [] pos) D σ H := by
  obtain ⟨wi, hi, hs⟩ := hs.run
  refine rs_of (ps_for hp hc hi pg_self pss_self hfs) (hs G H (.refl gi) _ fun J G2 H2 g2 wk => ?_)
  refine ⟨fun n m σ' H' => m = ds.length - n ∧ n ≤ ds.length ∧ ∃ G', Same G2 G' ∧ Same G' H' ∧ I n σ' G' H', ⟨ds.length, by simp, Nat.zero_le _, G2, .refl _, g2.i, h0 G2 H2 g2⟩, ?_⟩
  rintro n m σ' H' ⟨rfl, hn, G', s1, s2, hI⟩
  by_cases hlt : n < ds.length
  · have hd : ds[n]? = some ds[n] := List.getElem?_eq_getElem hlt
    refine .inr ⟨wk.go n G' H' hlt s1 s2, fun σ3 H3 => ∃ G3, Same G' G3 ∧ Same G3 H3 ∧ I (n + 1) σ3 G3 H3, fun σ3 H3 ⟨G3, t1, t2, t3⟩ => ⟨ds.length - (n + 1), by omega, rfl, hlt, G3, s1.trans t1, t2, t3⟩, fun x H'' y => ?_⟩
    obtain ⟨G'', g4, hx⟩ := wk.yld n G' H' x H'' hlt s1 s2 y
    refine (hb n _ hd).run x σ' G'' H'' _ (hx _ hd) g4.i fun σ2 hS => ?_
    exact h1 n _ σ' G' H' G'' H'' σ2 hd (g2.g.trans s1) s2 hI g4 hS
  · have e : n = ds.length := by omega
    subst e
    exact .inl ⟨wk.stop G' H' s1 s2, h2 σ' G' H' (g2.g.trans s1) s2 hI⟩

/-! ### comprehensions stored at a name -/
variable {elt t : Expr} {scope : Scope} {own : List (Str × Nat)} {spos py : Pos} {S : Nat → PyData → St → Hp → St → Prop}
theorem rs_setLc1 (f : Nat → Bool) (v : Nat → PyData) (hN : X.N.Nodup) (hs : Es X σ G H tg iter ds) (gi : Same G H) (ok : BlkOk X.N X.env.scope scope own)
    (hg : ∀ s0 H0 C cl fp (i : Nat) d, ds[i]? = some d → Bd (Blk X scope s0 H0 C cl fp) tg d (S i d))
    (hw : ∀ (i : Nat) d G' σ2, S i d (wipe σ (own.map (·.2))) G' σ2 → wipe σ2 (own.map (·.2)) = wipe σ (own.map (·.2)))
    (ht : ∀ s0 H0 C cl fp (i : Nat) d σ2 G' H', Grow G H G' H' → ds[i]? = some d → S i d (wipe σ (own.map (·.2))) G' σ2 → Et (Blk X scope s0 H0 C cl fp) σ2 G' H' t (f i))
    (he : ∀ s0 H0 C cl fp (i : Nat) d σ2 G' H', Grow G H G' H' → ds[i]? = some d → S i d (wipe σ (own.map (·.2))) G' σ2 → f i = true → Ed (Blk X scope s0 H0 C cl fp) σ2 G' H' elt (v i)) (hz : ds.length ≤ 1000000)
    (k : ∀ w G2 H2, Grow G H G2 H2 → Da G2 w (.list (given ds.length f v)) → D.nx (σ.set i (some w)) H2)
    (hi : X.N[i]? = some y := by first | exact slotn 0 rfl | exact slotn 1 rfl | exact slotn 2 rfl | exact slotn 3 rfl | exact slotn 4 rfl | exact slotn 5 rfl | exact slotn 6 rfl | exact slotn 7 rfl | exact slotn 8 rfl | exact slotn 9 rfl | exact slotn 10 rfl | exact slotn 11 rfl | exact slotn 12 rfl | exact slotn 13 rfl | exact slotn 14 rfl | exact slotn 15 rfl)
    (hyl : X.env.scope.names.lookup y = some .local := by rfl) (hsw : swapsWith (.ListComp elt [⟨tg, iter, [t], 0⟩] scope pos) (some (.Name y py)) spos.line X.env = pure true := by exact sw_true rfl rfl rfl (by decide +kernel))
    (hc : X.calm = true := by rfl) (hfs : ∀ x, foldedSetIterable iter X.env x = pure x := by intro _; rfl) : RS X (.Assign [.Name y py] (.ListComp elt [⟨tg, iter, [t], 0⟩] scope pos) spos) D σ H := by
  obtain ⟨wi, hit, hs⟩ := hs.run
  exact rs_of (ps_setLc hc hN hi hyl hsw hit ok (fun s0 H0 C cl fp => ⟨fun pins s σ H v u Q I r h => h s0 H0 C cl fp pins s u I r⟩)
    (fun s0 H0 C cl fp => pts_one (t := fun σ H Q => ∀ s0 H0 C cl fp, RT (Blk X scope s0 H0 C cl fp) t σ H Q) ⟨fun pins s σ H Q I h => h s0 H0 C cl fp pins s I⟩)
    (fun s0 H0 C cl fp => ⟨fun pins s σ H Q I h => h s0 H0 C cl fp pins s I⟩) hfs)
    (lc_run (ifs := [t]) f v hs hg hw (fun i d σ2 G' H' g' hd hS Q k s0 H0 C cl fp => (ht s0 H0 C cl fp i d σ2 G' H' g' hd hS).run G' H' (.refl g'.i) Q k) he hz G H (.refl gi) _
      fun p xs G2 H2 g2 h1 h2 h3 dx => k _ _ H2 (fix_list g2 h1 h2 h3) (DaAll.lst upd_same (dx.mono (same_new h2))))
theorem rs_setLc0 (v : Nat → PyData) (hN : X.N.Nodup) (hs : Es X σ G H tg iter ds) (gi : Same G H) (ok : BlkOk X.N X.env.scope scope own)
    (hg : ∀ s0 H0 C cl fp (i : Nat) d, ds[i]? = some d → Bd (Blk X scope s0 H0 C cl fp) tg d (S i d))
    (hw : ∀ (i : Nat) d G' σ2, S i d (wipe σ (own.map (·.2))) G' σ2 → wipe σ2 (own.map (·.2)) = wipe σ (own.map (·.2)))
    (he : ∀ s0 H0 C cl fp (i : Nat) d σ2 G' H', Grow G H G' H' → ds[i]? = some d → S i d (wipe σ (own.map (·.2))) G' σ2 → Ed (Blk X scope s0 H0 C cl fp) σ2 G' H' elt (v i)) (hz : ds.length ≤ 1000000)
    (k : ∀ w G2 H2, Grow G H G2 H2 → Da G2 w (.list ((List.range ds.length).map v)) → D.nx (σ.set i (some w)) H2)
    (hi : X.N[i]? = some y := by first | exact slotn 0 rfl | exact slotn 1 rfl | exact slotn 2 rfl | exact slotn 3 rfl | exact slotn 4 rfl | exact slotn 5 rfl | exact slotn 6 rfl | exact slotn 7 rfl | exact slotn 8 rfl | exact slotn 9 rfl | exact slotn 10 rfl | exact slotn 11 rfl | exact slotn 12 rfl | exact slotn 13 rfl | exact slotn 14 rfl | exact slotn 15 rfl)
    (hyl : X.env.scope.names.lookup y = some .local := by rfl) (hsw : swapsWith (.ListComp elt [⟨tg, iter, [], 0⟩] scope pos) (some (.Name y py)) spos.line X.env = pure true := by exact sw_true rfl rfl rfl (by decide +kernel))
    (hc : X.calm = true := by rfl) (hfs : ∀ x, foldedSetIterable iter X.env x = pure x := by intro _; rfl) : RS X (.Assign [.Name y py] (.ListComp elt [⟨tg, iter, [], 0⟩] scope pos) spos) D σ H := by
  obtain ⟨wi, hit, hs⟩ := hs.run
  refine rs_of (ps_setLc hc hN hi hyl hsw hit ok (fun s0 H0 C cl fp => ⟨fun pins s σ H v u Q I r h => h s0 H0 C cl fp pins s u I r⟩) (fun s0 H0 C cl fp => pts_nil)
    (fun s0 H0 C cl fp => ⟨fun pins s σ H Q I h => h s0 H0 C cl fp pins s I⟩) hfs)
    (lc_run (ifs := []) (fun _ => true) v hs hg hw (fun i d σ2 G' H' g' hd hS Q k => k G' H' (.refl g'.i)) (fun s0 H0 C cl fp i d σ2 G' H' g' hd hS _ => he s0 H0 C cl fp i d σ2 G' H' g' hd hS) hz G H (.refl gi) _
      fun p xs G2 H2 g2 h1 h2 h3 dx => k _ _ H2 (fix_list g2 h1 h2 h3) ?_)
  rw [given_all] at dx
  exact DaAll.lst upd_same (dx.mono (same_new h2))
end

/-! ### own defs -/
/-- the promise of a def of data: R relates arguments and answer -/
def spD (R : List PyData → PyData → Prop) : Sp := fun vs H Q _ => ∃ G ds d, Same G H ∧ DaAll G vs ds ∧ R ds d ∧ ∀ v G' H', Grow G H G' H' → Da G' v d → Q v H'
structure Own (P : Program) (w : World) (K : PySem.W.Frag) (mg : Str → Option Value) (base : Heap) (x : Str) (k : Nat) (sp : Sp) : Prop where
  ex : ∃ f fd ps, mg x = some (.ref f) ∧ PySem.W.keepIn K (.ref f) = true ∧ Binds K fd ps [] ∧ FnOk P w K mg base CX0 k f fd ps sp
structure Df (K : PySem.W.Frag) (mg : Str → Option Value) (x : Str) (st : Stmt) : Prop where
  ex : ∃ f fd, mg x = some (.ref f) ∧ Fun K x x st f fd
section
variable {P : Program} {w : World} {K : PySem.W.Frag} {mg : Str → Option Value} {base : Heap} {x : Str} {st : Stmt} {N ps : List Str} {k : Nat} {sp : Sp}
abbrev CtxOf (P : Program) (w : World) (K : PySem.W.Frag) (mg : Str → Option Value) (base : Heap) (N : List Str) (x : Str) (st : Stmt) (f : Addr) (cdv : Value) (A : Around) (outer : List Env) (s : Shared) (H : Hp) (E : XK) : Cx :=
  (cxOf CX0 P w K mg base N x (defScope st) f cdv A outer s H E).nox
theorem Own.mk' (D : Df K mg x st) (S : FnScope N ps (defScope st)) (hb : ∀ (kV doc pm : Value) (an : Option Addr) (cdv ct : Value) (us : List Value), us.length = ps.length → bindArgs (PySem.W.fnOf x x (defArgs st) (defBody st) (defScope st) .none kV doc pm an cdv ct) ⟨us, []⟩ = pure (ps.zip us))
    (len : ∀ vs H Q E, sp vs H Q E → vs.length = ps.length)
    (body : ∀ f cdv A outer s H vs Q E, Room k (CtxOf P w K mg base N x st f cdv A outer s H E).A → sp vs H Q E → RB (CtxOf P w K mg base N x st f cdv A outer s H E) (defBody st) { nx := fun _ H' => Q .non H', rt := Q } (start N vs) H) :
    Own P w K mg base x (k + 1) sp := by
  obtain ⟨f, fd, hm, F⟩ := D.ex
  exact ⟨f, fd, ps, hm, F.kp, F.binds hb, F.ok S len fun cdv A outer s H vs Q E hr h => ⟨_, pss_self, body f cdv A outer s H vs Q E hr h⟩⟩
theorem Own.data {R : List PyData → PyData → Prop} (D : Df K mg x st) (S : FnScope N ps (defScope st)) (hb : ∀ (kV doc pm : Value) (an : Option Addr) (cdv ct : Value) (us : List Value), us.length = ps.length → bindArgs (PySem.W.fnOf x x (defArgs st) (defBody st) (defScope st) .none kV doc pm an cdv ct) ⟨us, []⟩ = pure (ps.zip us))
    (len : ∀ ds d, R ds d → ds.length = ps.length)
    (body : ∀ f cdv A outer s H vs Q E, Room k (CtxOf P w K mg base N x st f cdv A outer s H E).A → ∀ G ds d, Same G H → DaAll G vs ds → R ds d → (∀ v G' H', Grow G H G' H' → Da G' v d → Q v H') →
      RB (CtxOf P w K mg base N x st f cdv A outer s H E) (defBody st) { nx := fun _ H' => Q .non H', rt := Q } (start N vs) H) :
    Own P w K mg base x (k + 1) (spD R) :=
  Own.mk' D S hb (fun vs H Q E ⟨G, ds, d, _, h, r, _⟩ => by rw [h.len]; exact len ds d r) fun f cdv A outer s H vs Q E hr ⟨G, ds, d, i, h, r, q⟩ => body f cdv A outer s H vs Q E hr G ds d i h r q
end
section
variable {X : Cx} {σ : St} {G H : Hp} {e : Expr} {es : List Expr} {ds : List PyData} {d : PyData} {x : Str} {p pos : Pos} {k j : Nat} {R : List PyData → PyData → Prop}
theorem ed_call (O : Own X.prog X.w X.K X.mg X.base x k (spD R)) (hr : Room j X.A) (ha : Ea X σ G H (e :: es) ds) (hR : Side (R ds d)) (hk : k ≤ j := by decide) (hg : Gl X x := by rfl) (hdb : (x == ("__debug__" : Str)) = false := by decide)
    (he : starEach (e :: es) X.env = (false, eval e X.env) :: starEach es X.env := by rfl) (hpl : (backTo pos (starEach es X.env)).any (·.1) = false := by rfl) : Ed X σ G H (.Call (.Name x p) (e :: es) [] pos) d := by
  obtain ⟨f, fd, ps, hm, kp, b, F⟩ := O.ex
  exact ⟨fun G1 H1 g Q q => re_of (pe_call F (hr.mono hk) hg hm kp b .nil pass0 pa_self hdb he hpl) (ha.run G1 H1 g _ fun vs G2 H2 g2 dvs => by
    show spD R (vs ++ []) H2 Q E0
    rw [List.append_nil]
    exact ⟨G2, ds, d, g2.i, dvs, hR.h, fun v G3 H3 g3 dv => q v G3 H3 (g2.trans g3) dv⟩)⟩
end
end Fk
end
section
set_option Elab.async false
set_option linter.all false
set_option maxRecDepth 100000
set_option maxHeartbeats 4000000
/-! Fk5: isinstance by name; facts about data. -/
namespace Fk
open PySem PySem.Spec L2
open PyProof.Rows hiding St
section
variable {X : Cx} {σ : St} {G H : Hp} {a : Expr} {d : PyData} {p q pos : Pos}
theorem ed_isInt (hm : X.mg "isinstance" = none) (hT : X.mg "int" = none) (ha : Ed X σ G H a d) (hg : Gl X "isinstance" := by rfl) (hg2 : Gl X "int" := by rfl)
    (hs : starEach [a, .Name "int" q] X.env = (false, eval a X.env) :: starEach [.Name "int" q] X.env := by rfl) (hs2 : starEach [.Name "int" q] X.env = (false, eval (.Name "int" q) X.env) :: starEach [] X.env := by rfl) (hpl : (backTo pos (starEach [.Name "int" q] X.env)).any (·.1) = false := by rfl) :
    Ed X σ G H (.Call (.Name "isinstance" p) [a, .Name "int" q] [] pos) (.bool d.isInt) :=
  ed_isi (n := "int") hm hT (by decide +kernel) ha (fun _ _ _ _ _ _ _ _ _ _ r k => PySem.W.isinstance_int_data r k) hg hg2 (by decide) (by decide) hs hs2 hpl
theorem ed_isBool (hm : X.mg "isinstance" = none) (hT : X.mg "bool" = none) (ha : Ed X σ G H a d) (hg : Gl X "isinstance" := by rfl) (hg2 : Gl X "bool" := by rfl)
    (hs : starEach [a, .Name "bool" q] X.env = (false, eval a X.env) :: starEach [.Name "bool" q] X.env := by rfl) (hs2 : starEach [.Name "bool" q] X.env = (false, eval (.Name "bool" q) X.env) :: starEach [] X.env := by rfl) (hpl : (backTo pos (starEach [.Name "bool" q] X.env)).any (·.1) = false := by rfl) :
    Ed X σ G H (.Call (.Name "isinstance" p) [a, .Name "bool" q] [] pos) (.bool d.isBool) :=
  ed_isi (n := "bool") hm hT (by decide +kernel) ha (fun _ _ _ _ _ _ _ _ _ _ r k => PySem.W.isinstance_bool_data r k) hg hg2 (by decide) (by decide) hs hs2 hpl
theorem ed_isTuple (hm : X.mg "isinstance" = none) (hT : X.mg "tuple" = none) (ha : Ed X σ G H a d) (hg : Gl X "isinstance" := by rfl) (hg2 : Gl X "tuple" := by rfl)
    (hs : starEach [a, .Name "tuple" q] X.env = (false, eval a X.env) :: starEach [.Name "tuple" q] X.env := by rfl) (hs2 : starEach [.Name "tuple" q] X.env = (false, eval (.Name "tuple" q) X.env) :: starEach [] X.env := by rfl) (hpl : (backTo pos (starEach [.Name "tuple" q] X.env)).any (·.1) = false := by rfl) :
    Ed X σ G H (.Call (.Name "isinstance" p) [a, .Name "tuple" q] [] pos) (.bool d.isTuple) :=
  ed_isi (n := "tuple") hm hT (by decide +kernel) ha (fun _ _ _ _ _ _ _ _ _ _ r k => PySem.W.isinstance_tuple_data r k) hg hg2 (by decide) (by decide) hs hs2 hpl
theorem ed_isList (hm : X.mg "isinstance" = none) (hT : X.mg "list" = none) (ha : Ed X σ G H a d) (hg : Gl X "isinstance" := by rfl) (hg2 : Gl X "list" := by rfl)
    (hs : starEach [a, .Name "list" q] X.env = (false, eval a X.env) :: starEach [.Name "list" q] X.env := by rfl) (hs2 : starEach [.Name "list" q] X.env = (false, eval (.Name "list" q) X.env) :: starEach [] X.env := by rfl) (hpl : (backTo pos (starEach [.Name "list" q] X.env)).any (·.1) = false := by rfl) :
    Ed X σ G H (.Call (.Name "isinstance" p) [a, .Name "list" q] [] pos) (.bool d.isList) :=
  ed_isi (n := "list") hm hT (by decide +kernel) ha (fun _ _ _ _ _ _ _ _ _ _ r k => PySem.W.isinstance_list_data r k) hg hg2 (by decide) (by decide) hs hs2 hpl
theorem ed_isStr (hm : X.mg "isinstance" = none) (hT : X.mg "str" = none) (ha : Ed X σ G H a d) (hg : Gl X "isinstance" := by rfl) (hg2 : Gl X "str" := by rfl)
    (hs : starEach [a, .Name "str" q] X.env = (false, eval a X.env) :: starEach [.Name "str" q] X.env := by rfl) (hs2 : starEach [.Name "str" q] X.env = (false, eval (.Name "str" q) X.env) :: starEach [] X.env := by rfl) (hpl : (backTo pos (starEach [.Name "str" q] X.env)).any (·.1) = false := by rfl) :
    Ed X σ G H (.Call (.Name "isinstance" p) [a, .Name "str" q] [] pos) (.bool d.isStr) :=
  ed_isi (n := "str") hm hT (by decide +kernel) ha (fun _ _ _ _ _ _ _ _ _ _ r k => PySem.W.isinstance_str_data r k) hg hg2 (by decide) (by decide) hs hs2 hpl
end

section
variable {X : Cx} {σ : St} {G H : Hp} {a b c : Expr} {pos : Pos}
theorem ed_ifI {k : Bool} {i j : Int} (h : Et X σ G H c k) (h1 : Ed X σ G H a (.int i)) (h2 : Ed X σ G H b (.int j)) : Ed X σ G H (.IfExp c a b pos) (.int (if k = true then i else j)) :=
  ed_if h (fun e => by rw [if_pos e]; exact h1) (fun e => by rw [e, if_neg (by decide)]; exact h2)
end
theorem prop_id {p : Prop} (h : p) : p := h
/-- the built-in names are no names of the module -/
structure Bt (mg : Str → Option Value) : Prop where
  isi : mg "isinstance" = none
  int : mg "int" = none
  bool : mg "bool" = none
  tuple : mg "tuple" = none
  len : mg "len" = none
  list : mg "list" = none
  set : mg "set" = none
  sorted : mg "sorted" = none
  range : mg "range" = none
  enum : mg "enumerate" = none
  zip : mg "zip" = none
  min : mg "min" = none
  max : mg "max" = none
  sum : mg "sum" = none
  dict : mg "dict" = none
  str : mg "str" = none
  cells : ∃ t, mg "MOST_CELLS" = some (.int 40 t)
  colour : ∃ t, mg "MOST_COLOUR" = some (.int 9 t)
  ring : ∃ t, mg "LEAST_RING" = some (.int 3 t)
  price : ∃ t, mg "MOST_PRICE" = some (.int 1000 t)

/-! ### facts about data -/
def dI (ns : List Int) : List PyData := ns.map PyData.int
theorem dI_length (ns : List Int) : (dI ns).length = ns.length := by simp [dI]
theorem dN_length (ns : List Nat) : (dN ns).length = ns.length := by simp [dN]
theorem dI_get {ns : List Int} {i : Nat} {n : Int} (h : ns[i]? = some n) : (dI ns)[i]? = some (.int n) := by simp [dI, h]
theorem dN_get {ns : List Nat} {i n : Nat} (h : ns[i]? = some n) : (dN ns)[i]? = some (.int (n : Int)) := by simp [dN, h]
theorem dN_dI (ns : List Nat) : dN ns = dI (ns.map fun k : Nat => (k : Int)) := by simp [dN, dI]
theorem atI_of {α : Type} {xs : List α} {z : Int} {j : Nat} {v : α} (e : z = (j : Int)) (h : xs[j]? = some v) : atI xs z = some v := by rw [e]; exact atI_nat h
theorem atI_neg {α : Type} {xs : List α} {z : Int} {j : Nat} {v : α} (h0 : z < 0) (e : z + xs.length = (j : Int)) (h : xs[j]? = some v) : atI xs z = some v := by
  unfold atI ixN
  rw [if_neg (by omega), if_pos (by omega), e]
  simpa using h
theorem eqvAll_dI : ∀ ns ms : List Int, PyData.eqvAll (dI ns) (dI ms) = decide (ns = ms)
  | [], [] => by simp [dI, PyData.eqvAll]
  | [], m :: ms => by simp [dI, PyData.eqvAll]
  | n :: ns, [] => by simp [dI, PyData.eqvAll]
  | n :: ns, m :: ms => by
    have ih := eqvAll_dI ns ms
    unfold dI at ih ⊢
    rw [List.map_cons, List.map_cons, PyData.eqvAll, ih, PyData.eqv, Bool.eq_iff_iff]
    simp
theorem depthAll_dI : ∀ ns : List Int, PyData.depthAll (dI ns) = 0
  | [] => by simp [dI, PyData.depthAll]
  | n :: ns => by
    have ih := depthAll_dI ns
    unfold dI at ih ⊢
    rw [List.map_cons, PyData.depthAll, ih, PyData.depth]
    rfl
theorem depthAll_dN (ns : List Nat) : PyData.depthAll (dN ns) = 0 := by rw [dN_dI]; exact depthAll_dI _
theorem any_dI (ns : List Int) (k : Int) : ((dI ns).any fun y => PyData.eqv y (.int k)) = decide (k ∈ ns) := by
  induction ns with
  | nil => simp [dI]
  | cons n ns ih =>
    unfold dI at ih ⊢
    rw [List.map_cons, List.any_cons, ih, PyData.eqv, Bool.eq_iff_iff]
    simp only [Bool.or_eq_true, beq_iff_eq, decide_eq_true_eq, List.mem_cons]
    exact or_congr eq_comm Iff.rfl
theorem any_dN (ns : List Nat) (k : Nat) : ((dN ns).any fun y => PyData.eqv y (.int (k : Int))) = decide (k ∈ ns) := by
  rw [dN_dI, any_dI, Bool.eq_iff_iff]
  simp only [decide_eq_true_eq, List.mem_map]
  exact ⟨fun ⟨a, h, e⟩ => by rw [← Int.ofNat_inj.mp e]; exact h, fun h => ⟨k, h, rfl⟩⟩
theorem ed_neg {X : Cx} {σ : St} {G H : Hp} {a : Expr} {pos : Pos} {i : Int} (h : Ed X σ G H a (.int i)) : Ed X σ G H (.UnaryOp .USub a pos) (.int (-i)) :=
  ⟨fun G1 H1 g Q q => re_of (pe_un un_neg pe_self) (h.run G1 H1 g _ fun v G2 H2 g2 dv => ⟨i, dv.inv_int, q _ G2 H2 g2 (.int _)⟩)⟩
end Fk
end
section
set_option Elab.async false
set_option linter.all false
set_option maxRecDepth 100000
set_option maxHeartbeats 4000000
/-! Sc: the text by places (printed by wip/gen_sc.py). -/
namespace Fk
open PySem PySem.Spec L2
open PyProof.Rows hiding St
def top (i : Nat) : Stmt := PySem.Challenge.pw_flankturns_k35_whole_costs_of_ends.main.body.getD i (.Pass ⟨0, 0, 0, 0⟩)
abbrev s_is_in : Stmt := top 7
abbrev N_is_in : List Str := ["value", "least", "most"]
abbrev P_is_in : List Str := ["value", "least", "most"]
theorem sc_is_in : FnScope N_is_in P_is_in (defScope s_is_in) := ⟨rfl, rfl, rfl, by decide +kernel, rfl, by decide +kernel, by decide +kernel⟩
abbrev s_need_line : Stmt := top 12
abbrev N_need_line : List Str := ["line", "cells", "held", "is_ring", "least", "index", "one"]
abbrev P_need_line : List Str := ["line"]
theorem sc_need_line : FnScope N_need_line P_need_line (defScope s_need_line) := ⟨rfl, rfl, rfl, by decide +kernel, rfl, by decide +kernel, by decide +kernel⟩
abbrev s_is_cells : Stmt := top 13
abbrev N_is_cells : List Str := ["many", "value", "x"]
abbrev P_is_cells : List Str := ["many", "value"]
theorem sc_is_cells : FnScope N_is_cells P_is_cells (defScope s_is_cells) := ⟨rfl, rfl, rfl, by decide +kernel, rfl, by decide +kernel, by decide +kernel⟩
abbrev s_held_in : Stmt := top 14
abbrev N_held_in : List Str := ["line", "cells", "held", "is_ring", "ends"]
abbrev P_held_in : List Str := ["line"]
theorem sc_held_in : FnScope N_held_in P_held_in (defScope s_held_in) := ⟨rfl, rfl, rfl, by decide +kernel, rfl, by decide +kernel, by decide +kernel⟩
abbrev s_flanks : Stmt := top 15
abbrev N_flanks : List Str := ["many", "cell"]
abbrev P_flanks : List Str := ["many", "cell"]
theorem sc_flanks : FnScope N_flanks P_flanks (defScope s_flanks) := ⟨rfl, rfl, rfl, by decide +kernel, rfl, by decide +kernel, by decide +kernel⟩
abbrev s_is_flanked : Stmt := top 16
abbrev N_is_flanked : List Str := ["cells", "cell", "left", "right"]
abbrev P_is_flanked : List Str := ["cells", "cell"]
theorem sc_is_flanked : FnScope N_is_flanked P_is_flanked (defScope s_is_flanked) := ⟨rfl, rfl, rfl, by decide +kernel, rfl, by decide +kernel, by decide +kernel⟩
abbrev s_ready_in : Stmt := top 17
abbrev N_ready_in : List Str := ["line", "held", "k"]
abbrev P_ready_in : List Str := ["line"]
theorem sc_ready_in : FnScope N_ready_in P_ready_in (defScope s_ready_in) := ⟨rfl, rfl, rfl, by decide +kernel, rfl, by decide +kernel, by decide +kernel⟩
abbrev s_with_turned : Stmt := top 18
abbrev N_with_turned : List Str := ["cells", "some", "found", "k"]
abbrev P_with_turned : List Str := ["cells", "some"]
theorem sc_with_turned : FnScope N_with_turned P_with_turned (defScope s_with_turned) := ⟨rfl, rfl, rfl, by decide +kernel, rfl, by decide +kernel, by decide +kernel⟩
abbrev s_swings_in : Stmt := top 19
abbrev N_swings_in : List Str := ["line"]
abbrev P_swings_in : List Str := ["line"]
theorem sc_swings_in : FnScope N_swings_in P_swings_in (defScope s_swings_in) := ⟨rfl, rfl, rfl, by decide +kernel, rfl, by decide +kernel, by decide +kernel⟩
abbrev s_stretches_in : Stmt := top 20
abbrev N_stretches_in : List Str := ["line", "ready", "many", "found", "k", "here"]
abbrev P_stretches_in : List Str := ["line"]
theorem sc_stretches_in : FnScope N_stretches_in P_stretches_in (defScope s_stretches_in) := ⟨rfl, rfl, rfl, by decide +kernel, rfl, by decide +kernel, by decide +kernel⟩
abbrev s_need_resting : Stmt := top 21
abbrev N_need_resting : List Str := ["line"]
abbrev P_need_resting : List Str := ["line"]
theorem sc_need_resting : FnScope N_need_resting P_need_resting (defScope s_need_resting) := ⟨rfl, rfl, rfl, by decide +kernel, rfl, by decide +kernel, by decide +kernel⟩
abbrev s_depths_in : Stmt := top 22
abbrev N_depths_in : List Str := ["line", "found", "one", "at"]
abbrev P_depths_in : List Str := ["line"]
theorem sc_depths_in : FnScope N_depths_in P_depths_in (defScope s_depths_in) := ⟨rfl, rfl, rfl, by decide +kernel, rfl, by decide +kernel, by decide +kernel⟩
abbrev s_insides : Stmt := top 24
abbrev N_insides : List Str := ["line", "one"]
abbrev P_insides : List Str := ["line"]
theorem sc_insides : FnScope N_insides P_insides (defScope s_insides) := ⟨rfl, rfl, rfl, by decide +kernel, rfl, by decide +kernel, by decide +kernel⟩
abbrev s_need_prices : Stmt := top 27
abbrev N_need_prices : List Str := ["line", "prices", "one"]
abbrev P_need_prices : List Str := ["line", "prices"]
theorem sc_need_prices : FnScope N_need_prices P_need_prices (defScope s_need_prices) := ⟨rfl, rfl, rfl, by decide +kernel, rfl, by decide +kernel, by decide +kernel⟩
abbrev s_paths_in : Stmt := top 28
abbrev N_paths_in : List Str := ["line"]
abbrev P_paths_in : List Str := ["line"]
theorem sc_paths_in : FnScope N_paths_in P_paths_in (defScope s_paths_in) := ⟨rfl, rfl, rfl, by decide +kernel, rfl, by decide +kernel, by decide +kernel⟩
abbrev s_choices : Stmt := top 29
abbrev N_choices : List Str := ["line", "wish", "cell", "own", "other"]
abbrev P_choices : List Str := ["line", "wish", "cell"]
theorem sc_choices : FnScope N_choices P_choices (defScope s_choices) := ⟨rfl, rfl, rfl, by decide +kernel, rfl, by decide +kernel, by decide +kernel⟩
abbrev s_is_going : Stmt := top 30
abbrev N_is_going : List Str := ["marks", "place", "is_ring", "must_fill"]
abbrev P_is_going : List Str := ["marks", "place", "is_ring", "must_fill"]
theorem sc_is_going : FnScope N_is_going P_is_going (defScope s_is_going) := ⟨rfl, rfl, rfl, by decide +kernel, rfl, by decide +kernel, by decide +kernel⟩
abbrev s_is_closed : Stmt := top 31
abbrev N_is_closed : List Str := ["first", "last", "is_ring", "must_fill", "around"]
abbrev P_is_closed : List Str := ["first", "last", "is_ring", "must_fill"]
theorem sc_is_closed : FnScope N_is_closed P_is_closed (defScope s_is_closed) := ⟨rfl, rfl, rfl, by decide +kernel, rfl, by decide +kernel, by decide +kernel⟩
abbrev s_sets_of : Stmt := top 32
abbrev N_sets_of : List Str := ["some", "is_ring", "suits", "must_fill", "rows", "place", "cell", "more", "one", "mark"]
abbrev P_sets_of : List Str := ["some", "is_ring", "suits", "must_fill"]
theorem sc_sets_of : FnScope N_sets_of P_sets_of (defScope s_sets_of) := ⟨rfl, rfl, rfl, by decide +kernel, rfl, by decide +kernel, by decide +kernel⟩
abbrev s_Lots_init : Stmt := inClass (top 33) 0
abbrev N_Lots_init : List Str := ["self", "line", "wish", "prices", "must_fill", "k"]
abbrev P_Lots_init : List Str := ["self", "line", "wish", "prices", "must_fill"]
theorem sc_Lots_init : FnScope N_Lots_init P_Lots_init (defScope s_Lots_init) := ⟨rfl, rfl, rfl, by decide +kernel, rfl, by decide +kernel, by decide +kernel⟩
abbrev s_Lots_best : Stmt := inClass (top 33) 5
abbrev N_Lots_best : List Str := ["self", "is_most", "marks", "whole", "some", "rows", "one", "cell", "mark", "told", "cost", "best", "price", "here", "k"]
abbrev P_Lots_best : List Str := ["self", "is_most"]
theorem sc_Lots_best : FnScope N_Lots_best P_Lots_best (defScope s_Lots_best) := ⟨rfl, rfl, rfl, by decide +kernel, rfl, by decide +kernel, by decide +kernel⟩
abbrev s_Lots_colours : Stmt := inClass (top 33) 6
abbrev N_Lots_colours : List Str := ["self", "some", "one", "told", "k"]
abbrev P_Lots_colours : List Str := ["self", "some", "one"]
theorem sc_Lots_colours : FnScope N_Lots_colours P_Lots_colours (defScope s_Lots_colours) := ⟨rfl, rfl, rfl, by decide +kernel, rfl, by decide +kernel, by decide +kernel⟩
abbrev s_cheapest_end : Stmt := top 34
abbrev N_cheapest_end : List Str := ["line", "prices"]
abbrev P_cheapest_end : List Str := ["line", "prices"]
theorem sc_cheapest_end : FnScope N_cheapest_end P_cheapest_end (defScope s_cheapest_end) := ⟨rfl, rfl, rfl, by decide +kernel, rfl, by decide +kernel, by decide +kernel⟩
abbrev s_dearest_end : Stmt := top 35
abbrev N_dearest_end : List Str := ["line", "prices"]
abbrev P_dearest_end : List Str := ["line", "prices"]
theorem sc_dearest_end : FnScope N_dearest_end P_dearest_end (defScope s_dearest_end) := ⟨rfl, rfl, rfl, by decide +kernel, rfl, by decide +kernel, by decide +kernel⟩
abbrev s_step_cost : Stmt := top 36
abbrev N_step_cost : List Str := ["line", "prices", "price", "turns"]
abbrev P_step_cost : List Str := ["line", "prices"]
theorem sc_step_cost : FnScope N_step_cost P_step_cost (defScope s_step_cost) := ⟨rfl, rfl, rfl, by decide +kernel, rfl, by decide +kernel, by decide +kernel⟩
abbrev s__law_taken : Stmt := top 38
abbrev N__law_taken : List Str := ["_law_row", "_law_many", "_law_found", "_law_cell"]
abbrev P__law_taken : List Str := ["_law_row", "_law_many"]
theorem sc__law_taken : FnScope N__law_taken P__law_taken (defScope s__law_taken) := ⟨rfl, rfl, rfl, by decide +kernel, rfl, by decide +kernel, by decide +kernel⟩
abbrev s__law_pick : Stmt := top 39
abbrev N__law_pick : List Str := ["_law_row", "_law_things"]
abbrev P__law_pick : List Str := ["_law_row", "_law_things"]
theorem sc__law_pick : FnScope N__law_pick P__law_pick (defScope s__law_pick) := ⟨rfl, rfl, rfl, by decide +kernel, rfl, by decide +kernel, by decide +kernel⟩
abbrev s__law_line : Stmt := top 40
abbrev N__law_line : List Str := ["_law_row", "_law_most", "_law_colours", "_law_is_ring", "_law_many", "_law_way", "_law_cells", "_law_k", "_law_free", "_law_thin", "_law_held_here"]
abbrev P__law_line : List Str := ["_law_row", "_law_most", "_law_colours"]
theorem sc__law_line : FnScope N__law_line P__law_line (defScope s__law_line) := ⟨rfl, rfl, rfl, by decide +kernel, rfl, by decide +kernel, by decide +kernel⟩
abbrev s__law_held : Stmt := top 41
abbrev N__law_held : List Str := ["_law_line_here", "_law_many", "_law_k"]
abbrev P__law_held : List Str := ["_law_line_here"]
theorem sc__law_held : FnScope N__law_held P__law_held (defScope s__law_held) := ⟨rfl, rfl, rfl, by decide +kernel, rfl, by decide +kernel, by decide +kernel⟩
abbrev s__law_ready : Stmt := top 42
abbrev N__law_ready : List Str := ["_law_line_here", "_law_cells", "_law_many", "_law_held_here", "_law_found", "_law_k", "_law_left", "_law_right"]
abbrev P__law_ready : List Str := ["_law_line_here"]
theorem sc__law_ready : FnScope N__law_ready P__law_ready (defScope s__law_ready) := ⟨rfl, rfl, rfl, by decide +kernel, rfl, by decide +kernel, by decide +kernel⟩
abbrev s__law_singles : Stmt := top 43
abbrev N__law_singles : List Str := ["_law_line_here", "_law_found", "_law_rows", "_law_turn", "_law_more", "_law_cells", "_law_k", "_law_there"]
abbrev P__law_singles : List Str := ["_law_line_here"]
theorem sc__law_singles : FnScope N__law_singles P__law_singles (defScope s__law_singles) := ⟨rfl, rfl, rfl, by decide +kernel, rfl, by decide +kernel, by decide +kernel⟩
abbrev s__law_still : Stmt := top 44
abbrev N__law_still : List Str := ["_law_line_here", "_law_cells"]
abbrev P__law_still : List Str := ["_law_line_here", "_law_cells"]
theorem sc__law_still : FnScope N__law_still P__law_still (defScope s__law_still) := ⟨rfl, rfl, rfl, by decide +kernel, rfl, by decide +kernel, by decide +kernel⟩
abbrev s__law_ends : Stmt := top 45
abbrev N__law_ends : List Str := ["_law_line_here", "_law_found", "_law_rows", "_law_cells", "_law_k"]
abbrev P__law_ends : List Str := ["_law_line_here"]
theorem sc__law_ends : FnScope N__law_ends P__law_ends (defScope s__law_ends) := ⟨rfl, rfl, rfl, by decide +kernel, rfl, by decide +kernel, by decide +kernel⟩
abbrev s__law_alike : Stmt := top 46
abbrev N__law_alike : List Str := ["_law_found", "_law_due", "_law_k"]
abbrev P__law_alike : List Str := ["_law_found", "_law_due"]
theorem sc__law_alike : FnScope N__law_alike P__law_alike (defScope s__law_alike) := ⟨rfl, rfl, rfl, by decide +kernel, rfl, by decide +kernel, by decide +kernel⟩
abbrev s__law_step : Stmt := top 47
abbrev N__law_step : List Str := ["_law_line_here", "_law_ready_here", "_law_k"]
abbrev P__law_step : List Str := ["_law_line_here"]
theorem sc__law_step : FnScope N__law_step P__law_step (defScope s__law_step) := ⟨rfl, rfl, rfl, by decide +kernel, rfl, by decide +kernel, by decide +kernel⟩
abbrev s__law_run : Stmt := top 48
abbrev N__law_run : List Str := ["_law_line_here", "_law_found", "_law_turn"]
abbrev P__law_run : List Str := ["_law_line_here"]
theorem sc__law_run : FnScope N__law_run P__law_run (defScope s__law_run) := ⟨rfl, rfl, rfl, by decide +kernel, rfl, by decide +kernel, by decide +kernel⟩
abbrev s_law : Stmt := top 49
abbrev N_law : List Str := ["_law_script", "_law_row", "_law_line_here", "_law_top", "_law_prices", "_law_told", "_law_costs", "_law_most", "_law_some", "_law_whole", "_law_here", "_law_cells", "_law_k", "_law_cost", "_law_one"]
abbrev P_law : List Str := ["_law_script"]
theorem sc_law : FnScope N_law P_law (defScope s_law) := ⟨rfl, rfl, rfl, by decide +kernel, rfl, by decide +kernel, by decide +kernel⟩
end Fk
end
section
set_option Elab.async false
set_option linter.all false
set_option maxRecDepth 100000
set_option maxHeartbeats 4000000
/-! Ru1: set(list of ints), set(tuple of ints), and sorted of them. -/
namespace Fk
open PySem PySem.Spec L2
open PyProof.Rows hiding St

section
variable {P : Program} {w : World} {A : Around} {E : Value → Shared → Prop} {s : Shared}
/-- an empty set, as set() lays it -/
abbrev eSet (w : World) : Obj := { cls := .type "set", dict := none, data := .set #[] 0 (.fresh 0 0 (!w.params.followText "set-order")) }
abbrev withSet (w : World) (s : Shared) : Heap := s.heap.push (eSet w)
/-- how set.__init__ leaves things -/
abbrev SetMade (w : World) (s : Shared) (ns : List Int) (r : Value) (s2 : Shared) : Prop := r = .none ∧ ∃ h2 t2 c, s2 = { s with heap := h2, toks := t2 } ∧ SetR w h2 s.heap.objs.size (fun j => decide (j ∈ ns)) c ∧ c ≤ ns.length ∧ ∀ b o, s.heap.get? b = some o → h2.get? b = some o
theorem nin2 {x a b : Nat} (h1 : x ≠ a) (h2 : x ≠ b) : x ∉ [a, b] := fun h => (List.mem_cons.mp h).elim h1 fun e => h2 (List.mem_singleton.mp e)
/-- set(xs), xs a list of ints: the members, laid so that they can be sorted -/
theorem set_of_list {l : Addr} {its : Array Value} (ns : List Int) {Q : Value → Shared → Prop} (hA : A.handled = none) (hL : s.heap.IsList l its) (hI : IntsAre its.toList ns) (hB : ns.length + 1 < scanBound)
    (k : ∀ (h2 : Heap) (t2 c : Nat), SetR w h2 s.heap.objs.size (fun j => decide (j ∈ ns)) c → c ≤ ns.length → (∀ b o, s.heap.get? b = some o → h2.get? b = some o) → Q (.ref s.heap.objs.size) { s with heap := h2, toks := t2 }) :
    wpAny (model P w) A (call (.type "set") [.ref l]) Q E s := by
  have hz : its.size = ns.length := by simpa using IntsAre.length hI
  obtain ⟨cl, tl, mro⟩ := F.called_set.mro
  have m1 := F.called_set.made; have m2 := F.called_set.sub
  apply wpAny_call; apply codeAny_of_tree
  show wpAny _ _ (callAny (.type "set") _) _ _ _
  refine wpAny_pure (And.intro (Code.quiet_builtin _ (by decide +kernel)) (codeAny_builtin F.entry_type_call ?_))
  rw [Around.under_plain (weight_type_call_type "set" [.ref l] []) rfl]
  have m3 := F.called_set.notType; have m4 := F.called_set.canCreate; have m5 := F.typeCall_set_1 (.ref l)
  repeat (any_goals (first | assumption | wp_step))
  refine codeAny_mono (code_set_led1 (.ref l) (E := E) (Q₁ := fun ob z => ob = .ref s.heap.objs.size ∧ z = { s with heap := withSet w s }) (And.intro rfl rfl)) ?_
  intro r z hr
  match r, hr with
  | .error _, hr => exact hr
  | .ok .next, hr => exact hr.elim
  | .ok .brk, hr => exact hr.elim
  | .ok .cont, hr => exact hr.elim
  | .ok (.ret ob), hr =>
    obtain ⟨e1, e2⟩ := hr
    subst e1 e2
    have g0 : (withSet w s).get? s.heap.objs.size = some (eSet w) := Heap.get?_push_size _ rfl
    have g1 : Shared.TypeIs { s with heap := withSet w s } (.ref s.heap.objs.size) "set" := ⟨_, g0, rfl⟩
    have m6 := F.called_set.init.lookup; have m7 := F.called_set.init.bind (.ref s.heap.objs.size)
    repeat (any_goals (first | assumption | wp_step))
    refine codeAny_mono (codeAny_call_builtin (R := wants (SetMade w s ns) E) F.called_set.init.plain F.entry_set_init (check_set_init_1 g1 ?_)) ?_
    · obtain ⟨⟨oc, od, odt, os⟩, hol, hcl, nl, hdl⟩ := hL
      simp only at hcl hdl; subst hcl; subst hdl
      have g2 : (withSet w s).get? l = some { cls := .type "list", dict := od, data := .seq its nl, slots := os } := Heap.get?_push_of_some _ hol
      have m8 := F.sub_list_set; have m9 := F.sub_list_frozenset
      have m0 : (Value.type "list" == Value.type "dict") = false := by decide
      have g3 : (withSet w s).IsList l its := ⟨_, g2, rfl, nl, rfl⟩
      unfold Builtin.«set.__init__» noKeywords Builtin.Frozenset.updateFrom
      generalize hit : pyIter = itf
      wp_walk
      subst hit
      apply wpAny_pyIter_list g3
      refine wpAny_bind (wpAny_runValue ?_)
      have lt0 : l < s.heap.objs.size := Heap.lt_size hol
      have zz : (withSet w s).objs.size = s.heap.objs.size + 1 := Heap.size_push ..
      refine set_update_ints ((Walks.list (A := A.in1.in1.in1) (by simp [hA]) _ l (by rw [zz]; exact Nat.ne_of_lt (Nat.lt_succ_of_lt lt0)) its).toS) s.heap.objs.size (by rw [zz]; exact nin2 (Nat.ne_of_lt (Nat.lt_succ_self _)) (Nat.ne_of_gt lt0)) ns hz hB (fun i v hv => ?_) (its.size - 0) 0 _ (by omega) (Nat.zero_le _)
        ⟨⟨_, Heap.get?_push_size _ rfl, rfl, rfl⟩, g3.push _⟩ ⟨0, Nat.le_refl 0, setR_new_at (Heap.get?_push_of_some _ g0)⟩ ?_
      · have hi : i < ns.length := hz ▸ (Array.getElem?_eq_some_iff.mp hv).1
        obtain ⟨t, e⟩ := IntsAre.int_at hI i v (by rw [Array.getElem?_toList]; exact hv)
        exact ⟨ns[i], t, List.getElem?_eq_getElem hi, by rw [e]; simp [List.getD_eq_getElem?_getD, hi]⟩
      · intro z c mv hc hR
        obtain ⟨h2, g, d, t2, o2⟩ := z
        have eg : g = s.gens := mv.gens
        have ed : d = s.drawn := mv.drawn
        have eo : o2 = s.os := mv.os
        subst eg ed eo
        show wpAny _ _ _ _ _ _
        refine wpAny_pure (show wpAny _ _ (ret Value.none) _ _ _ from ?_)
        refine wpAny_pure ⟨rfl, h2, t2, c, rfl, hR, hz ▸ hc, fun b o e => ?_⟩
        have lb : b < s.heap.objs.size := Heap.lt_size e
        refine mv.heap b o ?_ (Heap.get?_push_of_some _ (Heap.get?_push_of_some _ e))
        rw [zz]; exact nin2 (Nat.ne_of_lt lb) (Nat.ne_of_lt (Nat.lt_succ_of_lt lb))
    · intro r2 z2 hr2
      match r2, hr2 with
      | .error _, q => exact q
      | .ok .next, q => exact q.elim
      | .ok .brk, q => exact q.elim
      | .ok .cont, q => exact q.elim
      | .ok (.ret r), q =>
        obtain ⟨e3, h2, t2, c, e4, hR, hc, hk⟩ := q
        subst e3 e4
        repeat (any_goals (first | assumption | wp_step))
        exact k h2 t2 c hR hc hk
end
section
variable {X : Cx}
def rSetOfI (X : Cx) : List V → Hp → VK → Prop := fun xs H Q => ∃ (l : Addr) (ns : List Int), xs = [.ref l] ∧ (SqL X.K H l (ns.map V.int) ∨ SqT X.K H l (ns.map V.int)) ∧ ns.length ≤ 1000 ∧
  ∀ p c, H p = none → c ≤ ns.length → Q (.ref p) (upd H p (SetO X.w p (fun j => decide (j ∈ ns)) c))
theorem cr_setOfI (hc : X.calm = true) : CallR X (.type "set") (rSetOfI X) := by
  intro pins s σ H xs us Q I r h
  obtain ⟨l, ns, rfl, hs, hz, q⟩ := h
  obtain ⟨u, rfl, ru⟩ := r.one
  cases (show u = Value.ref l from ru)
  have fin : ∀ (h2 : Heap) (t2 c : Nat), SetR X.w h2 s.heap.objs.size (fun j => decide (j ∈ ns)) c → c ≤ ns.length → (∀ b o, s.heap.get? b = some o → h2.get? b = some o) → EP X pins σ Q (.ref s.heap.objs.size) { s with heap := h2, toks := t2 } :=
    fun h2 t2 c hR hc hk => ⟨.ref s.heap.objs.size, _, I.laid (t' := t2) hk (Nat.le_refl _) (setO_new hR), rfl, q _ c (I.hok.fresh (Nat.le_refl _)) hc⟩
  rcases hs with hs | hs
  · obtain ⟨its, rv, pl, _⟩ := I.list hs
    exact set_of_list ns (I.ok.hd hc) pl.isList (by simpa using ints_of_vals rv) (by unfold scanBound; omega) fin
  · obtain ⟨its, rv, pl, _⟩ := I.tuple hs
    exact call_set_tupI ns (I.ok.hd hc) (show s.heap.IsTuple l its.toArray from pl) (by simpa using ints_of_vals rv) (by unfold scanBound; omega) fin
variable {σ : St} {G H : Hp} {a : Expr} {p p2 pos pos2 : Pos}
/-- sorted(set(a)), a a list or a tuple of ints -/
theorem ed_sortedSet {ns ms : List Int} {y : PyData} (hm : X.mg "sorted" = none) (hm2 : X.mg "set" = none) (ha : Ed X σ G H a y) (hy : y = .list (dI ns) ∨ y = .tuple (dI ns)) (hz : ns.length < 64) (h1 : ms.Pairwise (· < ·)) (h2 : ∀ k, k ∈ ms ↔ k ∈ ns)
    (hc : X.calm = true := by rfl) (hg : Gl X "sorted" := by rfl) (hg2 : Gl X "set" := by rfl)
    (hs : starEach [.Call (.Name "set" p2) [a] [] pos2] X.env = (false, eval (.Call (.Name "set" p2) [a] [] pos2) X.env) :: starEach [] X.env := by rfl) (hpl : (backTo pos (starEach [] X.env)).any (·.1) = false := by rfl)
    (hs2 : starEach [a] X.env = (false, eval a X.env) :: starEach [] X.env := by rfl) (hpl2 : (backTo pos2 (starEach [] X.env)).any (·.1) = false := by rfl) :
    Ed X σ G H (.Call (.Name "sorted" p) [.Call (.Name "set" p2) [a] [] pos2] [] pos) (.list (dI ms)) := by
  refine ⟨fun G1 H1 g Q q => re_of (pe_callB (cr_sortedSet hc) hg hm (by decide +kernel) (pa_cons (pe_callTy (cr_setOfI hc) hg2 hm2 (by decide +kernel) (pa_cons pe_self pa_nil hs2) (by decide) (by decide) hs2 hpl2) pa_nil hs) (by decide) (by decide) hs hpl) (ha.run G1 H1 g _ fun v G2 H2 g2 dv => ?_)⟩
  obtain ⟨l, hv, hl⟩ : ∃ l, v = .ref l ∧ (SqL X.K H2 l (ns.map V.int) ∨ SqT X.K H2 l (ns.map V.int)) := by
    rcases hy with e | e
    · subst e
      obtain ⟨l, xs, rfl, hl, hx⟩ := dv.inv_lst
      rw [DaAll.inv_ints hx] at hl
      exact ⟨l, rfl, .inl (.of (g2.i _ _ hl))⟩
    · subst e
      obtain ⟨l, xs, rfl, hl, hx⟩ := dv.inv_tup
      rw [DaAll.inv_ints hx] at hl
      exact ⟨l, rfl, .inr (.of (g2.i _ _ hl))⟩
  subst hv
  refine ⟨l, ns, rfl, hl, by omega, fun t c ht hcn => ?_⟩
  refine ⟨t, _, c, rfl, upd_same, by omega, fun ks u hk hm hlen hu => ?_⟩
  have e : ks = ms := by
    have hp : ks.Perm ms := (List.perm_ext_iff_of_nodup (hk.imp fun h => Int.ne_of_lt h) (h1.imp fun h => Int.ne_of_lt h)).mpr fun k => by rw [hm, h2]; simp
    exact List.Perm.eq_of_pairwise (fun a b _ _ h h' => absurd (Int.lt_trans h h') (Int.lt_irrefl a)) hk h1 hp
  subst e
  have g3 : Grow G2 H2 G2 (upd H2 t (SetO X.w t (fun j => decide (j ∈ ns)) c)) := .newH g2.i ht
  exact q _ _ _ (g2.trans (g3.trans (.new g3.i hu))) (DaAll.lst upd_same (DaAll.ints _))
end
end Fk
end
section
set_option Elab.async false
set_option linter.all false
set_option maxRecDepth 100000
set_option maxHeartbeats 4000000
/-! Ru2: enumerate(tuple), zip of a list and a tuple in any mix, walked. -/
namespace Fk
open PySem PySem.Spec L2
open PyProof.Rows hiding St

/-! ### a list or a tuple -/
def SqA (t : Bool) (K : PySem.W.Frag) (H : Hp) (a : Addr) (xs : List V) : Prop := match t with
  | true => SqT K H a xs
  | false => SqL K H a xs
def IsA (t : Bool) (h : Heap) (a : Addr) (its : Array Value) : Prop := match t with
  | true => h.IsTuple a its
  | false => h.IsList a its
def ItA (t : Bool) (h : Heap) (it a : Addr) (i : Nat) : Prop := match t with
  | true => h.IsTupleIter it a i
  | false => h.IsListIter it a i
def itO (t : Bool) (a : Addr) : Obj := match t with
  | true => { cls := .type "tuple_iterator", data := .fields #[.ref a, .int 0 0] }
  | false => { cls := .type "list_iterator", data := .fields #[.ref a, .int 0 0] }
section
variable {X : Cx} {pins : List (Addr × Obj)} {σ : St} {H : Hp} {s : Shared} {a it : Addr} {xs ys : List V} {t : Bool} {h h' : Heap} {i : Nat} {its : Array Value}
theorem sqA_is (I : Inv X pins σ H s) (q : SqA t X.K H a xs) : ∃ its : List Value, Vals xs its ∧ IsA t s.heap a its.toArray ∧ xs.length ≤ sizeLine := by
  cases t with
  | true =>
    obtain ⟨its, r, p, z⟩ := I.tuple q
    exact ⟨its, r, show s.heap.IsTuple a its.toArray from p, z⟩
  | false =>
    obtain ⟨its, r, p, z⟩ := I.list q
    exact ⟨its, r, p.isList, z⟩
theorem IsA.lt (q : IsA t h a its) : a < h.objs.size := by
  cases t with
  | true => obtain ⟨o, e, _⟩ := (show h.IsTuple a its from q); exact Heap.lt_size e
  | false => obtain ⟨o, e, _⟩ := (show h.IsList a its from q); exact Heap.lt_size e
theorem ItA.lt (q : ItA t h it a i) : it < h.objs.size := by
  cases t with
  | true => obtain ⟨o, e, _⟩ := (show h.IsTupleIter it a i from q); exact Heap.lt_size e
  | false => obtain ⟨o, e, _⟩ := (show h.IsListIter it a i from q); exact Heap.lt_size e
theorem ItA.ob (q : ItA t h it a i) : ∃ o, h.get? it = some o ∧ ∀ v, o.data ≠ .cell v := by
  cases t with
  | true =>
    obtain ⟨o, e, _, d⟩ := (show h.IsTupleIter it a i from q)
    exact ⟨o, e, fun v z => by rw [d] at z; cases z⟩
  | false =>
    obtain ⟨o, e, _, d⟩ := (show h.IsListIter it a i from q)
    exact ⟨o, e, fun v z => by rw [d] at z; cases z⟩
theorem ItA.at' (q : ItA t h it a i) (k : ∀ o, h.get? it = some o → h'.get? it = some o) : ItA t h' it a i := by
  cases t with
  | true => exact Heap.IsTupleIter.at (show h.IsTupleIter it a i from q) k
  | false => exact Heap.IsListIter.at (show h.IsListIter it a i from q) k
theorem draws_A {prog : Program} {w : World} {A : Around} (hh : A.handled = none) (t : Bool) (it l : Addr) (hne : l ≠ it) (items : Array Value) : Draws prog w A it [it, l] items.size (fun i v => items[i]? = some v) (fun i h => ItA t h it l i ∧ IsA t h l items) := by
  cases t with
  | true => exact Draws.tuple hh it l hne items
  | false => exact Draws.list hh it l hne items
theorem begins_A (t : Bool) (l : Addr) (items : Array Value) : Begins (.ref l) (itO t l) (fun h => IsA t h l items) := by
  cases t with
  | true => exact begins_tuple l items
  | false => exact begins_list l items
theorem itA_new (hg : h.get? it = some (itO t a)) : ItA t h it a 0 := by
  cases t with
  | true => exact ⟨_, hg, rfl, rfl⟩
  | false => exact ⟨_, hg, rfl, rfl⟩
end

/-! ### enumerate -/
set_option maxHeartbeats 1000000 in
theorem meets_enum1 {v : Value} {o : Obj} {Hh : Heap → Prop} (B : Begins v o Hh) :
    Meets (Builtin.«enumerate.__new__» ⟨[.type "enumerate", v], []⟩) (fun _ R s => Hh s.heap ∧
      R (.ok (.ret (.ref (s.heap.push o).objs.size))) { s with heap := (s.heap.push o).push { cls := .type "enumerate", data := .fields #[.none, .bool false, .ref s.heap.objs.size, rawInt 0, .none, .none] } }) :=
  .of_wp fun prog w A R s q => by
    obtain ⟨hp, g, d, tk, os⟩ := s
    obtain ⟨h1, q⟩ := q
    have h1' : Hh (Shared.heap ⟨hp, g, d, tk, os⟩) := h1
    have sub := sub_enumerate
    have q1 : ∀ {A2 : Around} {E : Value → Shared → Prop} {Q : Value → Shared → Prop}, Q (.ref hp.objs.size) ⟨hp.push o, g, d, tk, os⟩ → wpAny (model prog w) A2 (pyIter v) Q E ⟨hp, g, d, tk, os⟩ := fun z => B.iter prog w _ _ ⟨hp, g, d, tk, os⟩ _ h1 z
    wp_walk using q1
    refine wpAny_stack_any fun st => wpAny_pure ?_
    split
    · rename_i c _ _ _ _ _
      cases (c == Value.type "enumerate") <;> (wp_walk using q1; exact ⟨_, rfl, q⟩)
    · wp_walk using q1
      exact ⟨_, rfl, q⟩
section
variable {prog : Program} {w : World} {A : Around} {E : Value → Shared → Prop} {s : Shared}
theorem enum_begins1 {v : Value} {o : Obj} {Hh : Heap → Prop} {Q : Value → Shared → Prop} (B : Begins v o Hh) (h1 : Hh s.heap)
    (k : ∀ h2, IsEnum h2 (s.heap.objs.size + 1) s.heap.objs.size 0 .none → h2.get? s.heap.objs.size = some o → (∀ b ob, s.heap.get? b = some ob → h2.get? b = some ob) → Q (.ref (s.heap.objs.size + 1)) { s with heap := h2 }) :
    wpAny (model prog w) A (call (.type "enumerate") [v]) Q E s := by
  refine callType_new F.called_enumerate (by decide) (F.typeCall_enumerate_1 _) (F.newCall_enumerate_1 _) (fun ob => F.args_object_init_2 ob _) F.entry_enumerate_new (meets_enum1 B) ⟨h1, ?_⟩
  have z1 : (s.heap.push o).objs.size = s.heap.objs.size + 1 := Heap.size_push ..
  show _ ∧ _
  rw [z1]
  have e1 : IsEnum ((s.heap.push o).push { cls := .type "enumerate", data := .fields #[.none, .bool false, .ref s.heap.objs.size, rawInt 0, .none, .none] }) (s.heap.objs.size + 1) s.heap.objs.size 0 .none := by
    have q := Heap.get?_push_size (s.heap.push o) (o := { cls := .type "enumerate", data := .fields #[.none, .bool false, .ref s.heap.objs.size, rawInt 0, .none, .none] }) rfl
    rw [z1] at q
    exact q
  exact ⟨⟨_, e1, rfl⟩, k _ e1 (Heap.get?_push_of_some _ (Heap.get?_push_size _ B.free)) fun b ob x => Heap.get?_push_of_some _ (Heap.get?_push_of_some _ x)⟩
end

def ItEn (t : Bool) (K : PySem.W.Frag) (a : Addr) (xs : List V) : It :=
  ⟨fun i H => i < xs.length ∧ SqA t K H a xs, fun i H v H' => ∃ T x, v = .ref T ∧ H T = none ∧ H' = upd H T (.tup [.int (i : Int), x]) ∧ xs[i]? = some x, fun i H => i = xs.length ∧ SqA t K H a xs⟩
theorem turn_enA {P : Program} {w : World} {K : PySem.W.Frag} {elts : List Expr} {kk : Nat} {tpos : Pos} {a e it : Addr} {xs : List V} {t : Bool} (n1 : e ≠ it) (n2 : a ≠ it) (n3 : e ≠ a) :
    Turn P w K (.Tuple elts kk tpos) (ItEn t K a xs) [e, it] e (fun i h => (∃ old, IsEnum h e it ((i : Nat) : Int) old) ∧ ItA t h it a i) where
  mem := List.mem_cons_self
  obj := fun i h st b hb => by
    obtain ⟨⟨old, he⟩, hi⟩ := st
    rcases List.mem_cons.mp hb with z | z
    · rw [z]; exact ⟨_, he, fun v q => nomatch q⟩
    · rw [List.mem_singleton.mp z]; exact hi.ob
  keep := fun i h h' st k => let ⟨⟨old, he⟩, hi⟩ := st; ⟨⟨old, k e (by simp) _ he⟩, hi.at' fun o q => k it (by simp) o q⟩
  item := by
    intro X hP hw hK hc i pins s σ H E I hf st hg
    subst hP hw hK
    obtain ⟨⟨old, he⟩, hi⟩ := st
    obtain ⟨hlt, hq⟩ := hg
    obtain ⟨its, rv, pa, _⟩ := sqA_is I hq
    have hl : its.length = xs.length := rv.length.symm
    have D := draws_A (prog := X.prog) (w := X.w) (A := X.A.in1) (by simp [I.ok.hd hc]) t it a n2 its.toArray
    have W := GoesN.enumFrom (elts := elts) (x1 := kk) (pos := tpos) 0 D e n1 (by simp [n1, n3]) (by simp)
    refine W.goes i s _ E (by simp; omega) ⟨⟨old, by rw [Int.zero_add]; exact he⟩, hi, pa⟩ fun v h' tk Y st' hk htk => ?_
    obtain ⟨T, tt, u, rfl, hT, hu, hTu⟩ := Y
    obtain ⟨⟨old', he'⟩, hi', _⟩ := st'
    have hx : xs[i]? = some xs[i] := List.getElem?_eq_getElem hlt
    obtain ⟨u', hu', ru⟩ := rv.get hx
    have eu : u = u' := by
      have hu2 : its[i]? = some u := by simpa using hu
      rw [hu'] at hu2
      exact (Option.some.inj hu2).symm
    subst eu
    have new : ObjOk X.prog X.w (upd H T (.tup [.int (i : Int), xs[i]])) h' T (.tup [.int (i : Int), xs[i]]) :=
      ⟨by show 2 ≤ sizeLine; decide, [.int (0 + (i : Int)) tt, u], .cons ⟨tt, by rw [Int.zero_add]⟩ (.cons ru .nil), hTu⟩
    refine ⟨.ref T, _, I.turnedNew (ch := [e, it]) hk hf hT new, rfl, ⟨T, _, rfl, I.hok.fresh hT, rfl, hx⟩, ⟨⟨old', by rw [Int.zero_add] at he'; exact he'⟩, hi'⟩, fun b hb => ?_⟩
    have hb2 : b < s.heap.objs.size := by
      rcases List.mem_cons.mp hb with z | z
      · rw [z]; exact Heap.lt_size he
      · rw [List.mem_singleton.mp z]; exact hi.lt
    rw [upd_ne (Nat.ne_of_lt (Nat.lt_of_lt_of_le hb2 hT))]
    exact (hf b hb).1
  done := by
    intro X hP hw hK hc i pins s σ H E I hf st hg
    subst hP hw hK
    obtain ⟨⟨old, he⟩, hi⟩ := st
    obtain ⟨rfl, hq⟩ := hg
    obtain ⟨its, rv, pa, _⟩ := sqA_is I hq
    have hl : its.toArray.size = xs.length := by rw [List.size_toArray]; exact rv.length.symm
    have D := draws_A (prog := X.prog) (w := X.w) (A := X.A.in1) (by simp [I.ok.hd hc]) t it a n2 its.toArray
    rw [hl] at D
    have W := GoesN.enumFrom (elts := elts) (x1 := kk) (pos := tpos) 0 D e n1 (by simp [n1, n3]) (by simp)
    exact W.stops s _ E ⟨⟨old, by rw [Int.zero_add]; exact he⟩, hi, pa⟩ fun h' tk hk _ => I.turnedL (ch := [e, it]) hk hf
  self := fun A i s Q E st h => let ⟨⟨_, he⟩, _⟩ := st; wpAny_pyIter_enum he h
section
variable {X : Cx} {σ : St} {G H : Hp} {a b : Expr} {ds es : List PyData} {p pos tpos : Pos} {elts : List Expr} {kk : Nat}
/-- for i, x in enumerate(a tuple) -/
theorem es_enumT (hm : X.mg "enumerate" = none) (ha : Ed X σ G H a (.tuple ds)) (hg : Gl X "enumerate" := by rfl)
    (hs : starEach [a] X.env = (false, eval a X.env) :: starEach [] X.env := by rfl) : Es X σ G H (.Tuple elts kk tpos) (.Call (.Name "enumerate" p) [a] [] pos) (enD ds) := by
  refine ⟨fun σ H R => RE X a σ H fun v H1 => ∃ l xs, v = .ref l ∧ SqT X.K H1 l xs ∧ R (ItEn true X.K l xs) H1, ⟨fun pins s σ H R I h => ?_⟩, fun G1 H1 g R q => ha.run G1 H1 g _ fun v G2 H2 g2 dv => ?_⟩
  · refine Call_ (ld_blt I hg hm boot_enumerate (PyProof.Rows.callWith_type1 (thn ((pa_cons pe_self pa_nil hs).run pos pins s σ H (fun vs H1 => ∃ l xs, vs = [.ref l] ∧ SqT X.K H1 l xs ∧ R (ItEn true X.K l xs) H1) I ?_) fun us s1 ⟨vs, H1, I1, r1, q1⟩ => ?_) hs rfl))
    · refine fun pins s I => thn (h pins s I) fun u s1 ⟨v, H1, I1, r, l, xs, e, hq, hR⟩ => ⟨v, H1, I1, r, l, xs, by rw [e], hq, hR⟩
    · obtain ⟨l, xs, rfl, hq, hR⟩ := q1
      obtain ⟨u, rfl, ru⟩ := r1.one
      cases (show u = Value.ref l from ru)
      obtain ⟨its, rv, pa, _⟩ := sqA_is (t := true) I1 hq
      refine enum_begins1 (begins_A true l its.toArray) pa fun h2 he hit hk => wpAny_pyIter_enum he ?_
      have hlt : l < s1.heap.objs.size := pa.lt
      refine ⟨s1.heap.objs.size + 1, [s1.heap.objs.size + 1, s1.heap.objs.size], _, _, H1, rfl, I1.kept (t' := s1.toks) hk, turn_enA (Nat.succ_ne_self _) (Nat.ne_of_lt hlt) (Nat.ne_of_gt (Nat.lt_succ_of_lt hlt)), ⟨⟨.none, he⟩, itA_new hit⟩, fun b hb => ?_, hR⟩
      have hle : s1.heap.objs.size ≤ b := by
        rcases List.mem_cons.mp hb with z | z
        · rw [z]; exact Nat.le_succ _
        · rw [List.mem_singleton.mp z]; exact Nat.le_refl _
      exact I1.fpOk hle (I1.hok.fresh hle)
  · obtain ⟨l, xs, rfl, hl, hx⟩ := dv.inv_tup
    refine ⟨l, xs, rfl, .of (g2.i _ _ hl), q _ G2 H2 g2 ⟨fun i G' H' hi s1 s2 => ⟨?_, .of (s2 _ _ (s1 _ _ hl))⟩, fun G' H' s1 s2 => ⟨?_, .of (s2 _ _ (s1 _ _ hl))⟩, fun i G' H' x H'' hi s1 s2 hy => ?_⟩⟩
    · rw [enD_length] at hi; rw [hx.len]; exact hi
    · rw [enD_length, hx.len]
    · obtain ⟨T, y, rfl, hT, rfl, f⟩ := hy
      rw [enD_length] at hi
      refine ⟨_, .new s2 hT, fun d hd => ?_⟩
      have h2 : ds[i]? = some ds[i] := List.getElem?_eq_getElem hi
      rw [enD_get h2] at hd
      cases hd
      exact DaAll.tup upd_same (.cons (.int _) (.cons ((hx.at' i y _ f h2).mono (s1.trans (same_new (s2.free hT)))) .nil))
end

/-! ### zip -/
def ItZp (t1 t2 : Bool) (K : PySem.W.Frag) (a b : Addr) (xs ys : List V) : It :=
  ⟨fun i H => i < min xs.length ys.length ∧ SqA t1 K H a xs ∧ SqA t2 K H b ys, fun i H v H' => ∃ T x y, v = .ref T ∧ H T = none ∧ H' = upd H T (.tup [x, y]) ∧ xs[i]? = some x ∧ ys[i]? = some y,
    fun i H => i = min xs.length ys.length ∧ SqA t1 K H a xs ∧ SqA t2 K H b ys⟩
theorem turn_zpA {P : Program} {w : World} {K : PySem.W.Frag} {elts : List Expr} {kk : Nat} {tpos : Pos} {z TI TO i1 i2 a b : Addr} {xs ys : List V} {t1 t2 : Bool} (S : ZipSep2 z TI TO i1 i2 [i1, a] [i2, b]) (n1 : a ≠ i1) (n2 : b ≠ i2) :
    Turn P w K (.Tuple elts kk tpos) (ItZp t1 t2 K a b xs ys) [z, TI, TO, i1, i2] z (fun i h => IsZip h z TI TO .none ∧ IsTupOf2 h TI (.ref i1) (.ref i2) ∧ (∃ u v, IsTupOf2 h TO u v) ∧ ItA t1 h i1 a i ∧ ItA t2 h i2 b i) where
  mem := List.mem_cons_self
  obj := fun i h st c hc => by
    obtain ⟨hz, hI, ⟨u, v, hO⟩, h1, h2⟩ := st
    have e5 : c = z ∨ c = TI ∨ c = TO ∨ c = i1 ∨ c = i2 := by simpa using hc
    rcases e5 with q | q | q | q | q
    · rw [q]; exact ⟨_, hz, fun v q => nomatch q⟩
    · rw [q]; exact ⟨_, hI, fun v q => nomatch q⟩
    · rw [q]; exact ⟨_, hO, fun v q => nomatch q⟩
    · rw [q]; exact h1.ob
    · rw [q]; exact h2.ob
  keep := fun i h h' st k => by
    obtain ⟨hz, hI, ⟨u, v, hO⟩, h1, h2⟩ := st
    exact ⟨k z (by simp) _ hz, k TI (by simp) _ hI, ⟨u, v, k TO (by simp) _ hO⟩, h1.at' fun o q => k i1 (by simp) o q, h2.at' fun o q => k i2 (by simp) o q⟩
  item := by
    intro X hP hw hK hc i pins s σ H E I hf st hg
    subst hP hw hK
    obtain ⟨hz, hI, hO, h1, h2⟩ := st
    obtain ⟨hlt, hq1, hq2⟩ := hg
    obtain ⟨its, rv, pa, _⟩ := sqA_is I hq1
    obtain ⟨jts, rw', pb, _⟩ := sqA_is I hq2
    have hl1 : its.length = xs.length := rv.length.symm
    have hl2 : jts.length = ys.length := rw'.length.symm
    have D1 := draws_A (prog := X.prog) (w := X.w) (A := X.A.in1) (by simp [I.ok.hd hc]) t1 i1 a n1 its.toArray
    have D2 := draws_A (prog := X.prog) (w := X.w) (A := X.A.in1) (by simp [I.ok.hd hc]) t2 i2 b n2 jts.toArray
    have W := GoesN.zip2 (elts := elts) (x1 := kk) (pos := tpos) S D1 D2
    refine W.goes i s _ E (by simp; omega) ⟨hz, hI, hO, ⟨h1, pa⟩, h2, pb⟩ fun v h' tk Y st' hk htk => ?_
    obtain ⟨T, u, v', rfl, hT, hu, hv, hTu⟩ := Y
    obtain ⟨hz', hI', hO', ⟨h1', _⟩, h2', _⟩ := st'
    have hx : xs[i]? = some xs[i] := List.getElem?_eq_getElem (by omega)
    have hy : ys[i]? = some ys[i] := List.getElem?_eq_getElem (by omega)
    obtain ⟨u2, hu2, ru⟩ := rv.get hx
    obtain ⟨v2, hv2, rv2⟩ := rw'.get hy
    have eu : u = u2 := by
      have q : its[i]? = some u := by simpa using hu
      rw [hu2] at q
      exact (Option.some.inj q).symm
    have ev : v' = v2 := by
      have q : jts[i]? = some v' := by simpa using hv
      rw [hv2] at q
      exact (Option.some.inj q).symm
    subst eu ev
    have new : ObjOk X.prog X.w (upd H T (.tup [xs[i], ys[i]])) h' T (.tup [xs[i], ys[i]]) := ⟨by show 2 ≤ sizeLine; decide, [u, v'], .cons ru (.cons rv2 .nil), hTu⟩
    refine ⟨.ref T, _, I.turnedNew (ch := [z, TI, TO, i1, i2]) (fun c o hc' q => hk c o (fun m => hc' (by simp at m ⊢; rcases m with m | m | m | m <;> simp [m])) q) hf hT new, rfl, ⟨T, _, _, rfl, I.hok.fresh hT, rfl, hx, hy⟩, ⟨hz', hI', hO', h1', h2'⟩, fun c hcm => ?_⟩
    have hb2 : c < s.heap.objs.size := by
      obtain ⟨o, e, _⟩ : ∃ o, s.heap.get? c = some o ∧ True := by
        obtain ⟨u0, v0, hO⟩ := hO
        have e5 : c = z ∨ c = TI ∨ c = TO ∨ c = i1 ∨ c = i2 := by simpa using hcm
        rcases e5 with q | q | q | q | q
        · rw [q]; exact ⟨_, hz, trivial⟩
        · rw [q]; exact ⟨_, hI, trivial⟩
        · rw [q]; exact ⟨_, hO, trivial⟩
        · rw [q]; obtain ⟨o, e, _⟩ := h1.ob; exact ⟨o, e, trivial⟩
        · rw [q]; obtain ⟨o, e, _⟩ := h2.ob; exact ⟨o, e, trivial⟩
      exact Heap.lt_size e
    rw [upd_ne (Nat.ne_of_lt (Nat.lt_of_lt_of_le hb2 hT))]
    exact (hf c hcm).1
  done := by
    intro X hP hw hK hc i pins s σ H E I hf st hg
    subst hP hw hK
    obtain ⟨hz, hI, hO, h1, h2⟩ := st
    obtain ⟨rfl, hq1, hq2⟩ := hg
    obtain ⟨its, rv, pa, _⟩ := sqA_is I hq1
    obtain ⟨jts, rw', pb, _⟩ := sqA_is I hq2
    have hl1 : its.toArray.size = xs.length := by rw [List.size_toArray]; exact rv.length.symm
    have hl2 : jts.toArray.size = ys.length := by rw [List.size_toArray]; exact rw'.length.symm
    have D1 := draws_A (prog := X.prog) (w := X.w) (A := X.A.in1) (by simp [I.ok.hd hc]) t1 i1 a n1 its.toArray
    have D2 := draws_A (prog := X.prog) (w := X.w) (A := X.A.in1) (by simp [I.ok.hd hc]) t2 i2 b n2 jts.toArray
    rw [hl1] at D1
    rw [hl2] at D2
    have W := GoesN.zip2 (elts := elts) (x1 := kk) (pos := tpos) S D1 D2
    exact W.stops s _ E ⟨hz, hI, hO, ⟨h1, pa⟩, h2, pb⟩ fun h' tk hk _ => I.turnedL (ch := [z, TI, TO, i1, i2]) (fun c o hc' q => hk c o (fun m => hc' (by simp at m ⊢; rcases m with m | m | m | m <;> simp [m])) q) hf
  self := fun A i s Q E st h => wpAny_pyIter_zip st.1 h
section
variable {X : Cx} {σ : St} {G H : Hp} {a b : Expr} {ds es : List PyData} {p pos tpos : Pos} {elts : List Expr} {kk : Nat}
def tagD (t : Bool) (ds : List PyData) : PyData := match t with
  | true => .tuple ds
  | false => .list ds
theorem Da.inv_A {t : Bool} {v : V} (h : Da G v (tagD t ds)) : ∃ l xs, v = .ref l ∧ DaAll G xs ds ∧ ∀ K H, Same G H → SqA t K H l xs := by
  cases t with
  | true =>
    obtain ⟨l, xs, e, hl, hx⟩ := Da.inv_tup h
    exact ⟨l, xs, e, hx, fun K H i => SqT.of (i _ _ hl)⟩
  | false =>
    obtain ⟨l, xs, e, hl, hx⟩ := Da.inv_lst h
    exact ⟨l, xs, e, hx, fun K H i => SqL.of (i _ _ hl)⟩
/-- for x, y in zip(a, b), each a list (false) or a tuple (true) -/
theorem es_zip (t1 t2 : Bool) (hm : X.mg "zip" = none) (ha : Ed X σ G H a (tagD t1 ds)) (hb : Ed X σ G H b (tagD t2 es)) (hg : Gl X "zip" := by rfl)
    (hs : starEach [a, b] X.env = (false, eval a X.env) :: starEach [b] X.env := by rfl) (hs2 : starEach [b] X.env = (false, eval b X.env) :: starEach [] X.env := by rfl) (hpl : (backTo pos (starEach [b] X.env)).any (·.1) = false := by rfl) :
    Es X σ G H (.Tuple elts kk tpos) (.Call (.Name "zip" p) [a, b] [] pos) (ziD ds es) := by
  refine ⟨fun σ H R => RA X [a, b] σ H fun vs H1 => ∃ l m xs ys, vs = [.ref l, .ref m] ∧ SqA t1 X.K H1 l xs ∧ SqA t2 X.K H1 m ys ∧ R (ItZp t1 t2 X.K l m xs ys) H1, ⟨fun pins s σ H R I h => ?_⟩,
    fun G1 H1 g R q => (ea_cons ha (ea_cons hb ea_nil hs2) hs).run G1 H1 g _ fun vs G2 H2 g2 dvs => ?_⟩
  · refine Call_ (ld_blt I hg hm PyProof.Rows.boot_zip (PyProof.Rows.callWith_type1 (thn (h pos pins s I) fun us s1 ⟨vs, H1, I1, r1, q1⟩ => ?_) hs hpl))
    obtain ⟨l, m, xs, ys, rfl, hq1, hq2, hR⟩ := q1
    obtain ⟨u, v, rfl, ru, rv⟩ := r1.two
    cases (show u = Value.ref l from ru)
    cases (show v = Value.ref m from rv)
    obtain ⟨its, rx, pa, _⟩ := sqA_is I1 hq1
    obtain ⟨jts, ry, pb, _⟩ := sqA_is I1 hq2
    have l1 : l < s1.heap.objs.size := pa.lt
    have l2 : m < s1.heap.objs.size := pb.lt
    refine zip_begins2 (begins_A t1 l its.toArray) (begins_A t2 m jts.toArray) pa pb fun h2 hz hI hO o1 o2 hsz hk => wpAny_pyIter_zip hz ?_
    have S := zip_sep2 (N := s1.heap.objs.size) (fp1 := [l]) (fp2 := [m]) (fun b hb => by rw [List.mem_singleton.mp hb]; exact l1) (fun b hb => by rw [List.mem_singleton.mp hb]; exact l2)
    refine ⟨s1.heap.objs.size + 4, [s1.heap.objs.size + 4, s1.heap.objs.size + 2, s1.heap.objs.size + 3, s1.heap.objs.size, s1.heap.objs.size + 1], _, _, H1, rfl, I1.kept (t' := s1.toks) hk, turn_zpA S (Nat.ne_of_lt l1) (Nat.ne_of_lt (Nat.lt_succ_of_lt l2)), ⟨hz, hI, ⟨_, _, hO⟩, itA_new o1, itA_new o2⟩, fun c hc => ?_, hR⟩
    have hle : s1.heap.objs.size ≤ c := by
      have e5 : c = s1.heap.objs.size + 4 ∨ c = s1.heap.objs.size + 2 ∨ c = s1.heap.objs.size + 3 ∨ c = s1.heap.objs.size ∨ c = s1.heap.objs.size + 1 := by simpa using hc
      rcases e5 with q | q | q | q | q <;> rw [q] <;> first | exact Nat.le_refl _ | exact Nat.le_add_right _ _
    exact I1.fpOk hle (I1.hok.fresh hle)
  · obtain ⟨v, w, rfl, dv, dw⟩ := dvs.inv2
    obtain ⟨l, xs, rfl, hx, kx⟩ := dv.inv_A
    obtain ⟨m, ys, rfl, hy, ky⟩ := dw.inv_A
    refine ⟨l, m, xs, ys, rfl, kx _ _ g2.i, ky _ _ g2.i, q _ G2 H2 g2 ⟨fun i G' H' hi s1 s2 => ⟨?_, kx _ _ (s1.trans s2), ky _ _ (s1.trans s2)⟩, fun G' H' s1 s2 => ⟨?_, kx _ _ (s1.trans s2), ky _ _ (s1.trans s2)⟩, fun i G' H' x H'' hi s1 s2 hyl => ?_⟩⟩
    · rw [ziD_length] at hi; rw [hx.len, hy.len]; exact hi
    · rw [ziD_length, hx.len, hy.len]
    · obtain ⟨T, x', y', rfl, hT, rfl, f1, f2⟩ := hyl
      rw [ziD_length] at hi
      refine ⟨_, .new s2 hT, fun d hd => ?_⟩
      have k1 : ds[i]? = some ds[i] := List.getElem?_eq_getElem (by omega)
      have k2 : es[i]? = some es[i] := List.getElem?_eq_getElem (by omega)
      rw [ziD_get k1 k2] at hd
      cases hd
      have s3 := s1.trans (same_new (o := HO.tup [x', y']) (s2.free hT))
      exact DaAll.tup upd_same (.cons ((hx.at' i _ _ f1 k1).mono s3) (.cons ((hy.at' i _ _ f2 k2).mono s3) .nil))
end
end Fk
end
section
set_option linter.all false
/-! Ma1: lines of cells, plain. -/
namespace Fk
structure Ln where
  c : List Int
  h : List Nat
  r : Bool
namespace Ln
def n (L : Ln) : Nat := L.c.length
def col (L : Ln) (k : Nat) : Int := L.c.getD k 0
/-- the neighbours, as in a ring -/
def lf (L : Ln) (k : Nat) : Nat := (k + (L.n - 1)) % L.n
def rt (L : Ln) (k : Nat) : Nat := (k + 1) % L.n
def hd (L : Ln) (k : Nat) : Bool := decide (k ∈ L.h) || (!L.r && (k == 0 || k == L.n - 1))
def rdy (L : Ln) (k : Nat) : Bool := !L.hd k && (L.col (L.lf k) == L.col (L.rt k) && !(L.col (L.lf k) == L.col k))
def held (L : Ln) : List Nat := (List.range L.n).filter L.hd
def ready (L : Ln) : List Nat := (List.range L.n).filter L.rdy
structure Ok (L : Ln) : Prop where
  one : 1 ≤ L.n
  ring : L.r = true → 3 ≤ L.n
  most : L.n ≤ 40
  cols : ∀ x ∈ L.c, 0 ≤ x ∧ x ≤ 9
  asc : L.h.Pairwise (· < ·)
  mem : ∀ k ∈ L.h, k < L.n
/-- some cells turned: each takes the colour of its left neighbour -/
def turn (L : Ln) (ks : List Nat) : List Int := ks.foldl (fun acc k => acc.set k (L.col (L.lf k))) L.c
def swings (L : Ln) : Bool := L.r && decide (L.ready.length = L.n)
end Ln
theorem Ln.turn_snoc (L : Ln) (ks : List Nat) (k : Nat) : L.turn (ks ++ [k]) = (L.turn ks).set k (L.col (L.lf k)) := by
  unfold Ln.turn
  rw [List.foldl_append]
  rfl
theorem Ln.turn_length (L : Ln) (ks : List Nat) : (L.turn ks).length = L.n := by
  unfold Ln.turn
  have h : ∀ (ks : List Nat) (acc : List Int), (ks.foldl (fun acc k => acc.set k (L.col (L.lf k))) acc).length = acc.length := by
    intro ks
    induction ks with
    | nil => intro acc; rfl
    | cons k ks ih => intro acc; rw [List.foldl_cons, ih, List.length_set]
  exact h ks L.c
theorem Ln.lf_zero {L : Ln} (h : 1 ≤ L.n) : L.lf 0 = L.n - 1 := by
  unfold Ln.lf
  rw [Nat.zero_add]
  exact Nat.mod_eq_of_lt (by omega)
theorem Ln.lf_pos {L : Ln} {k : Nat} (h : 0 < k) (hk : k < L.n) : L.lf k = k - 1 := by
  unfold Ln.lf
  have e : k + (L.n - 1) = (k - 1) + L.n := by omega
  rw [e, Nat.add_mod_right]
  exact Nat.mod_eq_of_lt (by omega)
theorem Ln.lf_lt {L : Ln} (h : 1 ≤ L.n) (k : Nat) : L.lf k < L.n := Nat.mod_lt _ h
theorem Ln.rt_lt {L : Ln} (h : 1 ≤ L.n) (k : Nat) : L.rt k < L.n := Nat.mod_lt _ h
theorem Ln.rt_last {L : Ln} (h : 1 ≤ L.n) : L.rt (L.n - 1) = 0 := by
  unfold Ln.rt
  rw [Nat.sub_add_cancel h]
  exact Nat.mod_self _
theorem Ln.rt_lo {L : Ln} {k : Nat} (hk : k + 1 < L.n) : L.rt k = k + 1 := Nat.mod_eq_of_lt hk
theorem pairwise_range (n : Nat) : (List.range n).Pairwise (· < ·) := List.pairwise_lt_range
theorem filter_asc (n : Nat) (f : Nat → Bool) : ((List.range n).filter f).Pairwise (· < ·) := (pairwise_range n).filter f
theorem cast_asc {l : List Nat} (h : l.Pairwise (· < ·)) : (l.map fun k : Nat => (k : Int)).Pairwise (· < ·) := by
  rw [List.pairwise_map]
  exact h.imp fun h => by omega
end Fk
end
section
set_option Elab.async false
set_option linter.all false
set_option maxRecDepth 100000
set_option maxHeartbeats 4000000
/-! D1: the first defs. -/
namespace Fk
open PySem PySem.Spec L2
open PyProof.Rows hiding St
local macro_rules | `(tactic| walk_at "gr") => `(tactic| first | assumption | exact Same.refl _ | (refine Same.trans ?_ (Grow.g (by assumption)); walk_at "gr"))
local macro_rules | `(tactic| walk_at "da") => `(tactic| first | assumption | exact Da.int _ | exact Da.bl _ | exact Da.non | (refine Da.mono ?_ (by assumption); walk_at "gr"))
local macro_rules | `(tactic| walk_at "dp") => `(tactic| (simp only [PyData.depth, PyData.depthAll, depthAll_dI, depthAll_dN, Nat.max_zero, Nat.zero_max, Nat.max_self, Nat.min_self, Nat.zero_min, Nat.min_zero] <;> omega))
local macro_rules | `(tactic| walk_at "bt") => `(tactic| first | exact Bt.isi (by assumption) | exact Bt.int (by assumption) | exact Bt.bool (by assumption) | exact Bt.tuple (by assumption) | exact Bt.len (by assumption) | exact Bt.list (by assumption) | exact Bt.set (by assumption) | exact Bt.sorted (by assumption) | exact Bt.range (by assumption) | exact Bt.enum (by assumption) | exact Bt.zip (by assumption) | exact Bt.min (by assumption) | exact Bt.max (by assumption) | exact Bt.sum (by assumption) | exact Bt.dict (by assumption) | exact Bt.str (by assumption))
local macro_rules | `(tactic| walk_at "au") => `(tactic| first | (apply prop_id; assumption) | (show PySem.W.keepIn _ _ = true; assumption) | (show (_ : Option Value) = none; walk_at "bt") | rfl | (show min _ _ ≤ 64; first | decide | walk_at "dp") | (show _ ≤ sizeLine; first | assumption | (simp only [List.length_cons, List.length_nil]; decide)) | (show (_ : Nat) ≤ _; decide) | (show (_ == _) = false; decide) | (show _ ≠ _; decide) | (show behindInMarks _ _ = false; first | exact nomark _ | with_unfolding_all rfl) | (show lastMarks _ _ = false; with_unfolding_all rfl) | (show OpR _ _ _; first | exact op_le | exact op_lt | exact opI_eq | exact opI_ne) | exact (fun _ _ => rfl) | (show ∀ _, _ = _; intro _; rfl) | exact Or.inl rfl | exact Or.inr rfl)
local macro_rules | `(tactic| walk_at "dt") => `(tactic| first | show Bool | show Int | show PyData | show List PyData | show List Int | show Nat | show Option Int | show V)
local macro_rules | `(tactic| walk_at "Se1") => `(tactic| first | walk_at "dt" | walk_at "Sev" | walk_at "au" | (apply Side.mk; walk_at "au"))
local macro_rules | `(tactic| walk_at "Scm") => `(tactic| first | (apply cm_lt <;> walk_at "Se1") | (apply cm_le <;> walk_at "Se1") | (apply cm_gt <;> walk_at "Se1") | (apply cm_ge <;> walk_at "Se1") | (apply cm_eq <;> walk_at "Se1") | (apply cm_ne <;> walk_at "Se1") | (apply cm_inL <;> walk_at "Se1") | (apply cm_inT <;> walk_at "Se1") | (apply cm_niL <;> walk_at "Se1") | (apply cm_niT <;> walk_at "Se1") | (apply cm_is <;> walk_at "Se1") | (apply cm_isnot <;> walk_at "Se1"))
local macro_rules | `(tactic| walk_at "Set") => `(tactic| first | (apply et_cmp <;> walk_at "Se1") | (apply et_not <;> walk_at "Se1") | (apply et_w; walk_at "Sew") | (apply et_chain <;> walk_at "Se1") | (apply et_val <;> walk_at "Se1"))
local macro_rules | `(tactic| walk_at "Sew") => `(tactic| first | (apply ew_and <;> walk_at "Sew1") | (apply ew_or <;> walk_at "Sew1") | (apply ew_and1; walk_at "Sev") | (apply ew_or1; walk_at "Sev"))
local macro_rules | `(tactic| walk_at "Sew1") => `(tactic| first | walk_at "dt" | (show Et _ _ _ _ _ _; walk_at "Sev") | (intro _; walk_at "Sew"))
local macro_rules | `(tactic| walk_at "Sec") => `(tactic| first | (apply ed_not <;> walk_at "Se1") | (apply ed_and <;> walk_at "Se1") | (apply ed_or <;> walk_at "Se1") | (apply ed_one <;> walk_at "Se1") | (apply ed_cmp <;> walk_at "Se1") | (apply ed_chain <;> walk_at "Se1"))
local macro_rules | `(tactic| walk_at "Seb") => `(tactic| first | (apply ed_lenT <;> walk_at "Se1") | (apply ed_lenL <;> walk_at "Se1") | (apply ed_call <;> walk_at "Se1") | (apply ed_isInt <;> walk_at "Se1") | (apply ed_isBool <;> walk_at "Se1") | (apply ed_isTuple <;> walk_at "Se1") | (apply ed_isList <;> walk_at "Se1") | (apply ed_isStr <;> walk_at "Se1") | (apply ed_isTL <;> walk_at "Se1") | (apply ed_listOf <;> walk_at "Se1") | (apply ed_tupleOf <;> walk_at "Se1") | (apply ed_min2 <;> walk_at "Se1") | (apply ed_int1 <;> walk_at "Se1"))
local macro_rules | `(tactic| walk_at "Sei") => `(tactic| first | (apply ed_ixT <;> walk_at "Se1") | (apply ed_ixL <;> walk_at "Se1"))
local macro_rules | `(tactic| walk_at "Sex") => `(tactic| first | exact ed_int | exact ed_bl | exact ed_non | exact ed_nm rfl (by walk_at "da") | (apply ed_add <;> walk_at "Se1") | (apply ed_sub <;> walk_at "Se1") | (apply ed_neg <;> walk_at "Se1") | walk_at "Sei" | (apply ed_tup <;> walk_at "Se1") | (apply ed_lst <;> walk_at "Se1") | (apply ed_mod <;> walk_at "Se1") | (apply ed_ifI <;> walk_at "Se1") | (apply ed_if2 <;> walk_at "Se1") | (apply ed_slT <;> walk_at "Se1") | (apply ed_slL <;> walk_at "Se1") | (apply ed_catT <;> walk_at "Se1"))
local macro_rules | `(tactic| walk_at "Sev") => `(tactic| first | (show Ed _ _ _ _ _ _; first | walk_at "Sex" | walk_at "Seb" | walk_at "Sec") | (show Et _ _ _ _ _ _; walk_at "Set") | (show Cm _ _ _ _ _ _ _ _; walk_at "Scm") | (show Ea _ _ _ _ _ _; first | exact ea_nil | (apply ea_cons <;> walk_at "Se1")) | (show Eo _ _ _ _ _ _; first | exact eo_none | (apply eo_some; walk_at "Sev")) | (show Er _ _ _ _ _ _; exact er_nm rfl) | (show Ew _ _ _ _ _ _; walk_at "Sew") | (intro _; walk_at "Sev"))
local macro_rules | `(tactic| walk_at "e1") => `(tactic| first | walk_at "dt" | walk_at "ev" | walk_at "au" | (apply Side.mk; first | walk_at "au" | skip))
local macro_rules | `(tactic| walk_at "cm") => `(tactic| first | (apply cm_lt <;> walk_at "e1") | (apply cm_le <;> walk_at "e1") | (apply cm_gt <;> walk_at "e1") | (apply cm_ge <;> walk_at "e1") | (apply cm_eq <;> walk_at "e1") | (apply cm_ne <;> walk_at "e1") | (apply cm_inL <;> walk_at "e1") | (apply cm_inT <;> walk_at "e1") | (apply cm_niL <;> walk_at "e1") | (apply cm_niT <;> walk_at "e1") | (apply cm_is <;> walk_at "e1") | (apply cm_isnot <;> walk_at "e1"))
local macro_rules | `(tactic| walk_at "et") => `(tactic| first | (apply et_cmp <;> walk_at "e1") | (apply et_not <;> walk_at "e1") | (apply et_w; walk_at "ew") | (apply et_chain <;> walk_at "e1") | (apply et_val <;> walk_at "e1"))
local macro_rules | `(tactic| walk_at "ew") => `(tactic| first | (apply ew_and <;> walk_at "ew1") | (apply ew_or <;> walk_at "ew1") | (apply ew_and1; walk_at "ev") | (apply ew_or1; walk_at "ev"))
local macro_rules | `(tactic| walk_at "ew1") => `(tactic| first | walk_at "dt" | (show Et _ _ _ _ _ _; walk_at "ev") | (intro _; walk_at "ew"))
local macro_rules | `(tactic| walk_at "ec") => `(tactic| first | (apply ed_not <;> walk_at "e1") | (apply ed_and <;> walk_at "e1") | (apply ed_or <;> walk_at "e1") | (apply ed_one <;> walk_at "e1") | (apply ed_cmp <;> walk_at "e1") | (apply ed_chain <;> walk_at "e1"))
local macro_rules | `(tactic| walk_at "eb") => `(tactic| first | walk_at "Seb" | (apply ed_lenT <;> walk_at "e1") | (apply ed_lenL <;> walk_at "e1") | (apply ed_call <;> walk_at "e1") | (apply ed_isInt <;> walk_at "e1") | (apply ed_isBool <;> walk_at "e1") | (apply ed_isTuple <;> walk_at "e1") | (apply ed_isList <;> walk_at "e1") | (apply ed_isStr <;> walk_at "e1") | (apply ed_isTL <;> walk_at "e1") | (apply ed_listOf <;> walk_at "e1") | (apply ed_tupleOf <;> walk_at "e1") | (apply ed_min2 <;> walk_at "e1") | (apply ed_int1 <;> walk_at "e1"))
local macro_rules | `(tactic| walk_at "ei") => `(tactic| first | walk_at "Sei" | (apply ed_ixT <;> walk_at "e1") | (apply ed_ixL <;> walk_at "e1"))
local macro_rules | `(tactic| walk_at "ex") => `(tactic| first | exact ed_int | exact ed_bl | exact ed_non | exact ed_nm rfl (by walk_at "da") | (apply ed_add <;> walk_at "e1") | (apply ed_sub <;> walk_at "e1") | (apply ed_neg <;> walk_at "e1") | walk_at "ei" | (apply ed_tup <;> walk_at "e1") | (apply ed_lst <;> walk_at "e1") | (apply ed_mod <;> walk_at "e1") | (apply ed_ifI <;> walk_at "e1") | (apply ed_if2 <;> walk_at "e1") | (apply ed_slT <;> walk_at "e1") | (apply ed_slL <;> walk_at "e1") | (apply ed_catT <;> walk_at "e1"))
local macro_rules | `(tactic| walk_at "ev") => `(tactic| first | (show Ed _ _ _ _ _ _; first | walk_at "ex" | walk_at "eb" | walk_at "ec") | (show Et _ _ _ _ _ _; walk_at "et") | (show Cm _ _ _ _ _ _ _ _; walk_at "cm") | (show Ea _ _ _ _ _ _; first | exact ea_nil | (apply ea_cons <;> walk_at "e1")) | (show Eo _ _ _ _ _ _; first | exact eo_none | (apply eo_some; walk_at "ev")) | (show Er _ _ _ _ _ _; exact er_nm rfl) | (show Ew _ _ _ _ _ _; walk_at "ew") | (intro _; walk_at "ev"))

section
variable {P : Program} {w : World} {K : PySem.W.Frag} {mg : Str → Option Value} {base : Heap}
def R_is_in : List PyData → PyData → Prop := fun ds d => ∃ v lo hi : Int, ds = [.int v, .int lo, .int hi] ∧ d = .bool (decide (lo ≤ v) && decide (v ≤ hi))
set_option maxHeartbeats 400000 in
theorem ok_is_in (D : Df K mg "is_in" s_is_in) (B : Bt mg) : Own P w K mg base "is_in" 1 (spD R_is_in) := by
  refine Own.data D sc_is_in (fun _ _ _ _ _ _ us hl => match us, hl with | [_, _, _], _ => rfl) (fun ds d ⟨_, _, _, e, _⟩ => by rw [e]; rfl) ?_
  rintro f cdv A outer s H vs Q E hr G _ _ i0 hvs ⟨v, lo, hi, rfl, rfl⟩ q
  obtain ⟨x1, x2, x3, rfl, h1, h2, h3⟩ := hvs.inv3
  refine rb_one (rs_retD ?_ i0 q)
  apply Ed.is
  · walk_at "ev"
  · simp [PyData.isInt, PyData.isBool]
end
end Fk
end
section
set_option Elab.async false
set_option linter.all false
set_option maxRecDepth 100000
set_option maxHeartbeats 4000000
/-! D2: neighbours, held and ready cells. -/
namespace Fk
open PySem PySem.Spec L2
open PyProof.Rows hiding St
local macro_rules | `(tactic| walk_at "gr") => `(tactic| first | assumption | exact Same.refl _ | (refine Same.trans ?_ (Grow.g (by assumption)); walk_at "gr"))
local macro_rules | `(tactic| walk_at "da") => `(tactic| first | assumption | exact Da.int _ | exact Da.bl _ | exact Da.non | (refine Da.mono ?_ (by assumption); walk_at "gr"))
local macro_rules | `(tactic| walk_at "dp") => `(tactic| (simp only [PyData.depth, PyData.depthAll, depthAll_dI, depthAll_dN, Nat.max_zero, Nat.zero_max, Nat.max_self, Nat.min_self, Nat.zero_min, Nat.min_zero] <;> omega))
local macro_rules | `(tactic| walk_at "bt") => `(tactic| first | exact Bt.isi (by assumption) | exact Bt.int (by assumption) | exact Bt.bool (by assumption) | exact Bt.tuple (by assumption) | exact Bt.len (by assumption) | exact Bt.list (by assumption) | exact Bt.set (by assumption) | exact Bt.sorted (by assumption) | exact Bt.range (by assumption) | exact Bt.enum (by assumption) | exact Bt.zip (by assumption) | exact Bt.min (by assumption) | exact Bt.max (by assumption) | exact Bt.sum (by assumption) | exact Bt.dict (by assumption) | exact Bt.str (by assumption))
local macro_rules | `(tactic| walk_at "au") => `(tactic| first | (apply prop_id; assumption) | (show PySem.W.keepIn _ _ = true; assumption) | (show (_ : Option Value) = none; walk_at "bt") | rfl | (show min _ _ ≤ 64; first | decide | walk_at "dp") | (show _ ≤ sizeLine; first | assumption | (simp only [List.length_cons, List.length_nil]; decide)) | (show (_ : Nat) ≤ _; decide) | (show (_ == _) = false; decide) | (show _ ≠ _; decide) | (show behindInMarks _ _ = false; first | exact nomark _ | with_unfolding_all rfl) | (show lastMarks _ _ = false; with_unfolding_all rfl) | (show OpR _ _ _; first | exact op_le | exact op_lt | exact opI_eq | exact opI_ne) | exact (fun _ _ => rfl) | (show ∀ _, _ = _; intro _; rfl) | exact Or.inl rfl | exact Or.inr rfl)
local macro_rules | `(tactic| walk_at "dt") => `(tactic| first | show Bool | show Int | show PyData | show List PyData | show List Int | show Nat | show Option Int | show V)
local macro_rules | `(tactic| walk_at "Se1") => `(tactic| first | walk_at "dt" | walk_at "Sev" | walk_at "au" | (apply Side.mk; walk_at "au"))
local macro_rules | `(tactic| walk_at "Scm") => `(tactic| first | (apply cm_lt <;> walk_at "Se1") | (apply cm_le <;> walk_at "Se1") | (apply cm_gt <;> walk_at "Se1") | (apply cm_ge <;> walk_at "Se1") | (apply cm_eq <;> walk_at "Se1") | (apply cm_ne <;> walk_at "Se1") | (apply cm_inL <;> walk_at "Se1") | (apply cm_inT <;> walk_at "Se1") | (apply cm_niL <;> walk_at "Se1") | (apply cm_niT <;> walk_at "Se1") | (apply cm_is <;> walk_at "Se1") | (apply cm_isnot <;> walk_at "Se1"))
local macro_rules | `(tactic| walk_at "Set") => `(tactic| first | (apply et_cmp <;> walk_at "Se1") | (apply et_not <;> walk_at "Se1") | (apply et_w; walk_at "Sew") | (apply et_chain <;> walk_at "Se1") | (apply et_val <;> walk_at "Se1"))
local macro_rules | `(tactic| walk_at "Sew") => `(tactic| first | (apply ew_and <;> walk_at "Sew1") | (apply ew_or <;> walk_at "Sew1") | (apply ew_and1; walk_at "Sev") | (apply ew_or1; walk_at "Sev"))
local macro_rules | `(tactic| walk_at "Sew1") => `(tactic| first | walk_at "dt" | (show Et _ _ _ _ _ _; walk_at "Sev") | (intro _; walk_at "Sew"))
local macro_rules | `(tactic| walk_at "Sec") => `(tactic| first | (apply ed_not <;> walk_at "Se1") | (apply ed_and <;> walk_at "Se1") | (apply ed_or <;> walk_at "Se1") | (apply ed_one <;> walk_at "Se1") | (apply ed_cmp <;> walk_at "Se1") | (apply ed_chain <;> walk_at "Se1"))
local macro_rules | `(tactic| walk_at "Seb") => `(tactic| first | (apply ed_lenT <;> walk_at "Se1") | (apply ed_lenL <;> walk_at "Se1") | (apply ed_call <;> walk_at "Se1") | (apply ed_isInt <;> walk_at "Se1") | (apply ed_isBool <;> walk_at "Se1") | (apply ed_isTuple <;> walk_at "Se1") | (apply ed_isList <;> walk_at "Se1") | (apply ed_isStr <;> walk_at "Se1") | (apply ed_isTL <;> walk_at "Se1") | (apply ed_listOf <;> walk_at "Se1") | (apply ed_tupleOf <;> walk_at "Se1") | (apply ed_min2 <;> walk_at "Se1") | (apply ed_int1 <;> walk_at "Se1"))
local macro_rules | `(tactic| walk_at "Sei") => `(tactic| first | (apply ed_ixT <;> walk_at "Se1") | (apply ed_ixL <;> walk_at "Se1"))
local macro_rules | `(tactic| walk_at "Sex") => `(tactic| first | exact ed_int | exact ed_bl | exact ed_non | exact ed_nm rfl (by walk_at "da") | (apply ed_add <;> walk_at "Se1") | (apply ed_sub <;> walk_at "Se1") | (apply ed_neg <;> walk_at "Se1") | walk_at "Sei" | (apply ed_tup <;> walk_at "Se1") | (apply ed_lst <;> walk_at "Se1") | (apply ed_mod <;> walk_at "Se1") | (apply ed_ifI <;> walk_at "Se1") | (apply ed_if2 <;> walk_at "Se1") | (apply ed_slT <;> walk_at "Se1") | (apply ed_slL <;> walk_at "Se1") | (apply ed_catT <;> walk_at "Se1"))
local macro_rules | `(tactic| walk_at "Sev") => `(tactic| first | (show Ed _ _ _ _ _ _; first | walk_at "Sex" | walk_at "Seb" | walk_at "Sec") | (show Et _ _ _ _ _ _; walk_at "Set") | (show Cm _ _ _ _ _ _ _ _; walk_at "Scm") | (show Ea _ _ _ _ _ _; first | exact ea_nil | (apply ea_cons <;> walk_at "Se1")) | (show Eo _ _ _ _ _ _; first | exact eo_none | (apply eo_some; walk_at "Sev")) | (show Er _ _ _ _ _ _; exact er_nm rfl) | (show Ew _ _ _ _ _ _; walk_at "Sew") | (intro _; walk_at "Sev"))
local macro_rules | `(tactic| walk_at "e1") => `(tactic| first | walk_at "dt" | walk_at "ev" | walk_at "au" | (apply Side.mk; first | walk_at "au" | skip))
local macro_rules | `(tactic| walk_at "cm") => `(tactic| first | (apply cm_lt <;> walk_at "e1") | (apply cm_le <;> walk_at "e1") | (apply cm_gt <;> walk_at "e1") | (apply cm_ge <;> walk_at "e1") | (apply cm_eq <;> walk_at "e1") | (apply cm_ne <;> walk_at "e1") | (apply cm_inL <;> walk_at "e1") | (apply cm_inT <;> walk_at "e1") | (apply cm_niL <;> walk_at "e1") | (apply cm_niT <;> walk_at "e1") | (apply cm_is <;> walk_at "e1") | (apply cm_isnot <;> walk_at "e1"))
local macro_rules | `(tactic| walk_at "et") => `(tactic| first | (apply et_cmp <;> walk_at "e1") | (apply et_not <;> walk_at "e1") | (apply et_w; walk_at "ew") | (apply et_chain <;> walk_at "e1") | (apply et_val <;> walk_at "e1"))
local macro_rules | `(tactic| walk_at "ew") => `(tactic| first | (apply ew_and <;> walk_at "ew1") | (apply ew_or <;> walk_at "ew1") | (apply ew_and1; walk_at "ev") | (apply ew_or1; walk_at "ev"))
local macro_rules | `(tactic| walk_at "ew1") => `(tactic| first | walk_at "dt" | (show Et _ _ _ _ _ _; walk_at "ev") | (intro _; walk_at "ew"))
local macro_rules | `(tactic| walk_at "ec") => `(tactic| first | (apply ed_not <;> walk_at "e1") | (apply ed_and <;> walk_at "e1") | (apply ed_or <;> walk_at "e1") | (apply ed_one <;> walk_at "e1") | (apply ed_cmp <;> walk_at "e1") | (apply ed_chain <;> walk_at "e1"))
local macro_rules | `(tactic| walk_at "eb") => `(tactic| first | walk_at "Seb" | (apply ed_lenT <;> walk_at "e1") | (apply ed_lenL <;> walk_at "e1") | (apply ed_call <;> walk_at "e1") | (apply ed_isInt <;> walk_at "e1") | (apply ed_isBool <;> walk_at "e1") | (apply ed_isTuple <;> walk_at "e1") | (apply ed_isList <;> walk_at "e1") | (apply ed_isStr <;> walk_at "e1") | (apply ed_isTL <;> walk_at "e1") | (apply ed_listOf <;> walk_at "e1") | (apply ed_tupleOf <;> walk_at "e1") | (apply ed_min2 <;> walk_at "e1") | (apply ed_int1 <;> walk_at "e1"))
local macro_rules | `(tactic| walk_at "ei") => `(tactic| first | walk_at "Sei" | (apply ed_ixT <;> walk_at "e1") | (apply ed_ixL <;> walk_at "e1"))
local macro_rules | `(tactic| walk_at "ex") => `(tactic| first | exact ed_int | exact ed_bl | exact ed_non | exact ed_nm rfl (by walk_at "da") | (apply ed_add <;> walk_at "e1") | (apply ed_sub <;> walk_at "e1") | (apply ed_neg <;> walk_at "e1") | walk_at "ei" | (apply ed_tup <;> walk_at "e1") | (apply ed_lst <;> walk_at "e1") | (apply ed_mod <;> walk_at "e1") | (apply ed_ifI <;> walk_at "e1") | (apply ed_if2 <;> walk_at "e1") | (apply ed_slT <;> walk_at "e1") | (apply ed_slL <;> walk_at "e1") | (apply ed_catT <;> walk_at "e1"))
local macro_rules | `(tactic| walk_at "ev") => `(tactic| first | (show Ed _ _ _ _ _ _; first | walk_at "ex" | walk_at "eb" | walk_at "ec") | (show Et _ _ _ _ _ _; walk_at "et") | (show Cm _ _ _ _ _ _ _ _; walk_at "cm") | (show Ea _ _ _ _ _ _; first | exact ea_nil | (apply ea_cons <;> walk_at "e1")) | (show Eo _ _ _ _ _ _; first | exact eo_none | (apply eo_some; walk_at "ev")) | (show Er _ _ _ _ _ _; exact er_nm rfl) | (show Ew _ _ _ _ _ _; walk_at "ew") | (intro _; walk_at "ev"))
def Ln.d (L : Ln) : PyData := .tuple [.tuple (dI L.c), .tuple (dN L.h), .bool L.r]
theorem Ln.get {L : Ln} {k : Nat} (h : k < L.n) : L.c[k]? = some (L.col k) := by
  unfold Ln.col
  rw [List.getD_eq_getElem?_getD, List.getElem?_eq_getElem h]
  rfl
theorem Ln.at_ {L : Ln} {z : Int} {k : Nat} (e : z = (k : Int)) (h : k < L.n) : atI (dI L.c) z = some (.int (L.col k)) := atI_of e (dI_get (Ln.get h))
theorem Ln.at_lf {L : Ln} {z : Int} {k : Nat} (e : z = (k : Int)) (h : k < L.n) : atI (dI L.c) (z - 1) = some (.int (L.col (L.lf k))) := by
  by_cases h0 : k = 0
  · subst h0
    have h1 : 1 ≤ L.n := h
    rw [Ln.lf_zero h1]
    exact atI_neg (by omega) (by rw [dI_length, e]; show (0 : Int) - 1 + (L.n : Int) = ((L.n - 1 : Nat) : Int); omega) (dI_get (Ln.get (by omega)))
  · rw [Ln.lf_pos (by omega) h]
    exact atI_of (by rw [e]; omega) (dI_get (Ln.get (by omega)))
theorem Ln.at_rt {L : Ln} {z m : Int} {k : Nat} (e : z = (k : Int)) (em : m = (L.n : Int)) (h : k < L.n) : atI (dI L.c) (z + 1 - m) = some (.int (L.col (L.rt k))) := by
  by_cases h0 : k + 1 = L.n
  · have e2 : k = L.n - 1 := by omega
    rw [e2, Ln.rt_last (by omega)]
    exact atI_of (by rw [e, em]; omega) (dI_get (Ln.get (by omega)))
  · rw [Ln.rt_lo (by omega)]
    exact atI_neg (by omega) (by rw [dI_length, e, em]; show (k : Int) + 1 - (L.n : Int) + (L.n : Int) = ((k + 1 : Nat) : Int); omega) (dI_get (Ln.get (by omega)))
theorem beq_dec (a b : Int) : (a == b) = decide (a = b) := by rw [Bool.eq_iff_iff]; simp
theorem lf_cast {L : Ln} {k : Nat} (h : k < L.n) : ((k : Int) - 1) % (L.n : Int) = (L.lf k : Int) := by
  unfold Ln.lf
  rw [Int.natCast_emod]
  have e : ((k + (L.n - 1) : Nat) : Int) = ((k : Int) - 1) + (L.n : Int) := by omega
  rw [e, Int.add_emod_right]
theorem rt_cast {L : Ln} {k : Nat} : ((k : Int) + 1) % (L.n : Int) = (L.rt k : Int) := by
  unfold Ln.rt
  rw [Int.natCast_emod]
  rfl
def R_flanks : List PyData → PyData → Prop := fun ds d => ∃ (L : Ln) (k : Nat), k < L.n ∧ ds = [.int L.n, .int k] ∧ d = .tuple [.int (L.lf k), .int (L.rt k)]
def R_is_flanked : List PyData → PyData → Prop := fun ds d => ∃ (L : Ln) (k : Nat), k < L.n ∧ ds = [.tuple (dI L.c), .int k] ∧ d = .bool (L.col (L.lf k) == L.col (L.rt k) && !(L.col (L.lf k) == L.col k))
def R_held_in : List PyData → PyData → Prop := fun ds d => ∃ L : Ln, L.Ok ∧ ds = [L.d] ∧ d = .list (dN L.held)
def R_ready_in : List PyData → PyData → Prop := fun ds d => ∃ L : Ln, L.Ok ∧ ds = [L.d] ∧ d = .list (dN L.ready)
section
variable {P : Program} {w : World} {K : PySem.W.Frag} {mg : Str → Option Value} {base : Heap}
set_option maxHeartbeats 400000 in
theorem ok_flanks (D : Df K mg "flanks" s_flanks) (B : Bt mg) : Own P w K mg base "flanks" 1 (spD R_flanks) := by
  refine Own.data D sc_flanks (fun _ _ _ _ _ _ us hl => match us, hl with | [_, _], _ => rfl) (fun ds d ⟨_, _, _, e, _⟩ => by rw [e]; rfl) ?_
  rintro f cdv A outer s H vs Q E hr G _ _ i0 hvs ⟨L, k, hk, rfl, rfl⟩ q
  obtain ⟨x1, x2, rfl, h1, h2⟩ := hvs.inv2
  have hn : (0 : Int) < (L.n : Int) := by omega
  refine rb_one (rs_retD ?_ i0 q)
  rw [← lf_cast hk, ← rt_cast]
  walk_at "ev"
set_option maxHeartbeats 400000 in
theorem ok_is_flanked (D : Df K mg "is_flanked" s_is_flanked) (B : Bt mg) (O1 : Own P w K mg base "flanks" 1 (spD R_flanks)) : Own P w K mg base "is_flanked" 2 (spD R_is_flanked) := by
  refine Own.data D sc_is_flanked (fun _ _ _ _ _ _ us hl => match us, hl with | [_, _], _ => rfl) (fun ds d ⟨_, _, _, e, _⟩ => by rw [e]; rfl) ?_
  rintro f cdv A outer s H vs Q E hr G _ _ i0 hvs ⟨L, k, hk, rfl, rfl⟩ q
  obtain ⟨x1, x2, rfl, h1, h2⟩ := hvs.inv2
  refine rb_cons (rs_asg (d := .tuple [.int (L.lf k), .int (L.rt k)]) ?_ i0 (bd_pair sc_is_flanked.nd) ?_)
  · walk_at "ev"
    exact ⟨L, k, hk, by rw [dI_length]; rfl, rfl⟩
  rintro σ2 G2 H2 g ⟨v, u, rfl, hv, hu⟩
  have h1n : 1 ≤ L.n := by omega
  have a1 := Ln.at_ (L := L) (z := L.lf k) rfl (Ln.lf_lt h1n k)
  have a2 := Ln.at_ (L := L) (z := L.rt k) rfl (Ln.rt_lt h1n k)
  have a3 := Ln.at_ (L := L) (z := k) rfl hk
  refine rb_one (rs_retD ?_ g.i fun v G' H' g' dv => q v G' H' (g.trans g') dv)
  apply Ed.is
  · walk_at "ev"
  · simp only [beq_dec]
    by_cases h : L.col (L.lf k) = L.col (L.rt k) <;> simp [h]
theorem held_len {L : Ln} : L.held.length ≤ L.n := by
  have h := List.length_filter_le L.hd (List.range L.n)
  rw [List.length_range] at h
  exact h
theorem asc_len_from : ∀ (l : List Nat) (m n : Nat), l.Pairwise (· < ·) → (∀ k ∈ l, m ≤ k ∧ k < n) → l.length ≤ n - m
  | [], _, _, _, _ => Nat.zero_le _
  | a :: t, m, n, h1, h2 => by
    have ha := h2 a List.mem_cons_self
    have ih := asc_len_from t (a + 1) n (List.pairwise_cons.mp h1).2 fun k hk => ⟨(List.pairwise_cons.mp h1).1 k hk, (h2 k (List.mem_cons_of_mem _ hk)).2⟩
    rw [List.length_cons]
    omega
theorem asc_len {l : List Nat} {n : Nat} (h1 : l.Pairwise (· < ·)) (h2 : ∀ k ∈ l, k < n) : l.length ≤ n := asc_len_from l 0 n h1 fun k hk => ⟨Nat.zero_le _, h2 k hk⟩
set_option maxHeartbeats 1000000 in
theorem ok_held_in (D : Df K mg "held_in" s_held_in) (B : Bt mg) : Own P w K mg base "held_in" 1 (spD R_held_in) := by
  refine Own.data D sc_held_in (fun _ _ _ _ _ _ us hl => match us, hl with | [_], _ => rfl) (fun ds d ⟨_, _, e, _⟩ => by rw [e]; rfl) ?_
  rintro f cdv A outer s H vs Q E hr G _ _ i0 hvs ⟨L, ok, rfl, rfl⟩ q
  obtain ⟨x1, rfl, h1⟩ := hvs.inv1
  refine rb_cons (rs_asg (d := .tuple [.tuple (dI L.c), .tuple (dN L.h), .bool L.r]) ?_ i0 (bd_triple sc_held_in.nd) ?_)
  · walk_at "ev"
  rintro σ2 G2 H2 g ⟨v, u, t, rfl, hv, hu, ht⟩
  -- ends
  refine rb_cons (rs_setD (d := .list (dI (if L.r = true then [] else [0, (L.n : Int) - 1]))) ?_ g.i sc_held_in.nd ?_)
  · refine ed_if (k := L.r) ?_ ?_ ?_
    · walk_at "ev"
    · intro e
      rw [e]
      show Ed _ _ _ _ _ (.list [])
      walk_at "ev"
    · intro e
      rw [e]
      have e2 : (L.n : Int) = ((dI L.c).length : Int) := by rw [dI_length]; rfl
      show Ed _ _ _ _ _ (.list [.int 0, .int ((L.n : Int) - 1)])
      rw [e2]
      walk_at "ev"
  intro x G3 H3 g3 hx
  have hn := ok.one
  refine rb_one (rs_retD ?_ g3.i fun v G' H' g' dv => q v G' H' (g.trans (g3.trans g')) dv)
  rw [dN_dI]
  refine ed_sortedSet (ns := (L.h.map fun k : Nat => (k : Int)) ++ (if L.r = true then [] else [0, (L.n : Int) - 1])) B.sorted B.set ?_ (.inl rfl) ?_ (cast_asc (filter_asc _ _)) ?_
  · unfold dI
    rw [List.map_append]
    refine ed_cat ?_ ?_ ?_
    · rw [show (L.h.map fun k : Nat => (k : Int)).map PyData.int = dN L.h from (dN_dI _).symm]
      walk_at "ev"
    · exact ed_nm rfl hx
    · refine ⟨?_⟩
      rw [List.length_map, List.length_map]
      have h3 := asc_len ok.asc ok.mem
      have h4 := ok.most
      have h5 : ((if L.r = true then [] else [0, (L.n : Int) - 1] : List Int).map PyData.int).length ≤ 2 := by split <;> simp
      exact Nat.le_trans (Nat.add_le_add (Nat.le_trans h3 h4) h5) (by decide)
  · rw [List.length_append, List.length_map]
    have h3 := asc_len ok.asc ok.mem
    have h4 := ok.most
    have h5 : (if L.r = true then [] else [0, (L.n : Int) - 1] : List Int).length ≤ 2 := by split <;> simp
    omega
  · intro k
    simp only [List.mem_append, List.mem_map, Ln.held, List.mem_filter, List.mem_range, Ln.hd]
    constructor
    · rintro ⟨j, ⟨hj, hh⟩, rfl⟩
      rcases Bool.or_eq_true_iff.mp hh with h | h
      · exact .inl ⟨j, of_decide_eq_true h, rfl⟩
      · obtain ⟨h6, h7⟩ := Bool.and_eq_true_iff.mp h
        have hr : ¬ L.r = true := by simpa using h6
        rw [if_neg hr]
        rcases Bool.or_eq_true_iff.mp h7 with h8 | h8
        · have e : j = 0 := by simpa using h8
          subst e
          exact .inr (by simp)
        · have e : j = L.n - 1 := by simpa using h8
          refine .inr (List.mem_cons_of_mem _ (List.mem_singleton.mpr ?_))
          rw [e]
          omega
    · rintro (⟨j, hj, rfl⟩ | h)
      · exact ⟨j, ⟨ok.mem j hj, by simp [hj]⟩, rfl⟩
      · by_cases hr : L.r = true
        · rw [if_pos hr] at h
          cases h
        · rw [if_neg hr] at h
          have hr2 : L.r = false := by simpa using hr
          rcases List.mem_cons.mp h with e | h
          · exact ⟨0, ⟨by omega, by simp [hr2]⟩, by rw [e]; rfl⟩
          · exact ⟨L.n - 1, ⟨by omega, by simp [hr2]⟩, by rw [List.mem_singleton.mp h]; omega⟩
theorem range_get {n i : Nat} {d : PyData} (h : (dN (List.range n))[i]? = some d) : i < n ∧ d = .int (i : Int) := by
  have hi := (List.getElem?_eq_some_iff.mp h).1
  rw [dN_length, List.length_range] at hi
  refine ⟨hi, ?_⟩
  rw [dN_get (n := i) (by rw [List.getElem?_range hi])] at h
  exact (Option.some.inj h).symm
set_option maxHeartbeats 1000000 in
theorem ok_ready_in (D : Df K mg "ready_in" s_ready_in) (B : Bt mg) (O1 : Own P w K mg base "held_in" 1 (spD R_held_in)) (O2 : Own P w K mg base "is_flanked" 2 (spD R_is_flanked)) : Own P w K mg base "ready_in" 3 (spD R_ready_in) := by
  refine Own.data D sc_ready_in (fun _ _ _ _ _ _ us hl => match us, hl with | [_], _ => rfl) (fun ds d ⟨_, _, e, _⟩ => by rw [e]; rfl) ?_
  rintro f cdv A outer s H vs Q E hr G _ _ i0 hvs ⟨L, ok, rfl, rfl⟩ q
  obtain ⟨x1, rfl, h1⟩ := hvs.inv1
  have hR : R_held_in [L.d] (.list (dN L.held)) := ⟨L, ok, rfl, rfl⟩
  refine rb_cons (rs_setD (d := .list (dN L.held)) ?_ i0 sc_ready_in.nd ?_)
  · walk_at "ev"
  intro x G2 H2 g hx
  have e1 : (dI L.c).length = L.n := by rw [dI_length]; rfl
  unfold Ln.d at h1
  refine rb_one (rs_retD (En.ed (en_lc1 (own := [("k", 2)]) (S := fun _ => Sn 2) L.rdy (fun k => .int (k : Int)) sc_ready_in.nd (es_range B.range (n := (dI L.c).length) ?_ ?_) (blkOk_by (N := N_ready_in) (sc := defScope s_ready_in) (by decide +kernel)) (fun s0 H0 C cl fp i d hd => bd_name sc_ready_in.nd) ?_ ?_ ?_ ?_)) g.i ?_)
  · walk_at "ev"
  · have := ok.most; omega
  · rintro i d G' σ2 ⟨v, rfl, _⟩
    rfl
  · rintro s0 H0 C cl fp i d σ2 G' H' g' hd ⟨v, rfl, hv⟩
    rw [e1] at hd
    obtain ⟨hi, rfl⟩ := range_get hd
    apply Et.is
    · walk_at "ev"
      exact ⟨L, i, hi, rfl, rfl⟩
    · rw [any_dN]
      unfold Ln.rdy
      have e : decide (i ∈ L.held) = L.hd i := by
        rw [Bool.eq_iff_iff]
        simp [Ln.held, List.mem_filter, hi]
      rw [e]
  · rintro s0 H0 C cl fp i d σ2 G' H' g' hd ⟨v, rfl, hv⟩ _
    rw [e1] at hd
    obtain ⟨hi, rfl⟩ := range_get hd
    walk_at "ev"
  · rw [dN_length, List.length_range, e1]
    have := ok.most
    omega
  · intro v G' H' g' dv
    rw [dN_length, List.length_range, e1] at dv
    exact q v G' H' (g.trans g') dv
end
end Fk
end
section
set_option Elab.async false
set_option linter.all false
set_option maxRecDepth 100000
set_option maxHeartbeats 4000000
/-! D3: turned cells, swings, what a line and prices have to be. -/
namespace Fk
open PySem PySem.Spec L2
open PyProof.Rows hiding St
local macro_rules | `(tactic| walk_at "gr") => `(tactic| first | assumption | exact Same.refl _ | (refine Same.trans ?_ (Grow.g (by assumption)); walk_at "gr"))
local macro_rules | `(tactic| walk_at "da") => `(tactic| first | assumption | exact Da.int _ | exact Da.bl _ | exact Da.non | (refine Da.mono ?_ (by assumption); walk_at "gr"))
local macro_rules | `(tactic| walk_at "dp") => `(tactic| (simp only [PyData.depth, PyData.depthAll, depthAll_dI, depthAll_dN, Nat.max_zero, Nat.zero_max, Nat.max_self, Nat.min_self, Nat.zero_min, Nat.min_zero] <;> omega))
local macro_rules | `(tactic| walk_at "bt") => `(tactic| first | exact Bt.isi (by assumption) | exact Bt.int (by assumption) | exact Bt.bool (by assumption) | exact Bt.tuple (by assumption) | exact Bt.len (by assumption) | exact Bt.list (by assumption) | exact Bt.set (by assumption) | exact Bt.sorted (by assumption) | exact Bt.range (by assumption) | exact Bt.enum (by assumption) | exact Bt.zip (by assumption) | exact Bt.min (by assumption) | exact Bt.max (by assumption) | exact Bt.sum (by assumption) | exact Bt.dict (by assumption) | exact Bt.str (by assumption))
local macro_rules | `(tactic| walk_at "au") => `(tactic| first | (apply prop_id; assumption) | (show PySem.W.keepIn _ _ = true; assumption) | (show (_ : Option Value) = none; walk_at "bt") | rfl | (show min _ _ ≤ 64; first | decide | walk_at "dp") | (show _ ≤ sizeLine; first | assumption | (simp only [List.length_cons, List.length_nil]; decide)) | (show (_ : Nat) ≤ _; decide) | (show (_ == _) = false; decide) | (show _ ≠ _; decide) | (show behindInMarks _ _ = false; first | exact nomark _ | with_unfolding_all rfl) | (show lastMarks _ _ = false; with_unfolding_all rfl) | (show OpR _ _ _; first | exact op_le | exact op_lt | exact opI_eq | exact opI_ne) | exact (fun _ _ => rfl) | (show ∀ _, _ = _; intro _; rfl) | exact Or.inl rfl | exact Or.inr rfl)
local macro_rules | `(tactic| walk_at "dt") => `(tactic| first | show Bool | show Int | show PyData | show List PyData | show List Int | show Nat | show Option Int | show V)
local macro_rules | `(tactic| walk_at "Se1") => `(tactic| first | walk_at "dt" | walk_at "Sev" | walk_at "au" | (apply Side.mk; walk_at "au"))
local macro_rules | `(tactic| walk_at "Scm") => `(tactic| first | (apply cm_lt <;> walk_at "Se1") | (apply cm_le <;> walk_at "Se1") | (apply cm_gt <;> walk_at "Se1") | (apply cm_ge <;> walk_at "Se1") | (apply cm_eq <;> walk_at "Se1") | (apply cm_ne <;> walk_at "Se1") | (apply cm_inL <;> walk_at "Se1") | (apply cm_inT <;> walk_at "Se1") | (apply cm_niL <;> walk_at "Se1") | (apply cm_niT <;> walk_at "Se1") | (apply cm_is <;> walk_at "Se1") | (apply cm_isnot <;> walk_at "Se1"))
local macro_rules | `(tactic| walk_at "Set") => `(tactic| first | (apply et_cmp <;> walk_at "Se1") | (apply et_not <;> walk_at "Se1") | (apply et_w; walk_at "Sew") | (apply et_chain <;> walk_at "Se1") | (apply et_val <;> walk_at "Se1"))
local macro_rules | `(tactic| walk_at "Sew") => `(tactic| first | (apply ew_and <;> walk_at "Sew1") | (apply ew_or <;> walk_at "Sew1") | (apply ew_and1; walk_at "Sev") | (apply ew_or1; walk_at "Sev"))
local macro_rules | `(tactic| walk_at "Sew1") => `(tactic| first | walk_at "dt" | (show Et _ _ _ _ _ _; walk_at "Sev") | (intro _; walk_at "Sew"))
local macro_rules | `(tactic| walk_at "Sec") => `(tactic| first | (apply ed_not <;> walk_at "Se1") | (apply ed_and <;> walk_at "Se1") | (apply ed_or <;> walk_at "Se1") | (apply ed_one <;> walk_at "Se1") | (apply ed_cmp <;> walk_at "Se1") | (apply ed_chain <;> walk_at "Se1"))
local macro_rules | `(tactic| walk_at "Seb") => `(tactic| first | (apply ed_lenT <;> walk_at "Se1") | (apply ed_lenL <;> walk_at "Se1") | (apply ed_call <;> walk_at "Se1") | (apply ed_isInt <;> walk_at "Se1") | (apply ed_isBool <;> walk_at "Se1") | (apply ed_isTuple <;> walk_at "Se1") | (apply ed_isList <;> walk_at "Se1") | (apply ed_isStr <;> walk_at "Se1") | (apply ed_isTL <;> walk_at "Se1") | (apply ed_listOf <;> walk_at "Se1") | (apply ed_tupleOf <;> walk_at "Se1") | (apply ed_min2 <;> walk_at "Se1") | (apply ed_int1 <;> walk_at "Se1"))
local macro_rules | `(tactic| walk_at "Sei") => `(tactic| first | (apply ed_ixT <;> walk_at "Se1") | (apply ed_ixL <;> walk_at "Se1"))
local macro_rules | `(tactic| walk_at "Sex") => `(tactic| first | exact ed_int | exact ed_bl | exact ed_non | exact ed_nm rfl (by walk_at "da") | (apply ed_add <;> walk_at "Se1") | (apply ed_sub <;> walk_at "Se1") | (apply ed_neg <;> walk_at "Se1") | walk_at "Sei" | (apply ed_tup <;> walk_at "Se1") | (apply ed_lst <;> walk_at "Se1") | (apply ed_mod <;> walk_at "Se1") | (apply ed_ifI <;> walk_at "Se1") | (apply ed_if2 <;> walk_at "Se1") | (apply ed_slT <;> walk_at "Se1") | (apply ed_slL <;> walk_at "Se1") | (apply ed_catT <;> walk_at "Se1"))
local macro_rules | `(tactic| walk_at "Sev") => `(tactic| first | (show Ed _ _ _ _ _ _; first | walk_at "Sex" | walk_at "Seb" | walk_at "Sec") | (show Et _ _ _ _ _ _; walk_at "Set") | (show Cm _ _ _ _ _ _ _ _; walk_at "Scm") | (show Ea _ _ _ _ _ _; first | exact ea_nil | (apply ea_cons <;> walk_at "Se1")) | (show Eo _ _ _ _ _ _; first | exact eo_none | (apply eo_some; walk_at "Sev")) | (show Er _ _ _ _ _ _; exact er_nm rfl) | (show Ew _ _ _ _ _ _; walk_at "Sew") | (intro _; walk_at "Sev"))
local macro_rules | `(tactic| walk_at "e1") => `(tactic| first | walk_at "dt" | walk_at "ev" | walk_at "au" | (apply Side.mk; first | walk_at "au" | skip))
local macro_rules | `(tactic| walk_at "cm") => `(tactic| first | (apply cm_lt <;> walk_at "e1") | (apply cm_le <;> walk_at "e1") | (apply cm_gt <;> walk_at "e1") | (apply cm_ge <;> walk_at "e1") | (apply cm_eq <;> walk_at "e1") | (apply cm_ne <;> walk_at "e1") | (apply cm_inL <;> walk_at "e1") | (apply cm_inT <;> walk_at "e1") | (apply cm_niL <;> walk_at "e1") | (apply cm_niT <;> walk_at "e1") | (apply cm_is <;> walk_at "e1") | (apply cm_isnot <;> walk_at "e1"))
local macro_rules | `(tactic| walk_at "et") => `(tactic| first | (apply et_cmp <;> walk_at "e1") | (apply et_not <;> walk_at "e1") | (apply et_w; walk_at "ew") | (apply et_chain <;> walk_at "e1") | (apply et_val <;> walk_at "e1"))
local macro_rules | `(tactic| walk_at "ew") => `(tactic| first | (apply ew_and <;> walk_at "ew1") | (apply ew_or <;> walk_at "ew1") | (apply ew_and1; walk_at "ev") | (apply ew_or1; walk_at "ev"))
local macro_rules | `(tactic| walk_at "ew1") => `(tactic| first | walk_at "dt" | (show Et _ _ _ _ _ _; walk_at "ev") | (intro _; walk_at "ew"))
local macro_rules | `(tactic| walk_at "ec") => `(tactic| first | (apply ed_not <;> walk_at "e1") | (apply ed_and <;> walk_at "e1") | (apply ed_or <;> walk_at "e1") | (apply ed_one <;> walk_at "e1") | (apply ed_cmp <;> walk_at "e1") | (apply ed_chain <;> walk_at "e1"))
local macro_rules | `(tactic| walk_at "eb") => `(tactic| first | walk_at "Seb" | (apply ed_lenT <;> walk_at "e1") | (apply ed_lenL <;> walk_at "e1") | (apply ed_call <;> walk_at "e1") | (apply ed_isInt <;> walk_at "e1") | (apply ed_isBool <;> walk_at "e1") | (apply ed_isTuple <;> walk_at "e1") | (apply ed_isList <;> walk_at "e1") | (apply ed_isStr <;> walk_at "e1") | (apply ed_isTL <;> walk_at "e1") | (apply ed_listOf <;> walk_at "e1") | (apply ed_tupleOf <;> walk_at "e1") | (apply ed_min2 <;> walk_at "e1") | (apply ed_int1 <;> walk_at "e1"))
local macro_rules | `(tactic| walk_at "ei") => `(tactic| first | walk_at "Sei" | (apply ed_ixT <;> walk_at "e1") | (apply ed_ixL <;> walk_at "e1"))
local macro_rules | `(tactic| walk_at "ex") => `(tactic| first | exact ed_int | exact ed_bl | exact ed_non | exact ed_nm rfl (by walk_at "da") | (apply ed_add <;> walk_at "e1") | (apply ed_sub <;> walk_at "e1") | (apply ed_neg <;> walk_at "e1") | walk_at "ei" | (apply ed_tup <;> walk_at "e1") | (apply ed_lst <;> walk_at "e1") | (apply ed_mod <;> walk_at "e1") | (apply ed_ifI <;> walk_at "e1") | (apply ed_if2 <;> walk_at "e1") | (apply ed_slT <;> walk_at "e1") | (apply ed_slL <;> walk_at "e1") | (apply ed_catT <;> walk_at "e1"))
local macro_rules | `(tactic| walk_at "ev") => `(tactic| first | (show Ed _ _ _ _ _ _; first | walk_at "ex" | walk_at "eb" | walk_at "ec") | (show Et _ _ _ _ _ _; walk_at "et") | (show Cm _ _ _ _ _ _ _ _; walk_at "cm") | (show Ea _ _ _ _ _ _; first | exact ea_nil | (apply ea_cons <;> walk_at "e1")) | (show Eo _ _ _ _ _ _; first | exact eo_none | (apply eo_some; walk_at "ev")) | (show Er _ _ _ _ _ _; exact er_nm rfl) | (show Ew _ _ _ _ _ _; walk_at "ew") | (intro _; walk_at "ev"))
def R_with_turned : List PyData → PyData → Prop := fun ds d => ∃ (L : Ln) (ks : List Nat), (∀ k ∈ ks, k < L.n) ∧ L.n ≤ 40 ∧ ds = [.tuple (dI L.c), .list (dN ks)] ∧ d = .tuple (dI (L.turn ks))
def R_swings_in : List PyData → PyData → Prop := fun ds d => ∃ L : Ln, L.Ok ∧ ds = [L.d] ∧ d = .bool L.swings
def R_is_cells : List PyData → PyData → Prop := fun ds d => ∃ (n : Nat) (h : List Nat), n ≤ 40 ∧ h.Pairwise (· < ·) ∧ (∀ k ∈ h, k < n) ∧ ds = [.int n, .tuple (dN h)] ∧ d = .bool true
def R_need_line : List PyData → PyData → Prop := fun ds d => ∃ L : Ln, L.Ok ∧ ds = [L.d] ∧ d = .none
def R_need_prices : List PyData → PyData → Prop := fun ds d => ∃ (L : Ln) (ps : List Int), L.n ≤ 40 ∧ ps.length = L.n ∧ (∀ p ∈ ps, 0 ≤ p ∧ p ≤ 1000) ∧ ds = [L.d, .tuple (dI ps)] ∧ d = .none
def R_need_resting : List PyData → PyData → Prop := fun ds d => ∃ L : Ln, L.Ok ∧ L.swings = false ∧ ds = [L.d] ∧ d = .none
theorem take_succ_get {α : Type} {l : List α} {n : Nat} {x : α} (h : l[n]? = some x) : l.take (n + 1) = l.take n ++ [x] := by
  rw [List.take_add_one, h]
  rfl
theorem dN_get' {l : List Nat} {n : Nat} {d : PyData} (h : (dN l)[n]? = some d) : ∃ k, l[n]? = some k ∧ d = .int (k : Int) := by
  unfold dN at h
  rw [List.getElem?_map] at h
  cases q : l[n]? with
  | none => rw [q] at h; cases h
  | some k => rw [q] at h; exact ⟨k, rfl, (Option.some.inj h).symm⟩
theorem dI_get' {l : List Int} {n : Nat} {d : PyData} (h : (dI l)[n]? = some d) : ∃ k, l[n]? = some k ∧ d = .int k := by
  unfold dI at h
  rw [List.getElem?_map] at h
  cases q : l[n]? with
  | none => rw [q] at h; cases h
  | some k => rw [q] at h; exact ⟨k, rfl, (Option.some.inj h).symm⟩
theorem Grow.mut {G H G1 H1 : Hp} {p : Addr} {o : HO} (g : Grow G H G1 H1) (h0 : H p = none) (h1 : G1 p = none) : Grow G H G1 (upd H1 p o) :=
  ⟨g.g, fun a u e => by rw [upd_ne (ne_of_none e h0)]; exact g.h a u e, same_mut g.i h1, g.n⟩
theorem Grow.n' {G H G1 H1 : Hp} {p : Addr} {o : HO} (g : Grow G H G1 H1) (h0 : G p = none) (h1 : H p = some o) (h2 : ∀ xs, o ≠ .tup xs := by intro _ h; cases h) : G1 p = none := g.n p o h0 h1 h2
theorem small40 {n : Nat} (h : n ≤ 40) : n < sizeLine := Nat.lt_of_le_of_lt h (by decide)
section
variable {P : Program} {w : World} {K : PySem.W.Frag} {mg : Str → Option Value} {base : Heap}
set_option maxHeartbeats 1000000 in
theorem ok_with_turned (D : Df K mg "with_turned" s_with_turned) (B : Bt mg) : Own P w K mg base "with_turned" 1 (spD R_with_turned) := by
  refine Own.data D sc_with_turned (fun _ _ _ _ _ _ us hl => match us, hl with | [_, _], _ => rfl) (fun ds d ⟨_, _, _, _, e, _⟩ => by rw [e]; rfl) ?_
  rintro f cdv A outer s H vs Q E hr G _ _ i0 hvs ⟨L, ks, hks, hn, rfl, rfl⟩ q
  obtain ⟨x1, x2, rfl, h1, h2⟩ := hvs.inv2
  refine rb_cons (rs_set (En.ev (en_listOf B.list (y := .tuple (dI L.c)) ?_ (.inr rfl)) i0) sc_with_turned.nd ?_)
  · walk_at "ev"
  rintro _ G2 H2 g ⟨p, xs, rfl, hp0, hpG, hpH, hxs⟩
  have exs := DaAll.inv_ints hxs
  subst exs
  refine rb_cons (rs_for (es_list (ds := dN ks) ?_) g.i (fun n d hd => bd_name (i := 3) sc_with_turned.nd) (fun n σ' G' H' => Grow G H G' H' ∧ (∃ o, σ' = [some x1, some x2, some (.ref p), o]) ∧ G' p = none ∧ H' p = some (.lst ((L.turn (ks.take n)).map V.int))) ?_ ?_ ?_)
  · walk_at "ev"
  · intro G1 H1 g1
    exact ⟨g.trans g1, ⟨none, rfl⟩, g1.n' hpG hpH, g1.h _ _ hpH⟩
  · rintro n d σ1 G1 H1 G3 H3 σ2 hd s1 s2 ⟨gb, ⟨o, rfl⟩, hG1, hH1⟩ g3 ⟨v, rfl, hv⟩
    obtain ⟨k, hk, rfl⟩ := dN_get' hd
    have hkn := hks k (List.mem_of_getElem? hk)
    have c1 := (h1.mono (g.g.trans s1)).mono g3.g
    have a1 := Ln.at_lf (L := L) (z := k) rfl hkn
    have hH3 := g3.h _ _ hH1
    have hG3 := g3.n' hG1 hH1
    refine rb_one (rs_setL (k := (k : Int)) (n := k) (d := .int (L.col (L.lf k))) (l := p) ?_ ?_ ?_ g3.i hH3 ?_ ?_)
    · walk_at "ev"
    · exact er_nm rfl
    · walk_at "ev"
    · unfold ixN
      rw [List.length_map, Ln.turn_length, if_pos (by omega), if_pos (by omega)]
      simp
    · intro w' G4 H4 g4 hw'
      cases hw'.inv_int
      have hH4 := g4.h _ _ hH3
      have hG4 := g4.n' hG3 hH3
      refine ⟨G4, g3.g.trans g4.g, same_mut g4.i hG4, (gb.trans (g3.trans g4)).mut hp0 hG4, ⟨_, rfl⟩, hG4, ?_⟩
      rw [upd_same, take_succ_get hk, Ln.turn_snoc, List.map_set]
  · rintro σ1 G1 H1 s1 s2 ⟨gb, ⟨o, rfl⟩, hG1, hH1⟩
    have e : ks.take (dN ks).length = ks := by rw [dN_length]; exact List.take_length
    rw [e] at hH1
    refine rb_one (rs_retD (ed_tupleM B.tuple (er_nm rfl) hH1 (DaAll.ints _)) s2 fun v G' H' g' dv => ?_)
    exact q v G' H' (gb.trans g') dv
set_option maxHeartbeats 1000000 in
theorem ok_swings_in (D : Df K mg "swings_in" s_swings_in) (B : Bt mg) (O1 : Own P w K mg base "ready_in" 3 (spD R_ready_in)) : Own P w K mg base "swings_in" 4 (spD R_swings_in) := by
  refine Own.data D sc_swings_in (fun _ _ _ _ _ _ us hl => match us, hl with | [_], _ => rfl) (fun ds d ⟨_, _, e, _⟩ => by rw [e]; rfl) ?_
  rintro f cdv A outer s H vs Q E hr G _ _ i0 hvs ⟨L, ok, rfl, rfl⟩ q
  obtain ⟨x1, rfl, h1⟩ := hvs.inv1
  have hR : R_ready_in [L.d] (.list (dN L.ready)) := ⟨L, ok, rfl, rfl⟩
  unfold Ln.d at h1 hR
  refine rb_one (rs_retD ?_ i0 q)
  apply Ed.is
  · walk_at "ev"
  · unfold Ln.swings
    rw [PyData.eqv, dN_length, dI_length, beq_dec]
    congr 2
    rw [Bool.eq_iff_iff]
    simp only [decide_eq_true_eq]
    exact Int.ofNat_inj
set_option maxHeartbeats 1000000 in
theorem ok_is_cells (D : Df K mg "is_cells" s_is_cells) (B : Bt mg) (O1 : Own P w K mg base "is_in" 1 (spD R_is_in)) : Own P w K mg base "is_cells" 2 (spD R_is_cells) := by
  refine Own.data D sc_is_cells (fun _ _ _ _ _ _ us hl => match us, hl with | [_, _], _ => rfl) (fun ds d ⟨_, _, _, _, _, e, _⟩ => by rw [e]; rfl) ?_
  rintro f cdv A outer s H vs Q E hr G _ _ i0 hvs ⟨n, h, hn, hasc, hlt, rfl, rfl⟩ q
  obtain ⟨x1, x2, rfl, h1, h2⟩ := hvs.inv2
  have hlen := asc_len hasc hlt
  have key : given (dN h).length (fun _ => false) (fun i => (dN h).getD i .none) = [] := by
    unfold given
    simp
  refine rb_cons (rs_skip ?_ i0 ?_)
  · apply Et.is
    · apply et_w
      apply ew_or
      · walk_at "ev"
      · intro _
        apply ew_or1
        apply et_cmp
        · refine cm_ne (d := .list []) (d' := .list []) hr (Ed.is (En.ed (en_lc1 (own := [("x", 2)]) (S := fun _ => Sn 2) (fun _ => false) (fun i => (dN h).getD i .none) sc_is_cells.nd (es_tup (ds := dN h) ?_) (blkOk_by (N := N_is_cells) (sc := defScope s_is_cells) (by decide +kernel)) (fun s0 H0 C cl fp i d hd => bd_name sc_is_cells.nd) ?_ ?_ ?_ ?_)) (by rw [key])) ?_ (by decide)
          · walk_at "ev"
          · rintro i d G' σ2 ⟨v, rfl, _⟩
            rfl
          · rintro s0 H0 C cl fp i d σ2 G' H' g' hd ⟨v, rfl, hv⟩
            obtain ⟨k, hk, rfl⟩ := dN_get' hd
            have hkn := hlt k (List.mem_of_getElem? hk)
            have hR : R_is_in [.int (k : Int), .int 0, .int ((n : Int) - 1)] (.bool true) := ⟨k, 0, (n : Int) - 1, rfl, by
              congr 1
              symm
              simp only [Bool.and_eq_true, decide_eq_true_eq]
              omega⟩
            refine Et.is (b := !true) ?_ rfl
            walk_at "ev"
          · rintro s0 H0 C cl fp i d σ2 G' H' g' hd hS e
            cases e
          · rw [dN_length]; omega
          · walk_at "ev"
        · walk_at "au"
    · simp [PyData.isTuple, PyData.eqv, PyData.eqvAll]
  intro G2 H2 g
  refine rb_one (rs_retD ?_ g.i fun v G' H' g' dv => q v G' H' (g.trans g') dv)
  rw [dN_dI] at h2
  apply Ed.is
  · apply ed_cmp
    · refine cm_eq hr (ed_listOf (ds := dI (h.map fun k : Nat => (k : Int))) B.list ?_ (.inr rfl)) (ed_sortedSet (ns := h.map fun k : Nat => (k : Int)) (ms := h.map fun k : Nat => (k : Int)) B.sorted B.set ?_ (.inr rfl) ?_ (cast_asc hasc) fun k => Iff.rfl) ?_
      · walk_at "ev"
      · walk_at "ev"
      · rw [List.length_map]; omega
      · walk_at "dp"
    · walk_at "au"
  · rw [PyData.eqv, eqvAll_dI]
    simp
end
end Fk
end
section
set_option Elab.async false
set_option linter.all false
set_option maxRecDepth 100000
set_option maxHeartbeats 4000000
/-! D4: what a line and prices have to be. -/
namespace Fk
open PySem PySem.Spec L2
open PyProof.Rows hiding St
local macro_rules | `(tactic| walk_at "gr") => `(tactic| first | assumption | exact Same.refl _ | (refine Same.trans ?_ (Grow.g (by assumption)); walk_at "gr"))
local macro_rules | `(tactic| walk_at "da") => `(tactic| first | assumption | exact Da.int _ | exact Da.bl _ | exact Da.non | (refine Da.mono ?_ (by assumption); walk_at "gr"))
local macro_rules | `(tactic| walk_at "dp") => `(tactic| (simp only [PyData.depth, PyData.depthAll, depthAll_dI, depthAll_dN, Nat.max_zero, Nat.zero_max, Nat.max_self, Nat.min_self, Nat.zero_min, Nat.min_zero] <;> omega))
local macro_rules | `(tactic| walk_at "bt") => `(tactic| first | exact Bt.isi (by assumption) | exact Bt.int (by assumption) | exact Bt.bool (by assumption) | exact Bt.tuple (by assumption) | exact Bt.len (by assumption) | exact Bt.list (by assumption) | exact Bt.set (by assumption) | exact Bt.sorted (by assumption) | exact Bt.range (by assumption) | exact Bt.enum (by assumption) | exact Bt.zip (by assumption) | exact Bt.min (by assumption) | exact Bt.max (by assumption) | exact Bt.sum (by assumption) | exact Bt.dict (by assumption) | exact Bt.str (by assumption))
local macro_rules | `(tactic| walk_at "au") => `(tactic| first | (apply prop_id; assumption) | (show PySem.W.keepIn _ _ = true; assumption) | (show (_ : Option Value) = none; walk_at "bt") | rfl | (show min _ _ ≤ 64; first | decide | walk_at "dp") | (show _ ≤ sizeLine; first | assumption | (simp only [List.length_cons, List.length_nil]; decide)) | (show (_ : Nat) ≤ _; decide) | (show (_ == _) = false; decide) | (show _ ≠ _; decide) | (show behindInMarks _ _ = false; first | exact nomark _ | with_unfolding_all rfl) | (show lastMarks _ _ = false; with_unfolding_all rfl) | (show OpR _ _ _; first | exact op_le | exact op_lt | exact opI_eq | exact opI_ne) | exact (fun _ _ => rfl) | (show ∀ _, _ = _; intro _; rfl) | exact Or.inl rfl | exact Or.inr rfl)
local macro_rules | `(tactic| walk_at "dt") => `(tactic| first | show Bool | show Int | show PyData | show List PyData | show List Int | show Nat | show Option Int | show V)
local macro_rules | `(tactic| walk_at "Se1") => `(tactic| first | walk_at "dt" | walk_at "Sev" | walk_at "au" | (apply Side.mk; walk_at "au"))
local macro_rules | `(tactic| walk_at "Scm") => `(tactic| first | (apply cm_lt <;> walk_at "Se1") | (apply cm_le <;> walk_at "Se1") | (apply cm_gt <;> walk_at "Se1") | (apply cm_ge <;> walk_at "Se1") | (apply cm_eq <;> walk_at "Se1") | (apply cm_ne <;> walk_at "Se1") | (apply cm_inL <;> walk_at "Se1") | (apply cm_inT <;> walk_at "Se1") | (apply cm_niL <;> walk_at "Se1") | (apply cm_niT <;> walk_at "Se1") | (apply cm_is <;> walk_at "Se1") | (apply cm_isnot <;> walk_at "Se1"))
local macro_rules | `(tactic| walk_at "Set") => `(tactic| first | (apply et_cmp <;> walk_at "Se1") | (apply et_not <;> walk_at "Se1") | (apply et_w; walk_at "Sew") | (apply et_chain <;> walk_at "Se1") | (apply et_val <;> walk_at "Se1"))
local macro_rules | `(tactic| walk_at "Sew") => `(tactic| first | (apply ew_and <;> walk_at "Sew1") | (apply ew_or <;> walk_at "Sew1") | (apply ew_and1; walk_at "Sev") | (apply ew_or1; walk_at "Sev"))
local macro_rules | `(tactic| walk_at "Sew1") => `(tactic| first | walk_at "dt" | (show Et _ _ _ _ _ _; walk_at "Sev") | (intro _; walk_at "Sew"))
local macro_rules | `(tactic| walk_at "Sec") => `(tactic| first | (apply ed_not <;> walk_at "Se1") | (apply ed_and <;> walk_at "Se1") | (apply ed_or <;> walk_at "Se1") | (apply ed_one <;> walk_at "Se1") | (apply ed_cmp <;> walk_at "Se1") | (apply ed_chain <;> walk_at "Se1"))
local macro_rules | `(tactic| walk_at "Seb") => `(tactic| first | (apply ed_lenT <;> walk_at "Se1") | (apply ed_lenL <;> walk_at "Se1") | (apply ed_call <;> walk_at "Se1") | (apply ed_isInt <;> walk_at "Se1") | (apply ed_isBool <;> walk_at "Se1") | (apply ed_isTuple <;> walk_at "Se1") | (apply ed_isList <;> walk_at "Se1") | (apply ed_isStr <;> walk_at "Se1") | (apply ed_isTL <;> walk_at "Se1") | (apply ed_listOf <;> walk_at "Se1") | (apply ed_tupleOf <;> walk_at "Se1") | (apply ed_min2 <;> walk_at "Se1") | (apply ed_int1 <;> walk_at "Se1"))
local macro_rules | `(tactic| walk_at "Sei") => `(tactic| first | (apply ed_ixT <;> walk_at "Se1") | (apply ed_ixL <;> walk_at "Se1"))
local macro_rules | `(tactic| walk_at "Sex") => `(tactic| first | exact ed_int | exact ed_bl | exact ed_non | exact ed_nm rfl (by walk_at "da") | (apply ed_add <;> walk_at "Se1") | (apply ed_sub <;> walk_at "Se1") | (apply ed_neg <;> walk_at "Se1") | walk_at "Sei" | (apply ed_tup <;> walk_at "Se1") | (apply ed_lst <;> walk_at "Se1") | (apply ed_mod <;> walk_at "Se1") | (apply ed_ifI <;> walk_at "Se1") | (apply ed_if2 <;> walk_at "Se1") | (apply ed_slT <;> walk_at "Se1") | (apply ed_slL <;> walk_at "Se1") | (apply ed_catT <;> walk_at "Se1"))
local macro_rules | `(tactic| walk_at "Sev") => `(tactic| first | (show Ed _ _ _ _ _ _; first | walk_at "Sex" | walk_at "Seb" | walk_at "Sec") | (show Et _ _ _ _ _ _; walk_at "Set") | (show Cm _ _ _ _ _ _ _ _; walk_at "Scm") | (show Ea _ _ _ _ _ _; first | exact ea_nil | (apply ea_cons <;> walk_at "Se1")) | (show Eo _ _ _ _ _ _; first | exact eo_none | (apply eo_some; walk_at "Sev")) | (show Er _ _ _ _ _ _; exact er_nm rfl) | (show Ew _ _ _ _ _ _; walk_at "Sew") | (intro _; walk_at "Sev"))
local macro_rules | `(tactic| walk_at "e1") => `(tactic| first | walk_at "dt" | walk_at "ev" | walk_at "au" | (apply Side.mk; first | walk_at "au" | skip))
local macro_rules | `(tactic| walk_at "cm") => `(tactic| first | (apply cm_lt <;> walk_at "e1") | (apply cm_le <;> walk_at "e1") | (apply cm_gt <;> walk_at "e1") | (apply cm_ge <;> walk_at "e1") | (apply cm_eq <;> walk_at "e1") | (apply cm_ne <;> walk_at "e1") | (apply cm_inL <;> walk_at "e1") | (apply cm_inT <;> walk_at "e1") | (apply cm_niL <;> walk_at "e1") | (apply cm_niT <;> walk_at "e1") | (apply cm_is <;> walk_at "e1") | (apply cm_isnot <;> walk_at "e1"))
local macro_rules | `(tactic| walk_at "et") => `(tactic| first | (apply et_cmp <;> walk_at "e1") | (apply et_not <;> walk_at "e1") | (apply et_w; walk_at "ew") | (apply et_chain <;> walk_at "e1") | (apply et_val <;> walk_at "e1"))
local macro_rules | `(tactic| walk_at "ew") => `(tactic| first | (apply ew_and <;> walk_at "ew1") | (apply ew_or <;> walk_at "ew1") | (apply ew_and1; walk_at "ev") | (apply ew_or1; walk_at "ev"))
local macro_rules | `(tactic| walk_at "ew1") => `(tactic| first | walk_at "dt" | (show Et _ _ _ _ _ _; walk_at "ev") | (intro _; walk_at "ew"))
local macro_rules | `(tactic| walk_at "ec") => `(tactic| first | (apply ed_not <;> walk_at "e1") | (apply ed_and <;> walk_at "e1") | (apply ed_or <;> walk_at "e1") | (apply ed_one <;> walk_at "e1") | (apply ed_cmp <;> walk_at "e1") | (apply ed_chain <;> walk_at "e1"))
local macro_rules | `(tactic| walk_at "eb") => `(tactic| first | walk_at "Seb" | (apply ed_lenT <;> walk_at "e1") | (apply ed_lenL <;> walk_at "e1") | (apply ed_call <;> walk_at "e1") | (apply ed_isInt <;> walk_at "e1") | (apply ed_isBool <;> walk_at "e1") | (apply ed_isTuple <;> walk_at "e1") | (apply ed_isList <;> walk_at "e1") | (apply ed_isStr <;> walk_at "e1") | (apply ed_isTL <;> walk_at "e1") | (apply ed_listOf <;> walk_at "e1") | (apply ed_tupleOf <;> walk_at "e1") | (apply ed_min2 <;> walk_at "e1") | (apply ed_int1 <;> walk_at "e1"))
local macro_rules | `(tactic| walk_at "ei") => `(tactic| first | walk_at "Sei" | (apply ed_ixT <;> walk_at "e1") | (apply ed_ixL <;> walk_at "e1"))
local macro_rules | `(tactic| walk_at "ex") => `(tactic| first | exact ed_int | exact ed_bl | exact ed_non | exact ed_nm rfl (by walk_at "da") | (apply ed_add <;> walk_at "e1") | (apply ed_sub <;> walk_at "e1") | (apply ed_neg <;> walk_at "e1") | walk_at "ei" | (apply ed_tup <;> walk_at "e1") | (apply ed_lst <;> walk_at "e1") | (apply ed_mod <;> walk_at "e1") | (apply ed_ifI <;> walk_at "e1") | (apply ed_if2 <;> walk_at "e1") | (apply ed_slT <;> walk_at "e1") | (apply ed_slL <;> walk_at "e1") | (apply ed_catT <;> walk_at "e1"))
local macro_rules | `(tactic| walk_at "ev") => `(tactic| first | (show Ed _ _ _ _ _ _; first | walk_at "ex" | walk_at "eb" | walk_at "ec") | (show Et _ _ _ _ _ _; walk_at "et") | (show Cm _ _ _ _ _ _ _ _; walk_at "cm") | (show Ea _ _ _ _ _ _; first | exact ea_nil | (apply ea_cons <;> walk_at "e1")) | (show Eo _ _ _ _ _ _; first | exact eo_none | (apply eo_some; walk_at "ev")) | (show Er _ _ _ _ _ _; exact er_nm rfl) | (show Ew _ _ _ _ _ _; walk_at "ew") | (intro _; walk_at "ev"))
section
variable {P : Program} {w : World} {K : PySem.W.Frag} {mg : Str → Option Value} {base : Heap}
theorem ed_gl {X : Cx} {σ : St} {G H : Hp} {pos : Pos} {x : Str} {i : Int} (hm : ∃ t, X.mg x = some (.int i t)) (hg : Gl X x := by rfl) (hd : (x == ("__debug__" : Str)) = false := by decide) : Ed X σ G H (.Name x pos) (.int i) := by
  obtain ⟨t, hm⟩ := hm
  exact ed_glob hm ⟨t, rfl⟩ hg hd
set_option maxHeartbeats 1000000 in
theorem ok_need_line (D : Df K mg "need_line" s_need_line) (B : Bt mg) (O1 : Own P w K mg base "is_in" 1 (spD R_is_in)) (O2 : Own P w K mg base "is_cells" 2 (spD R_is_cells)) : Own P w K mg base "need_line" 3 (spD R_need_line) := by
  refine Own.data D sc_need_line (fun _ _ _ _ _ _ us hl => match us, hl with | [_], _ => rfl) (fun ds d ⟨_, _, e, _⟩ => by rw [e]; rfl) ?_
  rintro f cdv A outer s H vs Q E hr G _ _ i0 hvs ⟨L, ok, rfl, rfl⟩ q
  obtain ⟨x1, rfl, h1⟩ := hvs.inv1
  unfold Ln.d at h1
  have hn1 := ok.one
  have hn2 := ok.most
  refine rb_cons (rs_skip ?_ i0 ?_)
  · apply Et.is
    · walk_at "ev"
    · simp [PyData.isTuple, PyData.isBool, PyData.eqv]
  intro G1 H1 g1
  refine rb_cons (rs_asg (d := .tuple [.tuple (dI L.c), .tuple (dN L.h), .bool L.r]) ?_ g1.i (bd_triple sc_need_line.nd) ?_)
  · walk_at "ev"
  rintro σ2 G2 H2 g2 ⟨v, u, t, rfl, hv, hu, ht⟩
  refine rb_cons (rs_setD (d := .int (if L.r = true then 3 else 1)) ?_ g2.i sc_need_line.nd ?_)
  · refine ed_ifI ?_ (ed_gl B.ring) ?_
    · walk_at "ev"
    · walk_at "ev"
  intro x G3 H3 g3 hx
  refine rb_cons (rs_skip ?_ g3.i ?_)
  · apply Et.is (b := !(PyData.tuple (dI L.c)).isTuple || !(decide ((if L.r = true then 3 else 1) ≤ ((dI L.c).length : Int)) && decide (((dI L.c).length : Int) ≤ 40)))
    · apply et_w
      apply ew_or
      · walk_at "ev"
      · intro _
        apply ew_or1
        apply et_not
        refine et_chain op_le op_le ?_ ?_ (ed_gl B.cells)
        · walk_at "ev"
        · walk_at "ev"
    · rw [dI_length]
      have h3 := ok.ring
      have e : ((L.c.length : Nat) : Int) = (L.n : Int) := rfl
      rw [e]
      by_cases hr : L.r = true
      · have := h3 hr
        rw [if_pos hr, decide_eq_true (show (3 : Int) ≤ (L.n : Int) by omega), decide_eq_true (show (L.n : Int) ≤ 40 by omega)]
        rfl
      · rw [if_neg hr, decide_eq_true (show (1 : Int) ≤ (L.n : Int) by omega), decide_eq_true (show (L.n : Int) ≤ 40 by omega)]
        rfl
  intro G4 H4 g4
  refine rb_cons (rs_for (es_enumT B.enum (ds := dI L.c) ?_) g4.i (fun n d hd => ?_) (S := fun n d => Sp2 5 6 (.int n) (.int (L.col n))) (fun n σ' G' H' => Grow G4 H4 G' H' ∧ ∃ o p, σ' = [some x1, some v, some u, some t, some x, o, p]) ?_ ?_ ?_)
  · walk_at "ev"
  · have hl := (List.getElem?_eq_some_iff.mp hd).1
    rw [enD_length, dI_length] at hl
    rw [enD_get (dI_get (Ln.get hl))] at hd
    cases hd
    exact bd_pair sc_need_line.nd
  · intro G5 H5 g5
    exact ⟨g5, none, none, rfl⟩
  · rintro n d σ1 G5 H5 G6 H6 σ2 hd s1 s2 ⟨gb, o, p, rfl⟩ g6 ⟨y, z, rfl, hy, hz⟩
    have hl := (List.getElem?_eq_some_iff.mp hd).1
    rw [enD_length, dI_length] at hl
    have hc := ok.cols (L.col n) (List.mem_of_getElem? (Ln.get hl))
    have hR : R_is_in [.int (L.col n), .int 0, .int 9] (.bool true) := ⟨_, 0, 9, rfl, by
      congr 1
      symm
      simp only [Bool.and_eq_true, decide_eq_true_eq]
      exact hc⟩
    refine rb_one (rs_skip (Et.is (b := !true) (et_not (et_val (ed_call O1 hr (ea_cons ?_ (ea_cons ?_ (ea_cons (ed_gl B.colour) ea_nil))) ⟨hR⟩))) rfl) g6.i ?_)
    · walk_at "ev"
    · walk_at "ev"
    · intro G7 H7 g7
      exact ⟨G7, g6.g.trans g7.g, g7.i, gb.trans (g6.trans g7), _, _, rfl⟩
  · rintro σ1 G5 H5 s1 s2 ⟨gb, o, p, rfl⟩
    have hR : R_is_cells [.int (L.n : Int), .tuple (dN L.h)] (.bool true) := ⟨L.n, L.h, hn2, ok.asc, ok.mem, rfl, rfl⟩
    have e : (L.n : Int) = ((dI L.c).length : Int) := by rw [dI_length]; rfl
    rw [e] at hR
    refine rb_one (rs_skip (Et.is (b := !true) ?_ rfl) s2 ?_)
    · walk_at "ev"
    · intro G6 H6 g6
      exact q _ G6 H6 (g1.trans (g2.trans (g3.trans (g4.trans (gb.trans g6))))) .non
set_option maxHeartbeats 1000000 in
theorem ok_need_prices (D : Df K mg "need_prices" s_need_prices) (B : Bt mg) (O1 : Own P w K mg base "is_in" 1 (spD R_is_in)) : Own P w K mg base "need_prices" 2 (spD R_need_prices) := by
  refine Own.data D sc_need_prices (fun _ _ _ _ _ _ us hl => match us, hl with | [_, _], _ => rfl) (fun ds d ⟨_, _, _, _, _, e, _⟩ => by rw [e]; rfl) ?_
  rintro f cdv A outer s H vs Q E hr G _ _ i0 hvs ⟨L, ps, hn, hl, hps, rfl, rfl⟩ q
  obtain ⟨x1, x2, rfl, h1, h2⟩ := hvs.inv2
  unfold Ln.d at h1
  refine rb_cons (rs_skip ?_ i0 ?_)
  · apply Et.is
    · walk_at "ev"
    · rw [PyData.eqv, dI_length, dI_length, hl]
      show (!PyData.isTuple (.tuple (dI ps)) || !(((L.n : Nat) : Int) == ((L.n : Nat) : Int))) = false
      simp [PyData.isTuple]
  intro G1 H1 g1
  have key : given (dI ps).length (fun _ => false) (fun i => (dI ps).getD i .none) = [] := by
    unfold given
    simp
  refine rb_one (rs_skip (Et.is (b := !PyData.eqv (.list []) (.list [])) (et_cmp (cm_ne hr (Ed.is (En.ed (en_lc1 (own := [("one", 2)]) (S := fun _ => Sn 2) (fun _ => false) (fun i => (dI ps).getD i .none) sc_need_prices.nd (es_tup (ds := dI ps) ?_) (blkOk_by (N := N_need_prices) (sc := defScope s_need_prices) (by decide +kernel)) (fun s0 H0 C cl fp i d hd => bd_name sc_need_prices.nd) ?_ ?_ ?_ ?_)) (by rw [key])) ?_ (by decide))) (by simp [PyData.eqv, PyData.eqvAll])) g1.i ?_)
  · walk_at "ev"
  · rintro i d G' σ2 ⟨v, rfl, _⟩
    rfl
  · rintro s0 H0 C cl fp i d σ2 G' H' g' hd ⟨v, rfl, hv⟩
    obtain ⟨k, hk, rfl⟩ := dI_get' hd
    have hk2 := hps k (List.mem_of_getElem? hk)
    have hR : R_is_in [.int k, .int 0, .int 1000] (.bool true) := ⟨k, 0, 1000, rfl, by
      congr 1
      symm
      simp only [Bool.and_eq_true, decide_eq_true_eq]
      exact hk2⟩
    refine Et.is (b := !true) (et_not (et_val (ed_call O1 hr (ea_cons ?_ (ea_cons ?_ (ea_cons (ed_gl B.price) ea_nil))) ⟨hR⟩))) rfl
    · walk_at "ev"
    · walk_at "ev"
  · rintro s0 H0 C cl fp i d σ2 G' H' g' hd hS e
    cases e
  · rw [dI_length, hl]; omega
  · walk_at "ev"
  · intro G2 H2 g2
    exact q _ G2 H2 (g1.trans g2) .non
set_option maxHeartbeats 1000000 in
theorem ok_need_resting (D : Df K mg "need_resting" s_need_resting) (B : Bt mg) (O1 : Own P w K mg base "need_line" 3 (spD R_need_line)) (O2 : Own P w K mg base "swings_in" 4 (spD R_swings_in)) : Own P w K mg base "need_resting" 5 (spD R_need_resting) := by
  refine Own.data D sc_need_resting (fun _ _ _ _ _ _ us hl => match us, hl with | [_], _ => rfl) (fun ds d ⟨_, _, _, e, _⟩ => by rw [e]; rfl) ?_
  rintro f cdv A outer s H vs Q E hr G _ _ i0 hvs ⟨L, ok, hs, rfl, rfl⟩ q
  obtain ⟨x1, rfl, h1⟩ := hvs.inv1
  have hR1 : R_need_line [L.d] .none := ⟨L, ok, rfl, rfl⟩
  have hR2 : R_swings_in [L.d] (.bool L.swings) := ⟨L, ok, rfl, rfl⟩
  refine rb_cons (rs_expr (Ed.ev (d := .none) ?_ i0) ?_)
  · walk_at "ev"
  intro _ G1 H1 g1 _
  refine rb_one (rs_skip (Et.is (b := L.swings) ?_ hs) g1.i ?_)
  · walk_at "ev"
  · intro G2 H2 g2
    exact q _ G2 H2 (g1.trans g2) .non
end
end Fk
end
section
set_option linter.all false
/-! Ma2: stretches, marks: what the program computes, in plain words. -/
namespace Fk
namespace Ln
/-- the walk to the right that begins left of s -/
def it (L : Ln) (s : Nat) : Nat → Nat
  | 0 => L.lf s
  | i + 1 => L.rt (it L s i)
/-- the first place from 1 on whose cell is not ready -/
def en (L : Ln) (s : Nat) : Nat := ((List.range' 1 L.n).find? fun i => !L.rdy (L.it s i)).getD L.n
def stretch (L : Ln) (s : Nat) : List Nat := (List.range (L.en s + 1)).map (L.it s)
def starts (L : Ln) : List Nat := L.ready.filter fun k => !L.rdy (L.lf k)
theorem it_lt {L : Ln} (h : 1 ≤ L.n) (s i : Nat) : L.it s i < L.n := by
  cases i with
  | zero => exact lf_lt h s
  | succ i => exact rt_lt h _
theorem rt_lf {L : Ln} {k : Nat} (h : k < L.n) : L.rt (L.lf k) = k := by
  by_cases h0 : k = 0
  · subst h0
    rw [lf_zero (by omega), rt_last (by omega)]
  · rw [lf_pos (by omega) h, rt_lo (by omega)]
    omega
theorem lf_rt {L : Ln} {k : Nat} (h : k < L.n) : L.lf (L.rt k) = k := by
  by_cases h0 : k + 1 = L.n
  · have e : k = L.n - 1 := by omega
    rw [e, rt_last (by omega), lf_zero (by omega)]
  · rw [rt_lo (by omega), lf_pos (by omega) (by omega)]
    omega
theorem it_one {L : Ln} {s : Nat} (h : s < L.n) : L.it s 1 = s := rt_lf h
theorem it_add {L : Ln} (h : 1 ≤ L.n) (s i : Nat) : L.it s i = (L.lf s + i) % L.n := by
  induction i with
  | zero => exact (Nat.mod_eq_of_lt (lf_lt h s)).symm
  | succ i ih =>
    show L.rt (L.it s i) = _
    rw [ih]
    unfold rt
    rw [Nat.mod_add_mod]
    rfl
theorem it_n {L : Ln} (h : 1 ≤ L.n) (s : Nat) : L.it s L.n = L.lf s := by
  rw [it_add h, Nat.add_mod_right]
  exact Nat.mod_eq_of_lt (lf_lt h s)
theorem mem_ready {L : Ln} {k : Nat} : k ∈ L.ready ↔ k < L.n ∧ L.rdy k = true := by
  unfold ready
  rw [List.mem_filter, List.mem_range]
theorem mem_starts {L : Ln} {k : Nat} : k ∈ L.starts ↔ k < L.n ∧ L.rdy k = true ∧ L.rdy (L.lf k) = false := by
  unfold starts
  rw [List.mem_filter, mem_ready]
  simp [and_assoc]
theorem en_spec {L : Ln} {s : Nat} (hs : s ∈ L.starts) : 2 ≤ L.en s ∧ L.en s ≤ L.n ∧ L.rdy (L.it s (L.en s)) = false ∧ ∀ i, 1 ≤ i → i < L.en s → L.rdy (L.it s i) = true := by
  obtain ⟨h1, h2, h3⟩ := mem_starts.mp hs
  have hn : 1 ≤ L.n := by omega
  have hp : ∃ i, i ∈ List.range' 1 L.n ∧ (!L.rdy (L.it s i)) = true := ⟨L.n, List.mem_range'_1.mpr ⟨hn, by omega⟩, by rw [it_n hn, h3]; rfl⟩
  unfold en
  cases hf : (List.range' 1 L.n).find? fun i => !L.rdy (L.it s i) with
  | none =>
    obtain ⟨i, hi, hq⟩ := hp
    exact absurd hq (List.find?_eq_none.mp hf i hi)
  | some e =>
    have he := List.find?_some hf
    have hm := List.mem_of_find?_eq_some hf
    have hb := List.find?_eq_some_iff_append.mp hf
    rw [List.mem_range'_1] at hm
    have e1 : L.rdy (L.it s e) = false := by simpa using he
    have pre : ∀ i, 1 ≤ i → i < e → L.rdy (L.it s i) = true := by
      intro i hi1 hi2
      obtain ⟨_, as, bs, hab, hall⟩ := hb
      have hlen : as.length = e - 1 := by
        have h4 : (List.range' 1 L.n)[as.length]? = some e := by rw [hab]; simp
        rw [List.getElem?_range' (by have := congrArg List.length hab; simp at this; omega)] at h4
        have := Option.some.inj h4
        omega
      have h5 : (List.range' 1 L.n)[i - 1]? = some i := by
        rw [List.getElem?_range' (by omega)]
        congr 1
        omega
      rw [hab, List.getElem?_append_left (by omega)] at h5
      have := hall i (List.mem_of_getElem? h5)
      simpa using this
    refine ⟨?_, by show e ≤ L.n; omega, e1, pre⟩
    show 2 ≤ e
    have : e ≠ 1 := fun q => by
      rw [q, it_one h1, h2] at e1
      cases e1
    omega
theorem stretch_len {L : Ln} {s : Nat} : (L.stretch s).length = L.en s + 1 := by simp [stretch]
theorem stretch_get {L : Ln} {s i : Nat} (h : i ≤ L.en s) : (L.stretch s)[i]? = some (L.it s i) := by
  unfold stretch
  rw [List.getElem?_map, List.getElem?_range (by omega)]
  rfl
end Ln
end Fk
end
section
set_option Elab.async false
set_option linter.all false
set_option maxRecDepth 100000
set_option maxHeartbeats 4000000
/-! Ru3: frozen dicts, sorted and min of data, sorted keys. -/
namespace Fk
open PySem PySem.Spec L2
open PyProof.Rows hiding St

/-! ### what is locked for good -/
section
variable {X : Cx} {σ : St} {H : Hp} {e : Expr} {st : Stmt} {sts : List Stmt} {D : Ends} {Q : VK} {d : Addr} {u : HO}
theorem re_frz (hd : H d = some u) (mu : Mut (some u)) (h : ∀ od, RE X e σ (upd H d (.frz od u)) Q) : RE X e σ H Q := fun pins s I => let ⟨od, I1⟩ := I.lock hd mu; h od pins s I1
theorem rs_frz (hd : H d = some u) (mu : Mut (some u)) (h : ∀ od, RS X st D σ (upd H d (.frz od u))) : RS X st D σ H := fun pins s I => let ⟨od, I1⟩ := I.lock hd mu; h od pins s I1
theorem rb_frz (hd : H d = some u) (mu : Mut (some u)) (h : ∀ od, RB X sts D σ (upd H d (.frz od u))) : RB X sts D σ H := fun pins s I => let ⟨od, I1⟩ := I.lock hd mu; h od pins s I1
end
theorem Grow.fix {G H G1 H1 : Hp} {d : Addr} {o : HO} (g : Grow G H G1 H1) (h0 : H d = none) (h1 : G1 d = none) : Grow G H (upd G1 d o) (upd H1 d o) :=
  ⟨g.g.trans (same_new h1), fun a u e => by rw [upd_ne (ne_of_none e h0)]; exact g.h a u e, same_both g.i, fun a u k1 k2 k3 => by rw [upd_ne (ne_of_none k2 h0)]; exact g.n a u k1 k2 k3⟩
/-- a tuple that is there goes over to what never changes -/
theorem Grow.tup {G H : Hp} {q : Addr} {xs : List V} (i : Same G H) (h : H q = some (.tup xs)) : Grow G H (upd G q (.tup xs)) H :=
  ⟨fun a u e => by
    by_cases z : a = q
    · subst z; rw [i a u e] at h; rw [upd_same]; exact h.symm
    · rw [upd_ne z]; exact e, .refl _, same_fix i h, fun a u k1 k2 k3 => by
    by_cases z : a = q
    · subst z; rw [h] at k2; cases k2; exact absurd rfl (k3 xs)
    · rw [upd_ne z]; exact k1⟩

/-! ### item by item -/
section
variable {G : Hp} {xs : List V} {us : List Value} {ds : List PyData}
def RD (G : Hp) : Value → PyData → Prop := fun u b => ∃ v, RelV v u ∧ Da G v b
theorem each_of : ∀ {xs : List V} {us : List Value} {ds : List PyData}, Vals xs us → DaAll G xs ds → PySem.W.EachIs (RD G) us ds
  | _, _, [], r, h => by cases h.inv_nil; cases r; exact .nil
  | _, _, d :: ds, r, h => by
    obtain ⟨v, vs, rfl, h1, h2⟩ := h.inv_cons
    cases r with
    | cons r1 r2 => exact .cons ⟨v, r1, h1⟩ (each_of r2 h2)
theorem each_da : ∀ {us : List Value} {ds : List PyData}, PySem.W.EachIs (RD G) us ds → ∃ xs, Vals xs us ∧ DaAll G xs ds
  | _, _, .nil => ⟨[], .nil, .nil⟩
  | _, _, .cons ⟨v, r1, h1⟩ t => let ⟨vs, r2, h2⟩ := each_da t; ⟨v :: vs, .cons r1 r2, .cons h1 h2⟩
theorem each_at {α β : Type} {R : α → β → Prop} : ∀ {as : List α} {bs : List β}, as.length = bs.length → (∀ (i : Nat) a b, as[i]? = some a → bs[i]? = some b → R a b) → PySem.W.EachIs R as bs
  | [], [], _, _ => .nil
  | [], _ :: _, h, _ => absurd h (by simp)
  | _ :: _, [], h, _ => absurd h (by simp)
  | a :: as, b :: bs, h, f => .cons (f 0 a b rfl rfl) (each_at (by simpa using h) fun i x y h1 h2 => f (i + 1) x y (by simpa using h1) (by simpa using h2))
end

/-! ### sorted(list of data) -/
section
variable {X : Cx}
def rSortD (X : Cx) : List V → Hp → VK → Prop := fun vs H Q => ∃ G ds v, vs = [v] ∧ Same G H ∧ Da G v (.list ds) ∧ PySem.W.AllAlike ds ∧ PySem.W.Sortable ds ∧ ds.length ≤ sizeLine ∧ (∀ d ∈ ds, X.A.units + 2 + d.depth < cLine) ∧
  ∀ p xs, H p = none → DaAll G xs (ds.mergeSort (PySem.W.dataLe false id)) → Q (.ref p) (upd H p (.lst xs))
theorem cr_sortedD : CallR X (.builtin "sorted") (rSortD X) := by
  intro pins s σ H xs us Q I r h
  obtain ⟨G, ds, v, rfl, g, dv, hal, hk, hL, hu, q⟩ := h
  obtain ⟨l, xs, rfl, hl, hx⟩ := dv.inv_lst
  obtain ⟨u, rfl, ru⟩ := r.one
  cases (show u = Value.ref l from ru)
  obtain ⟨its, rv, pl, hz⟩ := I.list (.of (g _ _ hl))
  have e := each_of rv hx
  refine PySem.W.sorted_data (bs := ds) (enc := id) (R := RD G) (vs := its) pl.isList e (e.mono fun u b ⟨v, r, d⟩ => d.reads g I r) (by rw [List.map_id]; exact hal) (by rw [List.map_id]; exact hk) hL hu fun out ho eo => ?_
  obtain ⟨ys, ry, dy⟩ := each_da eo
  obtain ⟨c, hc⟩ := PyProof.Rows.sortedAll_at s.heap its out.toArray
  have hlen : ys.length ≤ sizeLine := by rw [dy.len, List.length_mergeSort]; exact hL
  exact ⟨.ref (s.heap.objs.size + 1), upd H (s.heap.objs.size + 1) (.lst ys), I.laid (t' := s.toks) (fun b u e => PyProof.Rows.sortedAll_old e) (Nat.le_succ _) (show ObjOk X.prog X.w _ _ _ (.lst ys) from ⟨hlen, out, c, ry, hc⟩), rfl, q _ ys (I.hok.fresh (Nat.le_succ _)) dy⟩
/-! ### min(list of data) -/
theorem minD_mem (x : PyData) (xs : List PyData) : PySem.W.minD x xs ∈ x :: xs := by
  unfold PySem.W.minD
  induction xs generalizing x with
  | nil => simp
  | cons y ys ih =>
    rw [List.foldl_cons]
    have h := ih (if PySem.W.dataLt y x then y else x)
    rcases List.mem_cons.mp h with h | h
    · rw [h]
      split <;> simp
    · exact List.mem_cons_of_mem _ (List.mem_cons_of_mem _ h)
theorem each_get {α β : Type} {R : α → β → Prop} : ∀ {as : List α} {bs : List β}, PySem.W.EachIs R as bs → ∀ (i : Nat) a, as[i]? = some a → ∃ b, bs[i]? = some b ∧ R a b
  | _, _, .nil, i, a, h => by simp at h
  | _, _, .cons r t, 0, a, h => by simp at h; subst h; exact ⟨_, rfl, r⟩
  | _, _, .cons r t, i + 1, a, h => by simpa using each_get t i a (by simpa using h)
def rMinD (X : Cx) : List V → Hp → VK → Prop := fun vs H Q => ∃ G d ds v, vs = [v] ∧ Same G H ∧ Da G v (.list (d :: ds)) ∧ PySem.W.AlikeAll (d :: ds) ∧ X.A.units + 1 + PyData.depthAll (d :: ds) < cLine ∧
  ∀ w : V, Da G w (PySem.W.minD d ds) → Q w H
theorem cr_minD (hc : X.calm = true) : CallR X (.builtin "min") (rMinD X) := by
  intro pins s σ H xs us Q I r h
  obtain ⟨G, d, ds, v, rfl, g, dv, hal, hu, q⟩ := h
  obtain ⟨l, xs, rfl, hl, hx⟩ := dv.inv_lst
  obtain ⟨u, rfl, ru⟩ := r.one
  cases (show u = Value.ref l from ru)
  obtain ⟨its, rv, pl, hz⟩ := I.list (.of (g _ _ hl))
  have e := each_of rv hx
  obtain ⟨as, ra⟩ := PySem.W.each_readsAll (h := s.heap) id (bs := d :: ds) (e.mono fun u b ⟨v, r, d⟩ => d.reads g I r)
  rw [List.map_id] at ra
  refine PySem.W.min_list_data (I.ok.hd hc) pl.isList ra hal hu fun i y h' tk bs hi hr hk => ?_
  obtain ⟨b, hb, w, rw', dw⟩ := each_get e i y (by simpa using hi)
  have I1 : Inv X pins σ H { s with heap := h', toks := tk } := I.kept hk
  obtain ⟨as', r2⟩ := dw.reads g I1 rw'
  have eb : b = PySem.W.minD d ds := PySem.W.alike_unique _ _ _ _ _ (hal.1 _ (List.mem_of_getElem? hb) _ (minD_mem d ds)) r2 hr
  rw [eb] at dw
  exact ⟨w, H, I1, rw', q w dw⟩
end
section
variable {X : Cx} {σ : St} {G H : Hp} {a : Expr} {p p2 pos pos2 : Pos}
theorem ed_sortedD {k : Nat} {ds : List PyData} (hm : X.mg "sorted" = none) (hr : Room k X.A) (ha : Ed X σ G H a (.list ds)) (hal : PySem.W.AllAlike ds) (hk : PySem.W.Sortable ds) (hL : ds.length ≤ sizeLine) (hd : ∀ d ∈ ds, d.depth ≤ 60) (hg : Gl X "sorted" := by rfl)
    (hs : starEach [a] X.env = (false, eval a X.env) :: starEach [] X.env := by rfl) (hpl : (backTo pos (starEach [] X.env)).any (·.1) = false := by rfl) : Ed X σ G H (.Call (.Name "sorted" p) [a] [] pos) (.list (ds.mergeSort (PySem.W.dataLe false id))) :=
  ⟨fun G1 H1 g Q q => re_of (pe_callB cr_sortedD hg hm (by decide +kernel) (pa_cons pe_self pa_nil hs) (by decide) (by decide) hs hpl) (ha.run G1 H1 g _ fun v G2 H2 g2 dv =>
    ⟨G2, ds, v, rfl, g2.i, dv, hal, hk, hL, fun d hd' => by have := hd d hd'; have := hr.un; omega, fun p xs hp hx => q _ _ _ (g2.trans (.new g2.i hp)) (DaAll.lst upd_same (hx.mono (same_new (g2.i.free hp))))⟩)⟩
theorem ed_minD {k : Nat} {d : PyData} {ds : List PyData} (hm : X.mg "min" = none) (hr : Room k X.A) (ha : Ed X σ G H a (.list (d :: ds))) (hal : PySem.W.AlikeAll (d :: ds)) (hd : PyData.depthAll (d :: ds) ≤ 60) (hc : X.calm = true := by rfl) (hg : Gl X "min" := by rfl)
    (hs : starEach [a] X.env = (false, eval a X.env) :: starEach [] X.env := by rfl) (hpl : (backTo pos (starEach [] X.env)).any (·.1) = false := by rfl) : Ed X σ G H (.Call (.Name "min" p) [a] [] pos) (PySem.W.minD d ds) :=
  ⟨fun G1 H1 g Q q => re_of (pe_callB (cr_minD hc) hg hm (by decide +kernel) (pa_cons pe_self pa_nil hs) (by decide) (by decide) hs hpl) (ha.run G1 H1 g _ fun v G2 H2 g2 dv =>
    ⟨G2, d, ds, v, rfl, g2.i, dv, hal, by have := hr.un; omega, fun w dw => q w G2 H2 g2 dw⟩)⟩
end

/-! ### d.keys(), sorted -/
def keysO (p d : Addr) : HO := .ext fun h => PySem.W.KdlKeysView h p d
theorem keysO_ok {P : Program} {w : World} {H : Hp} {h : Heap} {p d : Addr} (e : h.get? p = some { cls := .type "dict_keys", data := .fields #[.ref d] }) : ObjOk P w H h p (keysO p d) :=
  ⟨⟨_, e, rfl, rfl⟩, ⟨_, e⟩, fun h1 h2 x k => let ⟨o, ho, r⟩ := x; ⟨o, k o ho, r⟩⟩
def IsDc (H : Hp) (a : Addr) : Prop := (∃ kvs, H a = some (.dK kvs)) ∨ ∃ kvs, H a = some (.dT kvs)
def rKeysV : V → List V → Hp → VK → Prop := fun x xs H Q => ∃ a, x = .ref a ∧ xs = [] ∧ IsDc H a ∧ ∀ p, H p = none → Q (.ref p) (upd H p (keysO p a))
section
variable {X : Cx}
theorem isDc_raw {pins : List (Addr × Obj)} {σ : St} {H : Hp} {s : Shared} {a : Addr} (I : Inv X pins σ H s) (d : IsDc H a) : (a == sysModules) = false ∧ ∃ es ep, s.heap.DictRaw a es ep := by
  rcases d with ⟨kvs, h⟩ | ⟨kvs, h⟩
  · obtain ⟨z, y, vs, r, o, es, ep, h1, h2, h3, h4⟩ := (show ObjOk X.prog X.w H s.heap a (.dK kvs) from I.hok a _ h)
    exact ⟨y, es, ep, o, h1, h2, h3⟩
  · obtain ⟨z, y, xs, r, o, es, ep, h1, h2, h3, h4, h5⟩ := (show ObjOk X.prog X.w H s.heap a (.dT kvs) from I.hok a _ h)
    exact ⟨y, es, ep, o, h1, h2, h3⟩
theorem mt_keys : MtR X "dict.keys" rKeysV := by
  intro pins s σ H x xs v us Q I rx rxs h
  obtain ⟨a, rfl, rfl, hd, q⟩ := h
  cases rx
  cases rxs
  obtain ⟨y, es, ep, hr⟩ := isDc_raw I hd
  refine call_meetsIn PySem.F.slot_dict_keys hr.typeIs PySem.F.entry_dict_keys (PySem.F.args_dict_keys_1 _) (meets_dict_keys_raw a y) ⟨⟨es, ep, hr⟩, ?_⟩
  exact ⟨.ref s.heap.objs.size, upd H s.heap.objs.size (keysO s.heap.objs.size a), I.laid (t' := s.toks) (fun b u e => Heap.get?_push_of_some _ e) (Nat.le_refl _) (keysO_ok (Heap.get?_push_size _ rfl)), rfl, q _ (I.hok.fresh (Nat.le_refl _))⟩
end
/-- sorted of a view of keys, each known by what it stands for -/
theorem sorted_src {P : Program} {w : World} {A : Around} {E : Value → Shared → Prop} {s : Shared} {r a : Addr} {T : String} {n : Nat} {Pr : Nat → Value → Prop} {OK : Heap → Prop} {bs : List PyData} {R : Value → PyData → Prop} {Q : Value → Shared → Prop}
    (src : PySem.W.KdlSrc P w T r a n Pr OK) (hh : A.handled = none) (hok : OK s.heap) (hl : n = bs.length) (hz : bs.length ≤ sizeLine) (hR : ∀ (i : Nat) v b, Pr i v → bs[i]? = some b → R v b)
    (hrd : ∀ h' : Heap, (∀ b o, s.heap.get? b = some o → h'.get? b = some o) → ∀ u b, R u b → ∃ as, Reads h' u b as) (hal : PySem.W.AllAlike bs) (hk : PySem.W.Sortable bs) (hu : ∀ d ∈ bs, A.units + 2 + d.depth < cLine)
    (k : ∀ (h1 h2 : Heap) (tk : Nat) (out : List Value) (c : Nat), (∀ b o, s.heap.get? b = some o → h1.get? b = some o) → (∀ b o, h1.get? b = some o → h2.get? b = some o) → PySem.W.EachIs R out (bs.mergeSort (PySem.W.dataLe false id)) →
      h2.get? h1.objs.size = some (seqObj "list" out.toArray c) → Q (.ref h1.objs.size) { s with heap := h2, toks := tk }) :
    wpAny (model P w) A (call (.builtin "sorted") [.ref r]) Q E s := by
  refine Calls.call_function_entry PyProof.Rows.kind_sorted PyProof.Rows.plain_sorted PyProof.Rows.entry_sorted (PyProof.Rows.args_sorted1 _) ?_
  unfold Builtin.«sorted»
  refine wpAny_bind (m := checkCount "sorted" 1 1 _) (wpAny_pure ?_)
  refine wpAny_bind (PySem.W.kdu_collect (A := A.in1) src hh hok (by rw [hl]; exact hz) fun h' tk acc hk' hacc => ?_)
  have hla : acc.toList.length = bs.length := by rw [Array.length_toList, hacc.1, hl]
  have ea : PySem.W.EachIs R acc.toList bs := each_at hla fun i u b h1 h2 => by
    exact hR i u b (hacc.2 i u (by rw [← Array.getElem?_toList]; exact h1)) h2
  refine wpAny_bind (wpAny_newList ?_ (by rw [hla]; exact hz))
  have hoL : (h'.push (seqObj "list" acc.toList.toArray 0)).get? h'.objs.size = some (seqObj "list" acc.toList.toArray 0) := Heap.get?_push_size _ rfl
  have old : ∀ b o, h'.get? b = some o → b ≠ h'.objs.size ∧ (h'.push (seqObj "list" acc.toList.toArray 0)).get? b = some o := fun b o e => ⟨Nat.ne_of_lt (Heap.lt_size e), Heap.get?_push_of_some _ e⟩
  have er : PySem.W.EachIs (fun v d => ∃ as, Reads (PySem.W.sortingHeap (h'.push (seqObj "list" acc.toList.toArray 0)) h'.objs.size acc.toList) v (id d) as) acc.toList bs :=
    ea.mono fun u b x => hrd _ (fun b o e => PySem.W.sortingHeap_old (old b o (hk' b o e)).1 (old b o (hk' b o e)).2) u b x
  have S := PySem.W.SortsAt.data (prog := P) (w := w) (A := A.in1.in1) (s := { s with heap := PySem.W.sortingHeap (h'.push (seqObj "list" acc.toList.toArray 0)) h'.objs.size acc.toList, toks := tk }) (ds := bs) er hal hk (fun d hd => by show A.units + 1 + 1 + d.depth < cLine; exact hu d hd)
  refine wpAny_bind (wpAny_holding (wpAny_call_entry (s := { s with heap := h'.push (seqObj "list" acc.toList.toArray 0), toks := tk }) PyProof.Rows.slot_list_sort ⟨_, hoL, rfl⟩ PyProof.Rows.entry_list_sort
    (PySem.W.list_sort_vals (s := { s with heap := h'.push (seqObj "list" acc.toList.toArray 0), toks := tk }) hoL S (by rw [hla]; exact hz) ⟨.none, rfl, ?_⟩) (PyProof.Rows.args_list_sort _)))
  obtain ⟨c, hc⟩ := PyProof.Rows.sortedHeap_at (vs := acc.toList) (out := (PySem.W.sortVals (PySem.W.dataKind (PySem.W.sortingHeap (h'.push (seqObj "list" acc.toList.toArray 0)) h'.objs.size acc.toList) bs) false acc.toList acc.toList).toArray) hoL
  refine wpAny_pure ⟨_, rfl, k h' _ tk _ c hk' (fun b o e => ?_) ?_ hc⟩
  · rw [PyProof.Rows.sortedHeap_old (old b o e).1 (Heap.lt_size (old b o e).2)]
    exact (old b o e).2
  · have := PySem.W.sortVals_data (enc := id) false ea er (by rw [List.map_id]; exact hal)
    rw [List.map_id] at this
    exact this

/-! ### keys as data -/
def tk (k : List Int) : List L2.Key := k.map Sum.inl
theorem tk_kV (k : List Int) : (tk k).map kV = k.map V.int := by
  unfold tk
  rw [List.map_map]
  rfl
theorem tk_inj {j k : List Int} (e : tk j = tk k) : j = k := by
  have h := congrArg (List.map kV) e
  rw [tk_kV, tk_kV] at h
  exact (List.map_inj_right (f := V.int) (fun a b e => by cases e; rfl)).mp h
/-- the tuples of a heap -/
def Tp (H : Hp) : Hp := fun a => match H a with
  | some (.tup xs) => some (.tup xs)
  | _ => none
/-- all tuples go over to what never changes -/
def Gt (G H : Hp) : Hp := fun a => match H a with
  | some (.tup xs) => some (.tup xs)
  | _ => G a
section
variable {G H : Hp} {q : Addr} {xs : List V} {o : HO}
theorem Tp.at' (h : H q = some (.tup xs)) : Tp H q = some (.tup xs) := by unfold Tp; rw [h]
theorem Tp.inv (h : Tp H q = some o) : ∃ xs, o = .tup xs ∧ H q = some (.tup xs) := by
  unfold Tp at h
  split at h
  · rename_i xs e
    exact ⟨xs, (Option.some.inj h).symm, e⟩
  · cases h
theorem Tp.same : Same (Tp H) H := fun a u e => by obtain ⟨xs, rfl, h⟩ := Tp.inv e; exact h
theorem Tp.gt : Same (Tp H) (Gt G H) := fun a u e => by obtain ⟨xs, rfl, h⟩ := Tp.inv e; unfold Gt; rw [h]
theorem Grow.gt (i : Same G H) : Grow G H (Gt G H) H := by
  refine ⟨fun a u e => ?_, .refl _, fun a u e => ?_, fun a u k1 k2 k3 => ?_⟩
  · have h := i a u e
    unfold Gt
    split
    · rename_i xs z
      rw [h] at z
      exact z.symm
    · exact e
  · unfold Gt at e
    split at e
    · rename_i xs z
      rw [z]; exact e
    · exact i a u e
  · unfold Gt
    split
    · rename_i xs z
      rw [k2] at z
      cases z
      exact absurd rfl (k3 xs)
    · exact k1
end
def kyD (k : List Int) : PyData := .tuple (dI k)
theorem dI_ne {k : List Int} (h : k ≠ []) : ∃ x r, kyD k = .tuple (x :: r) := by
  cases k with
  | nil => exact absurd rfl h
  | cons x r => exact ⟨.int x, dI r, rfl⟩
theorem alike_ky (j k : List Int) : PySem.W.alike (kyD j) (kyD k) = true := by
  unfold kyD dI
  rw [PySem.W.alike]
  exact PySem.W.alike_ints j k
theorem alikeAll_ky (ks : List (List Int)) : PySem.W.AllAlike (ks.map kyD) := PySem.W.AllAlike.of alike_ky
theorem depth_ky (k : List Int) : (kyD k).depth = 1 := by
  unfold kyD
  rw [PyData.depth, depthAll_dI]
def rSortKT (X : Cx) : List V → Hp → VK → Prop := fun vs H Q => ∃ p a kvs, ∃ ks : List (List Int), vs = [.ref p] ∧ H p = some (keysO p a) ∧ H a = some (.dT kvs) ∧ kvs.map (·.1) = ks.map tk ∧ (∀ k ∈ ks, k ≠ []) ∧ X.A.units + 3 < cLine ∧
  ∀ l xs, H l = none → DaAll (Tp H) xs ((ks.map kyD).mergeSort (PySem.W.dataLe false id)) → Q (.ref l) (upd H l (.lst xs))
theorem cr_sortKT {X : Cx} (hc : X.calm = true) : CallR X (.builtin "sorted") (rSortKT X) := by
  intro pins s σ H xs us Q I r h
  obtain ⟨p, a, kvs, ks, rfl, hp, ha, hks, hne, hu, q⟩ := h
  obtain ⟨u, rfl, ru⟩ := r.one
  cases (show u = Value.ref p from ru)
  have view : PySem.W.KdlKeysView s.heap p a := (show ObjOk X.prog X.w H s.heap p (keysO p a) from I.hok p _ hp).1
  obtain ⟨z, y, es', rel, o, es, ep, h1, h2, h3, h4, h5⟩ := (show ObjOk X.prog X.w H s.heap a (.dT kvs) from I.hok a _ ha)
  have l1 : kvs.length = es'.length := Paired.length rel
  have l2 : kvs.length = ks.length := by
    have := congrArg List.length hks
    simpa using this
  have l3 : es.size = es'.length := by
    rw [← Array.length_toList, h4, List.length_map]
  have hL : (ks.map kyD).length ≤ sizeLine := by rw [List.length_map, ← l2]; exact z
  refine sorted_src (bs := ks.map kyD) (R := RD (Tp H)) (KdlSrc.rawKeys (r := p) (d := a) (es := es) (ep := ep)) (I.ok.hd hc) ⟨view, o, h1, h2, h3⟩ (by rw [List.length_map]; omega) hL (fun i v b hv hb => ?_) (fun h' hk' u b hr => ?_) (alikeAll_ky ks) ?_ (fun d hd => ?_) fun k1 k2 tk' out c f1 f2 eo hget => ?_
  · obtain ⟨hi, rfl⟩ := hv
    rw [List.getElem?_map] at hb
    cases hki : ks[i]? with
    | none => rw [hki] at hb; cases hb
    | some k =>
      rw [hki] at hb
      cases hb
      have hkv : i < kvs.length := by omega
      obtain ⟨en, e1, e2, e3, e4⟩ := L2.paired_get rel (List.getElem?_eq_getElem hkv)
      have e5 : (kvs.map (·.1))[i]? = some (kvs[i]).1 := by rw [List.getElem?_map, List.getElem?_eq_getElem hkv]; rfl
      rw [hks, List.getElem?_map, hki] at e5
      have e6 : tk k = (kvs[i]).1 := Option.some.inj e5
      have e7 : es.toList[i]? = some es[i] := by rw [Array.getElem?_toList]; exact Array.getElem?_eq_getElem hi
      rw [h4, List.getElem?_map, e1] at e7
      have e8 := Option.some.inj e7
      rw [← e8]
      refine ⟨.ref en.2.1, rfl, DaAll.tup (Tp.at' ?_) (DaAll.ints k)⟩
      rw [← e6, tk_kV] at e3
      exact e3
  · obtain ⟨v, r, d⟩ := hr
    exact d.reads Tp.same (I.kept (t' := s.toks) hk') r
  · refine .inl fun d hd => ?_
    obtain ⟨k, hk, rfl⟩ := List.mem_map.mp hd
    exact dI_ne (hne k hk)
  · obtain ⟨k, hk, rfl⟩ := List.mem_map.mp hd
    rw [depth_ky]
    omega
  · obtain ⟨ys, ry, dy⟩ := each_da eo
    have I1 : Inv X pins σ H { s with heap := k1, toks := tk' } := I.kept f1
    have hlen : ys.length ≤ sizeLine := by rw [dy.len, List.length_mergeSort]; exact hL
    exact ⟨.ref k1.objs.size, upd H k1.objs.size (.lst ys), I1.laid (t' := tk') f2 (Nat.le_refl _) (show ObjOk X.prog X.w _ _ _ (.lst ys) from ⟨hlen, out, c, ry, hget⟩), rfl, q _ ys (I1.hok.fresh (Nat.le_refl _)) dy⟩
def rSortKI (X : Cx) : List V → Hp → VK → Prop := fun vs H Q => ∃ p a kvs, ∃ ks : List Int, vs = [.ref p] ∧ H p = some (keysO p a) ∧ H a = some (.dK kvs) ∧ kvs.map (·.1) = ks.map Sum.inl ∧ X.A.units + 3 < cLine ∧
  ∀ l xs, H l = none → DaAll (Tp H) xs ((dI ks).mergeSort (PySem.W.dataLe false id)) → Q (.ref l) (upd H l (.lst xs))
theorem cr_sortKI {X : Cx} (hc : X.calm = true) : CallR X (.builtin "sorted") (rSortKI X) := by
  intro pins s σ H xs us Q I r h
  obtain ⟨p, a, kvs, ks, rfl, hp, ha, hks, hu, q⟩ := h
  obtain ⟨u, rfl, ru⟩ := r.one
  cases (show u = Value.ref p from ru)
  have view : PySem.W.KdlKeysView s.heap p a := (show ObjOk X.prog X.w H s.heap p (keysO p a) from I.hok p _ hp).1
  obtain ⟨z, y, vs, rel, dd⟩ := (show ObjOk X.prog X.w H s.heap a (.dK kvs) from I.hok a _ ha)
  obtain ⟨ep, hat⟩ := dd.dictAt
  have l1 : kvs.length = vs.length := Paired.length rel
  have hkeys : vs.map (·.1) = ks.map Sum.inl := rel.keys.symm.trans hks
  have l2 : vs.length = ks.length := by
    have := congrArg List.length hkeys
    simpa using this
  have hL : (dI ks).length ≤ sizeLine := by rw [dI_length, ← l2, ← l1]; exact z
  refine sorted_src (bs := dI ks) (R := RD (Tp H)) (PySem.W.kdl_keys (r := p) (d := a) (knd := mixKind X.prog X.w) (kvs := vs) (ep := ep)) (I.ok.hd hc) ⟨view, hat⟩ (by rw [dI_length]; exact l2) hL (fun i v b hv hb => ?_) (fun h' hk' u b hr => ?_) ?_ ?_ (fun d hd => ?_) fun k1 k2 tk' out c f1 f2 eo hget => ?_
  · obtain ⟨k, x, e1, e2⟩ := hv
    have e3 : (vs.map (·.1))[i]? = some k := by rw [List.getElem?_map, e1]; rfl
    rw [hkeys, List.getElem?_map] at e3
    unfold dI at hb
    rw [List.getElem?_map] at hb
    cases e4 : ks[i]? with
    | none => rw [e4] at e3; cases e3
    | some j =>
      rw [e4] at e3 hb
      cases e3
      cases hb
      exact ⟨.int j, L2.relV_key (show keyIs (Sum.inl j) v = true from e2), .int j⟩
  · obtain ⟨v, r, d⟩ := hr
    exact d.reads Tp.same (I.kept (t' := s.toks) hk') r
  · exact PySem.W.AllAlike.of (enc := PyData.int) fun a b => by rw [PySem.W.alike]
  · exact PySem.W.Sortable.others (enc := PyData.int) fun a => ⟨nofun, nofun⟩
  · unfold dI at hd
    obtain ⟨k, hk, rfl⟩ := List.mem_map.mp hd
    rw [PyData.depth]
    omega
  · obtain ⟨ys, ry, dy⟩ := each_da eo
    have I1 : Inv X pins σ H { s with heap := k1, toks := tk' } := I.kept f1
    have hlen : ys.length ≤ sizeLine := by rw [dy.len, List.length_mergeSort]; exact hL
    exact ⟨.ref k1.objs.size, upd H k1.objs.size (.lst ys), I1.laid (t' := tk') f2 (Nat.le_refl _) (show ObjOk X.prog X.w _ _ _ (.lst ys) from ⟨hlen, out, c, ry, hget⟩), rfl, q _ ys (I1.hok.fresh (Nat.le_refl _)) dy⟩
section
variable {X : Cx} {σ : St} {G H : Hp} {o : Expr} {p pos apos pos2 : Pos} {d : Addr}
/-- sorted(d.keys()), the keys tuples of ints -/
theorem ed_sortKT {k : Nat} {kvs : List (List L2.Key × V)} {ks : List (List Int)} (hm : X.mg "sorted" = none) (hr : Room k X.A) (ho : Er X σ G H o (.ref d)) (hd : H d = some (.dT kvs)) (hk : kvs.map (·.1) = ks.map tk) (hne : ∀ k ∈ ks, k ≠ [])
    (hc : X.calm = true := by rfl) (hg : Gl X "sorted" := by rfl)
    (hpe : PE X (.Call (.Attribute o "keys" apos) [] [] pos2) (tBM0 X.K "dict" rKeysV (RE X o)) := by exact pe_bm0 PySem.F.plainAttrs_dict PySem.F.slot_dict_keys PySem.F.type_dict_keys mt_keys pe_self)
    (hs : starEach [.Call (.Attribute o "keys" apos) [] [] pos2] X.env = (false, eval (.Call (.Attribute o "keys" apos) [] [] pos2) X.env) :: starEach [] X.env := by rfl) (hpl : (backTo pos (starEach [] X.env)).any (·.1) = false := by rfl) :
    Ed X σ G H (.Call (.Name "sorted" p) [.Call (.Attribute o "keys" apos) [] [] pos2] [] pos) (.list ((ks.map kyD).mergeSort (PySem.W.dataLe false id))) :=
  ⟨fun G1 H1 g Q q => re_of (pe_callB (cr_sortKT hc) hg hm (by decide +kernel) (pa_cons hpe pa_nil hs) (by decide) (by decide) hs hpl) (ho.run G1 H1 g _ fun G2 H2 g2 => by
    have hd2 := g2.h _ _ (g.h _ _ hd)
    refine ⟨.inr (.inr (.inl ⟨rfl, .inr ⟨_, hd2⟩⟩)), d, rfl, rfl, .inr ⟨_, hd2⟩, fun u hu => ?_⟩
    have g3 : Grow G2 H2 G2 (upd H2 u (keysO u d)) := .newH g2.i hu
    refine ⟨u, d, kvs, ks, rfl, upd_same, g3.h _ _ hd2, hk, hne, by have := hr.un; omega, fun l xs hl hx => ?_⟩
    have g4 := Grow.gt g3.i
    have g5 := g2.trans (g3.trans g4)
    exact q _ _ _ (g5.trans (.new g4.i hl)) (DaAll.lst upd_same ((hx.mono Tp.gt).mono (same_new (g4.i.free hl)))))⟩
/-- sorted(d.keys()), the keys ints -/
theorem ed_sortKI {k : Nat} {kvs : List (L2.Key × V)} {ks : List Int} (hm : X.mg "sorted" = none) (hr : Room k X.A) (ho : Er X σ G H o (.ref d)) (hd : H d = some (.dK kvs)) (hk : kvs.map (·.1) = ks.map Sum.inl)
    (hc : X.calm = true := by rfl) (hg : Gl X "sorted" := by rfl)
    (hpe : PE X (.Call (.Attribute o "keys" apos) [] [] pos2) (tBM0 X.K "dict" rKeysV (RE X o)) := by exact pe_bm0 PySem.F.plainAttrs_dict PySem.F.slot_dict_keys PySem.F.type_dict_keys mt_keys pe_self)
    (hs : starEach [.Call (.Attribute o "keys" apos) [] [] pos2] X.env = (false, eval (.Call (.Attribute o "keys" apos) [] [] pos2) X.env) :: starEach [] X.env := by rfl) (hpl : (backTo pos (starEach [] X.env)).any (·.1) = false := by rfl) :
    Ed X σ G H (.Call (.Name "sorted" p) [.Call (.Attribute o "keys" apos) [] [] pos2] [] pos) (.list ((dI ks).mergeSort (PySem.W.dataLe false id))) :=
  ⟨fun G1 H1 g Q q => re_of (pe_callB (cr_sortKI hc) hg hm (by decide +kernel) (pa_cons hpe pa_nil hs) (by decide) (by decide) hs hpl) (ho.run G1 H1 g _ fun G2 H2 g2 => by
    have hd2 := g2.h _ _ (g.h _ _ hd)
    refine ⟨.inr (.inr (.inl ⟨rfl, .inl ⟨_, hd2⟩⟩)), d, rfl, rfl, .inl ⟨_, hd2⟩, fun u hu => ?_⟩
    have g3 : Grow G2 H2 G2 (upd H2 u (keysO u d)) := .newH g2.i hu
    refine ⟨u, d, kvs, ks, rfl, upd_same, g3.h _ _ hd2, hk, by have := hr.un; omega, fun l xs hl hx => ?_⟩
    have g4 := Grow.gt g3.i
    have g5 := g2.trans (g3.trans g4)
    exact q _ _ _ (g5.trans (.new g4.i hl)) (DaAll.lst upd_same ((hx.mono Tp.gt).mono (same_new (g4.i.free hl)))))⟩
end
end Fk
end
section
set_option Elab.async false
set_option linter.all false
set_option maxRecDepth 100000
set_option maxHeartbeats 4000000
/-! Ru4: dicts that are made, read, written, compared with {}, walked. -/
namespace Fk
open PySem PySem.Spec L2
open PyProof.Rows hiding St

section
variable {X : Cx} {σ : St} {G H : Hp} {o i e : Expr} {p pos apos pos2 : Pos} {d : Addr} {d' : PyData} {D : Ends}
theorem Rd.grow {G1 H1 : Hp} {u : HO} (g : Grow G H G1 H1) (h : Rd H d u) : Rd H1 d u := by
  rcases h with h | ⟨ob, h⟩
  · exact .inl (g.h _ _ h)
  · exact .inr ⟨ob, g.h _ _ h⟩
/-- {} -/
theorem ev_newT (g : Same G H) : Ev X σ G H (.Dict [] [] pos) (fun v G2 H2 => ∃ p, v = .ref p ∧ H p = none ∧ G2 p = none ∧ H2 p = some (.dT [])) :=
  ⟨fun Q q => re_of pe_dnewT fun p hp => q _ G _ (.newH g hp) ⟨p, rfl, hp, g.free hp, upd_same⟩⟩
theorem ev_newK (g : Same G H) : Ev X σ G H (.Dict [] [] pos) (fun v G2 H2 => ∃ p, v = .ref p ∧ H p = none ∧ G2 p = none ∧ H2 p = some (.dK [])) :=
  ⟨fun Q q => re_of pe_dnewK fun p hp => q _ G _ (.newH g hp) ⟨p, rfl, hp, g.free hp, upd_same⟩⟩
theorem keyT {v : V} {k : List Int} (i : Same G H) (h : Da G v (kyD k)) : ∃ b, v = .ref b ∧ H b = some (.tup ((tk k).map kV)) := by
  obtain ⟨b, xs, rfl, hb, hx⟩ := Da.inv_tup (show Da G v (.tuple (k.map .int)) from h)
  rw [hx.inv_ints] at hb
  rw [tk_kV]
  exact ⟨b, rfl, i _ _ hb⟩
/-- d[k] -/
theorem ed_dgetT {j : Nat} {kvs : List (List L2.Key × V)} {k : List Int} {w : V} (hr : Room j X.A) (ho : Er X σ G H o (.ref d)) (hi : Ed X σ G H i (kyD k)) (hd : Rd H d (.dT kvs)) (hv : valV kvs (tk k) = some w) (dw : Da G w d') (hs : NoSl i := by exact fun _ _ => rfl) :
    Ed X σ G H (.Subscript o i pos) d' :=
  ⟨fun G1 H1 g Q q => re_of (pe_dget (by have := hr.un; omega) pe_self pe_self hs) (ho.run G1 H1 g _ fun G2 H2 g2 => hi.run G2 H2 (g.trans g2) _ fun y G3 H3 g3 dy => by
    obtain ⟨b, rfl, hb⟩ := keyT g3.i dy
    have gg := g.trans (g2.trans g3)
    exact ⟨d, w, rfl, .inr ⟨kvs, tk k, b, Rd.grow gg hd, rfl, hb, hv.symm⟩, q w G3 H3 (g2.trans g3) (dw.mono gg.g)⟩)⟩
theorem ed_dgetK {j : Nat} {kvs : List (L2.Key × V)} {k : Int} {w : V} (hr : Room j X.A) (ho : Er X σ G H o (.ref d)) (hi : Ed X σ G H i (.int k)) (hd : Rd H d (.dK kvs)) (hv : valV kvs (Sum.inl k) = some w) (dw : Da G w d') (hs : NoSl i := by exact fun _ _ => rfl) :
    Ed X σ G H (.Subscript o i pos) d' :=
  ⟨fun G1 H1 g Q q => re_of (pe_dget (by have := hr.un; omega) pe_self pe_self hs) (ho.run G1 H1 g _ fun G2 H2 g2 => hi.run G2 H2 (g.trans g2) _ fun y G3 H3 g3 dy => by
    cases dy.inv_int
    have gg := g.trans (g2.trans g3)
    exact ⟨d, w, rfl, .inl ⟨kvs, Sum.inl k, Rd.grow gg hd, rfl, hv.symm⟩, q w G3 H3 (g2.trans g3) (dw.mono gg.g)⟩)⟩
/-- d.get(k, e), the values ints -/
def cnt (kvs : List (List L2.Key × V)) (k : List Int) (z : Int) : Int := match valV kvs (tk k) with
  | some (.int i) => i
  | _ => z
theorem ed_dget2 {j : Nat} {kvs : List (List L2.Key × V)} {k : List Int} {z : Int} (hr : Room j X.A) (ho : Er X σ G H o (.ref d)) (hi : Ed X σ G H i (kyD k)) (he : Ed X σ G H e (.int z)) (hd : Rd H d (.dT kvs)) (hv : ∀ w, valV kvs (tk k) = some w → ∃ n, w = .int n)
    (m : M2 X o "get" apos i e pos := by exact ⟨rfl, rfl, rfl, rfl⟩) : Ed X σ G H (.Call (.Attribute o "get" apos) [i, e] [] pos) (.int (cnt kvs k z)) :=
  ⟨fun G1 H1 g Q q => re_of (pe_dget2 (by have := hr.un; omega) pe_self pe_self pe_self m) (ho.run G1 H1 g _ fun G2 H2 g2 => ⟨d, rfl, .inr ⟨kvs, Rd.grow (g.trans g2) hd⟩, hi.run G2 H2 (g.trans g2) _ fun y G3 H3 g3 dy =>
    he.run G3 H3 (g.trans (g2.trans g3)) _ fun u G4 H4 g4 du => by
      obtain ⟨b, rfl, hb⟩ := keyT g3.i dy
      cases du.inv_int
      have gg := g.trans (g2.trans (g3.trans g4))
      refine ⟨_, .inr ⟨kvs, tk k, b, Rd.grow gg hd, rfl, g4.h _ _ hb, rfl⟩, ?_⟩
      have e : (valV kvs (tk k)).getD (.int z) = .int (cnt kvs k z) := by
        unfold cnt
        cases hq : valV kvs (tk k) with
        | none => rfl
        | some w =>
          obtain ⟨n, rfl⟩ := hv w hq
          rfl
      rw [e]
      exact q _ G4 H4 (g2.trans (g3.trans g4)) (.int _)⟩)⟩
/-- d[k] = e -/
theorem rs_dputT {j : Nat} {kvs : List (List L2.Key × V)} {k : List Int} {pos' : Pos} (hr : Room j X.A) (he : Ed X σ G H e d') (ho : Er X σ G H o (.ref d)) (hi : Ed X σ G H i (kyD k)) (g : Same G H) (hd : H d = some (.dT kvs)) (hz : kvs.length < sizeLine)
    (q : ∀ v G2 H2, Grow G H G2 H2 → Da G2 v d' → D.nx σ (upd H2 d (.dT (putK kvs (tk k) v)))) (hs : swapsWith e (some (.Subscript o i pos')) pos.line X.env = pure false := by rfl) :
    RS X (.Assign [.Subscript o i pos'] e pos) D σ H :=
  rs_of (ps_dput (by have := hr.un; omega) pe_self pe_self pe_self hs) (he.run G H (.refl g) _ fun v G2 H2 g2 dv => ho.run G2 H2 g2 _ fun G3 H3 g3 => hi.run G3 H3 (g2.trans g3) _ fun y G4 H4 g4 dy => by
    obtain ⟨b, rfl, hb⟩ := keyT g4.i dy
    have gg := g2.trans (g3.trans g4)
    exact ⟨d, _, rfl, DPut.t (gg.h _ _ hd) hb hz, q v G4 H4 gg (dv.mono (g3.g.trans g4.g))⟩)
theorem rs_dputK {j : Nat} {kvs : List (L2.Key × V)} {k : Int} {pos' : Pos} (hr : Room j X.A) (he : Ed X σ G H e d') (ho : Er X σ G H o (.ref d)) (hi : Ed X σ G H i (.int k)) (g : Same G H) (hd : H d = some (.dK kvs)) (hz : kvs.length < sizeLine)
    (q : ∀ v G2 H2, Grow G H G2 H2 → Da G2 v d' → D.nx σ (upd H2 d (.dK (putK kvs (Sum.inl k) v)))) (hs : swapsWith e (some (.Subscript o i pos')) pos.line X.env = pure false := by rfl) :
    RS X (.Assign [.Subscript o i pos'] e pos) D σ H :=
  rs_of (ps_dput (by have := hr.un; omega) pe_self pe_self pe_self hs) (he.run G H (.refl g) _ fun v G2 H2 g2 dv => ho.run G2 H2 g2 _ fun G3 H3 g3 => hi.run G3 H3 (g2.trans g3) _ fun y G4 H4 g4 dy => by
    cases dy.inv_int
    have gg := g2.trans (g3.trans g4)
    exact ⟨d, _, rfl, DPut.k (k := Sum.inl k) (gg.h _ _ hd) hz, q v G4 H4 gg (dv.mono (g3.g.trans g4.g))⟩)
end

/-! ### {k: v} with a tuple as its key -/
section
variable {X : Cx} {σ : St} {G H : Hp} {a b : Expr} {pos : Pos}
def tDisp1 (ta tb : TE) : TE := fun σ H Q => ∀ p, H p = none → ta σ (upd H p (.dT [])) fun x H1 => tb σ H1 fun y H2 => ∃ q k, x = .ref q ∧ H2 q = some (.tup (k.map kV)) ∧ H2 p = some (.dT []) ∧ Q (.ref p) (upd H2 p (.dT [(k, y)]))
theorem pe_disp1 {ta tb : TE} (hu : X.A.units + 2 < cLine) (ha : PE X a ta) (hb : PE X b tb) : PE X (.Dict [some a] [b] pos) (tDisp1 ta tb) := by
  refine ⟨fun pins s σ H Q I h => ?_⟩
  have fr := I.hok.fresh (Nat.le_refl s.heap.objs.size)
  have I0 := I.laid (a := s.heap.objs.size) (o := .dT []) (h' := s.heap.push { cls := .type "dict", data := .dict #[] }) (t' := s.toks) (fun _ _ z => Heap.get?_push_of_some _ z) (Nat.le_refl _) (dt_empty s.heap I.big)
  rw [arm_eval_Dict, zip_pairTrees [some a] [b] X.env pos rfl rfl, dictDisplay_pairs (pairTrees [some a] [b] X.env pos) (by simp [pairTrees]) (by simp [pairTrees])]
  refine wpAny_bind (wpAny_standAt (wpAny_bind (wpAny_subDictH (knd := tupleKind (mixKind X.prog X.w)) (Q := fun d s' => wpAny (model X.prog X.w) X.A (pure (Value.ref d)) (EP X pins σ Q) X.xe s') (show X.A.units < cLine by omega) (by simp [pairTrees]) ?_)))
  refine pairTrees_cons_walk (thn (ha.run pins _ σ _ _ I0 (h _ fr)) fun u s1 ⟨x, H1, I1, rx, h1⟩ => thn (hb.run pins s1 σ H1 _ I1 h1) fun v s2 ⟨y, H2, I2, ry, q, k, ex, hq, hp, fin⟩ => pairTrees_nil_walk ?_)
  subst ex
  cases (show u = Value.ref q from rx)
  obtain ⟨z, y0, xs, r0, dd⟩ := dt_of I2.hok hp
  have e0 : xs = [] := by cases r0; rfl
  subst e0
  refine ⟨[(k, q, v)], ⟨rfl, rfl, key_of I2.hok hq, trivial⟩, dd, fun h' t' hm hs => wpAny_pure ⟨.ref s.heap.objs.size, _, ?_, rfl, fin⟩⟩
  obtain ⟨ob, es, ep, g1, g2, g3, g4, g5, g6⟩ := hm
  have I3 := I2.tok t'
  refine d_write (s := { s2 with toks := t' }) (h' := h') (t' := t') I3 (by rw [hp]; exact True.intro) hs ⟨ob, g1⟩ ⟨?_, y0, [(k, q, v)], .cons ⟨rfl, ?_, ry⟩ .nil, ob, es, ep, g1, g2, g3, ?_, by simp⟩
  · show 1 ≤ sizeLine
    rw [sizeLine_eq]; decide
  · rw [upd_ne (ne_of hq hp (fun z => nomatch z))]
    exact hq
  · rw [g4]
    rfl
theorem ev_disp1 {j : Nat} {k : List Int} {d : PyData} (hr : Room j X.A) (g : Same G H) (ha : Ed X σ G H a (kyD k)) (hb : Ed X σ G H b d) :
    Ev X σ G H (.Dict [some a] [b] pos) (fun v G2 H2 => ∃ p w, v = .ref p ∧ H p = none ∧ G2 p = none ∧ H2 p = some (.dT [(tk k, w)]) ∧ Da G2 w d) :=
  ⟨fun Q q => re_of (pe_disp1 (by have := hr.un; omega) pe_self pe_self) fun p hp => by
    have g0 : Grow G H G (upd H p (.dT [])) := .newH g hp
    refine ha.run _ _ g0 _ fun x G2 H2 g2 dx => hb.run G2 H2 (g0.trans g2) _ fun y G3 H3 g3 dy => ?_
    obtain ⟨b, rfl, hb⟩ := keyT g3.i (dx.mono g3.g)
    have gp := (g2.trans g3).h _ _ (upd_same (H := H) (a := p) (o := .dT []))
    have hn := (g2.trans g3).n p _ (g.free hp) upd_same nofun
    refine ⟨b, tk k, rfl, hb, gp, q _ G3 _ ⟨(g0.trans (g2.trans g3)).g, fun c u e => ?_, same_mut g3.i hn, (g0.trans (g2.trans g3)).n⟩ ⟨p, y, rfl, hp, hn, upd_same, dy⟩⟩
    rw [upd_ne (ne_of_none e hp)]
    exact (g0.trans (g2.trans g3)).h c u e⟩
end

/-! ### d == {} -/
def DcAt (H : Hp) (a : Addr) (n : Nat) : Prop := ∃ kvs, Rd H a (.dT kvs) ∧ kvs.length = n
theorem dcAt_raw {X : Cx} {pins : List (Addr × Obj)} {σ : St} {H : Hp} {s : Shared} {a : Addr} {n : Nat} (I : Inv X pins σ H s) (d : DcAt H a n) : (a == sysModules) = false ∧ ∃ es ep, s.heap.DictRaw a es ep ∧ es.size = n := by
  obtain ⟨kvs, h, hn⟩ := d
  obtain ⟨z, y, xs, r, o, es, ep, h1, h2, h3, h4, h5⟩ := (show ObjOk X.prog X.w H s.heap a (.dT kvs) from rd_of I.hok h)
  have l : kvs.length = xs.length := Paired.length r
  refine ⟨y, es, ep, ⟨o, h1, h2, h3⟩, ?_⟩
  rw [← Array.length_toList, h4, List.length_map]
  omega
theorem same_empty {P : Program} {w : World} {A : Around} {E : Value → Shared → Prop} {s : Shared} {nm : String} {a b : Addr} {es es' : Array DictEntry} {ep ep' : Nat} {Q : Bool → Shared → Prop} (ha : (a == sysModules) = false) (hb : (b == sysModules) = false)
    (da : s.heap.DictRaw a es ep) (db : s.heap.DictRaw b es' ep') (h0 : es'.size = 0) (h : Q (decide (es.size = 0)) s) : wpAny (model P w) A (Builtin.Dict.samePairs nm a b) Q E s := by
  obtain ⟨oa, hoa, _, hda⟩ := da
  obtain ⟨ob, hob, _, hdb⟩ := db
  unfold Builtin.Dict.samePairs Builtin.Dict.showsAll
  rw [if_neg (show ¬ (a == sysModules) = true from by simp [ha]), if_neg (show ¬ (b == sysModules) = true from by simp [hb])]
  refine wpAny_bind (wpAny_pure (wpAny_bind (wpAny_pure (wpAny_bind (wpAny_dictEntries hoa hda ?_)))))
  dsimp only
  refine wpAny_bind (wpAny_dictEntries hob hdb ?_)
  by_cases hz : es.size = 0
  · rw [decide_eq_true hz] at h
    rw [if_neg (by rw [hz, h0]; decide)]
    refine wpAny_bind (wpAny_dictEpoch hoa hda (wpAny_bind ?_))
    rw [hz, Std.Legacy.Range.forIn_eq_forIn_range']
    exact wpAny_pure (wpAny_pure h)
  · rw [decide_eq_false hz] at h
    rw [if_pos (by rw [h0]; simpa using hz)]
    exact wpAny_bind (wpAny_rule (wpAny_pure h))
theorem opEqE {X : Cx} : OpR X (compareOp .Eq) (fun x y H Q => ∃ a b n, x = .ref a ∧ y = .ref b ∧ DcAt H a n ∧ DcAt H b 0 ∧ X.A.units + 1 < cLine ∧ Q (.bl (decide (n = 0))) H) := by
  intro pins s σ H x y v u Q I rx ry h
  obtain ⟨a, b, n, rfl, rfl, da, db, hu, q⟩ := h
  cases (show v = Value.ref a from rx)
  cases (show u = Value.ref b from ry)
  obtain ⟨ya, es, ep, ra, na⟩ := dcAt_raw I da
  obtain ⟨yb, es', ep', rb, nb⟩ := dcAt_raw I db
  show wpAny _ _ (richCompare .Eq (.ref a) (.ref b)) _ _ _
  refine wpAny_richCompare_same_room (op := .Eq) ra.typeIs rb.typeIs PySem.F.slot_dict_eq (wpAny_call_entry PySem.F.slot_dict_eq ra.typeIs PySem.F.entry_dict_eq ?_ (PySem.F.args_dict_eq_2 _ _)) (by omega)
  show wpAny _ _ (Builtin.Dict.dictSlotArgs "__eq__" ⟨[.ref a, .ref b], []⟩ >>= _) _ _ s
  unfold Builtin.Dict.dictSlotArgs
  refine wpAny_bind (wpAny_bind (wpAny_notOrdered_dict ra.typeIs (show wpAny _ _ (pure (Value.ref a, Value.ref b)) _ _ s from wpAny_pure ?_)))
  refine wpAny_bind (wpAny_isInstance (T := "dict") rb.typeIs PySem.F.sub_dict_dict ?_)
  simp only [Bool.not_true, Bool.false_eq_true, if_false]
  refine wpAny_bind (wpAny_pure (wpAny_bind (wpAny_pure (wpAny_bind (same_empty ya yb ra rb nb (wpAny_pure ⟨_, rfl, (fun z => nomatch z), ?_⟩))))))
  rw [na, show (decide (n = 0) == true) = decide (n = 0) from by cases decide (n = 0) <;> rfl]
  exact ⟨.bl (decide (n = 0)), H, I, rfl, q⟩
theorem cm_eqE {X : Cx} {σ : St} {G H : Hp} {a : Expr} {pos : Pos} {d : Addr} {n j : Nat} (hr : Room j X.A) (g : Same G H) (ha : Er X σ G H a (.ref d)) (hd : DcAt H d n) : Cm X σ G H .Eq a (.Dict [] [] pos) (decide (n = 0)) :=
  ⟨_, opEqE, fun G1 H1 g1 Q q => ha.run G1 H1 g1 _ fun G2 H2 g2 => (ev_newT g2.i).run _ fun y G3 H3 g3 ⟨p, ey, _, _, hp⟩ => by
    obtain ⟨kvs, h1, h2⟩ := hd
    refine ⟨d, p, n, rfl, ey, ⟨kvs, Rd.grow (g1.trans (g2.trans g3)) h1, h2⟩, ⟨[], .inl hp, rfl⟩, by have := hr.un; omega, q G3 H3 (g2.trans g3)⟩⟩

/-! ### for k in d.keys(), the keys tuples, d locked -/
section
variable {X : Cx} {σ : St} {G H : Hp} {tg e : Expr} {apos cpos : Pos} {d : Addr}
def iKeysT (td : TE) : TI := fun σ H R => td σ H fun x H1 => ∃ d o kvs, x = .ref d ∧ H1 d = some (.frz o (.dT kvs)) ∧ R (Itkt d o kvs) H1
theorem pi_keysT {td : TE} (he : PE X e td) (hbase : attributeBase e "keys" X.env (eval e X.env) = eval e X.env := by rfl) (hline : (apos.endLine == cpos.line) = true := by rfl) : PI X tg (.Call (.Attribute e "keys" apos) [] [] cpos) (iKeysT td) := by
  refine ⟨fun pins s σ H R I h => wpAny_Call_method (T := "dict") (id := "dict.keys") hbase rfl hline F.plainAttrs_dict F.slot_dict_keys F.type_dict_keys (thn (he.run pins s σ H _ I h) fun u s1 ⟨x, H1, I1, rx, d, o, kvs, ex, hd, q⟩ => ?_)⟩
  subst ex
  cases (show u = Value.ref d from rx)
  obtain ⟨hs, hgd, hx, es, ep, hdt, hsz, ent⟩ := I1.frzT hd
  have raw : s1.heap.DictRaw d es ep := ⟨o, hgd, hx, hdt⟩
  have I2 : Inv X pins σ H1 { s1 with heap := s1.heap.push { cls := .type "dict_keys", data := .fields #[.ref d] } } := I1.kept (t' := s1.toks) fun b ob z => Heap.get?_push_of_some _ z
  have fin : wpAny (model X.prog X.w) X.A (pyIter (.ref s1.heap.objs.size)) (PIE X pins σ tg R) X.xe { s1 with heap := s1.heap.push { cls := .type "dict_keys", data := .fields #[.ref d] } } := by
    refine wpAny_pyIter_keys_raw (d := d) ⟨_, Heap.get?_push_size _ rfl, rfl, rfl⟩ (raw.push _) (pi_one (tk := s1.toks) I2 _ (turn_keysT _ hdt) ⟨_, Heap.get?_push_size _ rfl, rfl, ?_⟩ q)
    rw [hsz] <;> rfl
  refine ⟨raw.typeIs, fun b z => ?_, ?_⟩
  · cases z
    exact ⟨o, hgd, hx.2.1⟩
  · show wpAny _ _ (callWith cpos (.builtin "dict.keys") [.ref d] [] []) _ X.xe s1
    exact method_meetsIn F.slot_dict_keys F.entry_dict_keys rfl (PySem.evalArgs_none ⟨rfl, raw.typeIs, F.args_dict_keys_1 _, _, meets_dict_keys_raw d hs, ⟨es, ep, raw⟩, fin⟩)
theorem es_keysT {o : Obj} {kvs : List (List L2.Key × V)} {ks : List (List Int)} (he : Er X σ G H e (.ref d)) (hd : G d = some (.frz o (.dT kvs))) (hk : kvs.map (·.1) = ks.map tk)
    (hbase : attributeBase e "keys" X.env (eval e X.env) = eval e X.env := by rfl) (hline : (apos.endLine == cpos.line) = true := by rfl) : Es X σ G H tg (.Call (.Attribute e "keys" apos) [] [] cpos) (ks.map kyD) := by
  have hl : kvs.length = ks.length := by simpa using congrArg List.length hk
  refine ⟨_, pi_keysT pe_self hbase hline, fun G1 H1 g R q => he.run G1 H1 g _ fun G2 H2 g2 => ?_⟩
  have hG2 := g2.g _ _ (g.g _ _ hd)
  refine ⟨d, o, kvs, rfl, g2.i _ _ hG2, q _ G2 H2 g2 ⟨fun i G' H' hi s1 s2 => ⟨s2 _ _ (s1 _ _ hG2), ?_⟩, fun G' H' s1 s2 => ⟨s2 _ _ (s1 _ _ hG2), ?_⟩, fun i G' H' x H'' hi s1 s2 hy => ?_⟩⟩
  · rw [List.length_map] at hi; omega
  · rw [List.length_map]; omega
  · obtain ⟨e1, k, v, q, hi2, rfl, hq⟩ := hy
    subst e1
    refine ⟨_, Grow.tup s2 hq, fun d hdd => ?_⟩
    have h1 : (kvs.map (·.1))[i]? = some k := by rw [List.getElem?_map, hi2]; rfl
    rw [hk, List.getElem?_map] at h1
    rw [List.getElem?_map] at hdd
    cases hks : ks[i]? with
    | none => rw [hks] at h1; cases h1
    | some j =>
      rw [hks] at h1 hdd
      cases h1
      cases hdd
      rw [tk_kV]
      exact DaAll.tup upd_same (DaAll.ints j)
end

/-! ### isinstance(x, (tuple, list)) -/
section
variable {X : Cx} {σ : St} {G H : Hp} {a : Expr} {p p1 p2 p3 pos : Pos} {kk : Nat} {d : PyData}
theorem Da.tyx {K : PySem.W.Frag} {v : V} (i : Same G H) (h : Da G v d) : ∃ t, TyX K H v t ∧ PySem.W.kitAny K t [.type "tuple", .type "list"] = some (d.isTuple || d.isList) := by
  cases h with
  | non => exact ⟨_, .base .non, kitAny_cons (b := false) (by rfl) (fun _ => kitAny_cons (b := false) (by rfl) (fun _ => kitAny_nil) nofun) nofun⟩
  | bl b => exact ⟨_, .base (.bl b), kitAny_cons (b := false) (by rfl) (fun _ => kitAny_cons (b := false) (by rfl) (fun _ => kitAny_nil) nofun) nofun⟩
  | int n => exact ⟨_, .base (.int n), kitAny_cons (b := false) (by rfl) (fun _ => kitAny_cons (b := false) (by rfl) (fun _ => kitAny_nil) nofun) nofun⟩
  | lst e => exact ⟨_, .base (.lst (i _ _ e)), kitAny_cons (b := false) (by rfl) (fun _ => kitAny_cons (b := true) (by rfl) nofun fun _ => rfl) nofun⟩
  | tup e => exact ⟨_, .base (.tup (i _ _ e)), kitAny_cons (b := true) (by rfl) nofun fun _ => rfl⟩
theorem ed_isTL (hm : X.mg "isinstance" = none) (ht : X.mg "tuple" = none) (hl : X.mg "list" = none) (ha : Ed X σ G H a d) (hg : Gl X "isinstance" := by rfl) (hg1 : Gl X "tuple" := by rfl) (hg2 : Gl X "list" := by rfl)
    (s1 : starEach [a, .Tuple [.Name "tuple" p1, .Name "list" p2] kk p3] X.env = (false, eval a X.env) :: starEach [.Tuple [.Name "tuple" p1, .Name "list" p2] kk p3] X.env := by rfl)
    (s2 : starEach [.Tuple [.Name "tuple" p1, .Name "list" p2] kk p3] X.env = (false, eval (.Tuple [.Name "tuple" p1, .Name "list" p2] kk p3) X.env) :: starEach [] X.env := by rfl)
    (s3 : starEach [.Name "tuple" p1, .Name "list" p2] X.env = (false, eval (.Name "tuple" p1) X.env) :: starEach [.Name "list" p2] X.env := by rfl) (s4 : starEach [.Name "list" p2] X.env = (false, eval (.Name "list" p2) X.env) :: starEach [] X.env := by rfl)
    (hpl : (backTo pos (starEach [.Tuple [.Name "tuple" p1, .Name "list" p2] kk p3] X.env)).any (·.1) = false := by rfl) :
    Ed X σ G H (.Call (.Name "isinstance" p) [a, .Tuple [.Name "tuple" p1, .Name "list" p2] kk p3] [] pos) (.bool (d.isTuple || d.isList)) :=
  ⟨fun G1 H1 g Q q => re_of (pe_callB call_isiT hg hm (by decide +kernel) (pa_cons pe_self (pa_cons (pe_tup (pa_cons (pe_bltn (v := .ty "tuple") hg1 ht (by decide +kernel) rfl) (pa_cons (pe_bltn (v := .ty "list") hg2 hl (by decide +kernel) rfl) pa_nil s4) s3)) pa_nil s2) s1) (by decide) (by decide) s1 hpl)
    (ha.run G1 H1 g _ fun v G2 H2 g2 dv => ⟨by show 2 ≤ sizeLine; decide, fun t ht => by
      obtain ⟨ty, h1, h2⟩ := Da.tyx (K := X.K) (.trans g2.i (same_new (o := HO.tup [.ty "tuple", .ty "list"]) ht)) dv
      exact ⟨v, t, _, ty, _, _, rfl, upd_same, .cons (.ty "tuple") (.cons (.ty "list") .nil), h1, h2, q _ G2 _ (g2.trans (.newH g2.i ht)) (.bl _)⟩⟩)⟩
end
end Fk
end
section
set_option Elab.async false
set_option linter.all false
set_option maxRecDepth 100000
set_option maxHeartbeats 4000000
/-! Ru5: (None,) * n. -/
namespace Fk
open PySem PySem.Spec L2
open PyProof.Rows hiding St

/-- t * 1 is t -/
theorem mul_once (l : Addr) (items : Array Value) (n : Nat) (dd : Option Addr) (sl : Array (Option Value)) (u : Tok) :
    Meets (Builtin.«tuple.__mul__» ⟨[.ref l, .int 1 u], []⟩) (fun _ R s => s.heap.get? l = some { cls := .type "tuple", dict := dd, data := .seq items n, slots := sl } ∧ R (.ok (.ret (Value.ref l))) s) :=
  .of_wp fun prog w A R s h => by
    obtain ⟨hp, g, d, tk, os⟩ := s
    obtain ⟨hl, h⟩ := h
    have f1 := AutoSeq1.idx_int
    wp_walk using wpAny_loadPart' hl
    repeat (first
      | (refine wpAny_ite_true (by simp) ?_; wp_walk using wpAny_loadPart' hl)
      | (refine wpAny_ite_false (by decide) ?_; wp_walk using wpAny_loadPart' hl))
    exact ⟨_, rfl, h⟩
section
variable {X : Cx} {σ : St} {G H : Hp} {a b : Expr} {pos : Pos}
def rRep1 (K : PySem.W.Frag) : R2 := fun x y H Q => ∃ l xs, x = .ref l ∧ y = .int 1 ∧ SqT K H l xs ∧ Q (.ref l) H
theorem op_rep1 : OpR X (binaryOp .Mult) (rRep1 X.K) := by
  intro pins s σ H x y v u Q I rx ry h
  obtain ⟨l, xs, rfl, rfl, hT, q⟩ := h
  cases rx
  obtain ⟨t, rfl⟩ := ry
  obtain ⟨its, r, ⟨⟨cls, dd, data, sl⟩, ho, hc, n, hd⟩, hs⟩ := I.tuple hT
  simp only at hc hd
  subst hc hd
  have back : wpAny (model X.prog X.w) X.A (call (.builtin "tuple.__mul__") [.ref l, .int 1 t]) (EP X pins σ Q) X.xe s :=
    call_meets F.slot_tuple_mul ⟨_, ho, rfl⟩ F.entry_tuple_mul (F.args_tuple_mul_2 _ _) (mul_once l its.toArray n dd sl t) ⟨ho, .ref l, H, I, rfl, q⟩
  exact wpAny_binaryOp_repeat_ref (T := "tuple") (U := "int") (by decide) ⟨_, ho, rfl⟩ (fun s' => typeIs_int s' 1 t) noFill_tuple_mul F.fills_int_mul F.slot_int_rmul repeat_tuple F.slot_int_index.lookup
    (call_meets F.slot_int_rmul (typeIs_int s 1 t) F.entry_int_rmul (F.args_int_rmul_2 _ _) (int_rmul_tuple 1 t l its.toArray n dd sl) ⟨ho, rfl, ⟨_, ho, rfl⟩, back⟩)
/-- (x,) * n -/
theorem ed_rep {d : PyData} {n : Nat} (ha : Ed X σ G H a (.tuple [d])) (hb : Ed X σ G H b (.int (n : Int))) (h1 : 1 ≤ n) (hz : n ≤ 1000) : Ed X σ G H (.BinOp a .Mult b pos) (.tuple (List.replicate n d)) := by
  by_cases e : n = 1
  · subst e
    exact ed_op op_rep1 ha hb fun x y G2 H2 g dx dy Q q => by
      obtain ⟨l, xs, rfl, hl, hx⟩ := dx.inv_tup
      exact ⟨l, xs, rfl, dy.inv_int, .of (g.i _ _ hl), q _ G2 H2 (.refl g.i) (DaAll.tup hl hx)⟩
  · exact ed_op op_repT ha hb fun x y G2 H2 g dx dy Q q => by
      obtain ⟨l, xs, rfl, hl, hx⟩ := dx.inv_tup
      obtain ⟨v, rfl, dv⟩ := hx.inv1
      refine ⟨l, n, _, rfl, dy.inv_int, .of (g.i _ _ hl), nofun, by omega, by omega, by simp, fun p hp => q _ _ _ (.new g.i hp) ?_⟩
      have e2 : (List.replicate (n : Int).toNat [v]).flatten = List.replicate n v := by
        rw [Int.toNat_natCast]
        clear hb hz h1 e dy q
        induction n with
        | zero => rfl
        | succ m ih => rw [List.replicate_succ, List.flatten_cons, ih, List.replicate_succ]; rfl
      rw [e2]
      refine Da.tup upd_same (by simp) fun i w f k1 k2 => ?_
      rw [List.getElem?_replicate] at k1 k2
      split at k1
      · rename_i hi
        rw [if_pos hi] at k2
        cases k1
        cases k2
        exact dv.mono (same_new (g.i.free hp))
      · cases k1
end
end Fk
end
section
set_option Elab.async false
set_option linter.all false
set_option maxRecDepth 100000
set_option maxHeartbeats 4000000
/-! Ru6: dict(zip(a, b)), a and b a list or a tuple each. -/
namespace Fk
open PySem PySem.Spec L2
open PyProof.Rows hiding St

section
variable {P : Program} {w : World} {A : Around} {E : Value → Shared → Prop} {s : Shared} {z TI TO i1 i2 T : Addr} {fp1 fp2 : List Addr} {n1 n2 i : Nat} {P1 P2 : Nat → Value → Prop} {St1 St2 : Nat → Heap → Prop} {f : Bool} {oT : Obj}
/-- zip's next while the pair it gave out is still there -/
theorem out_item {Q : Value → Shared → Prop} (S : ZipSep2 z TI TO i1 i2 fp1 fp2) (D1 : Draws P w A i1 fp1 n1 P1 St1) (D2 : Draws P w A i2 fp2 n2 P2 St2)
    (wz : IsZipHeld s.heap z TI TO T f) (wT : s.heap.get? T = some oT) (wI : IsTupOf2 s.heap TI (.ref i1) (.ref i2)) (st1 : St1 i s.heap) (st2 : St2 i s.heap) (l1 : i < n1) (l2 : i < n2)
    (k : ∀ x y h' tk, P1 i x → P2 i y → IsZipHeld h' z TI TO T true → St1 (i + 1) h' → St2 (i + 1) h' → IsTupOf2 h' s.heap.objs.size x y → (∀ c o, c ≠ z → c ≠ i1 → c ≠ i2 → s.heap.get? c = some o → h'.get? c = some o) →
      Q (.ref s.heap.objs.size) { s with heap := h', toks := tk }) :
    wpAny (model P w) A (Builtin.«zip.__next__» ⟨[.ref z], []⟩) (fun fin s' => ∃ v, fin = .done (.ret v) ∧ Q v s') E s := by
  obtain ⟨hp, g, d, t0, os⟩ := s
  show wpAny _ _ (field (.ref z) 2 >>= _) _ _ _
  refine wpAny_bind (wpAny_field wz rfl (x := .bool false) rfl (show wpAny _ _ (field (.ref z) 3 >>= _) _ _ _ from wpAny_bind (wpAny_field wz rfl (x := .ref TI) rfl (wpAny_bind (wpAny_seqItems wI rfl (show wpAny _ _ (Builtin.SmallTypes.ownedTupleIsFree (.ref z) >>= _) _ _ _ from
    wpAny_bind (wpAny_tupleHeld_zip wz wT fun g0 wz0 hs0 => ?_)))))))
  replace hs0 : Heap.SameBut z hp g0 := hs0
  simp only [Bool.false_eq_true, if_false]
  refine wpAny_bind ?_
  rw [← Array.forIn_toList]
  simp only [List.forIn_cons, List.forIn_nil]
  refine wpAny_bind (wpAny_bind (wpAny_holding (show wpAny _ _ (Builtin.SmallTypes.nextOf (.ref i1) >>= _) _ _ ⟨g0, g, d, t0, os⟩ from wpAny_bind (D1.item i _ _ _ l1 (D1.over st1 hs0 S.zf1) fun x p1 t1 px sn1 hp1 => wpAny_pure (wpAny_pure ?_)))))
  replace hp1 : Heap.SameBut i1 g0 p1 := hp1
  refine wpAny_bind (wpAny_bind (wpAny_holding (show wpAny _ _ (Builtin.SmallTypes.nextOf (.ref i2) >>= _) _ _ ⟨p1, g, d, t1, os⟩ from wpAny_bind (D2.item i _ _ _ l2 (D2.over (D2.over st2 hs0 S.zf2) hp1 S.sep1_2) fun y p2 t2 py sn2 hp2 => wpAny_pure (wpAny_pure (wpAny_pure ?_))))))
  replace hp2 : Heap.SameBut i2 p1 p2 := hp2
  refine (show wpAny _ _ (newTuple [x, y] >>= _) _ _ _ from wpAny_bind (wpAny_newTuple (wpAny_pure ⟨_, rfl, ?_⟩)))
  have sz : p2.objs.size = hp.objs.size := by rw [hp2.1, hp1.1, hs0.1]
  have zz : IsZipHeld p2 z TI TO T true := hp2.extBut _ _ S.zi2 (hp1.extBut _ _ S.zi1 wz0)
  have kk : ∀ c o, c ≠ z → c ≠ i1 → c ≠ i2 → hp.get? c = some o → p2.get? c = some o := fun c o c0 c1 c2 e => hp2.extBut _ _ c2 (hp1.extBut _ _ c1 (hs0.extBut _ _ c0 e))
  have up : ∀ c o, p2.get? c = some o → (p2.push { cls := .type "tuple", data := .seq #[x, y] }).get? c = some o := fun c o e => Heap.get?_push_of_some _ e
  have new : IsTupOf2 (p2.push { cls := .type "tuple", data := .seq #[x, y] }) p2.objs.size x y := Heap.get?_push_size _ rfl
  show Q (.ref p2.objs.size) _
  rw [sz] at new ⊢
  exact k x y _ t2 px py (up _ _ zz) (D1.frame _ _ _ (D1.over sn1 hp2 S.sep2_1) fun b _ o e => up b o e) (D2.frame _ _ _ sn2 fun b _ o e => up b o e) new fun c o c0 c1 c2 e => up c o (kk c o c0 c1 c2 e)
theorem out_end {Q : Fin → Shared → Prop} (S : ZipSep2 z TI TO i1 i2 fp1 fp2) (D1 : Draws P w A i1 fp1 n1 P1 St1) (D2 : Draws P w A i2 fp2 n2 P2 St2)
    (wz : IsZipHeld s.heap z TI TO T f) (wT : s.heap.get? T = some oT) (wI : IsTupOf2 s.heap TI (.ref i1) (.ref i2)) (st1 : St1 i s.heap) (st2 : St2 i s.heap) (l1 : i ≤ n1) (l2 : i ≤ n2) (he : i = n1 ∨ i = n2)
    (k : ∀ h' tk e, (∀ c o, c ≠ z → c ≠ i1 → c ≠ i2 → s.heap.get? c = some o → h'.get? c = some o) → (∃ o, h'.get? e = some o ∧ o.cls = .type "StopIteration") → E (.ref e) { s with heap := h', toks := tk }) :
    wpAny (model P w) A (Builtin.«zip.__next__» ⟨[.ref z], []⟩) Q E s := by
  obtain ⟨hp, g, d, t0, os⟩ := s
  show wpAny _ _ (field (.ref z) 2 >>= _) _ _ _
  refine wpAny_bind (wpAny_field wz rfl (x := .bool false) rfl (show wpAny _ _ (field (.ref z) 3 >>= _) _ _ _ from wpAny_bind (wpAny_field wz rfl (x := .ref TI) rfl (wpAny_bind (wpAny_seqItems wI rfl (show wpAny _ _ (Builtin.SmallTypes.ownedTupleIsFree (.ref z) >>= _) _ _ _ from
    wpAny_bind (wpAny_tupleHeld_zip wz wT fun g0 wz0 hs0 => ?_)))))))
  replace hs0 : Heap.SameBut z hp g0 := hs0
  simp only [Bool.false_eq_true, if_false]
  refine wpAny_bind ?_
  rw [← Array.forIn_toList]
  simp only [List.forIn_cons, List.forIn_nil]
  by_cases q1 : i < n1
  · refine wpAny_bind (wpAny_bind (wpAny_holding (show wpAny _ _ (Builtin.SmallTypes.nextOf (.ref i1) >>= _) _ _ ⟨g0, g, d, t0, os⟩ from wpAny_bind (D1.item i _ _ _ q1 (D1.over st1 hs0 S.zf1) fun x p1 t1 px sn1 hp1 => wpAny_pure (wpAny_pure ?_)))))
    replace hp1 : Heap.SameBut i1 g0 p1 := hp1
    have q2 : i = n2 := by omega
    refine wpAny_bind (wpAny_bind (wpAny_holding (show wpAny _ _ (Builtin.SmallTypes.nextOf (.ref i2) >>= _) _ _ ⟨p1, g, d, t1, os⟩ from wpAny_bind (D2.done ⟨p1, g, d, t1, os⟩ _ _ (by rw [← q2]; exact D2.over (D2.over st2 hs0 S.zf2) hp1 S.sep1_2) fun q e hq he => ?_))))
    exact k q t1 e (fun c o c0 c1 c2 x => hq _ _ c2 (hp1.extBut _ _ c1 (hs0.extBut _ _ c0 x))) he
  · have q2 : i = n1 := by omega
    refine wpAny_bind (wpAny_bind (wpAny_holding (show wpAny _ _ (Builtin.SmallTypes.nextOf (.ref i1) >>= _) _ _ ⟨g0, g, d, t0, os⟩ from wpAny_bind (D1.done ⟨g0, g, d, t0, os⟩ _ _ (by rw [← q2]; exact D1.over st1 hs0 S.zf1) fun q e hq he => ?_))))
    exact k q t0 e (fun c o c0 c1 c2 x => hq _ _ c1 (hs0.extBut _ _ c0 x)) he
theorem out_next {Q : Option Value → Shared → Prop} (S : ZipSep2 z TI TO i1 i2 fp1 fp2) (D1 : Draws P w A.in1 i1 fp1 n1 P1 St1) (D2 : Draws P w A.in1 i2 fp2 n2 P2 St2)
    (wz : IsZipHeld s.heap z TI TO T f) (wT : s.heap.get? T = some oT) (wI : IsTupOf2 s.heap TI (.ref i1) (.ref i2)) (st1 : St1 i s.heap) (st2 : St2 i s.heap) (l1 : i < n1) (l2 : i < n2)
    (k : ∀ x y h' tk, P1 i x → P2 i y → IsZipHeld h' z TI TO T true → St1 (i + 1) h' → St2 (i + 1) h' → IsTupOf2 h' s.heap.objs.size x y → (∀ c o, c ≠ z → c ≠ i1 → c ≠ i2 → s.heap.get? c = some o → h'.get? c = some o) →
      Q (some (.ref s.heap.objs.size)) { s with heap := h', toks := tk }) : wpAny (model P w) A (pyNext (.ref z)) Q E s := by
  have ty : s.TypeIs (.ref z) "zip" := ⟨_, wz, rfl⟩
  unfold pyNext
  exact wpAny_bind (wpAny_attempt (wpAny_callSpecial?_slot (name := Str.ofString "__next__") ty F.slot_zip_next (wpAny_call_entry F.slot_zip_next ty F.entry_zip_next
    (out_item S D1 D2 wz wT wI st1 st2 l1 l2 fun x y h' tk a b c d e f g => wpAny_pure (k x y h' tk a b c d e f g)) (F.args_zip_next_1 _))))
theorem out_stop {Q : Option Value → Shared → Prop} (S : ZipSep2 z TI TO i1 i2 fp1 fp2) (D1 : Draws P w A.in1 i1 fp1 n1 P1 St1) (D2 : Draws P w A.in1 i2 fp2 n2 P2 St2)
    (wz : IsZipHeld s.heap z TI TO T f) (wT : s.heap.get? T = some oT) (wI : IsTupOf2 s.heap TI (.ref i1) (.ref i2)) (st1 : St1 i s.heap) (st2 : St2 i s.heap) (l1 : i ≤ n1) (l2 : i ≤ n2) (he : i = n1 ∨ i = n2)
    (k : ∀ h' tk, (∀ c o, c ≠ z → c ≠ i1 → c ≠ i2 → s.heap.get? c = some o → h'.get? c = some o) → Q none { s with heap := h', toks := tk }) : wpAny (model P w) A (pyNext (.ref z)) Q E s := by
  have ty : s.TypeIs (.ref z) "zip" := ⟨_, wz, rfl⟩
  unfold pyNext
  refine wpAny_bind (wpAny_attempt (wpAny_callSpecial?_slot (name := Str.ofString "__next__") ty F.slot_zip_next (wpAny_call_entry F.slot_zip_next ty F.entry_zip_next
    (out_end S D1 D2 wz wT wI st1 st2 l1 l2 he fun h' tk e hk hx => ?_) (F.args_zip_next_1 _))))
  obtain ⟨o, ho, hc⟩ := hx
  exact wpAny_bind (wpAny_isInstance (T := "StopIteration") (b := true) ⟨o, ho, hc⟩ isSubtype_stop (wpAny_pure (k _ _ hk)))
end
theorem IsA.at' {t : Bool} {h h' : Heap} {a : Addr} {its : Array Value} (q : IsA t h a its) (k : ∀ o, h.get? a = some o → h'.get? a = some o) : IsA t h' a its := by
  cases t with
  | true => exact (show h.IsTuple a its from q).at k
  | false => exact (show h.IsList a its from q).at k
theorem IsA.ob {t : Bool} {h : Heap} {a : Addr} {its : Array Value} (q : IsA t h a its) : ∃ o, h.get? a = some o := by
  cases t with
  | true => obtain ⟨o, e, _⟩ := (show h.IsTuple a its from q); exact ⟨o, e⟩
  | false => obtain ⟨o, e, _⟩ := (show h.IsList a its from q); exact ⟨o, e⟩
/-- zip(a, b) as the argument of dict() -/
theorem arg_zip {P : Program} {w : World} {t1 t2 : Bool} {z TI TO i1 i2 a b : Addr} {xs ys : Array Value} (S : ZipSep2 z TI TO i1 i2 [i1, a] [i2, b]) (n1 : a ≠ i1) (n2 : b ≠ i2) (n3 : z ≠ TI) :
    PairArg P w "zip" z [z, TI, TO, i1, i2, a, b] [z, TO, i1, i2] (min xs.size ys.size) (fun i k v => xs[i]? = some k ∧ ys[i]? = some v)
      (fun h => IsZip h z TI TO .none ∧ IsTupOf2 h TI (.ref i1) (.ref i2) ∧ (∃ u v, IsTupOf2 h TO u v) ∧ (ItA t1 h i1 a 0 ∧ IsA t1 h a xs) ∧ ItA t2 h i2 b 0 ∧ IsA t2 h b ys) where
  type := fun s ok => ⟨_, ok.1, rfl⟩
  notDict := by decide
  keep := fun h h' ok k => by
    obtain ⟨o1, o2, ⟨u, v, o3⟩, ⟨o4, o5⟩, o6, o7⟩ := ok
    exact ⟨k _ _ o1, k _ _ o2, ⟨u, v, k _ _ o3⟩, ⟨o4.at' fun o e => k _ o e, o5.at' fun o e => k _ o e⟩, o6.at' fun o e => k _ o e, o7.at' fun o e => k _ o e⟩
  there := fun h ok c hc => by
    obtain ⟨o1, o2, ⟨u, v, o3⟩, ⟨o4, o5⟩, o6, o7⟩ := ok
    simp only [List.mem_cons, List.not_mem_nil, or_false] at hc
    rcases hc with rfl | rfl | rfl | rfl | rfl | rfl | rfl
    · exact ⟨_, o1⟩
    · exact ⟨_, o2⟩
    · exact ⟨_, o3⟩
    · obtain ⟨o, e, _⟩ := o4.ob; exact ⟨o, e⟩
    · obtain ⟨o, e, _⟩ := o6.ob; exact ⟨o, e⟩
    · exact o5.ob
    · exact o7.ob
  sub := fun c hc => by
    simp at hc ⊢
    rcases hc with e | e | e | e <;> simp [e]
  noKeys := fun A s Q E hA ok k => getAttrOr_miss_zip ok.1 rfl rfl rfl zip_no_keys (by decide +kernel) hA k
  iter := fun A s d Q E hA ok hd hdf k => by
    obtain ⟨o1, o2, ⟨u, v, o3⟩, ⟨o4, o5⟩, o6, o7⟩ := ok
    simp only [List.mem_cons, List.not_mem_nil, or_false, not_or] at hdf
    obtain ⟨dz, dI, dO, d1, d2, da, db⟩ := hdf
    have D1 := draws_A (prog := P) (w := w) (A := A.in1) (by simp [hA]) t1 i1 a n1 xs
    have D2 := draws_A (prog := P) (w := w) (A := A.in1) (by simp [hA]) t2 i2 b n2 ys
    refine wpAny_pyIter_zip o1 (k z [z, TO, i1, i2] (fun i h => IsTupOf2 h TI (.ref i1) (.ref i2) ∧ (ItA t1 h i1 a i ∧ IsA t1 h a xs) ∧ (ItA t2 h i2 b i ∧ IsA t2 h b ys) ∧
      ((IsZip h z TI TO .none ∧ ∃ u v, IsTupOf2 h TO u v) ∨ ∃ T f oT, IsZipHeld h z TI TO T f ∧ h.get? T = some oT ∧ T ≠ z ∧ T ≠ i1 ∧ T ≠ i2 ∧ T ≠ d)) s.heap s.toks ?_ ⟨o2, ⟨o4, o5⟩, ⟨o6, o7⟩, .inl ⟨o1, u, v, o3⟩⟩ (fun _ _ e => e) fun c hc => .inl hc)
    refine { off := fun hm => ?_, frame := fun i h₁ h₂ st kp => ?_, item := fun i s₁ Q₁ E₁ hi st hds hQ => ?_, done := fun s₁ Q₁ E₁ st hQ => ?_ }
    · simp only [List.mem_cons, List.not_mem_nil, or_false] at hm
      rcases hm with e | e | e | e
      · exact dz e
      · exact dO e
      · exact d1 e
      · exact d2 e
    · obtain ⟨p1, ⟨p2, p3⟩, ⟨p4, p5⟩, p6⟩ := st
      refine ⟨kp _ _ (Ne.symm dI) p1, ⟨p2.at' fun o e => kp _ o (Ne.symm d1) e, p3.at' fun o e => kp _ o (Ne.symm da) e⟩, ⟨p4.at' fun o e => kp _ o (Ne.symm d2) e, p5.at' fun o e => kp _ o (Ne.symm db) e⟩, ?_⟩
      rcases p6 with ⟨wz, u, v, wO⟩ | ⟨T, f, oT, wz, wT, r1, r2, r3, r4⟩
      · exact .inl ⟨kp _ _ (Ne.symm dz) wz, u, v, kp _ _ (Ne.symm dO) wO⟩
      · exact .inr ⟨T, f, oT, kp _ _ (Ne.symm dz) wz, kp _ _ r4 wT, r1, r2, r3, r4⟩
    · obtain ⟨p1, st1, st2, p6⟩ := st
      have h1 : i < xs.size := by omega
      have h2 : i < ys.size := by omega
      have lt : ∀ {c : Addr} {o : Obj}, s₁.heap.get? c = some o → s₁.heap.objs.size ≠ c := fun e => Nat.ne_of_gt (Heap.lt_size e)
      have m1 : s₁.heap.objs.size ≠ i1 := Nat.ne_of_gt st1.1.lt
      have m2 : s₁.heap.objs.size ≠ i2 := Nat.ne_of_gt st2.1.lt
      rcases p6 with ⟨wz, u, v, wO⟩ | ⟨T, f, oT, wz, wT, r1, r2, r3, r4⟩
      · refine wpAny_pyNext_zipD2_item S D1 D2 wz p1 wO st1 st2 h1 h2 fun x y h' tk e1 e2 a1 a2 a3 a4 a5 a6 kp => ?_
        exact hQ s₁.heap.objs.size x y h' tk ⟨e1, e2⟩ (.inl ⟨_, a5, rfl, _, rfl⟩) ⟨kp _ _ S.TIz S.TITO S.TIi1 S.TIi2 p1, a3, a4, .inr ⟨s₁.heap.objs.size, false, _, a1, a5, lt wz, m1, m2, Nat.ne_of_gt hds⟩⟩
          fun c o hc e => kp c o (fun q => hc (by simp [q])) (fun q => hc (by simp [q])) (fun q => hc (by simp [q])) (fun q => hc (by simp [q])) e
      · refine out_next S D1 D2 wz wT p1 st1 st2 h1 h2 fun x y h' tk e1 e2 a1 a3 a4 a5 kp => ?_
        exact hQ s₁.heap.objs.size x y h' tk ⟨e1, e2⟩ (.inl ⟨_, a5, rfl, _, rfl⟩) ⟨kp _ _ S.TIz S.TIi1 S.TIi2 p1, a3, a4, .inr ⟨T, true, oT, a1, kp _ _ r1 r2 r3 wT, r1, r2, r3, r4⟩⟩
          fun c o hc e => kp c o (fun q => hc (by simp [q])) (fun q => hc (by simp [q])) (fun q => hc (by simp [q])) e
    · obtain ⟨p1, st1, st2, p6⟩ := st
      rcases p6 with ⟨wz, u, v, wO⟩ | ⟨T, f, oT, wz, wT, r1, r2, r3, r4⟩
      · exact wpAny_pyNext_zipD2_end S D1 D2 wz p1 wO st1 st2 (Nat.min_le_left ..) (Nat.min_le_right ..) (by omega) fun h' tk kp => hQ h' tk fun c o hc e => kp c o (fun q => hc (by simp [q])) (fun q => hc (by simp [q])) (fun q => hc (by simp [q])) (fun q => hc (by simp [q])) e
      · exact out_stop S D1 D2 wz wT p1 st1 st2 (Nat.min_le_left ..) (Nat.min_le_right ..) (by omega) fun h' tk kp => hQ h' tk fun c o hc e => kp c o (fun q => hc (by simp [q])) (fun q => hc (by simp [q])) (fun q => hc (by simp [q])) e

/-! ### the rule -/
theorem valV_zip {κ : Type} [DecidableEq κ] : ∀ {ks : List κ} {ys : List V}, ks.Nodup → ∀ {i : Nat} {k : κ} {y : V}, ks[i]? = some k → ys[i]? = some y → valV (ks.zip ys) k = some y
  | [], _, _, i, k, y, h, _ => by simp at h
  | _ :: _, [], _, i, k, y, _, h => by simp at h
  | c :: ks, u :: ys, nd, 0, k, y, h1, h2 => by
    simp at h1 h2
    subst h1 h2
    rw [List.zip_cons_cons]
    exact valV_pos rfl
  | c :: ks, u :: ys, nd, i + 1, k, y, h1, h2 => by
    have n2 := List.nodup_cons.mp nd
    have h3 : ks[i]? = some k := by simpa using h1
    rw [List.zip_cons_cons, valV_neg (fun e : c = k => n2.1 (e ▸ List.mem_of_getElem? h3))]
    exact valV_zip n2.2 h3 (by simpa using h2)
theorem merge_new : ∀ (more kvs : List (L2.Key × V)), ((kvs ++ more).map (·.1)).Nodup → mergeK kvs more = kvs ++ more
  | [], kvs, _ => by simp [mergeK]
  | p :: more, kvs, nd => by
    have e : kvs ++ p :: more = (kvs ++ [p]) ++ more := by simp
    rw [e] at nd ⊢
    rw [← merge_new more (kvs ++ [p]) nd]
    show mergeK (putK kvs p.1 p.2) more = _
    rw [putK_new]
    cases hv : valV kvs p.1 with
    | none => rfl
    | some w =>
      exfalso
      unfold valV at hv
      obtain ⟨q, hq, _⟩ := Option.map_eq_some_iff.mp hv
      have hm := List.mem_of_find?_eq_some hq
      have hk := List.find?_some hq
      have hk2 : q.1 = p.1 := by simpa using hk
      rw [List.map_append, List.map_append] at nd
      have nd2 := (List.nodup_append.mp nd).1
      have nd3 := (List.nodup_append.mp nd2).2.2
      exact nd3 q.1 (List.mem_map.mpr ⟨q, hm, rfl⟩) p.1 (by simp) hk2
theorem kv_zip : ∀ {ks : List L2.Key} {xs ys : List V} {us vs : List Value}, xs = ks.map kV → Vals xs us → Vals ys vs → KV (ks.zip ys) (ks.zip vs)
  | [], _, _, _, _, _, _, _ => .nil
  | k :: ks, _, [], _, _, e, r, q => by cases q; exact .nil
  | k :: ks, _, y :: ys, _, _, e, r, q => by
    subst e
    cases q with
    | cons q1 q2 =>
      rw [List.map_cons] at r
      cases r with
      | cons r1 r2 => exact .cons ⟨rfl, q1⟩ (kv_zip rfl r2 q2)
section
variable {X : Cx} {σ : St} {G H : Hp} {a b : Expr} {p p2 pos pos2 : Pos}
theorem ev_dictZip (t1 t2 : Bool) {ks : List Int} {es : List PyData} (hm : X.mg "dict" = none) (hm2 : X.mg "zip" = none) (g : Same G H) (ha : Ed X σ G H a (tagD t1 (dI ks))) (hb : Ed X σ G H b (tagD t2 es)) (hl : ks.length = es.length) (nd : ks.Nodup) (hz : ks.length ≤ 1000)
    (hc : X.calm = true := by rfl) (hg : Gl X "dict" := by rfl) (hg2 : Gl X "zip" := by rfl)
    (hs : starEach [.Call (.Name "zip" p2) [a, b] [] pos2] X.env = (false, eval (.Call (.Name "zip" p2) [a, b] [] pos2) X.env) :: starEach [] X.env := by rfl) (hpl : (backTo pos (starEach [] X.env)).any (·.1) = false := by rfl)
    (s1 : starEach [a, b] X.env = (false, eval a X.env) :: starEach [b] X.env := by rfl) (s2 : starEach [b] X.env = (false, eval b X.env) :: starEach [] X.env := by rfl) (hp2 : (backTo pos2 (starEach [b] X.env)).any (·.1) = false := by rfl) :
    Ev X σ G H (.Call (.Name "dict" p) [.Call (.Name "zip" p2) [a, b] [] pos2] [] pos) (fun v G2 H2 => ∃ d ys, v = .ref d ∧ H d = none ∧ G2 d = none ∧ H2 d = some (.dK ((ks.map Sum.inl).zip ys)) ∧ DaAll G2 ys es) := by
  refine ⟨fun Q q pins s I => ?_⟩
  refine Call_ (ld_blt I hg hm (show bootBuiltins "dict" = some (.type "dict") by decide +kernel) (PyProof.Rows.callWith_type1 ?_ hs hpl))
  rw [hs]
  refine Calls.spliced_cons (Call_ (ld_blt I hg2 hm2 PyProof.Rows.boot_zip (PyProof.Rows.callWith_type1 (thn ((ea_cons ha (ea_cons hb ea_nil s2) s1).run G H (.refl g) (fun vs H2 => ∃ G2, Grow G H G2 H2 ∧ DaAll G2 vs [tagD t1 (dI ks), tagD t2 es]) (fun vs G2 H2 g2 dvs => ⟨G2, g2, dvs⟩) pos2 pins s I) fun us s1 ⟨vs, H2, I2, r2, G2, g2, dvs⟩ => ?_) s1 hp2)))
  obtain ⟨v, u, rfl, dv, du⟩ := dvs.inv2
  obtain ⟨l, xs, rfl, hx, kx⟩ := dv.inv_A
  obtain ⟨m, ys, rfl, hy, ky⟩ := du.inv_A
  obtain ⟨e1, e2, rfl, re1, re2⟩ := r2.two
  cases (show e1 = Value.ref l from re1)
  cases (show e2 = Value.ref m from re2)
  have exs := DaAll.inv_ints hx
  obtain ⟨its, rx, pa, _⟩ := sqA_is I2 (kx _ _ g2.i)
  obtain ⟨jts, ry, pb, _⟩ := sqA_is I2 (ky _ _ g2.i)
  have l1 : l < s1.heap.objs.size := pa.lt
  have l2 : m < s1.heap.objs.size := pb.lt
  refine zip_begins2 (begins_A t1 l its.toArray) (begins_A t2 m jts.toArray) pa pb fun h2 hzz hI hO o1 o2 hsz hk => Calls.spliced_nil ?_
  have S := zip_sep2 (N := s1.heap.objs.size) (fp1 := [l]) (fp2 := [m]) (fun b hb => by rw [List.mem_singleton.mp hb]; exact l1) (fun b hb => by rw [List.mem_singleton.mp hb]; exact l2)
  have hlx : its.length = ks.length := by rw [← rx.length, hx.len, dI_length]
  have hly : jts.length = ks.length := by rw [← ry.length, hy.len, hl]
  have kv : KV ((ks.map Sum.inl).zip ys) ((ks.map (Sum.inl : Int → L2.Key)).zip jts) := kv_zip (xs := xs) (us := its) (by rw [exs, List.map_map]; rfl) rx ry
  have I3 : Inv X pins σ H2 { s1 with heap := h2 } := I2.kept (t' := s1.toks) hk
  refine PySem.call_dict_pairs (s := { s1 with heap := h2 }) (knd := mixKind X.prog X.w) (kvs := (ks.map (Sum.inl : Int → L2.Key)).zip jts) (arg_zip (t1 := t1) (t2 := t2) S (Nat.ne_of_lt l1) (Nat.ne_of_lt (Nat.lt_succ_of_lt l2)) S.TIz.symm) (I.ok.hd hc)
    ⟨hzz, hI, ⟨_, _, hO⟩, ⟨itA_new o1, pa.at' fun o e => hk _ o e⟩, itA_new o2, pb.at' fun o e => hk _ o e⟩ ⟨?_, fun i key v hr => ?_⟩ ?_ fun h' t' hd hk' => ?_
  · simp [hlx, hly]
  · obtain ⟨k1, k2⟩ := hr
    have k1' : its[i]? = some key := by simpa using k1
    have k2' : jts[i]? = some v := by simpa using k2
    have hi : i < ks.length := by rw [← hlx]; exact (List.getElem?_eq_some_iff.mp k1').1
    refine ⟨Sum.inl ks[i], ?_, ?_⟩
    · rw [List.getElem?_zip_eq_some]
      exact ⟨by simp [List.getElem?_eq_getElem hi], k2'⟩
    · have hxi : xs[i]? = some (kV (Sum.inl ks[i])) := by rw [exs]; simp [List.getElem?_eq_getElem hi, kV]
      obtain ⟨u', hu', ru⟩ := rx.get hxi
      rw [k1'] at hu'
      cases hu'
      exact kV_is ru
  · simp only [List.size_toArray, hlx, hly, Nat.min_self]
    exact Nat.le_trans hz (by decide)
  · have nd' : (((ks.map (Sum.inl : Int → L2.Key)).zip ys).map (·.1)).Nodup := by
      have e : ((ks.map (Sum.inl : Int → L2.Key)).zip ys).map (·.1) = ks.map Sum.inl := List.map_fst_zip (by rw [List.length_map, hl, hy.len]; exact Nat.le_refl _)
      rw [e]
      exact List.pairwise_map.mpr (nd.imp fun h e => h (by cases e; rfl))
    have km := kv.merge (kvs := []) (vs := []) .nil
    rw [merge_new _ [] (by simpa using nd'), List.nil_append] at km
    have fr := I3.hok.fresh (Nat.le_refl h2.objs.size)
    have lez : ((ks.map (Sum.inl : Int → L2.Key)).zip ys).length ≤ sizeLine := by
      rw [List.length_zip, List.length_map]
      exact Nat.le_trans (Nat.min_le_left ..) (Nat.le_trans hz (by decide))
    have big : (h2.objs.size == sysModules) = false := by
      have h0 : sysModules < h2.objs.size := I3.big
      exact beq_eq_false_iff_ne.mpr (Ne.symm (Nat.ne_of_lt h0))
    refine ⟨.ref h2.objs.size, upd H2 h2.objs.size (.dK ((ks.map Sum.inl).zip ys)), ?_, rfl, q _ G2 _ (g2.trans (.newH g2.i fr)) ⟨_, ys, rfl, g2.none_h fr, g2.i.free fr, upd_same, hy⟩⟩
    refine I2.laid (t' := t') (fun b o e => hk' b o (fun hm => ?_) (hk b o e)) (by omega) (dk_new lez big km hd)
    have hb := Heap.lt_size e
    simp only [List.mem_cons, List.not_mem_nil, or_false] at hm
    rcases hm with q | q | q | q <;> rw [q] at hb <;> first | exact absurd hb (Nat.lt_irrefl _) | exact absurd hb (Nat.not_lt.mpr (Nat.le_add_right _ _))
end
end Fk
end
section
set_option Elab.async false
set_option linter.all false
set_option maxRecDepth 100000
set_option maxHeartbeats 4000000
set_option pp.maxSteps 300
set_option pp.deepTerms false
/-! D5: stretches of ready cells. -/
namespace Fk
open PySem PySem.Spec L2
open PyProof.Rows hiding St
local macro_rules | `(tactic| walk_at "gr") => `(tactic| first | assumption | exact Same.refl _ | (refine Same.trans ?_ (Grow.g (by assumption)); walk_at "gr"))
local macro_rules | `(tactic| walk_at "da") => `(tactic| first | assumption | exact Da.int _ | exact Da.bl _ | exact Da.non | (refine Da.mono ?_ (by assumption); walk_at "gr"))
local macro_rules | `(tactic| walk_at "dp") => `(tactic| (simp only [PyData.depth, PyData.depthAll, depthAll_dI, depthAll_dN, Nat.max_zero, Nat.zero_max, Nat.max_self, Nat.min_self, Nat.zero_min, Nat.min_zero] <;> omega))
local macro_rules | `(tactic| walk_at "bt") => `(tactic| first | exact Bt.isi (by assumption) | exact Bt.int (by assumption) | exact Bt.bool (by assumption) | exact Bt.tuple (by assumption) | exact Bt.len (by assumption) | exact Bt.list (by assumption) | exact Bt.set (by assumption) | exact Bt.sorted (by assumption) | exact Bt.range (by assumption) | exact Bt.enum (by assumption) | exact Bt.zip (by assumption) | exact Bt.min (by assumption) | exact Bt.max (by assumption) | exact Bt.sum (by assumption) | exact Bt.dict (by assumption) | exact Bt.str (by assumption))
local macro_rules | `(tactic| walk_at "au") => `(tactic| first | (apply prop_id; assumption) | (show PySem.W.keepIn _ _ = true; assumption) | (show (_ : Option Value) = none; walk_at "bt") | rfl | (show min _ _ ≤ 64; first | decide | walk_at "dp") | (show _ ≤ sizeLine; first | assumption | (simp only [List.length_cons, List.length_nil]; decide)) | (show (_ : Nat) ≤ _; decide) | (show (_ == _) = false; decide) | (show _ ≠ _; decide) | (show behindInMarks _ _ = false; first | exact nomark _ | with_unfolding_all rfl) | (show lastMarks _ _ = false; with_unfolding_all rfl) | (show OpR _ _ _; first | exact op_le | exact op_lt | exact opI_eq | exact opI_ne) | exact (fun _ _ => rfl) | (show ∀ _, _ = _; intro _; rfl) | exact Or.inl rfl | exact Or.inr rfl)
local macro_rules | `(tactic| walk_at "dt") => `(tactic| first | show Bool | show Int | show PyData | show List PyData | show List Int | show Nat | show Option Int | show V)
local macro_rules | `(tactic| walk_at "Se1") => `(tactic| first | walk_at "dt" | walk_at "Sev" | walk_at "au" | (apply Side.mk; walk_at "au"))
local macro_rules | `(tactic| walk_at "Scm") => `(tactic| first | (apply cm_lt <;> walk_at "Se1") | (apply cm_le <;> walk_at "Se1") | (apply cm_gt <;> walk_at "Se1") | (apply cm_ge <;> walk_at "Se1") | (apply cm_eq <;> walk_at "Se1") | (apply cm_ne <;> walk_at "Se1") | (apply cm_inL <;> walk_at "Se1") | (apply cm_inT <;> walk_at "Se1") | (apply cm_niL <;> walk_at "Se1") | (apply cm_niT <;> walk_at "Se1") | (apply cm_is <;> walk_at "Se1") | (apply cm_isnot <;> walk_at "Se1"))
local macro_rules | `(tactic| walk_at "Set") => `(tactic| first | (apply et_cmp <;> walk_at "Se1") | (apply et_not <;> walk_at "Se1") | (apply et_w; walk_at "Sew") | (apply et_chain <;> walk_at "Se1") | (apply et_val <;> walk_at "Se1"))
local macro_rules | `(tactic| walk_at "Sew") => `(tactic| first | (apply ew_and <;> walk_at "Sew1") | (apply ew_or <;> walk_at "Sew1") | (apply ew_and1; walk_at "Sev") | (apply ew_or1; walk_at "Sev"))
local macro_rules | `(tactic| walk_at "Sew1") => `(tactic| first | walk_at "dt" | (show Et _ _ _ _ _ _; walk_at "Sev") | (intro _; walk_at "Sew"))
local macro_rules | `(tactic| walk_at "Sec") => `(tactic| first | (apply ed_not <;> walk_at "Se1") | (apply ed_and <;> walk_at "Se1") | (apply ed_or <;> walk_at "Se1") | (apply ed_one <;> walk_at "Se1") | (apply ed_cmp <;> walk_at "Se1") | (apply ed_chain <;> walk_at "Se1"))
local macro_rules | `(tactic| walk_at "Seb") => `(tactic| first | (apply ed_lenT <;> walk_at "Se1") | (apply ed_lenL <;> walk_at "Se1") | (apply ed_call <;> walk_at "Se1") | (apply ed_isInt <;> walk_at "Se1") | (apply ed_isBool <;> walk_at "Se1") | (apply ed_isTuple <;> walk_at "Se1") | (apply ed_isList <;> walk_at "Se1") | (apply ed_isStr <;> walk_at "Se1") | (apply ed_isTL <;> walk_at "Se1") | (apply ed_listOf <;> walk_at "Se1") | (apply ed_tupleOf <;> walk_at "Se1") | (apply ed_min2 <;> walk_at "Se1") | (apply ed_int1 <;> walk_at "Se1"))
local macro_rules | `(tactic| walk_at "Sei") => `(tactic| first | (apply ed_ixT <;> walk_at "Se1") | (apply ed_ixL <;> walk_at "Se1"))
local macro_rules | `(tactic| walk_at "Sex") => `(tactic| first | exact ed_int | exact ed_bl | exact ed_non | exact ed_nm rfl (by walk_at "da") | (apply ed_add <;> walk_at "Se1") | (apply ed_sub <;> walk_at "Se1") | (apply ed_neg <;> walk_at "Se1") | walk_at "Sei" | (apply ed_tup <;> walk_at "Se1") | (apply ed_lst <;> walk_at "Se1") | (apply ed_mod <;> walk_at "Se1") | (apply ed_ifI <;> walk_at "Se1") | (apply ed_if2 <;> walk_at "Se1") | (apply ed_slT <;> walk_at "Se1") | (apply ed_slL <;> walk_at "Se1") | (apply ed_catT <;> walk_at "Se1"))
local macro_rules | `(tactic| walk_at "Sev") => `(tactic| first | (show Ed _ _ _ _ _ _; first | walk_at "Sex" | walk_at "Seb" | walk_at "Sec") | (show Et _ _ _ _ _ _; walk_at "Set") | (show Cm _ _ _ _ _ _ _ _; walk_at "Scm") | (show Ea _ _ _ _ _ _; first | exact ea_nil | (apply ea_cons <;> walk_at "Se1")) | (show Eo _ _ _ _ _ _; first | exact eo_none | (apply eo_some; walk_at "Sev")) | (show Er _ _ _ _ _ _; exact er_nm rfl) | (show Ew _ _ _ _ _ _; walk_at "Sew") | (intro _; walk_at "Sev"))
local macro_rules | `(tactic| walk_at "e1") => `(tactic| first | walk_at "dt" | walk_at "ev" | walk_at "au" | (apply Side.mk; first | walk_at "au" | skip))
local macro_rules | `(tactic| walk_at "cm") => `(tactic| first | (apply cm_lt <;> walk_at "e1") | (apply cm_le <;> walk_at "e1") | (apply cm_gt <;> walk_at "e1") | (apply cm_ge <;> walk_at "e1") | (apply cm_eq <;> walk_at "e1") | (apply cm_ne <;> walk_at "e1") | (apply cm_inL <;> walk_at "e1") | (apply cm_inT <;> walk_at "e1") | (apply cm_niL <;> walk_at "e1") | (apply cm_niT <;> walk_at "e1") | (apply cm_is <;> walk_at "e1") | (apply cm_isnot <;> walk_at "e1"))
local macro_rules | `(tactic| walk_at "et") => `(tactic| first | (apply et_cmp <;> walk_at "e1") | (apply et_not <;> walk_at "e1") | (apply et_w; walk_at "ew") | (apply et_chain <;> walk_at "e1") | (apply et_val <;> walk_at "e1"))
local macro_rules | `(tactic| walk_at "ew") => `(tactic| first | (apply ew_and <;> walk_at "ew1") | (apply ew_or <;> walk_at "ew1") | (apply ew_and1; walk_at "ev") | (apply ew_or1; walk_at "ev"))
local macro_rules | `(tactic| walk_at "ew1") => `(tactic| first | walk_at "dt" | (show Et _ _ _ _ _ _; walk_at "ev") | (intro _; walk_at "ew"))
local macro_rules | `(tactic| walk_at "ec") => `(tactic| first | (apply ed_not <;> walk_at "e1") | (apply ed_and <;> walk_at "e1") | (apply ed_or <;> walk_at "e1") | (apply ed_one <;> walk_at "e1") | (apply ed_cmp <;> walk_at "e1") | (apply ed_chain <;> walk_at "e1"))
local macro_rules | `(tactic| walk_at "eb") => `(tactic| first | walk_at "Seb" | (apply ed_lenT <;> walk_at "e1") | (apply ed_lenL <;> walk_at "e1") | (apply ed_call <;> walk_at "e1") | (apply ed_isInt <;> walk_at "e1") | (apply ed_isBool <;> walk_at "e1") | (apply ed_isTuple <;> walk_at "e1") | (apply ed_isList <;> walk_at "e1") | (apply ed_isStr <;> walk_at "e1") | (apply ed_isTL <;> walk_at "e1") | (apply ed_listOf <;> walk_at "e1") | (apply ed_tupleOf <;> walk_at "e1") | (apply ed_min2 <;> walk_at "e1") | (apply ed_int1 <;> walk_at "e1"))
local macro_rules | `(tactic| walk_at "ei") => `(tactic| first | walk_at "Sei" | (apply ed_ixT <;> walk_at "e1") | (apply ed_ixL <;> walk_at "e1"))
local macro_rules | `(tactic| walk_at "ex") => `(tactic| first | exact ed_int | exact ed_bl | exact ed_non | exact ed_nm rfl (by walk_at "da") | (apply ed_add <;> walk_at "e1") | (apply ed_sub <;> walk_at "e1") | (apply ed_neg <;> walk_at "e1") | walk_at "ei" | (apply ed_tup <;> walk_at "e1") | (apply ed_lst <;> walk_at "e1") | (apply ed_mod <;> walk_at "e1") | (apply ed_ifI <;> walk_at "e1") | (apply ed_if2 <;> walk_at "e1") | (apply ed_slT <;> walk_at "e1") | (apply ed_slL <;> walk_at "e1") | (apply ed_catT <;> walk_at "e1"))
local macro_rules | `(tactic| walk_at "ev") => `(tactic| first | (show Ed _ _ _ _ _ _; first | walk_at "ex" | walk_at "eb" | walk_at "ec") | (show Et _ _ _ _ _ _; walk_at "et") | (show Cm _ _ _ _ _ _ _ _; walk_at "cm") | (show Ea _ _ _ _ _ _; first | exact ea_nil | (apply ea_cons <;> walk_at "e1")) | (show Eo _ _ _ _ _ _; first | exact eo_none | (apply eo_some; walk_at "ev")) | (show Er _ _ _ _ _ _; exact er_nm rfl) | (show Ew _ _ _ _ _ _; walk_at "ew") | (intro _; walk_at "ev"))
section
variable {X : Cx} {σ : St} {G H : Hp} {c : Expr} {body : List Stmt} {pos : Pos} {D : Ends}
/-- while c: body, M turns -/
theorem rs_while (M : Nat) (I : Nat → St → Hp → Hp → Prop) (g : Same G H) (h0 : I 0 σ G H) (ht : ∀ n σ1 G1 H1, n ≤ M → Same G G1 → Same G1 H1 → I n σ1 G1 H1 → Et X σ1 G1 H1 c (decide (n < M)))
    (h1 : ∀ n σ1 G1 H1 G2 H2, n < M → Same G G1 → Same G1 H1 → I n σ1 G1 H1 → Grow G1 H1 G2 H2 →
      RB X body { D with nx := fun σ' H' => ∃ G', Same G1 G' ∧ Same G' H' ∧ I (n + 1) σ' G' H', ct := fun σ' H' => ∃ G', Same G1 G' ∧ Same G' H' ∧ I (n + 1) σ' G' H', bk := D.nx } σ1 H2)
    (h2 : ∀ σ1 G1 H1 G2 H2, Same G G1 → I M σ1 G1 H1 → Grow G1 H1 G2 H2 → D.nx σ1 H2) (hp : PassesOwn (model X.prog X.w) X.A X.env X.xe := by exact PassesOwn.never) : RS X (.While c body [] pos) D σ H := by
  refine rs_of (ps_while hp pt_self pss_self) ?_
  refine ⟨fun m σ' H' => ∃ n G', m = M - n ∧ n ≤ M ∧ Same G G' ∧ Same G' H' ∧ I n σ' G' H', ⟨M, 0, G, rfl, Nat.zero_le _, .refl _, g, h0⟩, ?_⟩
  rintro m σ1 H1 ⟨n, G1, rfl, hn, s1, s2, hI⟩
  refine (ht n σ1 G1 H1 hn s1 s2 hI).run G1 H1 (.refl s2) _ fun G2 H2 g2 => ?_
  by_cases hlt : n < M
  · rw [decide_eq_true hlt, if_pos rfl]
    exact ⟨fun σ' H' => ∃ G', Same G1 G' ∧ Same G' H' ∧ I (n + 1) σ' G' H', fun σ' H' ⟨G', t1, t2, t3⟩ => ⟨M - (n + 1), by omega, n + 1, G', rfl, hlt, s1.trans t1, t2, t3⟩, h1 n σ1 G1 H1 G2 H2 hlt s1 s2 hI g2⟩
  · rw [decide_eq_false hlt, if_neg (by decide)]
    have e : n = M := by omega
    subst e
    exact h2 σ1 G1 H1 G2 H2 s1 hI g2
end
def tupN (s : List Nat) : PyData := .tuple (dN s)
def Ln.strs (L : Ln) : List (List Nat) := (L.starts.map L.stretch).mergeSort (PySem.W.dataLe false tupN)
def R_stretches_in : List PyData → PyData → Prop := fun ds d => ∃ L : Ln, L.Ok ∧ ds = [L.d] ∧ d = .list (L.strs.map tupN)
theorem rdy_dec {L : Ln} {k : Nat} (h : k < L.n) : decide (k ∈ L.ready) = L.rdy k := by
  rw [Bool.eq_iff_iff, decide_eq_true_eq, Ln.mem_ready]
  exact ⟨fun h => h.2, fun q => ⟨h, q⟩⟩
theorem tupN_ky (s : List Nat) : tupN s = kyD (s.map fun k : Nat => (k : Int)) := by
  unfold tupN kyD
  rw [dN_dI]
theorem merge_map {α β : Type} (f : α → β) (r : β → β → Bool) (l : List α) : (l.map f).mergeSort r = (l.mergeSort fun a b => r (f a) (f b)).map f := by
  have h := PySem.W.sort_each (R := fun (a : α) (b : β) => b = f a) (r := fun a b => r (f a) (f b)) (s := r) (as := l) (bs := l.map f) (each_at (by simp) fun i a b h1 h2 => by
    rw [List.getElem?_map, h1] at h2
    exact (Option.some.inj h2).symm) fun p hp q hq => by
    have e : ∀ p ∈ l.zip (l.map f), p.2 = f p.1 := by
      intro p hp
      obtain ⟨i, hi⟩ := List.mem_iff_getElem?.mp hp
      rw [List.getElem?_zip_eq_some, List.getElem?_map] at hi
      rw [hi.1] at hi
      exact (Option.some.inj hi.2).symm
    rw [e p hp, e q hq]
  have e2 : ∀ {as : List α} {bs : List β}, PySem.W.EachIs (fun (a : α) (b : β) => b = f a) as bs → bs = as.map f := by
    intro as bs h
    induction h with
    | nil => rfl
    | cons h1 _ ih => rw [h1, ih]; rfl
  exact e2 h
theorem take_filter {α : Type} {l : List α} {n : Nat} {x : α} (p : α → Bool) (h : l[n]? = some x) : (l.take (n + 1)).filter p = (l.take n).filter p ++ (if p x = true then [x] else []) := by
  rw [take_succ_get h, List.filter_append, List.filter_cons]
  rfl
section
variable {P : Program} {w : World} {K : PySem.W.Frag} {mg : Str → Option Value} {base : Heap}
set_option maxHeartbeats 2000000 in
theorem ok_stretches_in (D : Df K mg "stretches_in" s_stretches_in) (B : Bt mg) (O1 : Own P w K mg base "ready_in" 3 (spD R_ready_in)) : Own P w K mg base "stretches_in" 4 (spD R_stretches_in) := by
  refine Own.data D sc_stretches_in (fun _ _ _ _ _ _ us hl => match us, hl with | [_], _ => rfl) (fun ds d ⟨_, _, e, _⟩ => by rw [e]; rfl) ?_
  rintro f cdv A outer s H vs Q E hr G _ _ i0 hvs ⟨L, ok, rfl, rfl⟩ q
  obtain ⟨x1, rfl, h1⟩ := hvs.inv1
  have hR : R_ready_in [L.d] (.list (dN L.ready)) := ⟨L, ok, rfl, rfl⟩
  unfold Ln.d at h1 hR
  have hn1 := ok.one
  have hn2 := ok.most
  have hn : (0 : Int) < (L.n : Int) := by omega
  have rl : L.ready.length ≤ L.n := by
    have := List.length_filter_le L.rdy (List.range L.n)
    rw [List.length_range] at this
    exact this
  refine rb_cons (rs_par (Ea.par (ds := [.list (dN L.ready), .int (L.n : Int)]) ?_ i0) (fun vs G2 H2 p => p.len) sc_stretches_in.nd ?_)
  · rw [show (L.n : Int) = ((dI L.c).length : Int) from by rw [dI_length]; rfl]
    walk_at "ev"
  intro v u G1 H1 g1 hp
  have h2 := hp.hd
  have h3 := hp.tl.hd
  cases h3.inv_int
  refine rb_cons (rs_set (En.ev (en_lst ea_nil) g1.i) sc_stretches_in.nd ?_)
  rintro _ G2 H2 g2 ⟨p, xs, rfl, hp0, hpG, hpH, hxs⟩
  cases hxs.inv_nil
  have hp00 : H p = none := g1.none_h hp0
  refine rb_cons (rs_for (es_list (ds := dN L.ready) ?_) g2.i (fun n d hd => bd_name (i := 4) sc_stretches_in.nd)
    (fun n σ' G' H' => Grow G H G' H' ∧ Same G1 G' ∧ (∃ o o', σ' = [some x1, some v, some (.int (L.n : Int)), some (.ref p), o, o']) ∧ G' p = none ∧ ∃ xs, H' p = some (.lst xs) ∧ DaAll G' xs (((L.ready.take n).filter fun k => !L.rdy (L.lf k)).map fun k => tupN (L.stretch k))) ?_ ?_ ?_)
  · walk_at "ev"
  · intro G3 H3 g3
    exact ⟨(g1.trans g2).trans g3, g2.g.trans g3.g, ⟨none, none, rfl⟩, g3.n' hpG hpH, [], g3.h _ _ hpH, .nil⟩
  · rintro n d σ1 G3 H3 G4 H4 σ2 hd s1 s2 ⟨gb, sg, ⟨o, o', rfl⟩, hG3, xs, hH3, hxs⟩ g4 ⟨v', rfl, hv'⟩
    obtain ⟨k, hk, rfl⟩ := dN_get' hd
    cases hv'.inv_int
    have hkr := Ln.mem_ready.mp (List.mem_of_getElem? hk)
    have hkn := hkr.1
    have c2 := (h2.mono sg).mono g4.g
    have hH4 := g4.h _ _ hH3
    have hG4 := g4.n' hG3 hH3
    have hx4 := hxs.mono g4.g
    have gb4 := gb.trans g4
    have lc := lf_cast hkn
    have etest : (!((dN L.ready).any fun y => PyData.eqv y (.int (((k : Int) - 1) % (L.n : Int))))) = !L.rdy (L.lf k) := by
      rw [lc, any_dN, rdy_dec (Ln.lf_lt hn1 k)]
    refine rb_one (rs_if (k := !L.rdy (L.lf k)) ?_ g4.i ?_ ?_)
    · apply Et.is
      · walk_at "ev"
      · exact etest
    · intro ey G5 H5 g5
      have hst : k ∈ L.starts := Ln.mem_starts.mpr ⟨hkn, hkr.2, by simpa using ey⟩
      obtain ⟨en1, en2, en3, en4⟩ := Ln.en_spec hst
      refine rb_cons (rs_set (En.ev (en_lst (ds := [.int (L.lf k : Int), .int (k : Int)]) ?_ (show 2 ≤ sizeLine by decide)) g5.i) sc_stretches_in.nd ?_)
      · have e : (PyData.int (L.lf k : Int)) = .int (((k : Int) - 1) % (L.n : Int)) := by rw [lc]
        rw [e]
        walk_at "ev"
      rintro _ G6 H6 g6 ⟨r, ys, rfl, hr0, hrG, hrH, hys⟩
      have hH5 := g5.h _ _ hH4
      have hpr : r ≠ p := fun e => by subst e; rw [hH5] at hr0; cases hr0
      have gb6 := (gb4.trans g5).trans g6
      have hr00 : H r = none := (gb4.trans g5).none_h hr0
      refine rb_cons (rs_while (L.en k - 1) (fun t σ' G' H' => Grow G H G' H' ∧ Same G1 G' ∧ σ' = [some x1, some v, some (.int (L.n : Int)), some (.ref p), some (.int (k : Int)), some (.ref r)] ∧ G' p = none ∧ H' p = some (.lst xs) ∧
        DaAll G' xs (((L.ready.take n).filter fun k => !L.rdy (L.lf k)).map fun k => tupN (L.stretch k)) ∧ G' r = none ∧ ∃ ys, H' r = some (.lst ys) ∧ DaAll G' ys (dN ((List.range (t + 2)).map (L.it k)))) g6.i ?_ ?_ ?_ ?_)
      · refine ⟨gb6, sg.trans (g4.g.trans (g5.g.trans g6.g)), rfl, g6.n' (g5.n' hG4 hH4) hH5, g6.h _ _ hH5, (hx4.mono g5.g).mono g6.g, hrG, ys, hrH, ?_⟩
        have e : dN ((List.range (0 + 2)).map (L.it k)) = [.int (L.lf k : Int), .int (k : Int)] := by
          have e1 : (List.range 2).map (L.it k) = [L.lf k, k] := by
            show [L.it k 0, L.it k 1] = _
            rw [Ln.it_one hkn]
            rfl
          rw [show 0 + 2 = 2 from rfl, e1]
          rfl
        rw [e]
        exact hys
      · rintro t σ7 G7 H7 ht t1 t2 ⟨w1, w2, rfl, w3, w4, w5, w6, ys, w7, w8⟩
        have a1 : atI (dN ((List.range (t + 2)).map (L.it k))) (-1) = some (.int (L.it k (t + 1) : Int)) :=
          atI_neg (by decide) (j := t + 1) (by rw [dN_length, List.length_map, List.length_range]; omega) (dN_get (by rw [List.getElem?_map, List.getElem?_range (by omega)]; rfl))
        have c7 := h2.mono w2
        apply Et.is (b := (dN L.ready).any fun y => PyData.eqv y (.int (L.it k (t + 1) : Int)))
        · refine et_cmp (cm_inL (ds := dN L.ready) hr (ed_ixM (er_nm rfl) ?_ w7 w8 ⟨a1⟩) ?_)
          · exact ed_neg ed_int
          · walk_at "ev"
        · rw [any_dN, rdy_dec (Ln.it_lt hn1 k _)]
          by_cases hlt : t < L.en k - 1
          · rw [decide_eq_true hlt]
            exact en4 _ (by omega) (by omega)
          · rw [decide_eq_false hlt]
            have e : t + 1 = L.en k := by omega
            rw [e]
            exact en3
      · rintro t σ7 G7 H7 G8 H8 ht t1 t2 ⟨w1, w2, rfl, w3, w4, w5, w6, ys, w7, w8⟩ g8
        have a1 : atI (dN ((List.range (t + 2)).map (L.it k))) (-1) = some (.int (L.it k (t + 1) : Int)) :=
          atI_neg (by decide) (j := t + 1) (by rw [dN_length, List.length_map, List.length_range]; omega) (dN_get (by rw [List.getElem?_map, List.getElem?_range (by omega)]; rfl))
        have w7' := g8.h _ _ w7
        have w8' := w8.mono g8.g
        have hyl : ys.length = t + 2 := by rw [w8.len, dN_length, List.length_map, List.length_range]
        refine rb_one (rs_app (l := r) (xs := ys) (er_nm rfl) (fun G9 H9 g9 => Ed.ev (d := .int (L.it k (t + 2) : Int)) ?_ g9.i) g8.i w7' (by rw [hyl]; exact small40 (by omega)) ?_)
        · have e : (L.it k (t + 2) : Int) = ((L.it k (t + 1) : Int) + 1) % (L.n : Int) := by rw [rt_cast]; rfl
          rw [e]
          refine ed_mod (ed_add (ed_ixM (er_nm rfl) ?_ (g9.h _ _ w7') (w8'.mono g9.g) ⟨a1⟩) ?_) ?_ ⟨hn⟩
          · exact ed_neg ed_int
          · walk_at "ev"
          · walk_at "ev"
        · intro v9 G9 H9 g9 hv9
          have hG9 := g9.n' (g8.n' w6 w7) w7'
          have gg := (w1.trans g8).trans g9
          refine ⟨G9, g8.g.trans g9.g, same_mut g9.i hG9, gg.mut hr00 hG9, w2.trans (g8.g.trans g9.g), rfl, g9.n' (g8.n' w3 w4) (g8.h _ _ w4), ?_, (w5.mono g8.g).mono g9.g, hG9, _, upd_same, ?_⟩
          · rw [upd_ne (Ne.symm hpr)]
            exact g9.h _ _ (g8.h _ _ w4)
          · have e : (List.range (t + 1 + 2)).map (L.it k) = (List.range (t + 2)).map (L.it k) ++ [L.it k (t + 2)] := by
              rw [show t + 1 + 2 = (t + 2) + 1 from rfl, List.range_succ, List.map_append]
              rfl
            rw [e]
            unfold dN
            rw [List.map_append]
            exact (w8'.mono g9.g).snoc hv9
      · rintro σ7 G7 H7 G8 H8 t1 ⟨w1, w2, rfl, w3, w4, w5, w6, ys, w7, w8⟩ g8
        have w4' := g8.h _ _ w4
        have e2 : (List.range (L.en k - 1 + 2)).map (L.it k) = L.stretch k := by
          unfold Ln.stretch
          rw [show L.en k - 1 + 2 = L.en k + 1 by omega]
        rw [e2] at w8
        have xl : xs.length ≤ L.n := by
          rw [w5.len, List.length_map]
          refine Nat.le_trans (List.length_filter_le _ _) (Nat.le_trans (by rw [List.length_take]; exact Nat.min_le_right _ _) rl)
        refine rb_one (rs_app (l := p) (xs := xs) (er_nm rfl) (fun G9 H9 g9 => Ed.ev (d := tupN (L.stretch k)) ?_ g9.i) g8.i w4' (small40 (by omega)) ?_)
        · exact ed_tupleM B.tuple (er_nm rfl) (g9.h _ _ (g8.h _ _ w7)) ((w8.mono g8.g).mono g9.g)
        · intro v9 G9 H9 g9 hv9
          have hG9 := g9.n' (g8.n' w3 w4) w4'
          have gg := (w1.trans g8).trans g9
          refine ⟨G9, g4.g.trans (g5.g.trans (g6.g.trans (t1.trans (g8.g.trans g9.g)))), same_mut g9.i hG9, gg.mut hp00 hG9, w2.trans (g8.g.trans g9.g), ⟨_, _, rfl⟩, hG9, _, upd_same, ?_⟩
          rw [take_filter _ hk, if_pos ey, List.map_append]
          exact ((w5.mono g8.g).mono g9.g).snoc hv9
    · intro en G5 H5 g5
      refine rb_nil ⟨G5, g4.g.trans g5.g, g5.i, gb4.trans g5, sg.trans (g4.g.trans g5.g), ⟨_, _, rfl⟩, g5.n' hG4 hH4, xs, g5.h _ _ hH4, ?_⟩
      rw [take_filter _ hk, if_neg (by rw [en]; decide), List.append_nil]
      exact hx4.mono g5.g
  · rintro σ1 G3 H3 s1 s2 ⟨gb, sg, ⟨o, o', rfl⟩, hG3, xs, hH3, hxs⟩
    have e : L.ready.take (dN L.ready).length = L.ready := by rw [dN_length]; exact List.take_length
    rw [e] at hxs
    have e2 : ((L.ready.filter fun k => !L.rdy (L.lf k)).map fun k => tupN (L.stretch k)) = (L.starts.map L.stretch).map tupN := by
      rw [List.map_map]
      rfl
    rw [e2] at hxs
    have g4 := fix_list gb hp00 hG3 hH3
    have e3 : L.strs.map tupN = ((L.starts.map L.stretch).map tupN).mergeSort (PySem.W.dataLe false id) := by
      rw [merge_map]
      rfl
    have dl : Da (upd G3 p (.lst xs)) (.ref p) (.list ((L.starts.map L.stretch).map tupN)) := DaAll.lst upd_same (hxs.mono (same_new hG3))
    refine rb_one (rs_retD ?_ g4.i fun v' G' H' g' dv => q v' G' H' (g4.trans g') dv)
    rw [e3]
    have e4 : (L.starts.map L.stretch).map tupN = (((L.starts.map L.stretch).map fun s => s.map fun k : Nat => (k : Int)).map kyD) := by
      rw [List.map_map, List.map_map, List.map_map]
      exact List.map_congr_left fun s _ => tupN_ky _
    refine ed_sortedD B.sorted hr (ed_nm rfl dl) ?_ ?_ ?_ ?_
    · rw [e4]
      exact alikeAll_ky _
    · refine .inl fun d hd => ?_
      obtain ⟨s, hs, rfl⟩ := List.mem_map.mp hd
      obtain ⟨k, hk, rfl⟩ := List.mem_map.mp hs
      rw [tupN_ky]
      refine dI_ne fun h => ?_
      have := congrArg List.length h
      rw [List.length_map, Ln.stretch_len] at this
      cases this
    · rw [List.length_map, List.length_map]
      have : L.starts.length ≤ L.n := Nat.le_trans (List.length_filter_le _ _) rl
      exact Nat.le_of_lt (small40 (by omega))
    · intro d hd
      obtain ⟨s, hs, rfl⟩ := List.mem_map.mp hd
      rw [tupN_ky, depth_ky]
      decide
end
end Fk
end
section
set_option Elab.async false
set_option linter.all false
set_option maxRecDepth 100000
set_option maxHeartbeats 4000000
/-! D6: insides, paths, choices, marks, depths. -/
namespace Fk
open PySem PySem.Spec L2
open PyProof.Rows hiding St
local macro_rules | `(tactic| walk_at "gr") => `(tactic| first | assumption | exact Same.refl _ | (refine Same.trans ?_ (Grow.g (by assumption)); walk_at "gr"))
local macro_rules | `(tactic| walk_at "da") => `(tactic| first | assumption | exact Da.int _ | exact Da.bl _ | exact Da.non | (refine Da.mono ?_ (by assumption); walk_at "gr"))
local macro_rules | `(tactic| walk_at "dp") => `(tactic| (simp only [PyData.depth, PyData.depthAll, depthAll_dI, depthAll_dN, Nat.max_zero, Nat.zero_max, Nat.max_self, Nat.min_self, Nat.zero_min, Nat.min_zero] <;> omega))
local macro_rules | `(tactic| walk_at "bt") => `(tactic| first | exact Bt.isi (by assumption) | exact Bt.int (by assumption) | exact Bt.bool (by assumption) | exact Bt.tuple (by assumption) | exact Bt.len (by assumption) | exact Bt.list (by assumption) | exact Bt.set (by assumption) | exact Bt.sorted (by assumption) | exact Bt.range (by assumption) | exact Bt.enum (by assumption) | exact Bt.zip (by assumption) | exact Bt.min (by assumption) | exact Bt.max (by assumption) | exact Bt.sum (by assumption) | exact Bt.dict (by assumption) | exact Bt.str (by assumption))
local macro_rules | `(tactic| walk_at "au") => `(tactic| first | (apply prop_id; assumption) | (show PySem.W.keepIn _ _ = true; assumption) | (show (_ : Option Value) = none; walk_at "bt") | rfl | (show min _ _ ≤ 64; first | decide | walk_at "dp") | (show _ ≤ sizeLine; first | assumption | (simp only [List.length_cons, List.length_nil]; decide)) | (show (_ : Nat) ≤ _; decide) | (show (_ == _) = false; decide) | (show _ ≠ _; decide) | (show behindInMarks _ _ = false; first | exact nomark _ | with_unfolding_all rfl) | (show lastMarks _ _ = false; with_unfolding_all rfl) | (show OpR _ _ _; first | exact op_le | exact op_lt | exact opI_eq | exact opI_ne) | exact (fun _ _ => rfl) | (show ∀ _, _ = _; intro _; rfl) | exact Or.inl rfl | exact Or.inr rfl)
local macro_rules | `(tactic| walk_at "dt") => `(tactic| first | show Bool | show Int | show PyData | show List PyData | show List Int | show Nat | show Option Int | show V)
local macro_rules | `(tactic| walk_at "Se1") => `(tactic| first | walk_at "dt" | walk_at "Sev" | walk_at "au" | (apply Side.mk; walk_at "au"))
local macro_rules | `(tactic| walk_at "Scm") => `(tactic| first | (apply cm_lt <;> walk_at "Se1") | (apply cm_le <;> walk_at "Se1") | (apply cm_gt <;> walk_at "Se1") | (apply cm_ge <;> walk_at "Se1") | (apply cm_eq <;> walk_at "Se1") | (apply cm_ne <;> walk_at "Se1") | (apply cm_inL <;> walk_at "Se1") | (apply cm_inT <;> walk_at "Se1") | (apply cm_niL <;> walk_at "Se1") | (apply cm_niT <;> walk_at "Se1") | (apply cm_is <;> walk_at "Se1") | (apply cm_isnot <;> walk_at "Se1"))
local macro_rules | `(tactic| walk_at "Set") => `(tactic| first | (apply et_cmp <;> walk_at "Se1") | (apply et_not <;> walk_at "Se1") | (apply et_w; walk_at "Sew") | (apply et_chain <;> walk_at "Se1") | (apply et_val <;> walk_at "Se1"))
local macro_rules | `(tactic| walk_at "Sew") => `(tactic| first | (apply ew_and <;> walk_at "Sew1") | (apply ew_or <;> walk_at "Sew1") | (apply ew_and1; walk_at "Sev") | (apply ew_or1; walk_at "Sev"))
local macro_rules | `(tactic| walk_at "Sew1") => `(tactic| first | walk_at "dt" | (show Et _ _ _ _ _ _; walk_at "Sev") | (intro _; walk_at "Sew"))
local macro_rules | `(tactic| walk_at "Sec") => `(tactic| first | (apply ed_not <;> walk_at "Se1") | (apply ed_and <;> walk_at "Se1") | (apply ed_or <;> walk_at "Se1") | (apply ed_one <;> walk_at "Se1") | (apply ed_cmp <;> walk_at "Se1") | (apply ed_chain <;> walk_at "Se1"))
local macro_rules | `(tactic| walk_at "Seb") => `(tactic| first | (apply ed_lenT <;> walk_at "Se1") | (apply ed_lenL <;> walk_at "Se1") | (apply ed_call <;> walk_at "Se1") | (apply ed_isInt <;> walk_at "Se1") | (apply ed_isBool <;> walk_at "Se1") | (apply ed_isTuple <;> walk_at "Se1") | (apply ed_isList <;> walk_at "Se1") | (apply ed_isStr <;> walk_at "Se1") | (apply ed_isTL <;> walk_at "Se1") | (apply ed_listOf <;> walk_at "Se1") | (apply ed_tupleOf <;> walk_at "Se1") | (apply ed_min2 <;> walk_at "Se1") | (apply ed_int1 <;> walk_at "Se1"))
local macro_rules | `(tactic| walk_at "Sei") => `(tactic| first | (apply ed_ixT <;> walk_at "Se1") | (apply ed_ixL <;> walk_at "Se1"))
local macro_rules | `(tactic| walk_at "Sex") => `(tactic| first | exact ed_int | exact ed_bl | exact ed_non | exact ed_nm rfl (by walk_at "da") | (apply ed_add <;> walk_at "Se1") | (apply ed_sub <;> walk_at "Se1") | (apply ed_neg <;> walk_at "Se1") | walk_at "Sei" | (apply ed_tup <;> walk_at "Se1") | (apply ed_lst <;> walk_at "Se1") | (apply ed_mod <;> walk_at "Se1") | (apply ed_ifI <;> walk_at "Se1") | (apply ed_if2 <;> walk_at "Se1") | (apply ed_slT <;> walk_at "Se1") | (apply ed_slL <;> walk_at "Se1") | (apply ed_catT <;> walk_at "Se1"))
local macro_rules | `(tactic| walk_at "Sev") => `(tactic| first | (show Ed _ _ _ _ _ _; first | walk_at "Sex" | walk_at "Seb" | walk_at "Sec") | (show Et _ _ _ _ _ _; walk_at "Set") | (show Cm _ _ _ _ _ _ _ _; walk_at "Scm") | (show Ea _ _ _ _ _ _; first | exact ea_nil | (apply ea_cons <;> walk_at "Se1")) | (show Eo _ _ _ _ _ _; first | exact eo_none | (apply eo_some; walk_at "Sev")) | (show Er _ _ _ _ _ _; exact er_nm rfl) | (show Ew _ _ _ _ _ _; walk_at "Sew") | (intro _; walk_at "Sev"))
local macro_rules | `(tactic| walk_at "e1") => `(tactic| first | walk_at "dt" | walk_at "ev" | walk_at "au" | (apply Side.mk; first | walk_at "au" | skip))
local macro_rules | `(tactic| walk_at "cm") => `(tactic| first | (apply cm_lt <;> walk_at "e1") | (apply cm_le <;> walk_at "e1") | (apply cm_gt <;> walk_at "e1") | (apply cm_ge <;> walk_at "e1") | (apply cm_eq <;> walk_at "e1") | (apply cm_ne <;> walk_at "e1") | (apply cm_inL <;> walk_at "e1") | (apply cm_inT <;> walk_at "e1") | (apply cm_niL <;> walk_at "e1") | (apply cm_niT <;> walk_at "e1") | (apply cm_is <;> walk_at "e1") | (apply cm_isnot <;> walk_at "e1"))
local macro_rules | `(tactic| walk_at "et") => `(tactic| first | (apply et_cmp <;> walk_at "e1") | (apply et_not <;> walk_at "e1") | (apply et_w; walk_at "ew") | (apply et_chain <;> walk_at "e1") | (apply et_val <;> walk_at "e1"))
local macro_rules | `(tactic| walk_at "ew") => `(tactic| first | (apply ew_and <;> walk_at "ew1") | (apply ew_or <;> walk_at "ew1") | (apply ew_and1; walk_at "ev") | (apply ew_or1; walk_at "ev"))
local macro_rules | `(tactic| walk_at "ew1") => `(tactic| first | walk_at "dt" | (show Et _ _ _ _ _ _; walk_at "ev") | (intro _; walk_at "ew"))
local macro_rules | `(tactic| walk_at "ec") => `(tactic| first | (apply ed_not <;> walk_at "e1") | (apply ed_and <;> walk_at "e1") | (apply ed_or <;> walk_at "e1") | (apply ed_one <;> walk_at "e1") | (apply ed_cmp <;> walk_at "e1") | (apply ed_chain <;> walk_at "e1"))
local macro_rules | `(tactic| walk_at "eb") => `(tactic| first | walk_at "Seb" | (apply ed_lenT <;> walk_at "e1") | (apply ed_lenL <;> walk_at "e1") | (apply ed_call <;> walk_at "e1") | (apply ed_isInt <;> walk_at "e1") | (apply ed_isBool <;> walk_at "e1") | (apply ed_isTuple <;> walk_at "e1") | (apply ed_isList <;> walk_at "e1") | (apply ed_isStr <;> walk_at "e1") | (apply ed_isTL <;> walk_at "e1") | (apply ed_listOf <;> walk_at "e1") | (apply ed_tupleOf <;> walk_at "e1") | (apply ed_min2 <;> walk_at "e1") | (apply ed_int1 <;> walk_at "e1"))
local macro_rules | `(tactic| walk_at "ei") => `(tactic| first | walk_at "Sei" | (apply ed_ixT <;> walk_at "e1") | (apply ed_ixL <;> walk_at "e1"))
local macro_rules | `(tactic| walk_at "ex") => `(tactic| first | exact ed_int | exact ed_bl | exact ed_non | exact ed_nm rfl (by walk_at "da") | (apply ed_add <;> walk_at "e1") | (apply ed_sub <;> walk_at "e1") | (apply ed_neg <;> walk_at "e1") | walk_at "ei" | (apply ed_tup <;> walk_at "e1") | (apply ed_lst <;> walk_at "e1") | (apply ed_mod <;> walk_at "e1") | (apply ed_ifI <;> walk_at "e1") | (apply ed_if2 <;> walk_at "e1") | (apply ed_slT <;> walk_at "e1") | (apply ed_slL <;> walk_at "e1") | (apply ed_catT <;> walk_at "e1"))
local macro_rules | `(tactic| walk_at "ev") => `(tactic| first | (show Ed _ _ _ _ _ _; first | walk_at "ex" | walk_at "eb" | walk_at "ec") | (show Et _ _ _ _ _ _; walk_at "et") | (show Cm _ _ _ _ _ _ _ _; walk_at "cm") | (show Ea _ _ _ _ _ _; first | exact ea_nil | (apply ea_cons <;> walk_at "e1")) | (show Eo _ _ _ _ _ _; first | exact eo_none | (apply eo_some; walk_at "ev")) | (show Er _ _ _ _ _ _; exact er_nm rfl) | (show Ew _ _ _ _ _ _; walk_at "ew") | (intro _; walk_at "ev"))
theorem range_map {α β : Type} (l : List α) (z : α) (f : α → β) : (List.range l.length).map (fun i => f (l.getD i z)) = l.map f := by
  apply List.ext_getElem (by simp)
  intro i h1 h2
  have h3 : i < l.length := by simpa using h2
  simp [List.getD_eq_getElem?_getD, List.getElem?_eq_getElem h3]
theorem map_get' {α β : Type} {l : List α} {f : α → β} {i : Nat} {d : β} (h : (l.map f)[i]? = some d) : ∃ x, l[i]? = some x ∧ d = f x := by
  rw [List.getElem?_map] at h
  cases q : l[i]? with
  | none => rw [q] at h; cases h
  | some x => rw [q] at h; exact ⟨x, rfl, (Option.some.inj h).symm⟩
theorem getD_of {α : Type} {l : List α} {i : Nat} {x z : α} (h : l[i]? = some x) : l.getD i z = x := by rw [List.getD_eq_getElem?_getD, h]; rfl
/-! slices of cells -/
def cutN (l : List Nat) (lo hi : Option Int) : List Nat := (l.drop (HT.sIx l.length 0 lo)).take (HT.sIx l.length l.length hi - HT.sIx l.length 0 lo)
theorem cutP_dN (l : List Nat) (lo hi : Option Int) : cutP (dN l) lo hi = dN (cutN l lo hi) := by
  unfold cutP cutN
  rw [dN_length]
  unfold dN
  rw [List.map_take, List.map_drop]
def lastN (m : List Nat) (k : Nat) : List Nat := m.drop (m.length - k)
theorem cut_last {m : List Nat} {z : Int} {k : Nat} (e : z = -(k : Int)) (h : 0 < k) : cutN m (some z) none = lastN m k := by
  subst e
  have e1 : HT.sIx m.length 0 (some (-(k : Int))) = m.length - k := by
    show (if (-(k : Int)) < 0 then (-(k : Int) + (m.length : Int)).toNat else _) = _
    rw [if_pos (by omega)]
    omega
  unfold cutN lastN
  rw [e1]
  exact List.take_of_length_le (by rw [List.length_drop]; exact Nat.le_refl _)
theorem cut_first {m : List Nat} {z : Int} {k : Nat} (e : z = (k : Int)) : cutN m none (some z) = m.take k := by
  subst e
  unfold cutN
  rw [HT.sIx_none, HT.sIx_nat, List.drop_zero, Nat.sub_zero]
  by_cases h : k ≤ m.length
  · rw [Nat.min_eq_left h]
  · rw [Nat.min_eq_right (by omega), List.take_of_length_le (Nat.le_refl _), List.take_of_length_le (by omega)]
theorem cut_mid {m : List Nat} {a b : Int} {i j : Nat} (e : a = (i : Int)) (f : b = (j : Int)) : cutN m (some a) (some b) = (m.take j).drop i := by
  subst e f
  unfold cutN
  rw [HT.sIx_nat, HT.sIx_nat]
  apply List.ext_getElem?
  intro t
  simp only [List.getElem?_take, List.getElem?_drop]
  by_cases h1 : t < min j m.length - min i m.length
  · rw [if_pos h1, if_pos (by omega)]
    congr 1
    omega
  · rw [if_neg h1]
    by_cases h2 : i + t < j
    · rw [if_pos h2]
      exact (List.getElem?_eq_none (by omega)).symm
    · rw [if_neg h2]
theorem cut_from {m : List Nat} {a : Int} {i : Nat} (e : a = (i : Int)) : cutN m (some a) none = m.drop i := by
  subst e
  unfold cutN
  rw [HT.sIx_nat, HT.sIx_none]
  by_cases h : i ≤ m.length
  · rw [Nat.min_eq_left h]
    exact List.take_of_length_le (by rw [List.length_drop]; exact Nat.le_refl _)
  · rw [Nat.min_eq_right (by omega), Nat.sub_self, List.take_zero, List.drop_eq_nil_of_le (by omega)]
/-- without the first and the last -/
def inner (s : List Nat) : List Nat := (s.drop 1).take (s.length - 2)
theorem cut_inner (s : List Nat) : cutN s (some 1) (some (-1)) = inner s := by
  unfold cutN inner
  have e1 : HT.sIx s.length 0 (some 1) = min 1 s.length := HT.sIx_nat s.length 0 1
  have e2 : HT.sIx s.length s.length (some (-1)) = s.length - 1 := by
    show (if (-1 : Int) < 0 then (-1 + (s.length : Int)).toNat else min (-1 : Int).toNat s.length) = _
    rw [if_pos (by decide)]
    omega
  rw [e1, e2]
  cases s with
  | nil => rfl
  | cons x r =>
    have : min 1 (x :: r).length = 1 := by simp
    rw [this]
    simp
theorem Ln.strs_len (L : Ln) : L.strs.length ≤ L.n := by
  unfold Ln.strs
  rw [List.length_mergeSort, List.length_map]
  have h1 : L.starts.length ≤ L.ready.length := List.length_filter_le _ _
  have h2 : L.ready.length ≤ (List.range L.n).length := List.length_filter_le _ _
  rw [List.length_range] at h2
  omega
def lstN (s : List Nat) : PyData := .list (dN s)
def R_insides : List PyData → PyData → Prop := fun ds d => ∃ L : Ln, L.Ok ∧ ds = [L.d] ∧ d = .list (L.strs.map fun s => lstN (inner s))
def Ln.paths (L : Ln) : List (List Nat) := if L.swings then [L.ready] else L.strs.map inner
def R_paths_in : List PyData → PyData → Prop := fun ds d => ∃ L : Ln, L.Ok ∧ ds = [L.d] ∧ d = .tuple [.list (L.paths.map lstN), .bool L.swings]
def R_choices : List PyData → PyData → Prop := fun ds d => ∃ (L : Ln) (k : Nat), L.Ok ∧ k < L.n ∧ ds = [L.d, .tuple (List.replicate L.n .none), .int (k : Int)] ∧ d = .list [.bool true, .bool true]
def going (m : List Nat) (pl : Nat) (ring : Bool) : Bool := !decide (lastN m 2 = [1, 1]) && (!decide (lastN m 3 = [0, 0, 0]) && (ring || (!decide (pl = 1) || !decide (lastN m 2 = [0, 0]))))
def R_is_going : List PyData → PyData → Prop := fun ds d => ∃ (m : List Nat) (pl : Nat) (ring : Bool), ds = [tupN m, .int (pl : Int), .bool ring, .bool true] ∧ d = .bool (going m pl ring)
def closed (a b : List Nat) (ring : Bool) : Bool := if ring then !decide (((b ++ a).take 3).drop 1 = [1, 1]) && (!decide ((b ++ a).take 3 = [0, 0, 0]) && !decide ((b ++ a).drop 1 = [0, 0, 0])) else !(decide (b = [0, 0]) || decide (b = [0]))
def R_is_closed : List PyData → PyData → Prop := fun ds d => ∃ (a b : List Nat) (ring : Bool), a.length + b.length ≤ 1000 ∧ ds = [tupN a, tupN b, .bool ring, .bool true] ∧ d = .bool (closed a b ring)
theorem dN_inj {a b : List Nat} : dN a = dN b ↔ a = b := by
  constructor
  · intro h
    unfold dN at h
    exact (List.map_inj_right (f := fun k : Nat => PyData.int (k : Int)) (fun x y e => by injection e with e; exact Int.ofNat.inj e)).mp h
  · exact fun e => e ▸ rfl
theorem eqv_tupN (a b : List Nat) : PyData.eqv (.tuple (dN a)) (.tuple (dN b)) = decide (a = b) := by
  rw [PyData.eqv, dN_dI, dN_dI, eqvAll_dI, Bool.eq_iff_iff, decide_eq_true_eq, decide_eq_true_eq]
  exact List.map_inj_right fun x y e => Int.ofNat.inj e
section
variable {P : Program} {w : World} {K : PySem.W.Frag} {mg : Str → Option Value} {base : Heap}
set_option maxHeartbeats 1000000 in
theorem ok_insides (D : Df K mg "insides" s_insides) (B : Bt mg) (O1 : Own P w K mg base "stretches_in" 4 (spD R_stretches_in)) : Own P w K mg base "insides" 5 (spD R_insides) := by
  refine Own.data D sc_insides (fun _ _ _ _ _ _ us hl => match us, hl with | [_], _ => rfl) (fun ds d ⟨_, _, e, _⟩ => by rw [e]; rfl) ?_
  rintro f cdv A outer s H vs Q E hr G _ _ i0 hvs ⟨L, ok, rfl, rfl⟩ q
  obtain ⟨x1, rfl, h1⟩ := hvs.inv1
  have hR : R_stretches_in [L.d] (.list (L.strs.map tupN)) := ⟨L, ok, rfl, rfl⟩
  refine rb_one (rs_retD (En.ed (en_lc0 (own := [("one", 1)]) (S := fun _ => Sn 1) (fun i => lstN (inner (L.strs.getD i []))) sc_insides.nd (es_list (ds := L.strs.map tupN) ?_) (blkOk_by (N := N_insides) (sc := defScope s_insides) (by decide +kernel)) (fun s0 H0 C cl fp i d hd => bd_name sc_insides.nd) ?_ ?_ ?_)) i0 ?_)
  · walk_at "ev"
  · rintro i d G' σ2 ⟨v, rfl, _⟩
    rfl
  · rintro s0 H0 C cl fp i d σ2 G' H' g' hd ⟨v, rfl, hv⟩
    obtain ⟨one, ho, rfl⟩ := map_get' hd
    rw [getD_of ho]
    apply Ed.is
    · refine ed_listOf (ds := cutP (dN one) (some 1) (some (-1))) B.list ?_ (.inr rfl)
      unfold tupN at hv
      walk_at "ev"
    · rw [cutP_dN, cut_inner]
      rfl
  · rw [List.length_map]
    have := L.strs_len
    have := ok.most
    omega
  · intro v G' H' g' dv
    rw [List.length_map, range_map L.strs [] fun s => lstN (inner s)] at dv
    exact q v G' H' g' dv
set_option maxHeartbeats 1000000 in
theorem ok_paths_in (D : Df K mg "paths_in" s_paths_in) (B : Bt mg) (O1 : Own P w K mg base "swings_in" 4 (spD R_swings_in)) (O2 : Own P w K mg base "ready_in" 3 (spD R_ready_in)) (O3 : Own P w K mg base "insides" 5 (spD R_insides)) : Own P w K mg base "paths_in" 6 (spD R_paths_in) := by
  refine Own.data D sc_paths_in (fun _ _ _ _ _ _ us hl => match us, hl with | [_], _ => rfl) (fun ds d ⟨_, _, e, _⟩ => by rw [e]; rfl) ?_
  rintro f cdv A outer s H vs Q E hr G _ _ i0 hvs ⟨L, ok, rfl, rfl⟩ q
  obtain ⟨x1, rfl, h1⟩ := hvs.inv1
  have hR1 : R_swings_in [L.d] (.bool L.swings) := ⟨L, ok, rfl, rfl⟩
  have hR2 : R_ready_in [L.d] (.list (dN L.ready)) := ⟨L, ok, rfl, rfl⟩
  have hR3 : R_insides [L.d] (.list (L.strs.map fun s => lstN (inner s))) := ⟨L, ok, rfl, rfl⟩
  refine rb_cons (rs_if (k := L.swings) ?_ i0 ?_ ?_)
  · walk_at "ev"
  · intro e G1 H1 g1
    refine rb_one (rs_retD ?_ g1.i fun v G' H' g' dv => q v G' H' (g1.trans g') dv)
    unfold Ln.paths
    rw [if_pos e, e]
    show Ed _ _ _ _ _ (.tuple [.list [.list (dN L.ready)], .bool true])
    walk_at "ev"
  · intro e G1 H1 g1
    refine rb_nil (rb_one (rs_retD ?_ g1.i fun v G' H' g' dv => q v G' H' (g1.trans g') dv))
    unfold Ln.paths
    rw [if_neg (by rw [e]; decide), e, List.map_map]
    show Ed _ _ _ _ _ (.tuple [.list (L.strs.map fun s => lstN (inner s)), .bool false])
    walk_at "ev"
set_option maxHeartbeats 1000000 in
theorem ok_choices (D : Df K mg "choices" s_choices) (B : Bt mg) : Own P w K mg base "choices" 1 (spD R_choices) := by
  refine Own.data D sc_choices (fun _ _ _ _ _ _ us hl => match us, hl with | [_, _, _], _ => rfl) (fun ds d ⟨_, _, _, _, e, _⟩ => by rw [e]; rfl) ?_
  rintro f cdv A outer s H vs Q E hr G _ _ i0 hvs ⟨L, k, ok, hk, rfl, rfl⟩ q
  obtain ⟨x1, x2, x3, rfl, h1, h2, h3⟩ := hvs.inv3
  unfold Ln.d at h1
  have a1 := Ln.at_ (L := L) (z := k) rfl hk
  have a2 := Ln.at_lf (L := L) (z := k) rfl hk
  refine rb_cons (rs_par (Ea.par (ds := [.int (L.col k), .int (L.col (L.lf k))]) ?_ i0) (fun vs G2 H2 p => p.len) sc_choices.nd ?_)
  · walk_at "ev"
  intro v u G1 H1 g1 hp
  have h4 := hp.hd
  have h5 := hp.tl.hd
  have a3 : atI (List.replicate L.n PyData.none) (k : Int) = some .none := atI_nat (by rw [List.getElem?_replicate, if_pos hk])
  refine rb_one (rs_retD ?_ g1.i fun v' G' H' g' dv => q v' G' H' (g1.trans g') dv)
  apply Ed.is
  · walk_at "ev"
  · simp [PyData.eqv]
set_option maxHeartbeats 1000000 in
theorem ok_is_going (D : Df K mg "is_going" s_is_going) (B : Bt mg) : Own P w K mg base "is_going" 1 (spD R_is_going) := by
  refine Own.data D sc_is_going (fun _ _ _ _ _ _ us hl => match us, hl with | [_, _, _, _], _ => rfl) (fun ds d ⟨_, _, _, e, _⟩ => by rw [e]; rfl) ?_
  rintro f cdv A outer s H vs Q E hr G _ _ i0 hvs ⟨m, pl, ring, rfl, rfl⟩ q
  obtain ⟨x1, x2, x3, x4, rfl, h1, h2, h3, h4⟩ := hvs.inv4
  unfold tupN at h1
  have e2 : cutP (dN m) (some (-2)) none = dN (lastN m 2) := by rw [cutP_dN, cut_last (z := -2) (k := 2) rfl (by decide)]
  have e3 : cutP (dN m) (some (-3)) none = dN (lastN m 3) := by rw [cutP_dN, cut_last (z := -3) (k := 3) rfl (by decide)]
  have t11 : PyData.eqv (.tuple (cutP (dN m) (some (-2)) none)) (.tuple [.int 1, .int 1]) = decide (lastN m 2 = [1, 1]) := by rw [e2]; exact eqv_tupN _ [1, 1]
  have t00 : PyData.eqv (.tuple (cutP (dN m) (some (-2)) none)) (.tuple [.int 0, .int 0]) = decide (lastN m 2 = [0, 0]) := by rw [e2]; exact eqv_tupN _ [0, 0]
  have t000 : PyData.eqv (.tuple (cutP (dN m) (some (-3)) none)) (.tuple [.int 0, .int 0, .int 0]) = decide (lastN m 3 = [0, 0, 0]) := by rw [e3]; exact eqv_tupN _ [0, 0, 0]
  have dp : ∀ n : Nat, PyData.depthAll (cutP (dN m) (some (-2)) none) = 0 ∧ PyData.depthAll (cutP (dN m) (some (-3)) none) = 0 := fun _ => by rw [e2, e3]; exact ⟨depthAll_dN _, depthAll_dN _⟩
  refine rb_cons (rs_if (k := decide (lastN m 2 = [1, 1])) ?_ i0 ?_ ?_)
  · apply Et.is
    · apply et_cmp
      · refine cm_eq hr (d := .tuple (cutP (dN m) (some (-2)) none)) (d' := .tuple [.int 1, .int 1]) ?_ ?_ ?_
        · walk_at "ev"
        · walk_at "ev"
        · simp [PyData.depth, PyData.depthAll, (dp 0).1]
      · walk_at "au"
    · exact t11
  · intro e G1 H1 g1
    refine rb_one (rs_retD ?_ g1.i fun v' G' H' g' dv => q v' G' H' (g1.trans g') dv)
    unfold going
    rw [e]
    exact ed_bl
  · intro e G1 H1 g1
    refine rb_nil (rb_cons (rs_skip (Et.is (b := !true) ?_ rfl) g1.i ?_))
    · walk_at "ev"
    intro G2 H2 g2
    have g12 := g1.trans g2
    refine rb_one (rs_retD ?_ g2.i fun v' G' H' g' dv => q v' G' H' (g12.trans g') dv)
    unfold going
    rw [e]
    show Ed _ _ _ _ _ (.bool (!decide (lastN m 3 = [0, 0, 0]) && (ring || (!decide (pl = 1) || !decide (lastN m 2 = [0, 0])))))
    have ep : decide (pl = 1) = PyData.eqv (.int (pl : Int)) (.int 1) := by
      rw [PyData.eqv, beq_dec, Bool.eq_iff_iff, decide_eq_true_eq, decide_eq_true_eq]
      omega
    rw [← t000, ← t00, ep]
    apply ed_and
    · refine ed_cmp (cm_ne hr (d := .tuple (cutP (dN m) (some (-3)) none)) (d' := .tuple [.int 0, .int 0, .int 0]) ?_ ?_ ?_)
      · walk_at "ev"
      · walk_at "ev"
      · simp [PyData.depth, PyData.depthAll, (dp 0).2]
    · intro _
      apply ed_one
      apply ed_or
      · walk_at "ev"
      · intro _
        apply ed_or
        · refine ed_cmp (cm_ne hr (d := .int (pl : Int)) (d' := .int 1) ?_ ?_ (by simp [PyData.depth]))
          · walk_at "ev"
          · walk_at "ev"
        · intro _
          apply ed_one
          refine ed_cmp (cm_ne hr (d := .tuple (cutP (dN m) (some (-2)) none)) (d' := .tuple [.int 0, .int 0]) ?_ ?_ ?_)
          · walk_at "ev"
          · walk_at "ev"
          · simp [PyData.depth, PyData.depthAll, (dp 0).1]
end
end Fk
end
section
set_option Elab.async false
set_option linter.all false
set_option maxRecDepth 100000
set_option maxHeartbeats 4000000
/-! D7: is_closed, sets of marks, depths. -/
namespace Fk
open PySem PySem.Spec L2
open PyProof.Rows hiding St
local macro_rules | `(tactic| walk_at "gr") => `(tactic| first | assumption | exact Same.refl _ | (refine Same.trans ?_ (Grow.g (by assumption)); walk_at "gr"))
local macro_rules | `(tactic| walk_at "da") => `(tactic| first | assumption | exact Da.int _ | exact Da.bl _ | exact Da.non | (refine Da.mono ?_ (by assumption); walk_at "gr"))
local macro_rules | `(tactic| walk_at "dp") => `(tactic| (simp only [PyData.depth, PyData.depthAll, depthAll_dI, depthAll_dN, Nat.max_zero, Nat.zero_max, Nat.max_self, Nat.min_self, Nat.zero_min, Nat.min_zero] <;> omega))
local macro_rules | `(tactic| walk_at "bt") => `(tactic| first | exact Bt.isi (by assumption) | exact Bt.int (by assumption) | exact Bt.bool (by assumption) | exact Bt.tuple (by assumption) | exact Bt.len (by assumption) | exact Bt.list (by assumption) | exact Bt.set (by assumption) | exact Bt.sorted (by assumption) | exact Bt.range (by assumption) | exact Bt.enum (by assumption) | exact Bt.zip (by assumption) | exact Bt.min (by assumption) | exact Bt.max (by assumption) | exact Bt.sum (by assumption) | exact Bt.dict (by assumption) | exact Bt.str (by assumption))
local macro_rules | `(tactic| walk_at "au") => `(tactic| first | (apply prop_id; assumption) | (show PySem.W.keepIn _ _ = true; assumption) | (show (_ : Option Value) = none; walk_at "bt") | rfl | (show min _ _ ≤ 64; first | decide | walk_at "dp") | (show _ ≤ sizeLine; first | assumption | (simp only [List.length_cons, List.length_nil]; decide)) | (show (_ : Nat) ≤ _; decide) | (show (_ == _) = false; decide) | (show _ ≠ _; decide) | (show behindInMarks _ _ = false; first | exact nomark _ | with_unfolding_all rfl) | (show lastMarks _ _ = false; with_unfolding_all rfl) | (show OpR _ _ _; first | exact op_le | exact op_lt | exact opI_eq | exact opI_ne) | exact (fun _ _ => rfl) | (show ∀ _, _ = _; intro _; rfl) | exact Or.inl rfl | exact Or.inr rfl)
local macro_rules | `(tactic| walk_at "dt") => `(tactic| first | show Bool | show Int | show PyData | show List PyData | show List Int | show Nat | show Option Int | show V)
local macro_rules | `(tactic| walk_at "Se1") => `(tactic| first | walk_at "dt" | walk_at "Sev" | walk_at "au" | (apply Side.mk; walk_at "au"))
local macro_rules | `(tactic| walk_at "Scm") => `(tactic| first | (apply cm_lt <;> walk_at "Se1") | (apply cm_le <;> walk_at "Se1") | (apply cm_gt <;> walk_at "Se1") | (apply cm_ge <;> walk_at "Se1") | (apply cm_eq <;> walk_at "Se1") | (apply cm_ne <;> walk_at "Se1") | (apply cm_inL <;> walk_at "Se1") | (apply cm_inT <;> walk_at "Se1") | (apply cm_niL <;> walk_at "Se1") | (apply cm_niT <;> walk_at "Se1") | (apply cm_is <;> walk_at "Se1") | (apply cm_isnot <;> walk_at "Se1"))
local macro_rules | `(tactic| walk_at "Set") => `(tactic| first | (apply et_cmp <;> walk_at "Se1") | (apply et_not <;> walk_at "Se1") | (apply et_w; walk_at "Sew") | (apply et_chain <;> walk_at "Se1") | (apply et_val <;> walk_at "Se1"))
local macro_rules | `(tactic| walk_at "Sew") => `(tactic| first | (apply ew_and <;> walk_at "Sew1") | (apply ew_or <;> walk_at "Sew1") | (apply ew_and1; walk_at "Sev") | (apply ew_or1; walk_at "Sev"))
local macro_rules | `(tactic| walk_at "Sew1") => `(tactic| first | walk_at "dt" | (show Et _ _ _ _ _ _; walk_at "Sev") | (intro _; walk_at "Sew"))
local macro_rules | `(tactic| walk_at "Sec") => `(tactic| first | (apply ed_not <;> walk_at "Se1") | (apply ed_and <;> walk_at "Se1") | (apply ed_or <;> walk_at "Se1") | (apply ed_one <;> walk_at "Se1") | (apply ed_cmp <;> walk_at "Se1") | (apply ed_chain <;> walk_at "Se1"))
local macro_rules | `(tactic| walk_at "Seb") => `(tactic| first | (apply ed_lenT <;> walk_at "Se1") | (apply ed_lenL <;> walk_at "Se1") | (apply ed_call <;> walk_at "Se1") | (apply ed_isInt <;> walk_at "Se1") | (apply ed_isBool <;> walk_at "Se1") | (apply ed_isTuple <;> walk_at "Se1") | (apply ed_isList <;> walk_at "Se1") | (apply ed_isStr <;> walk_at "Se1") | (apply ed_isTL <;> walk_at "Se1") | (apply ed_listOf <;> walk_at "Se1") | (apply ed_tupleOf <;> walk_at "Se1") | (apply ed_min2 <;> walk_at "Se1") | (apply ed_int1 <;> walk_at "Se1"))
local macro_rules | `(tactic| walk_at "Sei") => `(tactic| first | (apply ed_ixT <;> walk_at "Se1") | (apply ed_ixL <;> walk_at "Se1"))
local macro_rules | `(tactic| walk_at "Sex") => `(tactic| first | exact ed_int | exact ed_bl | exact ed_non | exact ed_nm rfl (by walk_at "da") | (apply ed_add <;> walk_at "Se1") | (apply ed_sub <;> walk_at "Se1") | (apply ed_neg <;> walk_at "Se1") | walk_at "Sei" | (apply ed_tup <;> walk_at "Se1") | (apply ed_lst <;> walk_at "Se1") | (apply ed_mod <;> walk_at "Se1") | (apply ed_ifI <;> walk_at "Se1") | (apply ed_if2 <;> walk_at "Se1") | (apply ed_slT <;> walk_at "Se1") | (apply ed_slL <;> walk_at "Se1") | (apply ed_catT <;> walk_at "Se1"))
local macro_rules | `(tactic| walk_at "Sev") => `(tactic| first | (show Ed _ _ _ _ _ _; first | walk_at "Sex" | walk_at "Seb" | walk_at "Sec") | (show Et _ _ _ _ _ _; walk_at "Set") | (show Cm _ _ _ _ _ _ _ _; walk_at "Scm") | (show Ea _ _ _ _ _ _; first | exact ea_nil | (apply ea_cons <;> walk_at "Se1")) | (show Eo _ _ _ _ _ _; first | exact eo_none | (apply eo_some; walk_at "Sev")) | (show Er _ _ _ _ _ _; exact er_nm rfl) | (show Ew _ _ _ _ _ _; walk_at "Sew") | (intro _; walk_at "Sev"))
local macro_rules | `(tactic| walk_at "e1") => `(tactic| first | walk_at "dt" | walk_at "ev" | walk_at "au" | (apply Side.mk; first | walk_at "au" | skip))
local macro_rules | `(tactic| walk_at "cm") => `(tactic| first | (apply cm_lt <;> walk_at "e1") | (apply cm_le <;> walk_at "e1") | (apply cm_gt <;> walk_at "e1") | (apply cm_ge <;> walk_at "e1") | (apply cm_eq <;> walk_at "e1") | (apply cm_ne <;> walk_at "e1") | (apply cm_inL <;> walk_at "e1") | (apply cm_inT <;> walk_at "e1") | (apply cm_niL <;> walk_at "e1") | (apply cm_niT <;> walk_at "e1") | (apply cm_is <;> walk_at "e1") | (apply cm_isnot <;> walk_at "e1"))
local macro_rules | `(tactic| walk_at "et") => `(tactic| first | (apply et_cmp <;> walk_at "e1") | (apply et_not <;> walk_at "e1") | (apply et_w; walk_at "ew") | (apply et_chain <;> walk_at "e1") | (apply et_val <;> walk_at "e1"))
local macro_rules | `(tactic| walk_at "ew") => `(tactic| first | (apply ew_and <;> walk_at "ew1") | (apply ew_or <;> walk_at "ew1") | (apply ew_and1; walk_at "ev") | (apply ew_or1; walk_at "ev"))
local macro_rules | `(tactic| walk_at "ew1") => `(tactic| first | walk_at "dt" | (show Et _ _ _ _ _ _; walk_at "ev") | (intro _; walk_at "ew"))
local macro_rules | `(tactic| walk_at "ec") => `(tactic| first | (apply ed_not <;> walk_at "e1") | (apply ed_and <;> walk_at "e1") | (apply ed_or <;> walk_at "e1") | (apply ed_one <;> walk_at "e1") | (apply ed_cmp <;> walk_at "e1") | (apply ed_chain <;> walk_at "e1"))
local macro_rules | `(tactic| walk_at "eb") => `(tactic| first | walk_at "Seb" | (apply ed_lenT <;> walk_at "e1") | (apply ed_lenL <;> walk_at "e1") | (apply ed_call <;> walk_at "e1") | (apply ed_isInt <;> walk_at "e1") | (apply ed_isBool <;> walk_at "e1") | (apply ed_isTuple <;> walk_at "e1") | (apply ed_isList <;> walk_at "e1") | (apply ed_isStr <;> walk_at "e1") | (apply ed_isTL <;> walk_at "e1") | (apply ed_listOf <;> walk_at "e1") | (apply ed_tupleOf <;> walk_at "e1") | (apply ed_min2 <;> walk_at "e1") | (apply ed_int1 <;> walk_at "e1"))
local macro_rules | `(tactic| walk_at "ei") => `(tactic| first | walk_at "Sei" | (apply ed_ixT <;> walk_at "e1") | (apply ed_ixL <;> walk_at "e1"))
local macro_rules | `(tactic| walk_at "ex") => `(tactic| first | exact ed_int | exact ed_bl | exact ed_non | exact ed_nm rfl (by walk_at "da") | (apply ed_add <;> walk_at "e1") | (apply ed_sub <;> walk_at "e1") | (apply ed_neg <;> walk_at "e1") | walk_at "ei" | (apply ed_tup <;> walk_at "e1") | (apply ed_lst <;> walk_at "e1") | (apply ed_mod <;> walk_at "e1") | (apply ed_ifI <;> walk_at "e1") | (apply ed_if2 <;> walk_at "e1") | (apply ed_slT <;> walk_at "e1") | (apply ed_slL <;> walk_at "e1") | (apply ed_catT <;> walk_at "e1"))
local macro_rules | `(tactic| walk_at "ev") => `(tactic| first | (show Ed _ _ _ _ _ _; first | walk_at "ex" | walk_at "eb" | walk_at "ec") | (show Et _ _ _ _ _ _; walk_at "et") | (show Cm _ _ _ _ _ _ _ _; walk_at "cm") | (show Ea _ _ _ _ _ _; first | exact ea_nil | (apply ea_cons <;> walk_at "e1")) | (show Eo _ _ _ _ _ _; first | exact eo_none | (apply eo_some; walk_at "ev")) | (show Er _ _ _ _ _ _; exact er_nm rfl) | (show Ew _ _ _ _ _ _; walk_at "ew") | (intro _; walk_at "ev"))
theorem opNotInD {X : Cx} : OpR X (compareOp .NotIn) (fun x y H Q => ∃ d ds, Da H x d ∧ Da H y (.tuple ds) ∧ X.A.units + 1 + d.depth < cLine ∧ Q (.bl (!ds.any fun y => PyData.eqv y d)) H) := by
  intro pins s σ H x y v u Q I rx ry h
  obtain ⟨d, ds, hd, he, hu, q⟩ := h
  obtain ⟨as, r1⟩ := hd.reads (.refl _) I rx
  obtain ⟨bs, r2⟩ := he.reads (.refl _) I ry
  have hp := he.plain
  rw [PyData.plain] at hp
  exact PySem.SeqAt.notIn_tuple_data r2 r1 hp hd.plain (by omega) ⟨.bl _, H, I, rfl, q⟩
theorem cm_niD {X : Cx} {σ : St} {G H : Hp} {a b : Expr} {d : PyData} {k : Nat} {ds : List PyData} (hr : Room k X.A) (ha : Ed X σ G H a d) (hb : Ed X σ G H b (.tuple ds)) (hd : d.depth ≤ 60) : Cm X σ G H .NotIn a b (!ds.any fun y => PyData.eqv y d) :=
  cm_of opNotInD ha hb fun x y G2 H2 g dx dy Q q => ⟨d, ds, dx.mono g.i, dy.mono g.i, by have := hr.un; omega, q⟩
section
variable {P : Program} {w : World} {K : PySem.W.Frag} {mg : Str → Option Value} {base : Heap}
set_option maxHeartbeats 1000000 in
theorem ok_is_closed (D : Df K mg "is_closed" s_is_closed) (B : Bt mg) : Own P w K mg base "is_closed" 1 (spD R_is_closed) := by
  refine Own.data D sc_is_closed (fun _ _ _ _ _ _ us hl => match us, hl with | [_, _, _, _], _ => rfl) (fun ds d ⟨_, _, _, _, e, _⟩ => by rw [e]; rfl) ?_
  rintro f cdv A outer s H vs Q E hr G _ _ i0 hvs ⟨a, b, ring, hz, rfl, rfl⟩ q
  obtain ⟨x1, x2, x3, x4, rfl, h1, h2, h3, h4⟩ := hvs.inv4
  unfold tupN at h1 h2
  refine rb_cons (rs_if (k := ring) ?_ i0 ?_ ?_)
  · walk_at "ev"
  · intro e G1 H1 g1
    subst e
    refine rb_cons (rs_setD (d := .tuple (dN (b ++ a))) ?_ g1.i sc_is_closed.nd ?_)
    · have e : dN (b ++ a) = dN b ++ dN a := by unfold dN; rw [List.map_append]
      rw [e]
      refine ed_catT ?_ ?_ ⟨by rw [dN_length, dN_length]; exact Nat.le_trans (by omega) (show 1000 ≤ sizeLine by decide)⟩
      · walk_at "ev"
      · walk_at "ev"
    intro v G2 H2 g2 hv
    have g12 := g1.trans g2
    have t1 : PyData.eqv (.tuple (cutP (dN (b ++ a)) (some 1) (some 3))) (.tuple [.int 1, .int 1]) = decide (((b ++ a).take 3).drop 1 = [1, 1]) := by
      rw [cutP_dN, cut_mid (a := 1) (b := 3) (i := 1) (j := 3) rfl rfl]; exact eqv_tupN _ [1, 1]
    have t2 : PyData.eqv (.tuple (cutP (dN (b ++ a)) none (some 3))) (.tuple [.int 0, .int 0, .int 0]) = decide ((b ++ a).take 3 = [0, 0, 0]) := by
      rw [cutP_dN, cut_first (z := 3) (k := 3) rfl]; exact eqv_tupN _ [0, 0, 0]
    have t3 : PyData.eqv (.tuple (cutP (dN (b ++ a)) (some 1) none)) (.tuple [.int 0, .int 0, .int 0]) = decide ((b ++ a).drop 1 = [0, 0, 0]) := by
      rw [cutP_dN, cut_from (a := 1) (i := 1) rfl]; exact eqv_tupN _ [0, 0, 0]
    have dp : ∀ lo hi, (PyData.tuple (cutP (dN (b ++ a)) lo hi)).depth = 1 := fun lo hi => by rw [cutP_dN, PyData.depth, depthAll_dN]
    refine rb_cons (rs_if (k := decide (((b ++ a).take 3).drop 1 = [1, 1])) ?_ g2.i ?_ ?_)
    · refine Et.is (et_cmp (cm_eq hr (d := .tuple (cutP (dN (b ++ a)) (some 1) (some 3))) (d' := .tuple [.int 1, .int 1]) ?_ ?_ (by rw [dp]; exact Nat.le_trans (Nat.min_le_left _ _) (by decide)))) t1
      · walk_at "ev"
      · walk_at "ev"
    · intro e G3 H3 g3
      refine rb_one (rs_retD ?_ g3.i fun v' G' H' g' dv => q v' G' H' ((g12.trans g3).trans g') dv)
      unfold closed
      rw [if_pos rfl, e]
      exact ed_bl
    · intro e G3 H3 g3
      refine rb_nil (rb_one (rs_retD ?_ g3.i fun v' G' H' g' dv => q v' G' H' ((g12.trans g3).trans g') dv))
      unfold closed
      rw [if_pos rfl, e, ← t2, ← t3]
      refine Ed.is (d := .bool (!true || (!PyData.eqv (.tuple (cutP (dN (b ++ a)) none (some 3))) (.tuple [.int 0, .int 0, .int 0]) && !PyData.eqv (.tuple (cutP (dN (b ++ a)) (some 1) none)) (.tuple [.int 0, .int 0, .int 0])))) ?_ (by simp)
      apply ed_or
      · walk_at "ev"
      · intro _
        apply ed_one
        apply ed_and
        · refine ed_cmp (cm_ne hr (d := .tuple (cutP (dN (b ++ a)) none (some 3))) (d' := .tuple [.int 0, .int 0, .int 0]) ?_ ?_ (by rw [dp]; exact Nat.le_trans (Nat.min_le_left _ _) (by decide)))
          · walk_at "ev"
          · walk_at "ev"
        · intro _
          apply ed_one
          refine ed_cmp (cm_ne hr (d := .tuple (cutP (dN (b ++ a)) (some 1) none)) (d' := .tuple [.int 0, .int 0, .int 0]) ?_ ?_ (by rw [dp]; exact Nat.le_trans (Nat.min_le_left _ _) (by decide)))
          · walk_at "ev"
          · walk_at "ev"
  · intro e G1 H1 g1
    subst e
    refine rb_nil (rb_one (rs_retD ?_ g1.i fun v' G' H' g' dv => q v' G' H' (g1.trans g') dv))
    unfold closed
    rw [if_neg (by decide)]
    have t : ([PyData.tuple [.int 0, .int 0], .tuple [.int 0]].any fun y => PyData.eqv y (.tuple (dN b))) = (decide (b = [0, 0]) || decide (b = [0])) := by
      have e1 : PyData.eqv (.tuple [.int 0, .int 0]) (.tuple (dN b)) = decide ([0, 0] = b) := eqv_tupN [0, 0] b
      have e2 : PyData.eqv (.tuple [.int 0]) (.tuple (dN b)) = decide ([0] = b) := eqv_tupN [0] b
      rw [List.any_cons, List.any_cons, List.any_nil, e1, e2, Bool.or_false]
      congr 1 <;> (rw [Bool.eq_iff_iff, decide_eq_true_eq, decide_eq_true_eq]; exact eq_comm)
    refine Ed.is (d := .bool (!true || !([PyData.tuple [.int 0, .int 0], .tuple [.int 0]].any fun y => PyData.eqv y (.tuple (dN b))))) ?_ (by rw [t]; simp)
    apply ed_or
    · walk_at "ev"
    · intro _
      apply ed_one
      refine ed_cmp (cm_niD hr (d := .tuple (dN b)) ?_ ?_ ?_)
      · walk_at "ev"
      · walk_at "ev"
      · rw [PyData.depth, depthAll_dN]; decide
end
end Fk
end
section
set_option Elab.async false
set_option linter.all false
set_option maxRecDepth 100000
set_option maxHeartbeats 4000000
/-! D8: sets of marks. -/
namespace Fk
open PySem PySem.Spec L2
open PyProof.Rows hiding St
local macro_rules | `(tactic| walk_at "gr") => `(tactic| first | assumption | exact Same.refl _ | (refine Same.trans ?_ (Grow.g (by assumption)); walk_at "gr"))
local macro_rules | `(tactic| walk_at "da") => `(tactic| first | assumption | exact Da.int _ | exact Da.bl _ | exact Da.non | (refine Da.mono ?_ (by assumption); walk_at "gr"))
local macro_rules | `(tactic| walk_at "dp") => `(tactic| (simp only [PyData.depth, PyData.depthAll, depthAll_dI, depthAll_dN, Nat.max_zero, Nat.zero_max, Nat.max_self, Nat.min_self, Nat.zero_min, Nat.min_zero] <;> omega))
local macro_rules | `(tactic| walk_at "bt") => `(tactic| first | exact Bt.isi (by assumption) | exact Bt.int (by assumption) | exact Bt.bool (by assumption) | exact Bt.tuple (by assumption) | exact Bt.len (by assumption) | exact Bt.list (by assumption) | exact Bt.set (by assumption) | exact Bt.sorted (by assumption) | exact Bt.range (by assumption) | exact Bt.enum (by assumption) | exact Bt.zip (by assumption) | exact Bt.min (by assumption) | exact Bt.max (by assumption) | exact Bt.sum (by assumption) | exact Bt.dict (by assumption) | exact Bt.str (by assumption))
local macro_rules | `(tactic| walk_at "au") => `(tactic| first | (apply prop_id; assumption) | (show PySem.W.keepIn _ _ = true; assumption) | (show (_ : Option Value) = none; walk_at "bt") | rfl | (show min _ _ ≤ 64; first | decide | walk_at "dp") | (show _ ≤ sizeLine; first | assumption | (simp only [List.length_cons, List.length_nil]; decide)) | (show (_ : Nat) ≤ _; decide) | (show (_ == _) = false; decide) | (show _ ≠ _; decide) | (show behindInMarks _ _ = false; first | exact nomark _ | with_unfolding_all rfl) | (show lastMarks _ _ = false; with_unfolding_all rfl) | (show OpR _ _ _; first | exact op_le | exact op_lt | exact opI_eq | exact opI_ne) | exact (fun _ _ => rfl) | (show ∀ _, _ = _; intro _; rfl) | exact Or.inl rfl | exact Or.inr rfl)
local macro_rules | `(tactic| walk_at "dt") => `(tactic| first | show Bool | show Int | show PyData | show List PyData | show List Int | show Nat | show Option Int | show V)
local macro_rules | `(tactic| walk_at "Se1") => `(tactic| first | walk_at "dt" | walk_at "Sev" | walk_at "au" | (apply Side.mk; walk_at "au"))
local macro_rules | `(tactic| walk_at "Scm") => `(tactic| first | (apply cm_lt <;> walk_at "Se1") | (apply cm_le <;> walk_at "Se1") | (apply cm_gt <;> walk_at "Se1") | (apply cm_ge <;> walk_at "Se1") | (apply cm_eq <;> walk_at "Se1") | (apply cm_ne <;> walk_at "Se1") | (apply cm_inL <;> walk_at "Se1") | (apply cm_inT <;> walk_at "Se1") | (apply cm_niL <;> walk_at "Se1") | (apply cm_niT <;> walk_at "Se1") | (apply cm_is <;> walk_at "Se1") | (apply cm_isnot <;> walk_at "Se1"))
local macro_rules | `(tactic| walk_at "Set") => `(tactic| first | (apply et_cmp <;> walk_at "Se1") | (apply et_not <;> walk_at "Se1") | (apply et_w; walk_at "Sew") | (apply et_chain <;> walk_at "Se1") | (apply et_val <;> walk_at "Se1"))
local macro_rules | `(tactic| walk_at "Sew") => `(tactic| first | (apply ew_and <;> walk_at "Sew1") | (apply ew_or <;> walk_at "Sew1") | (apply ew_and1; walk_at "Sev") | (apply ew_or1; walk_at "Sev"))
local macro_rules | `(tactic| walk_at "Sew1") => `(tactic| first | walk_at "dt" | (show Et _ _ _ _ _ _; walk_at "Sev") | (intro _; walk_at "Sew"))
local macro_rules | `(tactic| walk_at "Sec") => `(tactic| first | (apply ed_not <;> walk_at "Se1") | (apply ed_and <;> walk_at "Se1") | (apply ed_or <;> walk_at "Se1") | (apply ed_one <;> walk_at "Se1") | (apply ed_cmp <;> walk_at "Se1") | (apply ed_chain <;> walk_at "Se1"))
local macro_rules | `(tactic| walk_at "Seb") => `(tactic| first | (apply ed_lenT <;> walk_at "Se1") | (apply ed_lenL <;> walk_at "Se1") | (apply ed_call <;> walk_at "Se1") | (apply ed_isInt <;> walk_at "Se1") | (apply ed_isBool <;> walk_at "Se1") | (apply ed_isTuple <;> walk_at "Se1") | (apply ed_isList <;> walk_at "Se1") | (apply ed_isStr <;> walk_at "Se1") | (apply ed_isTL <;> walk_at "Se1") | (apply ed_listOf <;> walk_at "Se1") | (apply ed_tupleOf <;> walk_at "Se1") | (apply ed_min2 <;> walk_at "Se1") | (apply ed_int1 <;> walk_at "Se1"))
local macro_rules | `(tactic| walk_at "Sei") => `(tactic| first | (apply ed_ixT <;> walk_at "Se1") | (apply ed_ixL <;> walk_at "Se1"))
local macro_rules | `(tactic| walk_at "Sex") => `(tactic| first | exact ed_int | exact ed_bl | exact ed_non | exact ed_nm rfl (by walk_at "da") | (apply ed_add <;> walk_at "Se1") | (apply ed_sub <;> walk_at "Se1") | (apply ed_neg <;> walk_at "Se1") | walk_at "Sei" | (apply ed_tup <;> walk_at "Se1") | (apply ed_lst <;> walk_at "Se1") | (apply ed_mod <;> walk_at "Se1") | (apply ed_ifI <;> walk_at "Se1") | (apply ed_if2 <;> walk_at "Se1") | (apply ed_slT <;> walk_at "Se1") | (apply ed_slL <;> walk_at "Se1") | (apply ed_catT <;> walk_at "Se1"))
local macro_rules | `(tactic| walk_at "Sev") => `(tactic| first | (show Ed _ _ _ _ _ _; first | walk_at "Sex" | walk_at "Seb" | walk_at "Sec") | (show Et _ _ _ _ _ _; walk_at "Set") | (show Cm _ _ _ _ _ _ _ _; walk_at "Scm") | (show Ea _ _ _ _ _ _; first | exact ea_nil | (apply ea_cons <;> walk_at "Se1")) | (show Eo _ _ _ _ _ _; first | exact eo_none | (apply eo_some; walk_at "Sev")) | (show Er _ _ _ _ _ _; exact er_nm rfl) | (show Ew _ _ _ _ _ _; walk_at "Sew") | (intro _; walk_at "Sev"))
local macro_rules | `(tactic| walk_at "e1") => `(tactic| first | walk_at "dt" | walk_at "ev" | walk_at "au" | (apply Side.mk; first | walk_at "au" | skip))
local macro_rules | `(tactic| walk_at "cm") => `(tactic| first | (apply cm_lt <;> walk_at "e1") | (apply cm_le <;> walk_at "e1") | (apply cm_gt <;> walk_at "e1") | (apply cm_ge <;> walk_at "e1") | (apply cm_eq <;> walk_at "e1") | (apply cm_ne <;> walk_at "e1") | (apply cm_inL <;> walk_at "e1") | (apply cm_inT <;> walk_at "e1") | (apply cm_niL <;> walk_at "e1") | (apply cm_niT <;> walk_at "e1") | (apply cm_is <;> walk_at "e1") | (apply cm_isnot <;> walk_at "e1"))
local macro_rules | `(tactic| walk_at "et") => `(tactic| first | (apply et_cmp <;> walk_at "e1") | (apply et_not <;> walk_at "e1") | (apply et_w; walk_at "ew") | (apply et_chain <;> walk_at "e1") | (apply et_val <;> walk_at "e1"))
local macro_rules | `(tactic| walk_at "ew") => `(tactic| first | (apply ew_and <;> walk_at "ew1") | (apply ew_or <;> walk_at "ew1") | (apply ew_and1; walk_at "ev") | (apply ew_or1; walk_at "ev"))
local macro_rules | `(tactic| walk_at "ew1") => `(tactic| first | walk_at "dt" | (show Et _ _ _ _ _ _; walk_at "ev") | (intro _; walk_at "ew"))
local macro_rules | `(tactic| walk_at "ec") => `(tactic| first | (apply ed_not <;> walk_at "e1") | (apply ed_and <;> walk_at "e1") | (apply ed_or <;> walk_at "e1") | (apply ed_one <;> walk_at "e1") | (apply ed_cmp <;> walk_at "e1") | (apply ed_chain <;> walk_at "e1"))
local macro_rules | `(tactic| walk_at "eb") => `(tactic| first | walk_at "Seb" | (apply ed_lenT <;> walk_at "e1") | (apply ed_lenL <;> walk_at "e1") | (apply ed_call <;> walk_at "e1") | (apply ed_isInt <;> walk_at "e1") | (apply ed_isBool <;> walk_at "e1") | (apply ed_isTuple <;> walk_at "e1") | (apply ed_isList <;> walk_at "e1") | (apply ed_isStr <;> walk_at "e1") | (apply ed_isTL <;> walk_at "e1") | (apply ed_listOf <;> walk_at "e1") | (apply ed_tupleOf <;> walk_at "e1") | (apply ed_min2 <;> walk_at "e1") | (apply ed_int1 <;> walk_at "e1"))
local macro_rules | `(tactic| walk_at "ei") => `(tactic| first | walk_at "Sei" | (apply ed_ixT <;> walk_at "e1") | (apply ed_ixL <;> walk_at "e1"))
local macro_rules | `(tactic| walk_at "ex") => `(tactic| first | exact ed_int | exact ed_bl | exact ed_non | exact ed_nm rfl (by walk_at "da") | (apply ed_add <;> walk_at "e1") | (apply ed_sub <;> walk_at "e1") | (apply ed_neg <;> walk_at "e1") | walk_at "ei" | (apply ed_tup <;> walk_at "e1") | (apply ed_lst <;> walk_at "e1") | (apply ed_mod <;> walk_at "e1") | (apply ed_ifI <;> walk_at "e1") | (apply ed_if2 <;> walk_at "e1") | (apply ed_slT <;> walk_at "e1") | (apply ed_slL <;> walk_at "e1") | (apply ed_catT <;> walk_at "e1"))
local macro_rules | `(tactic| walk_at "ev") => `(tactic| first | (show Ed _ _ _ _ _ _; first | walk_at "ex" | walk_at "eb" | walk_at "ec") | (show Et _ _ _ _ _ _; walk_at "et") | (show Cm _ _ _ _ _ _ _ _; walk_at "cm") | (show Ea _ _ _ _ _ _; first | exact ea_nil | (apply ea_cons <;> walk_at "e1")) | (show Eo _ _ _ _ _ _; first | exact eo_none | (apply eo_some; walk_at "ev")) | (show Er _ _ _ _ _ _; exact er_nm rfl) | (show Ew _ _ _ _ _ _; walk_at "ew") | (intro _; walk_at "ev"))
/-- the rows that go on from a row -/
def ext (ring : Bool) (p : Nat) (one : List Nat) : List (List Nat) := ([0, 1].filter fun mark => going (one ++ [mark]) p ring).map fun mark => one ++ [mark]
def rowsN (ring : Bool) : Nat → List (List Nat)
  | 0 => [[]]
  | p + 1 => (rowsN ring p).flatMap (ext ring p)
def sets (ring : Bool) (n : Nat) : List (List Nat) := (rowsN ring n).filter fun one => closed (one.take 2) (lastN one 2) ring
def R_sets_of : List PyData → PyData → Prop := fun ds d => ∃ (ks : List Nat) (ring : Bool) (n : Nat), (∀ k ∈ ks, k < n) ∧ ks.length ≤ 11 ∧
  ds = [lstN ks, .bool ring, .list (List.replicate n (.list [.bool true, .bool true])), .bool true] ∧ d = .list ((sets ring ks.length).map tupN)
theorem given_map {α β : Type} (l : List α) (z : α) (p : α → Bool) (f : α → β) : ((List.range l.length).filter fun i => p (l.getD i z)).map (fun i => f (l.getD i z)) = (l.filter p).map f := by
  have h : (List.range l.length).map (fun i => l.getD i z) = l := by
    have := range_map l z id
    simpa using this
  have h2 : l.filter p = ((List.range l.length).filter fun i => p (l.getD i z)).map fun i => l.getD i z := by
    conv => lhs; rw [← h]
    rw [List.filter_map]
    rfl
  rw [h2, List.map_map]
  rfl
theorem ext_len (ring : Bool) (p : Nat) (one : List Nat) : (ext ring p one).length ≤ 2 := by
  unfold ext
  rw [List.length_map]
  exact List.length_filter_le _ [0, 1]
theorem flat_len {α β : Type} (f : α → List β) (c : Nat) (h : ∀ a, (f a).length ≤ c) : ∀ l : List α, (l.flatMap f).length ≤ c * l.length
  | [] => by simp
  | a :: l => by
    rw [List.flatMap_cons, List.length_append, List.length_cons, Nat.mul_succ]
    have := h a
    have := flat_len f c h l
    omega
theorem rows_len (ring : Bool) : ∀ p, (rowsN ring p).length ≤ 2 ^ p
  | 0 => by simp [rowsN]
  | p + 1 => by
    have h1 := flat_len (ext ring p) 2 (ext_len ring p) (rowsN ring p)
    have h2 := rows_len ring p
    show ((rowsN ring p).flatMap (ext ring p)).length ≤ _
    rw [Nat.pow_succ]
    omega
theorem rows_one (ring : Bool) : ∀ p, ∀ one ∈ rowsN ring p, one.length = p
  | 0, one, h => by
    have : one = [] := by simpa [rowsN] using h
    rw [this]; rfl
  | p + 1, one, h => by
    obtain ⟨a, ha, hb⟩ := List.mem_flatMap.mp h
    unfold ext at hb
    obtain ⟨m, _, rfl⟩ := List.mem_map.mp hb
    rw [List.length_append, rows_one ring p a ha]
    rfl
section
variable {P : Program} {w : World} {K : PySem.W.Frag} {mg : Str → Option Value} {base : Heap}
set_option maxHeartbeats 2000000 in
theorem ok_sets_of (D : Df K mg "sets_of" s_sets_of) (B : Bt mg) (O1 : Own P w K mg base "is_going" 1 (spD R_is_going)) (O2 : Own P w K mg base "is_closed" 1 (spD R_is_closed)) : Own P w K mg base "sets_of" 2 (spD R_sets_of) := by
  refine Own.data D sc_sets_of (fun _ _ _ _ _ _ us hl => match us, hl with | [_, _, _, _], _ => rfl) (fun ds d ⟨_, _, _, _, _, e, _⟩ => by rw [e]; rfl) ?_
  rintro f cdv A outer s H vs Q E hr G _ _ i0 hvs ⟨ks, ring, n, hks, hlen, rfl, rfl⟩ q
  obtain ⟨x1, x2, x3, x4, rfl, h1, h2, h3, h4⟩ := hvs.inv4
  cases h2.inv_bl
  cases h4.inv_bl
  unfold lstN at h1
  have big : ∀ p, p ≤ 11 → (rowsN ring p).length ≤ 2048 := fun p hp => Nat.le_trans (rows_len ring p) (Nat.pow_le_pow_right (by decide) hp)
  refine rb_cons (rs_setD (d := .list [.tuple []]) ?_ i0 sc_sets_of.nd ?_)
  · walk_at "ev"
  intro v0 G1 H1 g1 hv0
  refine rb_cons (rs_for (es_enum B.enum (ds := dN ks) ?_ (by rw [dN_length]; exact Nat.le_of_lt (small40 (by omega)))) g1.i (S := fun i d => Sp2 5 6 (.int (i : Int)) (.int (ks.getD i 0 : Int))) (fun i d hd => ?_)
    (fun i σ' G' H' => Grow G H G' H' ∧ ∃ v a b c o m, σ' = [some x1, some (.bl ring), some x3, some (.bl true), some v, a, b, c, o, m] ∧ Da G' v (.list ((rowsN ring i).map tupN))) ?_ ?_ ?_)
  · walk_at "ev"
  · have hl := (List.getElem?_eq_some_iff.mp hd).1
    rw [enD_length, dN_length] at hl
    have hk : ks[i]? = some (ks.getD i 0) := by rw [List.getD_eq_getElem?_getD, List.getElem?_eq_getElem hl]; rfl
    rw [enD_get (dN_get hk)] at hd
    cases hd
    exact bd_pair sc_sets_of.nd
  · intro G2 H2 g2
    exact ⟨g1.trans g2, v0, none, none, none, none, none, rfl, hv0.mono g2.g⟩
  · rintro i d σ1 G2 H2 G3 H3 σ2 hd s1 s2 ⟨gb, v, a, b, c, o, m, rfl, hv⟩ g3 ⟨y, z, rfl, hy, hz⟩
    cases hy.inv_int
    cases hz.inv_int
    have hl := (List.getElem?_eq_some_iff.mp hd).1
    rw [enD_length, dN_length] at hl
    have hkn := hks (ks.getD i 0) (by rw [List.getD_eq_getElem?_getD, List.getElem?_eq_getElem hl]; exact List.getElem_mem hl)
    have ai : atI (List.replicate n (PyData.list [.bool true, .bool true])) ((ks.getD i 0 : Nat) : Int) = some (.list [.bool true, .bool true]) := atI_nat (by rw [List.getElem?_replicate, if_pos hkn])
    refine rb_cons (rs_set (En.ev (en_lst ea_nil) g3.i) sc_sets_of.nd ?_)
    rintro _ G4 H4 g4 ⟨p, xs, rfl, hp0, hpG, hpH, hxs⟩
    cases hxs.inv_nil
    have gb4 := (gb.trans g3).trans g4
    have hp00 : H p = none := (gb.trans g3).none_h hp0
    have h34 := h3.mono gb4.g
    refine rb_cons (rs_for (es_list (ds := (rowsN ring i).map tupN) ?_) g4.i (fun t d hd => bd_name (i := 8) sc_sets_of.nd)
      (fun t σ' G' H' => Grow G H G' H' ∧ (∃ o m, σ' = [some x1, some (.bl ring), some x3, some (.bl true), some v, some (.int (i : Int)), some (.int (ks.getD i 0 : Int)), some (.ref p), o, m]) ∧ G' p = none ∧
        ∃ xs, H' p = some (.lst xs) ∧ DaAll G' xs ((((rowsN ring i).take t).flatMap (ext ring i)).map tupN)) ?_ ?_ ?_)
    · have hv4 := (hv.mono g3.g).mono g4.g
      exact ed_nm rfl hv4
    · intro G5 H5 g5
      exact ⟨gb4.trans g5, ⟨_, _, rfl⟩, g5.n' hpG hpH, [], g5.h _ _ hpH, .nil⟩
    · rintro t d σ3 G5 H5 G6 H6 σ4 hd' t1 t2 ⟨gc, ⟨o', m', rfl⟩, hG5, xs, hH5, hxs⟩ g6 ⟨u, rfl, hu⟩
      obtain ⟨one, ho, rfl⟩ := map_get' hd'
      unfold tupN at hu
      have hol := rows_one ring i one (List.mem_of_getElem? ho)
      have htl := (List.getElem?_eq_some_iff.mp ho).1
      have hbig := big i (by omega)
      have gc6 := gc.trans g6
      refine rb_one (rs_for (es_tup (ds := [.int 0, .int 1]) ?_) g6.i (fun j d hd => bd_name (i := 9) sc_sets_of.nd)
        (fun j σ' G' H' => Grow G H G' H' ∧ Same G6 G' ∧ (∃ m, σ' = [some x1, some (.bl ring), some x3, some (.bl true), some v, some (.int (i : Int)), some (.int (ks.getD i 0 : Int)), some (.ref p), some u, m]) ∧ G' p = none ∧
          ∃ xs, H' p = some (.lst xs) ∧ DaAll G' xs ((((rowsN ring i).take t).flatMap (ext ring i) ++ ((([0, 1] : List Nat).take j).filter fun mark => going (one ++ [mark]) i ring).map fun mark => one ++ [mark]).map tupN)) ?_ ?_ ?_)
      · walk_at "ev"
      · intro G7 H7 g7
        refine ⟨gc6.trans g7, g7.g, ⟨_, rfl⟩, g7.n' (g6.n' hG5 hH5) (g6.h _ _ hH5), xs, g7.h _ _ (g6.h _ _ hH5), ?_⟩
        simp only [List.take_zero, List.filter_nil, List.map_nil, List.append_nil]
        exact (hxs.mono g6.g).mono g7.g
      · rintro j d σ5 G7 H7 G8 H8 σ6 hd'' u1 u2 ⟨gd, s67, ⟨m'', rfl⟩, hG7, xs', hH7, hxs'⟩ g8 ⟨mv, rfl, hmv⟩
        obtain ⟨mk, hmk, rfl⟩ : ∃ mk : Nat, ([0, 1] : List Nat)[j]? = some mk ∧ d = .int (mk : Int) := by
          match j, hd'' with
          | 0, e => exact ⟨0, rfl, by simpa using e.symm⟩
          | 1, e => exact ⟨1, rfl, by simpa using e.symm⟩
          | j + 2, e => simp at e
        have hjl := (List.getElem?_eq_some_iff.mp hmk).1
        have am : atI [PyData.bool true, .bool true] (mk : Int) = some (.bool true) := by
          match j, hmk with
          | 0, e => cases e; rfl
          | 1, e => cases e; rfl
          | j + 2, e => simp at e
        have gd8 := gd.trans g8
        have c1 := h3.mono gd8.g
        have c2 := (hu.mono s67).mono g8.g
        have hcat : tupN (one ++ [mk]) = .tuple (dN one ++ [.int (mk : Int)]) := by unfold tupN dN; rw [List.map_append]; rfl
        have hRg : R_is_going [.tuple (dN one ++ [.int (mk : Int)]), .int (i : Int), .bool ring, .bool true] (.bool (going (one ++ [mk]) i ring)) := ⟨one ++ [mk], i, ring, by rw [hcat], rfl⟩
        have hsz : (dN one).length + [PyData.int (mk : Int)].length ≤ sizeLine := by rw [dN_length, hol]; exact Nat.le_of_lt (small40 (by simp; omega))
        have hH8 := g8.h _ _ hH7
        have hG8 := g8.n' hG7 hH7
        refine rb_one (rs_if (k := true && going (one ++ [mk]) i ring) ?_ g8.i ?_ ?_)
        · apply et_w
          apply ew_and
          · walk_at "ev"
          · intro _
            apply ew_and1
            refine et_val ?_
            refine ed_call O1 hr (ea_cons (ed_catT ?_ ?_ ⟨hsz⟩) ?_) ⟨hRg⟩
            · walk_at "ev"
            · walk_at "ev"
            · walk_at "ev"
        · intro e G9 H9 g9
          have e' : going (one ++ [mk]) i ring = true := by simpa using e
          have hH9 := g9.h _ _ hH8
          have hG9 := g9.n' hG8 hH8
          have xl : xs'.length < sizeLine := by
            rw [hxs'.len, List.length_map, List.length_append, List.length_map]
            have l1 := flat_len (ext ring i) 2 (ext_len ring i) ((rowsN ring i).take t)
            have l2 : ((rowsN ring i).take t).length ≤ t := by rw [List.length_take]; exact Nat.min_le_left _ _
            have l3 := List.length_filter_le (fun mark => going (one ++ [mark]) i ring) (([0, 1] : List Nat).take j)
            have l4 : (([0, 1] : List Nat).take j).length ≤ 2 := by rw [List.length_take]; exact Nat.min_le_right _ _
            exact Nat.lt_of_le_of_lt (show _ ≤ 10000 by omega) (by decide)
          refine rb_one (rs_app (l := p) (xs := xs') (er_nm rfl) (fun Ga Ha ga => Ed.ev (d := .tuple (dN one ++ [.int (mk : Int)])) ?_ ga.i) g9.i hH9 xl ?_)
          · have c3 := (c2.mono g9.g).mono ga.g
            refine ed_catT (ed_nm rfl c3) ?_ ⟨hsz⟩
            walk_at "ev"
          · intro w9 Ga Ha ga hw9
            have hGa := ga.n' hG9 hH9
            have gg := (gd8.trans g9).trans ga
            refine ⟨Ga, g8.g.trans (g9.g.trans ga.g), same_mut ga.i hGa, gg.mut hp00 hGa, s67.trans (g8.g.trans (g9.g.trans ga.g)), ⟨_, rfl⟩, hGa, _, upd_same, ?_⟩
            rw [take_filter _ hmk, if_pos e']
            rw [← hcat] at hw9
            have fin := (hxs'.mono (g8.g.trans (g9.g.trans ga.g))).snoc hw9
            simp only [List.map_append, List.map_cons, List.map_nil, List.append_assoc] at fin ⊢
            exact fin
        · intro e G9 H9 g9
          have e' : going (one ++ [mk]) i ring = false := by simpa using e
          refine rb_nil ⟨G9, g8.g.trans g9.g, g9.i, gd8.trans g9, s67.trans (g8.g.trans g9.g), ⟨_, rfl⟩, g9.n' hG8 hH8, xs', g9.h _ _ hH8, ?_⟩
          rw [take_filter _ hmk, if_neg (by rw [e']; decide), List.append_nil]
          exact hxs'.mono (g8.g.trans g9.g)
      · rintro σ5 G7 H7 u1 u2 ⟨gd, s67, ⟨m'', rfl⟩, hG7, xs', hH7, hxs'⟩
        refine ⟨G7, g6.g.trans u1, u2, gd, ⟨_, _, rfl⟩, hG7, xs', hH7, ?_⟩
        rw [take_succ_get ho, List.flatMap_append]
        simpa [ext] using hxs'
    · rintro σ3 G5 H5 t1 t2 ⟨gc, ⟨o', m', rfl⟩, hG5, xs, hH5, hxs⟩
      have e : (rowsN ring i).take ((rowsN ring i).map tupN).length = rowsN ring i := by rw [List.length_map]; exact List.take_length
      rw [e] at hxs
      have gf := fix_list gc hp00 hG5 hH5
      refine rb_one (rs_set (Er.ev (v := .ref p) (er_nm rfl) gf.i) sc_sets_of.nd ?_)
      rintro _ G6 H6 g6 rfl
      refine ⟨G6, g3.g.trans (g4.g.trans (t1.trans ((same_new hG5).trans g6.g))), g6.i, gf.trans g6, .ref p, _, _, _, _, _, rfl, ?_⟩
      exact DaAll.lst (g6.g _ _ upd_same) ((hxs.mono (same_new hG5)).mono g6.g)
  · rintro σ1 G2 H2 s1 s2 ⟨gb, v, a, b, c, o, m, rfl, hv⟩
    rw [enD_length, dN_length] at hv
    have hbig := big ks.length hlen
    refine rb_one (rs_retD (En.ed (en_lc1 (own := [("one", 8)]) (S := fun _ => Sn 8) (fun i => closed (((rowsN ring ks.length).getD i []).take 2) (lastN ((rowsN ring ks.length).getD i []) 2) ring) (fun i => tupN ((rowsN ring ks.length).getD i [])) sc_sets_of.nd (es_list (ds := (rowsN ring ks.length).map tupN) ?_) (blkOk_by (N := N_sets_of) (sc := defScope s_sets_of) (by decide +kernel)) (fun s0 H0 C cl fp i d hd => bd_name sc_sets_of.nd) ?_ ?_ ?_ ?_)) s2 ?_)
    · exact ed_nm rfl hv
    · rintro i d G' σ2 ⟨v, rfl, _⟩
      rfl
    · rintro s0 H0 C cl fp i d σ2 G' H' g' hd ⟨u, rfl, hu⟩
      obtain ⟨one, ho, rfl⟩ := map_get' hd
      unfold tupN at hu
      rw [getD_of ho]
      have hol := rows_one ring _ one (List.mem_of_getElem? ho)
      have hRc : R_is_closed [.tuple (cutP (dN one) none (some 2)), .tuple (cutP (dN one) (some (-2)) none), .bool ring, .bool true] (.bool (closed (one.take 2) (lastN one 2) ring)) :=
        ⟨one.take 2, lastN one 2, ring, by unfold lastN; rw [List.length_take, List.length_drop]; omega, by rw [cutP_dN, cutP_dN, cut_first (z := 2) (k := 2) rfl, cut_last (z := -2) (k := 2) rfl (by decide)]; rfl, rfl⟩
      walk_at "ev"
    · rintro s0 H0 C cl fp i d σ2 G' H' g' hd ⟨u, rfl, hu⟩ _
      obtain ⟨one, ho, rfl⟩ := map_get' hd
      rw [getD_of ho]
      exact ed_nm rfl hu
    · rw [List.length_map]
      omega
    · intro v' G' H' g' dv
      refine q v' G' H' (gb.trans g') ?_
      have e : given ((rowsN ring ks.length).map tupN).length (fun i => closed (((rowsN ring ks.length).getD i []).take 2) (lastN ((rowsN ring ks.length).getD i []) 2) ring) (fun i => tupN ((rowsN ring ks.length).getD i [])) = (sets ring ks.length).map tupN := by
        unfold given sets
        rw [List.length_map]
        exact given_map (rowsN ring ks.length) [] (fun one => closed (one.take 2) (lastN one 2) ring) tupN
      rw [e] at dv
      exact dv
end
end Fk
end
section
set_option Elab.async false
set_option linter.all false
set_option maxRecDepth 100000
set_option maxHeartbeats 4000000
/-! D9: depths. -/
namespace Fk
open PySem PySem.Spec L2
open PyProof.Rows hiding St
local macro_rules | `(tactic| walk_at "gr") => `(tactic| first | assumption | exact Same.refl _ | (refine Same.trans ?_ (Grow.g (by assumption)); walk_at "gr"))
local macro_rules | `(tactic| walk_at "da") => `(tactic| first | assumption | exact Da.int _ | exact Da.bl _ | exact Da.non | (refine Da.mono ?_ (by assumption); walk_at "gr"))
local macro_rules | `(tactic| walk_at "dp") => `(tactic| (simp only [PyData.depth, PyData.depthAll, depthAll_dI, depthAll_dN, Nat.max_zero, Nat.zero_max, Nat.max_self, Nat.min_self, Nat.zero_min, Nat.min_zero] <;> omega))
local macro_rules | `(tactic| walk_at "bt") => `(tactic| first | exact Bt.isi (by assumption) | exact Bt.int (by assumption) | exact Bt.bool (by assumption) | exact Bt.tuple (by assumption) | exact Bt.len (by assumption) | exact Bt.list (by assumption) | exact Bt.set (by assumption) | exact Bt.sorted (by assumption) | exact Bt.range (by assumption) | exact Bt.enum (by assumption) | exact Bt.zip (by assumption) | exact Bt.min (by assumption) | exact Bt.max (by assumption) | exact Bt.sum (by assumption) | exact Bt.dict (by assumption) | exact Bt.str (by assumption))
local macro_rules | `(tactic| walk_at "au") => `(tactic| first | (apply prop_id; assumption) | (show PySem.W.keepIn _ _ = true; assumption) | (show (_ : Option Value) = none; walk_at "bt") | rfl | (show min _ _ ≤ 64; first | decide | walk_at "dp") | (show _ ≤ sizeLine; first | assumption | (simp only [List.length_cons, List.length_nil]; decide)) | (show (_ : Nat) ≤ _; decide) | (show (_ == _) = false; decide) | (show _ ≠ _; decide) | (show behindInMarks _ _ = false; first | exact nomark _ | with_unfolding_all rfl) | (show lastMarks _ _ = false; with_unfolding_all rfl) | (show OpR _ _ _; first | exact op_le | exact op_lt | exact opI_eq | exact opI_ne) | exact (fun _ _ => rfl) | (show ∀ _, _ = _; intro _; rfl) | exact Or.inl rfl | exact Or.inr rfl)
local macro_rules | `(tactic| walk_at "dt") => `(tactic| first | show Bool | show Int | show PyData | show List PyData | show List Int | show Nat | show Option Int | show V)
local macro_rules | `(tactic| walk_at "Se1") => `(tactic| first | walk_at "dt" | walk_at "Sev" | walk_at "au" | (apply Side.mk; walk_at "au"))
local macro_rules | `(tactic| walk_at "Scm") => `(tactic| first | (apply cm_lt <;> walk_at "Se1") | (apply cm_le <;> walk_at "Se1") | (apply cm_gt <;> walk_at "Se1") | (apply cm_ge <;> walk_at "Se1") | (apply cm_eq <;> walk_at "Se1") | (apply cm_ne <;> walk_at "Se1") | (apply cm_inL <;> walk_at "Se1") | (apply cm_inT <;> walk_at "Se1") | (apply cm_niL <;> walk_at "Se1") | (apply cm_niT <;> walk_at "Se1") | (apply cm_is <;> walk_at "Se1") | (apply cm_isnot <;> walk_at "Se1"))
local macro_rules | `(tactic| walk_at "Set") => `(tactic| first | (apply et_cmp <;> walk_at "Se1") | (apply et_not <;> walk_at "Se1") | (apply et_w; walk_at "Sew") | (apply et_chain <;> walk_at "Se1") | (apply et_val <;> walk_at "Se1"))
local macro_rules | `(tactic| walk_at "Sew") => `(tactic| first | (apply ew_and <;> walk_at "Sew1") | (apply ew_or <;> walk_at "Sew1") | (apply ew_and1; walk_at "Sev") | (apply ew_or1; walk_at "Sev"))
local macro_rules | `(tactic| walk_at "Sew1") => `(tactic| first | walk_at "dt" | (show Et _ _ _ _ _ _; walk_at "Sev") | (intro _; walk_at "Sew"))
local macro_rules | `(tactic| walk_at "Sec") => `(tactic| first | (apply ed_not <;> walk_at "Se1") | (apply ed_and <;> walk_at "Se1") | (apply ed_or <;> walk_at "Se1") | (apply ed_one <;> walk_at "Se1") | (apply ed_cmp <;> walk_at "Se1") | (apply ed_chain <;> walk_at "Se1"))
local macro_rules | `(tactic| walk_at "Seb") => `(tactic| first | (apply ed_lenT <;> walk_at "Se1") | (apply ed_lenL <;> walk_at "Se1") | (apply ed_call <;> walk_at "Se1") | (apply ed_isInt <;> walk_at "Se1") | (apply ed_isBool <;> walk_at "Se1") | (apply ed_isTuple <;> walk_at "Se1") | (apply ed_isList <;> walk_at "Se1") | (apply ed_isStr <;> walk_at "Se1") | (apply ed_isTL <;> walk_at "Se1") | (apply ed_listOf <;> walk_at "Se1") | (apply ed_tupleOf <;> walk_at "Se1") | (apply ed_min2 <;> walk_at "Se1") | (apply ed_int1 <;> walk_at "Se1"))
local macro_rules | `(tactic| walk_at "Sei") => `(tactic| first | (apply ed_ixT <;> walk_at "Se1") | (apply ed_ixL <;> walk_at "Se1"))
local macro_rules | `(tactic| walk_at "Sex") => `(tactic| first | exact ed_int | exact ed_bl | exact ed_non | exact ed_nm rfl (by walk_at "da") | (apply ed_add <;> walk_at "Se1") | (apply ed_sub <;> walk_at "Se1") | (apply ed_neg <;> walk_at "Se1") | walk_at "Sei" | (apply ed_tup <;> walk_at "Se1") | (apply ed_lst <;> walk_at "Se1") | (apply ed_mod <;> walk_at "Se1") | (apply ed_ifI <;> walk_at "Se1") | (apply ed_if2 <;> walk_at "Se1") | (apply ed_slT <;> walk_at "Se1") | (apply ed_slL <;> walk_at "Se1") | (apply ed_catT <;> walk_at "Se1"))
local macro_rules | `(tactic| walk_at "Sev") => `(tactic| first | (show Ed _ _ _ _ _ _; first | walk_at "Sex" | walk_at "Seb" | walk_at "Sec") | (show Et _ _ _ _ _ _; walk_at "Set") | (show Cm _ _ _ _ _ _ _ _; walk_at "Scm") | (show Ea _ _ _ _ _ _; first | exact ea_nil | (apply ea_cons <;> walk_at "Se1")) | (show Eo _ _ _ _ _ _; first | exact eo_none | (apply eo_some; walk_at "Sev")) | (show Er _ _ _ _ _ _; exact er_nm rfl) | (show Ew _ _ _ _ _ _; walk_at "Sew") | (intro _; walk_at "Sev"))
local macro_rules | `(tactic| walk_at "e1") => `(tactic| first | walk_at "dt" | walk_at "ev" | walk_at "au" | (apply Side.mk; first | walk_at "au" | skip))
local macro_rules | `(tactic| walk_at "cm") => `(tactic| first | (apply cm_lt <;> walk_at "e1") | (apply cm_le <;> walk_at "e1") | (apply cm_gt <;> walk_at "e1") | (apply cm_ge <;> walk_at "e1") | (apply cm_eq <;> walk_at "e1") | (apply cm_ne <;> walk_at "e1") | (apply cm_inL <;> walk_at "e1") | (apply cm_inT <;> walk_at "e1") | (apply cm_niL <;> walk_at "e1") | (apply cm_niT <;> walk_at "e1") | (apply cm_is <;> walk_at "e1") | (apply cm_isnot <;> walk_at "e1"))
local macro_rules | `(tactic| walk_at "et") => `(tactic| first | (apply et_cmp <;> walk_at "e1") | (apply et_not <;> walk_at "e1") | (apply et_w; walk_at "ew") | (apply et_chain <;> walk_at "e1") | (apply et_val <;> walk_at "e1"))
local macro_rules | `(tactic| walk_at "ew") => `(tactic| first | (apply ew_and <;> walk_at "ew1") | (apply ew_or <;> walk_at "ew1") | (apply ew_and1; walk_at "ev") | (apply ew_or1; walk_at "ev"))
local macro_rules | `(tactic| walk_at "ew1") => `(tactic| first | walk_at "dt" | (show Et _ _ _ _ _ _; walk_at "ev") | (intro _; walk_at "ew"))
local macro_rules | `(tactic| walk_at "ec") => `(tactic| first | (apply ed_not <;> walk_at "e1") | (apply ed_and <;> walk_at "e1") | (apply ed_or <;> walk_at "e1") | (apply ed_one <;> walk_at "e1") | (apply ed_cmp <;> walk_at "e1") | (apply ed_chain <;> walk_at "e1"))
local macro_rules | `(tactic| walk_at "eb") => `(tactic| first | walk_at "Seb" | (apply ed_lenT <;> walk_at "e1") | (apply ed_lenL <;> walk_at "e1") | (apply ed_call <;> walk_at "e1") | (apply ed_isInt <;> walk_at "e1") | (apply ed_isBool <;> walk_at "e1") | (apply ed_isTuple <;> walk_at "e1") | (apply ed_isList <;> walk_at "e1") | (apply ed_isStr <;> walk_at "e1") | (apply ed_isTL <;> walk_at "e1") | (apply ed_listOf <;> walk_at "e1") | (apply ed_tupleOf <;> walk_at "e1") | (apply ed_min2 <;> walk_at "e1") | (apply ed_int1 <;> walk_at "e1"))
local macro_rules | `(tactic| walk_at "ei") => `(tactic| first | walk_at "Sei" | (apply ed_ixT <;> walk_at "e1") | (apply ed_ixL <;> walk_at "e1"))
local macro_rules | `(tactic| walk_at "ex") => `(tactic| first | exact ed_int | exact ed_bl | exact ed_non | exact ed_nm rfl (by walk_at "da") | (apply ed_add <;> walk_at "e1") | (apply ed_sub <;> walk_at "e1") | (apply ed_neg <;> walk_at "e1") | walk_at "ei" | (apply ed_tup <;> walk_at "e1") | (apply ed_lst <;> walk_at "e1") | (apply ed_mod <;> walk_at "e1") | (apply ed_ifI <;> walk_at "e1") | (apply ed_if2 <;> walk_at "e1") | (apply ed_slT <;> walk_at "e1") | (apply ed_slL <;> walk_at "e1") | (apply ed_catT <;> walk_at "e1"))
local macro_rules | `(tactic| walk_at "ev") => `(tactic| first | (show Ed _ _ _ _ _ _; first | walk_at "ex" | walk_at "eb" | walk_at "ec") | (show Et _ _ _ _ _ _; walk_at "et") | (show Cm _ _ _ _ _ _ _ _; walk_at "cm") | (show Ea _ _ _ _ _ _; first | exact ea_nil | (apply ea_cons <;> walk_at "e1")) | (show Eo _ _ _ _ _ _; first | exact eo_none | (apply eo_some; walk_at "ev")) | (show Er _ _ _ _ _ _; exact er_nm rfl) | (show Ew _ _ _ _ _ _; walk_at "ew") | (intro _; walk_at "ev"))
theorem Ln.strs_perm (L : Ln) : L.strs.Perm (L.starts.map L.stretch) := List.mergeSort_perm _ _
theorem Ln.mem_strs {L : Ln} {s : List Nat} : s ∈ L.strs ↔ ∃ k ∈ L.starts, L.stretch k = s := by
  rw [L.strs_perm.mem_iff, List.mem_map]
theorem Ln.strs_lt {L : Ln} (h : 1 ≤ L.n) {s : List Nat} (hs : s ∈ L.strs) : s.length ≤ L.n + 1 ∧ ∀ k ∈ s, k < L.n := by
  obtain ⟨k, hk, rfl⟩ := Ln.mem_strs.mp hs
  refine ⟨?_, fun j hj => ?_⟩
  · rw [Ln.stretch_len]
    have := (Ln.en_spec hk).2.1
    omega
  · unfold Ln.stretch at hj
    obtain ⟨i, _, rfl⟩ := List.mem_map.mp hj
    exact Ln.it_lt h k i
def dep1 (one : List Nat) (acc : List Nat) (m : Nat) : List Nat := (List.range m).foldl (fun acc i => acc.set (one.getD (i + 1) 0) (min (i + 1) (one.length - 1 - (i + 1)))) acc
def Ln.deps (L : Ln) : List Nat := L.strs.foldl (fun acc one => dep1 one acc (one.length - 2)) (List.replicate L.n 0)
theorem dep1_succ (one acc : List Nat) (m : Nat) : dep1 one acc (m + 1) = (dep1 one acc m).set (one.getD (m + 1) 0) (min (m + 1) (one.length - 1 - (m + 1))) := by
  unfold dep1
  rw [List.range_succ, List.foldl_append]
  rfl
theorem dep1_len (one acc : List Nat) (m : Nat) : (dep1 one acc m).length = acc.length := by
  induction m with
  | zero => rfl
  | succ m ih => rw [dep1_succ, List.length_set, ih]
theorem deps_len (n : Nat) : ∀ (ss : List (List Nat)) (acc : List Nat), (ss.foldl (fun acc one => dep1 one acc (one.length - 2)) acc).length = acc.length
  | [], acc => rfl
  | s :: ss, acc => by rw [List.foldl_cons, deps_len n ss, dep1_len]
def R_depths_in : List PyData → PyData → Prop := fun ds d => ∃ L : Ln, L.Ok ∧ ds = [L.d] ∧ d = .list (dN L.deps)
section
variable {X : Cx} {σ : St} {G H : Hp} {a b : Expr} {pos : Pos}
/-- [x] * n -/
theorem en_rep {d : PyData} {n : Nat} (ha : Ed X σ G H a (.list [d])) (hb : Ed X σ G H b (.int (n : Int))) (hz : n ≤ 1000) : En X σ G H (.BinOp a .Mult b pos) (List.replicate n d) :=
  ⟨fun G1 H1 g Q q => re_of (pe_op op_rep pe_self pe_self) (ha.run G1 H1 g _ fun x G2 H2 g2 dx => hb.run G2 H2 (g.trans g2) _ fun y G3 H3 g3 dy => by
    obtain ⟨l, xs, rfl, hl, hx⟩ := (dx.mono g3.g).inv_lst
    obtain ⟨v, rfl, dv⟩ := hx.inv1
    have gg := g2.trans g3
    refine ⟨l, n, _, rfl, dy.inv_int, g3.i _ _ hl, by omega, by omega, ?_, fun p hp => ?_⟩
    · rw [Int.toNat_natCast]
      simp only [List.length_cons, List.length_nil, Nat.zero_add, Nat.one_mul]
      exact Nat.le_trans hz (by decide)
    · have e2 : (List.replicate (n : Int).toNat [v]).flatten = List.replicate n v := by
        rw [Int.toNat_natCast]
        clear hz hb dy q
        induction n with
        | zero => rfl
        | succ m ih => rw [List.replicate_succ, List.flatten_cons, ih, List.replicate_succ]; rfl
      rw [e2]
      refine q p _ G3 _ (gg.trans (.newH g3.i hp)) (gg.none_h hp) (g3.i.free hp) upd_same ⟨by simp, fun i w f k1 k2 => ?_⟩
      rw [List.getElem?_replicate] at k1 k2
      split at k1
      · rename_i hi
        rw [if_pos hi] at k2
        cases k1
        cases k2
        exact dv
      · cases k1)⟩
end
section
variable {P : Program} {w : World} {K : PySem.W.Frag} {mg : Str → Option Value} {base : Heap}
set_option maxHeartbeats 2000000 in
theorem ok_depths_in (D : Df K mg "depths_in" s_depths_in) (B : Bt mg) (O1 : Own P w K mg base "stretches_in" 4 (spD R_stretches_in)) : Own P w K mg base "depths_in" 5 (spD R_depths_in) := by
  refine Own.data D sc_depths_in (fun _ _ _ _ _ _ us hl => match us, hl with | [_], _ => rfl) (fun ds d ⟨_, _, e, _⟩ => by rw [e]; rfl) ?_
  rintro f cdv A outer s H vs Q E hr G _ _ i0 hvs ⟨L, ok, rfl, rfl⟩ q
  obtain ⟨x1, rfl, h1⟩ := hvs.inv1
  have hR : R_stretches_in [L.d] (.list (L.strs.map tupN)) := ⟨L, ok, rfl, rfl⟩
  have h1' := h1
  unfold Ln.d at h1
  have hn1 := ok.one
  have hn2 := ok.most
  refine rb_cons (rs_set (En.ev (en_rep (d := .int 0) (n := L.n) ?_ ?_ (by omega)) i0) sc_depths_in.nd ?_)
  · walk_at "ev"
  · rw [show (L.n : Int) = ((dI L.c).length : Int) from by rw [dI_length]; rfl]
    walk_at "ev"
  rintro _ G1 H1 g1 ⟨p, xs, rfl, hp0, hpG, hpH, hxs⟩
  refine rb_cons (rs_for (es_list (ds := L.strs.map tupN) ?_) g1.i (fun t d hd => bd_name (i := 2) sc_depths_in.nd)
    (fun t σ' G' H' => Grow G H G' H' ∧ (∃ o a, σ' = [some x1, some (.ref p), o, a]) ∧ G' p = none ∧ ∃ xs, H' p = some (.lst xs) ∧ DaAll G' xs (dN ((L.strs.take t).foldl (fun acc one => dep1 one acc (one.length - 2)) (List.replicate L.n 0)))) ?_ ?_ ?_)
  · have h2 := h1'.mono g1.g
    refine ed_call O1 hr (ea_cons (ed_nm rfl h2) ea_nil) ⟨hR⟩
  · intro G2 H2 g2
    refine ⟨g1.trans g2, ⟨_, _, rfl⟩, g2.n' hpG hpH, xs, g2.h _ _ hpH, ?_⟩
    have e : dN (List.replicate L.n 0) = List.replicate L.n (.int 0) := by unfold dN; rw [List.map_replicate]; rfl
    rw [List.take_zero, List.foldl_nil, e]
    exact hxs.mono g2.g
  · rintro t d σ1 G2 H2 G3 H3 σ2 hd s1 s2 ⟨gb, ⟨o, a, rfl⟩, hG2, ys, hH2, hys⟩ g3 ⟨u, rfl, hu⟩
    obtain ⟨one, ho, rfl⟩ := map_get' hd
    unfold tupN at hu
    obtain ⟨hol, hok⟩ := Ln.strs_lt hn1 (List.mem_of_getElem? ho)
    have gb3 := gb.trans g3
    have key : ∃ acc : List Nat, acc.length = L.n ∧ acc = (L.strs.take t).foldl (fun acc one => dep1 one acc (one.length - 2)) (List.replicate L.n 0) := ⟨_, by rw [deps_len 0, List.length_replicate], rfl⟩
    obtain ⟨acc, hal, hacc⟩ := key
    rw [← hacc] at hys
    have ol3 : 3 ≤ one.length := by
      obtain ⟨k, hk, rfl⟩ := Ln.mem_strs.mp (List.mem_of_getElem? ho)
      rw [Ln.stretch_len]
      have := (Ln.en_spec hk).1
      omega
    refine rb_one (rs_for ((es_range2 (lo := 1) (hi := ((dN one).length : Int) - 1) B.range ?_ ?_ (by rw [dN_length]; omega)).is (ds' := rngD 1 (one.length - 2)) (by rw [dN_length]; congr 1; omega)) g3.i (fun t d hd => bd_name (i := 3) sc_depths_in.nd)
      (fun j σ' G' H' => Grow G H G' H' ∧ Same G3 G' ∧ (∃ a, σ' = [some x1, some (.ref p), some u, a]) ∧ G' p = none ∧ ∃ xs, H' p = some (.lst xs) ∧ DaAll G' xs (dN (dep1 one acc j))) ?_ ?_ ?_)
    · walk_at "ev"
    · walk_at "ev"
    · intro G4 H4 g4
      exact ⟨gb3.trans g4, g4.g, ⟨_, rfl⟩, g4.n' (g3.n' hG2 hH2) (g3.h _ _ hH2), ys, g4.h _ _ (g3.h _ _ hH2), (hys.mono g3.g).mono g4.g⟩
    · rintro j d σ3 G4 H4 G5 H5 σ4 hd' t1 t2 ⟨gc, s34, ⟨a', rfl⟩, hG4, zs, hH4, hzs⟩ g5 ⟨v, rfl, hv⟩
      have hj := (List.getElem?_eq_some_iff.mp hd').1
      have hrl : (rngD 1 (one.length - 2)).length = one.length - 2 := by simp [rngD]
      rw [hrl] at hj
      have ed : d = .int ((j + 1 : Nat) : Int) := by
        unfold rngD at hd'
        rw [List.getElem?_map, List.getElem?_range hj] at hd'
        rw [← Option.some.inj hd', show ((j + 1 : Nat) : Int) = 1 + (j : Int) by omega]
      subst ed
      have hu5 := (hu.mono s34).mono g5.g
      have hoj : one[j + 1]? = some (one.getD (j + 1) 0) := by rw [List.getD_eq_getElem?_getD, List.getElem?_eq_getElem (by omega)]; rfl
      have a1 : atI (dN one) ((j + 1 : Nat) : Int) = some (.int (one.getD (j + 1) 0 : Int)) := atI_nat (dN_get hoj)
      have hlt := hok _ (List.mem_of_getElem? hoj)
      have hH5 := g5.h _ _ hH4
      have hG5 := g5.n' hG4 hH4
      have zl : zs.length = L.n := by rw [hzs.len, dN_length, dep1_len, hal]
      refine rb_one (rs_setL (k := (one.getD (j + 1) 0 : Int)) (n := one.getD (j + 1) 0) (d := .int ((min (j + 1) (one.length - 1 - (j + 1)) : Nat) : Int)) (l := p) ?_ (er_nm rfl) ?_ g5.i hH5 ?_ ?_)
      · have em : ((min (j + 1) (one.length - 1 - (j + 1)) : Nat) : Int) = if ((dN one).length : Int) - 1 - ((j + 1 : Nat) : Int) < ((j + 1 : Nat) : Int) then ((dN one).length : Int) - 1 - ((j + 1 : Nat) : Int) else ((j + 1 : Nat) : Int) := by
          rw [dN_length]
          split <;> omega
        rw [em]
        walk_at "ev"
      · walk_at "ev"
      · unfold ixN
        rw [zl, if_pos (by omega), if_pos (by omega)]
        simp
      · intro w' G6 H6 g6 hw'
        have hG6 := g6.n' hG5 hH5
        refine ⟨G6, g5.g.trans g6.g, same_mut g6.i hG6, (gc.trans (g5.trans g6)).mut hp0 hG6, s34.trans (g5.g.trans g6.g), ⟨_, rfl⟩, hG6, _, upd_same, ?_⟩
        rw [dep1_succ]
        unfold dN at hzs ⊢
        rw [List.map_set]
        exact (hzs.mono (g5.g.trans g6.g)).set hw'
    · rintro σ3 G4 H4 t1 t2 ⟨gc, s34, ⟨a', rfl⟩, hG4, zs, hH4, hzs⟩
      refine ⟨G4, g3.g.trans t1, t2, gc, ⟨_, _, rfl⟩, hG4, zs, hH4, ?_⟩
      have hrl : (rngD 1 (one.length - 2)).length = one.length - 2 := by simp [rngD]
      rw [hrl] at hzs
      rw [take_succ_get ho, List.foldl_append, ← hacc]
      exact hzs
  · rintro σ1 G2 H2 s1 s2 ⟨gb, ⟨o, a, rfl⟩, hG2, ys, hH2, hys⟩
    have e : L.strs.take (L.strs.map tupN).length = L.strs := by rw [List.length_map]; exact List.take_length
    rw [e] at hys
    have gf := fix_list gb hp0 hG2 hH2
    have dl : Da (upd G2 p (.lst ys)) (.ref p) (.list (dN L.deps)) := DaAll.lst upd_same (hys.mono (same_new hG2))
    exact rb_one (rs_retD (ed_nm rfl dl) gf.i fun v' G' H' g' dv => q v' G' H' (gf.trans g') dv)
end
end Fk
end
section
set_option Elab.async false
set_option linter.all false
set_option maxRecDepth 100000
set_option maxHeartbeats 4000000
/-! D10: the cost of a run step by step. -/
namespace Fk
open PySem PySem.Spec L2
open PyProof.Rows hiding St
local macro_rules | `(tactic| walk_at "gr") => `(tactic| first | assumption | exact Same.refl _ | (refine Same.trans ?_ (Grow.g (by assumption)); walk_at "gr"))
local macro_rules | `(tactic| walk_at "da") => `(tactic| first | assumption | exact Da.int _ | exact Da.bl _ | exact Da.non | (refine Da.mono ?_ (by assumption); walk_at "gr"))
local macro_rules | `(tactic| walk_at "dp") => `(tactic| (simp only [PyData.depth, PyData.depthAll, depthAll_dI, depthAll_dN, Nat.max_zero, Nat.zero_max, Nat.max_self, Nat.min_self, Nat.zero_min, Nat.min_zero] <;> omega))
local macro_rules | `(tactic| walk_at "bt") => `(tactic| first | exact Bt.isi (by assumption) | exact Bt.int (by assumption) | exact Bt.bool (by assumption) | exact Bt.tuple (by assumption) | exact Bt.len (by assumption) | exact Bt.list (by assumption) | exact Bt.set (by assumption) | exact Bt.sorted (by assumption) | exact Bt.range (by assumption) | exact Bt.enum (by assumption) | exact Bt.zip (by assumption) | exact Bt.min (by assumption) | exact Bt.max (by assumption) | exact Bt.sum (by assumption) | exact Bt.dict (by assumption) | exact Bt.str (by assumption))
local macro_rules | `(tactic| walk_at "au") => `(tactic| first | (apply prop_id; assumption) | (show PySem.W.keepIn _ _ = true; assumption) | (show (_ : Option Value) = none; walk_at "bt") | rfl | (show min _ _ ≤ 64; first | decide | walk_at "dp") | (show _ ≤ sizeLine; first | assumption | (simp only [List.length_cons, List.length_nil]; decide)) | (show (_ : Nat) ≤ _; decide) | (show (_ == _) = false; decide) | (show _ ≠ _; decide) | (show behindInMarks _ _ = false; first | exact nomark _ | with_unfolding_all rfl) | (show lastMarks _ _ = false; with_unfolding_all rfl) | (show OpR _ _ _; first | exact op_le | exact op_lt | exact opI_eq | exact opI_ne) | exact (fun _ _ => rfl) | (show ∀ _, _ = _; intro _; rfl) | exact Or.inl rfl | exact Or.inr rfl)
local macro_rules | `(tactic| walk_at "dt") => `(tactic| first | show Bool | show Int | show PyData | show List PyData | show List Int | show Nat | show Option Int | show V)
local macro_rules | `(tactic| walk_at "Se1") => `(tactic| first | walk_at "dt" | walk_at "Sev" | walk_at "au" | (apply Side.mk; walk_at "au"))
local macro_rules | `(tactic| walk_at "Scm") => `(tactic| first | (apply cm_lt <;> walk_at "Se1") | (apply cm_le <;> walk_at "Se1") | (apply cm_gt <;> walk_at "Se1") | (apply cm_ge <;> walk_at "Se1") | (apply cm_eq <;> walk_at "Se1") | (apply cm_ne <;> walk_at "Se1") | (apply cm_inL <;> walk_at "Se1") | (apply cm_inT <;> walk_at "Se1") | (apply cm_niL <;> walk_at "Se1") | (apply cm_niT <;> walk_at "Se1") | (apply cm_is <;> walk_at "Se1") | (apply cm_isnot <;> walk_at "Se1"))
local macro_rules | `(tactic| walk_at "Set") => `(tactic| first | (apply et_cmp <;> walk_at "Se1") | (apply et_not <;> walk_at "Se1") | (apply et_w; walk_at "Sew") | (apply et_chain <;> walk_at "Se1") | (apply et_val <;> walk_at "Se1"))
local macro_rules | `(tactic| walk_at "Sew") => `(tactic| first | (apply ew_and <;> walk_at "Sew1") | (apply ew_or <;> walk_at "Sew1") | (apply ew_and1; walk_at "Sev") | (apply ew_or1; walk_at "Sev"))
local macro_rules | `(tactic| walk_at "Sew1") => `(tactic| first | walk_at "dt" | (show Et _ _ _ _ _ _; walk_at "Sev") | (intro _; walk_at "Sew"))
local macro_rules | `(tactic| walk_at "Sec") => `(tactic| first | (apply ed_not <;> walk_at "Se1") | (apply ed_and <;> walk_at "Se1") | (apply ed_or <;> walk_at "Se1") | (apply ed_one <;> walk_at "Se1") | (apply ed_cmp <;> walk_at "Se1") | (apply ed_chain <;> walk_at "Se1"))
local macro_rules | `(tactic| walk_at "Seb") => `(tactic| first | (apply ed_lenT <;> walk_at "Se1") | (apply ed_lenL <;> walk_at "Se1") | (apply ed_call <;> walk_at "Se1") | (apply ed_isInt <;> walk_at "Se1") | (apply ed_isBool <;> walk_at "Se1") | (apply ed_isTuple <;> walk_at "Se1") | (apply ed_isList <;> walk_at "Se1") | (apply ed_isStr <;> walk_at "Se1") | (apply ed_isTL <;> walk_at "Se1") | (apply ed_listOf <;> walk_at "Se1") | (apply ed_tupleOf <;> walk_at "Se1") | (apply ed_min2 <;> walk_at "Se1") | (apply ed_int1 <;> walk_at "Se1"))
local macro_rules | `(tactic| walk_at "Sei") => `(tactic| first | (apply ed_ixT <;> walk_at "Se1") | (apply ed_ixL <;> walk_at "Se1"))
local macro_rules | `(tactic| walk_at "Sex") => `(tactic| first | exact ed_int | exact ed_bl | exact ed_non | exact ed_nm rfl (by walk_at "da") | (apply ed_add <;> walk_at "Se1") | (apply ed_sub <;> walk_at "Se1") | (apply ed_neg <;> walk_at "Se1") | walk_at "Sei" | (apply ed_tup <;> walk_at "Se1") | (apply ed_lst <;> walk_at "Se1") | (apply ed_mod <;> walk_at "Se1") | (apply ed_ifI <;> walk_at "Se1") | (apply ed_if2 <;> walk_at "Se1") | (apply ed_slT <;> walk_at "Se1") | (apply ed_slL <;> walk_at "Se1") | (apply ed_catT <;> walk_at "Se1"))
local macro_rules | `(tactic| walk_at "Sev") => `(tactic| first | (show Ed _ _ _ _ _ _; first | walk_at "Sex" | walk_at "Seb" | walk_at "Sec") | (show Et _ _ _ _ _ _; walk_at "Set") | (show Cm _ _ _ _ _ _ _ _; walk_at "Scm") | (show Ea _ _ _ _ _ _; first | exact ea_nil | (apply ea_cons <;> walk_at "Se1")) | (show Eo _ _ _ _ _ _; first | exact eo_none | (apply eo_some; walk_at "Sev")) | (show Er _ _ _ _ _ _; exact er_nm rfl) | (show Ew _ _ _ _ _ _; walk_at "Sew") | (intro _; walk_at "Sev"))
local macro_rules | `(tactic| walk_at "e1") => `(tactic| first | walk_at "dt" | walk_at "ev" | walk_at "au" | (apply Side.mk; first | walk_at "au" | skip))
local macro_rules | `(tactic| walk_at "cm") => `(tactic| first | (apply cm_lt <;> walk_at "e1") | (apply cm_le <;> walk_at "e1") | (apply cm_gt <;> walk_at "e1") | (apply cm_ge <;> walk_at "e1") | (apply cm_eq <;> walk_at "e1") | (apply cm_ne <;> walk_at "e1") | (apply cm_inL <;> walk_at "e1") | (apply cm_inT <;> walk_at "e1") | (apply cm_niL <;> walk_at "e1") | (apply cm_niT <;> walk_at "e1") | (apply cm_is <;> walk_at "e1") | (apply cm_isnot <;> walk_at "e1"))
local macro_rules | `(tactic| walk_at "et") => `(tactic| first | (apply et_cmp <;> walk_at "e1") | (apply et_not <;> walk_at "e1") | (apply et_w; walk_at "ew") | (apply et_chain <;> walk_at "e1") | (apply et_val <;> walk_at "e1"))
local macro_rules | `(tactic| walk_at "ew") => `(tactic| first | (apply ew_and <;> walk_at "ew1") | (apply ew_or <;> walk_at "ew1") | (apply ew_and1; walk_at "ev") | (apply ew_or1; walk_at "ev"))
local macro_rules | `(tactic| walk_at "ew1") => `(tactic| first | walk_at "dt" | (show Et _ _ _ _ _ _; walk_at "ev") | (intro _; walk_at "ew"))
local macro_rules | `(tactic| walk_at "ec") => `(tactic| first | (apply ed_not <;> walk_at "e1") | (apply ed_and <;> walk_at "e1") | (apply ed_or <;> walk_at "e1") | (apply ed_one <;> walk_at "e1") | (apply ed_cmp <;> walk_at "e1") | (apply ed_chain <;> walk_at "e1"))
local macro_rules | `(tactic| walk_at "eb") => `(tactic| first | walk_at "Seb" | (apply ed_lenT <;> walk_at "e1") | (apply ed_lenL <;> walk_at "e1") | (apply ed_call <;> walk_at "e1") | (apply ed_isInt <;> walk_at "e1") | (apply ed_isBool <;> walk_at "e1") | (apply ed_isTuple <;> walk_at "e1") | (apply ed_isList <;> walk_at "e1") | (apply ed_isStr <;> walk_at "e1") | (apply ed_isTL <;> walk_at "e1") | (apply ed_listOf <;> walk_at "e1") | (apply ed_tupleOf <;> walk_at "e1") | (apply ed_min2 <;> walk_at "e1") | (apply ed_int1 <;> walk_at "e1"))
local macro_rules | `(tactic| walk_at "ei") => `(tactic| first | walk_at "Sei" | (apply ed_ixT <;> walk_at "e1") | (apply ed_ixL <;> walk_at "e1"))
local macro_rules | `(tactic| walk_at "ex") => `(tactic| first | exact ed_int | exact ed_bl | exact ed_non | exact ed_nm rfl (by walk_at "da") | (apply ed_add <;> walk_at "e1") | (apply ed_sub <;> walk_at "e1") | (apply ed_neg <;> walk_at "e1") | walk_at "ei" | (apply ed_tup <;> walk_at "e1") | (apply ed_lst <;> walk_at "e1") | (apply ed_mod <;> walk_at "e1") | (apply ed_ifI <;> walk_at "e1") | (apply ed_if2 <;> walk_at "e1") | (apply ed_slT <;> walk_at "e1") | (apply ed_slL <;> walk_at "e1") | (apply ed_catT <;> walk_at "e1"))
local macro_rules | `(tactic| walk_at "ev") => `(tactic| first | (show Ed _ _ _ _ _ _; first | walk_at "ex" | walk_at "eb" | walk_at "ec") | (show Et _ _ _ _ _ _; walk_at "et") | (show Cm _ _ _ _ _ _ _ _; walk_at "cm") | (show Ea _ _ _ _ _ _; first | exact ea_nil | (apply ea_cons <;> walk_at "e1")) | (show Eo _ _ _ _ _ _; first | exact eo_none | (apply eo_some; walk_at "ev")) | (show Er _ _ _ _ _ _; exact er_nm rfl) | (show Ew _ _ _ _ _ _; walk_at "ew") | (intro _; walk_at "ev"))
def Ln.stepCost (L : Ln) (ps : List Int) : Int := ((List.range L.n).map fun i => ps.getD i 0 * ((L.deps.getD i 0 : Nat) : Int)).sum
def R_step_cost : List PyData → PyData → Prop := fun ds d => ∃ (L : Ln) (ps : List Int), L.Ok ∧ L.swings = false ∧ ps.length = L.n ∧ (∀ p ∈ ps, 0 ≤ p ∧ p ≤ 1000) ∧ ds = [L.d, .tuple (dI ps)] ∧ d = .int (L.stepCost ps)
theorem Ln.deps_length (L : Ln) : L.deps.length = L.n := by
  unfold Ln.deps
  rw [deps_len 0, List.length_replicate]
section
variable {P : Program} {w : World} {K : PySem.W.Frag} {mg : Str → Option Value} {base : Heap}
set_option maxHeartbeats 2000000 in
theorem ok_step_cost (D : Df K mg "step_cost" s_step_cost) (B : Bt mg) (O1 : Own P w K mg base "need_line" 3 (spD R_need_line)) (O2 : Own P w K mg base "need_prices" 2 (spD R_need_prices)) (O3 : Own P w K mg base "need_resting" 5 (spD R_need_resting))
    (O4 : Own P w K mg base "depths_in" 5 (spD R_depths_in)) : Own P w K mg base "step_cost" 6 (spD R_step_cost) := by
  refine Own.data D sc_step_cost (fun _ _ _ _ _ _ us hl => match us, hl with | [_, _], _ => rfl) (fun ds d ⟨_, _, _, _, _, _, e, _⟩ => by rw [e]; rfl) ?_
  rintro f cdv A outer s H vs Q E hr G _ _ i0 hvs ⟨L, ps, ok, hsw, hpl, hps, rfl, rfl⟩ q
  obtain ⟨x1, x2, rfl, h1, h2⟩ := hvs.inv2
  have hn1 := ok.one
  have hn2 := ok.most
  have hR1 : R_need_line [L.d] .none := ⟨L, ok, rfl, rfl⟩
  have hR2 : R_need_prices [L.d, .tuple (dI ps)] .none := ⟨L, ps, hn2, hpl, hps, rfl, rfl⟩
  have hR3 : R_need_resting [L.d] .none := ⟨L, ok, hsw, rfl, rfl⟩
  have hR4 : R_depths_in [L.d] (.list (dN L.deps)) := ⟨L, ok, rfl, rfl⟩
  refine rb_cons (rs_expr (Ed.ev (d := .none) ?_ i0) ?_)
  · walk_at "ev"
  intro _ G1 H1 g1 _
  refine rb_cons (rs_expr (Ed.ev (d := .none) ?_ g1.i) ?_)
  · walk_at "ev"
  intro _ G2 H2 g2 _
  refine rb_cons (rs_expr (Ed.ev (d := .none) ?_ g2.i) ?_)
  · walk_at "ev"
  intro _ G3 H3 g3 _
  have gb := g1.trans (g2.trans g3)
  have e1 : (ziD (dI ps) (dN L.deps)).length = L.n := by
    rw [ziD_length, dI_length, dN_length, hpl, L.deps_length, Nat.min_self]
  refine rb_one (rs_retD (Ed.is (ed_sum (ns := (List.range L.n).map fun i => ps.getD i 0 * ((L.deps.getD i 0 : Nat) : Int)) B.sum ?_) rfl) g3.i fun v' G' H' g' dv => q v' G' H' (gb.trans g') dv)
  have e2 : PyData.list (((List.range L.n).map fun i => ps.getD i 0 * ((L.deps.getD i 0 : Nat) : Int)).map PyData.int) = .list ((List.range (ziD (dI ps) (dN L.deps)).length).map fun i => .int (ps.getD i 0 * ((L.deps.getD i 0 : Nat) : Int))) := by
    rw [e1, List.map_map]
    rfl
  rw [e2]
  refine En.ed (en_lc0 (own := [("price", 2), ("turns", 3)]) (S := fun i _ => Sp2 2 3 (.int (ps.getD i 0)) (.int ((L.deps.getD i 0 : Nat) : Int))) _ sc_step_cost.nd (es_zip true false B.zip (ds := dI ps) (es := dN L.deps) ?_ ?_) (blkOk_by (N := N_step_cost) (sc := defScope s_step_cost) (by decide +kernel)) ?_ ?_ ?_ ?_)
  · show Ed _ _ _ _ _ (.tuple (dI ps))
    walk_at "ev"
  · show Ed _ _ _ _ _ (.list (dN L.deps))
    walk_at "ev"
  · intro s0 H0 C cl fp i d hd
    have hi := (List.getElem?_eq_some_iff.mp hd).1
    rw [e1] at hi
    have k1 : ps[i]? = some (ps.getD i 0) := by rw [List.getD_eq_getElem?_getD, List.getElem?_eq_getElem (by omega)]; rfl
    have k2 : L.deps[i]? = some (L.deps.getD i 0) := by rw [List.getD_eq_getElem?_getD, List.getElem?_eq_getElem (by rw [L.deps_length]; omega)]; rfl
    rw [ziD_get (dI_get k1) (dN_get k2)] at hd
    cases hd
    exact bd_pair sc_step_cost.nd
  · rintro i d G' σ2 ⟨v, u, rfl, _, _⟩
    rfl
  · rintro s0 H0 C cl fp i d σ2 G' H' g' hd ⟨v, u, rfl, hv, hu⟩
    have hi := (List.getElem?_eq_some_iff.mp hd).1
    rw [e1] at hi
    have k1 : ps[i]? = some (ps.getD i 0) := by rw [List.getD_eq_getElem?_getD, List.getElem?_eq_getElem (by omega)]; rfl
    have hp := hps _ (List.mem_of_getElem? k1)
    refine ed_mul ?_ ?_ (.inl ⟨Int.lt_of_lt_of_le (by decide) hp.1, Int.lt_of_le_of_lt hp.2 (by decide)⟩)
    · walk_at "ev"
    · walk_at "ev"
  · rw [e1]; omega
end
end Fk
end
section
set_option Elab.async false
set_option linter.all false
set_option maxRecDepth 100000
set_option maxHeartbeats 4000000
/-! Ru7: instances of Lots: fields, methods, making. -/
namespace Fk
open PySem PySem.Spec L2
open PyProof.Rows hiding St
section
variable {X : Cx} {o : Expr} {f : Str} {pos : Pos} {ta : TE}
def gFld (K : PySem.W.Frag) (ta : TE) (f : Str) : TG := fun v σ H Q => ta σ H fun x H1 => ∃ a C dx fs, x = .ref a ∧ H1 a = some (.ins C dx fs) ∧ Cls K C ∧ NoAttr K C f ∧ fs.length < 1000 ∧ Q σ (upd H1 a (.ins C dx (putF f v fs)))
/-- o.f as a target -/
theorem pg_fld (ha : PE X o ta) : PG X (.Attribute o f pos) (gFld X.K ta f) :=
  ⟨fun pins s σ H v u Q I r h => PySem.W.kas_attr (thn (ha.run pins s σ H _ I h) fun ov s1 ⟨x, H1, I1, rx, a, C, dx, fs, ex, ea, c, n, l, q⟩ => by
    subst ex
    cases (show ov = Value.ref a from rx)
    exact setattr_ok I1 ea c n l r fun s3 I3 => ⟨σ, _, I3, q⟩)⟩
end

def lotF (vb vs vp vm vq vr : V) : List (Str × V) := putF "is_ring" vr (putF "paths" vq (putF "must_fill" vm (putF "prices" vp (putF "suits" vs (putF "base" vb [])))))
theorem lotF_base (vb vs vp vm vq vr : V) : (lotF vb vs vp vm vq vr).lookup ("base" : Str) = some vb := by
  unfold lotF
  rw [lookup_putF, if_neg (show ¬ ("base" : Str) = "is_ring" by decide +kernel), lookup_putF, if_neg (show ¬ ("base" : Str) = "paths" by decide +kernel), lookup_putF, if_neg (show ¬ ("base" : Str) = "must_fill" by decide +kernel), lookup_putF, if_neg (show ¬ ("base" : Str) = "prices" by decide +kernel), lookup_putF, if_neg (show ¬ ("base" : Str) = "suits" by decide +kernel), lookup_putF, if_pos rfl]
theorem lotF_suits (vb vs vp vm vq vr : V) : (lotF vb vs vp vm vq vr).lookup ("suits" : Str) = some vs := by
  unfold lotF
  rw [lookup_putF, if_neg (show ¬ ("suits" : Str) = "is_ring" by decide +kernel), lookup_putF, if_neg (show ¬ ("suits" : Str) = "paths" by decide +kernel), lookup_putF, if_neg (show ¬ ("suits" : Str) = "must_fill" by decide +kernel), lookup_putF, if_neg (show ¬ ("suits" : Str) = "prices" by decide +kernel), lookup_putF, if_pos rfl]
theorem lotF_prices (vb vs vp vm vq vr : V) : (lotF vb vs vp vm vq vr).lookup ("prices" : Str) = some vp := by
  unfold lotF
  rw [lookup_putF, if_neg (show ¬ ("prices" : Str) = "is_ring" by decide +kernel), lookup_putF, if_neg (show ¬ ("prices" : Str) = "paths" by decide +kernel), lookup_putF, if_neg (show ¬ ("prices" : Str) = "must_fill" by decide +kernel), lookup_putF, if_pos rfl]
theorem lotF_must_fill (vb vs vp vm vq vr : V) : (lotF vb vs vp vm vq vr).lookup ("must_fill" : Str) = some vm := by
  unfold lotF
  rw [lookup_putF, if_neg (show ¬ ("must_fill" : Str) = "is_ring" by decide +kernel), lookup_putF, if_neg (show ¬ ("must_fill" : Str) = "paths" by decide +kernel), lookup_putF, if_pos rfl]
theorem lotF_paths (vb vs vp vm vq vr : V) : (lotF vb vs vp vm vq vr).lookup ("paths" : Str) = some vq := by
  unfold lotF
  rw [lookup_putF, if_neg (show ¬ ("paths" : Str) = "is_ring" by decide +kernel), lookup_putF, if_pos rfl]
theorem lotF_is_ring (vb vs vp vm vq vr : V) : (lotF vb vs vp vm vq vr).lookup ("is_ring" : Str) = some vr := by
  unfold lotF
  rw [lookup_putF, if_pos rfl]
theorem lotF_no_best (vb vs vp vm vq vr : V) : (lotF vb vs vp vm vq vr).lookup ("best" : Str) = none := by
  unfold lotF
  rw [lookup_putF, if_neg (show ¬ ("best" : Str) = "is_ring" by decide +kernel), lookup_putF, if_neg (show ¬ ("best" : Str) = "paths" by decide +kernel), lookup_putF, if_neg (show ¬ ("best" : Str) = "must_fill" by decide +kernel), lookup_putF, if_neg (show ¬ ("best" : Str) = "prices" by decide +kernel), lookup_putF, if_neg (show ¬ ("best" : Str) = "suits" by decide +kernel), lookup_putF, if_neg (show ¬ ("best" : Str) = "base" by decide +kernel)]
  rfl
theorem lotF_no_colours (vb vs vp vm vq vr : V) : (lotF vb vs vp vm vq vr).lookup ("colours" : Str) = none := by
  unfold lotF
  rw [lookup_putF, if_neg (show ¬ ("colours" : Str) = "is_ring" by decide +kernel), lookup_putF, if_neg (show ¬ ("colours" : Str) = "paths" by decide +kernel), lookup_putF, if_neg (show ¬ ("colours" : Str) = "must_fill" by decide +kernel), lookup_putF, if_neg (show ¬ ("colours" : Str) = "prices" by decide +kernel), lookup_putF, if_neg (show ¬ ("colours" : Str) = "suits" by decide +kernel), lookup_putF, if_neg (show ¬ ("colours" : Str) = "base" by decide +kernel)]
  rfl
theorem put_le {f : Str} {v : V} {fs : List (Str × V)} {n : Nat} (h : fs.length ≤ n) : (putF f v fs).length ≤ n + 1 := Nat.le_trans (length_putF f v fs) (Nat.succ_le_succ h)
theorem le_998 {fs : List (Str × V)} {n : Nat} (h : fs.length ≤ n) (k : n < 998 := by decide) : fs.length < 998 := Nat.lt_of_le_of_lt h k
theorem le_1000 {fs : List (Str × V)} {n : Nat} (h : fs.length ≤ n) (k : n < 1000 := by decide) : fs.length < 1000 := Nat.lt_of_le_of_lt h k
/-- what stands of the class -/
structure Ct (K : PySem.W.Frag) (C : Addr) : Prop where
  cl : Cls K C
  n_base : NoAttr K C "base"
  n_suits : NoAttr K C "suits"
  n_prices : NoAttr K C "prices"
  n_must_fill : NoAttr K C "must_fill"
  n_paths : NoAttr K C "paths"
  n_is_ring : NoAttr K C "is_ring"
/-- the instance at p, made of a line and prices -/
def Lot (G : Hp) (C p : Addr) (L : Ln) (ps : List Int) : Prop := ∃ dx vb vs vp vq, G p = some (.ins C dx (lotF vb vs vp (.bl true) vq (.bl L.swings))) ∧ Da G vb L.d ∧ Da G vs (.list (List.replicate L.n (.list [.bool true, .bool true]))) ∧ Da G vp (.tuple (dI ps)) ∧ Da G vq (.list (L.paths.map lstN))
theorem Lot.mono {G G' : Hp} {C p : Addr} {L : Ln} {ps : List Int} (e : Same G G') (h : Lot G C p L ps) : Lot G' C p L ps := by
  obtain ⟨dx, vb, vs, vp, vq, h1, h2, h3, h4, h5⟩ := h
  exact ⟨dx, vb, vs, vp, vq, e _ _ h1, h2.mono e, h3.mono e, h4.mono e, h5.mono e⟩
section
variable {X : Cx} {σ : St} {G H : Hp} {o e : Expr} {f : Str} {pos pos' pos2 pos3 pos4 : Pos} {C p dx : Addr} {fs : List (Str × V)} {D : Ends} {d d' : PyData} {v : V} {L : Ln} {ps : List Int} {es : List Expr} {ds : List PyData}
/-- o.f = e -/
theorem rs_fld {P : V → Hp → Hp → Prop} (he : Ev X σ G H e P) (ho : Er X σ G H o (.ref p)) (cl : Cls X.K C) (na : NoAttr X.K C f) (hp : H p = some (.ins C dx fs)) (hl : fs.length < 1000) (k : ∀ v G2 H2 G3 H3, Grow G H G2 H2 → P v G2 H2 → Grow G2 H2 G3 H3 → D.nx σ (upd H3 p (.ins C dx (putF f v fs))))
    (hs : swapsWith e (some (.Attribute o f pos')) pos.line X.env = pure false := by rfl) : RS X (.Assign [.Attribute o f pos'] e pos) D σ H :=
  rs_of (ps_fld pe_self pe_self hs) (he.run _ fun v G2 H2 g2 pv => ho.run G2 H2 g2 _ fun G3 H3 g3 => ⟨p, C, dx, fs, rfl, g3.h _ _ (g2.h _ _ hp), cl, na, hl, k v G2 H2 G3 H3 g2 pv g3⟩)
/-- o.f -/
theorem ed_fld (ho : Er X σ G H o (.ref p)) (cl : Cls X.K C) (na : NoAttr X.K C f) (hp : H p = some (.ins C dx fs)) (hl : fs.lookup f = some v) (dv : Da G v d) (hb : attributeBase o f X.env (eval o X.env) = eval o X.env := by rfl) : Ed X σ G H (.Attribute o f pos) d :=
  ⟨fun G1 H1 g Q q => re_of (pe_fld pe_self hb) (ho.run G1 H1 g _ fun G2 H2 g2 => ⟨p, C, dx, fs, v, rfl, g2.h _ _ (g.h _ _ hp), cl, na, hl, q v G2 H2 g2 (dv.mono (g.g.trans g2.g))⟩)⟩
/-- o.f, o.g = e -/
theorem rs_fld2 {f2 : Str} {o2 : Expr} {kt : Nat} (he : Ed X σ G H e (.tuple [d, d'])) (g : Same G H) (ho : Er X σ G H o (.ref p)) (hG : G p = none) (h0 : H p = some (.ins C dx fs)) (cl : Cls X.K C) (n1 : NoAttr X.K C f) (n2 : NoAttr X.K C f2) (hl : fs.length < 998)
    (ho2 : ∀ G1 H1 fs', Same G1 H1 → H1 p = some (.ins C dx fs') → Er X σ G1 H1 o2 (.ref p))
    (k : ∀ u v G2 H2, (∀ G' H' : Hp, Same G' H' → G' p = none → Same G' (upd H' p (.ins C dx (putF f2 v (putF f u fs))))) → Same G G2 → G2 p = none → Same G2 H2 → H2 p = some (.ins C dx (putF f2 v (putF f u fs))) → (∀ a w, a ≠ p → H a = some w → H2 a = some w) → (∀ a w, G a = none → H a = some w → (∀ xs, w ≠ .tup xs) → G2 a = none) → Da G2 u d → Da G2 v d' → D.nx σ H2)
    (hc : X.calm = true := by rfl) (h1 : (assignEach [.Attribute o f pos', .Attribute o2 f2 pos2] X.env).map (·.2) = assign (.Attribute o f pos') X.env :: (assignEach [.Attribute o2 f2 pos2] X.env).map (·.2) := by rfl)
    (h2 : (assignEach [.Attribute o2 f2 pos2] X.env).map (·.2) = assign (.Attribute o2 f2 pos2) X.env :: (assignEach [] X.env).map (·.2) := by rfl)
    (hn : (assignEach [.Attribute o f pos', .Attribute o2 f2 pos2] X.env).length = 2 := by rfl) (hst : (assignEach [.Attribute o f pos', .Attribute o2 f2 pos2] X.env).findIdx? (·.1) = none := by rfl)
    (hs : swapsWithSole [.Tuple [.Attribute o f pos', .Attribute o2 f2 pos2] kt pos3] e pos.line X.env = pure false := by rfl) (hw : swappedStores [.Tuple [.Attribute o f pos', .Attribute o2 f2 pos2] kt pos3] e X.env = pure none := by rfl)
    (h3 : (assignEach [.Tuple [.Attribute o f pos', .Attribute o2 f2 pos2] kt pos3] X.env).map (·.2) = [assign (.Tuple [.Attribute o f pos', .Attribute o2 f2 pos2] kt pos3) X.env] := by rfl) :
    RS X (.Assign [.Tuple [.Attribute o f pos', .Attribute o2 f2 pos2] kt pos3] e pos) D σ H := by
  refine rs_of (ps_asg pe_self (pg_tup hc (pgs_cons (pg_fld pe_self) (pgs_cons (pg_fld pe_self) pgs_nil h2) h1) hn hst) hs hw h3) (he.run G H (.refl g) _ fun t G2 H2 g2 dt => ?_)
  obtain ⟨a, xs, rfl, ha, hx⟩ := dt.inv_tup
  obtain ⟨u, v, rfl, du, dv⟩ := hx.inv2
  refine ⟨a, _, rfl, .of (g2.i _ _ ha), rfl, u, _, rfl, ho.run G2 H2 g2 _ fun G3 H3 g3 => ⟨p, C, dx, fs, rfl, g3.h _ _ (g2.h _ _ h0), cl, n1, by omega, v, _, rfl, ?_⟩⟩
  have gg := g2.trans g3
  have hG3 := gg.n p _ hG h0 nofun
  have sm : Same G3 (upd H3 p (.ins C dx (putF f u fs))) := same_mut g3.i hG3
  refine (ho2 G3 _ _ sm upd_same).run G3 _ (.refl sm) _ fun G4 H4 g4 => ⟨p, C, dx, _, rfl, g4.h _ _ upd_same, cl, n2, ?_, rfl, ?_⟩
  · have := length_putF f u fs
    omega
  · have hG4 := g4.n p _ hG3 upd_same nofun
    refine k u v G4 _ (fun G' H' s z => same_mut s z) (gg.g.trans g4.g) hG4 (same_mut g4.i hG4) upd_same (fun a w hne e => ?_) (fun a w k1 k2 k3 => ?_) (du.mono (g3.g.trans g4.g)) (dv.mono (g3.g.trans g4.g))
    · rw [upd_ne hne]
      refine g4.h _ _ ?_
      rw [upd_ne hne]
      exact gg.h _ _ e
    · by_cases z : a = p
      · rw [z]; exact hG4
      · refine g4.n a w (gg.n a w k1 k2 k3) ?_ k3
        rw [upd_ne z]
        exact gg.h _ _ k2
end

/-! ### methods -/
def spM (C : Addr) (R : Ln → List Int → List PyData → PyData → Prop) : Sp := fun vs H Q _ => ∃ G p L ps xs ds d, vs = .ref p :: xs ∧ Same G H ∧ Lot G C p L ps ∧ DaAll G xs ds ∧ R L ps ds d ∧ ∀ v G' H', Grow G H G' H' → Da G' v d → Q v H'
structure OwnM (P : Program) (w : World) (K : PySem.W.Frag) (mg : Str → Option Value) (base : Heap) (C : Addr) (m : Str) (k : Nat) (sp : Sp) : Prop where
  ex : ∃ f fd ps, Meth K C m f ∧ Binds K fd ps [] ∧ FnOk P w K mg base CX0 k f fd ps sp
structure DfM (K : PySem.W.Frag) (C : Addr) (m qn : Str) (st : Stmt) : Prop where
  ex : ∃ f fd, Meth K C m f ∧ Fun K m qn st f fd
section
variable {P : Program} {w : World} {K : PySem.W.Frag} {mg : Str → Option Value} {base : Heap} {x qn m : Str} {st : Stmt} {N ps : List Str} {k : Nat} {sp : Sp} {C : Addr}
theorem OwnM.data {R : Ln → List Int → List PyData → PyData → Prop} (D : DfM K C m qn st) (S : FnScope N ps (defScope st)) (hb : ∀ (kV doc pm : Value) (an : Option Addr) (cdv ct : Value) (us : List Value), us.length = ps.length → bindArgs (PySem.W.fnOf m qn (defArgs st) (defBody st) (defScope st) .none kV doc pm an cdv ct) ⟨us, []⟩ = pure (ps.zip us))
    (len : ∀ L qs ds d, R L qs ds d → ds.length + 1 = ps.length)
    (body : ∀ f cdv A outer s H vs Q E, Room k (CtxOf P w K mg base N qn st f cdv A outer s H E).A → ∀ G p L qs ds d, Same G H → Lot G C p L qs → DaAll G vs ds → R L qs ds d → (∀ v G' H', Grow G H G' H' → Da G' v d → Q v H') →
      RB (CtxOf P w K mg base N qn st f cdv A outer s H E) (defBody st) { nx := fun _ H' => Q .non H', rt := Q } (start N (.ref p :: vs)) H) :
    OwnM P w K mg base C m (k + 1) (spM C R) := by
  obtain ⟨f, fd, hm, F⟩ := D.ex
  refine ⟨f, fd, ps, hm, F.binds hb, F.ok S (fun vs H Q E ⟨G, p, L, qs, xs, ds, d, e, _, _, h, r, _⟩ => by rw [e, List.length_cons, h.len]; exact len L qs ds d r) fun cdv A outer s H vs Q E hr ⟨G, p, L, qs, xs, ds, d, e, i, hl, h, r, q⟩ => ⟨_, pss_self, ?_⟩⟩
  subst e
  exact body f cdv A outer s H xs Q E hr G p L qs ds d i hl h r q
end
section
variable {X : Cx} {σ : St} {G H : Hp} {o e : Expr} {m : Str} {pos apos : Pos} {C : Addr} {d : PyData} {L : Ln} {ps : List Int} {es : List Expr} {ds : List PyData} {k j : Nat} {R : Ln → List Int → List PyData → PyData → Prop}
/-- o.m(..), o a lot -/
theorem ed_meth {pl : Sem Bool} (ct : Ct X.K C) (O : OwnM X.prog X.w X.K X.mg X.base C m k (spM C R)) (hr : Room j X.A) (ho : Ep X σ G H o (fun v G2 _ => ∃ p, v = .ref p ∧ Lot G2 C p L ps)) (ha : Ea X σ G H (e :: es) ds) (hR : R L ps ds d)
    (hno : ∀ vb vs vp vm vq vr, (lotF vb vs vp vm vq vr).lookup m = none) (hk : k ≤ j := by decide)
    (hst : starEach (e :: es) X.env = (false, eval e X.env) :: starEach es X.env := by rfl) (hpl : (backTo pos (starEach es X.env)).any (·.1) = false := by rfl)
    (ht : eval (.Call (.Attribute o m apos) (e :: es) [] pos) X.env = (do
      let ov ← eval o X.env
      standAt apos.atName
      let (f, first) ← holding [ov] (getMethod ov m pl)
      callWith pos f first (backTo pos (starEach (e :: es) X.env)) (backToKw pos (keywordEach [] X.env))) := by rfl) : Ed X σ G H (.Call (.Attribute o m apos) (e :: es) [] pos) d := by
  obtain ⟨f, fd, qs, hm, b, F⟩ := O.ex
  refine ⟨fun G1 H1 g Q q => re_of (pe_meth (pl := pl) pe_self ct.cl hm F (hr.mono hk) b .nil pass0 pa_self hst hpl ht) (ho.run G1 H1 g _ fun x G2 H2 g2 hx => ?_)⟩
  obtain ⟨p, rfl, hl⟩ := hx
  obtain ⟨dx, vb, vs, vp, vq, h1, _⟩ := id hl
  refine ⟨p, dx, _, rfl, g2.i _ _ h1, hno _ _ _ _ _ _, ha.run G2 H2 (g.trans g2) _ fun us G3 H3 g3 du => ?_⟩
  refine ⟨G3, p, L, ps, us, ds, d, by rw [List.append_nil], g3.i, hl.mono g3.g, du, hR, fun v G4 H4 g4 dv => q v G4 H4 (g2.trans (g3.trans g4)) dv⟩
theorem Er.lot {p : Addr} (h : Er X σ G H o (.ref p)) (hl : Lot G C p L ps) : Ep X σ G H o (fun v G2 _ => ∃ p, v = .ref p ∧ Lot G2 C p L ps) :=
  ⟨fun G1 H1 g Q q => h.run G1 H1 g _ fun G2 H2 g2 => q _ G2 H2 g2 ⟨p, rfl, hl.mono (g.g.trans g2.g)⟩⟩
/-- self.f -/
theorem ed_self {p : Addr} {pos : Pos} {f : Str} {v : V} (ct : Ct X.K C) (ho : Er X σ G H o (.ref p)) (i : Same G H) {dx : Addr} {fs : List (Str × V)} (hp : G p = some (.ins C dx fs)) (na : NoAttr X.K C f) (hl : fs.lookup f = some v) (dv : Da G v d)
    (hb : attributeBase o f X.env (eval o X.env) = eval o X.env := by rfl) : Ed X σ G H (.Attribute o f pos) d := ed_fld ho ct.cl na (i _ _ hp) hl dv hb
end
end Fk
end
section
set_option Elab.async false
set_option linter.all false
set_option maxRecDepth 100000
set_option maxHeartbeats 4000000
/-! D11: Lots is made; its colours. -/
namespace Fk
open PySem PySem.Spec L2
open PyProof.Rows hiding St
local macro_rules | `(tactic| walk_at "gr") => `(tactic| first | assumption | exact Same.refl _ | (refine Same.trans ?_ (Grow.g (by assumption)); walk_at "gr"))
local macro_rules | `(tactic| walk_at "da") => `(tactic| first | assumption | exact Da.int _ | exact Da.bl _ | exact Da.non | (refine Da.mono ?_ (by assumption); walk_at "gr"))
local macro_rules | `(tactic| walk_at "dp") => `(tactic| (simp only [PyData.depth, PyData.depthAll, depthAll_dI, depthAll_dN, Nat.max_zero, Nat.zero_max, Nat.max_self, Nat.min_self, Nat.zero_min, Nat.min_zero] <;> omega))
local macro_rules | `(tactic| walk_at "bt") => `(tactic| first | exact Bt.isi (by assumption) | exact Bt.int (by assumption) | exact Bt.bool (by assumption) | exact Bt.tuple (by assumption) | exact Bt.len (by assumption) | exact Bt.list (by assumption) | exact Bt.set (by assumption) | exact Bt.sorted (by assumption) | exact Bt.range (by assumption) | exact Bt.enum (by assumption) | exact Bt.zip (by assumption) | exact Bt.min (by assumption) | exact Bt.max (by assumption) | exact Bt.sum (by assumption) | exact Bt.dict (by assumption) | exact Bt.str (by assumption))
local macro_rules | `(tactic| walk_at "au") => `(tactic| first | (apply prop_id; assumption) | (show PySem.W.keepIn _ _ = true; assumption) | (show (_ : Option Value) = none; walk_at "bt") | rfl | (show min _ _ ≤ 64; first | decide | walk_at "dp") | (show _ ≤ sizeLine; first | assumption | (simp only [List.length_cons, List.length_nil]; decide)) | (show (_ : Nat) ≤ _; decide) | (show (_ == _) = false; decide) | (show _ ≠ _; decide) | (show behindInMarks _ _ = false; first | exact nomark _ | with_unfolding_all rfl) | (show lastMarks _ _ = false; with_unfolding_all rfl) | (show OpR _ _ _; first | exact op_le | exact op_lt | exact opI_eq | exact opI_ne) | exact (fun _ _ => rfl) | (show ∀ _, _ = _; intro _; rfl) | exact Or.inl rfl | exact Or.inr rfl)
local macro_rules | `(tactic| walk_at "dt") => `(tactic| first | show Bool | show Int | show PyData | show List PyData | show List Int | show Nat | show Option Int | show V)
local macro_rules | `(tactic| walk_at "Se1") => `(tactic| first | walk_at "dt" | walk_at "Sev" | walk_at "au" | (apply Side.mk; walk_at "au"))
local macro_rules | `(tactic| walk_at "Scm") => `(tactic| first | (apply cm_lt <;> walk_at "Se1") | (apply cm_le <;> walk_at "Se1") | (apply cm_gt <;> walk_at "Se1") | (apply cm_ge <;> walk_at "Se1") | (apply cm_eq <;> walk_at "Se1") | (apply cm_ne <;> walk_at "Se1") | (apply cm_inL <;> walk_at "Se1") | (apply cm_inT <;> walk_at "Se1") | (apply cm_niL <;> walk_at "Se1") | (apply cm_niT <;> walk_at "Se1") | (apply cm_is <;> walk_at "Se1") | (apply cm_isnot <;> walk_at "Se1"))
local macro_rules | `(tactic| walk_at "Set") => `(tactic| first | (apply et_cmp <;> walk_at "Se1") | (apply et_not <;> walk_at "Se1") | (apply et_w; walk_at "Sew") | (apply et_chain <;> walk_at "Se1") | (apply et_val <;> walk_at "Se1"))
local macro_rules | `(tactic| walk_at "Sew") => `(tactic| first | (apply ew_and <;> walk_at "Sew1") | (apply ew_or <;> walk_at "Sew1") | (apply ew_and1; walk_at "Sev") | (apply ew_or1; walk_at "Sev"))
local macro_rules | `(tactic| walk_at "Sew1") => `(tactic| first | walk_at "dt" | (show Et _ _ _ _ _ _; walk_at "Sev") | (intro _; walk_at "Sew"))
local macro_rules | `(tactic| walk_at "Sec") => `(tactic| first | (apply ed_not <;> walk_at "Se1") | (apply ed_and <;> walk_at "Se1") | (apply ed_or <;> walk_at "Se1") | (apply ed_one <;> walk_at "Se1") | (apply ed_cmp <;> walk_at "Se1") | (apply ed_chain <;> walk_at "Se1"))
local macro_rules | `(tactic| walk_at "Seb") => `(tactic| first | (apply ed_lenT <;> walk_at "Se1") | (apply ed_lenL <;> walk_at "Se1") | (apply ed_call <;> walk_at "Se1") | (apply ed_isInt <;> walk_at "Se1") | (apply ed_isBool <;> walk_at "Se1") | (apply ed_isTuple <;> walk_at "Se1") | (apply ed_isList <;> walk_at "Se1") | (apply ed_isStr <;> walk_at "Se1") | (apply ed_isTL <;> walk_at "Se1") | (apply ed_listOf <;> walk_at "Se1") | (apply ed_tupleOf <;> walk_at "Se1") | (apply ed_min2 <;> walk_at "Se1") | (apply ed_int1 <;> walk_at "Se1"))
local macro_rules | `(tactic| walk_at "Sei") => `(tactic| first | (apply ed_ixT <;> walk_at "Se1") | (apply ed_ixL <;> walk_at "Se1"))
local macro_rules | `(tactic| walk_at "Sex") => `(tactic| first | exact ed_int | exact ed_bl | exact ed_non | exact ed_nm rfl (by walk_at "da") | (apply ed_add <;> walk_at "Se1") | (apply ed_sub <;> walk_at "Se1") | (apply ed_neg <;> walk_at "Se1") | walk_at "Sei" | (apply ed_tup <;> walk_at "Se1") | (apply ed_lst <;> walk_at "Se1") | (apply ed_mod <;> walk_at "Se1") | (apply ed_ifI <;> walk_at "Se1") | (apply ed_if2 <;> walk_at "Se1") | (apply ed_slT <;> walk_at "Se1") | (apply ed_slL <;> walk_at "Se1") | (apply ed_catT <;> walk_at "Se1"))
local macro_rules | `(tactic| walk_at "Sev") => `(tactic| first | (show Ed _ _ _ _ _ _; first | walk_at "Sex" | walk_at "Seb" | walk_at "Sec") | (show Et _ _ _ _ _ _; walk_at "Set") | (show Cm _ _ _ _ _ _ _ _; walk_at "Scm") | (show Ea _ _ _ _ _ _; first | exact ea_nil | (apply ea_cons <;> walk_at "Se1")) | (show Eo _ _ _ _ _ _; first | exact eo_none | (apply eo_some; walk_at "Sev")) | (show Er _ _ _ _ _ _; exact er_nm rfl) | (show Ew _ _ _ _ _ _; walk_at "Sew") | (intro _; walk_at "Sev"))
local macro_rules | `(tactic| walk_at "e1") => `(tactic| first | walk_at "dt" | walk_at "ev" | walk_at "au" | (apply Side.mk; first | walk_at "au" | skip))
local macro_rules | `(tactic| walk_at "cm") => `(tactic| first | (apply cm_lt <;> walk_at "e1") | (apply cm_le <;> walk_at "e1") | (apply cm_gt <;> walk_at "e1") | (apply cm_ge <;> walk_at "e1") | (apply cm_eq <;> walk_at "e1") | (apply cm_ne <;> walk_at "e1") | (apply cm_inL <;> walk_at "e1") | (apply cm_inT <;> walk_at "e1") | (apply cm_niL <;> walk_at "e1") | (apply cm_niT <;> walk_at "e1") | (apply cm_is <;> walk_at "e1") | (apply cm_isnot <;> walk_at "e1"))
local macro_rules | `(tactic| walk_at "et") => `(tactic| first | (apply et_cmp <;> walk_at "e1") | (apply et_not <;> walk_at "e1") | (apply et_w; walk_at "ew") | (apply et_chain <;> walk_at "e1") | (apply et_val <;> walk_at "e1"))
local macro_rules | `(tactic| walk_at "ew") => `(tactic| first | (apply ew_and <;> walk_at "ew1") | (apply ew_or <;> walk_at "ew1") | (apply ew_and1; walk_at "ev") | (apply ew_or1; walk_at "ev"))
local macro_rules | `(tactic| walk_at "ew1") => `(tactic| first | walk_at "dt" | (show Et _ _ _ _ _ _; walk_at "ev") | (intro _; walk_at "ew"))
local macro_rules | `(tactic| walk_at "ec") => `(tactic| first | (apply ed_not <;> walk_at "e1") | (apply ed_and <;> walk_at "e1") | (apply ed_or <;> walk_at "e1") | (apply ed_one <;> walk_at "e1") | (apply ed_cmp <;> walk_at "e1") | (apply ed_chain <;> walk_at "e1"))
local macro_rules | `(tactic| walk_at "eb") => `(tactic| first | walk_at "Seb" | (apply ed_lenT <;> walk_at "e1") | (apply ed_lenL <;> walk_at "e1") | (apply ed_call <;> walk_at "e1") | (apply ed_isInt <;> walk_at "e1") | (apply ed_isBool <;> walk_at "e1") | (apply ed_isTuple <;> walk_at "e1") | (apply ed_isList <;> walk_at "e1") | (apply ed_isStr <;> walk_at "e1") | (apply ed_isTL <;> walk_at "e1") | (apply ed_listOf <;> walk_at "e1") | (apply ed_tupleOf <;> walk_at "e1") | (apply ed_min2 <;> walk_at "e1") | (apply ed_int1 <;> walk_at "e1"))
local macro_rules | `(tactic| walk_at "ei") => `(tactic| first | walk_at "Sei" | (apply ed_ixT <;> walk_at "e1") | (apply ed_ixL <;> walk_at "e1"))
local macro_rules | `(tactic| walk_at "ex") => `(tactic| first | exact ed_int | exact ed_bl | exact ed_non | exact ed_nm rfl (by walk_at "da") | (apply ed_add <;> walk_at "e1") | (apply ed_sub <;> walk_at "e1") | (apply ed_neg <;> walk_at "e1") | walk_at "ei" | (apply ed_tup <;> walk_at "e1") | (apply ed_lst <;> walk_at "e1") | (apply ed_mod <;> walk_at "e1") | (apply ed_ifI <;> walk_at "e1") | (apply ed_if2 <;> walk_at "e1") | (apply ed_slT <;> walk_at "e1") | (apply ed_slL <;> walk_at "e1") | (apply ed_catT <;> walk_at "e1"))
local macro_rules | `(tactic| walk_at "ev") => `(tactic| first | (show Ed _ _ _ _ _ _; first | walk_at "ex" | walk_at "eb" | walk_at "ec") | (show Et _ _ _ _ _ _; walk_at "et") | (show Cm _ _ _ _ _ _ _ _; walk_at "cm") | (show Ea _ _ _ _ _ _; first | exact ea_nil | (apply ea_cons <;> walk_at "e1")) | (show Eo _ _ _ _ _ _; first | exact eo_none | (apply eo_some; walk_at "ev")) | (show Er _ _ _ _ _ _; exact er_nm rfl) | (show Ew _ _ _ _ _ _; walk_at "ew") | (intro _; walk_at "ev"))
def spI (C : Addr) : Sp := fun vs H Q _ => ∃ G H0 p dx xs L ps, vs = .ref p :: xs ∧ Same G H0 ∧ H0 p = none ∧ H0 dx = none ∧ dx ≠ p ∧ H = upd (upd H0 dx (.own p)) p (.ins C dx []) ∧ Ln.Ok L ∧
  DaAll G xs [L.d, .tuple (List.replicate L.n .none), .tuple (dI ps), .bool true] ∧ ∀ G' H', Grow G H0 G' H' → Lot G' C p L ps → Q .non H'
section
variable {P : Program} {w : World} {K : PySem.W.Frag} {mg : Str → Option Value} {base : Heap} {C : Addr}
structure MkM (P : Program) (w : World) (K : PySem.W.Frag) (mg : Str → Option Value) (base : Heap) (C : Addr) (k : Nat) (sp : Sp) : Prop where
  ex : ∃ f fd ps, Mk K C f ∧ Binds K fd ps [] ∧ FnOk P w K mg base CX0 k f fd ps sp
set_option maxHeartbeats 2000000 in
theorem ok_init (D : ∃ f fd, Mk K C f ∧ Fun K "__init__" "Lots.__init__" s_Lots_init f fd) (ct : Ct K C) (B : Bt mg) (O1 : Own P w K mg base "choices" 1 (spD R_choices)) (O2 : Own P w K mg base "paths_in" 6 (spD R_paths_in)) : MkM P w K mg base C 7 (spI C) := by
  obtain ⟨f, fd, hm, F⟩ := D
  refine ⟨f, fd, P_Lots_init, hm, F.binds (fun _ _ _ _ _ _ us hl => match us, hl with | [_, _, _, _, _], _ => rfl), F.ok sc_Lots_init (fun vs H Q E ⟨G, H0, p, dx, xs, L, ps, e, _, _, _, _, _, _, h, _⟩ => by rw [e, List.length_cons, h.len]; rfl) fun cdv A outer s H vs Q E hr ⟨G, H0, p, dx, xs, L, ps, e, i0, p0, d0, hne, eH, ok, hvs, q⟩ => ⟨_, pss_self, ?_⟩⟩
  subst e eH
  obtain ⟨x1, x2, x3, x4, rfl, h1, h2, h3, h4⟩ := hvs.inv4
  have hn1 := ok.one
  have hn2 := ok.most
  have g0 : Grow G H0 G (upd (upd H0 dx (.own p)) p (.ins C dx [])) := by
    have ga : Grow G H0 G (upd H0 dx (.own p)) := .newH i0 d0
    exact ga.trans (.newH ga.i (by rw [upd_ne (Ne.symm hne)]; exact p0))
  have hGp : G p = none := i0.free p0
  cases h4.inv_bl
  have hR2 : R_paths_in [L.d] (.tuple [.list (L.paths.map lstN), .bool L.swings]) := ⟨L, ok, rfl, rfl⟩
  refine rb_cons (rs_fld (P := fun v G2 _ => Da G2 v L.d) (p := p) (C := C) (dx := dx) (fs := []) (Ed.ev (ed_nm rfl h1) g0.i) (er_nm rfl) ct.cl ct.n_base upd_same (le_1000 (n := 0) (Nat.le_refl 0)) ?_)
  intro vb G1 H1 G2 H2 g1 hvb g2
  have gA := (g0.trans (g1.trans g2))
  have pA := (g1.trans g2).n p _ hGp upd_same nofun
  have gA' := gA.mut (o := .ins C dx (putF "base" vb [])) p0 pA
  have hR1 : ∀ k, k < L.n → R_choices [L.d, .tuple (List.replicate L.n .none), .int (k : Int)] (.list [.bool true, .bool true]) := fun k hk => ⟨L, k, ok, hk, rfl, rfl⟩
  have e1 : (dI L.c).length = L.n := by rw [dI_length]; rfl
  have h1A := h1.mono gA.g
  have h2A := h2.mono gA.g
  refine rb_cons (rs_fld (P := fun v G2 _ => Da G2 v (.list (List.replicate L.n (.list [.bool true, .bool true])))) (p := p) (C := C) (dx := dx) (fs := putF "base" vb []) (Ed.ev ?_ gA'.i) (er_nm rfl) ct.cl ct.n_suits upd_same (le_1000 (put_le (n := 0) (Nat.le_refl 0))) ?_)
  · have e2 : PyData.list (List.replicate L.n (.list [.bool true, .bool true])) = .list ((List.range (dN (List.range (dI L.c).length)).length).map fun _ => .list [.bool true, .bool true]) := by
      rw [dN_length, List.length_range, e1, List.map_const', List.length_range]
    rw [e2]
    refine En.ed (en_lc0 (own := [("k", 5)]) (S := fun _ => Sn 5) (fun _ => .list [.bool true, .bool true]) sc_Lots_init.nd (es_range B.range (n := (dI L.c).length) ?_ ?_) (blkOk_by (N := N_Lots_init) (sc := defScope s_Lots_init) (by decide +kernel)) (fun s0 H0 C cl fp i d hd => bd_name sc_Lots_init.nd) ?_ ?_ ?_)
    · unfold Ln.d at h1A
      walk_at "ev"
    · omega
    · rintro i d G' σ2 ⟨v, rfl, _⟩
      rfl
    · rintro s0 H0 C cl fp i d σ2 G' H' g' hd ⟨v, rfl, hv⟩
      rw [e1] at hd
      obtain ⟨hi, rfl⟩ := range_get hd
      have hR := hR1 i hi
      walk_at "ev"
    · rw [dN_length, List.length_range, e1]; omega
  intro vs G3 H3 G4 H4 g3 hvs' g4
  have gB := gA'.trans (g3.trans g4)
  have pB := (g3.trans g4).n p _ pA upd_same nofun
  have gB' := gB.mut (o := .ins C dx (putF "suits" vs (putF "base" vb []))) p0 pB
  have h3B := h3.mono gB.g
  refine rb_cons (rs_fld (P := fun v G2 _ => Da G2 v (.tuple (dI ps))) (p := p) (C := C) (dx := dx) (fs := putF "suits" vs (putF "base" vb [])) (Ed.ev (ed_nm rfl h3B) gB'.i) (er_nm rfl) ct.cl ct.n_prices upd_same (le_1000 (put_le (put_le (n := 0) (Nat.le_refl 0)))) ?_)
  intro vp G5 H5 G6 H6 g5 hvp g6
  have gC := gB'.trans (g5.trans g6)
  have pC := (g5.trans g6).n p _ pB upd_same nofun
  have gC' := gC.mut (o := .ins C dx (putF "prices" vp (putF "suits" vs (putF "base" vb [])))) p0 pC
  refine rb_cons (rs_fld (P := fun v G2 _ => Da G2 v (.bool true)) (p := p) (C := C) (dx := dx) (fs := putF "prices" vp (putF "suits" vs (putF "base" vb []))) (Ed.ev (ed_nm rfl (Da.bl true)) gC'.i) (er_nm rfl) ct.cl ct.n_must_fill upd_same (le_1000 (put_le (put_le (put_le (n := 0) (Nat.le_refl 0))))) ?_)
  intro vm G7 H7 G8 H8 g7 hvm g8
  cases hvm.inv_bl
  have gD := gC'.trans (g7.trans g8)
  have pD := (g7.trans g8).n p _ pC upd_same nofun
  have gD' := gD.mut (o := .ins C dx (putF "must_fill" (.bl true) (putF "prices" vp (putF "suits" vs (putF "base" vb []))))) p0 pD
  have h1D := h1.mono gD.g
  refine rb_one (rs_fld2 (d := .list (L.paths.map lstN)) (d' := .bool L.swings) (p := p) (C := C) (dx := dx) (fs := putF "must_fill" (.bl true) (putF "prices" vp (putF "suits" vs (putF "base" vb [])))) ?_ gD'.i (er_nm rfl) pD upd_same ct.cl ct.n_paths ct.n_is_ring (le_998 (put_le (put_le (put_le (put_le (n := 0) (Nat.le_refl 0)))))) (fun G1 H1 fs' _ _ => er_nm rfl) ?_)
  · walk_at "ev"
  · intro vq vr G9 H9 _ s9 p9 i9 e9 k9 n9 hvq hvr
    cases hvr.inv_bl
    refine q (upd G9 p (.ins C dx (lotF vb vs vp (.bl true) vq (.bl L.swings)))) H9 ?_ ⟨dx, vb, vs, vp, vq, upd_same, ?_⟩
    · refine ⟨gD'.g.trans (s9.trans (same_new p9)), fun a u e => ?_, same_fix i9 e9, fun a u k1 k2 k3 => ?_⟩
      · exact k9 _ _ (ne_of_none e p0) (gD'.h _ _ e)
      · rw [upd_ne (ne_of_none k2 p0)]
        exact n9 a u (gD'.n a u k1 k2 k3) (gD'.h _ _ k2) k3
    · have t1 : Same G1 G9 := g2.g.trans ((g3.g.trans g4.g).trans ((g5.g.trans g6.g).trans ((g7.g.trans g8.g).trans s9)))
      have t3 : Same G3 G9 := g4.g.trans ((g5.g.trans g6.g).trans ((g7.g.trans g8.g).trans s9))
      have t5 : Same G5 G9 := g6.g.trans ((g7.g.trans g8.g).trans s9)
      have f : Same G9 (upd G9 p (.ins C dx (lotF vb vs vp (.bl true) vq (.bl L.swings)))) := same_new p9
      exact ⟨hvb.mono (t1.trans f), hvs'.mono (t3.trans f), hvp.mono (t5.trans f), hvq.mono f⟩
end
end Fk
end
section
set_option Elab.async false
set_option linter.all false
set_option maxRecDepth 100000
set_option maxHeartbeats 4000000
/-! D12: the colours of a path. -/
namespace Fk
open PySem PySem.Spec L2
open PyProof.Rows hiding St
local macro_rules | `(tactic| walk_at "gr") => `(tactic| first | assumption | exact Same.refl _ | (refine Same.trans ?_ (Grow.g (by assumption)); walk_at "gr"))
local macro_rules | `(tactic| walk_at "da") => `(tactic| first | assumption | exact Da.int _ | exact Da.bl _ | exact Da.non | (refine Da.mono ?_ (by assumption); walk_at "gr"))
local macro_rules | `(tactic| walk_at "dp") => `(tactic| (simp only [PyData.depth, PyData.depthAll, depthAll_dI, depthAll_dN, Nat.max_zero, Nat.zero_max, Nat.max_self, Nat.min_self, Nat.zero_min, Nat.min_zero] <;> omega))
local macro_rules | `(tactic| walk_at "bt") => `(tactic| first | exact Bt.isi (by assumption) | exact Bt.int (by assumption) | exact Bt.bool (by assumption) | exact Bt.tuple (by assumption) | exact Bt.len (by assumption) | exact Bt.list (by assumption) | exact Bt.set (by assumption) | exact Bt.sorted (by assumption) | exact Bt.range (by assumption) | exact Bt.enum (by assumption) | exact Bt.zip (by assumption) | exact Bt.min (by assumption) | exact Bt.max (by assumption) | exact Bt.sum (by assumption) | exact Bt.dict (by assumption) | exact Bt.str (by assumption))
local macro_rules | `(tactic| walk_at "au") => `(tactic| first | (apply prop_id; assumption) | (show PySem.W.keepIn _ _ = true; assumption) | (show (_ : Option Value) = none; walk_at "bt") | rfl | (show min _ _ ≤ 64; first | decide | walk_at "dp") | (show _ ≤ sizeLine; first | assumption | (simp only [List.length_cons, List.length_nil]; decide)) | (show (_ : Nat) ≤ _; decide) | (show (_ == _) = false; decide) | (show _ ≠ _; decide) | (show behindInMarks _ _ = false; first | exact nomark _ | with_unfolding_all rfl) | (show lastMarks _ _ = false; with_unfolding_all rfl) | (show OpR _ _ _; first | exact op_le | exact op_lt | exact opI_eq | exact opI_ne) | exact (fun _ _ => rfl) | (show ∀ _, _ = _; intro _; rfl) | exact Or.inl rfl | exact Or.inr rfl)
local macro_rules | `(tactic| walk_at "dt") => `(tactic| first | show Bool | show Int | show PyData | show List PyData | show List Int | show Nat | show Option Int | show V)
local macro_rules | `(tactic| walk_at "Se1") => `(tactic| first | walk_at "dt" | walk_at "Sev" | walk_at "au" | (apply Side.mk; walk_at "au"))
local macro_rules | `(tactic| walk_at "Scm") => `(tactic| first | (apply cm_lt <;> walk_at "Se1") | (apply cm_le <;> walk_at "Se1") | (apply cm_gt <;> walk_at "Se1") | (apply cm_ge <;> walk_at "Se1") | (apply cm_eq <;> walk_at "Se1") | (apply cm_ne <;> walk_at "Se1") | (apply cm_inL <;> walk_at "Se1") | (apply cm_inT <;> walk_at "Se1") | (apply cm_niL <;> walk_at "Se1") | (apply cm_niT <;> walk_at "Se1") | (apply cm_is <;> walk_at "Se1") | (apply cm_isnot <;> walk_at "Se1"))
local macro_rules | `(tactic| walk_at "Set") => `(tactic| first | (apply et_cmp <;> walk_at "Se1") | (apply et_not <;> walk_at "Se1") | (apply et_w; walk_at "Sew") | (apply et_chain <;> walk_at "Se1") | (apply et_val <;> walk_at "Se1"))
local macro_rules | `(tactic| walk_at "Sew") => `(tactic| first | (apply ew_and <;> walk_at "Sew1") | (apply ew_or <;> walk_at "Sew1") | (apply ew_and1; walk_at "Sev") | (apply ew_or1; walk_at "Sev"))
local macro_rules | `(tactic| walk_at "Sew1") => `(tactic| first | walk_at "dt" | (show Et _ _ _ _ _ _; walk_at "Sev") | (intro _; walk_at "Sew"))
local macro_rules | `(tactic| walk_at "Sec") => `(tactic| first | (apply ed_not <;> walk_at "Se1") | (apply ed_and <;> walk_at "Se1") | (apply ed_or <;> walk_at "Se1") | (apply ed_one <;> walk_at "Se1") | (apply ed_cmp <;> walk_at "Se1") | (apply ed_chain <;> walk_at "Se1"))
local macro_rules | `(tactic| walk_at "Seb") => `(tactic| first | (apply ed_lenT <;> walk_at "Se1") | (apply ed_lenL <;> walk_at "Se1") | (apply ed_call <;> walk_at "Se1") | (apply ed_isInt <;> walk_at "Se1") | (apply ed_isBool <;> walk_at "Se1") | (apply ed_isTuple <;> walk_at "Se1") | (apply ed_isList <;> walk_at "Se1") | (apply ed_isStr <;> walk_at "Se1") | (apply ed_isTL <;> walk_at "Se1") | (apply ed_listOf <;> walk_at "Se1") | (apply ed_tupleOf <;> walk_at "Se1") | (apply ed_min2 <;> walk_at "Se1") | (apply ed_int1 <;> walk_at "Se1"))
local macro_rules | `(tactic| walk_at "Sei") => `(tactic| first | (apply ed_ixT <;> walk_at "Se1") | (apply ed_ixL <;> walk_at "Se1"))
local macro_rules | `(tactic| walk_at "Sex") => `(tactic| first | exact ed_int | exact ed_bl | exact ed_non | exact ed_nm rfl (by walk_at "da") | (apply ed_add <;> walk_at "Se1") | (apply ed_sub <;> walk_at "Se1") | (apply ed_neg <;> walk_at "Se1") | walk_at "Sei" | (apply ed_tup <;> walk_at "Se1") | (apply ed_lst <;> walk_at "Se1") | (apply ed_mod <;> walk_at "Se1") | (apply ed_ifI <;> walk_at "Se1") | (apply ed_if2 <;> walk_at "Se1") | (apply ed_slT <;> walk_at "Se1") | (apply ed_slL <;> walk_at "Se1") | (apply ed_catT <;> walk_at "Se1"))
local macro_rules | `(tactic| walk_at "Sev") => `(tactic| first | (show Ed _ _ _ _ _ _; first | walk_at "Sex" | walk_at "Seb" | walk_at "Sec") | (show Et _ _ _ _ _ _; walk_at "Set") | (show Cm _ _ _ _ _ _ _ _; walk_at "Scm") | (show Ea _ _ _ _ _ _; first | exact ea_nil | (apply ea_cons <;> walk_at "Se1")) | (show Eo _ _ _ _ _ _; first | exact eo_none | (apply eo_some; walk_at "Sev")) | (show Er _ _ _ _ _ _; exact er_nm rfl) | (show Ew _ _ _ _ _ _; walk_at "Sew") | (intro _; walk_at "Sev"))
local macro_rules | `(tactic| walk_at "e1") => `(tactic| first | walk_at "dt" | walk_at "ev" | walk_at "au" | (apply Side.mk; first | walk_at "au" | skip))
local macro_rules | `(tactic| walk_at "cm") => `(tactic| first | (apply cm_lt <;> walk_at "e1") | (apply cm_le <;> walk_at "e1") | (apply cm_gt <;> walk_at "e1") | (apply cm_ge <;> walk_at "e1") | (apply cm_eq <;> walk_at "e1") | (apply cm_ne <;> walk_at "e1") | (apply cm_inL <;> walk_at "e1") | (apply cm_inT <;> walk_at "e1") | (apply cm_niL <;> walk_at "e1") | (apply cm_niT <;> walk_at "e1") | (apply cm_is <;> walk_at "e1") | (apply cm_isnot <;> walk_at "e1"))
local macro_rules | `(tactic| walk_at "et") => `(tactic| first | (apply et_cmp <;> walk_at "e1") | (apply et_not <;> walk_at "e1") | (apply et_w; walk_at "ew") | (apply et_chain <;> walk_at "e1") | (apply et_val <;> walk_at "e1"))
local macro_rules | `(tactic| walk_at "ew") => `(tactic| first | (apply ew_and <;> walk_at "ew1") | (apply ew_or <;> walk_at "ew1") | (apply ew_and1; walk_at "ev") | (apply ew_or1; walk_at "ev"))
local macro_rules | `(tactic| walk_at "ew1") => `(tactic| first | walk_at "dt" | (show Et _ _ _ _ _ _; walk_at "ev") | (intro _; walk_at "ew"))
local macro_rules | `(tactic| walk_at "ec") => `(tactic| first | (apply ed_not <;> walk_at "e1") | (apply ed_and <;> walk_at "e1") | (apply ed_or <;> walk_at "e1") | (apply ed_one <;> walk_at "e1") | (apply ed_cmp <;> walk_at "e1") | (apply ed_chain <;> walk_at "e1"))
local macro_rules | `(tactic| walk_at "eb") => `(tactic| first | walk_at "Seb" | (apply ed_lenT <;> walk_at "e1") | (apply ed_lenL <;> walk_at "e1") | (apply ed_call <;> walk_at "e1") | (apply ed_isInt <;> walk_at "e1") | (apply ed_isBool <;> walk_at "e1") | (apply ed_isTuple <;> walk_at "e1") | (apply ed_isList <;> walk_at "e1") | (apply ed_isStr <;> walk_at "e1") | (apply ed_isTL <;> walk_at "e1") | (apply ed_listOf <;> walk_at "e1") | (apply ed_tupleOf <;> walk_at "e1") | (apply ed_min2 <;> walk_at "e1") | (apply ed_int1 <;> walk_at "e1"))
local macro_rules | `(tactic| walk_at "ei") => `(tactic| first | walk_at "Sei" | (apply ed_ixT <;> walk_at "e1") | (apply ed_ixL <;> walk_at "e1"))
local macro_rules | `(tactic| walk_at "ex") => `(tactic| first | exact ed_int | exact ed_bl | exact ed_non | exact ed_nm rfl (by walk_at "da") | (apply ed_add <;> walk_at "e1") | (apply ed_sub <;> walk_at "e1") | (apply ed_neg <;> walk_at "e1") | walk_at "ei" | (apply ed_tup <;> walk_at "e1") | (apply ed_lst <;> walk_at "e1") | (apply ed_mod <;> walk_at "e1") | (apply ed_ifI <;> walk_at "e1") | (apply ed_if2 <;> walk_at "e1") | (apply ed_slT <;> walk_at "e1") | (apply ed_slL <;> walk_at "e1") | (apply ed_catT <;> walk_at "e1"))
local macro_rules | `(tactic| walk_at "ev") => `(tactic| first | (show Ed _ _ _ _ _ _; first | walk_at "ex" | walk_at "eb" | walk_at "ec") | (show Et _ _ _ _ _ _; walk_at "et") | (show Cm _ _ _ _ _ _ _ _; walk_at "cm") | (show Ea _ _ _ _ _ _; first | exact ea_nil | (apply ea_cons <;> walk_at "e1")) | (show Eo _ _ _ _ _ _; first | exact eo_none | (apply eo_some; walk_at "ev")) | (show Er _ _ _ _ _ _; exact er_nm rfl) | (show Ew _ _ _ _ _ _; walk_at "ew") | (intro _; walk_at "ev"))
def sortN (l : List Nat) : List Nat := l.mergeSort fun a b => decide (a ≤ b)
theorem sortN_perm (l : List Nat) : (sortN l).Perm l := List.mergeSort_perm _ _
theorem sortN_le (l : List Nat) : (sortN l).Pairwise (· ≤ ·) := by
  have h := List.pairwise_mergeSort (le := fun a b : Nat => decide (a ≤ b)) (fun a b c h1 h2 => by simp at *; omega) (fun a b => by simp; omega) l
  exact h.imp fun h => by simpa using h
def markAt (some one : List Nat) (k : Nat) : Nat := one.getD (some.idxOf k) 0
def colsOf (L : Ln) (some one : List Nat) : List Int := (sortN some).map fun k => if markAt some one k = 1 then L.col (L.lf k) else L.col k
def R_colours : Ln → List Int → List PyData → PyData → Prop := fun L _ ds d => ∃ some one : List Nat, L.Ok ∧ (∀ k ∈ some, k < L.n) ∧ some.Nodup ∧ some.length = one.length ∧ some.length ≤ 40 ∧ ds = [lstN some, tupN one] ∧ d = .list (dI (colsOf L some one))
theorem dN_cast (l : List Nat) : dN l = (l.map fun k : Nat => (k : Int)).map PyData.int := by unfold dN; rw [List.map_map]; rfl
theorem cast_nodup {l : List Nat} (h : l.Nodup) : (l.map fun k : Nat => (k : Int)).Nodup := List.pairwise_map.mpr (h.imp fun h e => h (Int.ofNat.inj e))
theorem idx_get {l : List Nat} {k : Nat} (h : k ∈ l) : l[l.idxOf k]? = some k := by
  rw [List.getElem?_eq_getElem (List.idxOf_lt_length_of_mem h), List.getElem_idxOf]
section
variable {P : Program} {w : World} {K : PySem.W.Frag} {mg : Str → Option Value} {base : Heap} {C : Addr}
set_option maxHeartbeats 2000000 in
theorem ok_colours (D : DfM K C "colours" "Lots.colours" s_Lots_colours) (ct : Ct K C) (B : Bt mg) : OwnM P w K mg base C "colours" 1 (spM C R_colours) := by
  refine OwnM.data D sc_Lots_colours (fun _ _ _ _ _ _ us hl => match us, hl with | [_, _, _], _ => rfl) (fun L qs ds d ⟨_, _, _, _, _, _, _, e, _⟩ => by rw [e]; rfl) ?_
  rintro f cdv A outer s H vs Q E hr G p L qs _ _ i0 hL hvs ⟨some', one, ok, hks, nd, hl, hz, rfl, rfl⟩ q
  obtain ⟨x1, x2, rfl, h1, h2⟩ := hvs.inv2
  unfold lstN at h1
  unfold tupN at h2
  obtain ⟨dx, vb, vs, vp, vq, k1, k2, _, _, _⟩ := id hL
  refine rb_cons (rs_set (ev_dictZip (X := CtxOf P w K mg base N_Lots_colours "Lots.colours" s_Lots_colours f cdv A outer s H E) false true (ks := some'.map fun k : Nat => (k : Int)) (es := dN one) B.dict B.zip i0 ?_ ?_ (by rw [List.length_map, dN_length]; exact hl) (cast_nodup nd) (by rw [List.length_map]; omega)) sc_Lots_colours.nd ?_)
  · show Ed _ _ _ _ _ (.list ((some'.map fun k : Nat => (k : Int)).map PyData.int))
    rw [← dN_cast]
    walk_at "ev"
  · show Ed _ _ _ _ _ (.tuple (dN one))
    walk_at "ev"
  rintro _ G1 H1 g1 ⟨t, ys, rfl, ht0, htG, htH, hys⟩
  have nk : ((some'.map fun k : Nat => (k : Int)).map (Sum.inl : Int → L2.Key)).Nodup := List.pairwise_map.mpr ((cast_nodup nd).imp fun h e => h (by cases e; rfl))
  have hB : G1 p = some (.ins C dx (lotF vb vs vp (.bl true) vq (.bl L.swings))) := g1.g _ _ k1
  have hb1 := k2.mono g1.g
  have h11 := h1.mono g1.g
  have e3 : (dN (sortN some')).length = some'.length := by rw [dN_length]; exact (sortN_perm some').length_eq
  have e2 : PyData.list (dI (colsOf L some' one)) = .list ((List.range (dN (sortN some')).length).map fun i => .int (if markAt some' one ((sortN some').getD i 0) = 1 then L.col (L.lf ((sortN some').getD i 0)) else L.col ((sortN some').getD i 0))) := by
    rw [dN_length]
    congr 1
    unfold colsOf dI
    rw [List.map_map]
    exact (range_map (sortN some') 0 fun k => PyData.int (if markAt some' one k = 1 then L.col (L.lf k) else L.col k)).symm
  refine rb_one (rs_retD (Ed.is (En.ed (en_lc0 (own := [("k", 4)]) (S := fun _ => Sn 4) (fun i => .int (if markAt some' one ((sortN some').getD i 0) = 1 then L.col (L.lf ((sortN some').getD i 0)) else L.col ((sortN some').getD i 0))) sc_Lots_colours.nd (es_list (ds := dN (sortN some')) ?_) (blkOk_by (N := N_Lots_colours) (sc := defScope s_Lots_colours) (by decide +kernel)) (fun s0 H0 C cl fp i d hd => bd_name sc_Lots_colours.nd) ?_ ?_ ?_)) e2.symm) g1.i fun v' G' H' g' dv => q v' G' H' (g1.trans g') dv)
  · rw [dN_cast]
    refine ed_sortedI (ns := some'.map fun k : Nat => (k : Int)) (ms := (sortN some').map fun k : Nat => (k : Int)) B.sorted ?_ ((sortN_perm some').map _) (List.pairwise_map.mpr ((sortN_le some').imp fun h => by omega))
    rw [← dN_cast]
    walk_at "ev"
  · rintro i d G' σ2 ⟨v, rfl, _⟩
    rfl
  · rintro s0 H0 C' cl fp i d σ2 G' H' g' hd ⟨v, rfl, hv⟩
    obtain ⟨k, hk, rfl⟩ := dN_get' hd
    rw [getD_of hk]
    cases hv.inv_int
    have hkm : k ∈ some' := (sortN_perm some').mem_iff.mp (List.mem_of_getElem? hk)
    have hkn := hks k hkm
    have hix := idx_get hkm
    have hlt := List.idxOf_lt_length_of_mem hkm
    have ho : one[some'.idxOf k]? = some (markAt some' one k) := by
      unfold markAt
      rw [List.getD_eq_getElem?_getD, List.getElem?_eq_getElem (by omega)]
      rfl
    obtain ⟨y, hy, dy⟩ := hys.get (dN_get ho)
    have hval := valV_zip nk (i := some'.idxOf k) (k := Sum.inl (k : Int)) (y := y) (by rw [List.getElem?_map, List.getElem?_map, hix]; rfl) hy
    have a1 := Ln.at_ (L := L) (z := k) rfl hkn
    have a2 := Ln.at_lf (L := L) (z := k) rfl hkn
    have hB' := g'.g _ _ hB
    have hs := hb1.mono g'.g
    refine Ed.is (d := .int (if decide (markAt some' one k = 1) = true then L.col (L.lf k) else L.col k)) (ed_ifI ?_ ?_ ?_) (by simp)
    · refine Et.is (et_cmp (cm_eq hr (d := .int (markAt some' one k : Int)) (d' := .int 1) (ed_dgetK (k := (k : Int)) hr (er_nm (v := .ref t) rfl) ?_ (.inl (g'.h _ _ htH)) hval (dy.mono g'.g)) ed_int (by simp [PyData.depth]))) ?_
      · walk_at "ev"
      · rw [PyData.eqv, beq_dec, Bool.eq_iff_iff, decide_eq_true_eq, decide_eq_true_eq]
        omega
    · refine ed_ixT (ed_ixT (ds := [.tuple (dI L.c), .tuple (dN L.h), .bool L.r]) (i := 0) (d := .tuple (dI L.c)) (ed_self (d := L.d) ct (er_nm (v := .ref p) rfl) g'.i hB' ct.n_base (lotF_base _ _ _ _ _ _) hs) ed_int ⟨rfl⟩) ?_ ⟨a2⟩
      walk_at "ev"
    · refine ed_ixT (ed_ixT (ds := [.tuple (dI L.c), .tuple (dN L.h), .bool L.r]) (i := 0) (d := .tuple (dI L.c)) (ed_self (d := L.d) ct (er_nm (v := .ref p) rfl) g'.i hB' ct.n_base (lotF_base _ _ _ _ _ _) hs) ed_int ⟨rfl⟩) ?_ ⟨a1⟩
      walk_at "ev"
  · rw [e3]; omega
end
end Fk
end
section
set_option linter.all false
/-! Ma3: the best row of a path, plain. -/
namespace Fk
open PySem
def rowCost (ps : List Int) (cs one : List Nat) : Int := (((List.range (min cs.length one.length)).filter fun i => decide (one.getD i 0 = 1)).map fun i => ps.getD (cs.getD i 0) 0).sum
def extr (m : Bool) : List Int → Int
  | [] => 0
  | x :: r => r.foldl (fun a b => if m then max a b else min a b) x
theorem fold_ext (m : Bool) : ∀ (r : List Int) (x : Int), (r.foldl (fun a b => if m then max a b else min a b) x ∈ x :: r) ∧ ∀ y ∈ x :: r, if m then y ≤ r.foldl (fun a b => if m then max a b else min a b) x else r.foldl (fun a b => if m then max a b else min a b) x ≤ y
  | [], x => by
    refine ⟨by simp, fun y hy => ?_⟩
    have : y = x := by simpa using hy
    subst this
    cases m <;> simp
  | z :: r, x => by
    obtain ⟨h1, h2⟩ := fold_ext m r (if m then max x z else min x z)
    rw [List.foldl_cons]
    refine ⟨?_, fun y hy => ?_⟩
    · rcases List.mem_cons.mp h1 with h | h
      · rw [h]
        cases m
        · have : min x z = x ∨ min x z = z := by omega
          rcases this with e | e <;> simp [e]
        · have : max x z = x ∨ max x z = z := by omega
          rcases this with e | e <;> simp [e]
      · exact List.mem_cons_of_mem _ (List.mem_cons_of_mem _ h)
    · have h3 := h2 (if m then max x z else min x z) (by simp)
      rcases List.mem_cons.mp hy with e | hy
      · subst e
        cases m
        · simp at h3 ⊢; omega
        · simp at h3 ⊢; omega
      · rcases List.mem_cons.mp hy with e | hy
        · subst e
          cases m
          · simp at h3 ⊢; omega
          · simp at h3 ⊢; omega
        · exact h2 y (List.mem_cons_of_mem _ hy)
theorem extr_mem {m : Bool} {xs : List Int} (h : xs ≠ []) : extr m xs ∈ xs := by
  cases xs with
  | nil => exact absurd rfl h
  | cons x r => exact (fold_ext m r x).1
theorem extr_max {xs : List Int} : ∀ y ∈ xs, y ≤ extr true xs := by
  cases xs with
  | nil => intro y hy; cases hy
  | cons x r => intro y hy; have h := (fold_ext true r x).2 y hy; rw [if_pos rfl] at h; exact h
theorem extr_min {xs : List Int} : ∀ y ∈ xs, extr false xs ≤ y := by
  cases xs with
  | nil => intro y hy; cases hy
  | cons x r => intro y hy; have h := (fold_ext false r x).2 y hy; rw [if_neg (by decide)] at h; exact h
abbrev Bst := Option (List Int × List Nat)
def pickStep (L : Ln) (cs : List Nat) (cost : Int) (acc : Bst) (p : List Nat × Int) : Bst :=
  if (decide (p.2 = cost) && (acc.isNone || decide (colsOf L cs p.1 < (acc.getD ([], [])).1))) = true then some (colsOf L cs p.1, p.1) else acc
def pathRows (L : Ln) (cs : List Nat) : List (List Nat) := sets L.swings cs.length
def pathTold (L : Ln) (ps : List Int) (cs : List Nat) : List Int := (pathRows L cs).map (rowCost ps cs)
def pathCost (L : Ln) (ps : List Int) (m : Bool) (cs : List Nat) : Int := extr m (pathTold L ps cs)
def pickN (L : Ln) (ps : List Int) (m : Bool) (cs : List Nat) (j : Nat) : Bst := (((pathRows L cs).take j).map fun r => (r, rowCost ps cs r)).foldl (pickStep L cs (pathCost L ps m cs)) none
def pickRow (L : Ln) (ps : List Int) (m : Bool) (cs : List Nat) : List Nat := ((pickN L ps m cs (pathRows L cs).length).getD ([], [])).2
/-- what was picked of the first j rows -/
theorem pick_inv (L : Ln) (ps : List Int) (m : Bool) (cs : List Nat) (j : Nat) : match pickN L ps m cs j with
    | none => ∀ r ∈ (pathRows L cs).take j, rowCost ps cs r ≠ pathCost L ps m cs
    | some (c, r) => c = colsOf L cs r ∧ r ∈ (pathRows L cs).take j ∧ rowCost ps cs r = pathCost L ps m cs ∧ ∀ r' ∈ (pathRows L cs).take j, rowCost ps cs r' = pathCost L ps m cs → ¬ colsOf L cs r' < c := by
  induction j with
  | zero => simp [pickN]
  | succ j ih =>
    cases hj : (pathRows L cs)[j]? with
    | none =>
      have e : (pathRows L cs).take (j + 1) = (pathRows L cs).take j := by rw [List.take_add_one, hj]; simp
      unfold pickN at ih ⊢
      rw [e]
      exact ih
    | some x =>
      have e := take_succ_get hj
      have e2 : pickN L ps m cs (j + 1) = pickStep L cs (pathCost L ps m cs) (pickN L ps m cs j) (x, rowCost ps cs x) := by
        unfold pickN
        rw [e, List.map_append, List.foldl_append]
        rfl
      rw [e2, e]
      unfold pickStep
      cases hp : pickN L ps m cs j with
      | none =>
        rw [hp] at ih
        by_cases hc : rowCost ps cs x = pathCost L ps m cs
        · simp only [hc, decide_true, Option.isNone_none, Bool.true_or, Bool.and_self, if_true]
          refine ⟨trivial, by simp, trivial, fun r' hr' h' => ?_⟩
          rcases List.mem_append.mp hr' with h | h
          · exact absurd h' (ih r' h)
          · rw [List.mem_singleton.mp h]
            exact List.lt_irrefl _
        · simp only [hc, decide_false, Bool.false_and, Bool.false_eq_true, if_false]
          intro r hr
          rcases List.mem_append.mp hr with h | h
          · exact ih r h
          · rw [List.mem_singleton.mp h]; exact hc
      | some q =>
        obtain ⟨c, r⟩ := q
        rw [hp] at ih
        obtain ⟨i1, i2, i3, i4⟩ := ih
        by_cases hc : rowCost ps cs x = pathCost L ps m cs
        · by_cases hlt : colsOf L cs x < c
          · simp only [hc, decide_true, Option.isNone_some, Bool.false_or, Option.getD_some, hlt, Bool.and_self, if_true]
            refine ⟨trivial, by simp, trivial, fun r' hr' h' => ?_⟩
            rcases List.mem_append.mp hr' with h | h
            · intro hlt2
              exact i4 r' h h' (List.lt_trans hlt2 hlt)
            · rw [List.mem_singleton.mp h]
              exact List.lt_irrefl _
          · simp only [hc, decide_true, Option.isNone_some, Bool.false_or, Option.getD_some, hlt, decide_false, Bool.and_false, Bool.false_eq_true, if_false]
            refine ⟨i1, List.mem_append_left _ i2, i3, fun r' hr' h' => ?_⟩
            rcases List.mem_append.mp hr' with h | h
            · exact i4 r' h h'
            · rw [List.mem_singleton.mp h]; exact hlt
        · simp only [hc, decide_false, Bool.false_and, Bool.false_eq_true, if_false]
          refine ⟨i1, List.mem_append_left _ i2, i3, fun r' hr' h' => ?_⟩
          rcases List.mem_append.mp hr' with h | h
          · exact i4 r' h h'
          · rw [List.mem_singleton.mp h] at h'
            exact absurd h' hc
theorem pick_all {L : Ln} {ps : List Int} {m : Bool} {cs : List Nat} (h : pathRows L cs ≠ []) : pickN L ps m cs (pathRows L cs).length = some (colsOf L cs (pickRow L ps m cs), pickRow L ps m cs) ∧ pickRow L ps m cs ∈ pathRows L cs ∧
    rowCost ps cs (pickRow L ps m cs) = pathCost L ps m cs ∧ ∀ r' ∈ pathRows L cs, rowCost ps cs r' = pathCost L ps m cs → ¬ colsOf L cs r' < colsOf L cs (pickRow L ps m cs) := by
  have hi := pick_inv L ps m cs (pathRows L cs).length
  have hm : pathCost L ps m cs ∈ pathTold L ps cs := extr_mem (by unfold pathTold; simpa using h)
  unfold pathTold at hm
  obtain ⟨r0, hr0, e0⟩ := List.mem_map.mp hm
  unfold pickRow
  cases hp : pickN L ps m cs (pathRows L cs).length with
  | none =>
    rw [hp, List.take_length] at hi
    exact absurd e0 (hi r0 hr0)
  | some q =>
    obtain ⟨c, r⟩ := q
    rw [hp, List.take_length] at hi
    obtain ⟨i1, i2, i3, i4⟩ := hi
    subst i1
    exact ⟨rfl, i2, i3, i4⟩
def encB : Bst → PyData
  | none => .none
  | some (c, r) => .tuple [.list (dI c), tupN r]
def Ln.bestCost (L : Ln) (ps : List Int) (m : Bool) : Int := (L.paths.map (pathCost L ps m)).sum
def Ln.cells (L : Ln) : List Nat := L.paths.flatten
def Ln.marks (L : Ln) (ps : List Int) (m : Bool) : List Nat := (L.paths.map (pickRow L ps m)).flatten
def Ln.picked (L : Ln) (ps : List Int) (m : Bool) : List Nat := (sortN L.cells).filter fun k => decide (markAt L.cells (L.marks ps m) k = 1)
/-- what the walk needs of the paths -/
structure PathsOk (L : Ln) : Prop where
  lt : ∀ cs ∈ L.paths, ∀ k ∈ cs, k < L.n
  len : ∀ cs ∈ L.paths, cs.length ≤ 11
  some : ∀ cs ∈ L.paths, pathRows L cs ≠ []
  nd : L.cells.Nodup
  many : L.paths.length ≤ 40
end Fk
end
section
set_option Elab.async false
set_option linter.all false
set_option maxRecDepth 100000
set_option maxHeartbeats 4000000
/-! D13: the best lot. -/
namespace Fk
open PySem PySem.Spec L2
open PyProof.Rows hiding St
local macro_rules | `(tactic| walk_at "gr") => `(tactic| first | assumption | exact Same.refl _ | (refine Same.trans ?_ (Grow.g (by assumption)); walk_at "gr"))
local macro_rules | `(tactic| walk_at "da") => `(tactic| first | assumption | exact Da.int _ | exact Da.bl _ | exact Da.non | (refine Da.mono ?_ (by assumption); walk_at "gr"))
local macro_rules | `(tactic| walk_at "dp") => `(tactic| (simp only [PyData.depth, PyData.depthAll, depthAll_dI, depthAll_dN, Nat.max_zero, Nat.zero_max, Nat.max_self, Nat.min_self, Nat.zero_min, Nat.min_zero] <;> omega))
local macro_rules | `(tactic| walk_at "bt") => `(tactic| first | exact Bt.isi (by assumption) | exact Bt.int (by assumption) | exact Bt.bool (by assumption) | exact Bt.tuple (by assumption) | exact Bt.len (by assumption) | exact Bt.list (by assumption) | exact Bt.set (by assumption) | exact Bt.sorted (by assumption) | exact Bt.range (by assumption) | exact Bt.enum (by assumption) | exact Bt.zip (by assumption) | exact Bt.min (by assumption) | exact Bt.max (by assumption) | exact Bt.sum (by assumption) | exact Bt.dict (by assumption) | exact Bt.str (by assumption))
local macro_rules | `(tactic| walk_at "au") => `(tactic| first | (apply prop_id; assumption) | (show PySem.W.keepIn _ _ = true; assumption) | (show (_ : Option Value) = none; walk_at "bt") | rfl | (show min _ _ ≤ 64; first | decide | walk_at "dp") | (show _ ≤ sizeLine; first | assumption | (simp only [List.length_cons, List.length_nil]; decide)) | (show (_ : Nat) ≤ _; decide) | (show (_ == _) = false; decide) | (show _ ≠ _; decide) | (show behindInMarks _ _ = false; first | exact nomark _ | with_unfolding_all rfl) | (show lastMarks _ _ = false; with_unfolding_all rfl) | (show OpR _ _ _; first | exact op_le | exact op_lt | exact opI_eq | exact opI_ne) | exact (fun _ _ => rfl) | (show ∀ _, _ = _; intro _; rfl) | exact Or.inl rfl | exact Or.inr rfl)
local macro_rules | `(tactic| walk_at "dt") => `(tactic| first | show Bool | show Int | show PyData | show List PyData | show List Int | show Nat | show Option Int | show V)
local macro_rules | `(tactic| walk_at "Se1") => `(tactic| first | walk_at "dt" | walk_at "Sev" | walk_at "au" | (apply Side.mk; walk_at "au"))
local macro_rules | `(tactic| walk_at "Scm") => `(tactic| first | (apply cm_lt <;> walk_at "Se1") | (apply cm_le <;> walk_at "Se1") | (apply cm_gt <;> walk_at "Se1") | (apply cm_ge <;> walk_at "Se1") | (apply cm_eq <;> walk_at "Se1") | (apply cm_ne <;> walk_at "Se1") | (apply cm_inL <;> walk_at "Se1") | (apply cm_inT <;> walk_at "Se1") | (apply cm_niL <;> walk_at "Se1") | (apply cm_niT <;> walk_at "Se1") | (apply cm_is <;> walk_at "Se1") | (apply cm_isnot <;> walk_at "Se1"))
local macro_rules | `(tactic| walk_at "Set") => `(tactic| first | (apply et_cmp <;> walk_at "Se1") | (apply et_not <;> walk_at "Se1") | (apply et_w; walk_at "Sew") | (apply et_chain <;> walk_at "Se1") | (apply et_val <;> walk_at "Se1"))
local macro_rules | `(tactic| walk_at "Sew") => `(tactic| first | (apply ew_and <;> walk_at "Sew1") | (apply ew_or <;> walk_at "Sew1") | (apply ew_and1; walk_at "Sev") | (apply ew_or1; walk_at "Sev"))
local macro_rules | `(tactic| walk_at "Sew1") => `(tactic| first | walk_at "dt" | (show Et _ _ _ _ _ _; walk_at "Sev") | (intro _; walk_at "Sew"))
local macro_rules | `(tactic| walk_at "Sec") => `(tactic| first | (apply ed_not <;> walk_at "Se1") | (apply ed_and <;> walk_at "Se1") | (apply ed_or <;> walk_at "Se1") | (apply ed_one <;> walk_at "Se1") | (apply ed_cmp <;> walk_at "Se1") | (apply ed_chain <;> walk_at "Se1"))
local macro_rules | `(tactic| walk_at "Seb") => `(tactic| first | (apply ed_lenT <;> walk_at "Se1") | (apply ed_lenL <;> walk_at "Se1") | (apply ed_call <;> walk_at "Se1") | (apply ed_isInt <;> walk_at "Se1") | (apply ed_isBool <;> walk_at "Se1") | (apply ed_isTuple <;> walk_at "Se1") | (apply ed_isList <;> walk_at "Se1") | (apply ed_isStr <;> walk_at "Se1") | (apply ed_isTL <;> walk_at "Se1") | (apply ed_listOf <;> walk_at "Se1") | (apply ed_tupleOf <;> walk_at "Se1") | (apply ed_min2 <;> walk_at "Se1") | (apply ed_int1 <;> walk_at "Se1"))
local macro_rules | `(tactic| walk_at "Sei") => `(tactic| first | (apply ed_ixT <;> walk_at "Se1") | (apply ed_ixL <;> walk_at "Se1"))
local macro_rules | `(tactic| walk_at "Sex") => `(tactic| first | exact ed_int | exact ed_bl | exact ed_non | exact ed_nm rfl (by walk_at "da") | (apply ed_add <;> walk_at "Se1") | (apply ed_sub <;> walk_at "Se1") | (apply ed_neg <;> walk_at "Se1") | walk_at "Sei" | (apply ed_tup <;> walk_at "Se1") | (apply ed_lst <;> walk_at "Se1") | (apply ed_mod <;> walk_at "Se1") | (apply ed_ifI <;> walk_at "Se1") | (apply ed_if2 <;> walk_at "Se1") | (apply ed_slT <;> walk_at "Se1") | (apply ed_slL <;> walk_at "Se1") | (apply ed_catT <;> walk_at "Se1"))
local macro_rules | `(tactic| walk_at "Sev") => `(tactic| first | (show Ed _ _ _ _ _ _; first | walk_at "Sex" | walk_at "Seb" | walk_at "Sec") | (show Et _ _ _ _ _ _; walk_at "Set") | (show Cm _ _ _ _ _ _ _ _; walk_at "Scm") | (show Ea _ _ _ _ _ _; first | exact ea_nil | (apply ea_cons <;> walk_at "Se1")) | (show Eo _ _ _ _ _ _; first | exact eo_none | (apply eo_some; walk_at "Sev")) | (show Er _ _ _ _ _ _; exact er_nm rfl) | (show Ew _ _ _ _ _ _; walk_at "Sew") | (intro _; walk_at "Sev"))
local macro_rules | `(tactic| walk_at "e1") => `(tactic| first | walk_at "dt" | walk_at "ev" | walk_at "au" | (apply Side.mk; first | walk_at "au" | skip))
local macro_rules | `(tactic| walk_at "cm") => `(tactic| first | (apply cm_lt <;> walk_at "e1") | (apply cm_le <;> walk_at "e1") | (apply cm_gt <;> walk_at "e1") | (apply cm_ge <;> walk_at "e1") | (apply cm_eq <;> walk_at "e1") | (apply cm_ne <;> walk_at "e1") | (apply cm_inL <;> walk_at "e1") | (apply cm_inT <;> walk_at "e1") | (apply cm_niL <;> walk_at "e1") | (apply cm_niT <;> walk_at "e1") | (apply cm_is <;> walk_at "e1") | (apply cm_isnot <;> walk_at "e1"))
local macro_rules | `(tactic| walk_at "et") => `(tactic| first | (apply et_cmp <;> walk_at "e1") | (apply et_not <;> walk_at "e1") | (apply et_w; walk_at "ew") | (apply et_chain <;> walk_at "e1") | (apply et_val <;> walk_at "e1"))
local macro_rules | `(tactic| walk_at "ew") => `(tactic| first | (apply ew_and <;> walk_at "ew1") | (apply ew_or <;> walk_at "ew1") | (apply ew_and1; walk_at "ev") | (apply ew_or1; walk_at "ev"))
local macro_rules | `(tactic| walk_at "ew1") => `(tactic| first | walk_at "dt" | (show Et _ _ _ _ _ _; walk_at "ev") | (intro _; walk_at "ew"))
local macro_rules | `(tactic| walk_at "ec") => `(tactic| first | (apply ed_not <;> walk_at "e1") | (apply ed_and <;> walk_at "e1") | (apply ed_or <;> walk_at "e1") | (apply ed_one <;> walk_at "e1") | (apply ed_cmp <;> walk_at "e1") | (apply ed_chain <;> walk_at "e1"))
local macro_rules | `(tactic| walk_at "eb") => `(tactic| first | walk_at "Seb" | (apply ed_lenT <;> walk_at "e1") | (apply ed_lenL <;> walk_at "e1") | (apply ed_call <;> walk_at "e1") | (apply ed_isInt <;> walk_at "e1") | (apply ed_isBool <;> walk_at "e1") | (apply ed_isTuple <;> walk_at "e1") | (apply ed_isList <;> walk_at "e1") | (apply ed_isStr <;> walk_at "e1") | (apply ed_isTL <;> walk_at "e1") | (apply ed_listOf <;> walk_at "e1") | (apply ed_tupleOf <;> walk_at "e1") | (apply ed_min2 <;> walk_at "e1") | (apply ed_int1 <;> walk_at "e1"))
local macro_rules | `(tactic| walk_at "ei") => `(tactic| first | walk_at "Sei" | (apply ed_ixT <;> walk_at "e1") | (apply ed_ixL <;> walk_at "e1"))
local macro_rules | `(tactic| walk_at "ex") => `(tactic| first | exact ed_int | exact ed_bl | exact ed_non | exact ed_nm rfl (by walk_at "da") | (apply ed_add <;> walk_at "e1") | (apply ed_sub <;> walk_at "e1") | (apply ed_neg <;> walk_at "e1") | walk_at "ei" | (apply ed_tup <;> walk_at "e1") | (apply ed_lst <;> walk_at "e1") | (apply ed_mod <;> walk_at "e1") | (apply ed_ifI <;> walk_at "e1") | (apply ed_if2 <;> walk_at "e1") | (apply ed_slT <;> walk_at "e1") | (apply ed_slL <;> walk_at "e1") | (apply ed_catT <;> walk_at "e1"))
local macro_rules | `(tactic| walk_at "ev") => `(tactic| first | (show Ed _ _ _ _ _ _; first | walk_at "ex" | walk_at "eb" | walk_at "ec") | (show Et _ _ _ _ _ _; walk_at "et") | (show Cm _ _ _ _ _ _ _ _; walk_at "cm") | (show Ea _ _ _ _ _ _; first | exact ea_nil | (apply ea_cons <;> walk_at "e1")) | (show Eo _ _ _ _ _ _; first | exact eo_none | (apply eo_some; walk_at "ev")) | (show Er _ _ _ _ _ _; exact er_nm rfl) | (show Ew _ _ _ _ _ _; walk_at "ew") | (intro _; walk_at "ev"))
def zipKV (ks ms : List Nat) : List (L2.Key × V) := (ks.map fun k : Nat => (Sum.inl (k : Int) : L2.Key)).zip (ms.map fun m : Nat => V.int (m : Int))
theorem valV_none {κ : Type} [DecidableEq κ] {kvs : List (κ × V)} {k : κ} (h : k ∉ kvs.map (·.1)) : valV kvs k = none := by
  unfold valV
  rw [Option.map_eq_none_iff, List.find?_eq_none]
  intro p hp e
  have e' : p.1 = k := by simpa using e
  exact h (List.mem_map.mpr ⟨p, hp, e'⟩)
theorem zipKV_keys {ks ms : List Nat} (h : ks.length ≤ ms.length) : (zipKV ks ms).map (·.1) = (ks.map fun k : Nat => (k : Int)).map Sum.inl := by
  unfold zipKV
  rw [List.map_fst_zip (by simpa using h), List.map_map]
  rfl
theorem inl_inj {a b : Nat} (e : (Sum.inl (a : Int) : L2.Key) = Sum.inl (b : Int)) : a = b := by cases e; rfl
theorem zipKV_put {ks ms : List Nat} {k m : Nat} (hl : ks.length = ms.length) (h : k ∉ ks) : putK (zipKV ks ms) (Sum.inl (k : Int)) (.int (m : Int)) = zipKV (ks ++ [k]) (ms ++ [m]) := by
  rw [putK_new]
  · unfold zipKV
    rw [List.map_append, List.map_append, List.zip_append (by simpa using hl)]
    rfl
  · refine valV_none fun hm => ?_
    rw [zipKV_keys (Nat.le_of_eq hl), List.map_map] at hm
    obtain ⟨j, hj, e⟩ := List.mem_map.mp hm
    exact h (inl_inj e ▸ hj)
theorem zipKV_val {ks ms : List Nat} {k : Nat} (nd : ks.Nodup) (hl : ks.length = ms.length) (h : k ∈ ks) : valV (zipKV ks ms) (Sum.inl (k : Int)) = some (.int (markAt ks ms k : Int)) := by
  have hlt := List.idxOf_lt_length_of_mem h
  have hm : ms[ks.idxOf k]? = some (markAt ks ms k) := by
    unfold markAt
    rw [List.getD_eq_getElem?_getD, List.getElem?_eq_getElem (by omega)]
    rfl
  unfold zipKV
  refine valV_zip (List.pairwise_map.mpr (nd.imp fun h e => h (inl_inj e))) (i := ks.idxOf k) ?_ ?_
  · rw [List.getElem?_map, idx_get h]; rfl
  · rw [List.getElem?_map, hm]; rfl
theorem sorted_cells (l : List Nat) : (dI (l.map fun k : Nat => (k : Int))).mergeSort (PySem.W.dataLe false id) = dN (sortN l) := by
  have e : dI (l.map fun k : Nat => (k : Int)) = l.map fun k : Nat => PyData.int (k : Int) := by unfold dI; rw [List.map_map]; rfl
  rw [e, merge_map]
  unfold dN sortN
  congr 2
  funext a b
  have h := congrFun (congrFun (PySem.W.dataLe_int (β := Int) id) (a : Int)) (b : Int)
  show (!PySem.W.dataLt (.int (b : Int)) (.int (a : Int))) = decide (a ≤ b)
  rw [PySem.W.dataLt_int, Bool.eq_iff_iff]
  simp
def R_best : Ln → List Int → List PyData → PyData → Prop := fun L ps ds d => ∃ m : Bool, L.Ok ∧ ps.length = L.n ∧ L.n ≤ 11 ∧ PathsOk L ∧ ds = [.bool m] ∧ d = .tuple [.int (L.bestCost ps m), .tuple (dI (L.turn (L.picked ps m)))]
section
variable {X : Cx} {σ : St} {G H : Hp} {a b : Expr} {x y : Str} {i j : Nat} {pos px py pt pt2 : Pos} {kt k2 : Nat} {D : Ends}
/-- x, y = a, b by way of a tuple -/
theorem rs_par2 {P : List V → Hp → Hp → Prop} (ha : ∀ Q : List V → Hp → Prop, (∀ vs G2 H2, Grow G H G2 H2 → P vs G2 H2 → Q vs H2) → RA X [a, b] σ H Q) (hp : ∀ vs G2 H2, P vs G2 H2 → vs.length = 2) (hN : X.N.Nodup)
    (k : ∀ v w G2 H2 q, Grow G H G2 H2 → P [v, w] G2 H2 → H2 q = none → D.nx ((σ.set i (some v)).set j (some w)) (upd H2 q (.tup [v, w])))
    (hi : X.N[i]? = some x) (hj : X.N[j]? = some y)
    (hx : Loc X.env.scope x := by first | exact Or.inl rfl | exact Or.inr rfl) (hf : X.fn x = true ∨ X.env.scope.names.lookup x = some .local := by first | exact .inl rfl | exact .inr rfl)
    (hy : Loc X.env.scope y := by first | exact Or.inl rfl | exact Or.inr rfl) (hg : X.fn y = true ∨ X.env.scope.names.lookup y = some .local := by first | exact .inl rfl | exact .inr rfl)
    (hc : X.calm = true := by rfl) (h1 : (assignEach [.Name x px, .Name y py] X.env).map (·.2) = assign (.Name x px) X.env :: (assignEach [.Name y py] X.env).map (·.2) := by rfl)
    (h2 : (assignEach [.Name y py] X.env).map (·.2) = assign (.Name y py) X.env :: (assignEach [] X.env).map (·.2) := by rfl)
    (hn : (assignEach [.Name x px, .Name y py] X.env).length = 2 := by rfl) (hst : (assignEach [.Name x px, .Name y py] X.env).findIdx? (·.1) = none := by rfl)
    (hs : swapsWithSole [.Tuple [.Name x px, .Name y py] kt pt] (.Tuple [a, b] k2 pt2) pos.line X.env = pure false := by rfl) (hw : swappedStores [.Tuple [.Name x px, .Name y py] kt pt] (.Tuple [a, b] k2 pt2) X.env = pure none := by rfl)
    (h3 : (assignEach [.Tuple [.Name x px, .Name y py] kt pt] X.env).map (·.2) = [assign (.Tuple [.Name x px, .Name y py] kt pt) X.env] := by rfl) :
    RS X (.Assign [.Tuple [.Name x px, .Name y py] kt pt] (.Tuple [a, b] k2 pt2) pos) D σ H :=
  rs_of (ps_asg (pe_tup pa_self) (pg_tup hc (pgs_cons (pg_name hN hi hx hf) (pgs_cons (pg_name hN hj hy hg) pgs_nil h2) h1) hn hst) hs hw h3) (ha _ fun vs G2 H2 g p => by
    have hl := hp vs G2 H2 p
    match vs, hl with
    | [v, w], _ => exact ⟨by show 2 ≤ sizeLine; decide, fun q hq => ⟨q, _, rfl, .of upd_same, rfl, v, _, rfl, w, _, rfl, rfl, k v w G2 H2 q g p hq⟩⟩)
end
theorem getD_at {α : Type} {l : List α} {i : Nat} {z : α} (h : i < l.length) : l[i]? = some (l.getD i z) := by rw [List.getD_eq_getElem?_getD, List.getElem?_eq_getElem h]; rfl
theorem not_take {α : Type} {l : List α} {n : Nat} {x : α} (nd : l.Nodup) (h : l[n]? = some x) : x ∉ l.take n := fun hm => by
  obtain ⟨i, hi⟩ := List.mem_iff_getElem?.mp hm
  have hlt := (List.getElem?_eq_some_iff.mp hi).1
  rw [List.length_take] at hlt
  rw [List.getElem?_take, if_pos (by omega)] at hi
  have hl := (List.getElem?_eq_some_iff.mp h).1
  have e := (List.getElem?_inj (by omega) nd).mp (hi.trans h.symm)
  omega
theorem flat_take {α : Type} {ls : List (List α)} {i : Nat} {l : List α} (h : ls[i]? = some l) : (ls.take (i + 1)).flatten = (ls.take i).flatten ++ l := by
  rw [take_succ_get h, List.flatten_append]
  simp
theorem flat_nodup {α : Type} {ls : List (List α)} (i : Nat) (h : ls.flatten.Nodup) : (ls.take i).flatten.Nodup := by
  have e : ls.flatten = (ls.take i).flatten ++ (ls.drop i).flatten := by rw [← List.flatten_append, List.take_append_drop]
  rw [e] at h
  exact (List.nodup_append.mp h).1
theorem flat_le {α : Type} (c : Nat) : ∀ {ls : List (List α)}, (∀ l ∈ ls, l.length ≤ c) → ls.flatten.length ≤ c * ls.length
  | [], _ => by simp
  | l :: ls, h => by
    have h1 := h l (by simp)
    have h2 := flat_le c (ls := ls) fun x hx => h x (by simp [hx])
    rw [List.flatten_cons, List.length_append, List.length_cons, Nat.mul_succ]
    omega
theorem flat_len_eq {α β : Type} {f : List α → List β} : ∀ {ls : List (List α)}, (∀ l ∈ ls, (f l).length = l.length) → (ls.map f).flatten.length = ls.flatten.length
  | [], _ => rfl
  | l :: ls, h => by
    rw [List.map_cons, List.flatten_cons, List.flatten_cons, List.length_append, List.length_append, h l (by simp), flat_len_eq (ls := ls) fun x hx => h x (by simp [hx])]
theorem sum_snoc (xs : List Int) (x : Int) : (xs ++ [x]).sum = xs.sum + x := by simp
section
variable {P : Program} {w : World} {K : PySem.W.Frag} {mg : Str → Option Value} {base : Heap} {C : Addr}
set_option maxHeartbeats 4000000 in
theorem ok_best (D : DfM K C "best" "Lots.best" s_Lots_best) (ct : Ct K C) (B : Bt mg) (O1 : Own P w K mg base "sets_of" 2 (spD R_sets_of)) (O2 : Own P w K mg base "with_turned" 1 (spD R_with_turned)) (OC : OwnM P w K mg base C "colours" 1 (spM C R_colours)) : OwnM P w K mg base C "best" 3 (spM C R_best) := by
  refine OwnM.data D sc_Lots_best (fun _ _ _ _ _ _ us hl => match us, hl with | [_, _], _ => rfl) (fun L qs ds d ⟨_, _, _, _, _, e, _⟩ => by rw [e]; rfl) ?_
  rintro f cdv A outer s H vs Q E hr G p L ps _ _ i0 hL hvs ⟨m, ok, hpl, hn11, po, rfl, rfl⟩ q
  obtain ⟨x1, rfl, h1⟩ := hvs.inv1
  cases h1.inv_bl
  have hn1 := ok.one
  obtain ⟨dx, vb, vs, vp, vq, k1, k2, k3, k4, k5⟩ := id hL
  refine rb_cons (rs_par2 (G := G) (i := 2) (j := 3) (P := fun vs G2 H2 => ∃ t, vs = [.ref t, .int 0] ∧ H t = none ∧ G2 t = none ∧ H2 t = some (.dK [])) ?_ (fun vs G2 H2 ⟨t, e, _⟩ => by rw [e]; rfl) sc_Lots_best.nd ?_ rfl rfl)
  · intro Q' q'
    refine ra_of (pa_cons pe_self (pa_cons pe_self pa_nil rfl) rfl) ((ev_newK i0).run _ fun v G2 H2 g2 ⟨t, e, t0, tG, tH⟩ => re_of pe_int ?_)
    subst e
    exact q' _ G2 H2 g2 ⟨t, rfl, t0, tG, tH⟩
  rintro v u G1 H1' q0 g1' ⟨t, e, t0, tG, tH'⟩ hq0
  cases e
  have g1 : Grow G H G1 (upd H1' q0 (.tup [.ref t, .int 0])) := g1'.trans (.newH g1'.i hq0)
  have tH : (upd H1' q0 (.tup [.ref t, .int 0])) t = some (.dK []) := by rw [upd_ne (ne_of_none tH' hq0)]; exact tH'
  generalize upd H1' q0 (.tup [.ref t, .int 0]) = H1 at g1 tH
  refine rb_cons (rs_for (es_list (ds := L.paths.map lstN) ?_) g1.i (fun i d hd => bd_name (i := 4) sc_Lots_best.nd)
    (fun i σ' G' H' => Grow G H G' H' ∧ (∃ a b c d e f g h j k l, σ' = [some (.ref p), some (.bl m), some (.ref t), some (.int ((L.paths.take i).map (pathCost L ps m)).sum), a, b, c, d, e, f, g, h, j, k, l]) ∧ G' t = none ∧
      H' t = some (.dK (zipKV (L.paths.take i).flatten ((L.paths.take i).map (pickRow L ps m)).flatten))) ?_ ?_ ?_)
  · exact ed_self ct (er_nm (v := .ref p) rfl) g1.i (g1.g _ _ k1) ct.n_paths (lotF_paths _ _ _ _ _ _) (k5.mono g1.g)
  · intro G2 H2 g2
    exact ⟨g1.trans g2, ⟨none, none, none, none, none, none, none, none, none, none, none, rfl⟩, g2.n' tG tH, g2.h _ _ tH⟩
  · rintro i d σ1 G2 H2 G3 H3 σ2 hd s1 s2 ⟨gb, ⟨a, b, c, d', e, f', g, h, j, k, l, rfl⟩, hG2, hH2⟩ g3 ⟨u, rfl, hu⟩
    obtain ⟨cs, hcs, rfl⟩ := map_get' hd
    have hcm := List.mem_of_getElem? hcs
    have clt := po.lt cs hcm
    have clen := po.len cs hcm
    have csome := po.some cs hcm
    unfold lstN at hu
    have gb3 := gb.trans g3
    have hH3 := g3.h _ _ hH2
    have hG3 := g3.n' hG2 hH2
    have k13 := gb3.g _ _ k1
    have hRs : R_sets_of [.list (dN cs), .bool L.swings, .list (List.replicate L.n (.list [.bool true, .bool true])), .bool true] (.list ((pathRows L cs).map tupN)) := ⟨cs, L.swings, L.n, clt, clen, rfl, rfl⟩
    -- rows
    refine rb_cons (rs_setD (d := .list ((pathRows L cs).map tupN)) (ed_call O1 hr (ea_cons ?_ (ea_cons (ed_self ct (er_nm (v := .ref p) rfl) g3.i k13 ct.n_is_ring (lotF_is_ring _ _ _ _ _ _) (Da.bl _)) (ea_cons (ed_self ct (er_nm (v := .ref p) rfl) g3.i k13 ct.n_suits (lotF_suits _ _ _ _ _ _) (k3.mono gb3.g)) (ea_cons (ed_self ct (er_nm (v := .ref p) rfl) g3.i k13 ct.n_must_fill (lotF_must_fill _ _ _ _ _ _) (Da.bl _)) ea_nil)))) ⟨hRs⟩) g3.i sc_Lots_best.nd ?_)
    · walk_at "ev"
    intro vr G4 H4 g4 hvr
    have gb4 := gb3.trans g4
    have rlen : ∀ r ∈ pathRows L cs, r.length = cs.length := fun r hr => rows_one L.swings cs.length r (List.mem_filter.mp hr).1
    have rmany : (pathRows L cs).length ≤ 2048 := by
      have h1 : (pathRows L cs).length ≤ (rowsN L.swings cs.length).length := List.length_filter_le _ _
      have h2 := rows_len L.swings cs.length
      have h3 : 2 ^ cs.length ≤ 2 ^ 11 := Nat.pow_le_pow_right (by decide) clen
      omega
    -- told
    refine rb_cons (rs_setLc0 (own := [("one", 6)]) (S := fun _ => Sn 6) (fun i => .int (rowCost ps cs ((pathRows L cs).getD i []))) sc_Lots_best.nd (es_list (ds := (pathRows L cs).map tupN) (ed_nm rfl hvr)) g4.i (blkOk_by (N := N_Lots_best) (sc := defScope s_Lots_best) (by decide +kernel)) (fun s0 H0 C cl fp i d hd => bd_name sc_Lots_best.nd) ?_ ?_ ?_ ?_)
    · rintro i d G' σ2 ⟨v, rfl, _⟩
      rfl
    · rintro s0 H0 C' cl fp i d σ2 G' H' g' hd' ⟨v, rfl, hv⟩
      obtain ⟨one, ho, rfl⟩ := map_get' hd'
      unfold tupN at hv
      have hol := rlen one (List.mem_of_getElem? ho)
      have hu' := (hu.mono g4.g).mono g'.g
      have k1' := g'.g _ _ (gb4.g _ _ k1)
      rw [getD_of ho]
      refine Ed.is (ed_sum (ns := ((List.range (min cs.length one.length)).filter fun i => decide (one.getD i 0 = 1)).map fun i => ps.getD (cs.getD i 0) 0) B.sum ?_) rfl
      have e2 : PyData.list ((((List.range (min cs.length one.length)).filter fun i => decide (one.getD i 0 = 1)).map fun i => ps.getD (cs.getD i 0) 0).map PyData.int) = .list (given (ziD (dN cs) (dN one)).length (fun i => decide (one.getD i 0 = 1)) (fun i => .int (ps.getD (cs.getD i 0) 0))) := by
        unfold given
        rw [ziD_length, dN_length, dN_length, List.map_map]
        rfl
      rw [e2]
      refine En.ed (en_lc1 (own := [("cell", 7), ("mark", 8)]) (S := fun i _ => Sp2 7 8 (.int (cs.getD i 0 : Int)) (.int (one.getD i 0 : Int))) (fun i => decide (one.getD i 0 = 1)) (fun i => .int (ps.getD (cs.getD i 0) 0)) sc_Lots_best.nd (es_zip false true (ds := dN cs) (es := dN one) B.zip ?_ ?_) (blkOk_by (N := N_Lots_best) (by rfl)) ?_ ?_ ?_ ?_ ?_)
      · exact ed_nm (d := .list (dN cs)) rfl hu'
      · exact ed_nm (d := .tuple (dN one)) rfl hv
      · intro s1' H1' C1 cl1 fp1 j d hd2
        have hj := (List.getElem?_eq_some_iff.mp hd2).1
        rw [ziD_length, dN_length, dN_length] at hj
        have e1 : cs[j]? = some (cs.getD j 0) := by rw [List.getD_eq_getElem?_getD, List.getElem?_eq_getElem (by omega)]; rfl
        have e2 : one[j]? = some (one.getD j 0) := by rw [List.getD_eq_getElem?_getD, List.getElem?_eq_getElem (by omega)]; rfl
        rw [ziD_get (dN_get e1) (dN_get e2)] at hd2
        cases hd2
        exact bd_pair sc_Lots_best.nd
      · rintro j d G2' σ3 ⟨v1, v2, rfl, _, _⟩
        rfl
      · rintro s1' H1' C1 cl1 fp1 j d σ3 G2' H2' g2' hd2 ⟨v1, v2, rfl, hv1, hv2⟩
        refine Et.is (et_cmp (cm_eq hr (d := .int (one.getD j 0 : Int)) (d' := .int 1) ?_ ?_ (by simp [PyData.depth]))) ?_
        · walk_at "ev"
        · walk_at "ev"
        · rw [PyData.eqv, beq_dec, Bool.eq_iff_iff, decide_eq_true_eq, decide_eq_true_eq]
          omega
      · rintro s1' H1' C1 cl1 fp1 j d σ3 G2' H2' g2' hd2 ⟨v1, v2, rfl, hv1, hv2⟩ _
        have hj := (List.getElem?_eq_some_iff.mp hd2).1
        rw [ziD_length, dN_length, dN_length] at hj
        have e1 : cs[j]? = some (cs.getD j 0) := by rw [List.getD_eq_getElem?_getD, List.getElem?_eq_getElem (by omega)]; rfl
        have hlt := clt _ (List.mem_of_getElem? e1)
        have ap : atI (dI ps) ((cs.getD j 0 : Nat) : Int) = some (.int (ps.getD (cs.getD j 0) 0)) := atI_nat (dI_get (getD_at (by omega)))
        refine ed_ixT (ed_self (d := .tuple (dI ps)) ct (er_nm (v := .ref p) rfl) g2'.i (g2'.g _ _ k1') ct.n_prices (lotF_prices _ _ _ _ _ _) (((k4.mono gb4.g).mono g'.g).mono g2'.g)) ?_ ⟨ap⟩
        walk_at "ev"
      · rw [ziD_length, dN_length, dN_length]; omega
    · rw [List.length_map]; omega
    intro vt G5 H5 g5 hvt
    rw [List.length_map, range_map (pathRows L cs) [] fun r => PyData.int (rowCost ps cs r)] at hvt
    have hvt' : Da G5 vt (.list (dI (pathTold L ps cs))) := by
      unfold dI pathTold
      rw [List.map_map]
      exact hvt
    have told_ne : pathTold L ps cs ≠ [] := by unfold pathTold; simpa using csome
    -- cost
    refine rb_cons (rs_setD (d := .int (pathCost L ps m cs)) (ed_if (k := m) ?_ (fun e => ed_max (ns := pathTold L ps cs) (m := pathCost L ps m cs) B.max (ed_nm rfl hvt') (extr_mem told_ne) ?_) (fun e => ed_min (ns := pathTold L ps cs) (m := pathCost L ps m cs) B.min (ed_nm rfl hvt') (extr_mem told_ne) ?_)) g5.i sc_Lots_best.nd ?_)
    · walk_at "ev"
    · intro y hy
      unfold pathCost
      rw [e]
      exact extr_max y hy
    · intro y hy
      unfold pathCost
      rw [e]
      exact extr_min y hy
    intro vc G6 H6 g6 hvc
    cases hvc.inv_int
    refine rb_cons (rs_augI (i := 3) (m := ((L.paths.take i).map (pathCost L ps m)).sum) (n := pathCost L ps m cs) rfl ?_ g6.i sc_Lots_best.nd ?_)
    · walk_at "ev"
    intro G7 H7 g7
    refine rb_cons (rs_setD (d := encB none) ed_non g7.i sc_Lots_best.nd ?_)
    intro vb0 G8 H8 g8 hvb0
    have gb8 := (gb4.trans g5).trans (g6.trans (g7.trans g8))
    have hH8 := g8.h _ _ (g7.h _ _ (g6.h _ _ (g5.h _ _ (g4.h _ _ hH3))))
    have hG8 := g8.n' (g7.n' (g6.n' (g5.n' (g4.n' hG3 hH3) (g4.h _ _ hH3)) (g5.h _ _ (g4.h _ _ hH3))) (g6.h _ _ (g5.h _ _ (g4.h _ _ hH3)))) (g7.h _ _ (g6.h _ _ (g5.h _ _ (g4.h _ _ hH3))))
    have gr8 := g5.g.trans (g6.g.trans (g7.g.trans g8.g))
    have hvr8 := hvr.mono gr8
    have hvt8 := hvt'.mono (g6.g.trans (g7.g.trans g8.g))
    have hu8 := (hu.mono g4.g).mono gr8
    have tl : (pathTold L ps cs).length = (pathRows L cs).length := by unfold pathTold; rw [List.length_map]
    have zl : (ziD ((pathRows L cs).map tupN) (dI (pathTold L ps cs))).length = (pathRows L cs).length := by rw [ziD_length, List.length_map, dI_length, tl, Nat.min_self]
    refine rb_cons (rs_for (es_zip false false (ds := (pathRows L cs).map tupN) (es := dI (pathTold L ps cs)) B.zip (ed_nm (d := .list _) rfl hvr8) (ed_nm (d := .list _) rfl hvt8)) g8.i (S := fun j d => Sp2 6 12 (tupN ((pathRows L cs).getD j [])) (.int (rowCost ps cs ((pathRows L cs).getD j [])))) (fun j d hd2 => ?_)
      (fun j σ' G' H' => Grow G H G' H' ∧ Same G8 G' ∧ (∃ v o1 o2 o3 o4 o5 o6, σ' = [some (.ref p), some (.bl m), some (.ref t), some (.int (((L.paths.take i).map (pathCost L ps m)).sum + pathCost L ps m cs)), some u, some vr, o1, o2, o3, some vt, some (.int (pathCost L ps m cs)), some v, o4, o5, o6] ∧ Da G' v (encB (pickN L ps m cs j))) ∧ G' t = none ∧
        H' t = some (.dK (zipKV (L.paths.take i).flatten ((L.paths.take i).map (pickRow L ps m)).flatten))) ?_ ?_ ?_)
    · have hj := (List.getElem?_eq_some_iff.mp hd2).1
      rw [zl] at hj
      have e1 : (pathRows L cs)[j]? = some ((pathRows L cs).getD j []) := by rw [List.getD_eq_getElem?_getD, List.getElem?_eq_getElem hj]; rfl
      have e2 : ((pathRows L cs).map tupN)[j]? = some (tupN ((pathRows L cs).getD j [])) := by rw [List.getElem?_map, e1]; rfl
      have e3 : (dI (pathTold L ps cs))[j]? = some (.int (rowCost ps cs ((pathRows L cs).getD j []))) := dI_get (by unfold pathTold; rw [List.getElem?_map, e1]; rfl)
      rw [ziD_get e2 e3] at hd2
      cases hd2
      exact bd_pair sc_Lots_best.nd
    · intro G9 H9 g9
      exact ⟨gb8.trans g9, g9.g, ⟨vb0, _, _, _, _, _, _, rfl, hvb0.mono g9.g⟩, g9.n' hG8 hH8, g9.h _ _ hH8⟩
    · rintro j d σ3 G9 H9 Ga Ha σ4 hd2 t1 t2 ⟨gc, s89, ⟨v, o1, o2, o3, o4, o5, o6, rfl, hv⟩, hG9, hH9⟩ ga ⟨w1, w2, rfl, hw1, hw2⟩
      have hj := (List.getElem?_eq_some_iff.mp hd2).1
      rw [zl] at hj
      obtain ⟨one, ho⟩ : ∃ one, (pathRows L cs)[j]? = some one := ⟨_, List.getElem?_eq_getElem hj⟩
      rw [getD_of ho] at hw1 hw2
      cases hw2.inv_int
      unfold tupN at hw1
      have hol := rlen one (List.mem_of_getElem? ho)
      have gca := gc.trans ga
      have hua := (hu8.mono s89).mono ga.g
      have hva := hv.mono ga.g
      have ndc : cs.Nodup := by
        have h := flat_nodup (i + 1) po.nd
        rw [flat_take hcs] at h
        exact (List.nodup_append.mp h).2.1
      have hRc : R_colours L ps [.list (dN cs), .tuple (dN one)] (.list (dI (colsOf L cs one))) := ⟨cs, one, ok, clt, ndc, hol.symm, by omega, rfl, rfl⟩
      refine rb_cons (rs_setD (d := .list (dI (colsOf L cs one))) (ed_meth ct OC hr ((er_nm (v := .ref p) rfl).lot (hL.mono gca.g)) (ea_cons (ed_nm rfl hua) (ea_cons (ed_nm rfl hw1) ea_nil)) hRc lotF_no_colours) ga.i sc_Lots_best.nd ?_)
      intro vh Gb Hb gb' hvh
      have hva' := hva.mono gb'.g
      have hw1' := hw1.mono gb'.g
      have eqs : pickN L ps m cs (j + 1) = pickStep L cs (pathCost L ps m cs) (pickN L ps m cs j) (one, rowCost ps cs one) := by
        unfold pickN
        rw [take_succ_get ho, List.map_append, List.foldl_append]
        rfl
      have tcmp : PyData.eqv (.int (rowCost ps cs one)) (.int (pathCost L ps m cs)) = decide (rowCost ps cs one = pathCost L ps m cs) := by rw [PyData.eqv, beq_dec]
      refine rb_one (rs_if (k := decide (rowCost ps cs one = pathCost L ps m cs) && ((pickN L ps m cs j).isNone || decide (colsOf L cs one < ((pickN L ps m cs j).getD ([], [])).1))) ?_ gb'.i ?_ ?_)
      · rw [← tcmp]
        apply et_w
        apply ew_and
        · refine et_cmp (cm_eq hr (d := .int (rowCost ps cs one)) (d' := .int (pathCost L ps m cs)) ?_ ?_ (by simp [PyData.depth]))
          · walk_at "ev"
          · walk_at "ev"
        · intro _
          apply ew_and1
          apply et_w
          cases hp : pickN L ps m cs j with
          | none =>
            rw [hp] at hva'
            refine ew_or (k := true) ?_ nofun
            refine Et.is (et_cmp (cm_is (d := .none) (ed_nm rfl hva') ed_non)) rfl
          | some cr =>
            obtain ⟨c, r⟩ := cr
            rw [hp] at hva'
            have hva2 : Da Gb v (.tuple [.list (dI c), tupN r]) := hva'
            refine ew_or (k := false) ?_ (fun _ => ?_)
            · refine Et.is (et_cmp (cm_is (d := .tuple [.list (dI c), tupN r]) (ed_nm rfl hva2) ed_non)) rfl
            · apply ew_or1
              refine Et.is (et_cmp (cm_ltD hr (d := .list (dI (colsOf L cs one))) (d' := .list (dI c)) (ed_nm rfl hvh) (ed_ixT (i := 0) (ed_nm rfl hva2) ed_int ⟨rfl⟩) ?_ nofun ?_)) ?_
              · rw [PySem.W.alike]
                exact PySem.W.alike_ints _ _
              · simp only [PyData.depth, depthAll_dI]; decide
              · rw [PySem.W.dataLt_list]
                exact PySem.W.dataLt_ints _ _
      · intro e Gc Hc gc'
        refine rb_one (rs_setD (d := encB (some (colsOf L cs one, one))) ?_ gc'.i sc_Lots_best.nd ?_)
        · show Ed _ _ _ _ _ (.tuple [.list (dI (colsOf L cs one)), .tuple (dN one)])
          walk_at "ev"
        · intro vn Gd Hd gd' hvn
          refine ⟨Gd, ga.g.trans (gb'.g.trans (gc'.g.trans gd'.g)), gd'.i, gca.trans (gb'.trans (gc'.trans gd')), s89.trans (ga.g.trans (gb'.g.trans (gc'.g.trans gd'.g))), ⟨vn, _, _, _, _, _, _, rfl, ?_⟩, ?_, ?_⟩
          · rw [eqs]
            unfold pickStep
            rw [if_pos e]
            exact hvn
          · exact gd'.n' (gc'.n' (gb'.n' (ga.n' hG9 hH9) (ga.h _ _ hH9)) (gb'.h _ _ (ga.h _ _ hH9))) (gc'.h _ _ (gb'.h _ _ (ga.h _ _ hH9)))
          · exact gd'.h _ _ (gc'.h _ _ (gb'.h _ _ (ga.h _ _ hH9)))
      · intro e Gc Hc gc'
        refine rb_nil ⟨Gc, ga.g.trans (gb'.g.trans gc'.g), gc'.i, gca.trans (gb'.trans gc'), s89.trans (ga.g.trans (gb'.g.trans gc'.g)), ⟨v, _, _, _, _, _, _, rfl, ?_⟩, ?_, ?_⟩
        · rw [eqs]
          unfold pickStep
          rw [if_neg (by rw [e]; decide)]
          exact hva'.mono gc'.g
        · exact gc'.n' (gb'.n' (ga.n' hG9 hH9) (ga.h _ _ hH9)) (gb'.h _ _ (ga.h _ _ hH9))
        · exact gc'.h _ _ (gb'.h _ _ (ga.h _ _ hH9))
    · rintro σ3 G9 H9 t1 t2 ⟨gc, s89, ⟨v, o1, o2, o3, o4, o5, o6, rfl, hv⟩, hG9, hH9⟩
      rw [zl, (pick_all csome).1] at hv
      have hv2 : Da G9 v (.tuple [.list (dI (colsOf L cs (pickRow L ps m cs))), .tuple (dN (pickRow L ps m cs))]) := hv
      have hrl : (pickRow L ps m cs).length = cs.length := rlen _ (pick_all csome).2.1
      have hu9 := hu8.mono s89
      have fl : ((L.paths.take i).map (pickRow L ps m)).flatten.length = (L.paths.take i).flatten.length := flat_len_eq fun l hl => by
        have hl2 := List.mem_of_mem_take hl
        exact rows_one L.swings l.length _ (List.mem_filter.mp (pick_all (po.some l hl2)).2.1).1
      have fb : (L.paths.take i).flatten.length ≤ 11 * (L.paths.take i).length := flat_le 11 fun l hl => po.len l (List.mem_of_mem_take hl)
      have tb : (L.paths.take i).length ≤ 40 := by rw [List.length_take]; exact Nat.le_trans (Nat.min_le_right _ _) po.many
      refine rb_one (rs_for (es_zip false true (ds := dN cs) (es := dN (pickRow L ps m cs)) B.zip (ed_nm (d := .list _) rfl hu9) (ed_ixT (i := 1) (ed_nm rfl hv2) ed_int ⟨rfl⟩)) t2 (S := fun j d => Sp2 7 8 (.int (cs.getD j 0 : Int)) (.int ((pickRow L ps m cs).getD j 0 : Int))) (fun j d hd2 => ?_)
        (fun j σ' G' H' => Grow G H G' H' ∧ (∃ o1 o2 o3 o4 o5 o6, σ' = [some (.ref p), some (.bl m), some (.ref t), some (.int (((L.paths.take i).map (pathCost L ps m)).sum + pathCost L ps m cs)), some u, some vr, o1, o2, o3, some vt, some (.int (pathCost L ps m cs)), some v, o4, o5, o6]) ∧ G' t = none ∧
          H' t = some (.dK (zipKV ((L.paths.take i).flatten ++ cs.take j) (((L.paths.take i).map (pickRow L ps m)).flatten ++ (pickRow L ps m cs).take j)))) ?_ ?_ ?_)
      · have hj := (List.getElem?_eq_some_iff.mp hd2).1
        rw [ziD_length, dN_length, dN_length] at hj
        have e1 : cs[j]? = some (cs.getD j 0) := by rw [List.getD_eq_getElem?_getD, List.getElem?_eq_getElem (by omega)]; rfl
        have e2 : (pickRow L ps m cs)[j]? = some ((pickRow L ps m cs).getD j 0) := by rw [List.getD_eq_getElem?_getD, List.getElem?_eq_getElem (by omega)]; rfl
        rw [ziD_get (dN_get e1) (dN_get e2)] at hd2
        cases hd2
        exact bd_pair sc_Lots_best.nd
      · intro Ga Ha ga
        refine ⟨gc.trans ga, ⟨_, _, _, _, _, _, rfl⟩, ga.n' hG9 hH9, ?_⟩
        rw [List.take_zero, List.take_zero, List.append_nil, List.append_nil]
        exact ga.h _ _ hH9
      · rintro j d σ4 Ga Ha Gb Hb σ5 hd2 u1 u2 ⟨gd, ⟨o1', o2', o3', o4', o5', o6', rfl⟩, hGa, hHa⟩ gb' ⟨w1, w2, rfl, hw1, hw2⟩
        have hj := (List.getElem?_eq_some_iff.mp hd2).1
        rw [ziD_length, dN_length, dN_length] at hj
        have e1 : cs[j]? = some (cs.getD j 0) := by rw [List.getD_eq_getElem?_getD, List.getElem?_eq_getElem (by omega)]; rfl
        have e2 : (pickRow L ps m cs)[j]? = some ((pickRow L ps m cs).getD j 0) := by rw [List.getD_eq_getElem?_getD, List.getElem?_eq_getElem (by omega)]; rfl
        have hHb := gb'.h _ _ hHa
        have hGb := gb'.n' hGa hHa
        have nd1 : ((L.paths.take i).flatten ++ cs).Nodup := by
          have h := flat_nodup (i + 1) po.nd
          rw [flat_take hcs] at h
          exact h
        have nin : cs.getD j 0 ∉ (L.paths.take i).flatten ++ cs.take j := by
          have h := not_take (n := (L.paths.take i).flatten.length + j) nd1 (by rw [List.getElem?_append_right (by omega), Nat.add_sub_cancel_left]; exact e1)
          rw [List.take_append, Nat.add_sub_cancel_left, List.take_of_length_le (by omega)] at h
          exact h
        have lens : ((L.paths.take i).flatten ++ cs.take j).length = (((L.paths.take i).map (pickRow L ps m)).flatten ++ (pickRow L ps m cs).take j).length := by
          rw [List.length_append, List.length_append, fl, List.length_take, List.length_take, hrl]
        refine rb_one (rs_dputK (d := t) (k := (cs.getD j 0 : Int)) (d' := .int ((pickRow L ps m cs).getD j 0 : Int)) hr ?_ (er_nm (v := .ref t) rfl) ?_ gb'.i hHb ?_ ?_)
        · walk_at "ev"
        · walk_at "ev"
        · unfold zipKV
          rw [List.length_zip, List.length_map, List.length_append, List.length_take]
          refine Nat.lt_of_le_of_lt (Nat.min_le_left _ _) (Nat.lt_of_le_of_lt (show _ ≤ 1000 by omega) (by decide))
        · intro w' Gc Hc gc' hw'
          cases hw'.inv_int
          have hGc := gc'.n' hGb hHb
          refine ⟨Gc, gb'.g.trans gc'.g, same_mut gc'.i hGc, (gd.trans (gb'.trans gc')).mut t0 hGc, ⟨_, _, _, _, _, _, rfl⟩, hGc, ?_⟩
          rw [upd_same, zipKV_put lens nin, List.append_assoc, List.append_assoc, ← take_succ_get e1, ← take_succ_get e2]
      · rintro σ4 Ga Ha u1 u2 ⟨gd, ⟨o1', o2', o3', o4', o5', o6', rfl⟩, hGa, hHa⟩
        have ej : (ziD (dN cs) (dN (pickRow L ps m cs))).length = cs.length := by rw [ziD_length, dN_length, dN_length, hrl, Nat.min_self]
        rw [ej, List.take_length, ← hrl, List.take_length] at hHa
        refine ⟨Ga, g3.g.trans (g4.g.trans (gr8.trans (s89.trans u1))), u2, gd, ?_, hGa, ?_⟩
        · rw [take_succ_get hcs, List.map_append, List.map_cons, List.map_nil, sum_snoc]
          exact ⟨_, _, _, _, _, _, _, _, _, _, _, rfl⟩
        · rw [flat_take hcs, take_succ_get hcs, List.map_append, List.flatten_append, List.map_cons, List.map_nil]
          simpa using hHa
  · rintro σ1 G2 H2 s1 s2 ⟨gb, ⟨a, b, c, d', e, f', g, h, j, k, l, rfl⟩, hG2, hH2⟩
    have ej : (L.paths.map lstN).length = L.paths.length := List.length_map ..
    rw [ej, List.take_length] at hH2
    have hH2' : H2 t = some (.dK (zipKV L.cells (L.marks ps m))) := hH2
    have fl : (L.marks ps m).length = L.cells.length := flat_len_eq fun l hl => rows_one L.swings l.length _ (List.mem_filter.mp (pick_all (po.some l hl)).2.1).1
    have clt : ∀ k ∈ L.cells, k < L.n := fun k hk => by
      obtain ⟨l, hl, hk⟩ := List.mem_flatten.mp hk
      exact po.lt l hl k hk
    have k12 := gb.g _ _ k1
    have hpk : ∀ k ∈ L.picked ps m, k < L.n := fun k hk => clt k ((sortN_perm _).mem_iff.mp (List.mem_filter.mp hk).1)
    have hRw : R_with_turned [.tuple (dI L.c), .list (dN (L.picked ps m))] (.tuple (dI (L.turn (L.picked ps m)))) := ⟨L, L.picked ps m, hpk, by omega, rfl, rfl⟩
    have sl : (sortN L.cells).length ≤ 1000 := by
      rw [(sortN_perm _).length_eq]
      have := flat_le 11 po.len
      have := po.many
      show L.paths.flatten.length ≤ 1000
      omega
    refine rb_one (rs_retD (ed_tup (ea_cons ?_ (ea_cons (ed_call O2 hr (ea_cons (ed_ixT (ds := [.tuple (dI L.c), .tuple (dN L.h), .bool L.r]) (i := 0) (d := .tuple (dI L.c)) (ed_self (d := L.d) ct (er_nm (v := .ref p) rfl) s2 k12 ct.n_base (lotF_base _ _ _ _ _ _) (k2.mono gb.g)) ed_int ⟨rfl⟩) (ea_cons ?_ ea_nil)) ⟨hRw⟩) ea_nil)) (show 2 ≤ sizeLine by decide)) s2 fun v' G' H' g' dv => q v' G' H' (gb.trans g') dv)
    · rw [ej, List.take_length]
      exact ed_nm rfl (Da.int _)
    · have e2 : PyData.list (dN (L.picked ps m)) = .list (given (dN (sortN L.cells)).length (fun i => decide (markAt L.cells (L.marks ps m) ((sortN L.cells).getD i 0) = 1)) (fun i => .int ((sortN L.cells).getD i 0 : Int))) := by
        unfold given Ln.picked
        rw [dN_length]
        exact congrArg PyData.list (given_map (sortN L.cells) 0 (fun k => decide (markAt L.cells (L.marks ps m) k = 1)) fun k => PyData.int (k : Int)).symm
      rw [e2]
      refine En.ed (en_lc1 (own := [("k", 14)]) (S := fun _ => Sn 14) (fun i => decide (markAt L.cells (L.marks ps m) ((sortN L.cells).getD i 0) = 1)) (fun i => .int ((sortN L.cells).getD i 0 : Int)) sc_Lots_best.nd (es_list (ds := dN (sortN L.cells)) ?_) (blkOk_by (N := N_Lots_best) (sc := defScope s_Lots_best) (by decide +kernel)) (fun s0 H0 C cl fp i d hd => bd_name sc_Lots_best.nd) ?_ ?_ ?_ ?_)
      · rw [← sorted_cells]
        exact ed_sortKI B.sorted hr (er_nm (v := .ref t) rfl) hH2' (zipKV_keys (Nat.le_of_eq fl.symm))
      · rintro i d G' σ2 ⟨v, rfl, _⟩
        rfl
      · rintro s0 H0 C' cl fp i d σ2 G' H' g' hd ⟨v, rfl, hv⟩
        obtain ⟨k, hk, rfl⟩ := dN_get' hd
        rw [getD_of hk]
        have hkm := (sortN_perm _).mem_iff.mp (List.mem_of_getElem? hk)
        refine Et.is (et_cmp (cm_eq hr (d := .int (markAt L.cells (L.marks ps m) k : Int)) (d' := .int 1) (ed_dgetK (k := (k : Int)) hr (er_nm (v := .ref t) rfl) ?_ (.inl (g'.h _ _ hH2')) (zipKV_val po.nd fl.symm hkm) (Da.int _)) ed_int (by simp [PyData.depth]))) ?_
        · walk_at "ev"
        · rw [PyData.eqv, beq_dec, Bool.eq_iff_iff, decide_eq_true_eq, decide_eq_true_eq]
          omega
      · rintro s0 H0 C' cl fp i d σ2 G' H' g' hd ⟨v, rfl, hv⟩ _
        obtain ⟨k, hk, rfl⟩ := dN_get' hd
        rw [getD_of hk]
        walk_at "ev"
      · rw [dN_length]; omega
end
end Fk
end
section
set_option Elab.async false
set_option linter.all false
set_option maxRecDepth 100000
set_option maxHeartbeats 4000000
/-! D14: the cheapest and the dearest end. -/
namespace Fk
open PySem PySem.Spec L2
open PyProof.Rows hiding St
local macro_rules | `(tactic| walk_at "gr") => `(tactic| first | assumption | exact Same.refl _ | (refine Same.trans ?_ (Grow.g (by assumption)); walk_at "gr"))
local macro_rules | `(tactic| walk_at "da") => `(tactic| first | assumption | exact Da.int _ | exact Da.bl _ | exact Da.non | (refine Da.mono ?_ (by assumption); walk_at "gr"))
local macro_rules | `(tactic| walk_at "dp") => `(tactic| (simp only [PyData.depth, PyData.depthAll, depthAll_dI, depthAll_dN, Nat.max_zero, Nat.zero_max, Nat.max_self, Nat.min_self, Nat.zero_min, Nat.min_zero] <;> omega))
local macro_rules | `(tactic| walk_at "bt") => `(tactic| first | exact Bt.isi (by assumption) | exact Bt.int (by assumption) | exact Bt.bool (by assumption) | exact Bt.tuple (by assumption) | exact Bt.len (by assumption) | exact Bt.list (by assumption) | exact Bt.set (by assumption) | exact Bt.sorted (by assumption) | exact Bt.range (by assumption) | exact Bt.enum (by assumption) | exact Bt.zip (by assumption) | exact Bt.min (by assumption) | exact Bt.max (by assumption) | exact Bt.sum (by assumption) | exact Bt.dict (by assumption) | exact Bt.str (by assumption))
local macro_rules | `(tactic| walk_at "au") => `(tactic| first | (apply prop_id; assumption) | (show PySem.W.keepIn _ _ = true; assumption) | (show (_ : Option Value) = none; walk_at "bt") | rfl | (show min _ _ ≤ 64; first | decide | walk_at "dp") | (show _ ≤ sizeLine; first | assumption | (simp only [List.length_cons, List.length_nil]; decide)) | (show (_ : Nat) ≤ _; decide) | (show (_ == _) = false; decide) | (show _ ≠ _; decide) | (show behindInMarks _ _ = false; first | exact nomark _ | with_unfolding_all rfl) | (show lastMarks _ _ = false; with_unfolding_all rfl) | (show OpR _ _ _; first | exact op_le | exact op_lt | exact opI_eq | exact opI_ne) | exact (fun _ _ => rfl) | (show ∀ _, _ = _; intro _; rfl) | exact Or.inl rfl | exact Or.inr rfl)
local macro_rules | `(tactic| walk_at "dt") => `(tactic| first | show Bool | show Int | show PyData | show List PyData | show List Int | show Nat | show Option Int | show V)
local macro_rules | `(tactic| walk_at "Se1") => `(tactic| first | walk_at "dt" | walk_at "Sev" | walk_at "au" | (apply Side.mk; walk_at "au"))
local macro_rules | `(tactic| walk_at "Scm") => `(tactic| first | (apply cm_lt <;> walk_at "Se1") | (apply cm_le <;> walk_at "Se1") | (apply cm_gt <;> walk_at "Se1") | (apply cm_ge <;> walk_at "Se1") | (apply cm_eq <;> walk_at "Se1") | (apply cm_ne <;> walk_at "Se1") | (apply cm_inL <;> walk_at "Se1") | (apply cm_inT <;> walk_at "Se1") | (apply cm_niL <;> walk_at "Se1") | (apply cm_niT <;> walk_at "Se1") | (apply cm_is <;> walk_at "Se1") | (apply cm_isnot <;> walk_at "Se1"))
local macro_rules | `(tactic| walk_at "Set") => `(tactic| first | (apply et_cmp <;> walk_at "Se1") | (apply et_not <;> walk_at "Se1") | (apply et_w; walk_at "Sew") | (apply et_chain <;> walk_at "Se1") | (apply et_val <;> walk_at "Se1"))
local macro_rules | `(tactic| walk_at "Sew") => `(tactic| first | (apply ew_and <;> walk_at "Sew1") | (apply ew_or <;> walk_at "Sew1") | (apply ew_and1; walk_at "Sev") | (apply ew_or1; walk_at "Sev"))
local macro_rules | `(tactic| walk_at "Sew1") => `(tactic| first | walk_at "dt" | (show Et _ _ _ _ _ _; walk_at "Sev") | (intro _; walk_at "Sew"))
local macro_rules | `(tactic| walk_at "Sec") => `(tactic| first | (apply ed_not <;> walk_at "Se1") | (apply ed_and <;> walk_at "Se1") | (apply ed_or <;> walk_at "Se1") | (apply ed_one <;> walk_at "Se1") | (apply ed_cmp <;> walk_at "Se1") | (apply ed_chain <;> walk_at "Se1"))
local macro_rules | `(tactic| walk_at "Seb") => `(tactic| first | (apply ed_lenT <;> walk_at "Se1") | (apply ed_lenL <;> walk_at "Se1") | (apply ed_call <;> walk_at "Se1") | (apply ed_isInt <;> walk_at "Se1") | (apply ed_isBool <;> walk_at "Se1") | (apply ed_isTuple <;> walk_at "Se1") | (apply ed_isList <;> walk_at "Se1") | (apply ed_isStr <;> walk_at "Se1") | (apply ed_isTL <;> walk_at "Se1") | (apply ed_listOf <;> walk_at "Se1") | (apply ed_tupleOf <;> walk_at "Se1") | (apply ed_min2 <;> walk_at "Se1") | (apply ed_int1 <;> walk_at "Se1"))
local macro_rules | `(tactic| walk_at "Sei") => `(tactic| first | (apply ed_ixT <;> walk_at "Se1") | (apply ed_ixL <;> walk_at "Se1"))
local macro_rules | `(tactic| walk_at "Sex") => `(tactic| first | exact ed_int | exact ed_bl | exact ed_non | exact ed_nm rfl (by walk_at "da") | (apply ed_add <;> walk_at "Se1") | (apply ed_sub <;> walk_at "Se1") | (apply ed_neg <;> walk_at "Se1") | walk_at "Sei" | (apply ed_tup <;> walk_at "Se1") | (apply ed_lst <;> walk_at "Se1") | (apply ed_mod <;> walk_at "Se1") | (apply ed_ifI <;> walk_at "Se1") | (apply ed_if2 <;> walk_at "Se1") | (apply ed_slT <;> walk_at "Se1") | (apply ed_slL <;> walk_at "Se1") | (apply ed_catT <;> walk_at "Se1"))
local macro_rules | `(tactic| walk_at "Sev") => `(tactic| first | (show Ed _ _ _ _ _ _; first | walk_at "Sex" | walk_at "Seb" | walk_at "Sec") | (show Et _ _ _ _ _ _; walk_at "Set") | (show Cm _ _ _ _ _ _ _ _; walk_at "Scm") | (show Ea _ _ _ _ _ _; first | exact ea_nil | (apply ea_cons <;> walk_at "Se1")) | (show Eo _ _ _ _ _ _; first | exact eo_none | (apply eo_some; walk_at "Sev")) | (show Er _ _ _ _ _ _; exact er_nm rfl) | (show Ew _ _ _ _ _ _; walk_at "Sew") | (intro _; walk_at "Sev"))
local macro_rules | `(tactic| walk_at "e1") => `(tactic| first | walk_at "dt" | walk_at "ev" | walk_at "au" | (apply Side.mk; first | walk_at "au" | skip))
local macro_rules | `(tactic| walk_at "cm") => `(tactic| first | (apply cm_lt <;> walk_at "e1") | (apply cm_le <;> walk_at "e1") | (apply cm_gt <;> walk_at "e1") | (apply cm_ge <;> walk_at "e1") | (apply cm_eq <;> walk_at "e1") | (apply cm_ne <;> walk_at "e1") | (apply cm_inL <;> walk_at "e1") | (apply cm_inT <;> walk_at "e1") | (apply cm_niL <;> walk_at "e1") | (apply cm_niT <;> walk_at "e1") | (apply cm_is <;> walk_at "e1") | (apply cm_isnot <;> walk_at "e1"))
local macro_rules | `(tactic| walk_at "et") => `(tactic| first | (apply et_cmp <;> walk_at "e1") | (apply et_not <;> walk_at "e1") | (apply et_w; walk_at "ew") | (apply et_chain <;> walk_at "e1") | (apply et_val <;> walk_at "e1"))
local macro_rules | `(tactic| walk_at "ew") => `(tactic| first | (apply ew_and <;> walk_at "ew1") | (apply ew_or <;> walk_at "ew1") | (apply ew_and1; walk_at "ev") | (apply ew_or1; walk_at "ev"))
local macro_rules | `(tactic| walk_at "ew1") => `(tactic| first | walk_at "dt" | (show Et _ _ _ _ _ _; walk_at "ev") | (intro _; walk_at "ew"))
local macro_rules | `(tactic| walk_at "ec") => `(tactic| first | (apply ed_not <;> walk_at "e1") | (apply ed_and <;> walk_at "e1") | (apply ed_or <;> walk_at "e1") | (apply ed_one <;> walk_at "e1") | (apply ed_cmp <;> walk_at "e1") | (apply ed_chain <;> walk_at "e1"))
local macro_rules | `(tactic| walk_at "eb") => `(tactic| first | walk_at "Seb" | (apply ed_lenT <;> walk_at "e1") | (apply ed_lenL <;> walk_at "e1") | (apply ed_call <;> walk_at "e1") | (apply ed_isInt <;> walk_at "e1") | (apply ed_isBool <;> walk_at "e1") | (apply ed_isTuple <;> walk_at "e1") | (apply ed_isList <;> walk_at "e1") | (apply ed_isStr <;> walk_at "e1") | (apply ed_isTL <;> walk_at "e1") | (apply ed_listOf <;> walk_at "e1") | (apply ed_tupleOf <;> walk_at "e1") | (apply ed_min2 <;> walk_at "e1") | (apply ed_int1 <;> walk_at "e1"))
local macro_rules | `(tactic| walk_at "ei") => `(tactic| first | walk_at "Sei" | (apply ed_ixT <;> walk_at "e1") | (apply ed_ixL <;> walk_at "e1"))
local macro_rules | `(tactic| walk_at "ex") => `(tactic| first | exact ed_int | exact ed_bl | exact ed_non | exact ed_nm rfl (by walk_at "da") | (apply ed_add <;> walk_at "e1") | (apply ed_sub <;> walk_at "e1") | (apply ed_neg <;> walk_at "e1") | walk_at "ei" | (apply ed_tup <;> walk_at "e1") | (apply ed_lst <;> walk_at "e1") | (apply ed_mod <;> walk_at "e1") | (apply ed_ifI <;> walk_at "e1") | (apply ed_if2 <;> walk_at "e1") | (apply ed_slT <;> walk_at "e1") | (apply ed_slL <;> walk_at "e1") | (apply ed_catT <;> walk_at "e1"))
local macro_rules | `(tactic| walk_at "ev") => `(tactic| first | (show Ed _ _ _ _ _ _; first | walk_at "ex" | walk_at "eb" | walk_at "ec") | (show Et _ _ _ _ _ _; walk_at "et") | (show Cm _ _ _ _ _ _ _ _; walk_at "cm") | (show Ea _ _ _ _ _ _; first | exact ea_nil | (apply ea_cons <;> walk_at "e1")) | (show Eo _ _ _ _ _ _; first | exact eo_none | (apply eo_some; walk_at "ev")) | (show Er _ _ _ _ _ _; exact er_nm rfl) | (show Ew _ _ _ _ _ _; walk_at "ew") | (intro _; walk_at "ev"))
section
variable {X : Cx} {σ : St} {G H : Hp} {e : Expr} {es : List Expr} {p pos : Pos} {C : Addr} {L : Ln} {ps : List Int} {k j : Nat}
/-- Lots(..) -/
theorem ep_make (M : MkM X.prog X.w X.K X.mg X.base C k (spI C)) (hr : Room j X.A) (hm : X.mg "Lots" = some (.ref C)) (ok : L.Ok) (ha : Ea X σ G H (e :: es) [L.d, .tuple (List.replicate L.n .none), .tuple (dI ps), .bool true]) (hk : k + 1 ≤ j := by decide) (hg : Gl X "Lots" := by rfl)
    (he : starEach (e :: es) X.env = (false, eval e X.env) :: starEach es X.env := by rfl) (hpl : (backTo pos (starEach es X.env)).any (·.1) = false := by rfl) : Ep X σ G H (.Call (.Name "Lots" p) (e :: es) [] pos) (fun v G2 _ => ∃ p, v = .ref p ∧ Lot G2 C p L ps) := by
  obtain ⟨f, fd, qs, mk, b, F⟩ := M.ex
  refine ⟨fun G1 H1 g Q q => re_of (pe_make mk F (hr.mono hk) hg hm b .nil pass0 pa_self (by decide) he hpl) (ha.run G1 H1 g _ fun vs G2 H2 g2 dvs x dx hx hdx hne => ?_)⟩
  exact ⟨G2, H2, x, dx, vs, L, ps, by rw [List.append_nil], g2.i, hx, hdx, hne, rfl, ok, dvs, fun G' H' g' hl => ⟨rfl, q _ G' H' (g2.trans g') ⟨x, rfl, hl⟩⟩⟩
end
def R_end (m : Bool) : List PyData → PyData → Prop := fun ds d => ∃ (L : Ln) (ps : List Int), L.Ok ∧ L.n ≤ 11 ∧ PathsOk L ∧ ps.length = L.n ∧ (∀ p ∈ ps, 0 ≤ p ∧ p ≤ 1000) ∧ ds = [L.d, .tuple (dI ps)] ∧ d = .tuple [.int (L.bestCost ps m), .tuple (dI (L.turn (L.picked ps m)))]
section
variable {P : Program} {w : World} {K : PySem.W.Frag} {mg : Str → Option Value} {base : Heap} {C : Addr}
set_option maxHeartbeats 2000000 in
theorem ok_cheapest_end (D : Df K mg "cheapest_end" s_cheapest_end) (ct : Ct K C) (hm : mg "Lots" = some (.ref C)) (B : Bt mg) (O1 : Own P w K mg base "need_line" 3 (spD R_need_line)) (O2 : Own P w K mg base "need_prices" 2 (spD R_need_prices))
    (M : MkM P w K mg base C 7 (spI C)) (OB : OwnM P w K mg base C "best" 3 (spM C R_best)) : Own P w K mg base "cheapest_end" 9 (spD (R_end false)) := by
  refine Own.data D sc_cheapest_end (fun _ _ _ _ _ _ us hl => match us, hl with | [_, _], _ => rfl) (fun ds d ⟨_, _, _, _, _, _, _, e, _⟩ => by rw [e]; rfl) ?_
  rintro f cdv A outer s H vs Q E hr G _ _ i0 hvs ⟨L, ps, ok, h11, po, hpl, hps, rfl, rfl⟩ q
  obtain ⟨x1, x2, rfl, h1, h2⟩ := hvs.inv2
  have hn1 := ok.one
  have hR1 : R_need_line [L.d] .none := ⟨L, ok, rfl, rfl⟩
  have hR2 : R_need_prices [L.d, .tuple (dI ps)] .none := ⟨L, ps, ok.most, hpl, hps, rfl, rfl⟩
  refine rb_cons (rs_expr (Ed.ev (d := .none) ?_ i0) ?_)
  · walk_at "ev"
  intro _ G1 H1 g1 _
  refine rb_cons (rs_expr (Ed.ev (d := .none) ?_ g1.i) ?_)
  · walk_at "ev"
  intro _ G2 H2 g2 _
  have gb := g1.trans g2
  have h1' := h1.mono gb.g
  have h2' := h2.mono gb.g
  have hl1 : Da G2 x1 (.tuple [.tuple (dI L.c), .tuple (dN L.h), .bool L.r]) := h1'
  refine rb_one (rs_retD (ed_meth ct OB hr (ep_make (ps := ps) M hr hm ok (ea_cons (ed_nm rfl h1') (ea_cons (ed_rep (n := L.n) ?_ ?_ hn1 (by omega)) (ea_cons (ed_nm rfl h2') (ea_cons ed_bl ea_nil))))) (ea_cons (d := .bool false) ed_bl ea_nil) ⟨false, ok, hpl, h11, po, rfl, rfl⟩ lotF_no_best) g2.i fun v' G' H' g' dv => q v' G' H' (gb.trans g') dv)
  · exact ed_tup (ea_cons ed_non ea_nil)
  · refine Ed.is (ed_lenT (ds := dI L.c) B.len (ed_ixT (i := 0) (ed_nm rfl hl1) ed_int ⟨rfl⟩)) (by rw [dI_length]; rfl)
set_option maxHeartbeats 2000000 in
theorem ok_dearest_end (D : Df K mg "dearest_end" s_dearest_end) (ct : Ct K C) (hm : mg "Lots" = some (.ref C)) (B : Bt mg) (O1 : Own P w K mg base "need_line" 3 (spD R_need_line)) (O2 : Own P w K mg base "need_prices" 2 (spD R_need_prices))
    (M : MkM P w K mg base C 7 (spI C)) (OB : OwnM P w K mg base C "best" 3 (spM C R_best)) : Own P w K mg base "dearest_end" 9 (spD (R_end true)) := by
  refine Own.data D sc_dearest_end (fun _ _ _ _ _ _ us hl => match us, hl with | [_, _], _ => rfl) (fun ds d ⟨_, _, _, _, _, _, _, e, _⟩ => by rw [e]; rfl) ?_
  rintro f cdv A outer s H vs Q E hr G _ _ i0 hvs ⟨L, ps, ok, h11, po, hpl, hps, rfl, rfl⟩ q
  obtain ⟨x1, x2, rfl, h1, h2⟩ := hvs.inv2
  have hn1 := ok.one
  have hR1 : R_need_line [L.d] .none := ⟨L, ok, rfl, rfl⟩
  have hR2 : R_need_prices [L.d, .tuple (dI ps)] .none := ⟨L, ps, ok.most, hpl, hps, rfl, rfl⟩
  refine rb_cons (rs_expr (Ed.ev (d := .none) ?_ i0) ?_)
  · walk_at "ev"
  intro _ G1 H1 g1 _
  refine rb_cons (rs_expr (Ed.ev (d := .none) ?_ g1.i) ?_)
  · walk_at "ev"
  intro _ G2 H2 g2 _
  have gb := g1.trans g2
  have h1' := h1.mono gb.g
  have h2' := h2.mono gb.g
  have hl1 : Da G2 x1 (.tuple [.tuple (dI L.c), .tuple (dN L.h), .bool L.r]) := h1'
  refine rb_one (rs_retD (ed_meth ct OB hr (ep_make (ps := ps) M hr hm ok (ea_cons (ed_nm rfl h1') (ea_cons (ed_rep (n := L.n) ?_ ?_ hn1 (by omega)) (ea_cons (ed_nm rfl h2') (ea_cons ed_bl ea_nil))))) (ea_cons (d := .bool true) ed_bl ea_nil) ⟨true, ok, hpl, h11, po, rfl, rfl⟩ lotF_no_best) g2.i fun v' G' H' g' dv => q v' G' H' (gb.trans g') dv)
  · exact ed_tup (ea_cons ed_non ea_nil)
  · refine Ed.is (ed_lenT (ds := dI L.c) B.len (ed_ixT (i := 0) (ed_nm rfl hl1) ed_int ⟨rfl⟩)) (by rw [dI_length]; rfl)
end
end Fk
end
section
set_option Elab.async false
set_option linter.all false
set_option maxRecDepth 100000
set_option maxHeartbeats 4000000
/-! E1: the law's own numbers. -/
namespace Fk
open PySem PySem.Spec L2
open PyProof.Rows hiding St
local macro_rules | `(tactic| walk_at "gr") => `(tactic| first | assumption | exact Same.refl _ | (refine Same.trans ?_ (Grow.g (by assumption)); walk_at "gr"))
local macro_rules | `(tactic| walk_at "da") => `(tactic| first | assumption | exact Da.int _ | exact Da.bl _ | exact Da.non | (refine Da.mono ?_ (by assumption); walk_at "gr"))
local macro_rules | `(tactic| walk_at "dp") => `(tactic| (simp only [PyData.depth, PyData.depthAll, depthAll_dI, depthAll_dN, Nat.max_zero, Nat.zero_max, Nat.max_self, Nat.min_self, Nat.zero_min, Nat.min_zero] <;> omega))
local macro_rules | `(tactic| walk_at "bt") => `(tactic| first | exact Bt.isi (by assumption) | exact Bt.int (by assumption) | exact Bt.bool (by assumption) | exact Bt.tuple (by assumption) | exact Bt.len (by assumption) | exact Bt.list (by assumption) | exact Bt.set (by assumption) | exact Bt.sorted (by assumption) | exact Bt.range (by assumption) | exact Bt.enum (by assumption) | exact Bt.zip (by assumption) | exact Bt.min (by assumption) | exact Bt.max (by assumption) | exact Bt.sum (by assumption) | exact Bt.dict (by assumption) | exact Bt.str (by assumption))
local macro_rules | `(tactic| walk_at "au") => `(tactic| first | (apply prop_id; assumption) | (show PySem.W.keepIn _ _ = true; assumption) | (show (_ : Option Value) = none; walk_at "bt") | rfl | (show min _ _ ≤ 64; first | decide | walk_at "dp") | (show _ ≤ sizeLine; first | assumption | (simp only [List.length_cons, List.length_nil]; decide)) | (show (_ : Nat) ≤ _; decide) | (show (_ == _) = false; decide) | (show _ ≠ _; decide) | (show behindInMarks _ _ = false; first | exact nomark _ | with_unfolding_all rfl) | (show lastMarks _ _ = false; with_unfolding_all rfl) | (show OpR _ _ _; first | exact op_le | exact op_lt | exact opI_eq | exact opI_ne) | exact (fun _ _ => rfl) | (show ∀ _, _ = _; intro _; rfl) | exact Or.inl rfl | exact Or.inr rfl)
local macro_rules | `(tactic| walk_at "dt") => `(tactic| first | show Bool | show Int | show PyData | show List PyData | show List Int | show Nat | show Option Int | show V)
local macro_rules | `(tactic| walk_at "Se1") => `(tactic| first | walk_at "dt" | walk_at "Sev" | walk_at "au" | (apply Side.mk; walk_at "au"))
local macro_rules | `(tactic| walk_at "Scm") => `(tactic| first | (apply cm_lt <;> walk_at "Se1") | (apply cm_le <;> walk_at "Se1") | (apply cm_gt <;> walk_at "Se1") | (apply cm_ge <;> walk_at "Se1") | (apply cm_eq <;> walk_at "Se1") | (apply cm_ne <;> walk_at "Se1") | (apply cm_inL <;> walk_at "Se1") | (apply cm_inT <;> walk_at "Se1") | (apply cm_niL <;> walk_at "Se1") | (apply cm_niT <;> walk_at "Se1") | (apply cm_is <;> walk_at "Se1") | (apply cm_isnot <;> walk_at "Se1"))
local macro_rules | `(tactic| walk_at "Set") => `(tactic| first | (apply et_cmp <;> walk_at "Se1") | (apply et_not <;> walk_at "Se1") | (apply et_w; walk_at "Sew") | (apply et_chain <;> walk_at "Se1") | (apply et_val <;> walk_at "Se1"))
local macro_rules | `(tactic| walk_at "Sew") => `(tactic| first | (apply ew_and <;> walk_at "Sew1") | (apply ew_or <;> walk_at "Sew1") | (apply ew_and1; walk_at "Sev") | (apply ew_or1; walk_at "Sev"))
local macro_rules | `(tactic| walk_at "Sew1") => `(tactic| first | walk_at "dt" | (show Et _ _ _ _ _ _; walk_at "Sev") | (intro _; walk_at "Sew"))
local macro_rules | `(tactic| walk_at "Sec") => `(tactic| first | (apply ed_not <;> walk_at "Se1") | (apply ed_and <;> walk_at "Se1") | (apply ed_or <;> walk_at "Se1") | (apply ed_one <;> walk_at "Se1") | (apply ed_cmp <;> walk_at "Se1") | (apply ed_chain <;> walk_at "Se1"))
local macro_rules | `(tactic| walk_at "Seb") => `(tactic| first | (apply ed_lenT <;> walk_at "Se1") | (apply ed_lenL <;> walk_at "Se1") | (apply ed_call <;> walk_at "Se1") | (apply ed_isInt <;> walk_at "Se1") | (apply ed_isBool <;> walk_at "Se1") | (apply ed_isTuple <;> walk_at "Se1") | (apply ed_isList <;> walk_at "Se1") | (apply ed_isStr <;> walk_at "Se1") | (apply ed_isTL <;> walk_at "Se1") | (apply ed_listOf <;> walk_at "Se1") | (apply ed_tupleOf <;> walk_at "Se1") | (apply ed_min2 <;> walk_at "Se1") | (apply ed_int1 <;> walk_at "Se1"))
local macro_rules | `(tactic| walk_at "Sei") => `(tactic| first | (apply ed_ixT <;> walk_at "Se1") | (apply ed_ixL <;> walk_at "Se1"))
local macro_rules | `(tactic| walk_at "Sex") => `(tactic| first | exact ed_int | exact ed_bl | exact ed_non | exact ed_nm rfl (by walk_at "da") | (apply ed_add <;> walk_at "Se1") | (apply ed_sub <;> walk_at "Se1") | (apply ed_neg <;> walk_at "Se1") | walk_at "Sei" | (apply ed_tup <;> walk_at "Se1") | (apply ed_lst <;> walk_at "Se1") | (apply ed_mod <;> walk_at "Se1") | (apply ed_ifI <;> walk_at "Se1") | (apply ed_if2 <;> walk_at "Se1") | (apply ed_slT <;> walk_at "Se1") | (apply ed_slL <;> walk_at "Se1") | (apply ed_catT <;> walk_at "Se1"))
local macro_rules | `(tactic| walk_at "Sev") => `(tactic| first | (show Ed _ _ _ _ _ _; first | walk_at "Sex" | walk_at "Seb" | walk_at "Sec") | (show Et _ _ _ _ _ _; walk_at "Set") | (show Cm _ _ _ _ _ _ _ _; walk_at "Scm") | (show Ea _ _ _ _ _ _; first | exact ea_nil | (apply ea_cons <;> walk_at "Se1")) | (show Eo _ _ _ _ _ _; first | exact eo_none | (apply eo_some; walk_at "Sev")) | (show Er _ _ _ _ _ _; exact er_nm rfl) | (show Ew _ _ _ _ _ _; walk_at "Sew") | (intro _; walk_at "Sev"))
local macro_rules | `(tactic| walk_at "e1") => `(tactic| first | walk_at "dt" | walk_at "ev" | walk_at "au" | (apply Side.mk; first | walk_at "au" | skip))
local macro_rules | `(tactic| walk_at "cm") => `(tactic| first | (apply cm_lt <;> walk_at "e1") | (apply cm_le <;> walk_at "e1") | (apply cm_gt <;> walk_at "e1") | (apply cm_ge <;> walk_at "e1") | (apply cm_eq <;> walk_at "e1") | (apply cm_ne <;> walk_at "e1") | (apply cm_inL <;> walk_at "e1") | (apply cm_inT <;> walk_at "e1") | (apply cm_niL <;> walk_at "e1") | (apply cm_niT <;> walk_at "e1") | (apply cm_is <;> walk_at "e1") | (apply cm_isnot <;> walk_at "e1"))
local macro_rules | `(tactic| walk_at "et") => `(tactic| first | (apply et_cmp <;> walk_at "e1") | (apply et_not <;> walk_at "e1") | (apply et_w; walk_at "ew") | (apply et_chain <;> walk_at "e1") | (apply et_val <;> walk_at "e1"))
local macro_rules | `(tactic| walk_at "ew") => `(tactic| first | (apply ew_and <;> walk_at "ew1") | (apply ew_or <;> walk_at "ew1") | (apply ew_and1; walk_at "ev") | (apply ew_or1; walk_at "ev"))
local macro_rules | `(tactic| walk_at "ew1") => `(tactic| first | walk_at "dt" | (show Et _ _ _ _ _ _; walk_at "ev") | (intro _; walk_at "ew"))
local macro_rules | `(tactic| walk_at "ec") => `(tactic| first | (apply ed_not <;> walk_at "e1") | (apply ed_and <;> walk_at "e1") | (apply ed_or <;> walk_at "e1") | (apply ed_one <;> walk_at "e1") | (apply ed_cmp <;> walk_at "e1") | (apply ed_chain <;> walk_at "e1"))
local macro_rules | `(tactic| walk_at "eb") => `(tactic| first | walk_at "Seb" | (apply ed_lenT <;> walk_at "e1") | (apply ed_lenL <;> walk_at "e1") | (apply ed_call <;> walk_at "e1") | (apply ed_isInt <;> walk_at "e1") | (apply ed_isBool <;> walk_at "e1") | (apply ed_isTuple <;> walk_at "e1") | (apply ed_isList <;> walk_at "e1") | (apply ed_isStr <;> walk_at "e1") | (apply ed_isTL <;> walk_at "e1") | (apply ed_listOf <;> walk_at "e1") | (apply ed_tupleOf <;> walk_at "e1") | (apply ed_min2 <;> walk_at "e1") | (apply ed_int1 <;> walk_at "e1"))
local macro_rules | `(tactic| walk_at "ei") => `(tactic| first | walk_at "Sei" | (apply ed_ixT <;> walk_at "e1") | (apply ed_ixL <;> walk_at "e1"))
local macro_rules | `(tactic| walk_at "ex") => `(tactic| first | exact ed_int | exact ed_bl | exact ed_non | exact ed_nm rfl (by walk_at "da") | (apply ed_add <;> walk_at "e1") | (apply ed_sub <;> walk_at "e1") | (apply ed_neg <;> walk_at "e1") | walk_at "ei" | (apply ed_tup <;> walk_at "e1") | (apply ed_lst <;> walk_at "e1") | (apply ed_mod <;> walk_at "e1") | (apply ed_ifI <;> walk_at "e1") | (apply ed_if2 <;> walk_at "e1") | (apply ed_slT <;> walk_at "e1") | (apply ed_slL <;> walk_at "e1") | (apply ed_catT <;> walk_at "e1"))
local macro_rules | `(tactic| walk_at "ev") => `(tactic| first | (show Ed _ _ _ _ _ _; first | walk_at "ex" | walk_at "eb" | walk_at "ec") | (show Et _ _ _ _ _ _; walk_at "et") | (show Cm _ _ _ _ _ _ _ _; walk_at "cm") | (show Ea _ _ _ _ _ _; first | exact ea_nil | (apply ea_cons <;> walk_at "e1")) | (show Eo _ _ _ _ _ _; first | exact eo_none | (apply eo_some; walk_at "ev")) | (show Er _ _ _ _ _ _; exact er_nm rfl) | (show Ew _ _ _ _ _ _; walk_at "ew") | (intro _; walk_at "ev"))
/-- as Grow, but the list at p may change -/
structure Gx (p : Addr) (G H G' H' : Hp) : Prop where
  g : Same G G'
  h : ∀ a w, a ≠ p → H a = some w → H' a = some w
  i : Same G' H'
  n : ∀ a o, a ≠ p → G a = none → H a = some o → (∀ xs, o ≠ .tup xs) → G' a = none
  p : G' p = none
section
variable {p : Addr} {G H G1 H1 G2 H2 Ge He : Hp} {o : HO}
theorem Grow.x (g : Grow G H G1 H1) (hp : G p = none) (hH : H p = some o) (ho : ∀ xs, o ≠ .tup xs := by intro _ h; cases h) : Gx p G H G1 H1 := ⟨g.g, fun a w _ e => g.h a w e, g.i, fun a o _ => g.n a o, g.n p o hp hH ho⟩
theorem Gx.wr (i : Same G H) (hp : G p = none) : Gx p G H G (upd H p o) := ⟨.refl _, fun a w ne e => by rw [upd_ne ne]; exact e, same_mut i hp, fun _ _ _ h _ _ => h, hp⟩
theorem Gx.trans (a : Gx p G H G1 H1) (b : Gx p G1 H1 G2 H2) : Gx p G H G2 H2 :=
  ⟨a.g.trans b.g, fun x w ne e => b.h x w ne (a.h x w ne e), b.i, fun x w ne h1 h2 h3 => b.n x w ne (a.n x w ne h1 h2 h3) (a.h x w ne h2) h3, b.p⟩
theorem Gx.refl (i : Same G H) (hp : G p = none) : Gx p G H G H := ⟨.refl _, fun _ _ _ e => e, i, fun _ _ _ h _ _ => h, hp⟩
/-- the row was made here -/
theorem Gx.grow (a : Grow Ge He G H) (hp : He p = none) (b : Gx p G H G1 H1) : Grow Ge He G1 H1 :=
  ⟨a.g.trans b.g, fun x w e => b.h x w (ne_of_none e hp) (a.h x w e), b.i, fun x w h1 h2 h3 => b.n x w (ne_of_none h2 hp) (a.n x w h1 h2 h3) (a.h x w h2) h3⟩
end
section
variable {X : Cx} {σ : St} {G H : Hp} {a b : Expr} {pos p : Pos} {d : PyData}
theorem Er.ed {v : V} (h : Er X σ G H a v) (dv : Da G v d) : Ed X σ G H a d := ⟨fun G1 H1 g Q q => h.run G1 H1 g _ fun G2 H2 g2 => q v G2 H2 g2 (dv.mono (g.g.trans g2.g))⟩
/-- l[i], l a list that may still change -/
theorem er_ix {l : Addr} {xs : List V} {v : V} {i : Int} (ha : Er X σ G H a (.ref l)) (hb : Ed X σ G H b (.int i)) (hl : H l = some (.lst xs)) (h : atI xs i = some v) (hs : PlainIx b := by exact fun _ _ => rfl) : Er X σ G H (.Subscript a b pos) v :=
  ⟨fun G1 H1 g Q q => re_of (pe_ix ix_list pe_self pe_self hs) (ha.run G1 H1 g _ fun G2 H2 g2 => hb.run G2 H2 (g.trans g2) _ fun y G3 H3 g3 dy => ⟨l, xs, i, v, rfl, dy.inv_int, .of ((g.trans (g2.trans g3)).h _ _ hl), h, q G3 H3 (g2.trans g3)⟩)⟩
theorem ed_ixV {l : Addr} {xs : List V} {n i : Int} (ha : Er X σ G H a (.ref l)) (hb : Ed X σ G H b (.int i)) (hl : H l = some (.lst xs)) (h : atI xs i = some (.int n)) (hs : PlainIx b := by exact fun _ _ => rfl) : Ed X σ G H (.Subscript a b pos) (.int n) :=
  (er_ix ha hb hl h hs).ed (.int n)
/-- the script -/
theorem ed_ixS {l : Addr} {ns : List Int} {n i : Int} (ha : Er X σ G H a (.ref l)) (hb : Ed X σ G H b (.int i)) (hl : SqL X.K H l (ns.map V.int)) (h : atI ns i = some n) (hs : PlainIx b := by exact fun _ _ => rfl) : Ed X σ G H (.Subscript a b pos) (.int n) :=
  ⟨fun G1 H1 g Q q => re_of (pe_ix ix_list pe_self pe_self hs) (ha.run G1 H1 g _ fun G2 H2 g2 => hb.run G2 H2 (g.trans g2) _ fun y G3 H3 g3 dy => ⟨l, _, i, .int n, rfl, dy.inv_int, Same.seq (g.trans (g2.trans g3)).h hl, by
    unfold atI at h ⊢
    rw [List.length_map]
    cases q : ixN ns.length i with
    | none => rw [q] at h; cases h
    | some j => rw [q] at h; show (ns.map V.int)[j]? = _; rw [List.getElem?_map, show ns[j]? = some n from h]; rfl, q _ G3 H3 (g2.trans g3) (.int n)⟩)⟩
theorem ed_lenS {l : Addr} {ns : List Int} (hm : X.mg "len" = none) (ha : Er X σ G H a (.ref l)) (hl : SqL X.K H l (ns.map V.int)) (hg : Gl X "len" := by rfl)
    (hs : starEach [a] X.env = (false, eval a X.env) :: starEach [] X.env := by rfl) (hpl : (backTo pos (starEach [] X.env)).any (·.1) = false := by rfl) : Ed X σ G H (.Call (.Name "len" p) [a] [] pos) (.int ns.length) :=
  ⟨fun G1 H1 g Q q => re_of (pe_callB call_len_seq hg hm PySem.boot_len (pa_cons pe_self pa_nil hs) (by decide) (by decide) hs hpl) (ha.run G1 H1 g _ fun G2 H2 g2 => ⟨l, _, rfl, .inl (Same.seq (g.trans g2).h hl), by
    rw [List.length_map]
    exact q _ G2 H2 g2 (.int _)⟩)⟩
theorem ed_fdiv {i j : Int} (ha : Ed X σ G H a (.int i)) (hb : Ed X σ G H b (.int j)) (hc : CDiv i j) : Ed X σ G H (.BinOp a .FloorDiv b pos) (.int (i / j)) :=
  ed_op op_fdiv ha hb fun x y G2 H2 g dx dy Q q => ⟨i, j, dx.inv_int, dy.inv_int, hc, q _ G2 H2 (.refl g.i) (.int _)⟩
end
/-- the row of the draws -/
def Row (H : Hp) (p sc : Addr) (a b c : Int) : Prop := H p = some (.lst [.ref sc, .int a, .int b, .int c])
/-- the script is not the row, or it is one of the module's own objects -/
def ScOk (K : PySem.W.Frag) (p sc : Addr) (xs : List V) : Prop := sc ≠ p ∨ SqL K (fun _ => none) sc xs
/-- the promise of a def that draws from the row -/
def spX (K : PySem.W.Frag) (F : List PyData → (PyData → Prop) → Prop) : Sp := fun vs H Q _ => ∃ (G : Hp) (p sc : Addr) (a b c : Int) (ns : List Int) (ws : List V) (ds : List PyData) (D : PyData → Prop), vs = .ref p :: ws ∧ DaAll G ws ds ∧ F ds D ∧ Same G H ∧ G p = none ∧ Row H p sc a b c ∧
  SqL K H sc (ns.map V.int) ∧ ScOk K p sc (ns.map V.int) ∧ 0 ≤ a ∧ ∀ v d a' b' c' G' H', D d → Da G' v d → 0 ≤ a' → Gx p G H G' H' → Row H' p sc a' b' c' → Q v H'
def below (n : Int) : PyData → Prop := fun d => ∃ r : Int, 0 ≤ r ∧ r < n ∧ d = .int r
def F_taken : List PyData → (PyData → Prop) → Prop := fun ds D => ∃ many : Int, 0 < many ∧ many < 1073741824 ∧ ds = [.int many] ∧ D = below many
theorem SqL.x {K : PySem.W.Frag} {p sc : Addr} {G H G' H' : Hp} {xs : List V} (g : Gx p G H G' H') (ne : ScOk K p sc xs) (h : SqL K H sc xs) : SqL K H' sc xs := by
  rcases ne with ne | h0
  case inr => exact Same.seq (H := fun _ => none) (fun a w e => by have e' : (none : Option HO) = some w := e; cases e') h0
  rcases h with (h | ⟨o, h⟩) | h
  · exact .inl (.inl (g.h _ _ ne h))
  · exact .inl (.inr ⟨o, g.h _ _ ne h⟩)
  · exact .inr h
section
variable {P : Program} {w : World} {K : PySem.W.Frag} {mg : Str → Option Value} {base : Heap}
set_option maxHeartbeats 2000000 in
theorem ok_taken (D : Df K mg "_law_taken" s__law_taken) (B : Bt mg) : Own P w K mg base "_law_taken" 1 (spX K F_taken) := by
  refine Own.mk' D sc__law_taken (fun _ _ _ _ _ _ us hl => match us, hl with | [_, _], _ => rfl) (fun vs H Q E ⟨_, _, _, _, _, _, _, _, _, _, e, h, ⟨_, _, _, e2, _⟩, _⟩ => by rw [e, List.length_cons, h.len, e2]; rfl) ?_
  rintro f cdv A outer s H vs Q E hr ⟨G, p, sc, a, b, c, ns, ws, _, _, rfl, hws, ⟨many, hm0, hm1, rfl, rfl⟩, i0, hGp, hrow, hsc, hne, ha0, q⟩
  obtain ⟨x1, rfl, hx1⟩ := hws.inv1
  cases hx1.inv_int
  have key : ∀ {σ : St} {G' H' : Hp}, Gx p G H G' H' → Row H' p sc a b c → True := fun _ _ => trivial
  have r3 : atI [V.ref sc, .int a, .int b, .int c] 3 = some (.int c) := rfl
  have r1 : atI [V.ref sc, .int a, .int b, .int c] 1 = some (.int a) := rfl
  have r0 : atI [V.ref sc, .int a, .int b, .int c] 0 = some (.ref sc) := rfl
  refine rb_cons (rs_if (k := decide (0 < c)) ?_ i0 ?_ ?_)
  · refine Et.is (et_cmp (cm_gt (ed_ixV (er_nm (v := .ref p) rfl) ed_int hrow r3) ed_int)) rfl
  · intro e G1 H1 g1
    have hr1 := g1.h _ _ hrow
    refine rb_cons (rs_setD (d := .int (c % many)) (ed_mod (ed_int1 B.int (ed_ixV (er_nm (v := .ref p) rfl) ed_int hr1 r3)) (ed_nm rfl (.int many)) ⟨hm0⟩) g1.i sc__law_taken.nd ?_)
    intro v G2 H2 g2 hv
    cases hv.inv_int
    have hr2 := g2.h _ _ hr1
    refine rb_cons (rs_setL (k := 3) (n := 3) (l := p) (xs := [.ref sc, .int a, .int b, .int c]) (d := .int (c / many)) (ed_fdiv (ed_ixV (er_nm (v := .ref p) rfl) ed_int hr2 r3) (ed_nm rfl (.int many)) ⟨hm0, hm1⟩) (er_nm rfl) ed_int g2.i hr2 rfl ?_)
    intro v3 G3 H3 g3 hv3
    cases hv3.inv_int
    have gg := ((g1.trans g2).trans g3).x hGp hrow
    refine rb_one (rs_retD (ed_nm rfl (.int (c % many))) (same_mut g3.i gg.p) fun v' G' H' g' dv => ?_)
    cases dv.inv_int
    have g4 : Gx p G H G3 (upd H3 p (.lst [.ref sc, .int a, .int b, .int (c / many)])) := gg.trans (Gx.wr gg.i gg.p)
    exact q _ _ a b (c / many) G' H' ⟨_, Int.emod_nonneg _ (by omega), Int.emod_lt_of_pos _ hm0, rfl⟩ (.int _) ha0 (g4.trans (g'.x g4.p upd_same)) (g'.h _ _ upd_same)
  · intro e G1 H1 g1
    have hr1 := g1.h _ _ hrow
    refine rb_nil (rb_cons (rs_setL (k := 1) (n := 1) (l := p) (xs := [.ref sc, .int a, .int b, .int c]) (d := .int (a + 1)) (ed_add (ed_ixV (er_nm (v := .ref p) rfl) ed_int hr1 r1) ed_int) (er_nm rfl) ed_int g1.i hr1 rfl ?_))
    intro v2 G2 H2 g2 hv2
    cases hv2.inv_int
    have x2 : Gx p G H G2 (upd H2 p (.lst [.ref sc, .int (a + 1), .int b, .int c])) := ((g1.trans g2).x hGp hrow).trans (Gx.wr g2.i ((g1.trans g2).x hGp hrow).p)
    have hr2 : (upd H2 p (.lst [.ref sc, .int (a + 1), .int b, .int c])) p = some (.lst [.ref sc, .int (a + 1), .int b, .int c]) := upd_same
    show RB _ _ _ _ (upd H2 p (.lst [.ref sc, .int (a + 1), .int b, .int c]))
    generalize upd H2 p (.lst [.ref sc, .int (a + 1), .int b, .int c]) = H2' at x2 hr2
    have s2 := SqL.x x2 hne hsc
    have r1' : atI [V.ref sc, .int (a + 1), .int b, .int c] 1 = some (.int (a + 1)) := rfl
    have r0' : atI [V.ref sc, .int (a + 1), .int b, .int c] 0 = some (.ref sc) := rfl
    have r2' : atI [V.ref sc, .int (a + 1), .int b, .int c] 2 = some (.int b) := rfl
    refine rb_cons (rs_if (k := decide ((ns.length : Int) < a + 1)) ?_ x2.i ?_ ?_)
    · exact et_cmp (cm_gt (ed_ixV (er_nm (v := .ref p) rfl) ed_int hr2 r1') (ed_lenS B.len (er_ix (er_nm (v := .ref p) rfl) ed_int hr2 r0') s2))
    · intro e2 G3 H3 g3
      have hr3 := g3.h _ _ hr2
      have x3 := x2.trans (g3.x x2.p hr2)
      refine rb_cons (rs_setL (k := 2) (n := 2) (l := p) (xs := [.ref sc, .int (a + 1), .int b, .int c]) (d := .int ((b * 48271 + 11) % 2147483647)) (ed_mod (ed_int1 B.int (ed_add (ed_mul (ed_ixV (er_nm (v := .ref p) rfl) ed_int hr3 r2') ed_int (.inr ⟨by decide, by decide⟩)) ed_int)) ed_int ⟨by decide⟩) (er_nm rfl) ed_int g3.i hr3 rfl ?_)
      intro v4 G4 H4 g4 hv4
      cases hv4.inv_int
      have x4 := (x3.trans (g4.x x3.p hr3)).trans (Gx.wr g4.i (g4.x x3.p hr3).p (o := .lst [.ref sc, .int (a + 1), .int ((b * 48271 + 11) % 2147483647), .int c]))
      refine rb_one (rs_retD (d := .int ((b * 48271 + 11) % 2147483647 / 7 % many)) (ed_mod (ed_int1 B.int (ed_fdiv (ed_ixV (er_nm (v := .ref p) rfl) ed_int (xs := [.ref sc, .int (a + 1), .int ((b * 48271 + 11) % 2147483647), .int c]) upd_same rfl) ed_int ⟨by decide, by decide⟩)) (ed_nm rfl (.int many)) ⟨hm0⟩) x4.i fun v' G' H' g' dv => ?_)
      cases dv.inv_int
      exact q _ _ (a + 1) _ c G' H' ⟨_, Int.emod_nonneg _ (by omega), Int.emod_lt_of_pos _ hm0, rfl⟩ (.int _) (by omega) (x4.trans (g'.x x4.p upd_same)) (g'.h _ _ upd_same)
    · intro e2 G3 H3 g3
      have hr3 := g3.h _ _ hr2
      have x3 := x2.trans (g3.x x2.p hr2)
      have s3 := Same.seq g3.h s2
      have hle : a + 1 ≤ (ns.length : Int) := by
        have := of_decide_eq_false e2
        omega
      obtain ⟨z, hz⟩ : ∃ z, ns[a.toNat]? = some z := ⟨_, List.getElem?_eq_getElem (by omega)⟩
      have az : atI ns (a + 1 - 1) = some z := atI_of (j := a.toNat) (by omega) hz
      refine rb_nil (rb_cons (rs_setD (d := .int z) (ed_ixS (er_ix (er_nm (v := .ref p) rfl) ed_int hr3 r0') (ed_sub (ed_ixV (er_nm (v := .ref p) rfl) ed_int hr3 r1') ed_int) s3 az) g3.i sc__law_taken.nd ?_))
      intro v4 G4 H4 g4 hv4
      cases hv4.inv_int
      have hr4 := g4.h _ _ hr3
      have x4 := x3.trans (g4.x x3.p hr3)
      refine rb_cons (rs_setL (k := 2) (n := 2) (l := p) (xs := [.ref sc, .int (a + 1), .int b, .int c]) (d := .int ((b * 48271 + z + 11) % 2147483647)) (ed_mod (ed_int1 B.int (ed_add (ed_add (ed_mul (ed_ixV (er_nm (v := .ref p) rfl) ed_int hr4 r2') ed_int (.inr ⟨by decide, by decide⟩)) (ed_nm rfl (.int z))) ed_int)) ed_int ⟨by decide⟩) (er_nm rfl) ed_int g4.i hr4 rfl ?_)
      intro v5 G5 H5 g5 hv5
      cases hv5.inv_int
      have x5 := (x4.trans (g5.x x4.p hr4)).trans (Gx.wr g5.i (g5.x x4.p hr4).p (o := .lst [.ref sc, .int (a + 1), .int ((b * 48271 + z + 11) % 2147483647), .int c]))
      have hr5 : (upd H5 p (.lst [.ref sc, .int (a + 1), .int ((b * 48271 + z + 11) % 2147483647), .int c])) p = some (.lst [.ref sc, .int (a + 1), .int ((b * 48271 + z + 11) % 2147483647), .int c]) := upd_same
      show RB _ _ _ _ (upd H5 p (.lst [.ref sc, .int (a + 1), .int ((b * 48271 + z + 11) % 2147483647), .int c]))
      generalize upd H5 p (.lst [.ref sc, .int (a + 1), .int ((b * 48271 + z + 11) % 2147483647), .int c]) = H5' at x5 hr5
      refine rb_cons (rs_if (k := decide ((10 : Int) ^ 18 ≤ z)) ?_ x5.i ?_ ?_)
      · exact Et.is (et_cmp (cm_ge (ed_nm rfl (.int z)) (ed_pow ed_int ed_int ⟨by decide, by decide, by decide⟩))) rfl
      · intro e3 G6 H6 g6
        have hr6 := g6.h _ _ hr5
        have x6 := x5.trans (g6.x x5.p hr5)
        refine rb_one (rs_setL (k := 3) (n := 3) (l := p) (xs := [.ref sc, .int (a + 1), .int ((b * 48271 + z + 11) % 2147483647), .int c]) (d := .int (z / many)) (ed_fdiv (ed_nm rfl (.int z)) (ed_nm rfl (.int many)) ⟨hm0, hm1⟩) (er_nm rfl) ed_int g6.i hr6 rfl ?_)
        intro v7 G7 H7 g7 hv7
        cases hv7.inv_int
        have x7 := (x6.trans (g7.x x6.p hr6)).trans (Gx.wr g7.i (g7.x x6.p hr6).p (o := .lst [.ref sc, .int (a + 1), .int ((b * 48271 + z + 11) % 2147483647), .int (z / many)]))
        refine rb_one (rs_retD (d := .int (z % many)) (ed_mod (ed_int1 B.int (ed_nm rfl (.int z))) (ed_nm rfl (.int many)) ⟨hm0⟩) x7.i fun v' G' H' g' dv => ?_)
        cases dv.inv_int
        exact q _ _ (a + 1) _ _ G' H' ⟨_, Int.emod_nonneg _ (by omega), Int.emod_lt_of_pos _ hm0, rfl⟩ (.int _) (by omega) (x7.trans (g'.x x7.p upd_same)) (g'.h _ _ upd_same)
      · intro e3 G6 H6 g6
        have hr6 := g6.h _ _ hr5
        have x6 := x5.trans (g6.x x5.p hr5)
        refine rb_nil (rb_one (rs_retD (d := .int (z % many)) (ed_mod (ed_int1 B.int (ed_nm rfl (.int z))) (ed_nm rfl (.int many)) ⟨hm0⟩) x6.i fun v' G' H' g' dv => ?_))
        cases dv.inv_int
        exact q _ _ (a + 1) _ _ G' H' ⟨_, Int.emod_nonneg _ (by omega), Int.emod_lt_of_pos _ hm0, rfl⟩ (.int _) (by omega) (x6.trans (g'.x x6.p hr6)) (g'.h _ _ hr6)
end
end Fk
end
section
set_option Elab.async false
set_option linter.all false
set_option maxRecDepth 100000
set_option maxHeartbeats 4000000
/-! E2: expressions that draw. -/
namespace Fk
open PySem PySem.Spec L2
open PyProof.Rows hiding St

def RowOk (K : PySem.W.Frag) (H : Hp) (p sc : Addr) (ns : List Int) : Prop := ScOk K p sc (ns.map V.int) ∧ SqL K H sc (ns.map V.int) ∧ ∃ a b c, 0 ≤ a ∧ Row H p sc a b c
section
variable {K : PySem.W.Frag} {G H G1 H1 : Hp} {p sc : Addr} {ns : List Int}
theorem RowOk.grow (g : Grow G H G1 H1) (h : RowOk K H p sc ns) : RowOk K H1 p sc ns := let ⟨a, b, x, y, z, k, r⟩ := h; ⟨a, Same.seq g.h b, x, y, z, k, g.h _ _ r⟩
theorem RowOk.gx (g : Grow G H G1 H1) (h : RowOk K H p sc ns) (hp : G p = none) : Gx p G H G1 H1 := let ⟨_, _, _, _, _, _, r⟩ := h; g.x hp r
theorem Gx.new {q : Addr} {o : HO} (i : Same G H) (hp : G p = none) (hq : H q = none) (hH : H p ≠ none) : Gx p G H (upd G q o) (upd H q o) := by
  have ne : q ≠ p := fun e => hH (e ▸ hq)
  refine ⟨same_new (i.free hq), fun a w _ e => by rw [upd_ne (ne_of_none e hq)]; exact e, same_both i, fun a w _ h1 h2 _ => by rw [upd_ne (ne_of_none h2 hq)]; exact h1, by rw [upd_ne (Ne.symm ne)]; exact hp⟩
theorem RowOk.at' (h : RowOk K H p sc ns) : H p ≠ none := by
  obtain ⟨_, _, a, b, c, _, r⟩ := h
  rw [show H p = _ from r]
  exact nofun
theorem RowOk.upd {q : Addr} {o : HO} (h : RowOk K H p sc ns) (hq : H q = none) : RowOk K (upd H q o) p sc ns := by
  obtain ⟨n, s, a, b, c, z, r⟩ := h
  exact ⟨n, Same.seq (same_new hq) s, a, b, c, z, same_new hq _ _ r⟩
theorem RowOk.set {H0 : Hp} {q : Addr} {o : HO} (r0 : RowOk K H0 p sc ns) (hq : H0 q = none) (r : RowOk K H p sc ns) (keep : sc ≠ p → ∀ w, H0 sc = some w → H sc = some w) (h1 : q ≠ p) : RowOk K (L2.upd H q o) p sc ns := by
  obtain ⟨n, s, _⟩ := r0
  obtain ⟨_, _, a, b, c, z, r⟩ := r
  refine ⟨n, ?_, a, b, c, z, ?_⟩
  · rcases n with n | h0
    case inr => exact Same.seq (H := fun _ => none) (fun a w e => by have e' : (none : Option HO) = some w := e; cases e') h0
    rcases s with (s | ⟨ob, s⟩) | s
    · exact .inl (.inl (by rw [upd_ne (ne_of_none s hq)]; exact keep n _ s))
    · exact .inl (.inr ⟨ob, by rw [upd_ne (ne_of_none s hq)]; exact keep n _ s⟩)
    · exact .inr s
  · show L2.upd H q o p = _
    rw [upd_ne (Ne.symm h1)]
    exact r
end
/-- an expression that may draw: what it gives is one of D -/
structure Ek (X : Cx) (σ : St) (p sc : Addr) (ns : List Int) (G H : Hp) (e : Expr) (D : PyData → Prop) : Prop where
  run : ∀ G1 H1, Gx p G H G1 H1 → RowOk X.K H1 p sc ns → ∀ Q : VK, (∀ v d G2 H2, D d → Da G2 v d → Gx p G1 H1 G2 H2 → RowOk X.K H2 p sc ns → Q v H2) → RE X e σ H1 Q
structure Eka (X : Cx) (σ : St) (p sc : Addr) (ns : List Int) (G H : Hp) (es : List Expr) (D : List PyData → Prop) : Prop where
  run : ∀ G1 H1, Gx p G H G1 H1 → RowOk X.K H1 p sc ns → ∀ Q : List V → Hp → Prop, (∀ vs ds G2 H2, D ds → DaAll G2 vs ds → Gx p G1 H1 G2 H2 → RowOk X.K H2 p sc ns → Q vs H2) → RA X es σ H1 Q
structure Etk (X : Cx) (σ : St) (p sc : Addr) (ns : List Int) (G H : Hp) (e : Expr) : Prop where
  run : ∀ G1 H1, Gx p G H G1 H1 → RowOk X.K H1 p sc ns → ∀ Q : Bool → Hp → Prop, (∀ b G2 H2, Gx p G1 H1 G2 H2 → RowOk X.K H2 p sc ns → Q b H2) → RT X e σ H1 Q
structure Ewk (X : Cx) (σ : St) (p sc : Addr) (ns : List Int) (G H : Hp) (e : Expr) : Prop where
  run : ∀ G1 H1, Gx p G H G1 H1 → RowOk X.K H1 p sc ns → ∀ Q : Bool → Hp → Prop, (∀ b G2 H2, Gx p G1 H1 G2 H2 → RowOk X.K H2 p sc ns → Q b H2) → RW X e σ H1 Q
def nums (A : Int → Prop) : PyData → Prop := fun d => ∃ i, A i ∧ d = .int i
def anyB : PyData → Prop := fun d => ∃ b, d = .bool b
section
variable {X : Cx} {σ : St} {p sc : Addr} {ns : List Int} {G H : Hp} {e a b c : Expr} {es : List Expr} {D D1 D2 : PyData → Prop} {A B : Int → Prop} {pos pos2 q : Pos} {x : Str} {k j : Nat}
theorem Ek.weak (h : Ek X σ p sc ns G H e D) (w : ∀ d, D d → D1 d) : Ek X σ p sc ns G H e D1 := ⟨fun G1 H1 g r Q q => h.run G1 H1 g r Q fun v d G2 H2 hd => q v d G2 H2 (w d hd)⟩
theorem Ek.mono {G' H' : Hp} (g : Gx p G H G' H') (h : Ek X σ p sc ns G H e D) : Ek X σ p sc ns G' H' e D := ⟨fun G1 H1 g1 => h.run G1 H1 (g.trans g1)⟩
theorem ek_of {d : PyData} (h : ∀ G1 H1, Gx p G H G1 H1 → RowOk X.K H1 p sc ns → Ed X σ G1 H1 e d) : Ek X σ p sc ns G H e (fun d' => d' = d) :=
  ⟨fun G1 H1 g r Q q => (h G1 H1 g r).run G1 H1 (.refl g.i) Q fun v G2 H2 g2 dv => q v d G2 H2 rfl dv (r.gx g2 g.p) (r.grow g2)⟩
theorem ek_ofI {i : Int} (h : ∀ G1 H1, Gx p G H G1 H1 → RowOk X.K H1 p sc ns → Ed X σ G1 H1 e (.int i)) : Ek X σ p sc ns G H e (nums fun j => j = i) := (ek_of h).weak fun d e => ⟨i, rfl, e⟩
theorem eka_nil : Eka X σ p sc ns G H [] (fun ds => ds = []) := ⟨fun G1 H1 g r Q q => ra_of pa_nil (q [] [] G1 H1 rfl .nil (.refl g.i g.p) r)⟩
theorem eka_cons {D2 : List PyData → Prop} (h : Ek X σ p sc ns G H e D) (t : Eka X σ p sc ns G H es D2) (hs : starEach (e :: es) X.env = (false, eval e X.env) :: starEach es X.env := by rfl) : Eka X σ p sc ns G H (e :: es) (fun ds => ∃ d r, ds = d :: r ∧ D d ∧ D2 r) :=
  ⟨fun G1 H1 g r Q q => ra_of (pa_cons pe_self pa_self hs) (h.run G1 H1 g r _ fun v d G2 H2 hd dv g2 r2 => t.run G2 H2 (g.trans g2) r2 _ fun vs ds G3 H3 hds dvs g3 r3 => q _ _ G3 H3 ⟨d, ds, rfl, hd, hds⟩ (.cons (dv.mono g3.g) dvs) (g2.trans g3) r3)⟩
/-- a call of an own def with the row as its first argument -/
theorem ek_call {F : List PyData → (PyData → Prop) → Prop} {DD : List PyData → Prop} {r0 : Expr} (O : Own X.prog X.w X.K X.mg X.base x k (spX X.K F)) (hr : Room j X.A) (hrow : ∀ G1 H1, Same G1 H1 → Er X σ G1 H1 r0 (.ref p)) (ha : Eka X σ p sc ns G H es DD) (hF : ∀ ds, DD ds → F ds D) (hk : k ≤ j := by decide) (hg : Gl X x := by rfl) (hdb : (x == ("__debug__" : Str)) = false := by decide)
    (he : starEach (r0 :: es) X.env = (false, eval r0 X.env) :: starEach es X.env := by rfl) (hpl : (backTo pos (starEach es X.env)).any (·.1) = false := by rfl) : Ek X σ p sc ns G H (.Call (.Name x q) (r0 :: es) [] pos) D := by
  obtain ⟨f, fd, ps, hm, kp, b, Fn⟩ := O.ex
  refine ⟨fun G1 H1 g r Q q => re_of (pe_call Fn (hr.mono hk) hg hm kp b .nil pass0 (pa_cons pe_self pa_self he) hdb he hpl) ((hrow G1 H1 g.i).run G1 H1 (.refl g.i) _ fun G2 H2 g2 => ha.run G2 H2 (g.trans (r.gx g2 g.p)) (r.grow g2) _ fun vs ds G3 H3 hds dvs g3 r3 => ?_)⟩
  obtain ⟨nq, sq, a, b', c, ha0, row⟩ := r3
  refine ⟨G3, p, sc, a, b', c, ns, vs, ds, D, by rw [List.append_nil], dvs, hF ds hds, g3.i, g3.p, row, sq, nq, ha0, fun v d a' b'' c' G4 H4 hd dv ha' g4 row' => q v d G4 H4 hd dv (((r.gx g2 g.p).trans g3).trans g4) ⟨nq, SqL.x g4 nq sq, a', b'', c', ha', row'⟩⟩
theorem below_ints {n : Int} : ∀ d, below n d → nums (fun r => 0 ≤ r ∧ r < n) d := fun d ⟨r, h1, h2, e⟩ => ⟨r, ⟨h1, h2⟩, e⟩
/-- _law_taken(row, e) -/
theorem ek_tk {n : Int} {r0 : Expr} (O : Own X.prog X.w X.K X.mg X.base "_law_taken" k (spX X.K F_taken)) (hr : Room j X.A) (hrow : ∀ G1 H1, Same G1 H1 → Er X σ G1 H1 r0 (.ref p)) (ha : Ek X σ p sc ns G H e (fun d => d = .int n)) (h0 : 0 < n) (h1 : n < 1073741824) (hk : k ≤ j := by decide) (hg : Gl X "_law_taken" := by rfl)
    (hs : starEach [e] X.env = (false, eval e X.env) :: starEach [] X.env := by rfl) (he : starEach [r0, e] X.env = (false, eval r0 X.env) :: starEach [e] X.env := by rfl) (hpl : (backTo pos (starEach [e] X.env)).any (·.1) = false := by rfl) : Ek X σ p sc ns G H (.Call (.Name "_law_taken" q) [r0, e] [] pos) (nums fun r => 0 ≤ r ∧ r < n) :=
  (ek_call O hr hrow (eka_cons ha eka_nil hs) (D := below n) (fun ds ⟨d, r, e1, e2, e3⟩ => ⟨n, h0, h1, by rw [e1, e2, e3], rfl⟩) hk hg (by decide) he hpl).weak below_ints
theorem ek_op {op : Operator} {r : R2} (ho : OpR X (binaryOp op) r) (ha : Ek X σ p sc ns G H a D1) (hb : Ek X σ p sc ns G H b D2) (hr : ∀ d d' y z G2 H2, D1 d → D2 d' → Da G2 y d → Da G2 z d' → Same G2 H2 → ∀ Q : VK, (∀ v d'', D d'' → Da G2 v d'' → Q v H2) → r y z H2 Q) : Ek X σ p sc ns G H (.BinOp a op b pos) D :=
  ⟨fun G1 H1 g ro Q q => re_of (pe_op ho pe_self pe_self) (ha.run G1 H1 g ro _ fun y d G2 H2 hd dy g2 r2 => hb.run G2 H2 (g.trans g2) r2 _ fun z d' G3 H3 hd' dz g3 r3 => hr d d' y z G3 H3 hd hd' (dy.mono g3.g) dz g3.i Q fun v d'' h1 h2 => q v d'' G3 H3 h1 h2 (g2.trans g3) r3)⟩
theorem ek_add (ha : Ek X σ p sc ns G H a (nums A)) (hb : Ek X σ p sc ns G H b (nums B)) : Ek X σ p sc ns G H (.BinOp a .Add b pos) (nums fun k => ∃ i j, A i ∧ B j ∧ k = i + j) :=
  ek_op op_add ha hb fun d d' y z G2 H2 ⟨i, hi, e1⟩ ⟨j, hj, e2⟩ dy dz _ Q q => by
    subst e1 e2
    exact ⟨i, j, dy.inv_int, dz.inv_int, q _ (.int (i + j)) ⟨_, ⟨i, j, hi, hj, rfl⟩, rfl⟩ (.int _)⟩
/-- a == b, a < b -/
theorem ek_cmp {op : CmpOp} {r : R2} (ho : OpR X (compareOp op) r) (ha : Ek X σ p sc ns G H a (nums A)) (hb : Ek X σ p sc ns G H b (nums B)) (hr : ∀ i j H2, ∀ Q : VK, (∀ k, Q (.bl k) H2) → r (.int i) (.int j) H2 Q) (hm : behindInMarks op b = false := by first | exact nomark _ | with_unfolding_all rfl) : Ek X σ p sc ns G H (.Compare a [op] [b] pos) anyB :=
  ⟨fun G1 H1 g ro Q q => re_of (pe_cmpR ho pe_self pe_self hm) (ha.run G1 H1 g ro _ fun y d G2 H2 ⟨i, _, e1⟩ dy g2 r2 => hb.run G2 H2 (g.trans g2) r2 _ fun z d' G3 H3 ⟨j, _, e2⟩ dz g3 r3 => by
    subst e1 e2
    rw [dy.inv_int, dz.inv_int]
    exact hr i j H3 Q fun k => q _ (.bool k) G3 H3 ⟨k, rfl⟩ (.bl k) (g2.trans g3) r3)⟩
theorem etk_cmp {op : CmpOp} {r : R2} (ho : OpR X (compareOp op) r) (ha : Ek X σ p sc ns G H a (nums A)) (hb : Ek X σ p sc ns G H b (nums B)) (hr : ∀ i j H2, ∀ Q : VK, (∀ k, Q (.bl k) H2) → r (.int i) (.int j) H2 Q) (hm : behindInMarks op b = false := by first | exact nomark _ | with_unfolding_all rfl) : Etk X σ p sc ns G H (.Compare a [op] [b] pos) :=
  ⟨fun G1 H1 g ro Q q => rt_of (pt_cmpR ho pe_self pe_self hm) (ha.run G1 H1 g ro _ fun y d G2 H2 ⟨i, _, e1⟩ dy g2 r2 => hb.run G2 H2 (g.trans g2) r2 _ fun z d' G3 H3 ⟨j, _, e2⟩ dz g3 r3 => by
    subst e1 e2
    rw [dy.inv_int, dz.inv_int]
    exact hr i j H3 _ fun k => ⟨k, rfl, q k G3 H3 (g2.trans g3) r3⟩)⟩
theorem hEq (i j : Int) (H2 : Hp) (Q : VK) (q : ∀ k, Q (.bl k) H2) : (rI0 fun i j => .bl (decide (i = j))) (.int i) (.int j) H2 Q := ⟨i, j, rfl, rfl, q _⟩
theorem hLt (i j : Int) (H2 : Hp) (Q : VK) (q : ∀ k, Q (.bl k) H2) : (rI0 fun i j => .bl (decide (i < j))) (.int i) (.int j) H2 Q := ⟨i, j, rfl, rfl, q _⟩
theorem hGt (i j : Int) (H2 : Hp) (Q : VK) (q : ∀ k, Q (.bl k) H2) : (rI0 fun i j => .bl (decide (j < i))) (.int i) (.int j) H2 Q := ⟨i, j, rfl, rfl, q _⟩
theorem etk_w (h : Ewk X σ p sc ns G H e) : Etk X σ p sc ns G H e := ⟨fun G1 H1 g r Q q => rt_of (PW.pt pw_self) (h.run G1 H1 g r Q q)⟩
theorem ewk_and1 (h : Etk X σ p sc ns G H a) : Ewk X σ p sc ns G H (.BoolOp .And [a] pos) := ⟨fun G1 H1 g r Q q => rw_of (pw_and1 pt_self) (h.run G1 H1 g r Q q)⟩
theorem ewk_and {rest : List Expr} (h1 : Etk X σ p sc ns G H a) (h2 : Ewk X σ p sc ns G H (.BoolOp .And (b :: rest) pos)) : Ewk X σ p sc ns G H (.BoolOp .And (a :: b :: rest) pos) :=
  ⟨fun G1 H1 g r Q q => rw_of (pw_and pt_self pw_self) (h1.run G1 H1 g r _ fun k G2 H2 g2 r2 => by
    cases k with
    | true => exact iteT (h2.run G2 H2 (g.trans g2) r2 Q fun k G3 H3 g3 => q k G3 H3 (g2.trans g3))
    | false => exact iteF (q false G2 H2 g2 r2))⟩
theorem ek_ifT (h : Etk X σ p sc ns G H c) (h1 : Ek X σ p sc ns G H a D) (h2 : Ek X σ p sc ns G H b D) : Ek X σ p sc ns G H (.IfExp c a b pos) D :=
  ⟨fun G1 H1 g r Q q => re_of (pe_ifExp pt_self pe_self pe_self) (h.run G1 H1 g r _ fun k G2 H2 g2 r2 => by
    cases k with
    | true => exact iteT (h1.run G2 H2 (g.trans g2) r2 Q fun v d G3 H3 hd dv g3 => q v d G3 H3 hd dv (g2.trans g3))
    | false => exact iteF (h2.run G2 H2 (g.trans g2) r2 Q fun v d G3 H3 hd dv g3 => q v d G3 H3 hd dv (g2.trans g3)))⟩
theorem ek_if {k : Bool} (h : ∀ G1 H1, Gx p G H G1 H1 → RowOk X.K H1 p sc ns → Et X σ G1 H1 c k) (h1 : k = true → Ek X σ p sc ns G H a D) (h2 : k = false → Ek X σ p sc ns G H b D) : Ek X σ p sc ns G H (.IfExp c a b pos) D :=
  ⟨fun G1 H1 g r Q q => re_of (pe_ifExp pt_self pe_self pe_self) ((h G1 H1 g r).run G1 H1 (.refl g.i) _ fun G2 H2 g2 => by
    have x2 := r.gx g2 g.p
    cases k with
    | true => exact iteT ((h1 rfl).run G2 H2 (g.trans x2) (r.grow g2) Q fun v d G3 H3 hd dv g3 => q v d G3 H3 hd dv (x2.trans g3))
    | false => exact iteF ((h2 rfl).run G2 H2 (g.trans x2) (r.grow g2) Q fun v d G3 H3 hd dv g3 => q v d G3 H3 hd dv (x2.trans g3)))⟩
def anyL (A : List PyData → Prop) : PyData → Prop := fun d => ∃ l, A l ∧ d = .list l
def anyT (A : List PyData → Prop) : PyData → Prop := fun d => ∃ l, A l ∧ d = .tuple l
theorem ek_lst {A : List PyData → Prop} (h : Eka X σ p sc ns G H es A) (hz : ∀ ds, A ds → ds.length ≤ sizeLine) : Ek X σ p sc ns G H (.List es pos) (anyL A) :=
  ⟨fun G1 H1 g r Q q => re_of (pe_lst pa_self) (h.run G1 H1 g r _ fun vs ds G2 H2 hd dvs g2 r2 => ⟨by rw [dvs.len]; exact hz ds hd, fun t ht => q _ (.list ds) _ _ ⟨ds, hd, rfl⟩ (DaAll.lst upd_same (dvs.mono (same_new (g2.i.free ht)))) (g2.trans (.new g2.i g2.p ht r2.at')) (r2.upd ht)⟩)⟩
theorem ek_tupleOf {A : List PyData → Prop} (hm : X.mg "tuple" = none) (h : Ek X σ p sc ns G H a (anyL A)) (hg : Gl X "tuple" := by rfl)
    (hs : starEach [a] X.env = (false, eval a X.env) :: starEach [] X.env := by rfl) (hpl : (backTo pos (starEach [] X.env)).any (·.1) = false := by rfl) : Ek X σ p sc ns G H (.Call (.Name "tuple" q) [a] [] pos) (anyT A) :=
  ⟨fun G1 H1 g r Q q => re_of (pe_callTy call_tuple_of hg hm (by decide +kernel) (pa_cons pe_self pa_nil hs) (by decide) (by decide) hs hpl) (h.run G1 H1 g r _ fun v d G2 H2 hd dv g2 r2 => by
    obtain ⟨l, hl, rfl⟩ := hd
    obtain ⟨t, xs, rfl, ht, hx⟩ := dv.inv_lst
    exact ⟨t, xs, rfl, .inl ⟨.of (g2.i _ _ ht), fun u hu => q _ (.tuple l) _ _ ⟨l, hl, rfl⟩ (DaAll.tup upd_same (hx.mono (same_new (g2.i.free hu)))) (g2.trans (.new g2.i g2.p hu r2.at')) (r2.upd hu)⟩⟩)⟩
/-- x = e -/
theorem rs_setK {DD : Ends} {i : Nat} {pos' : Pos} (h : Ek X σ p sc ns G H e D) (g : Same G H) (hp : G p = none) (r : RowOk X.K H p sc ns) (hN : X.N.Nodup) (k : ∀ v d G2 H2, D d → Da G2 v d → Gx p G H G2 H2 → RowOk X.K H2 p sc ns → DD.nx (σ.set i (some v)) H2)
    (hi : X.N[i]? = some x := by first | exact slotn 0 rfl | exact slotn 1 rfl | exact slotn 2 rfl | exact slotn 3 rfl | exact slotn 4 rfl | exact slotn 5 rfl | exact slotn 6 rfl | exact slotn 7 rfl | exact slotn 8 rfl | exact slotn 9 rfl | exact slotn 10 rfl | exact slotn 11 rfl | exact slotn 12 rfl | exact slotn 13 rfl | exact slotn 14 rfl | exact slotn 15 rfl)
    (hx : Loc X.env.scope x := by first | exact Or.inl rfl | exact Or.inr rfl) (hs : swapsWith e (some (.Name x pos')) pos.line X.env = pure false := by rfl) (hf : X.fn x = true ∨ X.env.scope.names.lookup x = some .local := by first | exact .inl rfl | exact .inr rfl) :
    RS X (.Assign [.Name x pos'] e pos) DD σ H := rs_of (ps_set hN hi hx pe_self hs hf) (h.run G H (.refl g hp) r _ k)
theorem rs_retK {DD : Ends} (h : Ek X σ p sc ns G H e D) (g : Same G H) (hp : G p = none) (r : RowOk X.K H p sc ns) (k : ∀ v d G2 H2, D d → Da G2 v d → Gx p G H G2 H2 → RowOk X.K H2 p sc ns → DD.rt v H2) : RS X (.Return (some e) pos) DD σ H := rs_of (ps_ret pe_self) (h.run G H (.refl g hp) r _ k)
end
end Fk
end
section
set_option Elab.async false
set_option linter.all false
set_option maxRecDepth 100000
set_option maxHeartbeats 4000000
/-! E3: comprehensions that draw; a pick, a line. -/
namespace Fk
open PySem PySem.Spec L2
open PyProof.Rows hiding St
local macro_rules | `(tactic| walk_at "gr") => `(tactic| first | assumption | exact Same.refl _ | (refine Same.trans ?_ (Grow.g (by assumption)); walk_at "gr"))
local macro_rules | `(tactic| walk_at "da") => `(tactic| first | assumption | exact Da.int _ | exact Da.bl _ | exact Da.non | (refine Da.mono ?_ (by assumption); walk_at "gr"))
local macro_rules | `(tactic| walk_at "dp") => `(tactic| (simp only [PyData.depth, PyData.depthAll, depthAll_dI, depthAll_dN, Nat.max_zero, Nat.zero_max, Nat.max_self, Nat.min_self, Nat.zero_min, Nat.min_zero] <;> omega))
local macro_rules | `(tactic| walk_at "bt") => `(tactic| first | exact Bt.isi (by assumption) | exact Bt.int (by assumption) | exact Bt.bool (by assumption) | exact Bt.tuple (by assumption) | exact Bt.len (by assumption) | exact Bt.list (by assumption) | exact Bt.set (by assumption) | exact Bt.sorted (by assumption) | exact Bt.range (by assumption) | exact Bt.enum (by assumption) | exact Bt.zip (by assumption) | exact Bt.min (by assumption) | exact Bt.max (by assumption) | exact Bt.sum (by assumption) | exact Bt.dict (by assumption) | exact Bt.str (by assumption))
local macro_rules | `(tactic| walk_at "au") => `(tactic| first | (apply prop_id; assumption) | (show PySem.W.keepIn _ _ = true; assumption) | (show (_ : Option Value) = none; walk_at "bt") | rfl | (show min _ _ ≤ 64; first | decide | walk_at "dp") | (show _ ≤ sizeLine; first | assumption | (simp only [List.length_cons, List.length_nil]; decide)) | (show (_ : Nat) ≤ _; decide) | (show (_ == _) = false; decide) | (show _ ≠ _; decide) | (show behindInMarks _ _ = false; first | exact nomark _ | with_unfolding_all rfl) | (show lastMarks _ _ = false; with_unfolding_all rfl) | (show OpR _ _ _; first | exact op_le | exact op_lt | exact opI_eq | exact opI_ne) | exact (fun _ _ => rfl) | (show ∀ _, _ = _; intro _; rfl) | exact Or.inl rfl | exact Or.inr rfl)
local macro_rules | `(tactic| walk_at "dt") => `(tactic| first | show Bool | show Int | show PyData | show List PyData | show List Int | show Nat | show Option Int | show V)
local macro_rules | `(tactic| walk_at "Se1") => `(tactic| first | walk_at "dt" | walk_at "Sev" | walk_at "au" | (apply Side.mk; walk_at "au"))
local macro_rules | `(tactic| walk_at "Scm") => `(tactic| first | (apply cm_lt <;> walk_at "Se1") | (apply cm_le <;> walk_at "Se1") | (apply cm_gt <;> walk_at "Se1") | (apply cm_ge <;> walk_at "Se1") | (apply cm_eq <;> walk_at "Se1") | (apply cm_ne <;> walk_at "Se1") | (apply cm_inL <;> walk_at "Se1") | (apply cm_inT <;> walk_at "Se1") | (apply cm_niL <;> walk_at "Se1") | (apply cm_niT <;> walk_at "Se1") | (apply cm_is <;> walk_at "Se1") | (apply cm_isnot <;> walk_at "Se1"))
local macro_rules | `(tactic| walk_at "Set") => `(tactic| first | (apply et_cmp <;> walk_at "Se1") | (apply et_not <;> walk_at "Se1") | (apply et_w; walk_at "Sew") | (apply et_chain <;> walk_at "Se1") | (apply et_val <;> walk_at "Se1"))
local macro_rules | `(tactic| walk_at "Sew") => `(tactic| first | (apply ew_and <;> walk_at "Sew1") | (apply ew_or <;> walk_at "Sew1") | (apply ew_and1; walk_at "Sev") | (apply ew_or1; walk_at "Sev"))
local macro_rules | `(tactic| walk_at "Sew1") => `(tactic| first | walk_at "dt" | (show Et _ _ _ _ _ _; walk_at "Sev") | (intro _; walk_at "Sew"))
local macro_rules | `(tactic| walk_at "Sec") => `(tactic| first | (apply ed_not <;> walk_at "Se1") | (apply ed_and <;> walk_at "Se1") | (apply ed_or <;> walk_at "Se1") | (apply ed_one <;> walk_at "Se1") | (apply ed_cmp <;> walk_at "Se1") | (apply ed_chain <;> walk_at "Se1"))
local macro_rules | `(tactic| walk_at "Seb") => `(tactic| first | (apply ed_lenT <;> walk_at "Se1") | (apply ed_lenL <;> walk_at "Se1") | (apply ed_call <;> walk_at "Se1") | (apply ed_isInt <;> walk_at "Se1") | (apply ed_isBool <;> walk_at "Se1") | (apply ed_isTuple <;> walk_at "Se1") | (apply ed_isList <;> walk_at "Se1") | (apply ed_isStr <;> walk_at "Se1") | (apply ed_isTL <;> walk_at "Se1") | (apply ed_listOf <;> walk_at "Se1") | (apply ed_tupleOf <;> walk_at "Se1") | (apply ed_min2 <;> walk_at "Se1") | (apply ed_int1 <;> walk_at "Se1"))
local macro_rules | `(tactic| walk_at "Sei") => `(tactic| first | (apply ed_ixT <;> walk_at "Se1") | (apply ed_ixL <;> walk_at "Se1"))
local macro_rules | `(tactic| walk_at "Sex") => `(tactic| first | exact ed_int | exact ed_bl | exact ed_non | exact ed_nm rfl (by walk_at "da") | (apply ed_add <;> walk_at "Se1") | (apply ed_sub <;> walk_at "Se1") | (apply ed_neg <;> walk_at "Se1") | walk_at "Sei" | (apply ed_tup <;> walk_at "Se1") | (apply ed_lst <;> walk_at "Se1") | (apply ed_mod <;> walk_at "Se1") | (apply ed_ifI <;> walk_at "Se1") | (apply ed_if2 <;> walk_at "Se1") | (apply ed_slT <;> walk_at "Se1") | (apply ed_slL <;> walk_at "Se1") | (apply ed_catT <;> walk_at "Se1"))
local macro_rules | `(tactic| walk_at "Sev") => `(tactic| first | (show Ed _ _ _ _ _ _; first | walk_at "Sex" | walk_at "Seb" | walk_at "Sec") | (show Et _ _ _ _ _ _; walk_at "Set") | (show Cm _ _ _ _ _ _ _ _; walk_at "Scm") | (show Ea _ _ _ _ _ _; first | exact ea_nil | (apply ea_cons <;> walk_at "Se1")) | (show Eo _ _ _ _ _ _; first | exact eo_none | (apply eo_some; walk_at "Sev")) | (show Er _ _ _ _ _ _; exact er_nm rfl) | (show Ew _ _ _ _ _ _; walk_at "Sew") | (intro _; walk_at "Sev"))
local macro_rules | `(tactic| walk_at "e1") => `(tactic| first | walk_at "dt" | walk_at "ev" | walk_at "au" | (apply Side.mk; first | walk_at "au" | skip))
local macro_rules | `(tactic| walk_at "cm") => `(tactic| first | (apply cm_lt <;> walk_at "e1") | (apply cm_le <;> walk_at "e1") | (apply cm_gt <;> walk_at "e1") | (apply cm_ge <;> walk_at "e1") | (apply cm_eq <;> walk_at "e1") | (apply cm_ne <;> walk_at "e1") | (apply cm_inL <;> walk_at "e1") | (apply cm_inT <;> walk_at "e1") | (apply cm_niL <;> walk_at "e1") | (apply cm_niT <;> walk_at "e1") | (apply cm_is <;> walk_at "e1") | (apply cm_isnot <;> walk_at "e1"))
local macro_rules | `(tactic| walk_at "et") => `(tactic| first | (apply et_cmp <;> walk_at "e1") | (apply et_not <;> walk_at "e1") | (apply et_w; walk_at "ew") | (apply et_chain <;> walk_at "e1") | (apply et_val <;> walk_at "e1"))
local macro_rules | `(tactic| walk_at "ew") => `(tactic| first | (apply ew_and <;> walk_at "ew1") | (apply ew_or <;> walk_at "ew1") | (apply ew_and1; walk_at "ev") | (apply ew_or1; walk_at "ev"))
local macro_rules | `(tactic| walk_at "ew1") => `(tactic| first | walk_at "dt" | (show Et _ _ _ _ _ _; walk_at "ev") | (intro _; walk_at "ew"))
local macro_rules | `(tactic| walk_at "ec") => `(tactic| first | (apply ed_not <;> walk_at "e1") | (apply ed_and <;> walk_at "e1") | (apply ed_or <;> walk_at "e1") | (apply ed_one <;> walk_at "e1") | (apply ed_cmp <;> walk_at "e1") | (apply ed_chain <;> walk_at "e1"))
local macro_rules | `(tactic| walk_at "eb") => `(tactic| first | walk_at "Seb" | (apply ed_lenT <;> walk_at "e1") | (apply ed_lenL <;> walk_at "e1") | (apply ed_call <;> walk_at "e1") | (apply ed_isInt <;> walk_at "e1") | (apply ed_isBool <;> walk_at "e1") | (apply ed_isTuple <;> walk_at "e1") | (apply ed_isList <;> walk_at "e1") | (apply ed_isStr <;> walk_at "e1") | (apply ed_isTL <;> walk_at "e1") | (apply ed_listOf <;> walk_at "e1") | (apply ed_tupleOf <;> walk_at "e1") | (apply ed_min2 <;> walk_at "e1") | (apply ed_int1 <;> walk_at "e1"))
local macro_rules | `(tactic| walk_at "ei") => `(tactic| first | walk_at "Sei" | (apply ed_ixT <;> walk_at "e1") | (apply ed_ixL <;> walk_at "e1"))
local macro_rules | `(tactic| walk_at "ex") => `(tactic| first | exact ed_int | exact ed_bl | exact ed_non | exact ed_nm rfl (by walk_at "da") | (apply ed_add <;> walk_at "e1") | (apply ed_sub <;> walk_at "e1") | (apply ed_neg <;> walk_at "e1") | walk_at "ei" | (apply ed_tup <;> walk_at "e1") | (apply ed_lst <;> walk_at "e1") | (apply ed_mod <;> walk_at "e1") | (apply ed_ifI <;> walk_at "e1") | (apply ed_if2 <;> walk_at "e1") | (apply ed_slT <;> walk_at "e1") | (apply ed_slL <;> walk_at "e1") | (apply ed_catT <;> walk_at "e1"))
local macro_rules | `(tactic| walk_at "ev") => `(tactic| first | (show Ed _ _ _ _ _ _; first | walk_at "ex" | walk_at "eb" | walk_at "ec") | (show Et _ _ _ _ _ _; walk_at "et") | (show Cm _ _ _ _ _ _ _ _; walk_at "cm") | (show Ea _ _ _ _ _ _; first | exact ea_nil | (apply ea_cons <;> walk_at "e1")) | (show Eo _ _ _ _ _ _; first | exact eo_none | (apply eo_some; walk_at "ev")) | (show Er _ _ _ _ _ _; exact er_nm rfl) | (show Ew _ _ _ _ _ _; walk_at "ew") | (intro _; walk_at "ev"))
section
variable {X : Cx} {σ : St} {p sc : Addr} {ns : List Int} {G H : Hp} {elt tg iter t : Expr} {scope : Scope} {own : List (Str × Nat)} {pos : Pos} {ds : List PyData} {S : Nat → PyData → St → Hp → St → Prop}
def RI (X : Cx) (tg iter : Expr) : TI := fun σ H R => ∀ pins s, Inv X pins σ H s → wpAny (model X.prog X.w) X.A (eval iter X.env) (fun v s1 => wpAny (model X.prog X.w) X.A (pyIter v) (PIE X pins σ tg R) X.xe s1) X.xe s
theorem pi_self : PI X tg iter (RI X tg iter) := ⟨fun pins s _ _ _ I h => h pins s I⟩
theorem Es.ri (h : Es X σ G H tg iter ds) : ∀ G1 H1, Grow G H G1 H1 → ∀ R : It → Hp → Prop, (∀ J G2 H2, Grow G1 H1 G2 H2 → Wk J ds G2 → R J H2) → RI X tg iter σ H1 R := fun G1 H1 g R q => by
  obtain ⟨wi, hi, hs⟩ := h.run
  exact fun pins s I => hi.run pins s σ H1 R I (hs G1 H1 g R q)
theorem lcx {tt : TT} (T : Bool → Prop) (Dd : Nat → PyData → Prop) (Acc : Nat → List PyData → Prop) (hs : ∀ G1 H1, Gx p G H G1 H1 → RowOk X.K H1 p sc ns → Es X σ G1 H1 tg iter ds)
    (hg : ∀ s0 H0 C cl fp (i : Nat) d, ds[i]? = some d → Bd (Blk X scope s0 H0 C cl fp) tg d (S i d))
    (hw : ∀ (i : Nat) d G' σ2, S i d (wipe σ (own.map (·.2))) G' σ2 → wipe σ2 (own.map (·.2)) = wipe σ (own.map (·.2)))
    (ht : ∀ (i : Nat) d σ2 G' H', Gx p G H G' H' → RowOk X.K H' p sc ns → ds[i]? = some d → S i d (wipe σ (own.map (·.2))) G' σ2 → ∀ Q : Bool → Hp → Prop, (∀ b G2 H2, T b → Gx p G' H' G2 H2 → RowOk X.K H2 p sc ns → Q b H2) → tt σ2 H' Q)
    (he : ∀ s0 H0 C cl fp (i : Nat) d σ2 G' H', Gx p G H G' H' → RowOk X.K H' p sc ns → ds[i]? = some d → S i d (wipe σ (own.map (·.2))) G' σ2 → Ek (Blk X scope s0 H0 C cl fp) σ2 p sc ns G' H' elt (Dd i)) (hz : ds.length ≤ 1000000)
    (a0 : Acc 0 []) (aS : T false → ∀ i l, i < ds.length → Acc i l → Acc (i + 1) l) (aA : T true → ∀ i l d, i < ds.length → Acc i l → Dd i d → Acc (i + 1) (l ++ [d]))
    (smono : ∀ i d σ1 G1 G2 σ2, Same G1 G2 → S i d σ1 G1 σ2 → S i d σ1 G2 σ2) :
    ∀ G1 H1, Gx p G H G1 H1 → RowOk X.K H1 p sc ns → ∀ Q : VK, (∀ q xs l G2 H2, Gx p G1 H1 G2 H2 → RowOk X.K H2 p sc ns → H1 q = none → G2 q = none → H2 q = some (.lst xs) → DaAll G2 xs l → Acc ds.length l → Q (.ref q) H2) →
      tLc (RI X tg iter) (fun x σ H Q => ∀ s0 H0 C cl fp, RG (Blk X scope s0 H0 C cl fp) tg x σ H Q) tt (fun σ H Q => ∀ s0 H0 C cl fp, RE (Blk X scope s0 H0 C cl fp) elt σ H Q) (own.map (·.2)) σ H1 Q := by
  intro G1 H1 g1 r1 Q q
  refine (hs G1 H1 g1 r1).ri G1 H1 (.refl g1.i) _ fun J G2 H2 g2 wk D hD => ?_
  have x2 := r1.gx g2 g1.p
  have r2 := r1.grow g2
  have hDp : D ≠ p := fun e => r2.at' (e ▸ hD)
  refine ⟨fun i m H' => m = ds.length - i ∧ i ≤ ds.length ∧ ∃ G' acc l, Gx p G2 H2 G' H' ∧ RowOk X.K H' p sc ns ∧ G' D = none ∧ H' D = some (.lst acc) ∧ DaAll G' acc l ∧ l.length ≤ i ∧ Acc i l,
    ⟨ds.length, by simp, Nat.zero_le _, G2, [], [], Gx.mk (.refl _) (fun a w _ e => same_new hD a w e) (g2.i.trans (same_new hD)) (fun _ _ _ h _ _ => h) x2.p, r2.upd hD, g2.i.free hD, upd_same, .nil, Nat.le_refl _, a0⟩, ?_⟩
  rintro i m H' ⟨rfl, hi, G', acc, l, g3, r3, hGD, hHD, hacc, hll, hA⟩
  by_cases hlt : i < ds.length
  · have hd : ds[i]? = some ds[i] := List.getElem?_eq_getElem hlt
    refine .inr ⟨wk.go i G' H' hlt g3.g g3.i, _, fun H4 h4 => ⟨ds.length - (i + 1), by omega, h4⟩, fun x H'' y => ?_⟩
    obtain ⟨G'', g4, hx⟩ := wk.yld i G' H' x H'' hlt g3.g g3.i y
    intro s0 H0 C cl fp
    refine (hg s0 H0 C cl fp i _ hd).run x _ G'' H'' _ (hx _ hd) g4.i fun σ2 hS => ⟨hw i _ G'' σ2 hS, ?_⟩
    have x4 := r3.gx g4 g3.p
    have r4 := r3.grow g4
    have gg := g1.trans (x2.trans (g3.trans x4))
    have hGD2 : G'' D = none := g4.n D _ hGD hHD nofun
    have hHD2 := g4.h D _ hHD
    refine ht i _ σ2 G'' H'' gg r4 hd hS _ fun b G5 H5 tb g5 r5 => ?_
    have hGD3 : G5 D = none := g5.n D _ hDp hGD2 hHD2 nofun
    have hHD3 := g5.h D _ hDp hHD2
    cases b with
    | false => exact iteF ⟨rfl, hlt, G5, acc, l, g3.trans (x4.trans g5), r5, hGD3, hHD3, hacc.mono (g4.g.trans g5.g), by omega, aS tb i l hlt hA⟩
    | true =>
      refine iteT fun s0 H0 C cl fp => ?_
      refine ((he s0 H0 C cl fp i _ σ2 G5 H5 (gg.trans g5) r5 hd (smono i _ _ _ _ _ g5.g hS)).run G5 H5 (.refl g5.i g5.p) r5 _ fun w d G6 H6 dd dw g6 r6 => ?_)
      have hGD4 : G6 D = none := g6.n D _ hDp hGD3 hHD3 nofun
      have hHD4 := g6.h D _ hDp hHD3
      have hl : acc.length ≤ i := by rw [hacc.len]; exact hll
      have g7 := g3.trans (x4.trans (g5.trans g6))
      refine ⟨acc, hHD4, Nat.lt_of_le_of_lt (show acc.length ≤ 1000000 by omega) (by decide), rfl, hlt, G6, _, l ++ [d], ⟨g7.g, fun a o na ha => ?_, same_mut g6.i hGD4, g7.n, g7.p⟩, ?_, hGD4, upd_same, (hacc.mono (g4.g.trans (g5.g.trans g6.g))).snoc dw, by rw [List.length_append]; simp; omega, aA tb i l d hlt hA dd⟩
      · have hne : a ≠ D := ne_of_none ha hD
        rw [upd_ne hne]
        exact g7.h a o na ha
      · exact r2.set hD r6 (fun ne a ha => g7.h _ _ ne ha) hDp
  · have e : i = ds.length := by omega
    subst e
    exact .inl ⟨wk.stop G' H' g3.g g3.i, q D acc l G' H' (x2.trans g3) r3 (g2.none_h hD) hGD hHD hacc hA⟩
theorem fix_x {q : Addr} {xs : List V} {G1 H1 G2 H2 : Hp} (g : Gx p G1 H1 G2 H2) (h1 : H1 q = none) (h2 : G2 q = none) (h3 : H2 q = some (.lst xs)) (hp : H1 p ≠ none) : Gx p G1 H1 (upd G2 q (.lst xs)) H2 := by
  have ne : q ≠ p := fun e => hp (e ▸ h1)
  refine ⟨g.g.trans (same_new h2), g.h, same_fix g.i h3, fun a o na k1 k2 k3 => ?_, by rw [upd_ne (Ne.symm ne)]; exact g.p⟩
  rw [upd_ne (ne_of_none k2 h1)]
  exact g.n a o na k1 k2 k3
/-- [elt for tg in iter if t] -/
theorem ek_lc1 (Dd : Nat → PyData → Prop) (Acc : Nat → List PyData → Prop) (hN : X.N.Nodup) (hs : ∀ G1 H1, Gx p G H G1 H1 → RowOk X.K H1 p sc ns → Es X σ G1 H1 tg iter ds) (ok : BlkOk X.N X.env.scope scope own)
    (hg : ∀ s0 H0 C cl fp (i : Nat) d, ds[i]? = some d → Bd (Blk X scope s0 H0 C cl fp) tg d (S i d))
    (hw : ∀ (i : Nat) d G' σ2, S i d (wipe σ (own.map (·.2))) G' σ2 → wipe σ2 (own.map (·.2)) = wipe σ (own.map (·.2)))
    (ht : ∀ s0 H0 C cl fp (i : Nat) d σ2 G' H', Gx p G H G' H' → RowOk X.K H' p sc ns → ds[i]? = some d → S i d (wipe σ (own.map (·.2))) G' σ2 → Etk (Blk X scope s0 H0 C cl fp) σ2 p sc ns G' H' t)
    (he : ∀ s0 H0 C cl fp (i : Nat) d σ2 G' H', Gx p G H G' H' → RowOk X.K H' p sc ns → ds[i]? = some d → S i d (wipe σ (own.map (·.2))) G' σ2 → Ek (Blk X scope s0 H0 C cl fp) σ2 p sc ns G' H' elt (Dd i)) (hz : ds.length ≤ 1000000)
    (a0 : Acc 0 []) (aS : ∀ i l, i < ds.length → Acc i l → Acc (i + 1) l) (aA : ∀ i l d, i < ds.length → Acc i l → Dd i d → Acc (i + 1) (l ++ [d]))
    (smono : ∀ i d σ1 G1 G2 σ2, Same G1 G2 → S i d σ1 G1 σ2 → S i d σ1 G2 σ2)
    (hc : X.calm = true := by rfl) (hfs : ∀ x, foldedSetIterable iter X.env x = pure x := by intro _; rfl) : Ek X σ p sc ns G H (.ListComp elt [⟨tg, iter, [t], 0⟩] scope pos) (anyL (Acc ds.length)) :=
  ⟨fun G1 H1 g r Q q => re_of (pe_lc hc hN pi_self ok (fun s0 H0 C cl fp => ⟨fun pins s σ H v u Q I r h => h s0 H0 C cl fp pins s u I r⟩)
    (fun s0 H0 C cl fp => pts_one (t := fun σ H Q => ∀ s0 H0 C cl fp, RT (Blk X scope s0 H0 C cl fp) t σ H Q) ⟨fun pins s σ H Q I h => h s0 H0 C cl fp pins s I⟩)
    (fun s0 H0 C cl fp => ⟨fun pins s σ H Q I h => h s0 H0 C cl fp pins s I⟩) hfs)
    (lcx (fun _ => True) Dd Acc hs hg hw (fun i d σ2 G' H' g' r' hd hS Q k s0 H0 C cl fp => (ht s0 H0 C cl fp i d σ2 G' H' g' r' hd hS).run G' H' (.refl g'.i g'.p) r' Q fun b G2 H2 => k b G2 H2 trivial) he hz a0 (fun _ => aS) (fun _ => aA) smono G1 H1 g r Q
      fun t xs l G2 H2 g2 r2 h1 h2 h3 dx ha => q _ (.list l) _ H2 ⟨l, ha, rfl⟩ (DaAll.lst upd_same (dx.mono (same_new h2))) (fix_x g2 h1 h2 h3 r.at') r2)⟩
/-- [elt for tg in iter] -/
theorem ek_lc0 (Dd : Nat → PyData → Prop) (Acc : Nat → List PyData → Prop) (hN : X.N.Nodup) (hs : ∀ G1 H1, Gx p G H G1 H1 → RowOk X.K H1 p sc ns → Es X σ G1 H1 tg iter ds) (ok : BlkOk X.N X.env.scope scope own)
    (hg : ∀ s0 H0 C cl fp (i : Nat) d, ds[i]? = some d → Bd (Blk X scope s0 H0 C cl fp) tg d (S i d))
    (hw : ∀ (i : Nat) d G' σ2, S i d (wipe σ (own.map (·.2))) G' σ2 → wipe σ2 (own.map (·.2)) = wipe σ (own.map (·.2)))
    (he : ∀ s0 H0 C cl fp (i : Nat) d σ2 G' H', Gx p G H G' H' → RowOk X.K H' p sc ns → ds[i]? = some d → S i d (wipe σ (own.map (·.2))) G' σ2 → Ek (Blk X scope s0 H0 C cl fp) σ2 p sc ns G' H' elt (Dd i)) (hz : ds.length ≤ 1000000)
    (a0 : Acc 0 []) (aA : ∀ i l d, i < ds.length → Acc i l → Dd i d → Acc (i + 1) (l ++ [d]))
    (smono : ∀ i d σ1 G1 G2 σ2, Same G1 G2 → S i d σ1 G1 σ2 → S i d σ1 G2 σ2)
    (hc : X.calm = true := by rfl) (hfs : ∀ x, foldedSetIterable iter X.env x = pure x := by intro _; rfl) : Ek X σ p sc ns G H (.ListComp elt [⟨tg, iter, [], 0⟩] scope pos) (anyL (Acc ds.length)) :=
  ⟨fun G1 H1 g r Q q => re_of (pe_lc hc hN pi_self ok (fun s0 H0 C cl fp => ⟨fun pins s σ H v u Q I r h => h s0 H0 C cl fp pins s u I r⟩) (fun s0 H0 C cl fp => pts_nil)
    (fun s0 H0 C cl fp => ⟨fun pins s σ H Q I h => h s0 H0 C cl fp pins s I⟩) hfs)
    (lcx (fun b => b = true) Dd Acc hs hg hw (fun i d σ2 G' H' g' r' hd hS Q k => k true G' H' rfl (.refl g'.i g'.p) r') he hz a0 (fun e => nomatch e) (fun _ => aA) smono G1 H1 g r Q
      fun t xs l G2 H2 g2 r2 h1 h2 h3 dx ha => q _ (.list l) _ H2 ⟨l, ha, rfl⟩ (DaAll.lst upd_same (dx.mono (same_new h2))) (fix_x g2 h1 h2 h3 r.at') r2)⟩
end
theorem Sn.mono {k : Nat} {d : PyData} {σ1 σ2 : St} {G1 G2 : Hp} (e : Same G1 G2) (h : Sn k d σ1 G1 σ2) : Sn k d σ1 G2 σ2 := let ⟨v, h1, h2⟩ := h; ⟨v, h1, h2.mono e⟩
end Fk
end
section
set_option Elab.async false
set_option linter.all false
set_option maxRecDepth 100000
set_option maxHeartbeats 4000000
/-! E4: a pick, a line that is drawn. -/
namespace Fk
open PySem PySem.Spec L2
open PyProof.Rows hiding St
local macro_rules | `(tactic| walk_at "gr") => `(tactic| first | assumption | exact Same.refl _ | (refine Same.trans ?_ (Grow.g (by assumption)); walk_at "gr"))
local macro_rules | `(tactic| walk_at "da") => `(tactic| first | assumption | exact Da.int _ | exact Da.bl _ | exact Da.non | (refine Da.mono ?_ (by assumption); walk_at "gr"))
local macro_rules | `(tactic| walk_at "dp") => `(tactic| (simp only [PyData.depth, PyData.depthAll, depthAll_dI, depthAll_dN, Nat.max_zero, Nat.zero_max, Nat.max_self, Nat.min_self, Nat.zero_min, Nat.min_zero] <;> omega))
local macro_rules | `(tactic| walk_at "bt") => `(tactic| first | exact Bt.isi (by assumption) | exact Bt.int (by assumption) | exact Bt.bool (by assumption) | exact Bt.tuple (by assumption) | exact Bt.len (by assumption) | exact Bt.list (by assumption) | exact Bt.set (by assumption) | exact Bt.sorted (by assumption) | exact Bt.range (by assumption) | exact Bt.enum (by assumption) | exact Bt.zip (by assumption) | exact Bt.min (by assumption) | exact Bt.max (by assumption) | exact Bt.sum (by assumption) | exact Bt.dict (by assumption) | exact Bt.str (by assumption))
local macro_rules | `(tactic| walk_at "au") => `(tactic| first | (apply prop_id; assumption) | (show PySem.W.keepIn _ _ = true; assumption) | (show (_ : Option Value) = none; walk_at "bt") | rfl | (show min _ _ ≤ 64; first | decide | walk_at "dp") | (show _ ≤ sizeLine; first | assumption | (simp only [List.length_cons, List.length_nil]; decide)) | (show (_ : Nat) ≤ _; decide) | (show (_ == _) = false; decide) | (show _ ≠ _; decide) | (show behindInMarks _ _ = false; first | exact nomark _ | with_unfolding_all rfl) | (show lastMarks _ _ = false; with_unfolding_all rfl) | (show OpR _ _ _; first | exact op_le | exact op_lt | exact opI_eq | exact opI_ne) | exact (fun _ _ => rfl) | (show ∀ _, _ = _; intro _; rfl) | exact Or.inl rfl | exact Or.inr rfl)
local macro_rules | `(tactic| walk_at "dt") => `(tactic| first | show Bool | show Int | show PyData | show List PyData | show List Int | show Nat | show Option Int | show V)
local macro_rules | `(tactic| walk_at "Se1") => `(tactic| first | walk_at "dt" | walk_at "Sev" | walk_at "au" | (apply Side.mk; walk_at "au"))
local macro_rules | `(tactic| walk_at "Scm") => `(tactic| first | (apply cm_lt <;> walk_at "Se1") | (apply cm_le <;> walk_at "Se1") | (apply cm_gt <;> walk_at "Se1") | (apply cm_ge <;> walk_at "Se1") | (apply cm_eq <;> walk_at "Se1") | (apply cm_ne <;> walk_at "Se1") | (apply cm_inL <;> walk_at "Se1") | (apply cm_inT <;> walk_at "Se1") | (apply cm_niL <;> walk_at "Se1") | (apply cm_niT <;> walk_at "Se1") | (apply cm_is <;> walk_at "Se1") | (apply cm_isnot <;> walk_at "Se1"))
local macro_rules | `(tactic| walk_at "Set") => `(tactic| first | (apply et_cmp <;> walk_at "Se1") | (apply et_not <;> walk_at "Se1") | (apply et_w; walk_at "Sew") | (apply et_chain <;> walk_at "Se1") | (apply et_val <;> walk_at "Se1"))
local macro_rules | `(tactic| walk_at "Sew") => `(tactic| first | (apply ew_and <;> walk_at "Sew1") | (apply ew_or <;> walk_at "Sew1") | (apply ew_and1; walk_at "Sev") | (apply ew_or1; walk_at "Sev"))
local macro_rules | `(tactic| walk_at "Sew1") => `(tactic| first | walk_at "dt" | (show Et _ _ _ _ _ _; walk_at "Sev") | (intro _; walk_at "Sew"))
local macro_rules | `(tactic| walk_at "Sec") => `(tactic| first | (apply ed_not <;> walk_at "Se1") | (apply ed_and <;> walk_at "Se1") | (apply ed_or <;> walk_at "Se1") | (apply ed_one <;> walk_at "Se1") | (apply ed_cmp <;> walk_at "Se1") | (apply ed_chain <;> walk_at "Se1"))
local macro_rules | `(tactic| walk_at "Seb") => `(tactic| first | (apply ed_lenT <;> walk_at "Se1") | (apply ed_lenL <;> walk_at "Se1") | (apply ed_call <;> walk_at "Se1") | (apply ed_isInt <;> walk_at "Se1") | (apply ed_isBool <;> walk_at "Se1") | (apply ed_isTuple <;> walk_at "Se1") | (apply ed_isList <;> walk_at "Se1") | (apply ed_isStr <;> walk_at "Se1") | (apply ed_isTL <;> walk_at "Se1") | (apply ed_listOf <;> walk_at "Se1") | (apply ed_tupleOf <;> walk_at "Se1") | (apply ed_min2 <;> walk_at "Se1") | (apply ed_int1 <;> walk_at "Se1"))
local macro_rules | `(tactic| walk_at "Sei") => `(tactic| first | (apply ed_ixT <;> walk_at "Se1") | (apply ed_ixL <;> walk_at "Se1"))
local macro_rules | `(tactic| walk_at "Sex") => `(tactic| first | exact ed_int | exact ed_bl | exact ed_non | exact ed_nm rfl (by walk_at "da") | (apply ed_add <;> walk_at "Se1") | (apply ed_sub <;> walk_at "Se1") | (apply ed_neg <;> walk_at "Se1") | walk_at "Sei" | (apply ed_tup <;> walk_at "Se1") | (apply ed_lst <;> walk_at "Se1") | (apply ed_mod <;> walk_at "Se1") | (apply ed_ifI <;> walk_at "Se1") | (apply ed_if2 <;> walk_at "Se1") | (apply ed_slT <;> walk_at "Se1") | (apply ed_slL <;> walk_at "Se1") | (apply ed_catT <;> walk_at "Se1"))
local macro_rules | `(tactic| walk_at "Sev") => `(tactic| first | (show Ed _ _ _ _ _ _; first | walk_at "Sex" | walk_at "Seb" | walk_at "Sec") | (show Et _ _ _ _ _ _; walk_at "Set") | (show Cm _ _ _ _ _ _ _ _; walk_at "Scm") | (show Ea _ _ _ _ _ _; first | exact ea_nil | (apply ea_cons <;> walk_at "Se1")) | (show Eo _ _ _ _ _ _; first | exact eo_none | (apply eo_some; walk_at "Sev")) | (show Er _ _ _ _ _ _; exact er_nm rfl) | (show Ew _ _ _ _ _ _; walk_at "Sew") | (intro _; walk_at "Sev"))
local macro_rules | `(tactic| walk_at "e1") => `(tactic| first | walk_at "dt" | walk_at "ev" | walk_at "au" | (apply Side.mk; first | walk_at "au" | skip))
local macro_rules | `(tactic| walk_at "cm") => `(tactic| first | (apply cm_lt <;> walk_at "e1") | (apply cm_le <;> walk_at "e1") | (apply cm_gt <;> walk_at "e1") | (apply cm_ge <;> walk_at "e1") | (apply cm_eq <;> walk_at "e1") | (apply cm_ne <;> walk_at "e1") | (apply cm_inL <;> walk_at "e1") | (apply cm_inT <;> walk_at "e1") | (apply cm_niL <;> walk_at "e1") | (apply cm_niT <;> walk_at "e1") | (apply cm_is <;> walk_at "e1") | (apply cm_isnot <;> walk_at "e1"))
local macro_rules | `(tactic| walk_at "et") => `(tactic| first | (apply et_cmp <;> walk_at "e1") | (apply et_not <;> walk_at "e1") | (apply et_w; walk_at "ew") | (apply et_chain <;> walk_at "e1") | (apply et_val <;> walk_at "e1"))
local macro_rules | `(tactic| walk_at "ew") => `(tactic| first | (apply ew_and <;> walk_at "ew1") | (apply ew_or <;> walk_at "ew1") | (apply ew_and1; walk_at "ev") | (apply ew_or1; walk_at "ev"))
local macro_rules | `(tactic| walk_at "ew1") => `(tactic| first | walk_at "dt" | (show Et _ _ _ _ _ _; walk_at "ev") | (intro _; walk_at "ew"))
local macro_rules | `(tactic| walk_at "ec") => `(tactic| first | (apply ed_not <;> walk_at "e1") | (apply ed_and <;> walk_at "e1") | (apply ed_or <;> walk_at "e1") | (apply ed_one <;> walk_at "e1") | (apply ed_cmp <;> walk_at "e1") | (apply ed_chain <;> walk_at "e1"))
local macro_rules | `(tactic| walk_at "eb") => `(tactic| first | walk_at "Seb" | (apply ed_lenT <;> walk_at "e1") | (apply ed_lenL <;> walk_at "e1") | (apply ed_call <;> walk_at "e1") | (apply ed_isInt <;> walk_at "e1") | (apply ed_isBool <;> walk_at "e1") | (apply ed_isTuple <;> walk_at "e1") | (apply ed_isList <;> walk_at "e1") | (apply ed_isStr <;> walk_at "e1") | (apply ed_isTL <;> walk_at "e1") | (apply ed_listOf <;> walk_at "e1") | (apply ed_tupleOf <;> walk_at "e1") | (apply ed_min2 <;> walk_at "e1") | (apply ed_int1 <;> walk_at "e1"))
local macro_rules | `(tactic| walk_at "ei") => `(tactic| first | walk_at "Sei" | (apply ed_ixT <;> walk_at "e1") | (apply ed_ixL <;> walk_at "e1"))
local macro_rules | `(tactic| walk_at "ex") => `(tactic| first | exact ed_int | exact ed_bl | exact ed_non | exact ed_nm rfl (by walk_at "da") | (apply ed_add <;> walk_at "e1") | (apply ed_sub <;> walk_at "e1") | (apply ed_neg <;> walk_at "e1") | walk_at "ei" | (apply ed_tup <;> walk_at "e1") | (apply ed_lst <;> walk_at "e1") | (apply ed_mod <;> walk_at "e1") | (apply ed_ifI <;> walk_at "e1") | (apply ed_if2 <;> walk_at "e1") | (apply ed_slT <;> walk_at "e1") | (apply ed_slL <;> walk_at "e1") | (apply ed_catT <;> walk_at "e1"))
local macro_rules | `(tactic| walk_at "ev") => `(tactic| first | (show Ed _ _ _ _ _ _; first | walk_at "ex" | walk_at "eb" | walk_at "ec") | (show Et _ _ _ _ _ _; walk_at "et") | (show Cm _ _ _ _ _ _ _ _; walk_at "cm") | (show Ea _ _ _ _ _ _; first | exact ea_nil | (apply ea_cons <;> walk_at "e1")) | (show Eo _ _ _ _ _ _; first | exact eo_none | (apply eo_some; walk_at "ev")) | (show Er _ _ _ _ _ _; exact er_nm rfl) | (show Ew _ _ _ _ _ _; walk_at "ew") | (intro _; walk_at "ev"))
section
variable {X : Cx} {σ : St} {p sc : Addr} {ns : List Int} {G H : Hp} {e a b o : Expr} {pos : Pos} {A : Int → Prop} {D : PyData → Prop} {DD : Ends} {x y : Str} {i j : Nat}
theorem ek_ixL {ts : List Int} (ha : ∀ G1 H1, Gx p G H G1 H1 → RowOk X.K H1 p sc ns → Ed X σ G1 H1 a (.list (dI ts))) (hb : Ek X σ p sc ns G H b (nums A)) (h : ∀ i, A i → ∃ n ∈ ts, atI (dI ts) i = some (.int n)) (hs : PlainIx b := by exact fun _ _ => rfl) : Ek X σ p sc ns G H (.Subscript a b pos) (nums (· ∈ ts)) :=
  ⟨fun G1 H1 g r Q q => re_of (pe_ix ix_list pe_self pe_self hs) ((ha G1 H1 g r).run G1 H1 (.refl g.i) _ fun x G2 H2 g2 dx => hb.run G2 H2 (g.trans (r.gx g2 g.p)) (r.grow g2) _ fun y d G3 H3 ⟨i, hi, e⟩ dy g3 r3 => by
    subst e
    obtain ⟨n, hn, hat⟩ := h i hi
    obtain ⟨l, xs, rfl, hl, hx⟩ := (dx.mono g3.g).inv_lst
    obtain ⟨v, hv, dv⟩ := hx.atI hat
    exact ⟨l, xs, i, v, rfl, dy.inv_int, .of (g3.i _ _ hl), hv, q v (.int n) G3 H3 ⟨n, hn, rfl⟩ dv ((r.gx g2 g.p).trans g3) r3⟩)⟩
/-- x, y = a, b, drawing -/
theorem rs_parX {px py pt : Pos} {kt k2 pt2} {P : List V → Hp → Hp → Prop} (ha : ∀ Q : List V → Hp → Prop, (∀ vs G2 H2, Gx p G H G2 H2 → RowOk X.K H2 p sc ns → P vs G2 H2 → Q vs H2) → RA X [a, b] σ H Q) (hp : ∀ vs G2 H2, P vs G2 H2 → vs.length = 2) (hN : X.N.Nodup)
    (k : ∀ v w G2 H2, Gx p G H G2 H2 → RowOk X.K H2 p sc ns → P [v, w] G2 H2 → DD.nx ((σ.set i (some v)).set j (some w)) H2)
    (hi : X.N[i]? = some x) (hj : X.N[j]? = some y) (hij : i ≠ j := by decide) (hx : X.env.scope.names.lookup x = some .local := by rfl) (hy : X.env.scope.names.lookup y = some .local := by rfl) (hc : X.calm = true := by rfl)
    (hw : swappedStores [.Tuple [.Name x px, .Name y py] kt pt] (.Tuple [a, b] k2 pt2) X.env = pure (some [x, y]) := by rfl)
    (hs : swapsWithSole [.Tuple [.Name x px, .Name y py] kt pt] (.Tuple [a, b] k2 pt2) pos.line X.env = pure false := by rfl) :
    RS X (.Assign [.Tuple [.Name x px, .Name y py] kt pt] (.Tuple [a, b] k2 pt2) pos) DD σ H :=
  rs_of (ps_par hc hN hi hj hij hx hy pa_self hw hs) (ha _ fun vs G2 H2 g r p => by
    have hl := hp vs G2 H2 p
    match vs, hl with
    | [v, w], _ => exact ⟨v, w, rfl, k v w G2 H2 g r p⟩)
/-- l.append(e), drawing -/
theorem rs_appK {l : Addr} {xs : List V} {apos pos' : Pos} (ho : ∀ G1 H1, Same G1 H1 → Er X σ G1 H1 o (.ref l)) (h : Ek X σ p sc ns G H e D) (i : Same G H) (hp : G p = none) (r : RowOk X.K H p sc ns) (hne : l ≠ p) (hl : H l = some (.lst xs)) (hz : xs.length < sizeLine)
    (k : ∀ v d G2 H2, D d → Da G2 v d → Gx p G H G2 H2 → RowOk X.K H2 p sc ns → DD.nx σ (upd H2 l (.lst (xs ++ [v]))))
    (hpe : PE X (.Call (.Attribute o "append" apos) [e] [] pos) (tBM X.K "list" rAppend (RE X o) (tCons (RE X e) tNil)) := by exact pe_bm PySem.F.plainAttrs_list PySem.F.slot_list_append PySem.F.type_list_append mt_append pe_self (pa_cons pe_self pa_nil))
    (hs2 : swapsWith (.Call (.Attribute o "append" apos) [e] [] pos) none pos'.line X.env = pure false := by rfl) :
    RS X (.Expr (.Call (.Attribute o "append" apos) [e] [] pos) pos') DD σ H :=
  rs_of (ps_expr hpe hs2) ((ho G H i).run G H (.refl i) _ fun G2 H2 g2 => ⟨.inl ⟨rfl, _, SqL.of (g2.h _ _ hl)⟩, h.run G2 H2 (r.gx g2 hp) (r.grow g2) _ fun v d G3 H3 hd dv g3 r3 => ⟨l, xs, v, rfl, rfl, g3.h _ _ hne (g2.h _ _ hl), hz, k v d G3 H3 hd dv ((r.gx g2 hp).trans g3) r3⟩⟩)
end
def F_pick : List PyData → (PyData → Prop) → Prop := fun ds D => ∃ ts : List Int, ts ≠ [] ∧ ts.length ≤ 1000 ∧ ds = [.list (dI ts)] ∧ D = nums (· ∈ ts)
def F_line : List PyData → (PyData → Prop) → Prop := fun ds D => ∃ cols : Int, 1 ≤ cols ∧ cols ≤ 10 ∧ ds = [.int 11, .int cols] ∧ D = fun d => ∃ L : Ln, L.Ok ∧ L.n ≤ 11 ∧ d = L.d
theorem cutP_dI (l : List Int) {z : Int} {k : Nat} (e : z = (k : Int)) : cutP (dI l) none (some z) = dI (l.take k) := by
  subst e
  unfold cutP
  rw [HT.sIx_none, HT.sIx_nat, List.drop_zero, Nat.sub_zero, dI_length]
  unfold dI
  rw [List.map_take]
  by_cases h : k ≤ l.length
  · rw [Nat.min_eq_left h]
  · rw [Nat.min_eq_right (by omega), List.take_of_length_le (by simp), List.take_of_length_le (by simp; omega)]
section
variable {P : Program} {w : World} {K : PySem.W.Frag} {mg : Str → Option Value} {base : Heap}
set_option maxHeartbeats 2000000 in
theorem ok_pick (D : Df K mg "_law_pick" s__law_pick) (B : Bt mg) (O1 : Own P w K mg base "_law_taken" 1 (spX K F_taken)) : Own P w K mg base "_law_pick" 2 (spX K F_pick) := by
  refine Own.mk' D sc__law_pick (fun _ _ _ _ _ _ us hl => match us, hl with | [_, _], _ => rfl) (fun vs H Q E ⟨_, _, _, _, _, _, _, _, _, _, e, h, ⟨_, _, _, e2, _⟩, _⟩ => by rw [e, List.length_cons, h.len, e2]; rfl) ?_
  rintro f cdv A outer s H vs Q E hr ⟨G, p, sc, a, b, c, ns, ws, _, _, rfl, hws, ⟨ts, hne0, hlen, rfl, rfl⟩, i0, hGp, hrow, hsc, hne, ha0, q⟩
  obtain ⟨x1, rfl, hx1⟩ := hws.inv1
  have r0 : RowOk K H p sc ns := ⟨hne, hsc, a, b, c, ha0, hrow⟩
  have hpos : 0 < ts.length := List.length_pos_iff.mpr hne0
  refine rb_one (rs_retK (p := p) (sc := sc) (ns := ns) (D := nums (· ∈ ts)) (ek_ixL (A := fun r => 0 ≤ r ∧ r < (ts.length : Int)) (fun G1 H1 g _ => ed_nm rfl (hx1.mono g.g)) (ek_tk O1 hr (fun G1 H1 i => er_nm (v := .ref p) rfl) (ek_of fun G1 H1 g _ => Ed.is (ed_lenL (ds := dI ts) B.len (ed_nm rfl (hx1.mono g.g))) (by rw [dI_length])) (by omega) (by omega)) (fun i ⟨h1, h2⟩ => ?_)) i0 hGp r0 ?_)
  · obtain ⟨n, hn⟩ : ∃ n, ts[i.toNat]? = some n := ⟨_, List.getElem?_eq_getElem (by omega)⟩
    exact ⟨n, List.mem_of_getElem? hn, atI_of (j := i.toNat) (by omega) (dI_get hn)⟩
  · intro v d G2 H2 hd dv g2 ⟨_, _, a', b', c', ha', row'⟩
    exact q v d a' b' c' G2 H2 hd dv ha' g2 row'
theorem nums_inv {G : Hp} {v : V} {d : PyData} {A : Int → Prop} (h : nums A d) (dv : Da G v d) : ∃ i, A i ∧ v = .int i := by
  obtain ⟨i, hi, rfl⟩ := h
  exact ⟨i, hi, dv.inv_int⟩
set_option maxHeartbeats 4000000 in
theorem ok_line (D : Df K mg "_law_line" s__law_line) (B : Bt mg) (O1 : Own P w K mg base "_law_taken" 1 (spX K F_taken)) (O2 : Own P w K mg base "_law_pick" 2 (spX K F_pick)) : Own P w K mg base "_law_line" 3 (spX K F_line) := by
  refine Own.mk' D sc__law_line (fun _ _ _ _ _ _ us hl => match us, hl with | [_, _, _], _ => rfl) (fun vs H Q E ⟨_, _, _, _, _, _, _, _, _, _, e, h, ⟨_, _, _, e2, _⟩, _⟩ => by rw [e, List.length_cons, h.len, e2]; rfl) ?_
  rintro f cdv A outer s H vs Q E hr ⟨G, p, sc, a, b, c, ns, ws, _, _, rfl, hws, ⟨cols, hc1, hc2, rfl, rfl⟩, i0, hGp, hrow, hsc, hne, ha0, q⟩
  obtain ⟨x1, x2, rfl, hx1, hx2⟩ := hws.inv2
  cases hx1.inv_int
  cases hx2.inv_int
  have r0 : RowOk K H p sc ns := ⟨hne, hsc, a, b, c, ha0, hrow⟩
  -- is_ring
  refine rb_cons (rs_setK (p := p) (sc := sc) (ns := ns) (D := anyB) (ek_cmp opI_eq (ek_tk (n := 2) O1 hr (fun G1 H1 i => er_nm (v := .ref p) rfl) (ek_of fun G1 H1 g _ => ed_int) (by decide) (by decide)) (ek_ofI (i := 0) fun G1 H1 g _ => ed_int) hEq) i0 hGp r0 sc__law_line.nd ?_)
  rintro v1 _ G1 H1 ⟨ring, rfl⟩ hv1 g1 r1
  cases hv1.inv_bl
  -- many
  refine rb_cons (rs_setK (p := p) (sc := sc) (ns := ns) (D := nums fun m => 1 ≤ m ∧ m ≤ 11 ∧ (ring = true → 3 ≤ m)) (ek_if (k := ring) (fun G2 H2 g r => ?_) (fun e => ?_) (fun e => ?_)) g1.i g1.p r1 sc__law_line.nd ?_)
  · exact et_val (ed_nm rfl (Da.bl ring))
  · refine (ek_add (ek_ofI (i := 3) fun G2 H2 g _ => ed_int) (ek_tk (n := 11 - 2) O1 hr (fun G1 H1 i => er_nm (v := .ref p) rfl) (ek_of fun G1 H1 g _ => ed_sub (ed_nm rfl (.int 11)) ed_int) (by decide) (by decide))).weak ?_
    rintro d ⟨k, ⟨i, j, rfl, ⟨h1, h2⟩, rfl⟩, rfl⟩
    exact ⟨_, ⟨by omega, by omega, fun _ => by omega⟩, rfl⟩
  · refine (ek_add (ek_ofI (i := 1) fun G2 H2 g _ => ed_int) (ek_tk (n := 11) O1 hr (fun G1 H1 i => er_nm (v := .ref p) rfl) (ek_of fun G1 H1 g _ => ed_nm rfl (.int 11)) (by decide) (by decide))).weak ?_
    rintro d ⟨k, ⟨i, j, rfl, ⟨h1, h2⟩, rfl⟩, rfl⟩
    exact ⟨_, ⟨by omega, by omega, fun z => by rw [e] at z; cases z⟩, rfl⟩
  intro v2 d2 G2 H2 hd2 hv2 g2 r2
  obtain ⟨mi, ⟨hm1, hm2, hm3⟩, rfl⟩ := nums_inv hd2 hv2
  obtain ⟨many, rfl⟩ := Int.eq_ofNat_of_zero_le (show 0 ≤ mi by omega)
  have g12 := g1.trans g2
  -- way, cells
  refine rb_cons (rs_parX (G := G2) (p := p) (sc := sc) (ns := ns) (i := 5) (j := 6) (P := fun vs G3 H3 => ∃ way t xs cs, vs = [.int way, .ref t] ∧ H2 t = none ∧ G3 t = none ∧ H3 t = some (.lst xs) ∧ DaAll G3 xs (dI cs) ∧ cs.length = 2 ∧ ∀ x ∈ cs, 0 ≤ x ∧ x < cols) ?_ (fun vs G3 H3 ⟨_, _, _, _, e, _⟩ => by rw [e]; rfl) sc__law_line.nd ?_ rfl rfl)
  · intro Q' q'
    refine ra_of (pa_cons pe_self (pa_cons pe_self pa_nil rfl) rfl) ((ek_tk (n := 4) (G := G2) (H := H2) (sc := sc) (ns := ns) O1 hr (fun G1 H1 i => er_nm (v := .ref p) rfl) (ek_of fun G1 H1 g _ => ed_int) (by decide) (by decide)).run G2 H2 (.refl g2.i g2.p) r2 _ fun w1 d1 G3 H3 hd1 hw1 g3 r3 => ?_)
    obtain ⟨way, _, rfl⟩ := nums_inv hd1 hw1
    refine re_of (pe_lst pa_self) ((eka_cons (X := CtxOf P w K mg base N__law_line "_law_line" s__law_line f cdv A outer s H E) (G := G3) (H := H3) (p := p) (sc := sc) (ns := ns) (ek_tk (n := cols) O1 hr (fun G1 H1 i => er_nm (v := .ref p) rfl) (ek_of fun G1 H1 g _ => ed_nm rfl (.int cols)) (by omega) (by omega)) (eka_cons (ek_tk (n := cols) O1 hr (fun G1 H1 i => er_nm (v := .ref p) rfl) (ek_of fun G1 H1 g _ => ed_nm rfl (.int cols)) (by omega) (by omega)) eka_nil)).run G3 H3 (.refl g3.i g3.p) r3 _ fun vs ds G4 H4 hds dvs g4 r4 => ?_)
    obtain ⟨d1', r1', rfl, ⟨i1, hi1, rfl⟩, d2', r2', rfl, ⟨i2, hi2, rfl⟩, rfl⟩ := hds
    refine ⟨by rw [dvs.len]; show 2 ≤ sizeLine; decide, fun t ht => q' _ _ _ (g3.trans (g4.trans (Gx.mk (.refl _) (fun a w _ e => same_new ht a w e) (g4.i.trans (same_new ht)) (fun _ _ _ h _ _ => h) g4.p))) (r4.upd ht) ⟨way, t, vs, [i1, i2], rfl, ?_, g4.i.free ht, upd_same, dvs, rfl, ?_⟩⟩
    · have hne' : t ≠ p := fun e => r4.at' (e ▸ ht)
      cases h2 : H2 t with
      | none => rfl
      | some u => rw [(g3.trans g4).h t u hne' h2] at ht; cases ht
    · intro x hx
      rcases List.mem_cons.mp hx with e | hx
      · rw [e]; exact hi1
      · rw [List.mem_singleton.mp hx]; exact hi2
  rintro v3 v4 G3 H3 g3 r3 ⟨way, t, xs, cs, e, t0, tG, tH, hxs, hcl, hcb⟩
  cases e
  have g13 := g12.trans g3
  have tp : t ≠ p := fun e => r2.at' (e ▸ t0)
  have t00 : H t = none := by
    cases h2 : H t with
    | none => rfl
    | some u => rw [g12.h t u tp h2] at t0; cases t0
  have key : ∀ {Ga Ha : Hp} {o : HO}, Gx p G H Ga Ha → Ga t = none → Gx p G H Ga (upd Ha t o) := fun {Ga Ha o} g hg => ⟨g.g, fun a u na e => by rw [upd_ne (ne_of_none e t00)]; exact g.h a u na e, same_mut g.i hg, g.n, g.p⟩
  -- the loop
  have elen : (rngD 2 ((many : Int) - 2).toNat).length = many - 2 := by simp only [rngD, List.length_map, List.length_range]; omega
  refine rb_cons (rs_for (es_range2 (lo := 2) (hi := (many : Int)) B.range ed_int (ed_nm rfl (.int _)) (by omega)) g3.i (fun n d hd => bd_name (i := 7) sc__law_line.nd)
    (fun n σ' G' H' => Gx p G H G' H' ∧ RowOk K H' p sc ns ∧ (∃ a b c d, σ' = [some (.ref p), some (.int 11), some (.int cols), some (.bl ring), some (.int many), some (.int way), some (.ref t), a, b, c, d]) ∧ G' t = none ∧ ∃ xs cs, H' t = some (.lst xs) ∧ DaAll G' xs (dI cs) ∧ cs.length = n + 2 ∧ ∀ x ∈ cs, 0 ≤ x ∧ x < cols) ?_ ?_ ?_)
  · intro G4 H4 g4
    exact ⟨g13.trans (r3.gx g4 g3.p), r3.grow g4, ⟨_, _, _, _, rfl⟩, g4.n' tG tH, xs, cs, g4.h _ _ tH, hxs.mono g4.g, hcl, hcb⟩
  · rintro n d σ1 G4 H4 G5 H5 σ2 hd s1 s2 ⟨gb, rb, ⟨oa, ob, oc, od, rfl⟩, hG4, xs', cs', hH4, hxs', hl', hb'⟩ g5 ⟨u, rfl, hu⟩
    have hn := (List.getElem?_eq_some_iff.mp hd).1
    rw [elen] at hn
    have ed' : d = .int ((n + 2 : Nat) : Int) := by
      unfold rngD at hd
      rw [List.getElem?_map, List.getElem?_range (by omega)] at hd
      rw [← Option.some.inj hd, show ((n + 2 : Nat) : Int) = 2 + (n : Int) by omega]
    subst ed'
    cases hu.inv_int
    have r5 := rb.grow g5
    have x5 := gb.trans (rb.gx g5 gb.p)
    have hH5 := g5.h _ _ hH4
    have hG5 := g5.n' hG4 hH4
    refine rb_cons (rs_setK (p := p) (sc := sc) (ns := ns) (D := nums fun r => 0 ≤ r ∧ r < cols) (ek_tk (n := cols) O1 hr (fun G1 H1 i => er_nm (v := .ref p) rfl) (ek_of fun G1 H1 g _ => ed_nm rfl (.int cols)) (by omega) (by omega)) x5.i x5.p r5 sc__law_line.nd ?_)
    intro vf df G6 H6 hdf hvf g6 r6
    obtain ⟨free, hfree, rfl⟩ := nums_inv hdf hvf
    have hH6 := g6.h _ _ tp hH5
    have hG6 := g6.n t _ tp hG5 hH5 nofun
    have hx6 := (hxs'.mono g5.g).mono g6.g
    have x6 := x5.trans g6
    have an : ∃ z, atI (dI cs') (((n + 2 : Nat) : Int) - 2) = some (.int z) ∧ 0 ≤ z ∧ z < cols := by
      obtain ⟨z, hz⟩ : ∃ z, cs'[n]? = some z := ⟨_, List.getElem?_eq_getElem (by omega)⟩
      exact ⟨z, atI_of (j := n) (by omega) (dI_get hz), hb' z (List.mem_of_getElem? hz)⟩
    obtain ⟨z, az, hz⟩ := an
    have xl : xs'.length = n + 2 := by rw [hx6.len, dI_length, hl']
    refine rb_one (rs_appK (p := p) (sc := sc) (ns := ns) (l := t) (xs := xs') (D := nums fun r => 0 ≤ r ∧ r < cols) (fun G1 H1 i => er_nm rfl) (ek_ifT ?_ ?_ ?_) x6.i x6.p r6 tp hH6 (by rw [xl]; exact small40 (by omega)) ?_)
    · refine etk_w (ewk_and ?_ (ewk_and1 ?_))
      · exact etk_cmp op_gt (ek_ofI (i := way) fun G1 H1 g _ => ed_nm rfl (.int way)) (ek_ofI (i := 0) fun G1 H1 g _ => ed_int) hGt
      · exact etk_cmp op_lt (ek_tk (n := 5) O1 hr (fun G1 H1 i => er_nm (v := .ref p) rfl) (ek_of fun G1 H1 g _ => ed_int) (by decide) (by decide)) (ek_ofI (i := way + 1) fun G1 H1 g _ => ed_add (ed_nm rfl (.int way)) ed_int) hLt
    · refine (ek_ofI (i := z) fun G7 H7 g7 _ => ed_ixM (i := ((n + 2 : Nat) : Int) - 2) (er_nm (v := .ref t) rfl) (ed_sub (ed_nm rfl (.int _)) ed_int) (g7.h _ _ tp hH6) (hx6.mono g7.g) ⟨az⟩).weak ?_
      rintro d ⟨i, rfl, rfl⟩
      exact ⟨_, hz, rfl⟩
    · refine (ek_ofI (i := free) fun G7 H7 g7 _ => ed_nm rfl (.int free)).weak ?_
      rintro d ⟨i, rfl, rfl⟩
      exact ⟨_, hfree, rfl⟩
    · intro v7 d7 G7 H7 hd7 hv7 g7 r7
      obtain ⟨y, hy, rfl⟩ := hd7
      have x7 := x6.trans g7
      have hG7 := g7.n t _ tp hG6 hH6 nofun
      refine ⟨G7, g5.g.trans (g6.g.trans g7.g), same_mut x7.i hG7, key x7 hG7, r0.set t00 r7 (fun ne a ha => x7.h _ _ ne ha) tp, ⟨_, _, _, _, rfl⟩, hG7, _, cs' ++ [y], upd_same, ?_, by rw [List.length_append, hl']; rfl, ?_⟩
      · unfold dI
        rw [List.map_append]
        exact ((hx6.mono g7.g).snoc hv7)
      · intro x hx
        rcases List.mem_append.mp hx with h | h
        · exact hb' x h
        · rw [List.mem_singleton.mp h]; exact hy
  · rintro σ1 G4 H4 s1 s2 ⟨gb, rb, ⟨oa, ob, oc, od, rfl⟩, hG4, xs', cs', hH4, hxs', hl', hb'⟩
    rw [elen] at hl'
    -- thin
    refine rb_cons (rs_setK (p := p) (sc := sc) (ns := ns) (D := nums (· ∈ [3, 6, 40])) (ek_call O2 hr (fun G1 H1 i => er_nm (v := .ref p) rfl) (eka_cons (ek_of (d := .list (dI [3, 6, 40])) fun G1 H1 g _ => ?_) eka_nil) (fun ds ⟨d, r, e1, e2, e3⟩ => ⟨[3, 6, 40], by decide, by decide, by rw [e1, e2, e3], rfl⟩)) gb.i gb.p rb sc__law_line.nd ?_)
    · show Ed _ _ _ _ _ (.list [.int 3, .int 6, .int 40])
      walk_at "ev"
    intro v5 d5 G5 H5 hd5 hv5 g5 r5
    obtain ⟨thin, hthin, rfl⟩ := nums_inv hd5 hv5
    have ht0 : 0 < thin ∧ thin < 1073741824 := by
      simp only [List.mem_cons, List.not_mem_nil, or_false] at hthin
      omega
    have hH5 := g5.h _ _ tp hH4
    have hG5 := g5.n t _ tp hG4 hH4 nofun
    have x5 := gb.trans g5
    -- held
    refine rb_cons (rs_setK (p := p) (sc := sc) (ns := ns) (D := anyT fun l => ∃ hs : List Nat, hs.Pairwise (· < ·) ∧ (∀ h ∈ hs, h < many) ∧ l = dN hs) (ek_tupleOf B.tuple (Ek.weak (ek_lc1 (own := [("_law_k", 7)]) (S := fun _ => Sn 7) (ds := dN (List.range many)) (fun i d => d = .int (i : Int)) (fun i l => ∃ hs : List Nat, hs.Pairwise (· < ·) ∧ (∀ h ∈ hs, h < i) ∧ l = dN hs) sc__law_line.nd (fun G1 H1 g _ => es_range B.range (n := many) (ed_nm rfl (.int _)) (by omega)) (blkOk_by (N := N__law_line) (sc := defScope s__law_line) (by decide +kernel)) (fun s0 H0 C cl fp i d hd => bd_name sc__law_line.nd) ?_ ?_ ?_ ?_ ⟨[], .nil, nofun, rfl⟩ ?_ ?_ (fun i d σ1 G1 G2 σ2 e h => h.mono e)) (fun d ⟨l, ⟨hs, h1, h2, h3⟩, e⟩ => ⟨l, ⟨hs, h1, by rw [dN_length, List.length_range] at h2; exact h2, h3⟩, e⟩))) x5.i x5.p r5 sc__law_line.nd ?_)
    · rintro i d G' σ2 ⟨v, rfl, _⟩
      rfl
    · rintro s0 H0 C cl fp i d σ2 G' H' g' r' hd ⟨v, rfl, hv⟩
      exact etk_cmp opI_eq (ek_tk (n := thin) O1 hr (fun G1 H1 i => er_nm (v := .ref p) rfl) (ek_of fun G1 H1 g _ => ed_nm rfl (.int thin)) ht0.1 ht0.2) (ek_ofI (i := 0) fun G1 H1 g _ => ed_int) hEq
    · rintro s0 H0 C cl fp i d σ2 G' H' g' r' hd ⟨v, rfl, hv⟩
      obtain ⟨hi, rfl⟩ := range_get hd
      exact ek_of fun G1 H1 g _ => ed_nm rfl (hv.mono g.g)
    · rw [dN_length, List.length_range]; omega
    · rintro i l hi ⟨hs, k1, k2, k3⟩
      exact ⟨hs, k1, fun h hh => Nat.lt_succ_of_lt (k2 h hh), k3⟩
    · rintro i l d hi ⟨hs, k1, k2, rfl⟩ rfl
      refine ⟨hs ++ [i], ?_, fun h hh => ?_, by unfold dN; rw [List.map_append]; rfl⟩
      · rw [List.pairwise_append]
        exact ⟨k1, List.pairwise_singleton _ _, fun a ha b hb => by rw [List.mem_singleton.mp hb]; exact k2 a ha⟩
      · rcases List.mem_append.mp hh with h' | h'
        · exact Nat.lt_succ_of_lt (k2 h h')
        · rw [List.mem_singleton.mp h']; exact Nat.lt_succ_self _
    rintro v6 _ G6 H6 ⟨_, ⟨hs, k1, k2, rfl⟩, rfl⟩ hv6 g6 r6
    have hH6 := g6.h _ _ tp hH5
    have hG6 := g6.n t _ tp hG5 hH5 nofun
    have hx6 := hxs'.mono (g5.g.trans g6.g)
    have x6 := x5.trans g6
    have fx := fix_x x6 t00 hG6 hH6 r0.at'
    have dl : Da (upd G6 t (.lst xs')) (.ref t) (.list (dI cs')) := DaAll.lst upd_same (hx6.mono (same_new hG6))
    have hv6' : Da (upd G6 t (.lst xs')) v6 (.tuple (dN hs)) := hv6.mono (same_new hG6)
    have hml : (cs'.take many).length = many := by rw [List.length_take, hl']; omega
    refine rb_one (rs_retD (d := Ln.d ⟨cs'.take many, hs, ring⟩) ?_ fx.i fun v' G' H' g' dv => ?_)
    · have e1 : Ln.d ⟨cs'.take many, hs, ring⟩ = .tuple [.tuple (cutP (dI cs') none (some (many : Int))), .tuple (dN hs), .bool ring] := by
        rw [cutP_dI cs' (k := many) rfl]
        rfl
      rw [e1]
      refine ed_tup (ea_cons (ed_tupleOf B.tuple (ed_slL (ed_nm rfl dl) eo_none (eo_some (ed_nm rfl (.int _))))) (ea_cons (ed_nm rfl hv6') (ea_cons (ed_nm rfl (Da.bl ring)) ea_nil))) (show 3 ≤ sizeLine by decide)
    · have rr := r6.grow g'
      have xr := fx.trans (r6.gx g' fx.p)
      obtain ⟨_, _, a', b', c', ha', row'⟩ := rr
      refine q v' _ a' b' c' G' H' ⟨⟨cs'.take many, hs, ring⟩, ⟨?_, ?_, ?_, ?_, k1, ?_⟩, ?_, rfl⟩ dv ha' xr row'
      · show 1 ≤ (cs'.take many).length
        omega
      · intro hr3
        show 3 ≤ (cs'.take many).length
        have := hm3 hr3
        omega
      · show (cs'.take many).length ≤ 40
        omega
      · intro x hx
        have := hb' x (List.mem_of_mem_take hx)
        omega
      · intro k hk
        show k < (cs'.take many).length
        have := k2 k hk
        omega
      · show (cs'.take many).length ≤ 11
        omega
end
end Fk
end
section
set_option Elab.async false
set_option linter.all false
set_option maxRecDepth 100000
set_option maxHeartbeats 4000000
/-! E5: the law's held and ready cells, still, step. -/
namespace Fk
open PySem PySem.Spec L2
open PyProof.Rows hiding St
local macro_rules | `(tactic| walk_at "gr") => `(tactic| first | assumption | exact Same.refl _ | (refine Same.trans ?_ (Grow.g (by assumption)); walk_at "gr"))
local macro_rules | `(tactic| walk_at "da") => `(tactic| first | assumption | exact Da.int _ | exact Da.bl _ | exact Da.non | (refine Da.mono ?_ (by assumption); walk_at "gr"))
local macro_rules | `(tactic| walk_at "dp") => `(tactic| (simp only [PyData.depth, PyData.depthAll, depthAll_dI, depthAll_dN, Nat.max_zero, Nat.zero_max, Nat.max_self, Nat.min_self, Nat.zero_min, Nat.min_zero] <;> omega))
local macro_rules | `(tactic| walk_at "bt") => `(tactic| first | exact Bt.isi (by assumption) | exact Bt.int (by assumption) | exact Bt.bool (by assumption) | exact Bt.tuple (by assumption) | exact Bt.len (by assumption) | exact Bt.list (by assumption) | exact Bt.set (by assumption) | exact Bt.sorted (by assumption) | exact Bt.range (by assumption) | exact Bt.enum (by assumption) | exact Bt.zip (by assumption) | exact Bt.min (by assumption) | exact Bt.max (by assumption) | exact Bt.sum (by assumption) | exact Bt.dict (by assumption) | exact Bt.str (by assumption))
local macro_rules | `(tactic| walk_at "au") => `(tactic| first | (apply prop_id; assumption) | (show PySem.W.keepIn _ _ = true; assumption) | (show (_ : Option Value) = none; walk_at "bt") | rfl | (show min _ _ ≤ 64; first | decide | walk_at "dp") | (show _ ≤ sizeLine; first | assumption | (simp only [List.length_cons, List.length_nil]; decide)) | (show (_ : Nat) ≤ _; decide) | (show (_ == _) = false; decide) | (show _ ≠ _; decide) | (show behindInMarks _ _ = false; first | exact nomark _ | with_unfolding_all rfl) | (show lastMarks _ _ = false; with_unfolding_all rfl) | (show OpR _ _ _; first | exact op_le | exact op_lt | exact opI_eq | exact opI_ne) | exact (fun _ _ => rfl) | (show ∀ _, _ = _; intro _; rfl) | exact Or.inl rfl | exact Or.inr rfl)
local macro_rules | `(tactic| walk_at "dt") => `(tactic| first | show Bool | show Int | show PyData | show List PyData | show List Int | show Nat | show Option Int | show V)
local macro_rules | `(tactic| walk_at "Se1") => `(tactic| first | walk_at "dt" | walk_at "Sev" | walk_at "au" | (apply Side.mk; walk_at "au"))
local macro_rules | `(tactic| walk_at "Scm") => `(tactic| first | (apply cm_lt <;> walk_at "Se1") | (apply cm_le <;> walk_at "Se1") | (apply cm_gt <;> walk_at "Se1") | (apply cm_ge <;> walk_at "Se1") | (apply cm_eq <;> walk_at "Se1") | (apply cm_ne <;> walk_at "Se1") | (apply cm_inL <;> walk_at "Se1") | (apply cm_inT <;> walk_at "Se1") | (apply cm_niL <;> walk_at "Se1") | (apply cm_niT <;> walk_at "Se1") | (apply cm_is <;> walk_at "Se1") | (apply cm_isnot <;> walk_at "Se1"))
local macro_rules | `(tactic| walk_at "Set") => `(tactic| first | (apply et_cmp <;> walk_at "Se1") | (apply et_not <;> walk_at "Se1") | (apply et_w; walk_at "Sew") | (apply et_chain <;> walk_at "Se1") | (apply et_val <;> walk_at "Se1"))
local macro_rules | `(tactic| walk_at "Sew") => `(tactic| first | (apply ew_and <;> walk_at "Sew1") | (apply ew_or <;> walk_at "Sew1") | (apply ew_and1; walk_at "Sev") | (apply ew_or1; walk_at "Sev"))
local macro_rules | `(tactic| walk_at "Sew1") => `(tactic| first | walk_at "dt" | (show Et _ _ _ _ _ _; walk_at "Sev") | (intro _; walk_at "Sew"))
local macro_rules | `(tactic| walk_at "Sec") => `(tactic| first | (apply ed_not <;> walk_at "Se1") | (apply ed_and <;> walk_at "Se1") | (apply ed_or <;> walk_at "Se1") | (apply ed_one <;> walk_at "Se1") | (apply ed_cmp <;> walk_at "Se1") | (apply ed_chain <;> walk_at "Se1"))
local macro_rules | `(tactic| walk_at "Seb") => `(tactic| first | (apply ed_lenT <;> walk_at "Se1") | (apply ed_lenL <;> walk_at "Se1") | (apply ed_call <;> walk_at "Se1") | (apply ed_isInt <;> walk_at "Se1") | (apply ed_isBool <;> walk_at "Se1") | (apply ed_isTuple <;> walk_at "Se1") | (apply ed_isList <;> walk_at "Se1") | (apply ed_isStr <;> walk_at "Se1") | (apply ed_isTL <;> walk_at "Se1") | (apply ed_listOf <;> walk_at "Se1") | (apply ed_tupleOf <;> walk_at "Se1") | (apply ed_min2 <;> walk_at "Se1") | (apply ed_int1 <;> walk_at "Se1"))
local macro_rules | `(tactic| walk_at "Sei") => `(tactic| first | (apply ed_ixT <;> walk_at "Se1") | (apply ed_ixL <;> walk_at "Se1"))
local macro_rules | `(tactic| walk_at "Sex") => `(tactic| first | exact ed_int | exact ed_bl | exact ed_non | exact ed_nm rfl (by walk_at "da") | (apply ed_add <;> walk_at "Se1") | (apply ed_sub <;> walk_at "Se1") | (apply ed_neg <;> walk_at "Se1") | walk_at "Sei" | (apply ed_tup <;> walk_at "Se1") | (apply ed_lst <;> walk_at "Se1") | (apply ed_mod <;> walk_at "Se1") | (apply ed_ifI <;> walk_at "Se1") | (apply ed_if2 <;> walk_at "Se1") | (apply ed_slT <;> walk_at "Se1") | (apply ed_slL <;> walk_at "Se1") | (apply ed_catT <;> walk_at "Se1"))
local macro_rules | `(tactic| walk_at "Sev") => `(tactic| first | (show Ed _ _ _ _ _ _; first | walk_at "Sex" | walk_at "Seb" | walk_at "Sec") | (show Et _ _ _ _ _ _; walk_at "Set") | (show Cm _ _ _ _ _ _ _ _; walk_at "Scm") | (show Ea _ _ _ _ _ _; first | exact ea_nil | (apply ea_cons <;> walk_at "Se1")) | (show Eo _ _ _ _ _ _; first | exact eo_none | (apply eo_some; walk_at "Sev")) | (show Er _ _ _ _ _ _; exact er_nm rfl) | (show Ew _ _ _ _ _ _; walk_at "Sew") | (intro _; walk_at "Sev"))
local macro_rules | `(tactic| walk_at "e1") => `(tactic| first | walk_at "dt" | walk_at "ev" | walk_at "au" | (apply Side.mk; first | walk_at "au" | skip))
local macro_rules | `(tactic| walk_at "cm") => `(tactic| first | (apply cm_lt <;> walk_at "e1") | (apply cm_le <;> walk_at "e1") | (apply cm_gt <;> walk_at "e1") | (apply cm_ge <;> walk_at "e1") | (apply cm_eq <;> walk_at "e1") | (apply cm_ne <;> walk_at "e1") | (apply cm_inL <;> walk_at "e1") | (apply cm_inT <;> walk_at "e1") | (apply cm_niL <;> walk_at "e1") | (apply cm_niT <;> walk_at "e1") | (apply cm_is <;> walk_at "e1") | (apply cm_isnot <;> walk_at "e1"))
local macro_rules | `(tactic| walk_at "et") => `(tactic| first | (apply et_cmp <;> walk_at "e1") | (apply et_not <;> walk_at "e1") | (apply et_w; walk_at "ew") | (apply et_chain <;> walk_at "e1") | (apply et_val <;> walk_at "e1"))
local macro_rules | `(tactic| walk_at "ew") => `(tactic| first | (apply ew_and <;> walk_at "ew1") | (apply ew_or <;> walk_at "ew1") | (apply ew_and1; walk_at "ev") | (apply ew_or1; walk_at "ev"))
local macro_rules | `(tactic| walk_at "ew1") => `(tactic| first | walk_at "dt" | (show Et _ _ _ _ _ _; walk_at "ev") | (intro _; walk_at "ew"))
local macro_rules | `(tactic| walk_at "ec") => `(tactic| first | (apply ed_not <;> walk_at "e1") | (apply ed_and <;> walk_at "e1") | (apply ed_or <;> walk_at "e1") | (apply ed_one <;> walk_at "e1") | (apply ed_cmp <;> walk_at "e1") | (apply ed_chain <;> walk_at "e1"))
local macro_rules | `(tactic| walk_at "eb") => `(tactic| first | walk_at "Seb" | (apply ed_lenT <;> walk_at "e1") | (apply ed_lenL <;> walk_at "e1") | (apply ed_call <;> walk_at "e1") | (apply ed_isInt <;> walk_at "e1") | (apply ed_isBool <;> walk_at "e1") | (apply ed_isTuple <;> walk_at "e1") | (apply ed_isList <;> walk_at "e1") | (apply ed_isStr <;> walk_at "e1") | (apply ed_isTL <;> walk_at "e1") | (apply ed_listOf <;> walk_at "e1") | (apply ed_tupleOf <;> walk_at "e1") | (apply ed_min2 <;> walk_at "e1") | (apply ed_int1 <;> walk_at "e1"))
local macro_rules | `(tactic| walk_at "ei") => `(tactic| first | walk_at "Sei" | (apply ed_ixT <;> walk_at "e1") | (apply ed_ixL <;> walk_at "e1"))
local macro_rules | `(tactic| walk_at "ex") => `(tactic| first | exact ed_int | exact ed_bl | exact ed_non | exact ed_nm rfl (by walk_at "da") | (apply ed_add <;> walk_at "e1") | (apply ed_sub <;> walk_at "e1") | (apply ed_neg <;> walk_at "e1") | walk_at "ei" | (apply ed_tup <;> walk_at "e1") | (apply ed_lst <;> walk_at "e1") | (apply ed_mod <;> walk_at "e1") | (apply ed_ifI <;> walk_at "e1") | (apply ed_if2 <;> walk_at "e1") | (apply ed_slT <;> walk_at "e1") | (apply ed_slL <;> walk_at "e1") | (apply ed_catT <;> walk_at "e1"))
local macro_rules | `(tactic| walk_at "ev") => `(tactic| first | (show Ed _ _ _ _ _ _; first | walk_at "ex" | walk_at "eb" | walk_at "ec") | (show Et _ _ _ _ _ _; walk_at "et") | (show Cm _ _ _ _ _ _ _ _; walk_at "cm") | (show Ea _ _ _ _ _ _; first | exact ea_nil | (apply ea_cons <;> walk_at "e1")) | (show Eo _ _ _ _ _ _; first | exact eo_none | (apply eo_some; walk_at "ev")) | (show Er _ _ _ _ _ _; exact er_nm rfl) | (show Ew _ _ _ _ _ _; walk_at "ew") | (intro _; walk_at "ev"))
section
variable {X : Cx} {σ : St} {G H : Hp} {a b c e : Expr} {x y z u : Str} {i j k l : Nat} {pos px py pz pu pt pt2 : Pos} {kt k2 : Nat} {D : Ends}
/-- x, y, z, u = a, b, c, e by way of a tuple -/
theorem rs_par4 {P : List V → Hp → Hp → Prop} (ha : ∀ Q : List V → Hp → Prop, (∀ vs G2 H2, Grow G H G2 H2 → P vs G2 H2 → Q vs H2) → RA X [a, b, c, e] σ H Q) (hp : ∀ vs G2 H2, P vs G2 H2 → vs.length = 4) (hN : X.N.Nodup)
    (q : ∀ v1 v2 v3 v4 G2 H2 t, Grow G H G2 H2 → P [v1, v2, v3, v4] G2 H2 → H2 t = none → D.nx ((((σ.set i (some v1)).set j (some v2)).set k (some v3)).set l (some v4)) (upd H2 t (.tup [v1, v2, v3, v4])))
    (hi : X.N[i]? = some x) (hj : X.N[j]? = some y) (hk : X.N[k]? = some z) (hl : X.N[l]? = some u)
    (hx : Loc X.env.scope x := by first | exact Or.inl rfl | exact Or.inr rfl) (fx : X.fn x = true ∨ X.env.scope.names.lookup x = some .local := by first | exact .inl rfl | exact .inr rfl)
    (hy : Loc X.env.scope y := by first | exact Or.inl rfl | exact Or.inr rfl) (fy : X.fn y = true ∨ X.env.scope.names.lookup y = some .local := by first | exact .inl rfl | exact .inr rfl)
    (hz : Loc X.env.scope z := by first | exact Or.inl rfl | exact Or.inr rfl) (fz : X.fn z = true ∨ X.env.scope.names.lookup z = some .local := by first | exact .inl rfl | exact .inr rfl)
    (hu : Loc X.env.scope u := by first | exact Or.inl rfl | exact Or.inr rfl) (fu : X.fn u = true ∨ X.env.scope.names.lookup u = some .local := by first | exact .inl rfl | exact .inr rfl)
    (hc : X.calm = true := by rfl) (h1 : (assignEach [.Name x px, .Name y py, .Name z pz, .Name u pu] X.env).map (·.2) = assign (.Name x px) X.env :: (assignEach [.Name y py, .Name z pz, .Name u pu] X.env).map (·.2) := by rfl)
    (h2 : (assignEach [.Name y py, .Name z pz, .Name u pu] X.env).map (·.2) = assign (.Name y py) X.env :: (assignEach [.Name z pz, .Name u pu] X.env).map (·.2) := by rfl)
    (h3 : (assignEach [.Name z pz, .Name u pu] X.env).map (·.2) = assign (.Name z pz) X.env :: (assignEach [.Name u pu] X.env).map (·.2) := by rfl)
    (h4 : (assignEach [.Name u pu] X.env).map (·.2) = assign (.Name u pu) X.env :: (assignEach [] X.env).map (·.2) := by rfl)
    (hn : (assignEach [.Name x px, .Name y py, .Name z pz, .Name u pu] X.env).length = 4 := by rfl) (hst : (assignEach [.Name x px, .Name y py, .Name z pz, .Name u pu] X.env).findIdx? (·.1) = none := by rfl)
    (hs : swapsWithSole [.Tuple [.Name x px, .Name y py, .Name z pz, .Name u pu] kt pt] (.Tuple [a, b, c, e] k2 pt2) pos.line X.env = pure false := by rfl) (hw : swappedStores [.Tuple [.Name x px, .Name y py, .Name z pz, .Name u pu] kt pt] (.Tuple [a, b, c, e] k2 pt2) X.env = pure none := by rfl)
    (h5 : (assignEach [.Tuple [.Name x px, .Name y py, .Name z pz, .Name u pu] kt pt] X.env).map (·.2) = [assign (.Tuple [.Name x px, .Name y py, .Name z pz, .Name u pu] kt pt) X.env] := by rfl) :
    RS X (.Assign [.Tuple [.Name x px, .Name y py, .Name z pz, .Name u pu] kt pt] (.Tuple [a, b, c, e] k2 pt2) pos) D σ H :=
  rs_of (ps_asg (pe_tup pa_self) (pg_tup hc (pgs_cons (pg_name hN hi hx fx) (pgs_cons (pg_name hN hj hy fy) (pgs_cons (pg_name hN hk hz fz) (pgs_cons (pg_name hN hl hu fu) pgs_nil h4) h3) h2) h1) hn hst) hs hw h5) (ha _ fun vs G2 H2 g p => by
    have hl := hp vs G2 H2 p
    match vs, hl with
    | [v1, v2, v3, v4], _ => exact ⟨by show 4 ≤ sizeLine; decide, fun t ht => ⟨t, _, rfl, .of upd_same, rfl, v1, _, rfl, v2, _, rfl, v3, _, rfl, v4, _, rfl, rfl, q v1 v2 v3 v4 G2 H2 t g p ht⟩⟩)
end
def R_lheld : List PyData → PyData → Prop := fun ds d => ∃ L : Ln, L.Ok ∧ ds = [L.d] ∧ d = .list (dN L.held)
def R_lready : List PyData → PyData → Prop := fun ds d => ∃ L : Ln, L.Ok ∧ ds = [L.d] ∧ d = .list (dN L.ready)
def R_lstill : List PyData → PyData → Prop := fun ds d => ∃ (L : Ln) (c : List Int), Ln.Ok ⟨c, L.h, L.r⟩ ∧ ds = [L.d, .tuple (dI c)] ∧ d = .bool (decide (Ln.ready ⟨c, L.h, L.r⟩ = []))
def Ln.step (L : Ln) : Ln := ⟨(List.range L.n).map fun k => if L.rdy k = true then L.col (L.lf k) else L.col k, L.h, L.r⟩
def R_lstep : List PyData → PyData → Prop := fun ds d => ∃ L : Ln, L.Ok ∧ ds = [L.d] ∧ d = L.step.d
section
variable {P : Program} {w : World} {K : PySem.W.Frag} {mg : Str → Option Value} {base : Heap}
set_option maxHeartbeats 2000000 in
theorem ok_lheld (D : Df K mg "_law_held" s__law_held) (B : Bt mg) : Own P w K mg base "_law_held" 1 (spD R_lheld) := by
  refine Own.data D sc__law_held (fun _ _ _ _ _ _ us hl => match us, hl with | [_], _ => rfl) (fun ds d ⟨_, _, e, _⟩ => by rw [e]; rfl) ?_
  rintro f cdv A outer s H vs Q E hr G _ _ i0 hvs ⟨L, ok, rfl, rfl⟩ q
  obtain ⟨x1, rfl, h1⟩ := hvs.inv1
  unfold Ln.d at h1
  have hn1 := ok.one
  have hn2 := ok.most
  have e1 : (dI L.c).length = L.n := by rw [dI_length]; rfl
  refine rb_cons (rs_setD (d := .int ((dI L.c).length : Int)) ?_ i0 sc__law_held.nd ?_)
  · walk_at "ev"
  intro v G1 H1 g1 hv
  cases hv.inv_int
  refine rb_one (rs_retD (En.ed (en_lc1 (own := [("_law_k", 2)]) (S := fun _ => Sn 2) L.hd (fun k => .int (k : Int)) sc__law_held.nd (es_range B.range (n := (dI L.c).length) ?_ ?_) (blkOk_by (N := N__law_held) (sc := defScope s__law_held) (by decide +kernel)) (fun s0 H0 C cl fp i d hd => bd_name sc__law_held.nd) ?_ ?_ ?_ ?_)) g1.i ?_)
  · walk_at "ev"
  · omega
  · rintro i d G' σ2 ⟨v, rfl, _⟩
    rfl
  · rintro s0 H0 C cl fp i d σ2 G' H' g' hd ⟨v, rfl, hv⟩
    rw [e1] at hd
    obtain ⟨hi, rfl⟩ := range_get hd
    have h1' := (h1.mono g1.g).mono g'.g
    refine Et.is (b := ((dN L.h).any fun y => PyData.eqv y (.int (i : Int))) || (!L.r && ([PyData.int 0, .int (((dI L.c).length : Int) - 1)].any fun y => PyData.eqv y (.int (i : Int))))) ?_ ?_
    · apply et_w
      apply ew_or
      · refine et_cmp (cm_inT hr ?_ (ed_ixT (ds := [.tuple (dI L.c), .tuple (dN L.h), .bool L.r]) (i := 1) (d := .tuple (dN L.h)) ?_ ed_int ⟨rfl⟩))
        · walk_at "ev"
        · walk_at "ev"
      · intro _
        apply ew_or1
        apply et_w
        apply ew_and
        · walk_at "ev"
        · intro _
          apply ew_and1
          walk_at "ev"
    · rw [any_dN]
      unfold Ln.hd
      congr 2
      rw [List.any_cons, List.any_cons, List.any_nil, Bool.or_false, PyData.eqv, PyData.eqv, e1, Bool.eq_iff_iff]
      simp only [Bool.or_eq_true, beq_iff_eq]
      omega
  · rintro s0 H0 C cl fp i d σ2 G' H' g' hd ⟨v, rfl, hv⟩ _
    rw [e1] at hd
    obtain ⟨hi, rfl⟩ := range_get hd
    walk_at "ev"
  · rw [dN_length, List.length_range, e1]; omega
  · intro v G' H' g' dv
    rw [dN_length, List.length_range, e1] at dv
    exact q v G' H' (g1.trans g') dv
set_option maxHeartbeats 2000000 in
theorem ok_lready (D : Df K mg "_law_ready" s__law_ready) (B : Bt mg) (O1 : Own P w K mg base "_law_held" 1 (spD R_lheld)) : Own P w K mg base "_law_ready" 2 (spD R_lready) := by
  refine Own.data D sc__law_ready (fun _ _ _ _ _ _ us hl => match us, hl with | [_], _ => rfl) (fun ds d ⟨_, _, e, _⟩ => by rw [e]; rfl) ?_
  rintro f cdv A outer s H vs Q E hr G _ _ i0 hvs ⟨L, ok, rfl, rfl⟩ q
  obtain ⟨x1, rfl, h1⟩ := hvs.inv1
  have hR : R_lheld [L.d] (.list (dN L.held)) := ⟨L, ok, rfl, rfl⟩
  unfold Ln.d at h1 hR
  have hn1 := ok.one
  have hn2 := ok.most
  have e1 : (dI L.c).length = L.n := by rw [dI_length]; rfl
  refine rb_cons (rs_par4 (G := G) (i := 1) (j := 2) (k := 3) (l := 4) (P := fun vs G2 H2 => ∃ v1 v3 t, vs = [v1, .int (L.n : Int), v3, .ref t] ∧ Da G2 v1 (.tuple (dI L.c)) ∧ Da G2 v3 (.list (dN L.held)) ∧ H t = none ∧ G2 t = none ∧ H2 t = some (.lst [])) ?_ (fun vs G2 H2 ⟨_, _, _, e, _⟩ => by rw [e]; rfl) sc__law_ready.nd ?_ rfl rfl rfl rfl)
  · intro Q' q'
    refine ra_of (pa_cons pe_self (pa_cons pe_self (pa_cons pe_self (pa_cons pe_self pa_nil rfl) rfl) rfl) rfl) ((?_ : Ed _ _ G H _ (.tuple (dI L.c))).run G H (.refl i0) _ fun v1 G2 H2 g2 hv1 => (?_ : Ed _ _ G2 H2 _ (.int ((dI L.c).length : Int))).run G2 H2 (.refl g2.i) _ fun v2 G3 H3 g3 hv2 => (?_ : Ed _ _ G3 H3 _ (.list (dN L.held))).run G3 H3 (.refl g3.i) _ fun v3 G4 H4 g4 hv3 => (en_lst (X := CtxOf P w K mg base N__law_ready "_law_ready" s__law_ready f cdv A outer s H E) ea_nil).run G4 H4 (.refl g4.i) _ fun t xs G5 H5 g5 t0 tG tH hxs => ?_)
    · walk_at "ev"
    · walk_at "ev"
    · walk_at "ev"
    · cases hxs.inv_nil
      cases hv2.inv_int
      rw [e1]
      exact q' _ G5 H5 (g2.trans (g3.trans (g4.trans g5))) ⟨v1, v3, t, rfl, hv1.mono (g3.g.trans (g4.g.trans g5.g)), hv3.mono g5.g, (g2.trans (g3.trans g4)).none_h t0, tG, tH⟩
  rintro v1 v2 v3 v4 G1 H1' q0 g1' ⟨_, _, t, e, hv1, hv3, t0, tG, tH'⟩ hq0
  cases e
  have g1 : Grow G H G1 (upd H1' q0 (.tup [v1, .int (L.n : Int), v3, .ref t])) := g1'.trans (.newH g1'.i hq0)
  have tH : (upd H1' q0 (.tup [v1, .int (L.n : Int), v3, .ref t])) t = some (.lst []) := by rw [upd_ne (ne_of_none tH' hq0)]; exact tH'
  generalize upd H1' q0 (.tup [v1, .int (L.n : Int), v3, .ref t]) = H1 at g1 tH
  refine rb_cons (rs_for (es_range B.range (n := L.n) (ed_nm rfl (.int _)) (by omega)) g1.i (fun i d hd => bd_name (i := 5) sc__law_ready.nd)
    (fun n σ' G' H' => Grow G H G' H' ∧ Same G1 G' ∧ (∃ a b c, σ' = [some x1, some v1, some (.int (L.n : Int)), some v3, some (.ref t), a, b, c]) ∧ G' t = none ∧ ∃ xs, H' t = some (.lst xs) ∧ DaAll G' xs (dN ((List.range n).filter L.rdy))) ?_ ?_ ?_)
  · intro G2 H2 g2
    exact ⟨g1.trans g2, g2.g, ⟨_, _, _, rfl⟩, g2.n' tG tH, [], g2.h _ _ tH, .nil⟩
  · rintro n d σ1 G2 H2 G3 H3 σ2 hd s1 s2 ⟨gb, sg, ⟨oa, ob, oc, rfl⟩, hG2, xs, hH2, hxs⟩ g3 ⟨v, rfl, hv⟩
    obtain ⟨hn, rfl⟩ := range_get hd
    cases hv.inv_int
    have c1 := (hv1.mono sg).mono g3.g
    have c3 := (hv3.mono sg).mono g3.g
    have a1 := Ln.at_ (L := L) (z := n) rfl hn
    have a2 := Ln.at_lf (L := L) (z := n) rfl hn
    have a3 := Ln.at_rt (L := L) (z := n) (m := (L.n : Int)) rfl rfl hn
    have hH3 := g3.h _ _ hH2
    have hG3 := g3.n' hG2 hH2
    have gb3 := gb.trans g3
    refine rb_cons (rs_par (Ea.par (ds := [.int (L.col (L.lf n)), .int (L.col (L.rt n))]) ?_ g3.i) (fun vs G2 H2 p => p.len) sc__law_ready.nd ?_)
    · walk_at "ev"
    intro u1 u2 G4 H4 g4 hp
    have hu1 := hp.hd
    have hu2 := hp.tl.hd
    have c14 := c1.mono g4.g
    have c34 := c3.mono g4.g
    have hH4 := g4.h _ _ hH3
    have hG4 := g4.n' hG3 hH3
    have gb4 := gb3.trans g4
    have ehd : (!((dN L.held).any fun y => PyData.eqv y (.int (n : Int)))) = !L.hd n := by
      rw [any_dN]
      congr 1
      rw [Bool.eq_iff_iff]
      simp [Ln.held, List.mem_filter, hn]
    refine rb_one (rs_if (k := L.rdy n) ?_ g4.i ?_ ?_)
    · refine Et.is (b := (!((dN L.held).any fun y => PyData.eqv y (.int (n : Int)))) && (PyData.eqv (.int (L.col (L.lf n))) (.int (L.col (L.rt n))) && !PyData.eqv (.int (L.col (L.lf n))) (.int (L.col n)))) ?_ ?_
      · walk_at "ev"
      · rw [ehd, PyData.eqv, PyData.eqv]
        rfl
    · intro e G5 H5 g5
      have hH5 := g5.h _ _ hH4
      have xl : xs.length ≤ n := by
        rw [hxs.len, dN_length]
        have := List.length_filter_le L.rdy (List.range n)
        rw [List.length_range] at this
        exact this
      refine rb_one (rs_app (l := t) (xs := xs) (er_nm rfl) (fun G6 H6 g6 => Ed.ev (d := .int (n : Int)) (ed_nm rfl (.int _)) g6.i) g5.i hH5 (small40 (by omega)) ?_)
      intro v6 G6 H6 g6 hv6
      have hG6 := g6.n' (g5.n' hG4 hH4) hH5
      have gg := (gb4.trans g5).trans g6
      refine ⟨G6, g3.g.trans (g4.g.trans (g5.g.trans g6.g)), same_mut g6.i hG6, gg.mut t0 hG6, sg.trans (g3.g.trans (g4.g.trans (g5.g.trans g6.g))), ⟨_, _, _, rfl⟩, hG6, _, upd_same, ?_⟩
      have e2 : dN ((List.range (n + 1)).filter L.rdy) = dN ((List.range n).filter L.rdy) ++ [.int (n : Int)] := by
        rw [List.range_succ, List.filter_append, List.filter_cons, if_pos e]
        unfold dN
        rw [List.map_append]
        rfl
      rw [e2]
      exact (hxs.mono (g3.g.trans (g4.g.trans (g5.g.trans g6.g)))).snoc hv6
    · intro e G5 H5 g5
      refine rb_nil ⟨G5, g3.g.trans (g4.g.trans g5.g), g5.i, gb4.trans g5, sg.trans (g3.g.trans (g4.g.trans g5.g)), ⟨_, _, _, rfl⟩, g5.n' hG4 hH4, xs, g5.h _ _ hH4, ?_⟩
      have e2 : (List.range (n + 1)).filter L.rdy = (List.range n).filter L.rdy := by
        rw [List.range_succ, List.filter_append, List.filter_cons, if_neg (by rw [e]; decide)]
        simp
      rw [e2]
      exact hxs.mono (g3.g.trans (g4.g.trans g5.g))
  · rintro σ1 G2 H2 s1 s2 ⟨gb, sg, ⟨oa, ob, oc, rfl⟩, hG2, xs, hH2, hxs⟩
    rw [dN_length, List.length_range] at hxs
    have gf := fix_list gb t0 hG2 hH2
    have dl : Da (upd G2 t (.lst xs)) (.ref t) (.list (dN L.ready)) := DaAll.lst upd_same (hxs.mono (same_new hG2))
    exact rb_one (rs_retD (ed_nm rfl dl) gf.i fun v' G' H' g' dv => q v' G' H' (gf.trans g') dv)
set_option maxHeartbeats 2000000 in
theorem ok_lstill (D : Df K mg "_law_still" s__law_still) (B : Bt mg) (O1 : Own P w K mg base "_law_ready" 2 (spD R_lready)) : Own P w K mg base "_law_still" 3 (spD R_lstill) := by
  refine Own.data D sc__law_still (fun _ _ _ _ _ _ us hl => match us, hl with | [_, _], _ => rfl) (fun ds d ⟨_, _, _, e, _⟩ => by rw [e]; rfl) ?_
  rintro f cdv A outer s H vs Q E hr G _ _ i0 hvs ⟨L, c, ok, rfl, rfl⟩ q
  obtain ⟨x1, x2, rfl, h1, h2⟩ := hvs.inv2
  unfold Ln.d at h1
  have hR : R_lready [.tuple [.tuple (dI c), .tuple (dN L.h), .bool L.r]] (.list (dN (Ln.ready ⟨c, L.h, L.r⟩))) := ⟨⟨c, L.h, L.r⟩, ok, rfl, rfl⟩
  refine rb_one (rs_retD (Ed.is (ed_cmp (cm_eq hr (d := .list (dN (Ln.ready ⟨c, L.h, L.r⟩))) (d' := .list []) ?_ ?_ ?_)) ?_) i0 q)
  · walk_at "ev"
  · walk_at "ev"
  · simp only [PyData.depth, depthAll_dN, PyData.depthAll]; decide
  · congr 1
    cases Ln.ready ⟨c, L.h, L.r⟩ with
    | nil => simp [PyData.eqv, PyData.eqvAll, dN]
    | cons x r => simp [PyData.eqv, PyData.eqvAll, dN]
set_option maxHeartbeats 2000000 in
theorem ok_lstep (D : Df K mg "_law_step" s__law_step) (B : Bt mg) (O1 : Own P w K mg base "_law_ready" 2 (spD R_lready)) : Own P w K mg base "_law_step" 3 (spD R_lstep) := by
  refine Own.data D sc__law_step (fun _ _ _ _ _ _ us hl => match us, hl with | [_], _ => rfl) (fun ds d ⟨_, _, e, _⟩ => by rw [e]; rfl) ?_
  rintro f cdv A outer s H vs Q E hr G _ _ i0 hvs ⟨L, ok, rfl, rfl⟩ q
  obtain ⟨x1, rfl, h1⟩ := hvs.inv1
  have hR : R_lready [L.d] (.list (dN L.ready)) := ⟨L, ok, rfl, rfl⟩
  unfold Ln.d at h1 hR
  have hn1 := ok.one
  have hn2 := ok.most
  have e1 : (dI L.c).length = L.n := by rw [dI_length]; rfl
  refine rb_cons (rs_setD (d := .list (dN L.ready)) ?_ i0 sc__law_step.nd ?_)
  · walk_at "ev"
  intro v G1 H1 g1 hv
  have h1' := h1.mono g1.g
  have e2 : L.step.d = .tuple [.tuple ((List.range (dN (List.range (dI L.c).length)).length).map fun k => .int (if L.rdy k = true then L.col (L.lf k) else L.col k)), .tuple (dN L.h), .bool L.r] := by
    rw [dN_length, List.length_range, e1]
    unfold Ln.d Ln.step dI
    rw [List.map_map]
    rfl
  refine rb_one (rs_retD (Ed.is (ed_tup (ds := [.tuple ((List.range (dN (List.range (dI L.c).length)).length).map fun k => .int (if L.rdy k = true then L.col (L.lf k) else L.col k)), .tuple (dN L.h), .bool L.r]) (ea_cons (ed_tupleOf B.tuple (En.ed (en_lc0 (own := [("_law_k", 2)]) (S := fun _ => Sn 2) (fun k => .int (if L.rdy k = true then L.col (L.lf k) else L.col k)) sc__law_step.nd (es_range B.range (n := (dI L.c).length) ?_ ?_) (blkOk_by (N := N__law_step) (sc := defScope s__law_step) (by decide +kernel)) (fun s0 H0 C cl fp i d hd => bd_name sc__law_step.nd) ?_ ?_ ?_))) ?_) (show 3 ≤ sizeLine by decide)) e2.symm) g1.i fun v' G' H' g' dv => q v' G' H' (g1.trans g') dv)
  · walk_at "ev"
  · omega
  · rintro i d G' σ2 ⟨v, rfl, _⟩
    rfl
  · rintro s0 H0 C cl fp i d σ2 G' H' g' hd ⟨v', rfl, hv'⟩
    rw [e1] at hd
    obtain ⟨hi, rfl⟩ := range_get hd
    have a1 := Ln.at_ (L := L) (z := i) rfl hi
    have a2 := Ln.at_lf (L := L) (z := i) rfl hi
    have c1 := h1'.mono g'.g
    have c2 := hv.mono g'.g
    have erd : ((dN L.ready).any fun y => PyData.eqv y (.int (i : Int))) = L.rdy i := by rw [any_dN, rdy_dec hi]
    rw [← erd]
    walk_at "ev"
  · rw [dN_length, List.length_range, e1]; omega
  · walk_at "ev"
end
end Fk
end
section
set_option linter.all false
/-! Ma4: states reached one cell at a time, plain. -/
namespace Fk
open PySem
namespace Ln
def flip (L : Ln) (S : Nat → Bool) : List Int := (List.range L.n).map fun k => if S k = true then L.col (L.lf k) else L.col k
/-- the line with other cells -/
abbrev wc (L : Ln) (c : List Int) : Ln := ⟨c, L.h, L.r⟩
structure Ind (L : Ln) (S : Nat → Bool) : Prop where
  rd : ∀ k, k < L.n → S k = true → L.rdy k = true
  lf : ∀ k, k < L.n → S k = true → S (L.lf k) = false
variable {L : Ln} {S : Nat → Bool}
theorem flip_len : (L.flip S).length = L.n := by simp [flip]
theorem flip_get {k : Nat} (h : k < L.n) : (L.flip S)[k]? = some (if S k = true then L.col (L.lf k) else L.col k) := by
  unfold flip
  rw [List.getElem?_map, List.getElem?_range h]
  rfl
theorem wc_n {c : List Int} (h : c.length = L.n) : (L.wc c).n = L.n := h
theorem wc_lf {c : List Int} (h : c.length = L.n) (k : Nat) : (L.wc c).lf k = L.lf k := by unfold Ln.lf; rw [wc_n h]
theorem wc_rt {c : List Int} (h : c.length = L.n) (k : Nat) : (L.wc c).rt k = L.rt k := by unfold Ln.rt; rw [wc_n h]
theorem wc_hd {c : List Int} (h : c.length = L.n) (k : Nat) : (L.wc c).hd k = L.hd k := by unfold Ln.hd; rw [wc_n h]
theorem wc_col {k : Nat} (h : k < L.n) : (L.wc (L.flip S)).col k = if S k = true then L.col (L.lf k) else L.col k := by
  unfold Ln.col
  rw [List.getD_eq_getElem?_getD, flip_get h]
  rfl
theorem rdy_iff {k : Nat} : L.rdy k = true ↔ L.hd k = false ∧ L.col (L.lf k) = L.col (L.rt k) ∧ L.col (L.lf k) ≠ L.col k := by
  unfold rdy
  simp [and_assoc]
theorem Ind.rt (I : Ind L S) {k : Nat} (h : k < L.n) (hs : S k = true) : S (L.rt k) = false := by
  cases e : S (L.rt k) with
  | false => rfl
  | true =>
    have h1 := I.lf (L.rt k) (rt_lt (by omega) k) e
    rw [lf_rt h, hs] at h1
    cases h1
theorem rdy_flip (I : Ind L S) {k : Nat} (h : k < L.n) : (L.wc (L.flip S)).rdy k = (L.rdy k && (!S k && (!S (L.lf k) && !S (L.rt k)))) := by
  have hn : 1 ≤ L.n := by omega
  have hl := lf_lt hn k
  have hr := rt_lt hn k
  rw [Bool.eq_iff_iff, rdy_iff, wc_hd flip_len, wc_lf flip_len, wc_rt flip_len, wc_col h, wc_col hl, wc_col hr]
  simp only [Bool.and_eq_true, Bool.not_eq_true']
  rw [rdy_iff]
  cases e1 : S k with
  | true =>
    have h1 := I.lf k h e1
    have h2 := I.rt h e1
    simp [h1, h2]
  | false =>
    cases e2 : S (L.lf k) with
    | true =>
      have h3 := (rdy_iff.mp (I.rd _ hl e2)).2.1
      rw [rt_lf h] at h3
      simp [h3]
    | false =>
      cases e3 : S (L.rt k) with
      | true =>
        rw [lf_rt h]
        simp
      | false => simp
/-- one cell more -/
def add (S : Nat → Bool) (j : Nat) : Nat → Bool := fun k => decide (k = j) || S k
theorem Ind.add (I : Ind L S) {j : Nat} (h : j < L.n) (hr : (L.wc (L.flip S)).rdy j = true) : Ind L (Ln.add S j) := by
  rw [rdy_flip I h] at hr
  simp only [Bool.and_eq_true, Bool.not_eq_true'] at hr
  obtain ⟨h1, h2, h3, h4⟩ := hr
  have ne : L.lf j ≠ j := fun e => by
    have h5 := rdy_iff.mp h1
    rw [e] at h5
    exact h5.2.2 rfl
  refine ⟨fun k hk hs => ?_, fun k hk hs => ?_⟩
  · unfold Ln.add at hs
    by_cases e : k = j
    · rw [e]; exact h1
    · simp [e] at hs
      exact I.rd k hk hs
  · unfold Ln.add at hs ⊢
    by_cases e : k = j
    · subst e
      simp [ne, h3]
    · simp [e] at hs
      have h6 := I.lf k hk hs
      have h7 : L.lf k ≠ j := fun e2 => by
        have : L.rt j = k := by rw [← e2, rt_lf hk]
        rw [this, hs] at h4
        cases h4
      simp [h7, h6]
/-- a turn of one cell -/
def turn1 (L : Ln) (c : List Int) (k : Nat) : List Int := c.take k ++ [(L.wc c).col ((L.wc c).lf k)] ++ c.drop (k + 1)
theorem turn1_set {c : List Int} {k : Nat} (h : k < c.length) : L.turn1 c k = c.set k ((L.wc c).col ((L.wc c).lf k)) := by
  unfold turn1
  rw [List.set_eq_take_append_cons_drop, if_pos h]
  simp
theorem turn1_flip (I : Ind L S) {j : Nat} (h : j < L.n) (hr : (L.wc (L.flip S)).rdy j = true) : L.turn1 (L.flip S) j = L.flip (Ln.add S j) := by
  have hn : 1 ≤ L.n := by omega
  rw [turn1_set (by rw [flip_len]; exact h)]
  rw [rdy_flip I h] at hr
  simp only [Bool.and_eq_true, Bool.not_eq_true'] at hr
  apply List.ext_getElem?
  intro k
  by_cases hk : k < L.n
  · by_cases e : j = k
    · subst e
      rw [List.getElem?_set_self (by rw [flip_len]; exact h), flip_get h, wc_lf flip_len, wc_col (lf_lt hn j)]
      simp [hr.2.2.1, Ln.add]
    · rw [List.getElem?_set_ne e, flip_get hk, flip_get hk]
      simp [Ln.add, Ne.symm e]
  · rw [List.getElem?_eq_none (by rw [List.length_set, flip_len]; omega), List.getElem?_eq_none (by rw [flip_len]; omega)]
def card (L : Ln) (S : Nat → Bool) : Nat := ((List.range L.n).filter S).length
/-- the levels -/
def insK (acc : List (List Int)) (x : List Int) : List (List Int) := if x ∈ acc then acc else acc ++ [x]
theorem mem_insK {acc : List (List Int)} {x y : List Int} : y ∈ insK acc x ↔ y ∈ acc ∨ y = x := by
  unfold insK
  by_cases h : x ∈ acc
  · rw [if_pos h]
    exact ⟨.inl, fun h' => h'.elim id fun e => e ▸ h⟩
  · rw [if_neg h]
    simp
theorem nodup_insK {acc : List (List Int)} {x : List Int} (h : acc.Nodup) : (insK acc x).Nodup := by
  unfold insK
  by_cases hx : x ∈ acc
  · rw [if_pos hx]; exact h
  · rw [if_neg hx]
    rw [List.nodup_append]
    refine ⟨h, by simp, fun a ha b hb => ?_⟩
    rw [List.mem_singleton.mp hb]
    exact fun e => hx (e ▸ ha)
def from1 (L : Ln) (acc : List (List Int)) (c : List Int) (m : Nat) : List (List Int) := ((L.wc c).ready.take m).foldl (fun acc k => insK acc (L.turn1 c k)) acc
def nextN (L : Ln) (ks : List (List Int)) (m : Nat) : List (List Int) := (ks.take m).foldl (fun acc c => from1 L acc c (L.wc c).ready.length) []
def lev (L : Ln) : Nat → List (List Int)
  | 0 => [L.c]
  | t + 1 => nextN L (lev L t) (lev L t).length
theorem from1_succ {acc : List (List Int)} {c : List Int} {m k : Nat} (h : (L.wc c).ready[m]? = some k) : from1 L acc c (m + 1) = insK (from1 L acc c m) (L.turn1 c k) := by
  unfold from1
  rw [take_succ_get h, List.foldl_append]
  rfl
theorem nextN_succ {ks : List (List Int)} {m : Nat} {c : List Int} (h : ks[m]? = some c) : nextN L ks (m + 1) = from1 L (nextN L ks m) c (L.wc c).ready.length := by
  unfold nextN
  rw [take_succ_get h, List.foldl_append]
  rfl
theorem fold_mem {α : Type} (f : α → List Int) : ∀ (l : List α) (acc : List (List Int)) (y : List Int), y ∈ l.foldl (fun acc k => insK acc (f k)) acc ↔ y ∈ acc ∨ ∃ k ∈ l, y = f k
  | [], acc, y => by simp
  | a :: l, acc, y => by
    rw [List.foldl_cons, fold_mem f l, mem_insK]
    simp [or_assoc]
theorem fold_nodup {α : Type} (f : α → List Int) : ∀ (l : List α) (acc : List (List Int)), acc.Nodup → (l.foldl (fun acc k => insK acc (f k)) acc).Nodup
  | [], acc, h => h
  | a :: l, acc, h => fold_nodup f l _ (nodup_insK h)
theorem mem_from1 {acc : List (List Int)} {c y : List Int} {m : Nat} : y ∈ from1 L acc c m ↔ y ∈ acc ∨ ∃ k ∈ (L.wc c).ready.take m, y = L.turn1 c k := fold_mem _ _ _ _
theorem mem_next2 : ∀ (l : List (List Int)) (acc : List (List Int)) (y : List Int), y ∈ l.foldl (fun acc c => from1 L acc c (L.wc c).ready.length) acc ↔ y ∈ acc ∨ ∃ c ∈ l, ∃ k ∈ (L.wc c).ready, y = L.turn1 c k
  | [], acc, y => by simp
  | a :: l, acc, y => by
    rw [List.foldl_cons, mem_next2 l, mem_from1, List.take_length]
    simp [or_assoc]
theorem mem_nextN {ks : List (List Int)} {m : Nat} {y : List Int} : y ∈ nextN L ks m ↔ ∃ c ∈ ks.take m, ∃ k ∈ (L.wc c).ready, y = L.turn1 c k := by
  unfold nextN
  rw [mem_next2]
  simp
theorem nodup_next2 : ∀ (l : List (List Int)) (acc : List (List Int)), acc.Nodup → (l.foldl (fun acc c => from1 L acc c (L.wc c).ready.length) acc).Nodup
  | [], acc, h => h
  | a :: l, acc, h => nodup_next2 l _ (fold_nodup _ _ _ h)
theorem nodup_nextN {ks : List (List Int)} {m : Nat} : (nextN L ks m).Nodup := nodup_next2 _ _ .nil
theorem nodup_lev : ∀ t, (L.lev t).Nodup
  | 0 => by simp [lev]
  | t + 1 => nodup_nextN
theorem flip_none : L.flip (fun _ => false) = L.c := by
  apply List.ext_getElem?
  intro k
  by_cases h : k < L.n
  · rw [flip_get h, Ln.get h]
    simp
  · rw [List.getElem?_eq_none (by rw [flip_len]; omega), List.getElem?_eq_none (by show L.n ≤ k; omega)]
theorem flip_congr {S T : Nat → Bool} (h : ∀ k, k < L.n → S k = T k) : L.flip S = L.flip T := by
  unfold flip
  refine List.map_congr_left fun k hk => ?_
  rw [h k (List.mem_range.mp hk)]
theorem ind_none : Ind L (fun _ => false) := ⟨(fun _ _ h => Bool.noConfusion h), (fun _ _ h => Bool.noConfusion h)⟩
/-- what is on a level -/
theorem lev_ind : ∀ t c, c ∈ L.lev t → ∃ S, Ind L S ∧ L.card S = t ∧ c = L.flip S
  | 0, c, h => by
    have e : c = L.c := by simpa [lev] using h
    exact ⟨fun _ => false, ind_none, by simp [card], by rw [e, flip_none]⟩
  | t + 1, c, h => by
    obtain ⟨c0, h0, k, hk, rfl⟩ := mem_nextN.mp h
    rw [List.take_length] at h0
    obtain ⟨S, I, hc, rfl⟩ := lev_ind t c0 h0
    obtain ⟨hkn, hkr⟩ := mem_ready.mp hk
    rw [wc_n flip_len] at hkn
    refine ⟨Ln.add S k, I.add hkn hkr, ?_, turn1_flip I hkn hkr⟩
    have hSk : S k = false := by
      rw [rdy_flip I hkn] at hkr
      simp only [Bool.and_eq_true, Bool.not_eq_true'] at hkr
      exact hkr.2.1
    have hm : k ∈ (List.range L.n).filter (Ln.add S k) := by simp [Ln.add, hkn]
    have hp : ((List.range L.n).filter (Ln.add S k)).Perm (k :: (List.range L.n).filter S) := by
      rw [List.perm_ext_iff_of_nodup ((List.nodup_range).filter _) (by rw [List.nodup_cons]; exact ⟨by simp [hSk], (List.nodup_range).filter _⟩)]
      intro j
      simp only [List.mem_filter, List.mem_range, List.mem_cons, Ln.add, Bool.or_eq_true, decide_eq_true_eq]
      constructor
      · rintro ⟨a, b | b⟩
        · exact .inl b
        · exact .inr ⟨a, b⟩
      · rintro (a | ⟨a, b⟩)
        · exact ⟨a ▸ hkn, .inl a⟩
        · exact ⟨a, .inr b⟩
    unfold card at hc ⊢
    rw [hp.length_eq, List.length_cons, hc]
theorem ind_lev : ∀ t (S : Nat → Bool), Ind L S → L.card S = t → L.flip S ∈ L.lev t
  | 0, S, I, hc => by
    have hS : ∀ k, k < L.n → S k = false := fun k hk => by
      cases e : S k with
      | false => rfl
      | true =>
        have : k ∈ (List.range L.n).filter S := by simp [hk, e]
        rw [List.eq_nil_of_length_eq_zero hc] at this
        cases this
    have e : L.flip S = L.c := by rw [← flip_none]; exact flip_congr hS
    rw [e]
    simp [lev]
  | t + 1, S, I, hc => by
    obtain ⟨k, hk⟩ : ∃ k, k ∈ (List.range L.n).filter S := by
      cases h : (List.range L.n).filter S with
      | nil => unfold card at hc; rw [h] at hc; cases hc
      | cons a l => exact ⟨a, by simp⟩
    simp only [List.mem_filter, List.mem_range] at hk
    let T : Nat → Bool := fun j => !decide (j = k) && S j
    have IT : Ind L T := by
      refine ⟨fun j hj hs => ?_, fun j hj hs => ?_⟩
      · have h2 : S j = true := by simp [T] at hs; exact hs.2
        exact I.rd j hj h2
      · have h2 : S j = true := by simp [T] at hs; exact hs.2
        have h1 := I.lf j hj h2
        simp [T, h1]
    have hTk : T k = false := by simp [T]
    have e : ∀ j, j < L.n → S j = Ln.add T k j := fun j _ => by
      by_cases h : j = k
      · subst h; simp [Ln.add, hk.2]
      · simp [Ln.add, T, h]
    have hp : ((List.range L.n).filter S).Perm (k :: (List.range L.n).filter T) := by
      rw [List.perm_ext_iff_of_nodup ((List.nodup_range).filter _) (by rw [List.nodup_cons]; exact ⟨by simp [hTk], (List.nodup_range).filter _⟩)]
      intro j
      simp only [List.mem_filter, List.mem_range, List.mem_cons]
      by_cases h : j = k
      · subst h; simp [hk]
      · simp [h, T]
    have hcT : L.card T = t := by
      unfold card at hc ⊢
      rw [hp.length_eq, List.length_cons] at hc
      omega
    have hr : (L.wc (L.flip T)).rdy k = true := by
      rw [rdy_flip IT hk.1]
      have h1 := I.lf k hk.1 hk.2
      have h2 := I.rt hk.1 hk.2
      simp [I.rd k hk.1 hk.2, hTk, T, h1, h2]
    have h0 := ind_lev t T IT hcT
    rw [flip_congr e, ← turn1_flip IT hk.1 hr]
    exact mem_nextN.mpr ⟨_, by rw [List.take_length]; exact h0, k, mem_ready.mpr ⟨by rw [wc_n flip_len]; exact hk.1, hr⟩, rfl⟩
theorem card_le (S : Nat → Bool) : L.card S ≤ L.n := by
  have h := List.length_filter_le S (List.range L.n)
  rw [List.length_range] at h
  exact h
theorem lev_end {t : Nat} (h : L.lev t = []) : ∀ u, t ≤ u → L.lev u = [] := by
  intro u hu
  induction u with
  | zero =>
    have : t = 0 := by omega
    rw [← this]; exact h
  | succ u ih =>
    by_cases e : t = u + 1
    · rw [← e]; exact h
    · show nextN L (L.lev u) (L.lev u).length = []
      rw [ih (by omega)]
      rfl
/-! how many -/
def allS : Nat → List (Nat → Bool)
  | 0 => [fun _ => false]
  | n + 1 => (allS n).flatMap fun S => [S, fun k => decide (k = n) || S k]
theorem allS_len : ∀ n, (allS n).length = 2 ^ n
  | 0 => rfl
  | n + 1 => by
    have h : ∀ l : List (Nat → Bool), (l.flatMap fun S => [S, fun k => decide (k = n) || S k]).length = 2 * l.length := by
      intro l
      induction l with
      | nil => rfl
      | cons a l ih => rw [List.flatMap_cons, List.length_append, ih, List.length_cons]; simp; omega
    show ((allS n).flatMap _).length = _
    rw [h, allS_len n, Nat.pow_succ, Nat.mul_comm]
theorem allS_high : ∀ n S, S ∈ allS n → ∀ k, n ≤ k → S k = false
  | 0, S, h, k, _ => by
    have : S = fun _ => false := by simpa [allS] using h
    rw [this]
  | n + 1, S, h, k, hk => by
    obtain ⟨T, hT, hS⟩ := List.mem_flatMap.mp h
    have ih := allS_high n T hT k (by omega)
    simp only [List.mem_cons, List.not_mem_nil, or_false] at hS
    rcases hS with rfl | rfl
    · exact ih
    · have : k ≠ n := by omega
      simp [ih, this]
theorem allS_has : ∀ n (S : Nat → Bool), ∃ T ∈ allS n, ∀ k, k < n → T k = S k
  | 0, S => ⟨fun _ => false, by simp [allS], fun k hk => absurd hk (by omega)⟩
  | n + 1, S => by
    obtain ⟨T, hT, h⟩ := allS_has n S
    cases e : S n with
    | false =>
      refine ⟨T, List.mem_flatMap.mpr ⟨T, hT, by simp⟩, fun k hk => ?_⟩
      by_cases hk2 : k = n
      · rw [hk2, e]
        exact allS_high n T hT n (Nat.le_refl _)
      · exact h k (by omega)
    | true =>
      refine ⟨fun k => decide (k = n) || T k, List.mem_flatMap.mpr ⟨T, hT, by simp⟩, fun k hk => ?_⟩
      by_cases hk2 : k = n
      · simp [hk2, e]
      · simp [hk2]
        exact h k (by omega)
theorem sub_len {α : Type} [DecidableEq α] : ∀ {l m : List α}, l.Nodup → (∀ x ∈ l, x ∈ m) → l.length ≤ m.length
  | [], m, _, _ => Nat.zero_le _
  | a :: l, m, nd, h => by
    have ha := h a (by simp)
    have n2 := List.nodup_cons.mp nd
    have h2 : ∀ x ∈ l, x ∈ m.erase a := fun x hx => (List.mem_erase_of_ne (fun e : x = a => n2.1 (e ▸ hx))).mpr (h x (by simp [hx]))
    have h3 := sub_len n2.2 h2
    have h4 := List.length_erase_of_mem ha
    have h5 : 0 < m.length := List.length_pos_of_mem ha
    rw [List.length_cons]
    omega
def Flips (L : Ln) (ks : List (List Int)) : Prop := ∀ c ∈ ks, ∃ S, Ind L S ∧ c = L.flip S
theorem few {ks : List (List Int)} (nd : ks.Nodup) (h : Flips L ks) (hn : L.n ≤ 11) : ks.length ≤ 2048 := by
  have h1 : ks.length ≤ ((allS L.n).map L.flip).length := sub_len nd fun c hc => by
    obtain ⟨S, _, rfl⟩ := h c hc
    obtain ⟨T, hT, e⟩ := allS_has L.n S
    exact List.mem_map.mpr ⟨T, hT, flip_congr e⟩
  rw [List.length_map, allS_len] at h1
  exact Nat.le_trans h1 (Nat.pow_le_pow_right (by decide) hn)
theorem lev_flips (t : Nat) : Flips L (L.lev t) := fun c hc => let ⟨S, I, _, e⟩ := lev_ind t c hc; ⟨S, I, e⟩
theorem next_flips {ks : List (List Int)} (h : Flips L ks) (m : Nat) : Flips L (nextN L ks m) := fun y hy => by
  obtain ⟨c, hc, k, hk, rfl⟩ := mem_nextN.mp hy
  obtain ⟨S, I, rfl⟩ := h c (List.mem_of_mem_take hc)
  obtain ⟨hkn, hkr⟩ := mem_ready.mp hk
  rw [wc_n flip_len] at hkn
  exact ⟨Ln.add S k, I.add hkn hkr, turn1_flip I hkn hkr⟩
theorem from_flips {acc : List (List Int)} {c : List Int} (h : Flips L acc) (hc : ∃ S, Ind L S ∧ c = L.flip S) (m : Nat) : Flips L (from1 L acc c m) := fun y hy => by
  rcases mem_from1.mp hy with hy | ⟨k, hk, rfl⟩
  · exact h y hy
  · obtain ⟨S, I, rfl⟩ := hc
    obtain ⟨hkn, hkr⟩ := mem_ready.mp (List.mem_of_mem_take hk)
    rw [wc_n flip_len] at hkn
    exact ⟨Ln.add S k, I.add hkn hkr, turn1_flip I hkn hkr⟩
theorem ok_flip (ok : L.Ok) (S : Nat → Bool) : Ln.Ok (L.wc (L.flip S)) := by
  refine ⟨?_, fun h => ?_, ?_, fun x hx => ?_, ok.asc, fun k hk => ?_⟩
  · rw [wc_n flip_len]; exact ok.one
  · rw [wc_n flip_len]; exact ok.ring h
  · rw [wc_n flip_len]; exact ok.most
  · unfold flip at hx
    obtain ⟨k, hk, rfl⟩ := List.mem_map.mp hx
    have hk := List.mem_range.mp hk
    split
    · exact ok.cols _ (List.mem_of_getElem? (Ln.get (lf_lt ok.one k)))
    · exact ok.cols _ (List.mem_of_getElem? (Ln.get hk))
  · rw [wc_n flip_len]; exact ok.mem k hk
end Ln
end Fk
end
section
set_option Elab.async false
set_option linter.all false
set_option maxRecDepth 100000
set_option maxHeartbeats 4000000
/-! E6: states one turn at a time, and the ends. -/
namespace Fk
open PySem PySem.Spec L2
open PyProof.Rows hiding St
local macro_rules | `(tactic| walk_at "gr") => `(tactic| first | assumption | exact Same.refl _ | (refine Same.trans ?_ (Grow.g (by assumption)); walk_at "gr"))
local macro_rules | `(tactic| walk_at "da") => `(tactic| first | assumption | exact Da.int _ | exact Da.bl _ | exact Da.non | (refine Da.mono ?_ (by assumption); walk_at "gr"))
local macro_rules | `(tactic| walk_at "dp") => `(tactic| (simp only [PyData.depth, PyData.depthAll, depthAll_dI, depthAll_dN, Nat.max_zero, Nat.zero_max, Nat.max_self, Nat.min_self, Nat.zero_min, Nat.min_zero] <;> omega))
local macro_rules | `(tactic| walk_at "bt") => `(tactic| first | exact Bt.isi (by assumption) | exact Bt.int (by assumption) | exact Bt.bool (by assumption) | exact Bt.tuple (by assumption) | exact Bt.len (by assumption) | exact Bt.list (by assumption) | exact Bt.set (by assumption) | exact Bt.sorted (by assumption) | exact Bt.range (by assumption) | exact Bt.enum (by assumption) | exact Bt.zip (by assumption) | exact Bt.min (by assumption) | exact Bt.max (by assumption) | exact Bt.sum (by assumption) | exact Bt.dict (by assumption) | exact Bt.str (by assumption))
local macro_rules | `(tactic| walk_at "au") => `(tactic| first | (apply prop_id; assumption) | (show PySem.W.keepIn _ _ = true; assumption) | (show (_ : Option Value) = none; walk_at "bt") | rfl | (show min _ _ ≤ 64; first | decide | walk_at "dp") | (show _ ≤ sizeLine; first | assumption | (simp only [List.length_cons, List.length_nil]; decide)) | (show (_ : Nat) ≤ _; decide) | (show (_ == _) = false; decide) | (show _ ≠ _; decide) | (show behindInMarks _ _ = false; first | exact nomark _ | with_unfolding_all rfl) | (show lastMarks _ _ = false; with_unfolding_all rfl) | (show OpR _ _ _; first | exact op_le | exact op_lt | exact opI_eq | exact opI_ne) | exact (fun _ _ => rfl) | (show ∀ _, _ = _; intro _; rfl) | exact Or.inl rfl | exact Or.inr rfl)
local macro_rules | `(tactic| walk_at "dt") => `(tactic| first | show Bool | show Int | show PyData | show List PyData | show List Int | show Nat | show Option Int | show V)
local macro_rules | `(tactic| walk_at "Se1") => `(tactic| first | walk_at "dt" | walk_at "Sev" | walk_at "au" | (apply Side.mk; walk_at "au"))
local macro_rules | `(tactic| walk_at "Scm") => `(tactic| first | (apply cm_lt <;> walk_at "Se1") | (apply cm_le <;> walk_at "Se1") | (apply cm_gt <;> walk_at "Se1") | (apply cm_ge <;> walk_at "Se1") | (apply cm_eq <;> walk_at "Se1") | (apply cm_ne <;> walk_at "Se1") | (apply cm_inL <;> walk_at "Se1") | (apply cm_inT <;> walk_at "Se1") | (apply cm_niL <;> walk_at "Se1") | (apply cm_niT <;> walk_at "Se1") | (apply cm_is <;> walk_at "Se1") | (apply cm_isnot <;> walk_at "Se1"))
local macro_rules | `(tactic| walk_at "Set") => `(tactic| first | (apply et_cmp <;> walk_at "Se1") | (apply et_not <;> walk_at "Se1") | (apply et_w; walk_at "Sew") | (apply et_chain <;> walk_at "Se1") | (apply et_val <;> walk_at "Se1"))
local macro_rules | `(tactic| walk_at "Sew") => `(tactic| first | (apply ew_and <;> walk_at "Sew1") | (apply ew_or <;> walk_at "Sew1") | (apply ew_and1; walk_at "Sev") | (apply ew_or1; walk_at "Sev"))
local macro_rules | `(tactic| walk_at "Sew1") => `(tactic| first | walk_at "dt" | (show Et _ _ _ _ _ _; walk_at "Sev") | (intro _; walk_at "Sew"))
local macro_rules | `(tactic| walk_at "Sec") => `(tactic| first | (apply ed_not <;> walk_at "Se1") | (apply ed_and <;> walk_at "Se1") | (apply ed_or <;> walk_at "Se1") | (apply ed_one <;> walk_at "Se1") | (apply ed_cmp <;> walk_at "Se1") | (apply ed_chain <;> walk_at "Se1"))
local macro_rules | `(tactic| walk_at "Seb") => `(tactic| first | (apply ed_lenT <;> walk_at "Se1") | (apply ed_lenL <;> walk_at "Se1") | (apply ed_call <;> walk_at "Se1") | (apply ed_isInt <;> walk_at "Se1") | (apply ed_isBool <;> walk_at "Se1") | (apply ed_isTuple <;> walk_at "Se1") | (apply ed_isList <;> walk_at "Se1") | (apply ed_isStr <;> walk_at "Se1") | (apply ed_isTL <;> walk_at "Se1") | (apply ed_listOf <;> walk_at "Se1") | (apply ed_tupleOf <;> walk_at "Se1") | (apply ed_min2 <;> walk_at "Se1") | (apply ed_int1 <;> walk_at "Se1"))
local macro_rules | `(tactic| walk_at "Sei") => `(tactic| first | (apply ed_ixT <;> walk_at "Se1") | (apply ed_ixL <;> walk_at "Se1"))
local macro_rules | `(tactic| walk_at "Sex") => `(tactic| first | exact ed_int | exact ed_bl | exact ed_non | exact ed_nm rfl (by walk_at "da") | (apply ed_add <;> walk_at "Se1") | (apply ed_sub <;> walk_at "Se1") | (apply ed_neg <;> walk_at "Se1") | walk_at "Sei" | (apply ed_tup <;> walk_at "Se1") | (apply ed_lst <;> walk_at "Se1") | (apply ed_mod <;> walk_at "Se1") | (apply ed_ifI <;> walk_at "Se1") | (apply ed_if2 <;> walk_at "Se1") | (apply ed_slT <;> walk_at "Se1") | (apply ed_slL <;> walk_at "Se1") | (apply ed_catT <;> walk_at "Se1"))
local macro_rules | `(tactic| walk_at "Sev") => `(tactic| first | (show Ed _ _ _ _ _ _; first | walk_at "Sex" | walk_at "Seb" | walk_at "Sec") | (show Et _ _ _ _ _ _; walk_at "Set") | (show Cm _ _ _ _ _ _ _ _; walk_at "Scm") | (show Ea _ _ _ _ _ _; first | exact ea_nil | (apply ea_cons <;> walk_at "Se1")) | (show Eo _ _ _ _ _ _; first | exact eo_none | (apply eo_some; walk_at "Sev")) | (show Er _ _ _ _ _ _; exact er_nm rfl) | (show Ew _ _ _ _ _ _; walk_at "Sew") | (intro _; walk_at "Sev"))
local macro_rules | `(tactic| walk_at "e1") => `(tactic| first | walk_at "dt" | walk_at "ev" | walk_at "au" | (apply Side.mk; first | walk_at "au" | skip))
local macro_rules | `(tactic| walk_at "cm") => `(tactic| first | (apply cm_lt <;> walk_at "e1") | (apply cm_le <;> walk_at "e1") | (apply cm_gt <;> walk_at "e1") | (apply cm_ge <;> walk_at "e1") | (apply cm_eq <;> walk_at "e1") | (apply cm_ne <;> walk_at "e1") | (apply cm_inL <;> walk_at "e1") | (apply cm_inT <;> walk_at "e1") | (apply cm_niL <;> walk_at "e1") | (apply cm_niT <;> walk_at "e1") | (apply cm_is <;> walk_at "e1") | (apply cm_isnot <;> walk_at "e1"))
local macro_rules | `(tactic| walk_at "et") => `(tactic| first | (apply et_cmp <;> walk_at "e1") | (apply et_not <;> walk_at "e1") | (apply et_w; walk_at "ew") | (apply et_chain <;> walk_at "e1") | (apply et_val <;> walk_at "e1"))
local macro_rules | `(tactic| walk_at "ew") => `(tactic| first | (apply ew_and <;> walk_at "ew1") | (apply ew_or <;> walk_at "ew1") | (apply ew_and1; walk_at "ev") | (apply ew_or1; walk_at "ev"))
local macro_rules | `(tactic| walk_at "ew1") => `(tactic| first | walk_at "dt" | (show Et _ _ _ _ _ _; walk_at "ev") | (intro _; walk_at "ew"))
local macro_rules | `(tactic| walk_at "ec") => `(tactic| first | (apply ed_not <;> walk_at "e1") | (apply ed_and <;> walk_at "e1") | (apply ed_or <;> walk_at "e1") | (apply ed_one <;> walk_at "e1") | (apply ed_cmp <;> walk_at "e1") | (apply ed_chain <;> walk_at "e1"))
local macro_rules | `(tactic| walk_at "eb") => `(tactic| first | walk_at "Seb" | (apply ed_lenT <;> walk_at "e1") | (apply ed_lenL <;> walk_at "e1") | (apply ed_call <;> walk_at "e1") | (apply ed_isInt <;> walk_at "e1") | (apply ed_isBool <;> walk_at "e1") | (apply ed_isTuple <;> walk_at "e1") | (apply ed_isList <;> walk_at "e1") | (apply ed_isStr <;> walk_at "e1") | (apply ed_isTL <;> walk_at "e1") | (apply ed_listOf <;> walk_at "e1") | (apply ed_tupleOf <;> walk_at "e1") | (apply ed_min2 <;> walk_at "e1") | (apply ed_int1 <;> walk_at "e1"))
local macro_rules | `(tactic| walk_at "ei") => `(tactic| first | walk_at "Sei" | (apply ed_ixT <;> walk_at "e1") | (apply ed_ixL <;> walk_at "e1"))
local macro_rules | `(tactic| walk_at "ex") => `(tactic| first | exact ed_int | exact ed_bl | exact ed_non | exact ed_nm rfl (by walk_at "da") | (apply ed_add <;> walk_at "e1") | (apply ed_sub <;> walk_at "e1") | (apply ed_neg <;> walk_at "e1") | walk_at "ei" | (apply ed_tup <;> walk_at "e1") | (apply ed_lst <;> walk_at "e1") | (apply ed_mod <;> walk_at "e1") | (apply ed_ifI <;> walk_at "e1") | (apply ed_if2 <;> walk_at "e1") | (apply ed_slT <;> walk_at "e1") | (apply ed_slL <;> walk_at "e1") | (apply ed_catT <;> walk_at "e1"))
local macro_rules | `(tactic| walk_at "ev") => `(tactic| first | (show Ed _ _ _ _ _ _; first | walk_at "ex" | walk_at "eb" | walk_at "ec") | (show Et _ _ _ _ _ _; walk_at "et") | (show Cm _ _ _ _ _ _ _ _; walk_at "cm") | (show Ea _ _ _ _ _ _; first | exact ea_nil | (apply ea_cons <;> walk_at "e1")) | (show Eo _ _ _ _ _ _; first | exact eo_none | (apply eo_some; walk_at "ev")) | (show Er _ _ _ _ _ _; exact er_nm rfl) | (show Ew _ _ _ _ _ _; walk_at "ew") | (intro _; walk_at "ev"))
/-- a dict that stands locked, its keys cells, its values ints -/
def Dt (G : Hp) (v : V) (ks : List (List Int)) : Prop := ∃ d o kvs, v = .ref d ∧ G d = some (.frz o (.dT kvs)) ∧ kvs.map (·.1) = ks.map tk ∧ ∀ kv ∈ kvs, ∃ i, kv.2 = .int i
theorem Dt.mono {G G' : Hp} {v : V} {ks : List (List Int)} (e : Same G G') (h : Dt G v ks) : Dt G' v ks := let ⟨d, o, kvs, a, b, c⟩ := h; ⟨d, o, kvs, a, e _ _ b, c⟩
def FoundAt (G : Hp) (p : Addr) (kss : List (List (List Int))) : Prop := ∃ xs, G p = some (.lst xs) ∧ xs.length = kss.length ∧ ∀ (i : Nat) v ks, xs[i]? = some v → kss[i]? = some ks → Dt G v ks
theorem putK_keys {kvs : List (List L2.Key × V)} {ks : List (List Int)} {c : List Int} {v : V} (h : kvs.map (·.1) = ks.map tk) : (putK kvs (tk c) v).map (·.1) = (Ln.insK ks c).map tk := by
  unfold Ln.insK
  by_cases hc : c ∈ ks
  · rw [if_pos hc]
    have hs : (kvs.any fun kv => decide (kv.1 = tk c)) = true := by
      rw [List.any_eq_true]
      have : tk c ∈ kvs.map (·.1) := by rw [h]; exact List.mem_map.mpr ⟨c, hc, rfl⟩
      obtain ⟨kv, hk, e⟩ := List.mem_map.mp this
      exact ⟨kv, hk, by simpa using e⟩
    unfold putK
    rw [if_pos hs, List.map_map, ← h]
    refine List.map_congr_left fun kv hk => ?_
    show (if kv.1 = tk c then (kv.1, v) else kv).1 = kv.1
    split <;> rfl
  · rw [if_neg hc, putK_new]
    · rw [List.map_append, List.map_append, h]
      rfl
    · refine valV_none fun hm => ?_
      rw [h] at hm
      obtain ⟨j, hj, e⟩ := List.mem_map.mp hm
      exact hc (tk_inj e ▸ hj)
theorem putK_ints {κ : Type} [DecidableEq κ] {kvs : List (κ × V)} {k : κ} {n : Int} (h : ∀ kv ∈ kvs, ∃ i, kv.2 = .int i) : ∀ kv ∈ putK kvs k (.int n), ∃ i, kv.2 = .int i := by
  intro kv hkv
  unfold putK at hkv
  split at hkv
  · obtain ⟨p, hp, rfl⟩ := List.mem_map.mp hkv
    split
    · exact ⟨n, rfl⟩
    · exact h p hp
  · rcases List.mem_append.mp hkv with h1 | h1
    · exact h kv h1
    · rw [List.mem_singleton.mp h1]; exact ⟨n, rfl⟩
theorem valV_mem {κ : Type} [DecidableEq κ] {kvs : List (κ × V)} {k : κ} {w : V} (h : valV kvs k = some w) : (k, w) ∈ kvs := by
  unfold valV at h
  obtain ⟨q, hq, e⟩ := Option.map_eq_some_iff.mp h
  have hk := List.find?_some hq
  have hk2 : q.1 = k := by simpa using hk
  have hm := List.mem_of_find?_eq_some hq
  have : q = (k, w) := Prod.ext hk2 e
  rw [← this]; exact hm
theorem valV_has {κ : Type} [DecidableEq κ] {kvs : List (κ × V)} {k : κ} (h : k ∈ kvs.map (·.1)) : ∃ w, valV kvs k = some w := by
  cases hv : valV kvs k with
  | some w => exact ⟨w, rfl⟩
  | none =>
    unfold valV at hv
    rw [Option.map_eq_none_iff, List.find?_eq_none] at hv
    obtain ⟨p, hp, e⟩ := List.mem_map.mp h
    exact absurd (by simpa using e) (hv p hp)
def spSing : Sp := fun vs H Q _ => ∃ G ds L, Ln.Ok L ∧ L.n ≤ 11 ∧ ds = [L.d] ∧ Same G H ∧ DaAll G vs ds ∧ ∀ p kss G' H', Grow G H G' H' → H p = none → FoundAt G' p kss → (∀ ks ∈ kss, Ln.Flips L ks) → (∀ t, t ≤ L.n → ∀ c ∈ L.lev t, ∃ ks ∈ kss, c ∈ ks) → Q (.ref p) H'
theorem cut_ints (l : List Int) (k : Nat) : cutP (dI l) none (some (k : Int)) = dI (l.take k) ∧ cutP (dI l) (some ((k : Int) + 1)) none = dI (l.drop (k + 1)) := by
  refine ⟨cutP_dI l rfl, ?_⟩
  unfold cutP
  have e : ((k : Int) + 1) = ((k + 1 : Nat) : Int) := by omega
  rw [e, HT.sIx_nat, HT.sIx_none, dI_length]
  unfold dI
  rw [List.map_drop]
  by_cases h : k + 1 ≤ l.length
  · rw [Nat.min_eq_left h]
    exact List.take_of_length_le (by rw [List.length_drop, List.length_map]; exact Nat.le_refl _)
  · rw [Nat.min_eq_right (by omega), Nat.sub_self, List.take_zero, List.drop_eq_nil_of_le (by rw [List.length_map]; omega)]
section
variable {P : Program} {w : World} {K : PySem.W.Frag} {mg : Str → Option Value} {base : Heap}
set_option maxHeartbeats 4000000 in
theorem ok_singles (D : Df K mg "_law_singles" s__law_singles) (B : Bt mg) (O1 : Own P w K mg base "_law_ready" 2 (spD R_lready)) : Own P w K mg base "_law_singles" 3 spSing := by
  refine Own.mk' D sc__law_singles (fun _ _ _ _ _ _ us hl => match us, hl with | [_], _ => rfl) (fun vs H Q E ⟨_, _, _, _, _, e, _, h, _⟩ => by rw [h.len, e]; rfl) ?_
  rintro f cdv A outer s H vs Q E hr ⟨G, _, L, ok, h11, rfl, i0, hvs, q⟩
  obtain ⟨x1, rfl, h1⟩ := hvs.inv1
  have h1d := h1
  unfold Ln.d at h1
  have hn1 := ok.one
  have e1 : (dI L.c).length = L.n := by rw [dI_length]; rfl
  refine rb_cons (rs_par (G := G) (P := fun vs G2 H2 => ∃ p d w, vs = [.ref p, .ref d] ∧ H p = none ∧ H d = none ∧ G2 p = none ∧ G2 d = none ∧ H2 p = some (.lst []) ∧ H2 d = some (.dT [(tk L.c, w)]) ∧ Da G2 w (.int 1) ∧ p ≠ d) ?_ (fun vs G2 H2 ⟨_, _, _, e, _⟩ => by rw [e]; rfl) sc__law_singles.nd ?_)
  · intro Q' q'
    refine ra_of (pa_cons pe_self (pa_cons pe_self pa_nil rfl) rfl) ((en_lst (X := CtxOf P w K mg base N__law_singles "_law_singles" s__law_singles f cdv A outer s H E) (G := G) (H := H) ea_nil).run G H (.refl i0) _ fun p xs G2 H2 g2 p0 pG pH hxs => (ev_disp1 (k := L.c) (d := .int 1) hr g2.i ?_ ed_int).run _ fun v G3 H3 g3 ⟨d, w, ed, d0, dG, dH, dw⟩ => ?_)
    · show Ed _ _ _ _ _ (.tuple (dI L.c))
      have h1' := h1.mono g2.g
      refine ed_ixT (ds := [.tuple (dI L.c), .tuple (dN L.h), .bool L.r]) (i := 0) (ed_nm rfl h1') ed_int ⟨rfl⟩
    · cases hxs.inv_nil
      subst ed
      exact q' _ G3 H3 (g2.trans g3) ⟨p, d, w, rfl, p0, g2.none_h d0, g3.n' pG pH, dG, g3.h _ _ pH, dH, dw, ne_of_none pH d0⟩
  rintro v1 v2 G1 H1 g1 ⟨p, d, w0, e, p0, d0, pG, dG, pH, dH, hw0, hpd⟩
  cases e
  cases hw0.inv_int
  -- the first dict is locked
  refine rb_frz dH trivial fun od => ?_
  have g1f : Grow G H (upd G1 d (.frz od (.dT [(tk L.c, .int 1)]))) (upd H1 d (.frz od (.dT [(tk L.c, .int 1)]))) := g1.fix d0 dG
  have pGf : (upd G1 d (.frz od (.dT [(tk L.c, .int 1)]))) p = none := by rw [upd_ne hpd]; exact pG
  have pHf : (upd H1 d (.frz od (.dT [(tk L.c, .int 1)]))) p = some (.lst []) := by rw [upd_ne hpd]; exact pH
  have dt0 : Dt (upd G1 d (.frz od (.dT [(tk L.c, .int 1)]))) (.ref d) [L.c] := ⟨d, od, _, rfl, upd_same, rfl, fun kv hk => by rw [List.mem_singleton.mp hk]; exact ⟨1, rfl⟩⟩
  generalize upd G1 d (.frz od (.dT [(tk L.c, .int 1)])) = G2 at g1f pGf dt0
  generalize upd H1 d (.frz od (.dT [(tk L.c, .int 1)])) = H2 at g1f pHf
  have h12 := h1.mono g1f.g
  refine rb_cons (rs_for (es_range B.range (n := L.n + 1) (Ed.is (ed_add (ed_lenT (ds := dI L.c) B.len (ed_ixT (ds := [.tuple (dI L.c), .tuple (dN L.h), .bool L.r]) (i := 0) (ed_nm rfl h12) ed_int ⟨rfl⟩)) ed_int) (by rw [e1]; rfl)) (by omega)) g1f.i (fun i d hd => bd_name (i := 3) sc__law_singles.nd)
    (fun t σ' G' H' => Grow G H G' H' ∧ (∃ v a b c e f, σ' = [some x1, some (.ref p), some v, a, b, c, e, f] ∧ Dt G' v (L.lev t)) ∧ G' p = none ∧ ∃ xs, H' p = some (.lst xs) ∧ xs.length = t ∧ ∀ (i : Nat) v, xs[i]? = some v → Dt G' v (L.lev i)) ?_ ?_ ?_)
  · intro G3 H3 g3
    exact ⟨g1f.trans g3, ⟨_, _, _, _, _, _, rfl, dt0.mono g3.g⟩, g3.n' pGf pHf, [], g3.h _ _ pHf, rfl, fun i v h => by simp at h⟩
  · rintro t d0' σ1 G3 H3 G4 H4 σ2 hd s1 s2 ⟨gb, ⟨vr, oa, ob, oc, oe, of', rfl, hvr⟩, hG3, xs, hH3, hxl, hxs⟩ g4 ⟨v, rfl, hv⟩
    obtain ⟨htn, rfl⟩ := range_get hd
    have gb4 := gb.trans g4
    have hH4 := g4.h _ _ hH3
    have hG4 := g4.n' hG3 hH3
    -- found.append(rows)
    refine rb_cons (rs_app (l := p) (xs := xs) (er_nm rfl) (fun G5 H5 g5 => Er.ev (v := vr) (er_nm rfl) g5.i) g4.i hH4 (by rw [hxl]; exact small40 (by omega)) ?_)
    rintro w5 G5 H5 g5 ew
    subst ew
    have hG5 := g5.n' hG4 hH4
    have gb5 : Grow G H G5 (upd H5 p (.lst (xs ++ [w5]))) := (gb4.trans g5).mut p0 hG5
    have hH5 : (upd H5 p (.lst (xs ++ [w5]))) p = some (.lst (xs ++ [w5])) := upd_same
    have hxs5 : ∀ (i : Nat) v, (xs ++ [w5])[i]? = some v → Dt G5 v (L.lev i) := fun i v hi => by
      by_cases hlt : i < xs.length
      · rw [List.getElem?_append_left hlt] at hi
        exact (hxs i v hi).mono (g4.g.trans g5.g)
      · have hl := (List.getElem?_eq_some_iff.mp hi).1
        rw [List.length_append] at hl
        have e : i = t := by simp at hl; omega
        rw [List.getElem?_append_right (by omega), e, hxl, Nat.sub_self] at hi
        cases hi
        rw [e]
        exact hvr.mono (g4.g.trans g5.g)
    have hvr5 := hvr.mono (g4.g.trans g5.g)
    refine (show RB _ _ _ _ (upd H5 p (.lst (xs ++ [w5]))) from ?_)
    generalize upd H5 p (.lst (xs ++ [w5])) = H5' at gb5 hH5
    -- more = {}
    refine rb_cons (rs_set (ev_newT gb5.i) sc__law_singles.nd ?_)
    rintro _ G6 H6 g6 ⟨m, rfl, m0, mG, mH⟩
    have gb6 := gb5.trans g6
    have m00 : H m = none := gb5.none_h m0
    have hH6 := g6.h _ _ hH5
    have hG6 := g6.n' hG5 hH5
    have hvr6 := hvr5.mono g6.g
    have hpm : p ≠ m := ne_of hH6 mH nofun
    obtain ⟨dr, orr, kvr, rfl, hGr, hkr, hir⟩ := id hvr6
    refine rb_cons (rs_for (es_keysT (er_nm (v := .ref dr) rfl) hGr hkr) g6.i (fun i d hd => bd_name (i := 5) sc__law_singles.nd)
      (fun j σ' G' H' => Grow G H G' H' ∧ Same G6 G' ∧ (∃ b c e f, σ' = [some x1, some (.ref p), some (.ref dr), b, some (.ref m), c, e, f]) ∧ G' p = none ∧ H' p = some (.lst (xs ++ [.ref dr])) ∧ G' m = none ∧
        ∃ kvs, H' m = some (.dT kvs) ∧ kvs.map (·.1) = (Ln.nextN L (L.lev t) j).map tk ∧ ∀ kv ∈ kvs, ∃ i, kv.2 = .int i) ?_ ?_ ?_)
    · intro G7 H7 g7
      exact ⟨gb6.trans g7, g7.g, ⟨_, _, _, _, rfl⟩, g7.n' hG6 hH6, g7.h _ _ hH6, g7.n' mG mH, [], g7.h _ _ mH, rfl, nofun⟩
    · rintro j d σ3 G7 H7 G8 H8 σ4 hd' t1 t2 ⟨gc, s67, ⟨ob', oc', oe', of'', rfl⟩, hG7, hH7, mG7, kvs, mH7, hkv, hint⟩ g8 ⟨vc, rfl, hvc⟩
      obtain ⟨c, hc, rfl⟩ := map_get' hd'
      obtain ⟨S, I, hcS⟩ := Ln.lev_flips (L := L) t c (List.mem_of_getElem? hc)
      have hcl : c.length = L.n := by rw [hcS, Ln.flip_len]
      have okc : Ln.Ok (L.wc c) := by rw [hcS]; exact Ln.ok_flip ok S
      have gc8 := gc.trans g8
      have h18 := h1.mono gc8.g
      have hvc' : Da G8 vc (.tuple (dI c)) := hvc
      have hRr : R_lready [.tuple [.tuple (dI c), .tuple (dN L.h), .bool L.r]] (.list (dN (L.wc c).ready)) := ⟨L.wc c, okc, rfl, rfl⟩
      have a1 : atI [PyData.tuple (dI L.c), .tuple (dN L.h), .bool L.r] 1 = some (.tuple (dN L.h)) := rfl
      have a2 : atI [PyData.tuple (dI L.c), .tuple (dN L.h), .bool L.r] 2 = some (.bool L.r) := rfl
      refine rb_one (rs_for (es_list (ds := dN (L.wc c).ready) (ed_call O1 hr (ea_cons (ed_tup (ea_cons (ed_nm rfl hvc') (ea_cons (ed_ixT (ed_nm rfl h18) ed_int ⟨a1⟩) (ea_cons (ed_ixT (ed_nm rfl h18) ed_int ⟨a2⟩) ea_nil))) (show 3 ≤ sizeLine by decide)) ea_nil) ⟨hRr⟩)) g8.i (fun i d hd => bd_name (i := 6) sc__law_singles.nd)
        (fun i σ' G' H' => Grow G H G' H' ∧ Same G8 G' ∧ (∃ b e f, σ' = [some x1, some (.ref p), some (.ref dr), b, some (.ref m), some vc, e, f]) ∧ G' p = none ∧ H' p = some (.lst (xs ++ [.ref dr])) ∧ G' m = none ∧
          ∃ kvs, H' m = some (.dT kvs) ∧ kvs.map (·.1) = (Ln.from1 L (Ln.nextN L (L.lev t) j) c i).map tk ∧ ∀ kv ∈ kvs, ∃ i, kv.2 = .int i) ?_ ?_ ?_)
      · intro G9 H9 g9
        exact ⟨gc8.trans g9, g9.g, ⟨_, _, _, rfl⟩, g9.n' (g8.n' hG7 hH7) (g8.h _ _ hH7), g9.h _ _ (g8.h _ _ hH7), g9.n' (g8.n' mG7 mH7) (g8.h _ _ mH7), kvs, g9.h _ _ (g8.h _ _ mH7), hkv, hint⟩
      · rintro i d σ5 G9 H9 Ga Ha σ6 hd'' u1 u2 ⟨gd, s89, ⟨ob2, oe2, of2, rfl⟩, hG9, hH9, mG9, kvs', mH9, hkv', hint'⟩ ga ⟨vk, rfl, hvk⟩
        obtain ⟨k, hk, rfl⟩ := dN_get' hd''
        cases hvk.inv_int
        obtain ⟨hkn, hkr'⟩ := Ln.mem_ready.mp (List.mem_of_getElem? hk)
        have hkn' : k < L.n := by rw [← Ln.wc_n hcl]; exact hkn
        have gda := gd.trans ga
        have hvca := (hvc'.mono s89).mono ga.g
        have al := Ln.at_lf (L := L.wc c) (z := (k : Int)) rfl hkn
        have ec := cut_ints c k
        have eth : kyD (L.turn1 c k) = .tuple ((cutP (dI c) none (some (k : Int)) ++ [.int ((L.wc c).col ((L.wc c).lf k))]) ++ cutP (dI c) (some ((k : Int) + 1)) none) := by
          rw [ec.1, ec.2]
          unfold kyD Ln.turn1 dI
          rw [List.map_append, List.map_append]
          rfl
        have lc : ∀ lo hi, (cutP (dI c) lo hi).length ≤ 40 := fun lo hi => by
          unfold cutP
          rw [List.length_take, List.length_drop, dI_length]
          omega
        refine rb_cons (rs_setD (d := kyD (L.turn1 c k)) (Ed.is (ed_catT (ed_catT (ed_slT (ed_nm rfl hvca) eo_none (eo_some (ed_nm rfl (.int _)))) (ed_tup (ds := [.int ((L.wc c).col ((L.wc c).lf k))]) (ea_cons (ed_ixT (ed_nm rfl hvca) (ed_sub (ed_nm rfl (.int _)) ed_int) ⟨al⟩) ea_nil) (show 1 ≤ sizeLine by decide)) ⟨?_⟩) (ed_slT (ed_nm rfl hvca) (eo_some (ed_add (ed_nm rfl (.int _)) ed_int)) eo_none) ⟨?_⟩) eth.symm) ga.i sc__law_singles.nd ?_)
        · have := lc none (some (k : Int))
          exact Nat.le_of_lt (small1000 (by simp only [List.length_cons, List.length_nil]; omega))
        · have h1 := lc none (some (k : Int))
          have h2 := lc (some ((k : Int) + 1)) none
          exact Nat.le_of_lt (small1000 (by simp only [List.length_append, List.length_cons, List.length_nil]; omega))
        intro vt Gb Hb gb' hvt
        have gdb := gda.trans gb'
        have mHb := gb'.h _ _ (ga.h _ _ mH9)
        have mGb := gb'.n' (ga.n' mG9 mH9) (ga.h _ _ mH9)
        have hvcb : Da Gb vc (kyD c) := hvca.mono gb'.g
        obtain ⟨wv, hwv⟩ := valV_has (kvs := kvr) (k := tk c) (by rw [hkr]; exact List.mem_map.mpr ⟨c, List.mem_of_getElem? hc, rfl⟩)
        obtain ⟨iv, eiv⟩ := hir _ (valV_mem hwv)
        have eiv' : wv = .int iv := eiv
        subst eiv'
        have hGrb : Gb dr = some (.frz orr (.dT kvr)) := gb'.g _ _ (ga.g _ _ (s89 _ _ (g8.g _ _ (s67 _ _ hGr))))
        have hHrb := gb'.i _ _ hGrb
        have nfew : kvs'.length ≤ 2048 := by
          have h1 : kvs'.length = (Ln.from1 L (Ln.nextN L (L.lev t) j) c i).length := by simpa using congrArg List.length hkv'
          rw [h1]
          exact Ln.few (Ln.fold_nodup _ _ _ Ln.nodup_nextN) (Ln.from_flips (Ln.next_flips (Ln.lev_flips t) j) ⟨S, I, hcS⟩ i) h11
        refine rb_one (rs_dputT (d := m) (kvs := kvs') (k := L.turn1 c k) (d' := .int (cnt kvs' (L.turn1 c k) 0 + iv)) hr (ed_add (ed_dget2 (d := m) (kvs := kvs') (k := L.turn1 c k) (z := 0) hr (er_nm (v := .ref m) rfl) (ed_nm rfl hvt) ed_int (.inl mHb) (fun w hw => hint' _ (valV_mem hw))) (ed_dgetT (d := dr) (kvs := kvr) (k := c) hr (er_nm (v := .ref dr) rfl) (ed_nm rfl hvcb) (.inr ⟨orr, hHrb⟩) hwv (Da.int _))) (er_nm (v := .ref m) rfl) (ed_nm rfl hvt) gb'.i mHb (Nat.lt_of_le_of_lt nfew (by decide)) ?_)
        intro vn Gc Hc gc' hvn
        cases hvn.inv_int
        have mGc := gc'.n' mGb mHb
        refine ⟨Gc, ga.g.trans (gb'.g.trans gc'.g), same_mut gc'.i mGc, (gdb.trans gc').mut m00 mGc, s89.trans (ga.g.trans (gb'.g.trans gc'.g)), ⟨_, _, _, rfl⟩, ?_, ?_, mGc, _, upd_same, ?_, putK_ints hint'⟩
        · exact gc'.n' (gb'.n' (ga.n' hG9 hH9) (ga.h _ _ hH9)) (gb'.h _ _ (ga.h _ _ hH9))
        · rw [upd_ne hpm]
          exact gc'.h _ _ (gb'.h _ _ (ga.h _ _ hH9))
        · rw [putK_keys hkv', Ln.from1_succ hk]
      · rintro σ5 G9 H9 u1 u2 ⟨gd, s89, ⟨ob2, oe2, of2, rfl⟩, hG9, hH9, mG9, kvs', mH9, hkv', hint'⟩
        rw [dN_length] at hkv'
        refine ⟨G9, g8.g.trans u1, u2, gd, s67.trans (g8.g.trans u1), ⟨_, _, _, _, rfl⟩, hG9, hH9, mG9, kvs', mH9, ?_, hint'⟩
        rw [Ln.nextN_succ hc]
        exact hkv'
    · rintro σ3 G7 H7 t1 t2 ⟨gc, s67, ⟨ob', oc', oe', of'', rfl⟩, hG7, hH7, mG7, kvs, mH7, hkv, hint⟩
      rw [List.length_map] at hkv
      have hkv2 : kvs.map (·.1) = (L.lev (t + 1)).map tk := hkv
      refine rb_frz mH7 trivial fun om => ?_
      have gf : Grow G H (upd G7 m (.frz om (.dT kvs))) (upd H7 m (.frz om (.dT kvs))) := gc.fix m00 mG7
      have dtm : Dt (upd G7 m (.frz om (.dT kvs))) (.ref m) (L.lev (t + 1)) := ⟨m, om, kvs, rfl, upd_same, hkv2, hint⟩
      have hGf : (upd G7 m (.frz om (.dT kvs))) p = none := by rw [upd_ne hpm]; exact hG7
      have hHf : (upd H7 m (.frz om (.dT kvs))) p = some (.lst (xs ++ [.ref dr])) := by rw [upd_ne hpm]; exact hH7
      have sf : Same G7 (upd G7 m (.frz om (.dT kvs))) := same_new mG7
      have hHm : (upd H7 m (.frz om (.dT kvs))) m = some (.frz om (.dT kvs)) := upd_same
      generalize upd G7 m (.frz om (.dT kvs)) = G8 at gf dtm hGf sf
      generalize upd H7 m (.frz om (.dT kvs)) = H8 at gf hHf hHm
      have hxs8 : ∀ (i : Nat) v, (xs ++ [.ref dr])[i]? = some v → Dt G8 v (L.lev i) := fun i v hi => (hxs5 i v hi).mono (g6.g.trans (s67.trans sf))
      refine rb_cons (rs_set (Er.ev (v := .ref m) (er_nm rfl) gf.i) sc__law_singles.nd ?_)
      rintro _ G9 H9 g9 rfl
      have gf9 := gf.trans g9
      have hl : kvs.length = (L.lev (t + 1)).length := by simpa using congrArg List.length hkv2
      refine rb_one (rs_if (k := decide ((L.lev (t + 1)).length = 0)) (et_cmp (cm_eqE hr gf9.i (er_nm (v := .ref m) rfl) ⟨kvs, .inr ⟨om, g9.h _ _ hHm⟩, hl⟩)) gf9.i ?_ ?_)
      · intro e Ga Ha ga
        have e' : L.lev (t + 1) = [] := List.eq_nil_of_length_eq_zero (of_decide_eq_true e)
        have gfa := gf9.trans ga
        have hGa := ga.n' (g9.n' hGf hHf) (g9.h _ _ hHf)
        have hHa := ga.h _ _ (g9.h _ _ hHf)
        refine rb_one (rs_ret (Er.ev (v := .ref p) (er_nm rfl) gfa.i) fun v' G' H' g' ev => ?_)
        subst ev
        have gz := gfa.trans g'
        have hGz := g'.n' hGa hHa
        have hHz := g'.h _ _ hHa
        refine q p ((List.range (t + 1)).map L.lev) _ H' (fix_list gz p0 hGz hHz) p0 ⟨xs ++ [.ref dr], upd_same, by simp [hxl], fun i v ks hi hks => ?_⟩ (fun ks hks => ?_) (fun u hu c hc => ?_)
        · obtain ⟨j, hj, rfl⟩ := map_get' hks
          have hlt := (List.getElem?_eq_some_iff.mp hj).1
          rw [List.length_range] at hlt
          rw [List.getElem?_range hlt] at hj
          cases hj
          exact (hxs8 i v hi).mono (g9.g.trans (ga.g.trans (g'.g.trans (same_new hGz))))
        · obtain ⟨j, _, rfl⟩ := List.mem_map.mp hks
          exact Ln.lev_flips j
        · by_cases hlt : u ≤ t
          · exact ⟨_, List.mem_map.mpr ⟨u, List.mem_range.mpr (by omega), rfl⟩, hc⟩
          · rw [Ln.lev_end e' u (by omega)] at hc
            cases hc
      · intro e Ga Ha ga
        have hGa := ga.n' (g9.n' hGf hHf) (g9.h _ _ hHf)
        have hHa := ga.h _ _ (g9.h _ _ hHf)
        exact rb_nil ⟨Ga, g4.g.trans (g5.g.trans (g6.g.trans (s67.trans (sf.trans (g9.g.trans ga.g))))), ga.i, gf9.trans ga, ⟨_, _, _, _, _, _, rfl, dtm.mono (g9.g.trans ga.g)⟩, hGa, xs ++ [.ref dr], hHa, by rw [List.length_append, hxl]; rfl, fun i v hi => (hxs8 i v hi).mono (g9.g.trans ga.g)⟩
  · rintro σ1 G3 H3 s1 s2 ⟨gb, ⟨vr, oa, ob, oc, oe, of', rfl, hvr⟩, hG3, xs, hH3, hxl, hxs⟩
    rw [dN_length, List.length_range] at hxl
    refine rb_one (rs_ret (Er.ev (v := .ref p) (er_nm rfl) s2) fun v' G' H' g' ev => ?_)
    subst ev
    have gz := gb.trans g'
    have hGz := g'.n' hG3 hH3
    have hHz := g'.h _ _ hH3
    refine q p ((List.range (L.n + 1)).map L.lev) _ H' (fix_list gz p0 hGz hHz) p0 ⟨xs, upd_same, by simp [hxl], fun i v ks hi hks => ?_⟩ (fun ks hks => ?_) (fun u hu c hc => ?_)
    · obtain ⟨j, hj, rfl⟩ := map_get' hks
      have hlt := (List.getElem?_eq_some_iff.mp hj).1
      rw [List.length_range] at hlt
      rw [List.getElem?_range hlt] at hj
      cases hj
      exact (hxs i v hi).mono (g'.g.trans (same_new hGz))
    · obtain ⟨j, _, rfl⟩ := List.mem_map.mp hks
      exact Ln.lev_flips j
    · exact ⟨_, List.mem_map.mpr ⟨u, List.mem_range.mpr (by omega), rfl⟩, hc⟩
end
end Fk
end
section
set_option Elab.async false
set_option linter.all false
set_option maxRecDepth 100000
set_option maxHeartbeats 4000000
/-! E7: the ends; alike; a run. -/
namespace Fk
open PySem PySem.Spec L2
open PyProof.Rows hiding St
local macro_rules | `(tactic| walk_at "gr") => `(tactic| first | assumption | exact Same.refl _ | (refine Same.trans ?_ (Grow.g (by assumption)); walk_at "gr"))
local macro_rules | `(tactic| walk_at "da") => `(tactic| first | assumption | exact Da.int _ | exact Da.bl _ | exact Da.non | (refine Da.mono ?_ (by assumption); walk_at "gr"))
local macro_rules | `(tactic| walk_at "dp") => `(tactic| (simp only [PyData.depth, PyData.depthAll, depthAll_dI, depthAll_dN, Nat.max_zero, Nat.zero_max, Nat.max_self, Nat.min_self, Nat.zero_min, Nat.min_zero] <;> omega))
local macro_rules | `(tactic| walk_at "bt") => `(tactic| first | exact Bt.isi (by assumption) | exact Bt.int (by assumption) | exact Bt.bool (by assumption) | exact Bt.tuple (by assumption) | exact Bt.len (by assumption) | exact Bt.list (by assumption) | exact Bt.set (by assumption) | exact Bt.sorted (by assumption) | exact Bt.range (by assumption) | exact Bt.enum (by assumption) | exact Bt.zip (by assumption) | exact Bt.min (by assumption) | exact Bt.max (by assumption) | exact Bt.sum (by assumption) | exact Bt.dict (by assumption) | exact Bt.str (by assumption))
local macro_rules | `(tactic| walk_at "au") => `(tactic| first | (apply prop_id; assumption) | (show PySem.W.keepIn _ _ = true; assumption) | (show (_ : Option Value) = none; walk_at "bt") | rfl | (show min _ _ ≤ 64; first | decide | walk_at "dp") | (show _ ≤ sizeLine; first | assumption | (simp only [List.length_cons, List.length_nil]; decide)) | (show (_ : Nat) ≤ _; decide) | (show (_ == _) = false; decide) | (show _ ≠ _; decide) | (show behindInMarks _ _ = false; first | exact nomark _ | with_unfolding_all rfl) | (show lastMarks _ _ = false; with_unfolding_all rfl) | (show OpR _ _ _; first | exact op_le | exact op_lt | exact opI_eq | exact opI_ne) | exact (fun _ _ => rfl) | (show ∀ _, _ = _; intro _; rfl) | exact Or.inl rfl | exact Or.inr rfl)
local macro_rules | `(tactic| walk_at "dt") => `(tactic| first | show Bool | show Int | show PyData | show List PyData | show List Int | show Nat | show Option Int | show V)
local macro_rules | `(tactic| walk_at "Se1") => `(tactic| first | walk_at "dt" | walk_at "Sev" | walk_at "au" | (apply Side.mk; walk_at "au"))
local macro_rules | `(tactic| walk_at "Scm") => `(tactic| first | (apply cm_lt <;> walk_at "Se1") | (apply cm_le <;> walk_at "Se1") | (apply cm_gt <;> walk_at "Se1") | (apply cm_ge <;> walk_at "Se1") | (apply cm_eq <;> walk_at "Se1") | (apply cm_ne <;> walk_at "Se1") | (apply cm_inL <;> walk_at "Se1") | (apply cm_inT <;> walk_at "Se1") | (apply cm_niL <;> walk_at "Se1") | (apply cm_niT <;> walk_at "Se1") | (apply cm_is <;> walk_at "Se1") | (apply cm_isnot <;> walk_at "Se1"))
local macro_rules | `(tactic| walk_at "Set") => `(tactic| first | (apply et_cmp <;> walk_at "Se1") | (apply et_not <;> walk_at "Se1") | (apply et_w; walk_at "Sew") | (apply et_chain <;> walk_at "Se1") | (apply et_val <;> walk_at "Se1"))
local macro_rules | `(tactic| walk_at "Sew") => `(tactic| first | (apply ew_and <;> walk_at "Sew1") | (apply ew_or <;> walk_at "Sew1") | (apply ew_and1; walk_at "Sev") | (apply ew_or1; walk_at "Sev"))
local macro_rules | `(tactic| walk_at "Sew1") => `(tactic| first | walk_at "dt" | (show Et _ _ _ _ _ _; walk_at "Sev") | (intro _; walk_at "Sew"))
local macro_rules | `(tactic| walk_at "Sec") => `(tactic| first | (apply ed_not <;> walk_at "Se1") | (apply ed_and <;> walk_at "Se1") | (apply ed_or <;> walk_at "Se1") | (apply ed_one <;> walk_at "Se1") | (apply ed_cmp <;> walk_at "Se1") | (apply ed_chain <;> walk_at "Se1"))
local macro_rules | `(tactic| walk_at "Seb") => `(tactic| first | (apply ed_lenT <;> walk_at "Se1") | (apply ed_lenL <;> walk_at "Se1") | (apply ed_call <;> walk_at "Se1") | (apply ed_isInt <;> walk_at "Se1") | (apply ed_isBool <;> walk_at "Se1") | (apply ed_isTuple <;> walk_at "Se1") | (apply ed_isList <;> walk_at "Se1") | (apply ed_isStr <;> walk_at "Se1") | (apply ed_isTL <;> walk_at "Se1") | (apply ed_listOf <;> walk_at "Se1") | (apply ed_tupleOf <;> walk_at "Se1") | (apply ed_min2 <;> walk_at "Se1") | (apply ed_int1 <;> walk_at "Se1"))
local macro_rules | `(tactic| walk_at "Sei") => `(tactic| first | (apply ed_ixT <;> walk_at "Se1") | (apply ed_ixL <;> walk_at "Se1"))
local macro_rules | `(tactic| walk_at "Sex") => `(tactic| first | exact ed_int | exact ed_bl | exact ed_non | exact ed_nm rfl (by walk_at "da") | (apply ed_add <;> walk_at "Se1") | (apply ed_sub <;> walk_at "Se1") | (apply ed_neg <;> walk_at "Se1") | walk_at "Sei" | (apply ed_tup <;> walk_at "Se1") | (apply ed_lst <;> walk_at "Se1") | (apply ed_mod <;> walk_at "Se1") | (apply ed_ifI <;> walk_at "Se1") | (apply ed_if2 <;> walk_at "Se1") | (apply ed_slT <;> walk_at "Se1") | (apply ed_slL <;> walk_at "Se1") | (apply ed_catT <;> walk_at "Se1"))
local macro_rules | `(tactic| walk_at "Sev") => `(tactic| first | (show Ed _ _ _ _ _ _; first | walk_at "Sex" | walk_at "Seb" | walk_at "Sec") | (show Et _ _ _ _ _ _; walk_at "Set") | (show Cm _ _ _ _ _ _ _ _; walk_at "Scm") | (show Ea _ _ _ _ _ _; first | exact ea_nil | (apply ea_cons <;> walk_at "Se1")) | (show Eo _ _ _ _ _ _; first | exact eo_none | (apply eo_some; walk_at "Sev")) | (show Er _ _ _ _ _ _; exact er_nm rfl) | (show Ew _ _ _ _ _ _; walk_at "Sew") | (intro _; walk_at "Sev"))
local macro_rules | `(tactic| walk_at "e1") => `(tactic| first | walk_at "dt" | walk_at "ev" | walk_at "au" | (apply Side.mk; first | walk_at "au" | skip))
local macro_rules | `(tactic| walk_at "cm") => `(tactic| first | (apply cm_lt <;> walk_at "e1") | (apply cm_le <;> walk_at "e1") | (apply cm_gt <;> walk_at "e1") | (apply cm_ge <;> walk_at "e1") | (apply cm_eq <;> walk_at "e1") | (apply cm_ne <;> walk_at "e1") | (apply cm_inL <;> walk_at "e1") | (apply cm_inT <;> walk_at "e1") | (apply cm_niL <;> walk_at "e1") | (apply cm_niT <;> walk_at "e1") | (apply cm_is <;> walk_at "e1") | (apply cm_isnot <;> walk_at "e1"))
local macro_rules | `(tactic| walk_at "et") => `(tactic| first | (apply et_cmp <;> walk_at "e1") | (apply et_not <;> walk_at "e1") | (apply et_w; walk_at "ew") | (apply et_chain <;> walk_at "e1") | (apply et_val <;> walk_at "e1"))
local macro_rules | `(tactic| walk_at "ew") => `(tactic| first | (apply ew_and <;> walk_at "ew1") | (apply ew_or <;> walk_at "ew1") | (apply ew_and1; walk_at "ev") | (apply ew_or1; walk_at "ev"))
local macro_rules | `(tactic| walk_at "ew1") => `(tactic| first | walk_at "dt" | (show Et _ _ _ _ _ _; walk_at "ev") | (intro _; walk_at "ew"))
local macro_rules | `(tactic| walk_at "ec") => `(tactic| first | (apply ed_not <;> walk_at "e1") | (apply ed_and <;> walk_at "e1") | (apply ed_or <;> walk_at "e1") | (apply ed_one <;> walk_at "e1") | (apply ed_cmp <;> walk_at "e1") | (apply ed_chain <;> walk_at "e1"))
local macro_rules | `(tactic| walk_at "eb") => `(tactic| first | walk_at "Seb" | (apply ed_lenT <;> walk_at "e1") | (apply ed_lenL <;> walk_at "e1") | (apply ed_call <;> walk_at "e1") | (apply ed_isInt <;> walk_at "e1") | (apply ed_isBool <;> walk_at "e1") | (apply ed_isTuple <;> walk_at "e1") | (apply ed_isList <;> walk_at "e1") | (apply ed_isStr <;> walk_at "e1") | (apply ed_isTL <;> walk_at "e1") | (apply ed_listOf <;> walk_at "e1") | (apply ed_tupleOf <;> walk_at "e1") | (apply ed_min2 <;> walk_at "e1") | (apply ed_int1 <;> walk_at "e1"))
local macro_rules | `(tactic| walk_at "ei") => `(tactic| first | walk_at "Sei" | (apply ed_ixT <;> walk_at "e1") | (apply ed_ixL <;> walk_at "e1"))
local macro_rules | `(tactic| walk_at "ex") => `(tactic| first | exact ed_int | exact ed_bl | exact ed_non | exact ed_nm rfl (by walk_at "da") | (apply ed_add <;> walk_at "e1") | (apply ed_sub <;> walk_at "e1") | (apply ed_neg <;> walk_at "e1") | walk_at "ei" | (apply ed_tup <;> walk_at "e1") | (apply ed_lst <;> walk_at "e1") | (apply ed_mod <;> walk_at "e1") | (apply ed_ifI <;> walk_at "e1") | (apply ed_if2 <;> walk_at "e1") | (apply ed_slT <;> walk_at "e1") | (apply ed_slL <;> walk_at "e1") | (apply ed_catT <;> walk_at "e1"))
local macro_rules | `(tactic| walk_at "ev") => `(tactic| first | (show Ed _ _ _ _ _ _; first | walk_at "ex" | walk_at "eb" | walk_at "ec") | (show Et _ _ _ _ _ _; walk_at "et") | (show Cm _ _ _ _ _ _ _ _; walk_at "cm") | (show Ea _ _ _ _ _ _; first | exact ea_nil | (apply ea_cons <;> walk_at "e1")) | (show Eo _ _ _ _ _ _; first | exact eo_none | (apply eo_some; walk_at "ev")) | (show Er _ _ _ _ _ _; exact er_nm rfl) | (show Ew _ _ _ _ _ _; walk_at "ew") | (intro _; walk_at "ev"))
/-- the changed cells -/
def Ln.chg (L : Ln) (c : List Int) : List Nat := (List.range L.n).filter fun k => decide (c.getD k 0 ≠ L.col k)
/-- a dict that may still change: cells to changed cells -/
def EndAt (G H : Hp) (L : Ln) (d : Addr) (ks : List (List Int)) : Prop := ∃ kvs, H d = some (.dT kvs) ∧ kvs.map (·.1) = ks.map tk ∧ ∀ c v, valV kvs (tk c) = some v → Da G v (.list (dN (L.chg c)))
theorem EndAt.grow {G H G1 H1 : Hp} {L : Ln} {d : Addr} {ks : List (List Int)} (g : Grow G H G1 H1) (h : EndAt G H L d ks) : EndAt G1 H1 L d ks := by
  obtain ⟨kvs, a, b, c⟩ := h
  exact ⟨kvs, g.h _ _ a, b, fun x v hv => (c x v hv).mono g.g⟩
def spEnds : Sp := fun vs H Q _ => ∃ G ds L, Ln.Ok L ∧ L.n ≤ 11 ∧ ds = [L.d] ∧ Same G H ∧ DaAll G vs ds ∧ ∀ d ks G' H', Grow G H G' H' → H d = none → G' d = none → EndAt G' H' L d ks → ks.Nodup →
  (∀ c, c ∈ ks ↔ ∃ S, L.Ind S ∧ c = L.flip S ∧ (L.wc c).ready = []) → Q (.ref d) H'
section
variable {X : Cx} {σ : St} {G H : Hp} {iter : Expr} {body : List Stmt} {D : Ends} {x : Str} {pos pos2 : Pos} {i : Nat}
/-- for x in e: body, e a list of things that are known one by one -/
theorem rs_forL (Pr : Addr → List V → Hp → Hp → Prop) (he : ∀ Q : VK, (∀ p xs G2 H2, Grow G H G2 H2 → G2 p = some (.lst xs) → Pr p xs G2 H2 → Q (.ref p) H2) → RE X iter σ H Q) (hN : X.N.Nodup) (hi : X.N[i]? = some x) (I : Addr → List V → Nat → St → Hp → Hp → Prop)
    (h0 : ∀ p xs G2 H2, Grow G H G2 H2 → G2 p = some (.lst xs) → Pr p xs G2 H2 → I p xs 0 σ G2 H2)
    (h1 : ∀ p xs (n : Nat) v σ1 G1 H1, xs[n]? = some v → Same G G1 → Same G1 H1 → G1 p = some (.lst xs) → I p xs n σ1 G1 H1 →
      RB X body { D with nx := fun σ' H' => ∃ G', Same G1 G' ∧ Same G' H' ∧ I p xs (n + 1) σ' G' H', ct := fun σ' H' => ∃ G', Same G1 G' ∧ Same G' H' ∧ I p xs (n + 1) σ' G' H', bk := D.nx } (σ1.set i (some v)) H1)
    (h2 : ∀ p xs σ1 G1 H1, Same G G1 → Same G1 H1 → I p xs xs.length σ1 G1 H1 → D.nx σ1 H1)
    (hx : Loc X.env.scope x := by first | exact Or.inl rfl | exact Or.inr rfl) (hf : X.fn x = true ∨ X.env.scope.names.lookup x = some .local := by first | exact .inl rfl | exact .inr rfl)
    (hp : PassesOwn (model X.prog X.w) X.A X.env X.xe := by exact PassesOwn.never) (hc : X.calm = true := by rfl) (hfs : ∀ x, foldedSetIterable iter X.env x = pure x := by intro _; rfl) : RS X (.For (.Name x pos2) iter body [] pos) D σ H := by
  refine rs_of (ps_for hp hc (pi_list pe_self) (pg_name hN hi hx hf) pss_self hfs) (he _ fun p xs G2 H2 g2 hl hpr => ⟨p, rfl, ⟨xs, .of (g2.i _ _ hl)⟩, ?_⟩)
  refine ⟨fun n m σ' H' => m = xs.length - n ∧ n ≤ xs.length ∧ ∃ G', Same G2 G' ∧ Same G' H' ∧ I p xs n σ' G' H', ⟨xs.length, by simp, Nat.zero_le _, G2, .refl _, g2.i, h0 p xs G2 H2 g2 hl hpr⟩, ?_⟩
  rintro n m σ' H' ⟨rfl, hn, G', s1, s2, hI⟩
  by_cases hlt : n < xs.length
  · have hd : xs[n]? = some xs[n] := List.getElem?_eq_getElem hlt
    refine .inr ⟨⟨xs, xs[n], .of (s2 _ _ (s1 _ _ hl)), hd⟩, fun σ3 H3 => ∃ G3, Same G' G3 ∧ Same G3 H3 ∧ I p xs (n + 1) σ3 G3 H3, fun σ3 H3 ⟨G3, t1, t2, t3⟩ => ⟨xs.length - (n + 1), by omega, rfl, hlt, G3, s1.trans t1, t2, t3⟩, fun v H'' y => ?_⟩
    obtain ⟨e, f⟩ := y
    subst e
    have hv := f xs (.of (s2 _ _ (s1 _ _ hl)))
    exact h1 p xs n v σ' G' H'' hv (g2.g.trans s1) s2 (s1 _ _ hl) hI
  · have e : n = xs.length := by omega
    subst e
    exact .inl ⟨⟨xs, .of (s2 _ _ (s1 _ _ hl)), Nat.le_refl _⟩, h2 p xs σ' G' H' (g2.g.trans s1) s2 hI⟩
end
/-- the still ones among keys -/
def stillN (L : Ln) (acc : List (List Int)) (ks : List (List Int)) (m : Nat) : List (List Int) := (ks.take m).foldl (fun acc c => if (L.wc c).ready = [] then Ln.insK acc c else acc) acc
theorem still_succ {L : Ln} {acc ks : List (List Int)} {m : Nat} {c : List Int} (h : ks[m]? = some c) : stillN L acc ks (m + 1) = if (L.wc c).ready = [] then Ln.insK (stillN L acc ks m) c else stillN L acc ks m := by
  unfold stillN
  rw [take_succ_get h, List.foldl_append]
  rfl
theorem still_nodup {L : Ln} : ∀ (l : List (List Int)) (acc : List (List Int)), acc.Nodup → (l.foldl (fun acc c => if (L.wc c).ready = [] then Ln.insK acc c else acc) acc).Nodup
  | [], acc, h => h
  | a :: l, acc, h => by
    rw [List.foldl_cons]
    refine still_nodup l _ ?_
    split
    · exact Ln.nodup_insK h
    · exact h
theorem still_mem {L : Ln} : ∀ (l : List (List Int)) (acc : List (List Int)) (y : List Int), y ∈ l.foldl (fun acc c => if (L.wc c).ready = [] then Ln.insK acc c else acc) acc ↔ y ∈ acc ∨ (y ∈ l ∧ (L.wc y).ready = [])
  | [], acc, y => by simp
  | a :: l, acc, y => by
    rw [List.foldl_cons, still_mem l]
    by_cases h : (L.wc a).ready = []
    · rw [if_pos h, Ln.mem_insK, List.mem_cons]
      constructor
      · rintro ((h1 | h1) | h1)
        · exact .inl h1
        · exact .inr ⟨.inl h1, h1 ▸ h⟩
        · exact .inr ⟨.inr h1.1, h1.2⟩
      · rintro (h1 | ⟨h1 | h1, h2⟩)
        · exact .inl (.inl h1)
        · exact .inl (.inr h1)
        · exact .inr ⟨h1, h2⟩
    · rw [if_neg h, List.mem_cons]
      constructor
      · rintro (h1 | h1)
        · exact .inl h1
        · exact .inr ⟨.inr h1.1, h1.2⟩
      · rintro (h1 | ⟨h1 | h1, h2⟩)
        · exact .inl h1
        · rw [h1] at h2; exact absurd h2 h
        · exact .inr ⟨h1, h2⟩
def stillA (L : Ln) (kss : List (List (List Int))) (m : Nat) : List (List Int) := (kss.take m).foldl (fun acc ks => stillN L acc ks ks.length) []
theorem stillA_succ {L : Ln} {kss : List (List (List Int))} {m : Nat} {ks : List (List Int)} (h : kss[m]? = some ks) : stillA L kss (m + 1) = stillN L (stillA L kss m) ks ks.length := by
  unfold stillA
  rw [take_succ_get h, List.foldl_append]
  rfl
theorem stillA_nodup2 {L : Ln} : ∀ (l : List (List (List Int))) (acc : List (List Int)), acc.Nodup → (l.foldl (fun acc ks => stillN L acc ks ks.length) acc).Nodup
  | [], acc, h => h
  | a :: l, acc, h => stillA_nodup2 l _ (still_nodup _ _ h)
theorem stillA_mem2 {L : Ln} : ∀ (l : List (List (List Int))) (acc : List (List Int)) (y : List Int), y ∈ l.foldl (fun acc ks => stillN L acc ks ks.length) acc ↔ y ∈ acc ∨ (∃ ks ∈ l, y ∈ ks) ∧ (L.wc y).ready = []
  | [], acc, y => by simp
  | a :: l, acc, y => by
    rw [List.foldl_cons, stillA_mem2 l]
    unfold stillN
    rw [still_mem, List.take_length]
    constructor
    · rintro ((h | h) | ⟨⟨ks, h1, h2⟩, h3⟩)
      · exact .inl h
      · exact .inr ⟨⟨a, by simp, h.1⟩, h.2⟩
      · exact .inr ⟨⟨ks, by simp [h1], h2⟩, h3⟩
    · rintro (h | ⟨⟨ks, h1, h2⟩, h3⟩)
      · exact .inl (.inl h)
      · rcases List.mem_cons.mp h1 with e | h1
        · rw [e] at h2; exact .inl (.inr ⟨h2, h3⟩)
        · exact .inr ⟨⟨ks, h1, h2⟩, h3⟩
section
variable {P : Program} {w : World} {K : PySem.W.Frag} {mg : Str → Option Value} {base : Heap}
set_option maxHeartbeats 4000000 in
theorem ok_ends (D : Df K mg "_law_ends" s__law_ends) (B : Bt mg) (O1 : Own P w K mg base "_law_singles" 3 spSing) (O2 : Own P w K mg base "_law_still" 3 (spD R_lstill)) : Own P w K mg base "_law_ends" 4 spEnds := by
  refine Own.mk' D sc__law_ends (fun _ _ _ _ _ _ us hl => match us, hl with | [_], _ => rfl) (fun vs H Q E ⟨_, _, _, _, _, e, _, h, _⟩ => by rw [h.len, e]; rfl) ?_
  rintro f cdv A outer s H vs Q E hr ⟨G, _, L, ok, h11, rfl, i0, hvs, q⟩
  obtain ⟨x1, rfl, h1⟩ := hvs.inv1
  have hn1 := ok.one
  refine rb_cons (rs_set (ev_newT i0) sc__law_ends.nd ?_)
  rintro _ G1 H1 g1 ⟨d, rfl, d0, dG, dH⟩
  refine rb_cons (rs_forL (G := G1) (i := 2) (Pr := fun p xs G2 H2 => ∃ kss : List (List (List Int)), H1 p = none ∧ xs.length = kss.length ∧ (∀ (i : Nat) v ks, xs[i]? = some v → kss[i]? = some ks → Dt G2 v ks) ∧ (∀ ks ∈ kss, Ln.Flips L ks) ∧ ∀ t, t ≤ L.n → ∀ c ∈ L.lev t, ∃ ks ∈ kss, c ∈ ks) ?_ sc__law_ends.nd rfl
    (fun p xs n σ' G' H' => ∃ kss : List (List (List Int)), xs.length = kss.length ∧ (∀ (i : Nat) v ks, xs[i]? = some v → kss[i]? = some ks → Dt G' v ks) ∧ (∀ ks ∈ kss, Ln.Flips L ks) ∧ (∀ t, t ≤ L.n → ∀ c ∈ L.lev t, ∃ ks ∈ kss, c ∈ ks) ∧ Grow G H G' H' ∧ (∃ a b c, σ' = [some x1, some (.ref d), a, b, c]) ∧ G' d = none ∧ EndAt G' H' L d (stillA L kss n)) ?_ ?_ ?_)
  · intro Q' q'
    have h1' := h1.mono g1.g
    have gg1 := g1
    obtain ⟨f1, fd1, ps1, m1, kp1, b1, F1⟩ := O1.ex
    refine re_of (pe_call F1 (hr.mono (by decide)) rfl m1 kp1 b1 .nil pass0 pa_self (by decide) rfl rfl) ((ea_cons (X := CtxOf P w K mg base N__law_ends "_law_ends" s__law_ends f cdv A outer s H E) (ed_nm rfl h1') ea_nil).run G1 H1 (.refl g1.i) _ fun vs G2 H2 g2 dvs => ?_)
    refine ⟨G2, [L.d], L, ok, h11, rfl, g2.i, by rw [List.append_nil]; exact dvs, fun p kss G3 H3 g3 p0 hf hfl hlev => ?_⟩
    obtain ⟨xs, hp, hxl, hxs⟩ := hf
    exact q' p xs G3 H3 (g2.trans g3) hp ⟨kss, g2.none_h p0, hxl, hxs, hfl, hlev⟩
  · rintro p xs G2 H2 g2 hp ⟨kss, p0, hxl, hxs, hfl, hlev⟩
    exact ⟨kss, hxl, hxs, hfl, hlev, g1.trans g2, ⟨_, _, _, rfl⟩, g2.n' dG dH, [], g2.h _ _ dH, rfl, fun c v h => nomatch h⟩
  · rintro p xs n v σ1 G2 H2 hv s1 s2 hp ⟨kss, hxl, hxs, hfl, hlev, gb, ⟨oa, ob, oc, rfl⟩, hG2, hE⟩
    have hnl := (List.getElem?_eq_some_iff.mp hv).1
    obtain ⟨ks, hks⟩ : ∃ ks, kss[n]? = some ks := ⟨_, List.getElem?_eq_getElem (by omega)⟩
    obtain ⟨dr, orr, kvr, rfl, hGr, hkr, hir⟩ := hxs n v ks hv hks
    have fks := hfl ks (List.mem_of_getElem? hks)
    have accOk : ∀ j, (stillN L (stillA L kss n) ks j).Nodup ∧ Ln.Flips L (stillN L (stillA L kss n) ks j) := fun j => by
      refine ⟨still_nodup _ _ (stillA_nodup2 _ _ .nil), fun y hy => ?_⟩
      rcases (still_mem _ _ _).mp hy with h | h
      · rcases (stillA_mem2 _ _ _).mp h with h | ⟨⟨ks', h1, h2⟩, _⟩
        · cases h
        · exact hfl ks' (List.mem_of_mem_take h1) y h2
      · exact fks y (List.mem_of_mem_take h.1)
    refine rb_one (rs_for (es_keysT (er_nm (v := .ref dr) rfl) hGr hkr) s2 (fun i d hd => bd_name (i := 3) sc__law_ends.nd)
      (fun j σ' G' H' => Grow G H G' H' ∧ Same G2 G' ∧ (∃ b c, σ' = [some x1, some (.ref d), some (.ref dr), b, c]) ∧ G' d = none ∧ EndAt G' H' L d (stillN L (stillA L kss n) ks j)) ?_ ?_ ?_)
    · intro G3 H3 g3
      obtain ⟨kvs, hH, hk, hval⟩ := id hE
      exact ⟨gb.trans g3, g3.g, ⟨_, _, rfl⟩, g3.n' hG2 hH, hE.grow g3⟩
    · rintro j dd σ3 G3 H3 G4 H4 σ4 hd' t1 t2 ⟨gc, s23, ⟨ob', oc', rfl⟩, hG3, hE3⟩ g4 ⟨vc, rfl, hvc⟩
      obtain ⟨c, hc, rfl⟩ := map_get' hd'
      obtain ⟨S, I, hcS⟩ := fks c (List.mem_of_getElem? hc)
      have hcl : c.length = L.n := by rw [hcS, Ln.flip_len]
      have okc : Ln.Ok (L.wc c) := by rw [hcS]; exact Ln.ok_flip ok S
      have gc4 := gc.trans g4
      have h14 := h1.mono gc4.g
      have hvc' : Da G4 vc (.tuple (dI c)) := hvc
      have hRs : R_lstill [L.d, .tuple (dI c)] (.bool (decide ((L.wc c).ready = []))) := ⟨L, c, okc, rfl, rfl⟩
      have hE4 := hE3.grow g4
      obtain ⟨kvs, hH4, hk4, hval4⟩ := id hE4
      have hG4 : G4 d = none := by
        obtain ⟨kvs', hH3, _⟩ := hE3
        exact g4.n' hG3 hH3
      refine rb_one (rs_if (k := decide ((L.wc c).ready = [])) (et_val (ed_call O2 hr (ea_cons (ed_nm rfl h14) (ea_cons (ed_nm rfl hvc') ea_nil)) ⟨hRs⟩)) g4.i ?_ ?_)
      · intro e G5 H5 g5
        have hst : (L.wc c).ready = [] := of_decide_eq_true e
        have hH5 := g5.h _ _ hH4
        have hG5 := g5.n' hG4 hH4
        have hvc5 := hvc'.mono g5.g
        have h15 := h14.mono g5.g
        have nfew : kvs.length ≤ 2048 := by
          have h1 : kvs.length = (stillN L (stillA L kss n) ks j).length := by simpa using congrArg List.length hk4
          rw [h1]
          exact Ln.few (accOk j).1 (accOk j).2 h11
        have e1 : (dI c).length = L.n := by rw [dI_length, hcl]
        refine rb_one (rs_dputT (d := d) (kvs := kvs) (k := c) (d' := .list (dN (L.chg c))) hr (Ed.is (En.ed (en_lc1 (own := [("_law_k", 4)]) (S := fun _ => Sn 4) (fun k => decide (c.getD k 0 ≠ L.col k)) (fun k => .int (k : Int)) sc__law_ends.nd (es_range B.range (n := (dI c).length) (ed_lenT (ds := dI c) B.len (ed_nm rfl hvc5)) (by rw [e1]; omega)) (blkOk_by (N := N__law_ends) (sc := defScope s__law_ends) (by decide +kernel)) (fun s0 H0 C cl fp i d hd => bd_name sc__law_ends.nd) ?_ ?_ ?_ ?_)) ?_) (er_nm (v := .ref d) rfl) (ed_nm rfl hvc5) g5.i hH5 (Nat.lt_of_le_of_lt nfew (by decide)) ?_)
        · rintro i d G' σ2 ⟨v, rfl, _⟩
          rfl
        · rintro s0 H0 C cl fp i d2 σ2 G' H' g' hd2 ⟨v, rfl, hv⟩
          rw [e1] at hd2
          obtain ⟨hi, rfl⟩ := range_get hd2
          have a1 : atI (dI c) (i : Int) = some (.int (c.getD i 0)) := atI_nat (dI_get (getD_at (by omega)))
          have a2 := Ln.at_ (L := L) (z := (i : Int)) rfl hi
          refine Et.is (et_cmp (cm_ne hr (d := .int (c.getD i 0)) (d' := .int (L.col i)) (ed_ixT (ed_nm rfl (hvc5.mono g'.g)) (ed_nm rfl hv) ⟨a1⟩) (ed_ixT (ed_ixT (ds := [.tuple (dI L.c), .tuple (dN L.h), .bool L.r]) (i := 0) (ed_nm rfl (show Da G' x1 (.tuple [.tuple (dI L.c), .tuple (dN L.h), .bool L.r]) from h15.mono g'.g)) ed_int ⟨rfl⟩) (ed_nm rfl hv) ⟨a2⟩) (by simp [PyData.depth]))) ?_
          rw [PyData.eqv, beq_dec]
          simp
        · rintro s0 H0 C cl fp i d2 σ2 G' H' g' hd2 ⟨v, rfl, hv⟩ _
          rw [e1] at hd2
          obtain ⟨hi, rfl⟩ := range_get hd2
          exact ed_nm rfl hv
        · rw [dN_length, List.length_range, e1]; omega
        · rw [dN_length, List.length_range, e1]
          rfl
        · intro vn G6 H6 g6 hvn
          have hG6 := g6.n' hG5 hH5
          refine ⟨G6, g4.g.trans (g5.g.trans g6.g), same_mut g6.i hG6, ((gc4.trans g5).trans g6).mut d0 hG6, s23.trans (g4.g.trans (g5.g.trans g6.g)), ⟨_, _, rfl⟩, hG6, _, upd_same, ?_, fun c2 v2 h2 => ?_⟩
          · rw [putK_keys hk4, still_succ hc, if_pos hst]
          · rw [valV_put] at h2
            by_cases ec : tk c2 = tk c
            · rw [if_pos ec] at h2
              cases h2
              rw [tk_inj ec]
              exact hvn
            · rw [if_neg ec] at h2
              exact (hval4 c2 v2 h2).mono (g5.g.trans g6.g)
      · intro e G5 H5 g5
        refine rb_nil ⟨G5, g4.g.trans g5.g, g5.i, gc4.trans g5, s23.trans (g4.g.trans g5.g), ⟨_, _, rfl⟩, g5.n' hG4 hH4, ?_⟩
        rw [still_succ hc, if_neg (of_decide_eq_false e)]
        exact hE4.grow g5
    · rintro σ3 G3 H3 t1 t2 ⟨gc, s23, ⟨ob', oc', rfl⟩, hG3, hE3⟩
      rw [List.length_map] at hE3
      refine ⟨G3, t1, t2, kss, hxl, fun i v ks' hi hk => (hxs i v ks' hi hk).mono t1, hfl, hlev, gc, ⟨_, _, _, rfl⟩, hG3, ?_⟩
      rw [stillA_succ hks]
      exact hE3
  · rintro p xs σ1 G2 H2 s1 s2 ⟨kss, hxl, hxs, hfl, hlev, gb, ⟨oa, ob, oc, rfl⟩, hG2, hE⟩
    refine rb_one (rs_ret (Er.ev (v := .ref d) (er_nm rfl) s2) fun v' G' H' g' ev => ?_)
    subst ev
    obtain ⟨kvs, hH, _⟩ := id hE
    refine q d (stillA L kss xs.length) G' H' (gb.trans g') d0 (g'.n' hG2 hH) (hE.grow g') (stillA_nodup2 _ _ .nil) fun c => ?_
    unfold stillA
    rw [stillA_mem2, hxl, List.take_length]
    constructor
    · rintro (h | ⟨⟨ks, h1, h2⟩, h3⟩)
      · cases h
      · obtain ⟨S, I, e⟩ := hfl ks h1 c h2
        exact ⟨S, I, e, h3⟩
    · rintro ⟨S, I, e, h3⟩
      obtain ⟨ks, h1, h2⟩ := hlev (L.card S) (Ln.card_le S) c (by rw [e]; exact Ln.ind_lev _ S I rfl)
      exact .inr ⟨⟨ks, h1, h2⟩, h3⟩
end
end Fk
end
section
set_option Elab.async false
set_option linter.all false
set_option maxRecDepth 100000
set_option maxHeartbeats 4000000
/-! E8: alike; a run step by step. -/
namespace Fk
open PySem PySem.Spec L2
open PyProof.Rows hiding St
local macro_rules | `(tactic| walk_at "gr") => `(tactic| first | assumption | exact Same.refl _ | (refine Same.trans ?_ (Grow.g (by assumption)); walk_at "gr"))
local macro_rules | `(tactic| walk_at "da") => `(tactic| first | assumption | exact Da.int _ | exact Da.bl _ | exact Da.non | (refine Da.mono ?_ (by assumption); walk_at "gr"))
local macro_rules | `(tactic| walk_at "dp") => `(tactic| (simp only [PyData.depth, PyData.depthAll, depthAll_dI, depthAll_dN, Nat.max_zero, Nat.zero_max, Nat.max_self, Nat.min_self, Nat.zero_min, Nat.min_zero] <;> omega))
local macro_rules | `(tactic| walk_at "bt") => `(tactic| first | exact Bt.isi (by assumption) | exact Bt.int (by assumption) | exact Bt.bool (by assumption) | exact Bt.tuple (by assumption) | exact Bt.len (by assumption) | exact Bt.list (by assumption) | exact Bt.set (by assumption) | exact Bt.sorted (by assumption) | exact Bt.range (by assumption) | exact Bt.enum (by assumption) | exact Bt.zip (by assumption) | exact Bt.min (by assumption) | exact Bt.max (by assumption) | exact Bt.sum (by assumption) | exact Bt.dict (by assumption) | exact Bt.str (by assumption))
local macro_rules | `(tactic| walk_at "au") => `(tactic| first | (apply prop_id; assumption) | (show PySem.W.keepIn _ _ = true; assumption) | (show (_ : Option Value) = none; walk_at "bt") | rfl | (show min _ _ ≤ 64; first | decide | walk_at "dp") | (show _ ≤ sizeLine; first | assumption | (simp only [List.length_cons, List.length_nil]; decide)) | (show (_ : Nat) ≤ _; decide) | (show (_ == _) = false; decide) | (show _ ≠ _; decide) | (show behindInMarks _ _ = false; first | exact nomark _ | with_unfolding_all rfl) | (show lastMarks _ _ = false; with_unfolding_all rfl) | (show OpR _ _ _; first | exact op_le | exact op_lt | exact opI_eq | exact opI_ne) | exact (fun _ _ => rfl) | (show ∀ _, _ = _; intro _; rfl) | exact Or.inl rfl | exact Or.inr rfl)
local macro_rules | `(tactic| walk_at "dt") => `(tactic| first | show Bool | show Int | show PyData | show List PyData | show List Int | show Nat | show Option Int | show V)
local macro_rules | `(tactic| walk_at "Se1") => `(tactic| first | walk_at "dt" | walk_at "Sev" | walk_at "au" | (apply Side.mk; walk_at "au"))
local macro_rules | `(tactic| walk_at "Scm") => `(tactic| first | (apply cm_lt <;> walk_at "Se1") | (apply cm_le <;> walk_at "Se1") | (apply cm_gt <;> walk_at "Se1") | (apply cm_ge <;> walk_at "Se1") | (apply cm_eq <;> walk_at "Se1") | (apply cm_ne <;> walk_at "Se1") | (apply cm_inL <;> walk_at "Se1") | (apply cm_inT <;> walk_at "Se1") | (apply cm_niL <;> walk_at "Se1") | (apply cm_niT <;> walk_at "Se1") | (apply cm_is <;> walk_at "Se1") | (apply cm_isnot <;> walk_at "Se1"))
local macro_rules | `(tactic| walk_at "Set") => `(tactic| first | (apply et_cmp <;> walk_at "Se1") | (apply et_not <;> walk_at "Se1") | (apply et_w; walk_at "Sew") | (apply et_chain <;> walk_at "Se1") | (apply et_val <;> walk_at "Se1"))
local macro_rules | `(tactic| walk_at "Sew") => `(tactic| first | (apply ew_and <;> walk_at "Sew1") | (apply ew_or <;> walk_at "Sew1") | (apply ew_and1; walk_at "Sev") | (apply ew_or1; walk_at "Sev"))
local macro_rules | `(tactic| walk_at "Sew1") => `(tactic| first | walk_at "dt" | (show Et _ _ _ _ _ _; walk_at "Sev") | (intro _; walk_at "Sew"))
local macro_rules | `(tactic| walk_at "Sec") => `(tactic| first | (apply ed_not <;> walk_at "Se1") | (apply ed_and <;> walk_at "Se1") | (apply ed_or <;> walk_at "Se1") | (apply ed_one <;> walk_at "Se1") | (apply ed_cmp <;> walk_at "Se1") | (apply ed_chain <;> walk_at "Se1"))
local macro_rules | `(tactic| walk_at "Seb") => `(tactic| first | (apply ed_lenT <;> walk_at "Se1") | (apply ed_lenL <;> walk_at "Se1") | (apply ed_call <;> walk_at "Se1") | (apply ed_isInt <;> walk_at "Se1") | (apply ed_isBool <;> walk_at "Se1") | (apply ed_isTuple <;> walk_at "Se1") | (apply ed_isList <;> walk_at "Se1") | (apply ed_isStr <;> walk_at "Se1") | (apply ed_isTL <;> walk_at "Se1") | (apply ed_listOf <;> walk_at "Se1") | (apply ed_tupleOf <;> walk_at "Se1") | (apply ed_min2 <;> walk_at "Se1") | (apply ed_int1 <;> walk_at "Se1"))
local macro_rules | `(tactic| walk_at "Sei") => `(tactic| first | (apply ed_ixT <;> walk_at "Se1") | (apply ed_ixL <;> walk_at "Se1"))
local macro_rules | `(tactic| walk_at "Sex") => `(tactic| first | exact ed_int | exact ed_bl | exact ed_non | exact ed_nm rfl (by walk_at "da") | (apply ed_add <;> walk_at "Se1") | (apply ed_sub <;> walk_at "Se1") | (apply ed_neg <;> walk_at "Se1") | walk_at "Sei" | (apply ed_tup <;> walk_at "Se1") | (apply ed_lst <;> walk_at "Se1") | (apply ed_mod <;> walk_at "Se1") | (apply ed_ifI <;> walk_at "Se1") | (apply ed_if2 <;> walk_at "Se1") | (apply ed_slT <;> walk_at "Se1") | (apply ed_slL <;> walk_at "Se1") | (apply ed_catT <;> walk_at "Se1"))
local macro_rules | `(tactic| walk_at "Sev") => `(tactic| first | (show Ed _ _ _ _ _ _; first | walk_at "Sex" | walk_at "Seb" | walk_at "Sec") | (show Et _ _ _ _ _ _; walk_at "Set") | (show Cm _ _ _ _ _ _ _ _; walk_at "Scm") | (show Ea _ _ _ _ _ _; first | exact ea_nil | (apply ea_cons <;> walk_at "Se1")) | (show Eo _ _ _ _ _ _; first | exact eo_none | (apply eo_some; walk_at "Sev")) | (show Er _ _ _ _ _ _; exact er_nm rfl) | (show Ew _ _ _ _ _ _; walk_at "Sew") | (intro _; walk_at "Sev"))
local macro_rules | `(tactic| walk_at "e1") => `(tactic| first | walk_at "dt" | walk_at "ev" | walk_at "au" | (apply Side.mk; first | walk_at "au" | skip))
local macro_rules | `(tactic| walk_at "cm") => `(tactic| first | (apply cm_lt <;> walk_at "e1") | (apply cm_le <;> walk_at "e1") | (apply cm_gt <;> walk_at "e1") | (apply cm_ge <;> walk_at "e1") | (apply cm_eq <;> walk_at "e1") | (apply cm_ne <;> walk_at "e1") | (apply cm_inL <;> walk_at "e1") | (apply cm_inT <;> walk_at "e1") | (apply cm_niL <;> walk_at "e1") | (apply cm_niT <;> walk_at "e1") | (apply cm_is <;> walk_at "e1") | (apply cm_isnot <;> walk_at "e1"))
local macro_rules | `(tactic| walk_at "et") => `(tactic| first | (apply et_cmp <;> walk_at "e1") | (apply et_not <;> walk_at "e1") | (apply et_w; walk_at "ew") | (apply et_chain <;> walk_at "e1") | (apply et_val <;> walk_at "e1"))
local macro_rules | `(tactic| walk_at "ew") => `(tactic| first | (apply ew_and <;> walk_at "ew1") | (apply ew_or <;> walk_at "ew1") | (apply ew_and1; walk_at "ev") | (apply ew_or1; walk_at "ev"))
local macro_rules | `(tactic| walk_at "ew1") => `(tactic| first | walk_at "dt" | (show Et _ _ _ _ _ _; walk_at "ev") | (intro _; walk_at "ew"))
local macro_rules | `(tactic| walk_at "ec") => `(tactic| first | (apply ed_not <;> walk_at "e1") | (apply ed_and <;> walk_at "e1") | (apply ed_or <;> walk_at "e1") | (apply ed_one <;> walk_at "e1") | (apply ed_cmp <;> walk_at "e1") | (apply ed_chain <;> walk_at "e1"))
local macro_rules | `(tactic| walk_at "eb") => `(tactic| first | walk_at "Seb" | (apply ed_lenT <;> walk_at "e1") | (apply ed_lenL <;> walk_at "e1") | (apply ed_call <;> walk_at "e1") | (apply ed_isInt <;> walk_at "e1") | (apply ed_isBool <;> walk_at "e1") | (apply ed_isTuple <;> walk_at "e1") | (apply ed_isList <;> walk_at "e1") | (apply ed_isStr <;> walk_at "e1") | (apply ed_isTL <;> walk_at "e1") | (apply ed_listOf <;> walk_at "e1") | (apply ed_tupleOf <;> walk_at "e1") | (apply ed_min2 <;> walk_at "e1") | (apply ed_int1 <;> walk_at "e1"))
local macro_rules | `(tactic| walk_at "ei") => `(tactic| first | walk_at "Sei" | (apply ed_ixT <;> walk_at "e1") | (apply ed_ixL <;> walk_at "e1"))
local macro_rules | `(tactic| walk_at "ex") => `(tactic| first | exact ed_int | exact ed_bl | exact ed_non | exact ed_nm rfl (by walk_at "da") | (apply ed_add <;> walk_at "e1") | (apply ed_sub <;> walk_at "e1") | (apply ed_neg <;> walk_at "e1") | walk_at "ei" | (apply ed_tup <;> walk_at "e1") | (apply ed_lst <;> walk_at "e1") | (apply ed_mod <;> walk_at "e1") | (apply ed_ifI <;> walk_at "e1") | (apply ed_if2 <;> walk_at "e1") | (apply ed_slT <;> walk_at "e1") | (apply ed_slL <;> walk_at "e1") | (apply ed_catT <;> walk_at "e1"))
local macro_rules | `(tactic| walk_at "ev") => `(tactic| first | (show Ed _ _ _ _ _ _; first | walk_at "ex" | walk_at "eb" | walk_at "ec") | (show Et _ _ _ _ _ _; walk_at "et") | (show Cm _ _ _ _ _ _ _ _; walk_at "cm") | (show Ea _ _ _ _ _ _; first | exact ea_nil | (apply ea_cons <;> walk_at "e1")) | (show Eo _ _ _ _ _ _; first | exact eo_none | (apply eo_some; walk_at "ev")) | (show Er _ _ _ _ _ _; exact er_nm rfl) | (show Ew _ _ _ _ _ _; walk_at "ew") | (intro _; walk_at "ev"))
def al : Nat → PyData → Prop
  | 0, d => ∃ i : Int, d = .int i
  | k + 1, d => (∃ i : Int, d = .int i) ∨ ∃ xs, d = .tuple xs ∧ xs.length ≤ 1000 ∧ ∀ x ∈ xs, al k x
def R_alike (k : Nat) : List PyData → PyData → Prop := fun ds d => ∃ x, al k x ∧ ds = [x, x] ∧ d = .bool true
def Ln.iter (L : Ln) : Nat → Ln
  | 0 => L
  | t + 1 => (Ln.iter L t).step
theorem Ln.step_flip (L : Ln) : L.step = L.wc (L.flip L.rdy) := rfl
theorem Ln.iter_ok {L : Ln} (ok : L.Ok) : ∀ t, (L.iter t).Ok ∧ (L.iter t).n = L.n
  | 0 => ⟨ok, rfl⟩
  | t + 1 => by
    obtain ⟨h1, h2⟩ := Ln.iter_ok ok t
    refine ⟨Ln.ok_flip h1 _, ?_⟩
    show ((L.iter t).flip (L.iter t).rdy).length = L.n
    rw [Ln.flip_len, h2]
def Ln.runs (L : Ln) (m : Nat) : List PyData := (List.range (m + 1)).map fun t => (L.iter t).d
def Ln.runD (L : Ln) : PyData := match (List.range (L.n + 2)).find? fun t => decide ((L.iter t).ready = []) with
  | some m => .list (L.runs m)
  | none => .none
def R_run : List PyData → PyData → Prop := fun ds d => ∃ L : Ln, L.Ok ∧ ds = [L.d] ∧ d = L.runD
section
variable {P : Program} {w : World} {K : PySem.W.Frag} {mg : Str → Option Value} {base : Heap}
set_option maxHeartbeats 2000000 in
theorem ok_alike (k l : Nat) (D : Df K mg "_law_alike" s__law_alike) (B : Bt mg) (O : ∀ j, k = j + 1 → Own P w K mg base "_law_alike" l (spD (R_alike j))) : Own P w K mg base "_law_alike" (l + 1) (spD (R_alike k)) := by
  refine Own.data D sc__law_alike (fun _ _ _ _ _ _ us hl => match us, hl with | [_, _], _ => rfl) (fun ds d ⟨_, _, e, _⟩ => by rw [e]; rfl) ?_
  rintro f cdv A outer s H vs Q E hr G _ _ i0 hvs ⟨x, hal, rfl, rfl⟩ q
  obtain ⟨x1, x2, rfl, h1, h2⟩ := hvs.inv2
  have cases' : (∃ i : Int, x = .int i) ∨ ∃ j xs, k = j + 1 ∧ x = .tuple xs ∧ xs.length ≤ 1000 ∧ ∀ y ∈ xs, al j y := by
    cases k with
    | zero => exact .inl hal
    | succ j =>
      rcases hal with h | ⟨xs, a, b, c⟩
      · exact .inl h
      · exact .inr ⟨j, xs, rfl, a, b, c⟩
  rcases cases' with ⟨i, rfl⟩ | ⟨j, xs, rfl, rfl, hxl, hxs⟩
  · refine rb_cons (rs_skip (Et.is (et_val (ed_isTL B.isi B.tuple B.list (ed_nm rfl h2))) (by simp [PyData.isTuple, PyData.isList])) i0 ?_)
    intro G1 H1 g1
    have h11 := h1.mono g1.g
    have h21 := h2.mono g1.g
    refine rb_cons (rs_skip (Et.is (b := isNone (.int i) || PyData.isStr (.int i)) ?_ (by simp [isNone, PyData.isStr])) g1.i ?_)
    · walk_at "ev"
    intro G2 H2 g2
    refine rb_one (rs_retD (Ed.is (d := .bool (PyData.isInt (.int i) && (PyData.eqv (.bool (PyData.isBool (.int i))) (.bool (PyData.isBool (.int i))) && PyData.eqv (.int i) (.int i)))) ?_ (by simp [PyData.isInt, PyData.isBool, PyData.eqv])) g2.i fun v' G' H' g' dv => q v' G' H' ((g1.trans g2).trans g') dv)
    walk_at "ev"
  · have O1 := O j rfl
    refine rb_cons (rs_if (k := true) (Et.is (et_val (ed_isTL B.isi B.tuple B.list (ed_nm rfl h2))) (by simp [PyData.isTuple, PyData.isList])) i0 ?_ nofun)
    intro _ G1 H1 g1
    have h11 := h1.mono g1.g
    have h21 := h2.mono g1.g
    refine rb_cons (rs_skip (Et.is (b := !(PyData.isTuple (.tuple xs) || PyData.isList (.tuple xs)) || !PyData.eqv (.bool (PyData.isList (.tuple xs))) (.bool (PyData.isList (.tuple xs)))) ?_ (by simp [PyData.isTuple, PyData.isList, PyData.eqv])) g1.i ?_)
    · walk_at "ev"
    intro G2 H2 g2
    have h12 := h11.mono g2.g
    have h22 := h21.mono g2.g
    refine rb_cons (rs_skip (Et.is (b := !PyData.eqv (.int (xs.length : Int)) (.int (xs.length : Int))) ?_ (by simp [PyData.eqv])) g2.i ?_)
    · walk_at "ev"
    intro G3 H3 g3
    have h13 := h12.mono g3.g
    have h23 := h22.mono g3.g
    have key : given (dN (List.range xs.length)).length (fun _ => false) (fun i => .int (i : Int)) = [] := by
      unfold given
      simp
    refine rb_one (rs_retD (Ed.is (ed_cmp (cm_eq hr (Ed.is (En.ed (en_lc1 (own := [("_law_k", 2)]) (S := fun _ => Sn 2) (fun _ => false) (fun i => .int (i : Int)) sc__law_alike.nd (es_range B.range (n := xs.length) (ed_lenT (ds := xs) B.len (ed_nm rfl h23)) (by omega)) (blkOk_by (N := N__law_alike) (sc := defScope s__law_alike) (by decide +kernel)) (fun s0 H0 C cl fp i d hd => bd_name sc__law_alike.nd) ?_ ?_ ?_ ?_)) (by rw [key])) (d' := .list []) ?_ (by simp [PyData.depth, PyData.depthAll]))) (by simp [PyData.eqv, PyData.eqvAll])) g3.i fun v' G' H' g' dv => q v' G' H' ((g1.trans (g2.trans g3)).trans g') dv)
    · rintro i d G' σ2 ⟨v, rfl, _⟩
      rfl
    · rintro s0 H0 C cl fp i d σ2 G' H' g' hd ⟨v, rfl, hv⟩
      obtain ⟨hi, rfl⟩ := range_get hd
      obtain ⟨y, hy⟩ : ∃ y, xs[i]? = some y := ⟨_, List.getElem?_eq_getElem hi⟩
      have a1 : atI xs (i : Int) = some y := atI_nat hy
      have hR : R_alike j [y, y] (.bool true) := ⟨y, hxs y (List.mem_of_getElem? hy), rfl, rfl⟩
      exact Et.is (et_not (et_val (ed_call O1 hr (ea_cons (ed_ixT (ed_nm rfl (h13.mono g'.g)) (ed_nm rfl hv) ⟨a1⟩) (ea_cons (ed_ixT (ed_nm rfl (h23.mono g'.g)) (ed_nm rfl hv) ⟨a1⟩) ea_nil)) ⟨hR⟩ (Nat.le_refl _)))) rfl
    · rintro s0 H0 C cl fp i d σ2 G' H' g' hd hS e
      cases e
    · rw [dN_length, List.length_range]; omega
    · exact ed_lst ea_nil
set_option maxHeartbeats 2000000 in
theorem ok_run (D : Df K mg "_law_run" s__law_run) (B : Bt mg) (O1 : Own P w K mg base "_law_ready" 2 (spD R_lready)) (O2 : Own P w K mg base "_law_step" 3 (spD R_lstep)) : Own P w K mg base "_law_run" 4 (spD R_run) := by
  refine Own.data D sc__law_run (fun _ _ _ _ _ _ us hl => match us, hl with | [_], _ => rfl) (fun ds d ⟨_, _, e, _⟩ => by rw [e]; rfl) ?_
  rintro f cdv A outer s H vs Q E hr G _ _ i0 hvs ⟨L, ok, rfl, rfl⟩ q
  obtain ⟨x1, rfl, h1⟩ := hvs.inv1
  have hn1 := ok.one
  have hn2 := ok.most
  have e1 : (dI L.c).length = L.n := by rw [dI_length]; rfl
  refine rb_cons (rs_set (En.ev (en_lst (ds := [L.d]) (ea_cons (ed_nm rfl h1) ea_nil) (show 1 ≤ sizeLine by decide)) i0) sc__law_run.nd ?_)
  rintro _ G1 H1 g1 ⟨p, xs0, rfl, p0, pG, pH, hxs0⟩
  have h11 : Da G1 x1 (.tuple [.tuple (dI L.c), .tuple (dN L.h), .bool L.r]) := h1.mono g1.g
  refine rb_cons (rs_for (es_range B.range (n := L.n + 2) (Ed.is (ed_add (ed_lenT (ds := dI L.c) B.len (ed_ixT (ds := [.tuple (dI L.c), .tuple (dN L.h), .bool L.r]) (i := 0) (ed_nm rfl h11) ed_int ⟨rfl⟩)) ed_int) (by rw [e1]; rfl)) (by omega)) g1.i (fun i d hd => bd_name (i := 2) sc__law_run.nd)
    (fun t σ' G' H' => Grow G H G' H' ∧ (∃ a, σ' = [some x1, some (.ref p), a]) ∧ G' p = none ∧ (∃ xs, H' p = some (.lst xs) ∧ DaAll G' xs (L.runs t)) ∧ ∀ u, u < t → (L.iter u).ready ≠ []) ?_ ?_ ?_)
  · intro G2 H2 g2
    exact ⟨g1.trans g2, ⟨_, rfl⟩, g2.n' pG pH, ⟨xs0, g2.h _ _ pH, hxs0.mono g2.g⟩, fun u hu => absurd hu (Nat.not_lt_zero _)⟩
  · rintro t d σ1 G2 H2 G3 H3 σ2 hd s1 s2 ⟨gb, ⟨oa, rfl⟩, hG2, ⟨xs, hH2, hxs⟩, hno⟩ g3 ⟨v, rfl, hv⟩
    obtain ⟨htn, rfl⟩ := range_get hd
    have gb3 := gb.trans g3
    have hH3 := g3.h _ _ hH2
    have hG3 := g3.n' hG2 hH2
    have hx3 := hxs.mono g3.g
    have rl : (L.runs t).length = t + 1 := by simp [Ln.runs]
    have a1 : atI (L.runs t) (-1) = some (L.iter t).d := atI_neg (by decide) (j := t) (by rw [rl]; omega) (by unfold Ln.runs; rw [List.getElem?_map, List.getElem?_range (by omega)]; rfl)
    obtain ⟨okt, hnt⟩ := Ln.iter_ok ok t
    have hRr : R_lready [(L.iter t).d] (.list (dN (L.iter t).ready)) := ⟨_, okt, rfl, rfl⟩
    have hRs : R_lstep [(L.iter t).d] (L.iter (t + 1)).d := ⟨_, okt, rfl, rfl⟩
    have ebt : PyData.eqv (.list (dN (L.iter t).ready)) (.list []) = decide ((L.iter t).ready = []) := by
      cases (L.iter t).ready with
      | nil => simp [PyData.eqv, PyData.eqvAll, dN]
      | cons x r => simp [PyData.eqv, PyData.eqvAll, dN]
    refine rb_cons (rs_if (k := decide ((L.iter t).ready = [])) ?_ g3.i ?_ ?_)
    · refine Et.is (et_cmp (cm_eq hr (d := .list (dN (L.iter t).ready)) (d' := .list []) (ed_call O1 hr (ea_cons (ed_ixM (er_nm (v := .ref p) rfl) (ed_neg ed_int) hH3 hx3 ⟨a1⟩) ea_nil) ⟨hRr⟩) (ed_lst ea_nil) (by simp only [PyData.depth, depthAll_dN, PyData.depthAll]; decide))) ebt
    · intro e G4 H4 g4
      have hst : (L.iter t).ready = [] := of_decide_eq_true e
      have gb4 := gb3.trans g4
      have hG4 := g4.n' hG3 hH3
      have hH4 := g4.h _ _ hH3
      have gf := fix_list gb4 p0 hG4 hH4
      have dl : Da (upd G4 p (.lst xs)) (.ref p) (.list (L.runs t)) := DaAll.lst upd_same ((hx3.mono g4.g).mono (same_new hG4))
      refine rb_one (rs_retD (ed_nm rfl dl) gf.i fun v' G' H' g' dv => q v' G' H' (gf.trans g') ?_)
      have ef : (List.range (L.n + 2)).find? (fun t => decide ((L.iter t).ready = [])) = some t := by
        rw [List.find?_range_eq_some]
        exact ⟨by simpa using hst, List.mem_range.mpr htn, fun j hj => by simpa using hno j hj⟩
      unfold Ln.runD
      rw [ef]
      exact dv
    · intro e G4 H4 g4
      have hst : (L.iter t).ready ≠ [] := of_decide_eq_false e
      have hG4 := g4.n' hG3 hH3
      have hH4 := g4.h _ _ hH3
      have hx4 := hx3.mono g4.g
      have xl : xs.length = t + 1 := by rw [hx4.len, rl]
      refine rb_nil (rb_one (rs_app (l := p) (xs := xs) (er_nm rfl) (fun G5 H5 g5 => Ed.ev (d := (L.iter (t + 1)).d) (ed_call O2 hr (ea_cons (ed_ixM (er_nm (v := .ref p) rfl) (ed_neg ed_int) (g5.h _ _ hH4) (hx4.mono g5.g) ⟨a1⟩) ea_nil) ⟨hRs⟩) g5.i) g4.i hH4 (by rw [xl]; exact small1000 (by omega)) ?_))
      intro v5 G5 H5 g5 hv5
      have hG5 := g5.n' hG4 hH4
      refine ⟨G5, g3.g.trans (g4.g.trans g5.g), same_mut g5.i hG5, ((gb3.trans g4).trans g5).mut p0 hG5, ⟨_, rfl⟩, hG5, ⟨_, upd_same, ?_⟩, fun u hu => ?_⟩
      · have er : L.runs (t + 1) = L.runs t ++ [(L.iter (t + 1)).d] := by
          unfold Ln.runs
          rw [List.range_succ, List.map_append]
          rfl
        rw [er]
        exact (hx4.mono g5.g).snoc hv5
      · by_cases h : u = t
        · rw [h]; exact hst
        · exact hno u (by omega)
  · rintro σ1 G2 H2 s1 s2 ⟨gb, ⟨oa, rfl⟩, hG2, ⟨xs, hH2, hxs⟩, hno⟩
    rw [dN_length, List.length_range] at hno
    have ef : (List.range (L.n + 2)).find? (fun t => decide ((L.iter t).ready = [])) = none := by
      rw [List.find?_eq_none]
      intro u hu
      simpa using hno u (List.mem_range.mp hu)
    have ed : L.runD = .none := by
      unfold Ln.runD
      rw [ef]
    rw [ed] at q
    exact rb_one (rs_retD ed_non s2 fun v' G' H' g' dv => q v' G' H' (gb.trans g') dv)
end
end Fk
end
section
set_option linter.all false
/-! Ma5: the told rows and their order; what is asked of the mathematics. -/
namespace Fk
open PySem
def Ln.cst (L : Ln) (ps : List Int) (c : List Int) : Int := ((L.chg c).map fun k => ps.getD k 0).sum
/-- a row of costs -/
def rowD (f : List Int → Int) (c : List Int) : PyData := .tuple [.int (f c), kyD c]
def rowL (f : List Int → Int) (c : List Int) : List Int := f c :: c
theorem dataLt_ky (a b : List Int) : PySem.W.dataLt (kyD a) (kyD b) = decide (a < b) := by
  unfold kyD dI
  rw [PySem.W.dataLt_tuple]
  exact PySem.W.dataLt_ints a b
theorem eqv_ky (a b : List Int) : PyData.eqv (kyD a) (kyD b) = decide (a = b) := by
  unfold kyD
  rw [PyData.eqv, eqvAll_dI]
theorem rowLt_iff {f : List Int → Int} {a b : List Int} : rowL f a < rowL f b ↔ f a < f b ∨ (f a = f b ∧ a < b) := by
  unfold rowL
  rw [List.cons_lt_cons_iff]
theorem dataLt_row (f : List Int → Int) (a b : List Int) : PySem.W.dataLt (rowD f a) (rowD f b) = decide (rowL f a < rowL f b) := by
  unfold rowD
  rw [PySem.W.dataLt_pair (by simp [PySem.W.alike]) (alike_ky a b), PySem.W.dataLt_int, dataLt_ky, Bool.eq_iff_iff, decide_eq_true_eq, rowLt_iff]
  simp only [PyData.eqv, beq_iff_eq, eqv_ky, decide_eq_true_eq]
  by_cases h1 : f a = f b
  · by_cases h2 : a = b
    · subst h2
      simp [List.lt_irrefl]
    · simp [h1, h2]
  · simp [h1]
theorem alike_row (f : List Int → Int) (a b : List Int) : PySem.W.alike (rowD f a) (rowD f b) = true := by
  unfold rowD
  have h := alike_ky a b
  simp [PySem.W.alike, PySem.W.alikeAll, h]
theorem lt_tri (a b : List Int) (h1 : ¬ a < b) (h2 : ¬ b < a) : a = b := List.le_antisymm (show a ≤ b from h2) (show b ≤ a from h1)
/-- min picks the least -/
theorem minD_row (f : List Int → Int) : ∀ (xs : List (List Int)) (x : List Int), ∃ m, PySem.W.minD (rowD f x) (xs.map (rowD f)) = rowD f m ∧ m ∈ x :: xs ∧ ∀ y ∈ x :: xs, ¬ rowL f y < rowL f m
  | [], x => ⟨x, rfl, by simp, fun y hy => by rw [List.mem_singleton.mp hy]; exact List.lt_irrefl _⟩
  | z :: xs, x => by
    have e : PySem.W.minD (rowD f x) ((z :: xs).map (rowD f)) = PySem.W.minD (if PySem.W.dataLt (rowD f z) (rowD f x) then rowD f z else rowD f x) (xs.map (rowD f)) := by
      unfold PySem.W.minD
      rw [List.map_cons, List.foldl_cons]
    by_cases h : rowL f z < rowL f x
    · obtain ⟨m, h1, h2, h3⟩ := minD_row f xs z
      refine ⟨m, by rw [e, dataLt_row, decide_eq_true h, if_pos rfl, h1], List.mem_cons_of_mem _ h2, fun y hy => ?_⟩
      rcases List.mem_cons.mp hy with e | hy
      · rw [e]
        intro hx
        exact h3 z (by simp) (List.lt_trans h hx)
      · exact h3 y hy
    · obtain ⟨m, h1, h2, h3⟩ := minD_row f xs x
      refine ⟨m, by rw [e, dataLt_row, decide_eq_false h, if_neg (by decide), h1], ?_, fun y hy => ?_⟩
      · rcases List.mem_cons.mp h2 with e | h2
        · simp [e]
        · simp [h2]
      · rcases List.mem_cons.mp hy with e | hy
        · exact h3 y (by simp [e])
        · rcases List.mem_cons.mp hy with e | hy
          · rw [e]
            intro hz
            by_cases h4 : rowL f x < rowL f z
            · exact h3 x (by simp) (List.lt_trans h4 hz)
            · have e2 := lt_tri _ _ h h4
              rw [e2] at hz
              exact h3 x (by simp) hz
          · exact h3 y (by simp [hy])
/-- the keys in order -/
def srt (ks : List (List Int)) : List (List Int) := ks.mergeSort fun a b => !decide (b < a)
theorem srt_perm (ks : List (List Int)) : (srt ks).Perm ks := List.mergeSort_perm _ _
theorem mem_srt {ks : List (List Int)} {c : List Int} : c ∈ srt ks ↔ c ∈ ks := (srt_perm ks).mem_iff
theorem srt_ky (ks : List (List Int)) : (ks.map kyD).mergeSort (PySem.W.dataLe false id) = (srt ks).map kyD := by
  rw [merge_map]
  have e : (fun a b => PySem.W.dataLe false id (kyD a) (kyD b)) = fun a b : List Int => !decide (b < a) := by
    funext a b
    rw [PySem.W.dataLe_eq]
    show (!PySem.W.dataLt (kyD b) (kyD a)) = _
    rw [dataLt_ky]
  rw [e]
  rfl
theorem srt_sorted (ks : List (List Int)) : (srt ks).Pairwise fun a b => ¬ b < a := by
  have h := List.pairwise_mergeSort (le := fun a b : List Int => !decide (b < a)) (fun a b c h1 h2 => by
    simp at h1 h2 ⊢
    exact List.le_trans h1 h2) (fun a b => by
    simp
    exact List.le_total a b) ks
  exact h.imp fun h => by simpa using h
/-- the first of the sorted ones with a cost -/
theorem first_srt {ks : List (List Int)} {f : List Int → Int} {t : List Int} (ht : t ∈ ks) (hb : ∀ c ∈ ks, f c = f t → ¬ c < t) : ((srt ks).filter fun c => decide (f c = f t))[0]? = some t := by
  have hm : t ∈ (srt ks).filter fun c => decide (f c = f t) := List.mem_filter.mpr ⟨mem_srt.mpr ht, by simp⟩
  have hp := (srt_sorted ks).filter fun c => decide (f c = f t)
  cases e : (srt ks).filter fun c => decide (f c = f t) with
  | nil => rw [e] at hm; cases hm
  | cons x r =>
    have hx : x ∈ (srt ks).filter fun c => decide (f c = f t) := by rw [e]; simp
    obtain ⟨h1, h2⟩ := List.mem_filter.mp hx
    rw [e] at hm hp
    have h3 := hb x (mem_srt.mp h1) (of_decide_eq_true h2)
    rcases List.mem_cons.mp hm with h | h
    · rw [h]; rfl
    · have h4 := (List.pairwise_cons.mp hp).1 t h
      rw [lt_tri x t h3 h4]
      rfl
/-- what is asked of the mathematics -/
structure Mth : Prop where
  paths : ∀ L : Ln, L.Ok → L.n ≤ 11 → PathsOk L
  best : ∀ (L : Ln) (ps : List Int) (m : Bool), L.Ok → L.n ≤ 11 → ps.length = L.n → (∃ S, L.Ind S ∧ L.turn (L.picked ps m) = L.flip S ∧ (L.wc (L.turn (L.picked ps m))).ready = []) ∧ L.cst ps (L.turn (L.picked ps m)) = L.bestCost ps m ∧
    ∀ S, L.Ind S → (L.wc (L.flip S)).ready = [] → (if m = true then L.cst ps (L.flip S) ≤ L.bestCost ps m else L.bestCost ps m ≤ L.cst ps (L.flip S)) ∧ (L.cst ps (L.flip S) = L.bestCost ps m → ¬ L.flip S < L.turn (L.picked ps m))
  run : ∀ (L : Ln) (ps : List Int) (t : Nat), L.Ok → L.n ≤ 11 → ps.length = L.n → ((List.range (L.n + 2)).find? fun t => decide ((L.iter t).ready = [])) = some t →
    L.swings = false ∧ ((List.range (t + 1)).map fun u => ((L.iter u).ready.map fun k => ps.getD k 0).sum).sum = L.stepCost ps
end Fk
end
section
set_option Elab.async false
set_option linter.all false
set_option maxRecDepth 100000
set_option maxHeartbeats 4000000
/-! E9: the law. -/
namespace Fk
open PySem PySem.Spec L2
open PyProof.Rows hiding St
local macro_rules | `(tactic| walk_at "gr") => `(tactic| first | assumption | exact Same.refl _ | (refine Same.trans ?_ (Grow.g (by assumption)); walk_at "gr"))
local macro_rules | `(tactic| walk_at "da") => `(tactic| first | assumption | exact Da.int _ | exact Da.bl _ | exact Da.non | (refine Da.mono ?_ (by assumption); walk_at "gr"))
local macro_rules | `(tactic| walk_at "dp") => `(tactic| (simp only [PyData.depth, PyData.depthAll, depthAll_dI, depthAll_dN, Nat.max_zero, Nat.zero_max, Nat.max_self, Nat.min_self, Nat.zero_min, Nat.min_zero] <;> omega))
local macro_rules | `(tactic| walk_at "bt") => `(tactic| first | exact Bt.isi (by assumption) | exact Bt.int (by assumption) | exact Bt.bool (by assumption) | exact Bt.tuple (by assumption) | exact Bt.len (by assumption) | exact Bt.list (by assumption) | exact Bt.set (by assumption) | exact Bt.sorted (by assumption) | exact Bt.range (by assumption) | exact Bt.enum (by assumption) | exact Bt.zip (by assumption) | exact Bt.min (by assumption) | exact Bt.max (by assumption) | exact Bt.sum (by assumption) | exact Bt.dict (by assumption) | exact Bt.str (by assumption))
local macro_rules | `(tactic| walk_at "au") => `(tactic| first | (apply prop_id; assumption) | (show PySem.W.keepIn _ _ = true; assumption) | (show (_ : Option Value) = none; walk_at "bt") | rfl | (show min _ _ ≤ 64; first | decide | walk_at "dp") | (show _ ≤ sizeLine; first | assumption | (simp only [List.length_cons, List.length_nil]; decide)) | (show (_ : Nat) ≤ _; decide) | (show (_ == _) = false; decide) | (show _ ≠ _; decide) | (show behindInMarks _ _ = false; first | exact nomark _ | with_unfolding_all rfl) | (show lastMarks _ _ = false; with_unfolding_all rfl) | (show OpR _ _ _; first | exact op_le | exact op_lt | exact opI_eq | exact opI_ne) | exact (fun _ _ => rfl) | (show ∀ _, _ = _; intro _; rfl) | exact Or.inl rfl | exact Or.inr rfl)
local macro_rules | `(tactic| walk_at "dt") => `(tactic| first | show Bool | show Int | show PyData | show List PyData | show List Int | show Nat | show Option Int | show V)
local macro_rules | `(tactic| walk_at "Se1") => `(tactic| first | walk_at "dt" | walk_at "Sev" | walk_at "au" | (apply Side.mk; walk_at "au"))
local macro_rules | `(tactic| walk_at "Scm") => `(tactic| first | (apply cm_lt <;> walk_at "Se1") | (apply cm_le <;> walk_at "Se1") | (apply cm_gt <;> walk_at "Se1") | (apply cm_ge <;> walk_at "Se1") | (apply cm_eq <;> walk_at "Se1") | (apply cm_ne <;> walk_at "Se1") | (apply cm_inL <;> walk_at "Se1") | (apply cm_inT <;> walk_at "Se1") | (apply cm_niL <;> walk_at "Se1") | (apply cm_niT <;> walk_at "Se1") | (apply cm_is <;> walk_at "Se1") | (apply cm_isnot <;> walk_at "Se1"))
local macro_rules | `(tactic| walk_at "Set") => `(tactic| first | (apply et_cmp <;> walk_at "Se1") | (apply et_not <;> walk_at "Se1") | (apply et_w; walk_at "Sew") | (apply et_chain <;> walk_at "Se1") | (apply et_val <;> walk_at "Se1"))
local macro_rules | `(tactic| walk_at "Sew") => `(tactic| first | (apply ew_and <;> walk_at "Sew1") | (apply ew_or <;> walk_at "Sew1") | (apply ew_and1; walk_at "Sev") | (apply ew_or1; walk_at "Sev"))
local macro_rules | `(tactic| walk_at "Sew1") => `(tactic| first | walk_at "dt" | (show Et _ _ _ _ _ _; walk_at "Sev") | (intro _; walk_at "Sew"))
local macro_rules | `(tactic| walk_at "Sec") => `(tactic| first | (apply ed_not <;> walk_at "Se1") | (apply ed_and <;> walk_at "Se1") | (apply ed_or <;> walk_at "Se1") | (apply ed_one <;> walk_at "Se1") | (apply ed_cmp <;> walk_at "Se1") | (apply ed_chain <;> walk_at "Se1"))
local macro_rules | `(tactic| walk_at "Seb") => `(tactic| first | (apply ed_lenT <;> walk_at "Se1") | (apply ed_lenL <;> walk_at "Se1") | (apply ed_call <;> walk_at "Se1") | (apply ed_isInt <;> walk_at "Se1") | (apply ed_isBool <;> walk_at "Se1") | (apply ed_isTuple <;> walk_at "Se1") | (apply ed_isList <;> walk_at "Se1") | (apply ed_isStr <;> walk_at "Se1") | (apply ed_isTL <;> walk_at "Se1") | (apply ed_listOf <;> walk_at "Se1") | (apply ed_tupleOf <;> walk_at "Se1") | (apply ed_min2 <;> walk_at "Se1") | (apply ed_int1 <;> walk_at "Se1"))
local macro_rules | `(tactic| walk_at "Sei") => `(tactic| first | (apply ed_ixT <;> walk_at "Se1") | (apply ed_ixL <;> walk_at "Se1"))
local macro_rules | `(tactic| walk_at "Sex") => `(tactic| first | exact ed_int | exact ed_bl | exact ed_non | exact ed_nm rfl (by walk_at "da") | (apply ed_add <;> walk_at "Se1") | (apply ed_sub <;> walk_at "Se1") | (apply ed_neg <;> walk_at "Se1") | walk_at "Sei" | (apply ed_tup <;> walk_at "Se1") | (apply ed_lst <;> walk_at "Se1") | (apply ed_mod <;> walk_at "Se1") | (apply ed_ifI <;> walk_at "Se1") | (apply ed_if2 <;> walk_at "Se1") | (apply ed_slT <;> walk_at "Se1") | (apply ed_slL <;> walk_at "Se1") | (apply ed_catT <;> walk_at "Se1"))
local macro_rules | `(tactic| walk_at "Sev") => `(tactic| first | (show Ed _ _ _ _ _ _; first | walk_at "Sex" | walk_at "Seb" | walk_at "Sec") | (show Et _ _ _ _ _ _; walk_at "Set") | (show Cm _ _ _ _ _ _ _ _; walk_at "Scm") | (show Ea _ _ _ _ _ _; first | exact ea_nil | (apply ea_cons <;> walk_at "Se1")) | (show Eo _ _ _ _ _ _; first | exact eo_none | (apply eo_some; walk_at "Sev")) | (show Er _ _ _ _ _ _; exact er_nm rfl) | (show Ew _ _ _ _ _ _; walk_at "Sew") | (intro _; walk_at "Sev"))
local macro_rules | `(tactic| walk_at "e1") => `(tactic| first | walk_at "dt" | walk_at "ev" | walk_at "au" | (apply Side.mk; first | walk_at "au" | skip))
local macro_rules | `(tactic| walk_at "cm") => `(tactic| first | (apply cm_lt <;> walk_at "e1") | (apply cm_le <;> walk_at "e1") | (apply cm_gt <;> walk_at "e1") | (apply cm_ge <;> walk_at "e1") | (apply cm_eq <;> walk_at "e1") | (apply cm_ne <;> walk_at "e1") | (apply cm_inL <;> walk_at "e1") | (apply cm_inT <;> walk_at "e1") | (apply cm_niL <;> walk_at "e1") | (apply cm_niT <;> walk_at "e1") | (apply cm_is <;> walk_at "e1") | (apply cm_isnot <;> walk_at "e1"))
local macro_rules | `(tactic| walk_at "et") => `(tactic| first | (apply et_cmp <;> walk_at "e1") | (apply et_not <;> walk_at "e1") | (apply et_w; walk_at "ew") | (apply et_chain <;> walk_at "e1") | (apply et_val <;> walk_at "e1"))
local macro_rules | `(tactic| walk_at "ew") => `(tactic| first | (apply ew_and <;> walk_at "ew1") | (apply ew_or <;> walk_at "ew1") | (apply ew_and1; walk_at "ev") | (apply ew_or1; walk_at "ev"))
local macro_rules | `(tactic| walk_at "ew1") => `(tactic| first | walk_at "dt" | (show Et _ _ _ _ _ _; walk_at "ev") | (intro _; walk_at "ew"))
local macro_rules | `(tactic| walk_at "ec") => `(tactic| first | (apply ed_not <;> walk_at "e1") | (apply ed_and <;> walk_at "e1") | (apply ed_or <;> walk_at "e1") | (apply ed_one <;> walk_at "e1") | (apply ed_cmp <;> walk_at "e1") | (apply ed_chain <;> walk_at "e1"))
local macro_rules | `(tactic| walk_at "eb") => `(tactic| first | walk_at "Seb" | (apply ed_lenT <;> walk_at "e1") | (apply ed_lenL <;> walk_at "e1") | (apply ed_call <;> walk_at "e1") | (apply ed_isInt <;> walk_at "e1") | (apply ed_isBool <;> walk_at "e1") | (apply ed_isTuple <;> walk_at "e1") | (apply ed_isList <;> walk_at "e1") | (apply ed_isStr <;> walk_at "e1") | (apply ed_isTL <;> walk_at "e1") | (apply ed_listOf <;> walk_at "e1") | (apply ed_tupleOf <;> walk_at "e1") | (apply ed_min2 <;> walk_at "e1") | (apply ed_int1 <;> walk_at "e1"))
local macro_rules | `(tactic| walk_at "ei") => `(tactic| first | walk_at "Sei" | (apply ed_ixT <;> walk_at "e1") | (apply ed_ixL <;> walk_at "e1"))
local macro_rules | `(tactic| walk_at "ex") => `(tactic| first | exact ed_int | exact ed_bl | exact ed_non | exact ed_nm rfl (by walk_at "da") | (apply ed_add <;> walk_at "e1") | (apply ed_sub <;> walk_at "e1") | (apply ed_neg <;> walk_at "e1") | walk_at "ei" | (apply ed_tup <;> walk_at "e1") | (apply ed_lst <;> walk_at "e1") | (apply ed_mod <;> walk_at "e1") | (apply ed_ifI <;> walk_at "e1") | (apply ed_if2 <;> walk_at "e1") | (apply ed_slT <;> walk_at "e1") | (apply ed_slL <;> walk_at "e1") | (apply ed_catT <;> walk_at "e1"))
local macro_rules | `(tactic| walk_at "ev") => `(tactic| first | (show Ed _ _ _ _ _ _; first | walk_at "ex" | walk_at "eb" | walk_at "ec") | (show Et _ _ _ _ _ _; walk_at "et") | (show Cm _ _ _ _ _ _ _ _; walk_at "cm") | (show Ea _ _ _ _ _ _; first | exact ea_nil | (apply ea_cons <;> walk_at "e1")) | (show Eo _ _ _ _ _ _; first | exact eo_none | (apply eo_some; walk_at "ev")) | (show Er _ _ _ _ _ _; exact er_nm rfl) | (show Ew _ _ _ _ _ _; walk_at "ew") | (intro _; walk_at "ev"))
def spLaw (K : PySem.W.Frag) : Sp := fun vs H Q _ => ∃ (sc : Addr) (ns : List Int), vs = [.ref sc] ∧ SqL K H sc (ns.map V.int) ∧ ∀ H', Q (.bl true) H'
theorem depth_row (f : List Int → Int) (c : List Int) : (rowD f c).depth ≤ 3 := by
  unfold rowD
  simp [PyData.depth, PyData.depthAll, depth_ky]
theorem depthAll_row (f : List Int → Int) : ∀ xs : List (List Int), PyData.depthAll (xs.map (rowD f)) ≤ 3
  | [] => by simp [PyData.depthAll]
  | x :: xs => by
    have h1 := depth_row f x
    have h2 := depthAll_row f xs
    rw [List.map_cons, PyData.depthAll]
    omega
theorem alike_row_all (f : List Int → Int) (xs : List (List Int)) : PySem.W.AlikeAll (xs.map (rowD f)) := by
  refine ⟨fun x hx y hy => ?_, fun x hx => ?_⟩
  · obtain ⟨a, _, rfl⟩ := List.mem_map.mp hx
    obtain ⟨b, _, rfl⟩ := List.mem_map.mp hy
    exact alike_row f a b
  · obtain ⟨a, _, rfl⟩ := List.mem_map.mp hx
    exact nofun
theorem al_row (f : List Int → Int) (c : List Int) (h : c.length ≤ 1000) : al 2 (rowD f c) := by
  refine .inr ⟨_, rfl, by show 2 ≤ 1000; decide, fun x hx => ?_⟩
  rcases List.mem_cons.mp hx with e | hx
  · rw [e]; exact .inl ⟨_, rfl⟩
  · rw [List.mem_singleton.mp hx]
    refine .inr ⟨dI c, rfl, by rw [dI_length]; exact h, fun y hy => ?_⟩
    obtain ⟨i, _, rfl⟩ := List.mem_map.mp hy
    exact ⟨i, rfl⟩
section
variable {P : Program} {w : World} {K : PySem.W.Frag} {mg : Str → Option Value} {base : Heap}
set_option maxHeartbeats 8000000 in
theorem ok_law (M : Mth) {f : Addr} {fd : FuncData} (F : Fun K "law" "law" s_law f fd) (B : Bt mg) (O1 : Own P w K mg base "_law_taken" 1 (spX K F_taken)) (O2 : Own P w K mg base "_law_pick" 2 (spX K F_pick)) (O3 : Own P w K mg base "_law_line" 3 (spX K F_line)) (O4 : Own P w K mg base "_law_ends" 4 spEnds)
    (O5 : Own P w K mg base "_law_alike" 3 (spD (R_alike 2))) (O6 : Own P w K mg base "cheapest_end" 9 (spD (R_end false))) (O7 : Own P w K mg base "dearest_end" 9 (spD (R_end true))) (O8 : Own P w K mg base "_law_run" 4 (spD R_run)) (O9 : Own P w K mg base "_law_ready" 2 (spD R_lready))
    (O10 : Own P w K mg base "step_cost" 6 (spD R_step_cost)) (O11 : Own P w K mg base "_law_alike" 1 (spD (R_alike 0))) : FnOk P w K mg base CX0 10 f fd P_law (spLaw K) := by
  refine F.ok sc_law (fun vs H Q E ⟨_, _, e, _⟩ => by rw [e]; rfl) fun cdv A outer s H vs Q E hr h => ⟨_, pss_self, ?_⟩
  obtain ⟨sc, ns, rfl, hS, q⟩ := h
  show RB (CtxOf P w K mg base N_law "law" s_law f cdv A outer s H E) (defBody s_law) { nx := fun _ H' => Q .non H', rt := Q } (start N_law [.ref sc]) H
  have i0 : Same (fun _ => none) H := fun a w e => by have e' : (none : Option HO) = some w := e; cases e'
  -- the row
  refine rb_cons (rs_set (G := fun _ => none) (P := fun v G2 H2 => ∃ p, v = .ref p ∧ G2 p = none ∧ RowOk K H2 p sc ns) ⟨fun Q' q' => re_of (pe_lst (pa_cons pe_self (pa_cons pe_self (pa_cons pe_self (pa_cons pe_self pa_nil rfl) rfl) rfl) rfl)) ?_⟩ sc_law.nd ?_)
  · refine Er.run (X := CtxOf P w K mg base N_law "law" s_law f cdv A outer s H E) (σ := start N_law [.ref sc]) (e := .Name "_law_script" _) (G := fun _ => none) (v := .ref sc) (er_nm rfl) (fun _ => none) H (Grow.refl i0) _ fun G2 H2 g2 => ?_
    refine re_of pe_int (re_of pe_int (re_of pe_int ?_))
    refine ⟨by show 4 ≤ sizeLine; decide, fun t ht => q' _ _ _ (g2.trans (.newH g2.i ht)) ⟨t, rfl, g2.i.free ht, ?_, ?_, 0, 8235, 0, Int.le_refl _, upd_same⟩⟩
    · rcases hS with (h | ⟨o, h⟩) | h
      · exact .inl (Ne.symm (ne_of_none (g2.h _ _ h) ht)).symm
      · exact .inl (Ne.symm (ne_of_none (g2.h _ _ h) ht)).symm
      · exact .inr (.inr h)
    · exact Same.seq (same_new ht) (Same.seq g2.h hS)
  rintro _ G1 H1 g1 ⟨p, rfl, hGp, r1⟩
  -- the line
  refine rb_cons (rs_setK (p := p) (sc := sc) (ns := ns) (D := fun d => ∃ L : Ln, L.Ok ∧ L.n ≤ 11 ∧ d = L.d) (ek_call O3 hr (fun G1 H1 i => er_nm (v := .ref p) rfl) (eka_cons (ek_of (d := .int 11) fun G1 H1 g _ => ed_int) (eka_cons (ek_add (ek_ofI (i := 2) fun G1 H1 g _ => ed_int) (ek_tk (n := 2) O1 hr (fun G1 H1 i => er_nm (v := .ref p) rfl) (ek_of fun G1 H1 g _ => ed_int) (by decide) (by decide))) eka_nil)) ?_) g1.i hGp r1 sc_law.nd ?_)
  · rintro ds ⟨d1, r1, rfl, rfl, d2, r2, rfl, ⟨k, ⟨i, j, rfl, ⟨h1, h2⟩, rfl⟩, rfl⟩, rfl⟩
    exact ⟨2 + j, by omega, by omega, rfl, rfl⟩
  rintro v2 _ G2 H2 ⟨L, ok, h11, rfl⟩ hv2 g2 r2
  have hn1 := ok.one
  have e1 : (dI L.c).length = L.n := by rw [dI_length]; rfl
  -- top
  refine rb_cons (rs_setK (p := p) (sc := sc) (ns := ns) (D := nums (· ∈ [2, 9, 1001])) (ek_call O2 hr (fun G1 H1 i => er_nm (v := .ref p) rfl) (eka_cons (ek_of (d := .list (dI [2, 9, 1001])) fun G1 H1 g _ => ?_) eka_nil) (fun ds ⟨d, r, e1, e2, e3⟩ => ⟨[2, 9, 1001], by decide, by decide, by rw [e1, e2, e3], rfl⟩)) g2.i g2.p r2 sc_law.nd ?_)
  · show Ed _ _ _ _ _ (.list [.int 2, .int 9, .int 1001])
    walk_at "ev"
  intro v3 d3 G3 H3 hd3 hv3 g3 r3
  obtain ⟨tp, htp, rfl⟩ := nums_inv hd3 hv3
  have ht0 : 0 < tp ∧ tp < 1073741824 ∧ tp ≤ 1001 := by
    simp only [List.mem_cons, List.not_mem_nil, or_false] at htp
    omega
  have hv23 : Da G3 v2 (.tuple [.tuple (dI L.c), .tuple (dN L.h), .bool L.r]) := hv2.mono g3.g
  -- prices
  refine rb_cons (rs_setK (p := p) (sc := sc) (ns := ns) (D := anyT fun l => ∃ ps : List Int, ps.length = L.n ∧ (∀ x ∈ ps, 0 ≤ x ∧ x < tp) ∧ l = dI ps) (ek_tupleOf B.tuple (Ek.weak (ek_lc0 (own := [("_law_k", 12)]) (S := fun _ => Sn 12) (ds := dN (List.range L.n)) (fun _ => nums fun r => 0 ≤ r ∧ r < tp) (fun i l => ∃ ps : List Int, ps.length = i ∧ (∀ x ∈ ps, 0 ≤ x ∧ x < tp) ∧ l = dI ps) sc_law.nd
    (fun Ga Ha g _ => es_range B.range (n := L.n) (Ed.is (ed_lenT (ds := dI L.c) B.len (ed_ixT (ds := [.tuple (dI L.c), .tuple (dN L.h), .bool L.r]) (i := 0) (ed_nm rfl (hv23.mono g.g)) ed_int ⟨rfl⟩)) (by rw [e1])) (by omega)) (blkOk_by (N := N_law) (sc := defScope s_law) (by decide +kernel)) (fun s0 H0 C cl fp i d hd => bd_name sc_law.nd) ?_ ?_ ?_ ⟨[], rfl, nofun, rfl⟩ ?_ (fun i d σ1 G1 G2 σ2 e h => h.mono e))
      (fun d ⟨l, ⟨ps, h1, h2, h3⟩, e⟩ => ⟨l, ⟨ps, by rw [dN_length, List.length_range] at h1; exact h1, h2, h3⟩, e⟩))) g3.i g3.p r3 sc_law.nd ?_)
  · rintro i d G' σ2 ⟨v, rfl, _⟩
    rfl
  · rintro s0 H0 C cl fp i d σ2 G' H' g' r' hd ⟨v, rfl, hv⟩
    exact ek_tk (n := tp) O1 hr (fun G1 H1 i => er_nm (v := .ref p) rfl) (ek_of fun G1 H1 g _ => ed_nm rfl (.int tp)) ht0.1 ht0.2.1
  · rw [dN_length, List.length_range]; omega
  · rintro i l d hi ⟨ps, k1, k2, rfl⟩ ⟨r, hr', rfl⟩
    refine ⟨ps ++ [r], by rw [List.length_append, k1]; rfl, fun x hx => ?_, by unfold dI; rw [List.map_append]; rfl⟩
    rcases List.mem_append.mp hx with h' | h'
    · exact k2 x h'
    · rw [List.mem_singleton.mp h']; exact hr'
  rintro v4 _ G4 H4 ⟨_, ⟨ps, hpl, hps0, rfl⟩, rfl⟩ hv4 g4 _
  have hps : ∀ x ∈ ps, 0 ≤ x ∧ x ≤ 1000 := fun x hx => by have := hps0 x hx; omega
  have hv24 := hv23.mono g4.g
  have i4 := g4.i
  clear g4 g3 g2 g1 r1 r2 r3 hv23 hv2 i0
  -- told
  refine rb_cons (rs_set (G := G4) (P := fun v G5 H5 => ∃ d ks, v = .ref d ∧ EndAt G5 H5 L d ks ∧ ks.Nodup ∧ ∀ c, c ∈ ks ↔ ∃ S, L.Ind S ∧ c = L.flip S ∧ (L.wc c).ready = []) ⟨fun Q' q' => ?_⟩ sc_law.nd ?_)
  · obtain ⟨f1, fd1, ps1, m1, kp1, b1, F1⟩ := O4.ex
    refine re_of (pe_call F1 (hr.mono (by decide)) rfl m1 kp1 b1 .nil pass0 pa_self (by decide) rfl rfl) (Ea.run (ds := [L.d]) (ea_cons (ed_nm rfl hv24) ea_nil) G4 H4 (.refl i4) _ fun vs G5 H5 g5 dvs => ?_)
    exact ⟨G5, [L.d], L, ok, h11, rfl, g5.i, by rw [List.append_nil]; exact dvs, fun d ks G6 H6 g6 d0 dG hE nd hm => q' _ G6 H6 (g5.trans g6) ⟨d, ks, rfl, hE, nd, hm⟩⟩
  rintro _ G5 H5 g5 ⟨d, ks, rfl, hE5, hnd, hks⟩
  have hv25 := hv24.mono g5.g
  have hv45 := hv4.mono g5.g
  have i5 := g5.i
  clear g5
  have kflip : Ln.Flips L ks := fun c hc => by
    obtain ⟨S, I, e, _⟩ := (hks c).mp hc
    exact ⟨S, I, e⟩
  have klen : ∀ c ∈ ks, c.length = L.n := fun c hc => by
    obtain ⟨S, I, e⟩ := kflip c hc
    rw [e, Ln.flip_len]
  have kfew : ks.length ≤ 2048 := Ln.few hnd kflip h11
  have slen : (srt ks).length = ks.length := (srt_perm ks).length_eq
  -- costs
  refine rb_cons (rs_setLc0 (own := [("_law_cells", 11)]) (S := fun _ => Sn 11) (fun i => rowD (L.cst ps) ((srt ks).getD i [])) sc_law.nd (es_list (ds := (srt ks).map kyD) ?_) i5 (blkOk_by (N := N_law) (sc := defScope s_law) (by decide +kernel)) (fun s0 H0 C cl fp i d hd => bd_name sc_law.nd) ?_ ?_ ?_ ?_)
  · obtain ⟨kvs, hH, hk, hval⟩ := id hE5
    rw [← srt_ky]
    exact ed_sortKT B.sorted hr (er_nm (v := .ref d) rfl) hH hk fun c hc e => by
      have := klen c hc
      rw [e] at this
      simp at this
      omega
  · rintro i d G' σ2 ⟨v, rfl, _⟩
    rfl
  · rintro s0 H0 C cl fp i d' σ2 G' H' g' hd ⟨v, rfl, hv⟩
    obtain ⟨c, hc, rfl⟩ := map_get' hd
    rw [getD_of hc]
    have hck : c ∈ ks := mem_srt.mp (List.mem_of_getElem? hc)
    obtain ⟨kvs, hH, hk, hval⟩ := hE5.grow g'
    obtain ⟨wv, hwv⟩ := valV_has (kvs := kvs) (k := tk c) (by rw [hk]; exact List.mem_map.mpr ⟨c, hck, rfl⟩)
    have dw := hval c wv hwv
    have hv45' := hv45.mono g'.g
    refine ed_tup (ea_cons (d := .int (L.cst ps c)) (ed_sum (ns := (L.chg c).map fun k => ps.getD k 0) B.sum ?_) (ea_cons (ed_nm rfl hv) ea_nil)) (show 2 ≤ sizeLine by decide)
    have e2 : PyData.list (((L.chg c).map fun k => ps.getD k 0).map PyData.int) = .list ((List.range (dN (L.chg c)).length).map fun i => .int (ps.getD ((L.chg c).getD i 0) 0)) := by
      rw [dN_length, range_map (L.chg c) 0 fun k => PyData.int (ps.getD k 0), List.map_map]
      rfl
    rw [e2]
    refine En.ed (en_lc0 (own := [("_law_k", 12)]) (S := fun _ => Sn 12) (fun i => .int (ps.getD ((L.chg c).getD i 0) 0)) sc_law.nd (es_list (ds := dN (L.chg c)) (ed_dgetT hr (er_nm (v := .ref d) rfl) (ed_nm rfl hv) (.inl hH) hwv dw)) (blkOk_by (N := N_law) (by rfl)) (fun s0 H0 C cl fp i d hd => bd_name sc_law.nd) ?_ ?_ ?_)
    · rintro j d2 G2' σ3 ⟨v1, rfl, _⟩
      rfl
    · rintro s1' H1' C1 cl1 fp1 j d2 σ3 G2' H2' g2' hd2 ⟨v1, rfl, hv1⟩
      obtain ⟨k, hk2, rfl⟩ := dN_get' hd2
      rw [getD_of hk2]
      have hkn : k < L.n := List.mem_range.mp (List.mem_filter.mp (List.mem_of_getElem? hk2)).1
      have ap : atI (dI ps) (k : Int) = some (.int (ps.getD k 0)) := atI_nat (dI_get (getD_at (by omega)))
      exact ed_ixT (ed_nm rfl (hv45'.mono g2'.g)) (ed_nm rfl hv1) ⟨ap⟩
    · rw [dN_length]
      have h1 := List.length_filter_le (fun k => decide (c.getD k 0 ≠ L.col k)) (List.range L.n)
      rw [List.length_range] at h1
      show (L.chg c).length ≤ 1000000
      unfold Ln.chg
      omega
  · rw [List.length_map, slen]; omega
  intro v6 G6 H6 g6 hv6
  rw [List.length_map, range_map (srt ks) [] (rowD (L.cst ps))] at hv6
  have hv26 := hv25.mono g6.g
  have hv46 := hv45.mono g6.g
  have i6 := g6.i
  clear g6 hE5
  obtain ⟨⟨Sa, Ia, ea, ra⟩, ca, ba⟩ := M.best L ps false ok h11 hpl
  obtain ⟨⟨Sb, Ib, eb, rb'⟩, cb, bb⟩ := M.best L ps true ok h11 hpl
  have hma : L.turn (L.picked ps false) ∈ ks := (hks _).mpr ⟨Sa, Ia, ea, ra⟩
  have hmb : L.turn (L.picked ps true) ∈ ks := (hks _).mpr ⟨Sb, Ib, eb, rb'⟩
  have po := M.paths L ok h11
  have la : (L.turn (L.picked ps false)).length = L.n := klen _ hma
  have lb : (L.turn (L.picked ps true)).length = L.n := klen _ hmb
  have hRa : R_end false [L.d, .tuple (dI ps)] (rowD (L.cst ps) (L.turn (L.picked ps false))) := ⟨L, ps, ok, h11, po, hpl, hps, rfl, by unfold rowD; rw [ca]; rfl⟩
  have hRb : R_end true [L.d, .tuple (dI ps)] (rowD (L.cst ps) (L.turn (L.picked ps true))) := ⟨L, ps, ok, h11, po, hpl, hps, rfl, by unfold rowD; rw [cb]; rfl⟩
  have na := al_row (L.cst ps) (L.turn (L.picked ps false)) (by omega)
  have nb := al_row (L.cst ps) (L.turn (L.picked ps true)) (by omega)
  have hAa : R_alike 2 [rowD (L.cst ps) (L.turn (L.picked ps false)), rowD (L.cst ps) (L.turn (L.picked ps false))] (.bool true) := ⟨_, na, rfl, rfl⟩
  have hAb : R_alike 2 [rowD (L.cst ps) (L.turn (L.picked ps true)), rowD (L.cst ps) (L.turn (L.picked ps true))] (.bool true) := ⟨_, nb, rfl, rfl⟩
  have leastA : ∀ c ∈ ks, L.bestCost ps false ≤ L.cst ps c ∧ (L.cst ps c = L.bestCost ps false → ¬ c < L.turn (L.picked ps false)) := fun c hc => by
    obtain ⟨S, I, e, r⟩ := (hks c).mp hc
    have h := ba S I (by rw [← e]; exact r)
    rw [← e] at h
    exact h
  have mostB : ∀ c ∈ ks, L.cst ps c ≤ L.bestCost ps true ∧ (L.cst ps c = L.bestCost ps true → ¬ c < L.turn (L.picked ps true)) := fun c hc => by
    obtain ⟨S, I, e, r⟩ := (hks c).mp hc
    have h := bb S I (by rw [← e]; exact r)
    rw [← e] at h
    exact h
  -- most
  refine rb_cons (rs_setD (d := .int (L.bestCost ps true)) (ed_max (ns := (srt ks).map (L.cst ps)) B.max ?_ ?_ ?_) i6 sc_law.nd ?_)
  · have e2 : PyData.list (((srt ks).map (L.cst ps)).map PyData.int) = .list ((List.range ((srt ks).map (rowD (L.cst ps))).length).map fun i => .int (L.cst ps ((srt ks).getD i []))) := by
      rw [List.length_map, range_map (srt ks) [] fun c => PyData.int (L.cst ps c), List.map_map]
      rfl
    rw [e2]
    refine En.ed (en_lc0 (own := [("_law_cost", 13), ("_law_cells", 11)]) (S := fun i _ => Sp2 13 11 (.int (L.cst ps ((srt ks).getD i []))) (kyD ((srt ks).getD i []))) (fun i => .int (L.cst ps ((srt ks).getD i []))) sc_law.nd (es_list (ds := (srt ks).map (rowD (L.cst ps))) (ed_nm rfl hv6)) (blkOk_by (N := N_law) (sc := defScope s_law) (by decide +kernel)) ?_ ?_ ?_ ?_)
    · intro s0 H0 C cl fp i d' hd
      obtain ⟨c, hc, rfl⟩ := map_get' hd
      rw [getD_of hc]
      exact bd_pair sc_law.nd
    · rintro i d' G' σ2 ⟨v, u, rfl, _, _⟩
      rfl
    · rintro s0 H0 C cl fp i d' σ2 G' H' g' hd ⟨v, u, rfl, hv, hu⟩
      exact ed_nm rfl hv
    · rw [List.length_map, slen]; omega
  · rw [← cb]
    exact List.mem_map.mpr ⟨_, mem_srt.mpr hmb, rfl⟩
  · intro y hy
    obtain ⟨c, hc, rfl⟩ := List.mem_map.mp hy
    exact (mostB c (mem_srt.mp hc)).1
  intro v7 G7 H7 g7 hv7
  cases hv7.inv_int
  have hv27 := hv26.mono g7.g
  have hv47 := hv46.mono g7.g
  have hv67 := hv6.mono g7.g
  have i7 := g7.i
  clear g7
  -- cheapest
  obtain ⟨x, xs, exs⟩ : ∃ x xs, srt ks = x :: xs := by
    cases e : srt ks with
    | nil =>
      have := mem_srt.mpr hma
      rw [e] at this
      cases this
    | cons x xs => exact ⟨x, xs, rfl⟩
  have emin : PySem.W.minD (rowD (L.cst ps) x) (xs.map (rowD (L.cst ps))) = rowD (L.cst ps) (L.turn (L.picked ps false)) := by
    obtain ⟨m, h1, h2, h3⟩ := minD_row (L.cst ps) xs x
    rw [h1]
    rw [← exs] at h2 h3
    have hm := mem_srt.mp h2
    have h4 := h3 _ (mem_srt.mpr hma)
    have h5 := leastA m hm
    rw [rowLt_iff, ca] at h4
    have h6 : L.cst ps m = L.bestCost ps false := by
      by_cases h : L.bestCost ps false < L.cst ps m
      · exact absurd (.inl h) h4
      · omega
    have h7 : ¬ L.turn (L.picked ps false) < m := fun h => h4 (.inr ⟨h6.symm, h⟩)
    rw [lt_tri m _ (h5.2 h6) h7]
  refine rb_cons (rs_skip (Et.is (et_not (et_val (ed_call O5 hr (ea_cons (ed_call O6 hr (ea_cons (ed_nm rfl hv27) (ea_cons (ed_nm rfl hv47) ea_nil)) ⟨hRa⟩) (ea_cons (Ed.is (ed_minD (d := rowD (L.cst ps) x) (ds := xs.map (rowD (L.cst ps))) B.min hr (ed_nm rfl ?_) ?_ ?_) emin) ea_nil)) ⟨hAa⟩))) rfl) i7 ?_)
  · have h := hv67
    rw [exs] at h
    exact h
  · have h := alike_row_all (L.cst ps) (x :: xs)
    exact h
  · have h := depthAll_row (L.cst ps) (x :: xs)
    rw [List.map_cons] at h
    omega
  intro G8 H8 g8
  have hv28 := hv27.mono g8.g
  have hv48 := hv47.mono g8.g
  have hv68 := hv67.mono g8.g
  have i8 := g8.i
  clear g8
  -- dearest
  have efst : atI (((srt ks).filter fun c => decide (L.cst ps c = L.bestCost ps true)).map (rowD (L.cst ps))) 0 = some (rowD (L.cst ps) (L.turn (L.picked ps true))) := by
    have h := first_srt (f := L.cst ps) hmb fun c hc e => (mostB c hc).2 (e.trans cb)
    rw [cb] at h
    refine atI_nat (j := 0) ?_
    rw [List.getElem?_map, h]
    rfl
  refine rb_cons (rs_skip (Et.is (et_not (et_val (ed_call O5 hr (ea_cons (ed_call O7 hr (ea_cons (ed_nm rfl hv28) (ea_cons (ed_nm rfl hv48) ea_nil)) ⟨hRb⟩) (ea_cons (ed_ixL (ds := ((srt ks).filter fun c => decide (L.cst ps c = L.bestCost ps true)).map (rowD (L.cst ps))) (i := 0) ?_ ed_int ⟨efst⟩) ea_nil)) ⟨hAb⟩))) rfl) i8 ?_)
  · have e2 : ((srt ks).filter fun c => decide (L.cst ps c = L.bestCost ps true)).map (rowD (L.cst ps)) = given ((srt ks).map (rowD (L.cst ps))).length (fun i => decide (L.cst ps ((srt ks).getD i []) = L.bestCost ps true)) (fun i => rowD (L.cst ps) ((srt ks).getD i [])) := by
      unfold given
      rw [List.length_map, given_map (srt ks) [] (fun c => decide (L.cst ps c = L.bestCost ps true)) (rowD (L.cst ps))]
    rw [e2]
    refine En.ed (en_lc1 (own := [("_law_one", 14)]) (S := fun _ => Sn 14) (fun i => decide (L.cst ps ((srt ks).getD i []) = L.bestCost ps true)) (fun i => rowD (L.cst ps) ((srt ks).getD i [])) sc_law.nd (es_list (ds := (srt ks).map (rowD (L.cst ps))) (ed_nm rfl hv68)) (blkOk_by (N := N_law) (sc := defScope s_law) (by decide +kernel)) (fun s0 H0 C cl fp i d hd => bd_name sc_law.nd) ?_ ?_ ?_ ?_)
    · rintro i d' G' σ2 ⟨v, rfl, _⟩
      rfl
    · rintro s0 H0 C cl fp i d' σ2 G' H' g' hd ⟨v, rfl, hv⟩
      obtain ⟨c, hc, rfl⟩ := map_get' hd
      rw [getD_of hc]
      refine Et.is (et_cmp (cm_eq hr (d := .int (L.cst ps c)) (d' := .int (L.bestCost ps true)) (ed_ixT (ds := [.int (L.cst ps c), kyD c]) (i := 0) (ed_nm rfl hv) ed_int ⟨rfl⟩) (ed_nm rfl (.int _)) (by simp [PyData.depth]))) ?_
      rw [PyData.eqv, beq_dec]
    · rintro s0 H0 C cl fp i d' σ2 G' H' g' hd ⟨v, rfl, hv⟩ _
      obtain ⟨c, hc, rfl⟩ := map_get' hd
      rw [getD_of hc]
      exact ed_nm rfl hv
    · rw [List.length_map, slen]; omega
  intro G9 H9 g9
  have hv29 := hv28.mono g9.g
  have hv49 := hv48.mono g9.g
  have i9 := g9.i
  clear g9 hv68 hv67 hv6
  -- the run
  have hRr : R_run [L.d] L.runD := ⟨L, ok, rfl, rfl⟩
  refine rb_cons (rs_setD (d := L.runD) (ed_call O8 hr (ea_cons (ed_nm rfl hv29) ea_nil) ⟨hRr⟩) i9 sc_law.nd ?_)
  intro v8 Ga Ha ga hv8
  have hv2a := hv29.mono ga.g
  have hv4a := hv49.mono ga.g
  have ia := ga.i
  clear ga
  cases hf : (List.range (L.n + 2)).find? fun t => decide ((L.iter t).ready = []) with
  | none =>
    have erun : L.runD = .none := by unfold Ln.runD; rw [hf]
    rw [erun] at hv8
    refine rb_cons (rs_if (k := true) (Et.is (b := isNone .none) ?_ rfl) ia ?_ nofun)
    · walk_at "ev"
    · intro _ Gb Hb gb
      exact rb_one (rs_retD ed_bl gb.i fun v' G' H' g' dv => by cases dv.inv_bl; exact q H')
  | some t =>
    have erun : L.runD = .list (L.runs t) := by unfold Ln.runD; rw [hf]
    rw [erun] at hv8
    obtain ⟨hsw, hsum⟩ := M.run L ps t ok h11 hpl hf
    have htn : t < L.n + 2 := by
      have := List.mem_of_find?_eq_some hf
      exact List.mem_range.mp this
    refine rb_cons (rs_skip (Et.is (b := isNone (.list (L.runs t))) ?_ rfl) ia ?_)
    · walk_at "ev"
    intro Gb Hb gb
    have hv2b := hv2a.mono gb.g
    have hv4b := hv4a.mono gb.g
    have hv8b := hv8.mono gb.g
    have ib := gb.i
    clear gb
    refine rb_cons (rs_setD (d := .int 0) ed_int ib sc_law.nd ?_)
    intro v9 Gc Hc gc hv9
    cases hv9.inv_int
    have hv2c := hv2b.mono gc.g
    have hv4c := hv4b.mono gc.g
    have hv8c := hv8b.mono gc.g
    have ic := gc.i
    clear gc
    refine rb_cons (rs_for (es_list (ds := L.runs t) (ed_nm rfl hv8c)) ic (fun n d hd => bd_name sc_law.nd)
      (fun n σ' G' H' => Same Gc G' ∧ ∃ a b c e f, σ' = [some (.ref sc), some (.ref p), some v2, some (.int tp), some v4, some (.ref d), some v6, some (.int (L.bestCost ps true)), some v8, some (.int (((List.range n).map fun u => ((L.iter u).ready.map fun k => ps.getD k 0).sum).sum)), a, b, c, e, f]) ?_ ?_ ?_)
    · intro G' H' g'
      exact ⟨g'.g, _, _, _, _, _, rfl⟩
    · rintro n d' σ1 Gd Hd Ge He σ2 hd s1 s2 ⟨sg, oa, ob, oc, oe, of', rfl⟩ ge ⟨u, rfl, hu⟩
      have hdn : d' = (L.iter n).d := by
        unfold Ln.runs at hd
        obtain ⟨j, hj, rfl⟩ := map_get' hd
        have := (List.getElem?_eq_some_iff.mp hj).2
        rw [List.getElem_range] at this
        rw [this]
      subst hdn
      obtain ⟨okn, hnn⟩ := Ln.iter_ok ok n
      have hRr2 : R_lready [(L.iter n).d] (.list (dN (L.iter n).ready)) := ⟨_, okn, rfl, rfl⟩
      have hv4e := (hv4c.mono sg).mono ge.g
      refine rb_one (rs_setD (d := .int (((List.range n).map fun u => ((L.iter u).ready.map fun k => ps.getD k 0).sum).sum + ((L.iter n).ready.map fun k => ps.getD k 0).sum)) (ed_add (ed_nm rfl (.int _)) (ed_sum (ns := (L.iter n).ready.map fun k => ps.getD k 0) B.sum ?_)) ge.i sc_law.nd ?_)
      · have e2 : PyData.list (((L.iter n).ready.map fun k => ps.getD k 0).map PyData.int) = .list ((List.range (dN (L.iter n).ready).length).map fun i => .int (ps.getD ((L.iter n).ready.getD i 0) 0)) := by
          rw [dN_length, range_map (L.iter n).ready 0 fun k => PyData.int (ps.getD k 0), List.map_map]
          rfl
        rw [e2]
        refine En.ed (en_lc0 (own := [("_law_k", 12)]) (S := fun _ => Sn 12) (fun i => .int (ps.getD ((L.iter n).ready.getD i 0) 0)) sc_law.nd (es_list (ds := dN (L.iter n).ready) (ed_call O9 hr (ea_cons (ed_nm rfl hu) ea_nil) ⟨hRr2⟩)) (blkOk_by (N := N_law) (sc := defScope s_law) (by decide +kernel)) (fun s0 H0 C cl fp i d hd => bd_name sc_law.nd) ?_ ?_ ?_)
        · rintro j d2 G2' σ3 ⟨v1, rfl, _⟩
          rfl
        · rintro s1' H1' C1 cl1 fp1 j d2 σ3 G2' H2' g2' hd2 ⟨v1, rfl, hv1⟩
          obtain ⟨k, hk2, rfl⟩ := dN_get' hd2
          rw [getD_of hk2]
          have hkn : k < L.n := by rw [← hnn]; exact (Ln.mem_ready.mp (List.mem_of_getElem? hk2)).1
          have ap : atI (dI ps) (k : Int) = some (.int (ps.getD k 0)) := atI_nat (dI_get (getD_at (by omega)))
          exact ed_ixT (ed_nm rfl (hv4e.mono g2'.g)) (ed_nm rfl hv1) ⟨ap⟩
        · rw [dN_length]
          have h1 : (L.iter n).ready.length ≤ (L.iter n).n := by
            unfold Ln.ready
            exact Nat.le_trans (List.length_filter_le _ _) (by simp)
          have := ok.most
          omega
      · intro v' G' H' g' hv'
        cases hv'.inv_int
        refine ⟨G', ge.g.trans g'.g, g'.i, sg.trans (ge.g.trans g'.g), some u, ob, oc, oe, of', ?_⟩
        have es : (((List.range (n + 1)).map fun u => ((L.iter u).ready.map fun k => ps.getD k 0).sum).sum) = ((List.range n).map fun u => ((L.iter u).ready.map fun k => ps.getD k 0).sum).sum + ((L.iter n).ready.map fun k => ps.getD k 0).sum := by
          rw [List.range_succ, List.map_append, List.sum_append]
          simp
        rw [es]
        rfl
    · rintro σ1 Gd Hd s1 s2 ⟨sg, oa, ob, oc, oe, of', rfl⟩
      have hlen : (L.runs t).length = t + 1 := by simp [Ln.runs]
      rw [hlen, hsum]
      have hRs : R_step_cost [L.d, .tuple (dI ps)] (.int (L.stepCost ps)) := ⟨L, ps, ok, hsw, hpl, hps, rfl, rfl⟩
      have hA0 : R_alike 0 [.int (L.stepCost ps), .int (L.stepCost ps)] (.bool true) := ⟨_, ⟨_, rfl⟩, rfl, rfl⟩
      exact rb_one (rs_retD (ed_call O11 hr (ea_cons (ed_call O10 hr (ea_cons (ed_nm rfl (hv2c.mono sg)) (ea_cons (ed_nm rfl (hv4c.mono sg)) ea_nil)) ⟨hRs⟩) (ea_cons (ed_nm rfl (.int _)) ea_nil)) ⟨hA0⟩) s2 fun v' G' H' g' dv => by cases dv.inv_bl; exact q H')
end
end Fk
end
section
set_option Elab.async false
set_option linter.all false
set_option maxRecDepth 100000
set_option maxHeartbeats 4000000
/-! E10: the defs joined; the head (printed by wip/gen_end.py). -/
namespace Fk
open PySem PySem.Spec L2
open PyProof.Rows hiding St
structure Dfs (K : PySem.W.Frag) (mg : Str → Option Value) : Prop where
  f_is_in : Df K mg "is_in" s_is_in
  f_need_line : Df K mg "need_line" s_need_line
  f_is_cells : Df K mg "is_cells" s_is_cells
  f_held_in : Df K mg "held_in" s_held_in
  f_flanks : Df K mg "flanks" s_flanks
  f_is_flanked : Df K mg "is_flanked" s_is_flanked
  f_ready_in : Df K mg "ready_in" s_ready_in
  f_with_turned : Df K mg "with_turned" s_with_turned
  f_swings_in : Df K mg "swings_in" s_swings_in
  f_stretches_in : Df K mg "stretches_in" s_stretches_in
  f_need_resting : Df K mg "need_resting" s_need_resting
  f_depths_in : Df K mg "depths_in" s_depths_in
  f_insides : Df K mg "insides" s_insides
  f_need_prices : Df K mg "need_prices" s_need_prices
  f_paths_in : Df K mg "paths_in" s_paths_in
  f_choices : Df K mg "choices" s_choices
  f_is_going : Df K mg "is_going" s_is_going
  f_is_closed : Df K mg "is_closed" s_is_closed
  f_sets_of : Df K mg "sets_of" s_sets_of
  f_cheapest_end : Df K mg "cheapest_end" s_cheapest_end
  f_dearest_end : Df K mg "dearest_end" s_dearest_end
  f_step_cost : Df K mg "step_cost" s_step_cost
  f__law_taken : Df K mg "_law_taken" s__law_taken
  f__law_pick : Df K mg "_law_pick" s__law_pick
  f__law_line : Df K mg "_law_line" s__law_line
  f__law_held : Df K mg "_law_held" s__law_held
  f__law_ready : Df K mg "_law_ready" s__law_ready
  f__law_singles : Df K mg "_law_singles" s__law_singles
  f__law_still : Df K mg "_law_still" s__law_still
  f__law_ends : Df K mg "_law_ends" s__law_ends
  f__law_alike : Df K mg "_law_alike" s__law_alike
  f__law_step : Df K mg "_law_step" s__law_step
  f__law_run : Df K mg "_law_run" s__law_run
section
variable {P : Program} {w : World} {K : PySem.W.Frag} {mg : Str → Option Value} {base : Heap} {C : Addr}
theorem df_of {h : Heap} {x : Str} {st : Stmt} {f : Addr} {oc : Value} {od an : Option Addr} {osl : Array (Option Value)} {kV doc pm cdv ct : Value} (X : K.In h) (G : h.Ns mainGlobals mg) (a : PySem.W.nsIn K mainGlobals x = some (some (.ref f)))
    (l : K.lookup f = some ⟨oc, od, .func (PySem.W.fnOf x x (defArgs st) (defBody st) (defScope st) .none kV doc pm an cdv ct), osl⟩) (c : PySem.W.codeIn K cdv x = true) (k : PySem.W.keepIn K (.ref f) = true) : Df K mg x st := ⟨f, _, PySem.W.mg_of X G a, fun_mk l c k⟩
theorem join (M : Mth) (T : Dfs K mg) (ct : Ct K C) (hm : mg "Lots" = some (.ref C)) (B : Bt mg) (DI : ∃ f fd, Mk K C f ∧ Fun K "__init__" "Lots.__init__" s_Lots_init f fd) (DB : DfM K C "best" "Lots.best" s_Lots_best) (DC : DfM K C "colours" "Lots.colours" s_Lots_colours)
    {f : Addr} {fd : FuncData} (F : Fun K "law" "law" s_law f fd) : FnOk P w K mg base CX0 10 f fd P_law (spLaw K) := by
  have o_is_in := ok_is_in (P := P) (w := w) (base := base) T.f_is_in B
  have o_is_cells := ok_is_cells (P := P) (w := w) (base := base) T.f_is_cells B o_is_in
  have o_need_line := ok_need_line (P := P) (w := w) (base := base) T.f_need_line B o_is_in o_is_cells
  have o_held_in := ok_held_in (P := P) (w := w) (base := base) T.f_held_in B
  have o_flanks := ok_flanks (P := P) (w := w) (base := base) T.f_flanks B
  have o_is_flanked := ok_is_flanked (P := P) (w := w) (base := base) T.f_is_flanked B o_flanks
  have o_ready_in := ok_ready_in (P := P) (w := w) (base := base) T.f_ready_in B o_held_in o_is_flanked
  have o_with_turned := ok_with_turned (P := P) (w := w) (base := base) T.f_with_turned B
  have o_swings_in := ok_swings_in (P := P) (w := w) (base := base) T.f_swings_in B o_ready_in
  have o_stretches_in := ok_stretches_in (P := P) (w := w) (base := base) T.f_stretches_in B o_ready_in
  have o_need_resting := ok_need_resting (P := P) (w := w) (base := base) T.f_need_resting B o_need_line o_swings_in
  have o_depths_in := ok_depths_in (P := P) (w := w) (base := base) T.f_depths_in B o_stretches_in
  have o_insides := ok_insides (P := P) (w := w) (base := base) T.f_insides B o_stretches_in
  have o_need_prices := ok_need_prices (P := P) (w := w) (base := base) T.f_need_prices B o_is_in
  have o_paths_in := ok_paths_in (P := P) (w := w) (base := base) T.f_paths_in B o_swings_in o_ready_in o_insides
  have o_choices := ok_choices (P := P) (w := w) (base := base) T.f_choices B
  have o_is_going := ok_is_going (P := P) (w := w) (base := base) T.f_is_going B
  have o_is_closed := ok_is_closed (P := P) (w := w) (base := base) T.f_is_closed B
  have o_sets_of := ok_sets_of (P := P) (w := w) (base := base) T.f_sets_of B o_is_going o_is_closed
  have o_step_cost := ok_step_cost (P := P) (w := w) (base := base) T.f_step_cost B o_need_line o_need_prices o_need_resting o_depths_in
  have o_init := ok_init (P := P) (w := w) (base := base) DI ct B o_choices o_paths_in
  have o_colours := ok_colours (P := P) (w := w) (base := base) DC ct B
  have o_best := ok_best (P := P) (w := w) (base := base) DB ct B o_sets_of o_with_turned o_colours
  have o_cheapest_end := ok_cheapest_end (P := P) (w := w) (base := base) T.f_cheapest_end ct hm B o_need_line o_need_prices o_init o_best
  have o_dearest_end := ok_dearest_end (P := P) (w := w) (base := base) T.f_dearest_end ct hm B o_need_line o_need_prices o_init o_best
  have o__law_taken := ok_taken (P := P) (w := w) (base := base) T.f__law_taken B 
  have o__law_pick := ok_pick (P := P) (w := w) (base := base) T.f__law_pick B o__law_taken
  have o__law_line := ok_line (P := P) (w := w) (base := base) T.f__law_line B o__law_taken o__law_pick
  have o__law_held := ok_lheld (P := P) (w := w) (base := base) T.f__law_held B 
  have o__law_ready := ok_lready (P := P) (w := w) (base := base) T.f__law_ready B o__law_held
  have o__law_still := ok_lstill (P := P) (w := w) (base := base) T.f__law_still B o__law_ready
  have o__law_step := ok_lstep (P := P) (w := w) (base := base) T.f__law_step B o__law_ready
  have o__law_singles := ok_singles (P := P) (w := w) (base := base) T.f__law_singles B o__law_ready
  have o__law_ends := ok_ends (P := P) (w := w) (base := base) T.f__law_ends B o__law_singles o__law_still
  have o__law_run := ok_run (P := P) (w := w) (base := base) T.f__law_run B o__law_ready o__law_step
  have o_a0 := ok_alike (P := P) (w := w) (base := base) 0 0 T.f__law_alike B (fun j e => nomatch e)
  have o_a1 := ok_alike (P := P) (w := w) (base := base) 1 1 T.f__law_alike B (fun j e => by have e2 : j = 0 := (by omega); subst e2; exact o_a0)
  have o_a2 := ok_alike (P := P) (w := w) (base := base) 2 2 T.f__law_alike B (fun j e => by have e2 : j = 1 := (by omega); subst e2; exact o_a1)
  exact ok_law M F B o__law_taken o__law_pick o__law_line o__law_ends o_a2 o_cheapest_end o_dearest_end o__law_run o__law_ready o_step_cost o_a0
end
theorem all_mk {l : PySem.W.OpenLaw} {w : World} {K : PySem.W.Frag} {h : Heap} {mg : Str → Option Value} {fa C : Addr} (M : Mth) (X : K.In h) (G : h.Ns mainGlobals mg) (hfa : mg "law" = some (.ref fa))
    {f1 : Addr} {od1 an1 : Option Addr} {sl1 : Array (Option Value)} {oc1 kV1 dc1 pm1 cd1 ct1 : Value}
    {f2 : Addr} {od2 an2 : Option Addr} {sl2 : Array (Option Value)} {oc2 kV2 dc2 pm2 cd2 ct2 : Value}
    {f3 : Addr} {od3 an3 : Option Addr} {sl3 : Array (Option Value)} {oc3 kV3 dc3 pm3 cd3 ct3 : Value}
    {f4 : Addr} {od4 an4 : Option Addr} {sl4 : Array (Option Value)} {oc4 kV4 dc4 pm4 cd4 ct4 : Value}
    {f5 : Addr} {od5 an5 : Option Addr} {sl5 : Array (Option Value)} {oc5 kV5 dc5 pm5 cd5 ct5 : Value}
    {f6 : Addr} {od6 an6 : Option Addr} {sl6 : Array (Option Value)} {oc6 kV6 dc6 pm6 cd6 ct6 : Value}
    {f7 : Addr} {od7 an7 : Option Addr} {sl7 : Array (Option Value)} {oc7 kV7 dc7 pm7 cd7 ct7 : Value}
    {f8 : Addr} {od8 an8 : Option Addr} {sl8 : Array (Option Value)} {oc8 kV8 dc8 pm8 cd8 ct8 : Value}
    {f9 : Addr} {od9 an9 : Option Addr} {sl9 : Array (Option Value)} {oc9 kV9 dc9 pm9 cd9 ct9 : Value}
    {f10 : Addr} {od10 an10 : Option Addr} {sl10 : Array (Option Value)} {oc10 kV10 dc10 pm10 cd10 ct10 : Value}
    {f11 : Addr} {od11 an11 : Option Addr} {sl11 : Array (Option Value)} {oc11 kV11 dc11 pm11 cd11 ct11 : Value}
    {f12 : Addr} {od12 an12 : Option Addr} {sl12 : Array (Option Value)} {oc12 kV12 dc12 pm12 cd12 ct12 : Value}
    {f13 : Addr} {od13 an13 : Option Addr} {sl13 : Array (Option Value)} {oc13 kV13 dc13 pm13 cd13 ct13 : Value}
    {f14 : Addr} {od14 an14 : Option Addr} {sl14 : Array (Option Value)} {oc14 kV14 dc14 pm14 cd14 ct14 : Value}
    {f15 : Addr} {od15 an15 : Option Addr} {sl15 : Array (Option Value)} {oc15 kV15 dc15 pm15 cd15 ct15 : Value}
    {f16 : Addr} {od16 an16 : Option Addr} {sl16 : Array (Option Value)} {oc16 kV16 dc16 pm16 cd16 ct16 : Value}
    {f17 : Addr} {od17 an17 : Option Addr} {sl17 : Array (Option Value)} {oc17 kV17 dc17 pm17 cd17 ct17 : Value}
    {f18 : Addr} {od18 an18 : Option Addr} {sl18 : Array (Option Value)} {oc18 kV18 dc18 pm18 cd18 ct18 : Value}
    {f19 : Addr} {od19 an19 : Option Addr} {sl19 : Array (Option Value)} {oc19 kV19 dc19 pm19 cd19 ct19 : Value}
    {f20 : Addr} {od20 an20 : Option Addr} {sl20 : Array (Option Value)} {oc20 kV20 dc20 pm20 cd20 ct20 : Value}
    {f21 : Addr} {od21 an21 : Option Addr} {sl21 : Array (Option Value)} {oc21 kV21 dc21 pm21 cd21 ct21 : Value}
    {f22 : Addr} {od22 an22 : Option Addr} {sl22 : Array (Option Value)} {oc22 kV22 dc22 pm22 cd22 ct22 : Value}
    {f23 : Addr} {od23 an23 : Option Addr} {sl23 : Array (Option Value)} {oc23 kV23 dc23 pm23 cd23 ct23 : Value}
    {f24 : Addr} {od24 an24 : Option Addr} {sl24 : Array (Option Value)} {oc24 kV24 dc24 pm24 cd24 ct24 : Value}
    {f25 : Addr} {od25 an25 : Option Addr} {sl25 : Array (Option Value)} {oc25 kV25 dc25 pm25 cd25 ct25 : Value}
    {f26 : Addr} {od26 an26 : Option Addr} {sl26 : Array (Option Value)} {oc26 kV26 dc26 pm26 cd26 ct26 : Value}
    {f27 : Addr} {od27 an27 : Option Addr} {sl27 : Array (Option Value)} {oc27 kV27 dc27 pm27 cd27 ct27 : Value}
    {f28 : Addr} {od28 an28 : Option Addr} {sl28 : Array (Option Value)} {oc28 kV28 dc28 pm28 cd28 ct28 : Value}
    {f29 : Addr} {od29 an29 : Option Addr} {sl29 : Array (Option Value)} {oc29 kV29 dc29 pm29 cd29 ct29 : Value}
    {f30 : Addr} {od30 an30 : Option Addr} {sl30 : Array (Option Value)} {oc30 kV30 dc30 pm30 cd30 ct30 : Value}
    {f31 : Addr} {od31 an31 : Option Addr} {sl31 : Array (Option Value)} {oc31 kV31 dc31 pm31 cd31 ct31 : Value}
    {f32 : Addr} {od32 an32 : Option Addr} {sl32 : Array (Option Value)} {oc32 kV32 dc32 pm32 cd32 ct32 : Value}
    {f33 : Addr} {od33 an33 : Option Addr} {sl33 : Array (Option Value)} {oc33 kV33 dc33 pm33 cd33 ct33 : Value}
    {f34 : Addr} {od34 an34 : Option Addr} {sl34 : Array (Option Value)} {oc34 kV34 dc34 pm34 cd34 ct34 : Value}
    {f35 : Addr} {od35 an35 : Option Addr} {sl35 : Array (Option Value)} {oc35 kV35 dc35 pm35 cd35 ct35 : Value}
    {f36 : Addr} {od36 an36 : Option Addr} {sl36 : Array (Option Value)} {oc36 kV36 dc36 pm36 cd36 ct36 : Value}
    {f37 : Addr} {od37 an37 : Option Addr} {sl37 : Array (Option Value)} {oc37 kV37 dc37 pm37 cd37 ct37 : Value}
    {t_cells : _}
    {t_colour : _}
    {t_ring : _}
    {t_price : _}
    (aC : PySem.W.nsIn K mainGlobals "Lots" = some (some (.ref C)))
    (a1 : PySem.W.nsIn K mainGlobals "is_in" = some (some (.ref f1)))
    (l1 : K.lookup f1 = some ⟨oc1, od1, .func (PySem.W.fnOf "is_in" "is_in" (defArgs s_is_in) (defBody s_is_in) (defScope s_is_in) .none kV1 dc1 pm1 an1 cd1 ct1), sl1⟩) (c1 : PySem.W.codeIn K cd1 "is_in" = true) (k1 : PySem.W.keepIn K (.ref f1) = true)
    (a2 : PySem.W.nsIn K mainGlobals "need_line" = some (some (.ref f2)))
    (l2 : K.lookup f2 = some ⟨oc2, od2, .func (PySem.W.fnOf "need_line" "need_line" (defArgs s_need_line) (defBody s_need_line) (defScope s_need_line) .none kV2 dc2 pm2 an2 cd2 ct2), sl2⟩) (c2 : PySem.W.codeIn K cd2 "need_line" = true) (k2 : PySem.W.keepIn K (.ref f2) = true)
    (a3 : PySem.W.nsIn K mainGlobals "is_cells" = some (some (.ref f3)))
    (l3 : K.lookup f3 = some ⟨oc3, od3, .func (PySem.W.fnOf "is_cells" "is_cells" (defArgs s_is_cells) (defBody s_is_cells) (defScope s_is_cells) .none kV3 dc3 pm3 an3 cd3 ct3), sl3⟩) (c3 : PySem.W.codeIn K cd3 "is_cells" = true) (k3 : PySem.W.keepIn K (.ref f3) = true)
    (a4 : PySem.W.nsIn K mainGlobals "held_in" = some (some (.ref f4)))
    (l4 : K.lookup f4 = some ⟨oc4, od4, .func (PySem.W.fnOf "held_in" "held_in" (defArgs s_held_in) (defBody s_held_in) (defScope s_held_in) .none kV4 dc4 pm4 an4 cd4 ct4), sl4⟩) (c4 : PySem.W.codeIn K cd4 "held_in" = true) (k4 : PySem.W.keepIn K (.ref f4) = true)
    (a5 : PySem.W.nsIn K mainGlobals "flanks" = some (some (.ref f5)))
    (l5 : K.lookup f5 = some ⟨oc5, od5, .func (PySem.W.fnOf "flanks" "flanks" (defArgs s_flanks) (defBody s_flanks) (defScope s_flanks) .none kV5 dc5 pm5 an5 cd5 ct5), sl5⟩) (c5 : PySem.W.codeIn K cd5 "flanks" = true) (k5 : PySem.W.keepIn K (.ref f5) = true)
    (a6 : PySem.W.nsIn K mainGlobals "is_flanked" = some (some (.ref f6)))
    (l6 : K.lookup f6 = some ⟨oc6, od6, .func (PySem.W.fnOf "is_flanked" "is_flanked" (defArgs s_is_flanked) (defBody s_is_flanked) (defScope s_is_flanked) .none kV6 dc6 pm6 an6 cd6 ct6), sl6⟩) (c6 : PySem.W.codeIn K cd6 "is_flanked" = true) (k6 : PySem.W.keepIn K (.ref f6) = true)
    (a7 : PySem.W.nsIn K mainGlobals "ready_in" = some (some (.ref f7)))
    (l7 : K.lookup f7 = some ⟨oc7, od7, .func (PySem.W.fnOf "ready_in" "ready_in" (defArgs s_ready_in) (defBody s_ready_in) (defScope s_ready_in) .none kV7 dc7 pm7 an7 cd7 ct7), sl7⟩) (c7 : PySem.W.codeIn K cd7 "ready_in" = true) (k7 : PySem.W.keepIn K (.ref f7) = true)
    (a8 : PySem.W.nsIn K mainGlobals "with_turned" = some (some (.ref f8)))
    (l8 : K.lookup f8 = some ⟨oc8, od8, .func (PySem.W.fnOf "with_turned" "with_turned" (defArgs s_with_turned) (defBody s_with_turned) (defScope s_with_turned) .none kV8 dc8 pm8 an8 cd8 ct8), sl8⟩) (c8 : PySem.W.codeIn K cd8 "with_turned" = true) (k8 : PySem.W.keepIn K (.ref f8) = true)
    (a9 : PySem.W.nsIn K mainGlobals "swings_in" = some (some (.ref f9)))
    (l9 : K.lookup f9 = some ⟨oc9, od9, .func (PySem.W.fnOf "swings_in" "swings_in" (defArgs s_swings_in) (defBody s_swings_in) (defScope s_swings_in) .none kV9 dc9 pm9 an9 cd9 ct9), sl9⟩) (c9 : PySem.W.codeIn K cd9 "swings_in" = true) (k9 : PySem.W.keepIn K (.ref f9) = true)
    (a10 : PySem.W.nsIn K mainGlobals "stretches_in" = some (some (.ref f10)))
    (l10 : K.lookup f10 = some ⟨oc10, od10, .func (PySem.W.fnOf "stretches_in" "stretches_in" (defArgs s_stretches_in) (defBody s_stretches_in) (defScope s_stretches_in) .none kV10 dc10 pm10 an10 cd10 ct10), sl10⟩) (c10 : PySem.W.codeIn K cd10 "stretches_in" = true) (k10 : PySem.W.keepIn K (.ref f10) = true)
    (a11 : PySem.W.nsIn K mainGlobals "need_resting" = some (some (.ref f11)))
    (l11 : K.lookup f11 = some ⟨oc11, od11, .func (PySem.W.fnOf "need_resting" "need_resting" (defArgs s_need_resting) (defBody s_need_resting) (defScope s_need_resting) .none kV11 dc11 pm11 an11 cd11 ct11), sl11⟩) (c11 : PySem.W.codeIn K cd11 "need_resting" = true) (k11 : PySem.W.keepIn K (.ref f11) = true)
    (a12 : PySem.W.nsIn K mainGlobals "depths_in" = some (some (.ref f12)))
    (l12 : K.lookup f12 = some ⟨oc12, od12, .func (PySem.W.fnOf "depths_in" "depths_in" (defArgs s_depths_in) (defBody s_depths_in) (defScope s_depths_in) .none kV12 dc12 pm12 an12 cd12 ct12), sl12⟩) (c12 : PySem.W.codeIn K cd12 "depths_in" = true) (k12 : PySem.W.keepIn K (.ref f12) = true)
    (a13 : PySem.W.nsIn K mainGlobals "insides" = some (some (.ref f13)))
    (l13 : K.lookup f13 = some ⟨oc13, od13, .func (PySem.W.fnOf "insides" "insides" (defArgs s_insides) (defBody s_insides) (defScope s_insides) .none kV13 dc13 pm13 an13 cd13 ct13), sl13⟩) (c13 : PySem.W.codeIn K cd13 "insides" = true) (k13 : PySem.W.keepIn K (.ref f13) = true)
    (a14 : PySem.W.nsIn K mainGlobals "need_prices" = some (some (.ref f14)))
    (l14 : K.lookup f14 = some ⟨oc14, od14, .func (PySem.W.fnOf "need_prices" "need_prices" (defArgs s_need_prices) (defBody s_need_prices) (defScope s_need_prices) .none kV14 dc14 pm14 an14 cd14 ct14), sl14⟩) (c14 : PySem.W.codeIn K cd14 "need_prices" = true) (k14 : PySem.W.keepIn K (.ref f14) = true)
    (a15 : PySem.W.nsIn K mainGlobals "paths_in" = some (some (.ref f15)))
    (l15 : K.lookup f15 = some ⟨oc15, od15, .func (PySem.W.fnOf "paths_in" "paths_in" (defArgs s_paths_in) (defBody s_paths_in) (defScope s_paths_in) .none kV15 dc15 pm15 an15 cd15 ct15), sl15⟩) (c15 : PySem.W.codeIn K cd15 "paths_in" = true) (k15 : PySem.W.keepIn K (.ref f15) = true)
    (a16 : PySem.W.nsIn K mainGlobals "choices" = some (some (.ref f16)))
    (l16 : K.lookup f16 = some ⟨oc16, od16, .func (PySem.W.fnOf "choices" "choices" (defArgs s_choices) (defBody s_choices) (defScope s_choices) .none kV16 dc16 pm16 an16 cd16 ct16), sl16⟩) (c16 : PySem.W.codeIn K cd16 "choices" = true) (k16 : PySem.W.keepIn K (.ref f16) = true)
    (a17 : PySem.W.nsIn K mainGlobals "is_going" = some (some (.ref f17)))
    (l17 : K.lookup f17 = some ⟨oc17, od17, .func (PySem.W.fnOf "is_going" "is_going" (defArgs s_is_going) (defBody s_is_going) (defScope s_is_going) .none kV17 dc17 pm17 an17 cd17 ct17), sl17⟩) (c17 : PySem.W.codeIn K cd17 "is_going" = true) (k17 : PySem.W.keepIn K (.ref f17) = true)
    (a18 : PySem.W.nsIn K mainGlobals "is_closed" = some (some (.ref f18)))
    (l18 : K.lookup f18 = some ⟨oc18, od18, .func (PySem.W.fnOf "is_closed" "is_closed" (defArgs s_is_closed) (defBody s_is_closed) (defScope s_is_closed) .none kV18 dc18 pm18 an18 cd18 ct18), sl18⟩) (c18 : PySem.W.codeIn K cd18 "is_closed" = true) (k18 : PySem.W.keepIn K (.ref f18) = true)
    (a19 : PySem.W.nsIn K mainGlobals "sets_of" = some (some (.ref f19)))
    (l19 : K.lookup f19 = some ⟨oc19, od19, .func (PySem.W.fnOf "sets_of" "sets_of" (defArgs s_sets_of) (defBody s_sets_of) (defScope s_sets_of) .none kV19 dc19 pm19 an19 cd19 ct19), sl19⟩) (c19 : PySem.W.codeIn K cd19 "sets_of" = true) (k19 : PySem.W.keepIn K (.ref f19) = true)
    (a20 : PySem.W.nsIn K mainGlobals "cheapest_end" = some (some (.ref f20)))
    (l20 : K.lookup f20 = some ⟨oc20, od20, .func (PySem.W.fnOf "cheapest_end" "cheapest_end" (defArgs s_cheapest_end) (defBody s_cheapest_end) (defScope s_cheapest_end) .none kV20 dc20 pm20 an20 cd20 ct20), sl20⟩) (c20 : PySem.W.codeIn K cd20 "cheapest_end" = true) (k20 : PySem.W.keepIn K (.ref f20) = true)
    (a21 : PySem.W.nsIn K mainGlobals "dearest_end" = some (some (.ref f21)))
    (l21 : K.lookup f21 = some ⟨oc21, od21, .func (PySem.W.fnOf "dearest_end" "dearest_end" (defArgs s_dearest_end) (defBody s_dearest_end) (defScope s_dearest_end) .none kV21 dc21 pm21 an21 cd21 ct21), sl21⟩) (c21 : PySem.W.codeIn K cd21 "dearest_end" = true) (k21 : PySem.W.keepIn K (.ref f21) = true)
    (a22 : PySem.W.nsIn K mainGlobals "step_cost" = some (some (.ref f22)))
    (l22 : K.lookup f22 = some ⟨oc22, od22, .func (PySem.W.fnOf "step_cost" "step_cost" (defArgs s_step_cost) (defBody s_step_cost) (defScope s_step_cost) .none kV22 dc22 pm22 an22 cd22 ct22), sl22⟩) (c22 : PySem.W.codeIn K cd22 "step_cost" = true) (k22 : PySem.W.keepIn K (.ref f22) = true)
    (a23 : PySem.W.nsIn K mainGlobals "_law_taken" = some (some (.ref f23)))
    (l23 : K.lookup f23 = some ⟨oc23, od23, .func (PySem.W.fnOf "_law_taken" "_law_taken" (defArgs s__law_taken) (defBody s__law_taken) (defScope s__law_taken) .none kV23 dc23 pm23 an23 cd23 ct23), sl23⟩) (c23 : PySem.W.codeIn K cd23 "_law_taken" = true) (k23 : PySem.W.keepIn K (.ref f23) = true)
    (a24 : PySem.W.nsIn K mainGlobals "_law_pick" = some (some (.ref f24)))
    (l24 : K.lookup f24 = some ⟨oc24, od24, .func (PySem.W.fnOf "_law_pick" "_law_pick" (defArgs s__law_pick) (defBody s__law_pick) (defScope s__law_pick) .none kV24 dc24 pm24 an24 cd24 ct24), sl24⟩) (c24 : PySem.W.codeIn K cd24 "_law_pick" = true) (k24 : PySem.W.keepIn K (.ref f24) = true)
    (a25 : PySem.W.nsIn K mainGlobals "_law_line" = some (some (.ref f25)))
    (l25 : K.lookup f25 = some ⟨oc25, od25, .func (PySem.W.fnOf "_law_line" "_law_line" (defArgs s__law_line) (defBody s__law_line) (defScope s__law_line) .none kV25 dc25 pm25 an25 cd25 ct25), sl25⟩) (c25 : PySem.W.codeIn K cd25 "_law_line" = true) (k25 : PySem.W.keepIn K (.ref f25) = true)
    (a26 : PySem.W.nsIn K mainGlobals "_law_held" = some (some (.ref f26)))
    (l26 : K.lookup f26 = some ⟨oc26, od26, .func (PySem.W.fnOf "_law_held" "_law_held" (defArgs s__law_held) (defBody s__law_held) (defScope s__law_held) .none kV26 dc26 pm26 an26 cd26 ct26), sl26⟩) (c26 : PySem.W.codeIn K cd26 "_law_held" = true) (k26 : PySem.W.keepIn K (.ref f26) = true)
    (a27 : PySem.W.nsIn K mainGlobals "_law_ready" = some (some (.ref f27)))
    (l27 : K.lookup f27 = some ⟨oc27, od27, .func (PySem.W.fnOf "_law_ready" "_law_ready" (defArgs s__law_ready) (defBody s__law_ready) (defScope s__law_ready) .none kV27 dc27 pm27 an27 cd27 ct27), sl27⟩) (c27 : PySem.W.codeIn K cd27 "_law_ready" = true) (k27 : PySem.W.keepIn K (.ref f27) = true)
    (a28 : PySem.W.nsIn K mainGlobals "_law_singles" = some (some (.ref f28)))
    (l28 : K.lookup f28 = some ⟨oc28, od28, .func (PySem.W.fnOf "_law_singles" "_law_singles" (defArgs s__law_singles) (defBody s__law_singles) (defScope s__law_singles) .none kV28 dc28 pm28 an28 cd28 ct28), sl28⟩) (c28 : PySem.W.codeIn K cd28 "_law_singles" = true) (k28 : PySem.W.keepIn K (.ref f28) = true)
    (a29 : PySem.W.nsIn K mainGlobals "_law_still" = some (some (.ref f29)))
    (l29 : K.lookup f29 = some ⟨oc29, od29, .func (PySem.W.fnOf "_law_still" "_law_still" (defArgs s__law_still) (defBody s__law_still) (defScope s__law_still) .none kV29 dc29 pm29 an29 cd29 ct29), sl29⟩) (c29 : PySem.W.codeIn K cd29 "_law_still" = true) (k29 : PySem.W.keepIn K (.ref f29) = true)
    (a30 : PySem.W.nsIn K mainGlobals "_law_ends" = some (some (.ref f30)))
    (l30 : K.lookup f30 = some ⟨oc30, od30, .func (PySem.W.fnOf "_law_ends" "_law_ends" (defArgs s__law_ends) (defBody s__law_ends) (defScope s__law_ends) .none kV30 dc30 pm30 an30 cd30 ct30), sl30⟩) (c30 : PySem.W.codeIn K cd30 "_law_ends" = true) (k30 : PySem.W.keepIn K (.ref f30) = true)
    (a31 : PySem.W.nsIn K mainGlobals "_law_alike" = some (some (.ref f31)))
    (l31 : K.lookup f31 = some ⟨oc31, od31, .func (PySem.W.fnOf "_law_alike" "_law_alike" (defArgs s__law_alike) (defBody s__law_alike) (defScope s__law_alike) .none kV31 dc31 pm31 an31 cd31 ct31), sl31⟩) (c31 : PySem.W.codeIn K cd31 "_law_alike" = true) (k31 : PySem.W.keepIn K (.ref f31) = true)
    (a32 : PySem.W.nsIn K mainGlobals "_law_step" = some (some (.ref f32)))
    (l32 : K.lookup f32 = some ⟨oc32, od32, .func (PySem.W.fnOf "_law_step" "_law_step" (defArgs s__law_step) (defBody s__law_step) (defScope s__law_step) .none kV32 dc32 pm32 an32 cd32 ct32), sl32⟩) (c32 : PySem.W.codeIn K cd32 "_law_step" = true) (k32 : PySem.W.keepIn K (.ref f32) = true)
    (a33 : PySem.W.nsIn K mainGlobals "_law_run" = some (some (.ref f33)))
    (l33 : K.lookup f33 = some ⟨oc33, od33, .func (PySem.W.fnOf "_law_run" "_law_run" (defArgs s__law_run) (defBody s__law_run) (defScope s__law_run) .none kV33 dc33 pm33 an33 cd33 ct33), sl33⟩) (c33 : PySem.W.codeIn K cd33 "_law_run" = true) (k33 : PySem.W.keepIn K (.ref f33) = true)
    (a34 : PySem.W.nsIn K mainGlobals "law" = some (some (.ref f34)))
    (l34 : K.lookup f34 = some ⟨oc34, od34, .func (PySem.W.fnOf "law" "law" (defArgs s_law) (defBody s_law) (defScope s_law) .none kV34 dc34 pm34 an34 cd34 ct34), sl34⟩) (c34 : PySem.W.codeIn K cd34 "law" = true) (k34 : PySem.W.keepIn K (.ref f34) = true)
    (a35 : PySem.W.findIn K (.ref C) "__init__" = some (some (.ref f35))) (i35 : PySem.W.isFn K (.ref f35) = true)
    (l35 : K.lookup f35 = some ⟨oc35, od35, .func (PySem.W.fnOf "__init__" "Lots.__init__" (defArgs s_Lots_init) (defBody s_Lots_init) (defScope s_Lots_init) .none kV35 dc35 pm35 an35 cd35 ct35), sl35⟩) (c35 : PySem.W.codeIn K cd35 "Lots.__init__" = true) (k35 : PySem.W.keepIn K (.ref f35) = true)
    (a36 : PySem.W.findIn K (.ref C) "best" = some (some (.ref f36))) (i36 : PySem.W.isFn K (.ref f36) = true)
    (l36 : K.lookup f36 = some ⟨oc36, od36, .func (PySem.W.fnOf "best" "Lots.best" (defArgs s_Lots_best) (defBody s_Lots_best) (defScope s_Lots_best) .none kV36 dc36 pm36 an36 cd36 ct36), sl36⟩) (c36 : PySem.W.codeIn K cd36 "Lots.best" = true) (k36 : PySem.W.keepIn K (.ref f36) = true)
    (a37 : PySem.W.findIn K (.ref C) "colours" = some (some (.ref f37))) (i37 : PySem.W.isFn K (.ref f37) = true)
    (l37 : K.lookup f37 = some ⟨oc37, od37, .func (PySem.W.fnOf "colours" "Lots.colours" (defArgs s_Lots_colours) (defBody s_Lots_colours) (defScope s_Lots_colours) .none kV37 dc37 pm37 an37 cd37 ct37), sl37⟩) (c37 : PySem.W.codeIn K cd37 "Lots.colours" = true) (k37 : PySem.W.keepIn K (.ref f37) = true)
    (pg : PySem.W.plainGet K C Str.empty = true) (hd : PySem.W.hasDictIn K C = true) (po : PySem.W.plainOver K C = true) (sa : PySem.W.findIn K (.ref C) "__setattr__" = some (some (.builtin "object.__setattr__"))) (mk : PySem.W.makesIn K C = true) (kc : PySem.W.keepIn K (.ref C) = true)
    (n_base : PySem.W.findIn K (.ref C) "base" = some none)
    (n_suits : PySem.W.findIn K (.ref C) "suits" = some none)
    (n_prices : PySem.W.findIn K (.ref C) "prices" = some none)
    (n_must_fill : PySem.W.findIn K (.ref C) "must_fill" = some none)
    (n_paths : PySem.W.findIn K (.ref C) "paths" = some none)
    (n_is_ring : PySem.W.findIn K (.ref C) "is_ring" = some none)
    (z_isi : PySem.W.nsIn K mainGlobals "isinstance" = some none)
    (z_int : PySem.W.nsIn K mainGlobals "int" = some none)
    (z_bool : PySem.W.nsIn K mainGlobals "bool" = some none)
    (z_tuple : PySem.W.nsIn K mainGlobals "tuple" = some none)
    (z_len : PySem.W.nsIn K mainGlobals "len" = some none)
    (z_list : PySem.W.nsIn K mainGlobals "list" = some none)
    (z_set : PySem.W.nsIn K mainGlobals "set" = some none)
    (z_sorted : PySem.W.nsIn K mainGlobals "sorted" = some none)
    (z_range : PySem.W.nsIn K mainGlobals "range" = some none)
    (z_enum : PySem.W.nsIn K mainGlobals "enumerate" = some none)
    (z_zip : PySem.W.nsIn K mainGlobals "zip" = some none)
    (z_min : PySem.W.nsIn K mainGlobals "min" = some none)
    (z_max : PySem.W.nsIn K mainGlobals "max" = some none)
    (z_sum : PySem.W.nsIn K mainGlobals "sum" = some none)
    (z_dict : PySem.W.nsIn K mainGlobals "dict" = some none)
    (z_str : PySem.W.nsIn K mainGlobals "str" = some none)
    (z_cells : PySem.W.nsIn K mainGlobals "MOST_CELLS" = some (some (.int 40 t_cells)))
    (z_colour : PySem.W.nsIn K mainGlobals "MOST_COLOUR" = some (some (.int 9 t_colour)))
    (z_ring : PySem.W.nsIn K mainGlobals "LEAST_RING" = some (some (.int 3 t_ring)))
    (z_price : PySem.W.nsIn K mainGlobals "MOST_PRICE" = some (some (.int 1000 t_price)))
    : ∃ fd : FuncData, (∀ (s : Shared) (v : Value), BindsTo s fd ⟨[v], []⟩ [("_law_script", v)]) ∧ ∀ base : Heap, K.In base → base.Ns mainGlobals mg → FnOk l.prog w K mg base CX0 10 fa fd ["_law_script"] (spLaw K) := by
  have e := hfa.symm.trans (PySem.W.mg_of X G a34)
  cases e
  have T : Dfs K mg := ⟨df_of X G a1 l1 c1 k1, df_of X G a2 l2 c2 k2, df_of X G a3 l3 c3 k3, df_of X G a4 l4 c4 k4, df_of X G a5 l5 c5 k5, df_of X G a6 l6 c6 k6, df_of X G a7 l7 c7 k7, df_of X G a8 l8 c8 k8, df_of X G a9 l9 c9 k9, df_of X G a10 l10 c10 k10, df_of X G a11 l11 c11 k11, df_of X G a12 l12 c12 k12, df_of X G a13 l13 c13 k13, df_of X G a14 l14 c14 k14, df_of X G a15 l15 c15 k15, df_of X G a16 l16 c16 k16, df_of X G a17 l17 c17 k17, df_of X G a18 l18 c18 k18, df_of X G a19 l19 c19 k19, df_of X G a20 l20 c20 k20, df_of X G a21 l21 c21 k21, df_of X G a22 l22 c22 k22, df_of X G a23 l23 c23 k23, df_of X G a24 l24 c24 k24, df_of X G a25 l25 c25 k25, df_of X G a26 l26 c26 k26, df_of X G a27 l27 c27 k27, df_of X G a28 l28 c28 k28, df_of X G a29 l29 c29 k29, df_of X G a30 l30 c30 k30, df_of X G a31 l31 c31 k31, df_of X G a32 l32 c32 k32, df_of X G a33 l33 c33 k33⟩
  have B : Bt mg := ⟨PySem.W.mg_none_of X G z_isi, PySem.W.mg_none_of X G z_int, PySem.W.mg_none_of X G z_bool, PySem.W.mg_none_of X G z_tuple, PySem.W.mg_none_of X G z_len, PySem.W.mg_none_of X G z_list, PySem.W.mg_none_of X G z_set, PySem.W.mg_none_of X G z_sorted, PySem.W.mg_none_of X G z_range, PySem.W.mg_none_of X G z_enum, PySem.W.mg_none_of X G z_zip, PySem.W.mg_none_of X G z_min, PySem.W.mg_none_of X G z_max, PySem.W.mg_none_of X G z_sum, PySem.W.mg_none_of X G z_dict, PySem.W.mg_none_of X G z_str, ⟨_, PySem.W.mg_of X G z_cells⟩, ⟨_, PySem.W.mg_of X G z_colour⟩, ⟨_, PySem.W.mg_of X G z_ring⟩, ⟨_, PySem.W.mg_of X G z_price⟩⟩
  have ct : Ct K C := ⟨⟨pg, hd, po, sa⟩, n_base, n_suits, n_prices, n_must_fill, n_paths, n_is_ring⟩
  exact ⟨PySem.W.fnOf "law" "law" (defArgs s_law) (defBody s_law) (defScope s_law) .none kV34 dc34 pm34 an34 cd34 ct34, fun s v => .of_eq rfl, fun base _ _ =>
    join M T ct (PySem.W.mg_of X G aC) B ⟨_, _, ⟨mk, a35, i35, kc⟩, fun_mk (st := s_Lots_init) l35 c35 k35⟩ ⟨_, _, ⟨a36, i36, k36⟩, fun_mk (st := s_Lots_best) l36 c36 k36⟩ ⟨_, _, ⟨a37, i37, k37⟩, fun_mk (st := s_Lots_colours) l37 c37 k37⟩ (fun_mk (st := s_law) l34 c34 k34)⟩
theorem walk {l : PySem.W.OpenLaw} {q : Program} {loose : List Str} {XP : (Str → Option Value) → Heap → Prop} {YP : World → Heap → Prop} {d : DefRec} {K : Params → PySem.W.Frag} (hn : l.most = some 63) (hdf : d.params.defaults = [])
    (hY : ∀ (w : World) (h : Heap), YP w h → (K w.params).In h)
    (F : ∀ (w : World) (mg : Str → Option Value) (fa : Addr) (h : Heap), (K w.params).In h → h.Ns mainGlobals mg → mg d.name = some (.ref fa) →
      ∃ fd : FuncData, (∀ (s : Shared) (u : Value), BindsTo s fd ⟨[u], []⟩ [("_law_script", u)]) ∧ ∀ base : Heap, (K w.params).In base → base.Ns mainGlobals mg → FnOk l.prog w (K w.params) mg base CX0 10 fa fd ["_law_script"] (spLaw (K w.params))) :
    PySem.W.WalkO q loose XP YP l.row.toRowW d [] (fun f vs => PySem.call f vs) :=
  L2.walk_of (n := 63) (k := 10) (x := "_law_script") (CX := fun _ => CX0) (sp := fun w => spLaw (K w.params)) hn (by decide) hdf ⟨rfl, by decide, by decide⟩ hY F (fun _ _ a ns hl _ hS => ⟨a, ns, rfl, hS, fun _ => rfl⟩) fun _ _ _ _ _ z => z
end Fk
end
section
set_option linter.all false
/-! Ma6: where the paths lie, plain. -/
namespace Fk
open PySem
namespace Ln
variable {L : Ln}
theorem inner_stretch (s : Nat) : inner (L.stretch s) = (List.range (L.en s - 1)).map fun i => L.it s (i + 1) := by
  unfold inner stretch
  rw [List.length_map, List.length_range]
  apply List.ext_getElem?
  intro i
  by_cases h : i < L.en s - 1
  · rw [List.getElem?_take, if_pos (by omega), List.getElem?_drop, List.getElem?_map, List.getElem?_map, List.getElem?_range h, List.getElem?_range (by omega), Nat.add_comm 1 i]
    rfl
  · rw [List.getElem?_take, if_neg (by omega), List.getElem?_map, List.getElem?_eq_none (by rw [List.length_range]; omega)]
    rfl
/-- a cell in a path: the i-th from the start s -/
structure At (L : Ln) (s i k : Nat) : Prop where
  st : s ∈ L.starts
  lo : 1 ≤ i
  hi : i < L.en s
  e : L.it s i = k
theorem it_lf {s i : Nat} (h : 1 ≤ L.n) : L.lf (L.it s (i + 1)) = L.it s i := lf_rt (it_lt h s i)
theorem At.uniq : ∀ {i i' s s' k : Nat}, L.At s i k → L.At s' i' k → s = s' ∧ i = i' := by
  intro i
  induction i with
  | zero => intro i' s s' k a b; exact absurd a.lo (by omega)
  | succ i ih =>
    intro i' s s' k a b
    have hn : 1 ≤ L.n := by have := (mem_starts.mp a.st).1; omega
    obtain ⟨j, rfl⟩ : ∃ j, i' = j + 1 := ⟨i' - 1, by have := b.lo; omega⟩
    have e : L.it s i = L.it s' j := by rw [← it_lf hn (s := s), ← it_lf hn (s := s'), a.e, b.e]
    by_cases h1 : i = 0
    · by_cases h2 : j = 0
      · subst h1 h2
        refine ⟨?_, rfl⟩
        rw [← it_one (mem_starts.mp a.st).1, ← it_one (mem_starts.mp b.st).1]
        exact a.e.trans b.e.symm
      · have h3 := (mem_starts.mp a.st).2.2
        have h4 := (en_spec b.st).2.2.2 j (by omega) (by have := b.hi; omega)
        rw [← e, h1] at h4
        have h5 : L.it s 0 = L.lf s := rfl
        rw [h5, h3] at h4
        cases h4
    · by_cases h2 : j = 0
      · have h3 := (mem_starts.mp b.st).2.2
        have h4 := (en_spec a.st).2.2.2 i (by omega) (by have := a.hi; omega)
        rw [e, h2] at h4
        have h5 : L.it s' 0 = L.lf s' := rfl
        rw [h5, h3] at h4
        cases h4
      · obtain ⟨h3, h4⟩ := ih (k := L.it s i) ⟨a.st, by omega, by have := a.hi; omega, rfl⟩ (⟨b.st, by omega, by have := b.hi; omega, e.symm⟩ : L.At s' j (L.it s i))
        exact ⟨h3, by omega⟩
theorem At.rdy {s i k : Nat} (a : L.At s i k) : L.rdy k = true := by
  rw [← a.e]
  exact (en_spec a.st).2.2.2 i a.lo a.hi
theorem At.lt {s i k : Nat} (a : L.At s i k) : k < L.n := by
  rw [← a.e]
  exact it_lt (by have := (mem_starts.mp a.st).1; omega) s i
/-- every ready cell lies in a path, if some cell is not ready -/
theorem at_of {z : Nat} (hz : z < L.n) (nz : L.rdy z = false) : ∀ k, k < L.n → L.rdy k = true → ∃ s i, L.At s i k := by
  have hn : 1 ≤ L.n := by omega
  have main : ∀ j, L.rdy ((z + j) % L.n) = true → ∃ s i, L.At s i ((z + j) % L.n) := by
    intro j
    induction j with
    | zero =>
      intro h
      rw [Nat.add_zero, Nat.mod_eq_of_lt hz, nz] at h
      cases h
    | succ j ih =>
      intro h
      have e : (z + (j + 1)) % L.n = L.rt ((z + j) % L.n) := by
        unfold Ln.rt
        rw [Nat.mod_add_mod]
        rfl
      have hl : (z + j) % L.n < L.n := Nat.mod_lt _ hn
      rw [e] at h ⊢
      cases hr : L.rdy ((z + j) % L.n) with
      | false =>
        have hs : L.rt ((z + j) % L.n) ∈ L.starts := mem_starts.mpr ⟨rt_lt hn _, h, by rw [lf_rt hl]; exact hr⟩
        exact ⟨_, 1, hs, Nat.le_refl _, by have := (en_spec hs).1; omega, it_one (rt_lt hn _)⟩
      | true =>
        obtain ⟨s, i, a⟩ := ih hr
        refine ⟨s, i + 1, a.st, by omega, ?_, ?_⟩
        · have h1 := a.hi
          have h2 := (en_spec a.st).2.2.1
          by_cases h3 : i + 1 = L.en s
          · rw [← h3] at h2
            have h4 : L.it s (i + 1) = L.rt (L.it s i) := rfl
            rw [h4, a.e, h] at h2
            cases h2
          · omega
        · show L.rt (L.it s i) = _
          rw [a.e]
  intro k hk hr
  have e : (z + (L.n - z + k)) % L.n = k := by
    rw [show z + (L.n - z + k) = k + L.n by omega, Nat.add_mod_right]
    exact Nat.mod_eq_of_lt hk
  have h := main (L.n - z + k)
  rw [e] at h
  exact h hr
/-- a line that does not swing has a cell that is not ready -/
theorem not_swings (ok : L.Ok) (h : L.swings = false) : ∃ z, z < L.n ∧ L.rdy z = false := by
  have hn := ok.one
  cases hr : L.r with
  | false =>
    refine ⟨0, by omega, ?_⟩
    unfold Ln.rdy Ln.hd
    simp [hr]
  | true =>
    unfold Ln.swings at h
    rw [hr, Bool.true_and, decide_eq_false_iff_not] at h
    by_cases hc : ∀ z, z < L.n → L.rdy z = true
    · exfalso
      apply h
      unfold Ln.ready
      rw [List.filter_eq_self.mpr fun z hz => hc z (List.mem_range.mp hz), List.length_range]
    · obtain ⟨z, hz⟩ := Classical.not_forall.mp hc
      obtain ⟨h1, h2⟩ := Classical.not_imp.mp hz
      exact ⟨z, h1, by simpa using h2⟩
theorem swings_all (h : L.swings = true) : ∀ z, z < L.n → L.rdy z = true := by
  unfold Ln.swings at h
  simp only [Bool.and_eq_true, decide_eq_true_eq] at h
  intro z hz
  have h2 : L.ready = List.range L.n := by
    have h3 : L.ready.length = (List.range L.n).length := by rw [h.2, List.length_range]
    exact List.Sublist.eq_of_length List.filter_sublist h3
  have h4 : z ∈ L.ready := by rw [h2]; exact List.mem_range.mpr hz
  exact (mem_ready.mp h4).2
theorem ready_all (h : L.swings = true) : L.ready = List.range L.n := by
  unfold Ln.ready
  exact List.filter_eq_self.mpr fun z hz => swings_all h z (List.mem_range.mp hz)
theorem mem_paths (h : L.swings = false) {cs : List Nat} : cs ∈ L.paths ↔ ∃ s ∈ L.starts, cs = (List.range (L.en s - 1)).map fun i => L.it s (i + 1) := by
  unfold Ln.paths
  rw [h]
  simp only [Bool.false_eq_true, if_false]
  rw [List.mem_map]
  constructor
  · rintro ⟨a, ha, rfl⟩
    obtain ⟨s, hs, rfl⟩ := Ln.mem_strs.mp ha
    exact ⟨s, hs, inner_stretch s⟩
  · rintro ⟨s, hs, rfl⟩
    exact ⟨_, Ln.mem_strs.mpr ⟨s, hs, rfl⟩, inner_stretch s⟩
end Ln
end Fk
end
section
set_option linter.all false
/-! Ma7: the rows of marks are the greatest sets without neighbours, plain. -/
namespace Fk
open PySem
theorem last2 {l : List Nat} {j : Nat} (h : j + 2 ≤ l.length) : lastN (l.take (j + 2)) 2 = [l.getD j 0, l.getD (j + 1) 0] := by
  unfold lastN
  rw [List.length_take, Nat.min_eq_left h, show j + 2 - 2 = j by omega, List.drop_take, show j + 2 - j = 2 by omega, List.drop_eq_getElem_cons (by omega), List.drop_eq_getElem_cons (by omega)]
  rw [List.getD_eq_getElem?_getD, List.getD_eq_getElem?_getD, List.getElem?_eq_getElem (by omega), List.getElem?_eq_getElem (by omega)]
  rfl
theorem last3 {l : List Nat} {j : Nat} (h : j + 3 ≤ l.length) : lastN (l.take (j + 3)) 3 = [l.getD j 0, l.getD (j + 1) 0, l.getD (j + 2) 0] := by
  unfold lastN
  rw [List.length_take, Nat.min_eq_left h, show j + 3 - 3 = j by omega, List.drop_take, show j + 3 - j = 3 by omega, List.drop_eq_getElem_cons (by omega), List.drop_eq_getElem_cons (by omega), List.drop_eq_getElem_cons (by omega)]
  rw [List.getD_eq_getElem?_getD, List.getD_eq_getElem?_getD, List.getD_eq_getElem?_getD, List.getElem?_eq_getElem (by omega), List.getElem?_eq_getElem (by omega), List.getElem?_eq_getElem (by omega)]
  rfl
theorem mem_rowsN (ring : Bool) : ∀ (p : Nat) (one : List Nat), one ∈ rowsN ring p ↔ one.length = p ∧ (∀ x ∈ one, x = 0 ∨ x = 1) ∧ ∀ j, j < p → going (one.take (j + 1)) j ring = true
  | 0, one => by
    show one ∈ [[]] ↔ _
    rw [List.mem_singleton]
    constructor
    · rintro rfl
      exact ⟨rfl, nofun, fun j h => absurd h (Nat.not_lt_zero j)⟩
    · rintro ⟨h, _⟩
      exact List.length_eq_zero_iff.mp h
  | p + 1, one => by
    show one ∈ (rowsN ring p).flatMap (ext ring p) ↔ _
    rw [List.mem_flatMap]
    constructor
    · rintro ⟨a, ha, hb⟩
      obtain ⟨h1, h2, h3⟩ := (mem_rowsN ring p a).mp ha
      unfold ext at hb
      obtain ⟨m, hm, rfl⟩ := List.mem_map.mp hb
      obtain ⟨hm1, hm2⟩ := List.mem_filter.mp hm
      refine ⟨by rw [List.length_append, h1]; rfl, fun x hx => ?_, fun j hj => ?_⟩
      · rcases List.mem_append.mp hx with h | h
        · exact h2 x h
        · rw [List.mem_singleton.mp h]
          simpa using hm1
      · by_cases e : j = p
        · subst e
          rw [List.take_of_length_le (by rw [List.length_append, h1]; simp)]
          exact hm2
        · rw [List.take_append_of_le_length (by omega)]
          exact h3 j (by omega)
    · rintro ⟨h1, h2, h3⟩
      have e : one = one.take p ++ [one.getD p 0] := by
        have h4 := take_succ_get (l := one) (n := p) (x := one.getD p 0) (getD_at (by omega))
        rw [List.take_of_length_le (by omega)] at h4
        exact h4
      refine ⟨one.take p, (mem_rowsN ring p _).mpr ⟨by rw [List.length_take]; omega, fun x hx => h2 x (List.mem_of_mem_take hx), fun j hj => ?_⟩, ?_⟩
      · rw [List.take_take, Nat.min_eq_left (by omega)]
        exact h3 j (by omega)
      · unfold ext
        refine List.mem_map.mpr ⟨one.getD p 0, List.mem_filter.mpr ⟨?_, ?_⟩, e.symm⟩
        · have h5 := h2 (one.getD p 0) (List.mem_of_getElem? (getD_at (by omega)))
          simpa using h5
        · have h5 := h3 p (by omega)
          rw [List.take_of_length_le (by omega)] at h5
          rw [← e]
          exact h5
theorem last_short {l : List Nat} {k : Nat} (h : l.length ≤ k) : lastN l k = l := by
  unfold lastN
  rw [show l.length - k = 0 by omega, List.drop_zero]
theorem take1 {l : List Nat} (h : 1 ≤ l.length) : l.take 1 = [l.getD 0 0] := by
  cases l with
  | nil => simp at h
  | cons x r => rfl
theorem take2 {l : List Nat} (h : 2 ≤ l.length) : l.take 2 = [l.getD 0 0, l.getD 1 0] := by
  match l, h with
  | x :: y :: r, _ => rfl
theorem going0 {l : List Nat} {ring : Bool} (h : 1 ≤ l.length) : going (l.take 1) 0 ring = true := by
  unfold going
  rw [take1 h, last_short (by simp), last_short (by simp)]
  simp
theorem going1 {l : List Nat} {ring : Bool} (h : 2 ≤ l.length) : going (l.take 2) 1 ring = true ↔ ¬ (l.getD 0 0 = 1 ∧ l.getD 1 0 = 1) ∧ (ring = true ∨ ¬ (l.getD 0 0 = 0 ∧ l.getD 1 0 = 0)) := by
  unfold going
  rw [take2 h, last_short (by simp), last_short (by simp)]
  simp [-not_and, Classical.not_and_iff_not_or_not]
theorem going2 {l : List Nat} {ring : Bool} {j : Nat} (h : j + 3 ≤ l.length) : going (l.take (j + 3)) (j + 2) ring = true ↔ ¬ (l.getD (j + 1) 0 = 1 ∧ l.getD (j + 2) 0 = 1) ∧ ¬ (l.getD j 0 = 0 ∧ l.getD (j + 1) 0 = 0 ∧ l.getD (j + 2) 0 = 0) := by
  unfold going
  rw [last3 h, show j + 3 = (j + 1) + 2 by omega, last2 (j := j + 1) (by omega), show j + 1 + 1 = j + 2 by omega]
  simp [-not_and, Classical.not_and_iff_not_or_not]
theorem goings {l : List Nat} {ring : Bool} {p : Nat} (h : l.length = p) : (∀ j, j < p → going (l.take (j + 1)) j ring = true) ↔
    (∀ j, j + 1 < p → ¬ (l.getD j 0 = 1 ∧ l.getD (j + 1) 0 = 1)) ∧ (∀ j, j + 2 < p → ¬ (l.getD j 0 = 0 ∧ l.getD (j + 1) 0 = 0 ∧ l.getD (j + 2) 0 = 0)) ∧ (ring = false → 2 ≤ p → ¬ (l.getD 0 0 = 0 ∧ l.getD 1 0 = 0)) := by
  constructor
  · intro a
    refine ⟨fun j hj => ?_, fun j hj => ?_, fun hr hp => ?_⟩
    · cases j with
      | zero => exact ((going1 (by omega)).mp (a 1 (by omega))).1
      | succ j => exact ((going2 (j := j) (by omega)).mp (a (j + 2) (by omega))).1
    · exact ((going2 (j := j) (by omega)).mp (a (j + 2) (by omega))).2
    · have h1 := ((going1 (by omega)).mp (a 1 (by omega))).2
      rw [hr] at h1
      rcases h1 with h1 | h1
      · cases h1
      · exact h1
  · rintro ⟨a, b, c⟩ j hj
    match j with
    | 0 => exact going0 (by omega)
    | 1 =>
      refine (going1 (by omega)).mpr ⟨a 0 (by omega), ?_⟩
      cases ring with
      | true => exact .inl rfl
      | false => exact .inr (c rfl (by omega))
    | j + 2 => exact (going2 (j := j) (by omega)).mpr ⟨a (j + 1) (by omega), b j (by omega)⟩
/-- what a row of a path is -/
structure FitP (m : Nat) (g : Nat → Nat) : Prop where
  two : ∀ j, j + 1 < m → ¬ (g j = 1 ∧ g (j + 1) = 1)
  gap : ∀ j, j + 2 < m → ¬ (g j = 0 ∧ g (j + 1) = 0 ∧ g (j + 2) = 0)
  fst : 2 ≤ m → ¬ (g 0 = 0 ∧ g 1 = 0)
  lst : 2 ≤ m → ¬ (g (m - 2) = 0 ∧ g (m - 1) = 0)
  one : m = 1 → g 0 ≠ 0
/-- what a row of a ring is -/
structure FitR (m : Nat) (g : Nat → Nat) : Prop where
  two : ∀ j, j + 1 < m → ¬ (g j = 1 ∧ g (j + 1) = 1)
  gap : ∀ j, j + 2 < m → ¬ (g j = 0 ∧ g (j + 1) = 0 ∧ g (j + 2) = 0)
  cut : ¬ (g (m - 1) = 1 ∧ g 0 = 1)
  gp1 : ¬ (g (m - 2) = 0 ∧ g (m - 1) = 0 ∧ g 0 = 0)
  gp2 : ¬ (g (m - 1) = 0 ∧ g 0 = 0 ∧ g 1 = 0)
theorem last_all {l : List Nat} {m : Nat} (h : l.length = m) (h2 : 2 ≤ m) : lastN l 2 = [l.getD (m - 2) 0, l.getD (m - 1) 0] := by
  have h1 := last2 (l := l) (j := m - 2) (by omega)
  rw [List.take_of_length_le (by omega), show m - 2 + 1 = m - 1 by omega] at h1
  exact h1
theorem mem_path {m : Nat} (hm : 1 ≤ m) {one : List Nat} : one ∈ sets false m ↔ one.length = m ∧ (∀ x ∈ one, x = 0 ∨ x = 1) ∧ FitP m (fun i => one.getD i 0) := by
  unfold sets
  rw [List.mem_filter, mem_rowsN]
  constructor
  · rintro ⟨⟨h1, h2, h3⟩, h4⟩
    obtain ⟨a, b, c⟩ := (goings h1).mp h3
    unfold closed at h4
    simp only [Bool.false_eq_true, if_false, Bool.not_eq_true', Bool.or_eq_false_iff, decide_eq_false_iff_not] at h4
    refine ⟨h1, h2, a, b, c rfl, fun h5 => ?_, fun h5 => ?_⟩
    · rw [last_all h1 h5] at h4
      simpa using h4.1
    · have h6 : lastN one 2 = one := last_short (by omega)
      have h7 := take1 (l := one) (by omega)
      rw [List.take_of_length_le (by omega)] at h7
      rw [h6, h7] at h4
      simpa using h4.2
  · rintro ⟨h1, h2, f⟩
    refine ⟨⟨h1, h2, (goings h1).mpr ⟨f.two, f.gap, fun _ => f.fst⟩⟩, ?_⟩
    unfold closed
    simp only [Bool.false_eq_true, if_false, Bool.not_eq_true', Bool.or_eq_false_iff, decide_eq_false_iff_not]
    by_cases h5 : 2 ≤ m
    · rw [last_all h1 h5]
      have := f.lst h5
      simpa using this
    · have h6 : lastN one 2 = one := last_short (by omega)
      have h7 := take1 (l := one) (by omega)
      rw [List.take_of_length_le (by omega)] at h7
      rw [h6, h7]
      have := f.one (by omega)
      simpa using this
theorem mem_ring {m : Nat} (hm : 3 ≤ m) {one : List Nat} : one ∈ sets true m ↔ one.length = m ∧ (∀ x ∈ one, x = 0 ∨ x = 1) ∧ FitR m (fun i => one.getD i 0) := by
  unfold sets
  rw [List.mem_filter, mem_rowsN]
  have key : one.length = m → (closed (one.take 2) (lastN one 2) true = true ↔ ¬ (one.getD (m - 1) 0 = 1 ∧ one.getD 0 0 = 1) ∧ ¬ (one.getD (m - 2) 0 = 0 ∧ one.getD (m - 1) 0 = 0 ∧ one.getD 0 0 = 0) ∧ ¬ (one.getD (m - 1) 0 = 0 ∧ one.getD 0 0 = 0 ∧ one.getD 1 0 = 0)) := by
    intro h1
    unfold closed
    rw [take2 (by omega), last_all h1 (by omega)]
    simp [-not_and, Classical.not_and_iff_not_or_not]
  constructor
  · rintro ⟨⟨h1, h2, h3⟩, h4⟩
    obtain ⟨a, b, c⟩ := (goings h1).mp h3
    obtain ⟨k1, k2, k3⟩ := (key h1).mp h4
    exact ⟨h1, h2, a, b, k1, k2, k3⟩
  · rintro ⟨h1, h2, f⟩
    exact ⟨⟨h1, h2, (goings h1).mpr ⟨f.two, f.gap, nofun⟩⟩, (key h1).mpr ⟨f.cut, f.gp1, f.gp2⟩⟩
/-- there is a row -/
theorem sets_some : ∀ m, m < 12 → (1 ≤ m → sets false m ≠ []) ∧ (3 ≤ m → sets true m ≠ []) := by
  decide +kernel
end Fk
end
section
set_option linter.all false
/-! Ma9: the steps of a line and the depths, plain. -/
namespace Fk
open PySem
namespace Ln
variable {L M : Ln} {d : Nat → Nat} {t : Nat}
structure Dep (L : Ln) (d : Nat → Nat) : Prop where
  off : ∀ k, k < L.n → L.rdy k = false → d k = 0
  on : ∀ k, k < L.n → L.rdy k = true → d k = 1 + min (d (L.lf k)) (d (L.rt k))
/-- the colour after t steps -/
def cc (L : Ln) (d : Nat → Nat) (t k : Nat) : Int := if min t (d k) % 2 = 0 then L.col k else L.col (L.lf k)
theorem lf_same (hn : M.n = L.n) (k : Nat) : M.lf k = L.lf k := by unfold Ln.lf; rw [hn]
theorem rt_same (hn : M.n = L.n) (k : Nat) : M.rt k = L.rt k := by unfold Ln.rt; rw [hn]
theorem hd_same (hn : M.n = L.n) (hh : M.h = L.h) (hr : M.r = L.r) (k : Nat) : M.hd k = L.hd k := by unfold Ln.hd; rw [hn, hh, hr]
theorem cc_nb (D : Dep L d) {a k : Nat} (ha : a < L.n) (hx : L.rdy a = true → L.col (L.lf a) = L.col k) : (min t (d a) % 2 = 0 ∧ L.cc d t a = L.col a) ∨ (min t (d a) % 2 = 1 ∧ L.cc d t a = L.col k) := by
  unfold cc
  by_cases h : min t (d a) % 2 = 0
  · exact .inl ⟨h, if_pos h⟩
  · refine .inr ⟨by omega, ?_⟩
    rw [if_neg h]
    cases hr : L.rdy a with
    | true => exact hx hr
    | false =>
      have := D.off a ha hr
      rw [this] at h
      simp at h
theorem rdy_of_col (hn : M.n = L.n) (hh : M.h = L.h) (hr : M.r = L.r) (D : Dep L d) (hc : ∀ k, k < L.n → M.col k = L.cc d t k) : ∀ k, k < L.n → M.rdy k = (L.rdy k && decide (t < d k)) := by
  intro k hk
  have h1 : 1 ≤ L.n := by omega
  have ha := lf_lt h1 k
  have hb := rt_lt h1 k
  have fa : L.rdy (L.lf k) = true → L.col (L.lf (L.lf k)) = L.col k := fun h => by
    have := (rdy_iff.mp h).2.1
    rw [rt_lf hk] at this
    exact this
  have fb : L.rdy (L.rt k) = true → L.col (L.lf (L.rt k)) = L.col k := fun _ => by rw [lf_rt hk]
  have ca := cc_nb (t := t) D ha fa
  have cb := cc_nb (t := t) D hb fb
  rw [Bool.eq_iff_iff, rdy_iff, hd_same hn hh hr, lf_same hn, rt_same hn, hc k hk, hc _ ha, hc _ hb, Bool.and_eq_true, decide_eq_true_eq]
  cases hk2 : L.rdy k with
  | true =>
    obtain ⟨r1, r2, r3⟩ := rdy_iff.mp hk2
    have hd := D.on k hk hk2
    have ck : (min t (d k) % 2 = 0 ∧ L.cc d t k = L.col k) ∨ (min t (d k) % 2 = 1 ∧ L.cc d t k = L.col (L.lf k)) := by
      unfold cc
      by_cases h : min t (d k) % 2 = 0
      · exact .inl ⟨h, if_pos h⟩
      · exact .inr ⟨by omega, if_neg h⟩
    constructor
    · rintro ⟨_, q1, q2⟩
      refine ⟨rfl, ?_⟩
      rcases ca with ⟨pa, ea⟩ | ⟨pa, ea⟩ <;> rcases cb with ⟨pb, eb⟩ | ⟨pb, eb⟩ <;> rcases ck with ⟨pk, ek⟩ | ⟨pk, ek⟩ <;> rw [ea, eb] at q1 <;> rw [ea, ek] at q2
      · omega
      · exact absurd rfl q2
      · exact absurd q1 r3
      · exact absurd rfl q2
      · exact absurd (q1.trans r2.symm).symm r3
      · exact absurd (q1.trans r2.symm).symm r3
      · exact absurd rfl q2
      · omega
    · rintro ⟨_, q⟩
      refine ⟨r1, ?_, ?_⟩
      · rcases ca with ⟨pa, ea⟩ | ⟨pa, ea⟩ <;> rcases cb with ⟨pb, eb⟩ | ⟨pb, eb⟩ <;> rw [ea, eb]
        · exact r2
        · omega
        · omega
      · rcases ca with ⟨pa, ea⟩ | ⟨pa, ea⟩ <;> rcases ck with ⟨pk, ek⟩ | ⟨pk, ek⟩ <;> rw [ea, ek]
        · exact r3
        · omega
        · omega
        · exact Ne.symm r3
  | false =>
    have hd := D.off k hk hk2
    have ek : L.cc d t k = L.col k := by unfold cc; rw [hd]; simp
    rw [ek]
    constructor
    · rintro ⟨q0, q1, q2⟩
      exfalso
      rcases ca with ⟨pa, ea⟩ | ⟨pa, ea⟩
      · rcases cb with ⟨pb, eb⟩ | ⟨pb, eb⟩
        · rw [ea, eb] at q1
          rw [ea] at q2
          have := rdy_iff.mpr ⟨q0, q1, q2⟩
          rw [hk2] at this
          cases this
        · rw [q1, eb] at q2
          exact q2 rfl
      · rw [ea] at q2
        exact q2 rfl
    · rintro ⟨q, _⟩
      cases q
theorem iter_hr (L : Ln) : ∀ t, (L.iter t).h = L.h ∧ (L.iter t).r = L.r ∧ (L.iter t).n = L.n
  | 0 => ⟨rfl, rfl, rfl⟩
  | t + 1 => by
    obtain ⟨h1, h2, h3⟩ := iter_hr L t
    refine ⟨h1, h2, ?_⟩
    show ((L.iter t).flip (L.iter t).rdy).length = L.n
    rw [flip_len, h3]
theorem iter_col (t : Nat) {k : Nat} (h : k < L.n) : (L.iter (t + 1)).col k = if (L.iter t).rdy k = true then (L.iter t).col (L.lf k) else (L.iter t).col k := by
  obtain ⟨h1, h2, h3⟩ := iter_hr L t
  show ((L.iter t).wc ((L.iter t).flip (L.iter t).rdy)).col k = _
  rw [wc_col (by omega), lf_same h3]
theorem iter_dep (D : Dep L d) : ∀ t, ∀ k, k < L.n → (L.iter t).col k = L.cc d t k
  | 0, k, hk => by
    unfold cc
    simp
    rfl
  | t + 1, k, hk => by
    have ih := iter_dep D t
    obtain ⟨h1, h2, h3⟩ := iter_hr L t
    have hr := rdy_of_col h3 h1 h2 D ih k hk
    have h1' : 1 ≤ L.n := by omega
    have ha := lf_lt h1' k
    rw [iter_col t hk, hr, ih k hk, ih _ ha]
    cases hk2 : L.rdy k with
    | true =>
      have hd := D.on k hk hk2
      by_cases ht : t < d k
      · have fa : L.rdy (L.lf k) = true → L.col (L.lf (L.lf k)) = L.col k := fun h => by
          have := (rdy_iff.mp h).2.1
          rw [rt_lf hk] at this
          exact this
        simp only [Bool.true_and, decide_eq_true_eq, ht, if_true]
        rcases cc_nb (t := t) D ha fa with ⟨pa, ea⟩ | ⟨pa, ea⟩
        · rw [ea]
          unfold cc
          rw [if_neg (by omega)]
        · rw [ea]
          unfold cc
          rw [if_pos (by omega)]
      · simp only [Bool.true_and, decide_eq_true_eq, ht, if_false]
        unfold cc
        rw [Nat.min_eq_right (by omega), Nat.min_eq_right (by omega)]
    | false =>
      have hd := D.off k hk hk2
      simp only [Bool.false_and, Bool.false_eq_true, if_false]
      unfold cc
      rw [hd]
      simp
theorem iter_rdy (D : Dep L d) (t : Nat) {k : Nat} (hk : k < L.n) : (L.iter t).rdy k = (L.rdy k && decide (t < d k)) := by
  obtain ⟨h1, h2, h3⟩ := iter_hr L t
  exact rdy_of_col h3 h1 h2 D (iter_dep D t) k hk
end Ln
end Fk
end
section
set_option linter.all false
/-! Ma10: the depths of the program are depths; the sum over the steps. -/
namespace Fk
open PySem
namespace Ln
variable {L M : Ln} {d : Nat → Nat} {t : Nat}
theorem rdy_step (h : ∀ z, z < L.n → L.rdy z = true) : ∀ z, z < L.n → L.step.rdy z = true := by
  intro z hz
  have h1 : 1 ≤ L.n := by omega
  have hn : L.step.n = L.n := flip_len
  have hc : ∀ k, k < L.n → L.step.col k = L.col (L.lf k) := fun k hk => by
    show (L.wc (L.flip L.rdy)).col k = _
    rw [wc_col hk, if_pos (h k hk)]
  have ha := lf_lt h1 z
  have hb := rt_lt h1 z
  obtain ⟨r1, r2, r3⟩ := rdy_iff.mp (h z hz)
  have ra := (rdy_iff.mp (h _ ha)).2.1
  rw [rt_lf hz] at ra
  rw [rdy_iff, lf_same hn, rt_same hn, hc z hz, hc _ ha, hc _ hb, ra, lf_rt hz]
  exact ⟨by rw [hd_same hn rfl rfl]; exact r1, rfl, Ne.symm r3⟩
theorem rdy_iter (h : ∀ z, z < L.n → L.rdy z = true) : ∀ t z, z < L.n → (L.iter t).rdy z = true
  | 0, z, hz => h z hz
  | t + 1, z, hz => by
    have hn := (iter_hr L t).2.2
    exact rdy_step (fun z hz => rdy_iter h t z (by omega)) z (by omega)
theorem getD_set {l : List Nat} {i k v : Nat} (h : i < l.length) : (l.set i v).getD k 0 = if i = k then v else l.getD k 0 := by
  rw [List.getD_eq_getElem?_getD, List.getD_eq_getElem?_getD, List.getElem?_set]
  by_cases e : i = k
  · rw [if_pos e, if_pos e, if_pos h]
    rfl
  · rw [if_neg e, if_neg e]
theorem str_get {s i : Nat} (h : i ≤ L.en s) : (L.stretch s).getD i 0 = L.it s i := getD_of (stretch_get h)
theorem dep1_miss {s : Nat} {acc : List Nat} (hl : acc.length = L.n) (hn : 1 ≤ L.n) {k : Nat} : ∀ m, m < L.en s → (∀ i, 1 ≤ i → i ≤ m → L.it s i ≠ k) → (dep1 (L.stretch s) acc m).getD k 0 = acc.getD k 0
  | 0, _, _ => rfl
  | m + 1, hm, h => by
    rw [dep1_succ, str_get (by omega), getD_set (by rw [dep1_len, hl]; exact it_lt hn _ _), if_neg (h (m + 1) (by omega) (Nat.le_refl _))]
    exact dep1_miss hl hn m (by omega) fun i h1 h2 => h i h1 (by omega)
theorem dep1_hit {s i k : Nat} {acc : List Nat} (hl : acc.length = L.n) (a : L.At s i k) : ∀ m, m < L.en s → i ≤ m → (dep1 (L.stretch s) acc m).getD k 0 = min i (L.en s - i)
  | 0, _, h => absurd a.lo (by omega)
  | m + 1, hm, h => by
    have hn : 1 ≤ L.n := by have := a.lt; omega
    rw [dep1_succ, str_get (by omega), getD_set (by rw [dep1_len, hl]; exact it_lt hn _ _)]
    by_cases e : L.it s (m + 1) = k
    · obtain ⟨_, e2⟩ := a.uniq (⟨a.st, by omega, hm, e⟩ : L.At s (m + 1) k)
      rw [if_pos e, stretch_len, e2]
      rfl
    · rw [if_neg e]
      refine dep1_hit hl a m (by omega) ?_
      by_cases e2 : i = m + 1
      · rw [← e2, a.e] at e
        exact absurd rfl e
      · omega
def depF (ss : List (List Nat)) (acc : List Nat) : List Nat := ss.foldl (fun acc one => dep1 one acc (one.length - 2)) acc
theorem depF_miss {k : Nat} (hn : 1 ≤ L.n) : ∀ (ss : List (List Nat)) (acc : List Nat), acc.length = L.n → (∀ x ∈ ss, ∃ s, s ∈ L.starts ∧ x = L.stretch s ∧ ∀ i, ¬ L.At s i k) → (depF ss acc).getD k 0 = acc.getD k 0
  | [], acc, hl, h => rfl
  | x :: ss, acc, hl, h => by
    obtain ⟨s, hs, rfl, hno⟩ := h x (by simp)
    unfold depF
    rw [List.foldl_cons]
    have ih := depF_miss hn ss (dep1 (L.stretch s) acc ((L.stretch s).length - 2)) (by rw [dep1_len, hl]) fun y hy => h y (by simp [hy])
    unfold depF at ih
    rw [ih]
    have h2 := (en_spec hs).1
    rw [stretch_len]
    exact dep1_miss hl hn _ (by omega) fun i h1 h3 e => hno i ⟨hs, h1, by omega, e⟩
theorem depF_hit {s i k : Nat} (a : L.At s i k) : ∀ (ss : List (List Nat)) (acc : List Nat), acc.length = L.n → (∀ x ∈ ss, ∃ s, s ∈ L.starts ∧ x = L.stretch s) → L.stretch s ∈ ss → (depF ss acc).getD k 0 = min i (L.en s - i)
  | [], acc, hl, h, hm => by cases hm
  | x :: ss, acc, hl, h, hm => by
    have hn : 1 ≤ L.n := by have := a.lt; omega
    by_cases h1 : L.stretch s ∈ ss
    · have ih := depF_hit a ss (dep1 x acc (x.length - 2)) (by rw [dep1_len, hl]) (fun y hy => h y (by simp [hy])) h1
      exact ih
    · have ex : L.stretch s = x := by
        rcases List.mem_cons.mp hm with e | e
        · exact e
        · exact absurd e h1
      have ih := depF_miss (k := k) hn ss (dep1 x acc (x.length - 2)) (by rw [dep1_len, hl]) fun y hy => by
        obtain ⟨s', hs', rfl⟩ := h y (by simp [hy])
        refine ⟨s', hs', rfl, fun i' b => ?_⟩
        obtain ⟨e, _⟩ := a.uniq b
        exact h1 (e ▸ hy)
      have e2 : depF (x :: ss) acc = depF ss (dep1 x acc (x.length - 2)) := rfl
      rw [e2, ih, ← ex, stretch_len]
      have h2 := (en_spec a.st).1
      exact dep1_hit hl a _ (by omega) (by have := a.hi; omega)
theorem deps_at {s i k : Nat} (a : L.At s i k) : L.deps.getD k 0 = min i (L.en s - i) :=
  depF_hit a L.strs (List.replicate L.n 0) (by simp) (fun x hx => by obtain ⟨s, hs, e⟩ := mem_strs.mp hx; exact ⟨s, hs, e.symm⟩) (mem_strs.mpr ⟨s, a.st, rfl⟩)
theorem deps_off {k : Nat} (hn : 1 ≤ L.n) (h : L.rdy k = false) : L.deps.getD k 0 = 0 := by
  have h2 := depF_miss (k := k) hn L.strs (List.replicate L.n 0) (by simp) fun x hx => by
    obtain ⟨s, hs, e⟩ := mem_strs.mp hx
    refine ⟨s, hs, e.symm, fun i a => ?_⟩
    have := a.rdy
    rw [h] at this
    cases this
  have e : L.deps = depF L.strs (List.replicate L.n 0) := rfl
  rw [e, h2, List.getD_eq_getElem?_getD, List.getElem?_replicate]
  split <;> rfl
theorem deps_dep (ok : L.Ok) (h : L.swings = false) : Dep L fun k => L.deps.getD k 0 := by
  obtain ⟨z, hz, nz⟩ := not_swings ok h
  have hn := ok.one
  refine ⟨fun k hk hr => deps_off hn hr, fun k hk hr => ?_⟩
  obtain ⟨s, i, a⟩ := at_of hz nz k hk hr
  show L.deps.getD k 0 = 1 + min (L.deps.getD (L.lf k) 0) (L.deps.getD (L.rt k) 0)
  have hlo := a.lo
  have hhi := a.hi
  have hsp := en_spec a.st
  have el : L.lf k = L.it s (i - 1) := by
    rw [← a.e, show i = (i - 1) + 1 by omega, it_lf hn]
    rfl
  have er : L.rt k = L.it s (i + 1) := by rw [← a.e]; rfl
  have hl : L.deps.getD (L.lf k) 0 = min (i - 1) (L.en s - (i - 1)) := by
    by_cases h0 : i = 1
    · have e0 : L.rdy (L.lf k) = false := by
        rw [el, h0]
        exact (mem_starts.mp a.st).2.2
      rw [deps_off hn e0, h0]
      omega
    · exact deps_at ⟨a.st, by omega, by omega, el.symm⟩
  have hr2 : L.deps.getD (L.rt k) 0 = min (i + 1) (L.en s - (i + 1)) := by
    by_cases h0 : i + 1 = L.en s
    · have e0 : L.rdy (L.rt k) = false := by
        rw [er, h0]
        exact hsp.2.2.1
      rw [deps_off hn e0, h0]
      omega
    · exact deps_at ⟨a.st, by omega, by omega, er.symm⟩
  rw [deps_at a, hl, hr2]
  omega
theorem sum_add {α : Type} (f g : α → Int) : ∀ l : List α, (l.map f).sum + (l.map g).sum = (l.map fun x => f x + g x).sum
  | [] => rfl
  | a :: l => by
    have := sum_add f g l
    simp only [List.map_cons, List.sum_cons]
    omega
theorem sum_filter {α : Type} (p : α → Bool) (f : α → Int) : ∀ l : List α, ((l.filter p).map f).sum = (l.map fun x => if p x = true then f x else 0).sum
  | [] => rfl
  | a :: l => by
    have := sum_filter p f l
    rw [List.filter_cons]
    by_cases h : p a = true
    · rw [if_pos h, List.map_cons, List.map_cons, List.sum_cons, List.sum_cons, this, if_pos h]
    · rw [if_neg h, List.map_cons, List.sum_cons, this, if_neg h]
      omega
theorem sum_steps (D : Dep L d) (p : Nat → Int) : ∀ T, ((List.range T).map fun u => ((L.iter u).ready.map p).sum).sum = ((List.range L.n).map fun k => p k * ((min T (d k) : Nat) : Int)).sum
  | 0 => by
    have e : (fun k => p k * ((min 0 (d k) : Nat) : Int)) = fun _ => 0 := by
      funext k
      simp
    rw [e]
    generalize List.range L.n = l
    induction l with
    | nil => rfl
    | cons a l ih =>
      rw [List.map_cons, List.sum_cons, ← ih]
      simp
  | T + 1 => by
    rw [List.range_succ, List.map_append, List.sum_append, sum_steps D p T]
    simp only [List.map_cons, List.map_nil, List.sum_cons, List.sum_nil, Int.add_zero]
    have hn := (iter_hr L T).2.2
    have e : (L.iter T).ready = (List.range L.n).filter (L.iter T).rdy := by unfold Ln.ready; rw [hn]
    rw [e, sum_filter, sum_add]
    congr 1
    refine List.map_congr_left fun k hk => ?_
    have hk' := List.mem_range.mp hk
    rw [iter_rdy D T hk']
    cases hr : L.rdy k with
    | false =>
      rw [D.off k hk' hr]
      simp
    | true =>
      by_cases h : T < d k
      · rw [Nat.min_eq_left (by omega), Nat.min_eq_left (by omega)]
        simp only [h, decide_true, Bool.and_self, if_true]
        rw [Int.natCast_add, Int.mul_add]
        simp
      · rw [Nat.min_eq_right (by omega), Nat.min_eq_right (by omega)]
        simp [h]
theorem run_ok (ps : List Int) (ok : L.Ok) (hf : ((List.range (L.n + 2)).find? fun t => decide ((L.iter t).ready = [])) = some t) :
    L.swings = false ∧ ((List.range (t + 1)).map fun u => ((L.iter u).ready.map fun k => ps.getD k 0).sum).sum = L.stepCost ps := by
  have hn := ok.one
  have he0 := List.find?_some hf
  have he : (L.iter t).ready = [] := by simpa using he0
  have hs : L.swings = false := by
    cases h : L.swings with
    | false => rfl
    | true =>
      have h1 := rdy_iter (swings_all h) t 0 (by omega)
      have h2 : 0 ∈ (L.iter t).ready := mem_ready.mpr ⟨by rw [(iter_hr L t).2.2]; omega, h1⟩
      rw [he] at h2
      cases h2
  refine ⟨hs, ?_⟩
  have D := deps_dep ok hs
  rw [sum_steps D]
  unfold Ln.stepCost
  congr 1
  refine List.map_congr_left fun k hk => ?_
  have hk' := List.mem_range.mp hk
  have hr := iter_rdy D t hk'
  have h0 : (L.iter t).rdy k = false := by
    cases h : (L.iter t).rdy k with
    | false => rfl
    | true =>
      have h2 : k ∈ (L.iter t).ready := mem_ready.mpr ⟨by rw [(iter_hr L t).2.2]; exact hk', h⟩
      rw [he] at h2
      cases h2
  have hd : L.deps.getD k 0 ≤ t := by
    cases hr2 : L.rdy k with
    | false => rw [deps_off hn hr2]; omega
    | true =>
      rw [h0, hr2] at hr
      simp at hr
      simpa using hr
  rw [Nat.min_eq_right (by omega)]
end Ln
end Fk
end
section
set_option linter.all false
/-! Ma8: the paths part the ready cells; least and greatest costs, plain. -/
namespace Fk
open PySem
namespace Ln
variable {L : Ln} {S : Nat → Bool}
def pth (L : Ln) (s : Nat) : List Nat := (List.range (L.en s - 1)).map fun i => L.it s (i + 1)
theorem mem_pth {s k : Nat} (hs : s ∈ L.starts) : k ∈ L.pth s ↔ ∃ i, L.At s i k := by
  unfold pth
  rw [List.mem_map]
  constructor
  · rintro ⟨i, hi, e⟩
    rw [List.mem_range] at hi
    exact ⟨i + 1, hs, by omega, by omega, e⟩
  · rintro ⟨i, a⟩
    have h1 := a.lo
    have h2 := a.hi
    exact ⟨i - 1, List.mem_range.mpr (by omega), by rw [show i - 1 + 1 = i by omega]; exact a.e⟩
theorem paths_perm (h : L.swings = false) : L.paths.Perm (L.starts.map L.pth) := by
  unfold Ln.paths
  rw [h]
  simp only [Bool.false_eq_true, if_false]
  have h1 := L.strs_perm.map inner
  rw [List.map_map] at h1
  have e : (inner ∘ L.stretch) = L.pth := by
    funext s
    exact inner_stretch s
  rw [e] at h1
  exact h1
theorem starts_nodup : L.starts.Nodup := by
  unfold starts ready
  exact (List.nodup_range.filter _).filter _
theorem cells_nodup : L.cells.Nodup := by
  unfold Ln.cells
  cases h : L.swings with
  | true =>
    unfold Ln.paths
    rw [h, ready_all h]
    simp [List.nodup_range]
  | false =>
    refine (paths_perm h).flatten.nodup_iff.mpr ?_
    rw [List.Nodup, List.pairwise_flatten]
    refine ⟨fun l hl => ?_, ?_⟩
    · obtain ⟨s, hs, rfl⟩ := List.mem_map.mp hl
      unfold pth
      rw [List.pairwise_map]
      refine List.Pairwise.imp_of_mem ?_ List.pairwise_lt_range
      intro a b ha hb hab e
      rw [List.mem_range] at ha hb
      have := (At.uniq (⟨hs, by omega, by omega, rfl⟩ : L.At s (a + 1) (L.it s (a + 1))) ⟨hs, by omega, by omega, e.symm⟩).2
      omega
    · rw [List.pairwise_map]
      refine List.Pairwise.imp_of_mem ?_ starts_nodup
      intro a b ha hb hab x hx y hy e
      obtain ⟨i, p⟩ := (mem_pth ha).mp hx
      obtain ⟨j, q⟩ := (mem_pth hb).mp hy
      rw [← e] at q
      exact hab (p.uniq q).1
theorem mem_cells (ok : L.Ok) {k : Nat} : k ∈ L.cells ↔ k ∈ L.ready := by
  unfold Ln.cells
  cases h : L.swings with
  | true =>
    unfold Ln.paths
    rw [h]
    simp
  | false =>
    rw [(paths_perm h).flatten.mem_iff, List.mem_flatten, mem_ready]
    constructor
    · rintro ⟨l, hl, hk⟩
      obtain ⟨s, hs, rfl⟩ := List.mem_map.mp hl
      obtain ⟨i, a⟩ := (mem_pth hs).mp hk
      exact ⟨a.lt, a.rdy⟩
    · rintro ⟨h1, h2⟩
      obtain ⟨z, hz, nz⟩ := not_swings ok h
      obtain ⟨s, i, a⟩ := at_of hz nz k h1 h2
      exact ⟨L.pth s, List.mem_map.mpr ⟨s, a.st, rfl⟩, (mem_pth a.st).mpr ⟨i, a⟩⟩
theorem cells_perm (ok : L.Ok) : L.cells.Perm L.ready := by
  refine (List.perm_ext_iff_of_nodup cells_nodup ?_).mpr fun k => mem_cells ok
  unfold ready
  exact List.nodup_range.filter _
theorem mem_path_of (h : L.swings = false) {cs : List Nat} (hc : cs ∈ L.paths) : ∃ s ∈ L.starts, cs = L.pth s := mem_paths h |>.mp hc
theorem pth_len (s : Nat) : (L.pth s).length = L.en s - 1 := by simp [pth]
theorem paths_ok (ok : L.Ok) (h11 : L.n ≤ 11) : PathsOk L := by
  refine ⟨fun cs hc k hk => ?_, fun cs hc => ?_, fun cs hc => ?_, cells_nodup, ?_⟩
  · have h1 : k ∈ L.cells := List.mem_flatten.mpr ⟨cs, hc, hk⟩
    exact (mem_ready.mp ((mem_cells ok).mp h1)).1
  · cases h : L.swings with
    | true =>
      unfold Ln.paths at hc
      rw [h, ready_all h] at hc
      simp at hc
      rw [hc, List.length_range]
      exact h11
    | false =>
      obtain ⟨s, hs, rfl⟩ := mem_path_of h hc
      have := (en_spec hs).2.1
      rw [pth_len]
      omega
  · unfold pathRows
    cases h : L.swings with
    | true =>
      unfold Ln.paths at hc
      rw [h, ready_all h] at hc
      simp at hc
      rw [hc, List.length_range]
      have hr : L.r = true := by
        unfold Ln.swings at h
        simp only [Bool.and_eq_true] at h
        exact h.1
      exact (sets_some L.n (by omega)).2 (ok.ring hr)
    | false =>
      obtain ⟨s, hs, rfl⟩ := mem_path_of h hc
      have h1 := (en_spec hs).1
      have h2 := (en_spec hs).2.1
      rw [pth_len]
      exact (sets_some _ (by omega)).1 (by omega)
  · unfold Ln.paths
    split
    · simp
    · rw [List.length_map]
      have := L.strs_len
      omega
end Ln
end Fk
end
section
set_option linter.all false
/-! Ma11: least and greatest costs, plain. -/
namespace Fk
open PySem
def rowOf (S : Nat → Bool) (cs : List Nat) : List Nat := cs.map fun k => if S k = true then 1 else 0
theorem rowOf_len (S : Nat → Bool) (cs : List Nat) : (rowOf S cs).length = cs.length := by simp [rowOf]
theorem rowOf_get (S : Nat → Bool) {cs : List Nat} {i : Nat} (h : i < cs.length) : (rowOf S cs).getD i 0 = if S (cs.getD i 0) = true then 1 else 0 := by
  unfold rowOf
  rw [List.getD_eq_getElem?_getD, List.getElem?_map, List.getD_eq_getElem?_getD, List.getElem?_eq_getElem h]
  rfl
theorem rowOf_01 (S : Nat → Bool) (cs : List Nat) : ∀ x ∈ rowOf S cs, x = 0 ∨ x = 1 := by
  intro x hx
  obtain ⟨k, _, rfl⟩ := List.mem_map.mp hx
  split <;> simp
theorem rowCost_of (ps : List Int) (S : Nat → Bool) (cs : List Nat) : rowCost ps cs (rowOf S cs) = (cs.map fun k => if S k = true then ps.getD k 0 else 0).sum := by
  unfold rowCost
  rw [rowOf_len, Nat.min_self, Ln.sum_filter, ← range_map cs 0 fun k => if S k = true then ps.getD k 0 else 0]
  congr 1
  refine List.map_congr_left fun i hi => ?_
  rw [rowOf_get S (List.mem_range.mp hi)]
  by_cases h : S (cs.getD i 0) = true
  · rw [if_pos h, if_pos h]
    simp
  · rw [if_neg h, if_neg h]
    simp
theorem sum_flatten (f : Nat → Int) : ∀ l : List (List Nat), (l.flatten.map f).sum = (l.map fun cs => (cs.map f).sum).sum
  | [] => rfl
  | a :: l => by rw [List.flatten_cons, List.map_append, List.sum_append, List.map_cons, List.sum_cons, sum_flatten f l]
theorem perm_sum {l l' : List Int} (h : l.Perm l') : l.sum = l'.sum := by
  induction h with
  | nil => rfl
  | cons x _ ih => rw [List.sum_cons, List.sum_cons, ih]
  | swap x y l => simp only [List.sum_cons]; omega
  | trans _ _ h1 h2 => exact h1.trans h2
namespace Ln
variable {L : Ln} {S : Nat → Bool}
theorem chg_flip (I : L.Ind S) : L.chg (L.flip S) = (List.range L.n).filter S := by
  unfold chg
  refine List.filter_congr fun k hk => ?_
  have hk' := List.mem_range.mp hk
  rw [List.getD_eq_getElem?_getD, flip_get hk']
  cases hs : S k with
  | false => simp
  | true =>
    have h := (rdy_iff.mp (I.rd k hk' hs)).2.2
    simp [h]
theorem cst_flip (ok : L.Ok) (ps : List Int) (I : L.Ind S) : L.cst ps (L.flip S) = (L.paths.map fun cs => rowCost ps cs (rowOf S cs)).sum := by
  unfold cst
  rw [chg_flip I, sum_filter]
  have e : (L.paths.map fun cs => rowCost ps cs (rowOf S cs)) = L.paths.map fun cs => (cs.map fun k => if S k = true then ps.getD k 0 else 0).sum := List.map_congr_left fun cs _ => rowCost_of ps S cs
  rw [e, ← sum_flatten]
  have e2 : L.paths.flatten = L.cells := rfl
  rw [e2, perm_sum ((cells_perm ok).map _)]
  unfold ready
  rw [sum_filter]
  congr 1
  refine List.map_congr_left fun k hk => ?_
  have hk' := List.mem_range.mp hk
  cases hs : S k with
  | false => simp
  | true => simp [I.rd k hk' hs]
end Ln
end Fk
end
section
set_option linter.all false
/-! Ma12: rows and still lines, plain. -/
namespace Fk
open PySem
theorem fitP_iff {u : Nat → Bool} {m : Nat} {g : Nat → Nat} (hm : 1 ≤ m) (h0 : u 0 = false) (h1 : u (m + 1) = false) (hg : ∀ i, i < m → g i = if u (i + 1) = true then 1 else 0) :
    FitP m g ↔ ∀ i, i < m → (u (i + 1) = true → u i = false) ∧ (u (i + 1) = true ∨ u i = true ∨ u (i + 2) = true) := by
  have one : ∀ i, i < m → (g i = 1 ↔ u (i + 1) = true) := fun i h => by rw [hg i h]; cases u (i + 1) <;> simp
  have zer : ∀ i, i < m → (g i = 0 ↔ u (i + 1) = false) := fun i h => by rw [hg i h]; cases u (i + 1) <;> simp
  constructor
  · intro f i hi
    refine ⟨fun h => ?_, ?_⟩
    · cases i with
      | zero => exact h0
      | succ j =>
        cases hu : u (j + 1) with
        | false => rfl
        | true => exact absurd ⟨(one j (by omega)).mpr hu, (one (j + 1) hi).mpr h⟩ (f.two j hi)
    · cases a : u (i + 1) with
      | true => exact .inl rfl
      | false =>
        cases b : u i with
        | true => exact .inr (.inl rfl)
        | false =>
          cases c : u (i + 2) with
          | true => exact .inr (.inr rfl)
          | false =>
            exfalso
            by_cases e1 : m = 1
            · have : i = 0 := by omega
              subst this
              exact f.one e1 ((zer 0 (by omega)).mpr a)
            · by_cases e2 : i = 0
              · subst e2
                exact f.fst (by omega) ⟨(zer 0 (by omega)).mpr a, (zer 1 (by omega)).mpr c⟩
              · obtain ⟨j, rfl⟩ : ∃ j, i = j + 1 := ⟨i - 1, by omega⟩
                by_cases e3 : j + 2 = m
                · have := f.lst (by omega)
                  rw [← e3] at this
                  exact this ⟨(zer j (by omega)).mpr b, (zer (j + 1) (by omega)).mpr a⟩
                · exact f.gap j (by omega) ⟨(zer j (by omega)).mpr b, (zer (j + 1) (by omega)).mpr a, (zer (j + 2) (by omega)).mpr c⟩
  · intro h
    refine ⟨fun j hj => ?_, fun j hj => ?_, fun hm2 => ?_, fun hm2 => ?_, fun e => ?_⟩
    · rintro ⟨a, b⟩
      have := (h (j + 1) hj).1 ((one (j + 1) hj).mp b)
      rw [(one j (by omega)).mp a] at this
      cases this
    · rintro ⟨a, b, c⟩
      have a' := (zer j (by omega)).mp a
      have b' := (zer (j + 1) (by omega)).mp b
      have c' := (zer (j + 2) (by omega)).mp c
      have := (h (j + 1) (by omega)).2
      rw [a', b', c'] at this
      simp at this
    · rintro ⟨a, b⟩
      have a' := (zer 0 (by omega)).mp a
      have b' := (zer 1 (by omega)).mp b
      have := (h 0 (by omega)).2
      rw [a', b', h0] at this
      simp at this
    · rintro ⟨a, b⟩
      obtain ⟨j, rfl⟩ : ∃ j, m = j + 2 := ⟨m - 2, by omega⟩
      have a' := (zer j (by omega)).mp a
      have b' := (zer (j + 1) (by omega)).mp b
      have := (h (j + 1) (by omega)).2
      rw [a', b', h1] at this
      simp at this
    · subst e
      intro a
      have a' := (zer 0 (by omega)).mp a
      have := (h 0 (by omega)).2
      rw [a', h0, h1] at this
      simp at this
theorem fitR_iff {u : Nat → Bool} {m : Nat} {g : Nat → Nat} (hm : 3 ≤ m) (hg : ∀ i, i < m → g i = if u i = true then 1 else 0) :
    FitR m g ↔ ∀ i, i < m → (u i = true → u ((i + (m - 1)) % m) = false) ∧ (u i = true ∨ u ((i + (m - 1)) % m) = true ∨ u ((i + 1) % m) = true) := by
  have one : ∀ i, i < m → (g i = 1 ↔ u i = true) := fun i h => by rw [hg i h]; cases u i <;> simp
  have zer : ∀ i, i < m → (g i = 0 ↔ u i = false) := fun i h => by rw [hg i h]; cases u i <;> simp
  have l0 : (0 + (m - 1)) % m = m - 1 := by rw [Nat.zero_add]; exact Nat.mod_eq_of_lt (by omega)
  have ls : ∀ j, j + 1 < m → (j + 1 + (m - 1)) % m = j := fun j h => by rw [show j + 1 + (m - 1) = j + m by omega, Nat.add_mod_right]; exact Nat.mod_eq_of_lt (by omega)
  have r0 : ∀ j, j + 1 < m → (j + 1) % m = j + 1 := fun j h => Nat.mod_eq_of_lt h
  have rl : (m - 1 + 1) % m = 0 := by rw [Nat.sub_add_cancel (by omega), Nat.mod_self]
  constructor
  · intro f i hi
    cases i with
    | zero =>
      rw [l0, r0 0 (by omega)]
      refine ⟨fun h => ?_, ?_⟩
      · cases hu : u (m - 1) with
        | false => rfl
        | true => exact absurd ⟨(one _ (by omega)).mpr hu, (one 0 hi).mpr h⟩ f.cut
      · cases a : u 0 with
        | true => exact .inl rfl
        | false =>
          cases b : u (m - 1) with
          | true => exact .inr (.inl rfl)
          | false =>
            cases c : u (0 + 1) with
            | true => exact .inr (.inr rfl)
            | false => exact absurd ⟨(zer _ (by omega)).mpr b, (zer 0 hi).mpr a, (zer 1 (by omega)).mpr c⟩ f.gp2
    | succ j =>
      rw [ls j hi]
      refine ⟨fun h => ?_, ?_⟩
      · cases hu : u j with
        | false => rfl
        | true => exact absurd ⟨(one j (by omega)).mpr hu, (one (j + 1) hi).mpr h⟩ (f.two j hi)
      · cases a : u (j + 1) with
        | true => exact .inl rfl
        | false =>
          cases b : u j with
          | true => exact .inr (.inl rfl)
          | false =>
            by_cases e : j + 2 = m
            · have e2 : j + 1 = m - 1 := by omega
              have e3 : (j + 1 + 1) % m = 0 := by rw [e2, rl]
              rw [e3]
              cases c : u 0 with
              | true => exact .inr (.inr rfl)
              | false =>
                have := f.gp1
                rw [← e] at this
                exact absurd ⟨(zer j (by omega)).mpr b, (zer (j + 1) hi).mpr a, (zer 0 (by omega)).mpr c⟩ this
            · rw [r0 (j + 1) (by omega)]
              cases c : u (j + 1 + 1) with
              | true => exact .inr (.inr rfl)
              | false => exact absurd ⟨(zer j (by omega)).mpr b, (zer (j + 1) hi).mpr a, (zer (j + 2) (by omega)).mpr c⟩ (f.gap j (by omega))
  · intro h
    refine ⟨fun j hj => ?_, fun j hj => ?_, ?_, ?_, ?_⟩
    · rintro ⟨a, b⟩
      have := (h (j + 1) hj).1 ((one _ hj).mp b)
      rw [ls j hj, (one j (by omega)).mp a] at this
      cases this
    · rintro ⟨a, b, c⟩
      have := (h (j + 1) (by omega)).2
      rw [ls j (by omega), r0 (j + 1) (by omega), (zer j (by omega)).mp a, (zer (j + 1) (by omega)).mp b, show j + 1 + 1 = j + 2 by omega, (zer (j + 2) (by omega)).mp c] at this
      simp at this
    · rintro ⟨a, b⟩
      have := (h 0 (by omega)).1 ((one 0 (by omega)).mp b)
      rw [l0, (one _ (by omega)).mp a] at this
      cases this
    · rintro ⟨a, b, c⟩
      have := (h (m - 1) (by omega)).2
      rw [rl, show m - 1 + (m - 1) = m - 2 + 1 + (m - 1) by omega, ls (m - 2) (by omega), (zer _ (by omega)).mp a, (zer _ (by omega)).mp b, (zer 0 (by omega)).mp c] at this
      simp at this
    · rintro ⟨a, b, c⟩
      have := (h 0 (by omega)).2
      rw [l0, r0 0 (by omega), (zer _ (by omega)).mp a, (zer 0 (by omega)).mp b, show 0 + 1 = 1 by omega, (zer 1 (by omega)).mp c] at this
      simp at this
end Fk
end
section
set_option linter.all false
/-! Ma13: still lines are those whose rows all fit, plain. -/
namespace Fk
open PySem
namespace Ln
variable {L : Ln} {S : Nat → Bool}
/-- a cell of a set without neighbours, or with a neighbour in it -/
def Cov (L : Ln) (S : Nat → Bool) : Prop := ∀ k, k < L.n → L.rdy k = true → (S k = true → S (L.lf k) = false) ∧ (S k = true ∨ S (L.lf k) = true ∨ S (L.rt k) = true)
theorem still_iff (I : L.Ind S) : (L.wc (L.flip S)).ready = [] ↔ L.Cov S := by
  have hn : (L.wc (L.flip S)).n = L.n := flip_len
  constructor
  · intro h k hk hr
    refine ⟨I.lf k hk, ?_⟩
    have h1 : (L.wc (L.flip S)).rdy k = false := by
      cases h2 : (L.wc (L.flip S)).rdy k with
      | false => rfl
      | true =>
        have h3 : k ∈ (L.wc (L.flip S)).ready := mem_ready.mpr ⟨by rw [hn]; exact hk, h2⟩
        rw [h] at h3
        cases h3
    rw [rdy_flip I hk, hr] at h1
    cases a : S k with
    | true => exact .inl rfl
    | false =>
      cases b : S (L.lf k) with
      | true => exact .inr (.inl rfl)
      | false =>
        cases c : S (L.rt k) with
        | true => exact .inr (.inr rfl)
        | false => rw [a, b, c] at h1; cases h1
  · intro h
    rw [List.eq_nil_iff_forall_not_mem]
    intro k hk
    obtain ⟨h1, h2⟩ := mem_ready.mp hk
    rw [hn] at h1
    rw [rdy_flip I h1] at h2
    simp only [Bool.and_eq_true, Bool.not_eq_true'] at h2
    obtain ⟨r, a, b, c⟩ := h2
    have := (h k h1 r).2
    rw [a, b, c] at this
    simp at this
theorem cov_rows (ok : L.Ok) (h11 : L.n ≤ 11) (sub : ∀ k, k < L.n → S k = true → L.rdy k = true) : L.Cov S ↔ ∀ cs ∈ L.paths, rowOf S cs ∈ pathRows L cs := by
  have hn := ok.one
  cases h : L.swings with
  | true =>
    have ep : L.paths = [List.range L.n] := by
      unfold Ln.paths
      rw [h, ready_all h]
      rfl
    have hr : L.r = true := by
      unfold Ln.swings at h
      simp only [Bool.and_eq_true] at h
      exact h.1
    have h3 := ok.ring hr
    have fit := fitR_iff (u := S) (m := L.n) (g := fun i => (rowOf S (List.range L.n)).getD i 0) h3 fun i hi => by
      rw [rowOf_get S (by rw [List.length_range]; exact hi), List.getD_eq_getElem?_getD, List.getElem?_range hi]
      rfl
    rw [ep]
    simp only [List.mem_singleton, forall_eq]
    unfold pathRows
    rw [h, List.length_range, mem_ring h3, fit]
    have e : (rowOf S (List.range L.n)).length = L.n := by rw [rowOf_len, List.length_range]
    constructor
    · intro c
      exact ⟨e, rowOf_01 _ _, fun i hi => c i hi (swings_all h i hi)⟩
    · rintro ⟨_, _, c⟩ k hk _
      exact c k hk
  | false =>
    obtain ⟨z, hz, nz⟩ := not_swings ok h
    have fit : ∀ s ∈ L.starts, (rowOf S (L.pth s) ∈ pathRows L (L.pth s) ↔ ∀ i, i < L.en s - 1 → (S (L.it s (i + 1)) = true → S (L.it s i) = false) ∧ (S (L.it s (i + 1)) = true ∨ S (L.it s i) = true ∨ S (L.it s (i + 2)) = true)) := by
      intro s hs
      obtain ⟨e1, e2, e3, e4⟩ := en_spec hs
      have no : ∀ i, L.rdy (L.it s i) = false → S (L.it s i) = false := fun i hi => by
        cases hS : S (L.it s i) with
        | false => rfl
        | true =>
          have := sub _ (it_lt hn s i) hS
          rw [hi] at this
          cases this
      have f := fitP_iff (u := fun i => S (L.it s i)) (m := L.en s - 1) (g := fun i => (rowOf S (L.pth s)).getD i 0) (by omega) (no 0 (mem_starts.mp hs).2.2) (no _ (by rw [show L.en s - 1 + 1 = L.en s by omega]; exact e3)) fun i hi => by
        rw [rowOf_get S (by rw [pth_len]; exact hi)]
        unfold pth
        rw [List.getD_eq_getElem?_getD, List.getElem?_map, List.getElem?_range hi]
        rfl
      unfold pathRows
      rw [h, pth_len, mem_path (by omega), f]
      have e : (rowOf S (L.pth s)).length = L.en s - 1 := by rw [rowOf_len, pth_len]
      constructor
      · rintro ⟨_, _, c⟩
        exact c
      · intro c
        exact ⟨e, rowOf_01 _ _, c⟩
    constructor
    · intro c cs hcs
      obtain ⟨s, hs, rfl⟩ := mem_path_of h hcs
      refine (fit s hs).mpr fun i hi => ?_
      have a : L.At s (i + 1) (L.it s (i + 1)) := ⟨hs, by omega, by omega, rfl⟩
      have h1 := c _ a.lt a.rdy
      rw [it_lf hn] at h1
      exact h1
    · intro c k hk hr
      obtain ⟨s, i, a⟩ := at_of hz nz k hk hr
      have hlo := a.lo
      have hhi := a.hi
      have h1 := (fit s a.st).mp (c _ ((mem_paths h).mpr ⟨s, a.st, rfl⟩)) (i - 1) (by omega)
      rw [show i - 1 + 1 = i by omega, show i - 1 + 2 = i + 1 by omega, a.e] at h1
      have el : L.lf k = L.it s (i - 1) := by
        rw [← a.e, show i = (i - 1) + 1 by omega, it_lf hn]
        rfl
      have er : L.rt k = L.it s (i + 1) := by rw [← a.e]; rfl
      rw [el, er]
      exact h1
end Ln
end Fk
end
section
set_option linter.all false
/-! Ma14: the picked row is the best, plain. -/
namespace Fk
open PySem
/-- cells turned at once, one by one -/
theorem Ln.turn_get (L : Ln) (ks : List Nat) {j : Nat} (h : j < L.n) : (L.turn ks)[j]? = some (if j ∈ ks then L.col (L.lf j) else L.col j) := by
  unfold Ln.turn
  have main : ∀ (ks : List Nat) (acc : List Int) (x : Int), acc[j]? = some x → (ks.foldl (fun acc k => acc.set k (L.col (L.lf k))) acc)[j]? = some (if j ∈ ks then L.col (L.lf j) else x) := by
    intro ks
    induction ks with
    | nil => intro acc x hx; simpa using hx
    | cons k ks ih =>
      intro acc x hx
      rw [List.foldl_cons]
      by_cases e : k = j
      · subst e
        have hl : k < acc.length := by
          rcases Nat.lt_or_ge k acc.length with h1 | h1
          · exact h1
          · rw [List.getElem?_eq_none h1] at hx; cases hx
        rw [ih _ (L.col (L.lf k)) (by rw [List.getElem?_set_self hl])]
        simp
      · rw [ih _ x (by rw [List.getElem?_set_ne e]; exact hx)]
        have e2 : ¬ j = k := fun q => e q.symm
        simp [e2]
  have h0 : L.c[j]? = some (L.col j) := Ln.get h
  exact main ks L.c _ h0
theorem Ln.turn_flip (L : Ln) (ks : List Nat) : L.turn ks = L.flip fun k => decide (k ∈ ks) := by
  apply List.ext_getElem?
  intro j
  by_cases h : j < L.n
  · rw [L.turn_get ks h, Ln.flip_get h]
    by_cases e : j ∈ ks <;> simp [e]
  · rw [List.getElem?_eq_none (by rw [Ln.turn_length]; omega), List.getElem?_eq_none (by rw [Ln.flip_len]; omega)]
/-- the marks of all paths together, one path's -/
theorem mark_flat (f : List Nat → List Nat) : ∀ (l : List (List Nat)), (∀ cs ∈ l, (f cs).length = cs.length) → l.flatten.Nodup → ∀ cs ∈ l, ∀ i, i < cs.length → markAt l.flatten (l.map f).flatten (cs.getD i 0) = (f cs).getD i 0
  | [], _, _, cs, hc, _, _ => by cases hc
  | a :: l, hl, nd, cs, hc, i, hi => by
    rw [List.flatten_cons, List.nodup_append] at nd
    obtain ⟨n1, n2, n3⟩ := nd
    have hm : cs.getD i 0 ∈ cs := List.mem_of_getElem? (getD_at hi)
    have ha := hl a (by simp)
    unfold markAt
    rw [List.flatten_cons, List.map_cons, List.flatten_cons, List.idxOf_append]
    by_cases e : cs = a
    · subst e
      rw [if_pos hm]
      have e2 : cs.idxOf (cs.getD i 0) = i := by
        have e3 : cs.getD i 0 = cs[i] := by rw [List.getD_eq_getElem?_getD, List.getElem?_eq_getElem hi]; rfl
        rw [e3]
        exact n1.idxOf_getElem i hi
      rw [e2, List.getD_eq_getElem?_getD, List.getElem?_append_left (by omega), ← List.getD_eq_getElem?_getD]
    · rcases List.mem_cons.mp hc with q | hc
      · exact absurd q e
      · have hx : cs.getD i 0 ∈ l.flatten := List.mem_flatten.mpr ⟨cs, hc, hm⟩
        rw [if_neg (fun h => n3 _ h _ hx rfl), List.getD_eq_getElem?_getD, List.getElem?_append_right (by omega), ha, Nat.add_sub_cancel, ← List.getD_eq_getElem?_getD]
        exact mark_flat f l (fun cs h => hl cs (by simp [h])) n2 cs hc i hi
theorem map_lt {f g : Nat → Int} : ∀ {l : List Nat}, l.Pairwise (· < ·) → ∀ {i : Nat}, i ∈ l → f i < g i → (∀ j ∈ l, j < i → f j = g j) → l.map f < l.map g
  | [], _, i, hi, _, _ => by cases hi
  | a :: l, hp, i, hi, hlt, he => by
    rw [List.map_cons, List.map_cons, List.cons_lt_cons_iff]
    obtain ⟨p1, p2⟩ := List.pairwise_cons.mp hp
    rcases List.mem_cons.mp hi with e | hi
    · subst e; exact .inl hlt
    · exact .inr ⟨he a (by simp) (p1 i hi), map_lt p2 hi hlt fun j hj => he j (by simp [hj])⟩
theorem lt_map {f g : Nat → Int} : ∀ {l : List Nat}, l.Pairwise (· < ·) → l.map f < l.map g → ∃ i ∈ l, f i < g i ∧ ∀ j ∈ l, j < i → f j = g j
  | [], _, h => absurd h (List.lt_irrefl _)
  | a :: l, hp, h => by
    rw [List.map_cons, List.map_cons, List.cons_lt_cons_iff] at h
    obtain ⟨p1, p2⟩ := List.pairwise_cons.mp hp
    rcases h with h | ⟨h1, h2⟩
    · refine ⟨a, by simp, h, fun j hj hlt => ?_⟩
      rcases List.mem_cons.mp hj with e | hj
      · omega
      · have := p1 j hj; omega
    · obtain ⟨i, hi, h3, h4⟩ := lt_map p2 h2
      refine ⟨i, by simp [hi], h3, fun j hj hlt => ?_⟩
      rcases List.mem_cons.mp hj with e | hj
      · rw [e]; exact h1
      · exact h4 j hj hlt
theorem sum_le {f g : List Nat → Int} : ∀ {l : List (List Nat)}, (∀ x ∈ l, f x ≤ g x) → (l.map f).sum ≤ (l.map g).sum
  | [], _ => Int.le_refl _
  | a :: l, h => by
    rw [List.map_cons, List.map_cons, List.sum_cons, List.sum_cons]
    have h1 := h a (by simp)
    have h2 := sum_le (l := l) fun x hx => h x (by simp [hx])
    omega
theorem sum_eq {f g : List Nat → Int} : ∀ {l : List (List Nat)}, (∀ x ∈ l, f x ≤ g x) → (l.map f).sum = (l.map g).sum → ∀ x ∈ l, f x = g x
  | [], _, _ => nofun
  | a :: l, h, e => by
    rw [List.map_cons, List.map_cons, List.sum_cons, List.sum_cons] at e
    have h1 := h a (by simp)
    have h2 := sum_le (l := l) fun x hx => h x (by simp [hx])
    intro x hx
    rcases List.mem_cons.mp hx with q | hx
    · rw [q]; omega
    · exact sum_eq (l := l) (fun x hx => h x (by simp [hx])) (by omega) x hx
theorem mark_row (S : Nat → Bool) {cs : List Nat} {k : Nat} (h : k ∈ cs) : (markAt cs (rowOf S cs) k = 1) ↔ S k = true := by
  unfold markAt
  rw [rowOf_get S (List.idxOf_lt_length_of_mem h)]
  have e : cs.getD (cs.idxOf k) 0 = k := by rw [List.getD_eq_getElem?_getD, idx_get h]; rfl
  rw [e]
  by_cases q : S k = true <;> simp [q]
theorem cols_row (L : Ln) (S : Nat → Bool) (cs : List Nat) : colsOf L cs (rowOf S cs) = (sortN cs).map fun k => if S k = true then L.col (L.lf k) else L.col k := by
  unfold colsOf
  refine List.map_congr_left fun k hk => ?_
  have hk' := (sortN_perm cs).mem_iff.mp hk
  by_cases h : S k = true
  · rw [if_pos ((mark_row S hk').mpr h), if_pos h]
  · rw [if_neg (fun q => h ((mark_row S hk').mp q)), if_neg h]
theorem sortN_lt {l : List Nat} (nd : l.Nodup) : (sortN l).Pairwise (· < ·) := by
  have h1 := sortN_le l
  have h2 : (sortN l).Nodup := (sortN_perm l).nodup_iff.mpr nd
  exact (h1.and h2).imp fun ⟨a, b⟩ => Nat.lt_of_le_of_ne a b
namespace Ln
variable {L : Ln} {S : Nat → Bool}
theorem cov_ind (sub : ∀ k, k < L.n → S k = true → L.rdy k = true) (h : L.Cov S) : L.Ind S := ⟨sub, fun k hk hs => (h k hk (sub k hk hs)).1 hs⟩
theorem best_ok (ok : L.Ok) (h11 : L.n ≤ 11) (ps : List Int) (m : Bool) (hps : ps.length = L.n) : (∃ S, L.Ind S ∧ L.turn (L.picked ps m) = L.flip S ∧ (L.wc (L.turn (L.picked ps m))).ready = []) ∧ L.cst ps (L.turn (L.picked ps m)) = L.bestCost ps m ∧
    ∀ S, L.Ind S → (L.wc (L.flip S)).ready = [] → (if m = true then L.cst ps (L.flip S) ≤ L.bestCost ps m else L.bestCost ps m ≤ L.cst ps (L.flip S)) ∧ (L.cst ps (L.flip S) = L.bestCost ps m → ¬ L.flip S < L.turn (L.picked ps m)) := by
  have po := paths_ok ok h11
  have pick : ∀ cs ∈ L.paths, _ := fun cs hc => pick_all (ps := ps) (m := m) (po.some cs hc)
  have plen : ∀ cs ∈ L.paths, ∀ r ∈ pathRows L cs, r.length = cs.length := by
    intro cs hc r hr
    by_cases h0 : cs.length = 0
    · unfold pathRows sets at hr
      have h1 := (mem_rowsN _ _ _).mp (List.mem_filter.mp hr).1
      exact h1.1
    · unfold pathRows sets at hr
      exact ((mem_rowsN _ _ _).mp (List.mem_filter.mp hr).1).1
  obtain ⟨T, hT⟩ : ∃ T : Nat → Bool, T = fun k => decide (k ∈ L.picked ps m) := ⟨_, rfl⟩
  have eT : L.turn (L.picked ps m) = L.flip T := by rw [hT]; exact L.turn_flip _
  have mT : ∀ k, T k = true ↔ k ∈ L.cells ∧ markAt L.cells (L.marks ps m) k = 1 := by
    intro k
    rw [hT]
    unfold picked
    simp only [decide_eq_true_eq, List.mem_filter]
    rw [(sortN_perm _).mem_iff]
  have rT : ∀ cs ∈ L.paths, rowOf T cs = pickRow L ps m cs := by
    intro cs hc
    have hr := (pick cs hc).2.1
    have hl := plen cs hc _ hr
    have h01 : ∀ x ∈ pickRow L ps m cs, x = 0 ∨ x = 1 := by
      unfold pathRows sets at hr
      exact ((mem_rowsN _ _ _).mp (List.mem_filter.mp hr).1).2.1
    apply List.ext_getElem?
    intro i
    by_cases hi : i < cs.length
    · have hm : cs.getD i 0 ∈ cs := List.mem_of_getElem? (getD_at hi)
      have hk : cs.getD i 0 ∈ L.cells := List.mem_flatten.mpr ⟨cs, hc, hm⟩
      have e1 : markAt L.cells (L.marks ps m) (cs.getD i 0) = (pickRow L ps m cs).getD i 0 := mark_flat (pickRow L ps m) L.paths (fun cs hc => plen cs hc _ (pick cs hc).2.1) po.nd cs hc i hi
      have h2 := h01 ((pickRow L ps m cs).getD i 0) (List.mem_of_getElem? (getD_at (by omega)))
      have e2 : (rowOf T cs)[i]? = some ((rowOf T cs).getD i 0) := getD_at (by rw [rowOf_len]; exact hi)
      have e3 : (pickRow L ps m cs)[i]? = some ((pickRow L ps m cs).getD i 0) := getD_at (by omega)
      rw [e2, e3, rowOf_get T hi]
      congr 1
      by_cases q : T (cs.getD i 0) = true
      · rw [if_pos q, ← e1]
        exact ((mT _).mp q).2.symm
      · rw [if_neg q]
        rcases h2 with h2 | h2
        · exact h2.symm
        · exact absurd ((mT _).mpr ⟨hk, e1.trans h2⟩) q
    · rw [List.getElem?_eq_none (by rw [rowOf_len]; omega), List.getElem?_eq_none (by omega)]
  have subT : ∀ k, k < L.n → T k = true → L.rdy k = true := fun k _ h => (mem_ready.mp ((mem_cells ok).mp ((mT k).mp h).1)).2
  have covT : L.Cov T := (cov_rows ok h11 subT).mpr fun cs hc => by rw [rT cs hc]; exact (pick cs hc).2.1
  have IT := cov_ind subT covT
  rw [eT]
  refine ⟨⟨T, IT, rfl, (still_iff IT).mpr covT⟩, ?_, fun S I hS => ?_⟩
  · rw [cst_flip ok ps IT]
    unfold bestCost
    congr 1
    exact List.map_congr_left fun cs hc => by rw [rT cs hc]; exact (pick cs hc).2.2.1
  have covS := (still_iff I).mp hS
  have rS := (cov_rows ok h11 I.rd).mp covS
  have tS : ∀ cs ∈ L.paths, rowCost ps cs (rowOf S cs) ∈ pathTold L ps cs := fun cs hc => List.mem_map.mpr ⟨_, rS cs hc, rfl⟩
  refine ⟨?_, fun he hlt => ?_⟩
  · rw [cst_flip ok ps I]
    cases m with
    | true =>
      rw [if_pos rfl]
      exact sum_le fun cs hc => extr_max _ (tS cs hc)
    | false =>
      rw [if_neg (by decide)]
      exact sum_le fun cs hc => extr_min _ (tS cs hc)
  · have eq : ∀ cs ∈ L.paths, rowCost ps cs (rowOf S cs) = pathCost L ps m cs := by
      rw [cst_flip ok ps I] at he
      unfold bestCost at he
      cases m with
      | true => exact sum_eq (fun cs hc => extr_max _ (tS cs hc)) he
      | false => exact fun cs hc => (sum_eq (fun cs hc => extr_min _ (tS cs hc)) he.symm cs hc).symm
    unfold flip at hlt
    obtain ⟨i, hi, h1, h2⟩ := lt_map (pairwise_range L.n) hlt
    have hi' := List.mem_range.mp hi
    have hr : L.rdy i = true := by
      cases a : S i with
      | true => exact I.rd i hi' a
      | false =>
        cases b : T i with
        | true => exact subT i hi' b
        | false =>
          rw [a, b] at h1
          omega
    have hc : i ∈ L.cells := (mem_cells ok).mpr (mem_ready.mpr ⟨hi', hr⟩)
    obtain ⟨cs, hcs, hics⟩ := List.mem_flatten.mp hc
    have nd : cs.Nodup := (List.sublist_flatten_of_mem hcs).nodup po.nd
    have h3 := (pick cs hcs).2.2.2 _ (rS cs hcs) (eq cs hcs)
    rw [← rT cs hcs, cols_row, cols_row] at h3
    exact h3 (map_lt (sortN_lt nd) ((sortN_perm cs).mem_iff.mpr hics) h1 fun j hj hlt => h2 j (List.mem_range.mpr (by omega)) hlt)
end Ln
theorem mth : Mth := ⟨fun L ok h => Ln.paths_ok ok h, fun L ps m ok h hp => Ln.best_ok ok h ps m hp, fun L ps t ok h hp hf => Ln.run_ok ps ok hf⟩
end Fk
end
section
set_option Elab.async false
set_option linter.all false
open PySem PySem.W PyProof.Rows in
set_option maxRecDepth 100000 in
set_option maxHeartbeats 0 in
theorem PySem.Challenge.cw_flankturns_k35_whole_costs_of_ends_holds : PySem.Challenge.rw_flankturns_k35_whole_costs_of_ends.Holds := by
  w_on; o_law; k_head; (case hw => w_witness2)
  k_fill
  refine Fk.walk (l := PySem.Challenge.rw_flankturns_k35_whole_costs_of_ends) rfl rfl (fun w h Y => PySem.W.kIn_of Y) ?F
  case F =>
    intro w mg fa h KX G hmg
    refine' Fk.all_mk Fk.mth KX G hmg ?aC ?a1 ?l1 ?c1 ?k1 ?a2 ?l2 ?c2 ?k2 ?a3 ?l3 ?c3 ?k3 ?a4 ?l4 ?c4 ?k4 ?a5 ?l5 ?c5 ?k5 ?a6 ?l6 ?c6 ?k6 ?a7 ?l7 ?c7 ?k7 ?a8 ?l8 ?c8 ?k8 ?a9 ?l9 ?c9 ?k9 ?a10 ?l10 ?c10 ?k10 ?a11 ?l11 ?c11 ?k11 ?a12 ?l12 ?c12 ?k12 ?a13 ?l13 ?c13 ?k13 ?a14 ?l14 ?c14 ?k14 ?a15 ?l15 ?c15 ?k15 ?a16 ?l16 ?c16 ?k16 ?a17 ?l17 ?c17 ?k17 ?a18 ?l18 ?c18 ?k18 ?a19 ?l19 ?c19 ?k19 ?a20 ?l20 ?c20 ?k20 ?a21 ?l21 ?c21 ?k21 ?a22 ?l22 ?c22 ?k22 ?a23 ?l23 ?c23 ?k23 ?a24 ?l24 ?c24 ?k24 ?a25 ?l25 ?c25 ?k25 ?a26 ?l26 ?c26 ?k26 ?a27 ?l27 ?c27 ?k27 ?a28 ?l28 ?c28 ?k28 ?a29 ?l29 ?c29 ?k29 ?a30 ?l30 ?c30 ?k30 ?a31 ?l31 ?c31 ?k31 ?a32 ?l32 ?c32 ?k32 ?a33 ?l33 ?c33 ?k33 ?a34 ?l34 ?c34 ?k34 ?a35 ?i35 ?l35 ?c35 ?k35 ?a36 ?i36 ?l36 ?c36 ?k36 ?a37 ?i37 ?l37 ?c37 ?k37 ?pg ?hd ?po ?sa ?mk ?kc ?n_base ?n_suits ?n_prices ?n_must_fill ?n_paths ?n_is_ring ?z_isi ?z_int ?z_bool ?z_tuple ?z_len ?z_list ?z_set ?z_sorted ?z_range ?z_enum ?z_zip ?z_min ?z_max ?z_sum ?z_dict ?z_str ?z_cells ?z_colour ?z_ring ?z_price
    (case aC => k_is)
    (case a1 => k_is)
    (case l1 => k_is)
    (case c1 => k_is)
    (case k1 => k_is)
    (case a2 => k_is)
    (case l2 => k_is)
    (case c2 => k_is)
    (case k2 => k_is)
    (case a3 => k_is)
    (case l3 => k_is)
    (case c3 => k_is)
    (case k3 => k_is)
    (case a4 => k_is)
    (case l4 => k_is)
    (case c4 => k_is)
    (case k4 => k_is)
    (case a5 => k_is)
    (case l5 => k_is)
    (case c5 => k_is)
    (case k5 => k_is)
    (case a6 => k_is)
    (case l6 => k_is)
    (case c6 => k_is)
    (case k6 => k_is)
    (case a7 => k_is)
    (case l7 => k_is)
    (case c7 => k_is)
    (case k7 => k_is)
    (case a8 => k_is)
    (case l8 => k_is)
    (case c8 => k_is)
    (case k8 => k_is)
    (case a9 => k_is)
    (case l9 => k_is)
    (case c9 => k_is)
    (case k9 => k_is)
    (case a10 => k_is)
    (case l10 => k_is)
    (case c10 => k_is)
    (case k10 => k_is)
    (case a11 => k_is)
    (case l11 => k_is)
    (case c11 => k_is)
    (case k11 => k_is)
    (case a12 => k_is)
    (case l12 => k_is)
    (case c12 => k_is)
    (case k12 => k_is)
    (case a13 => k_is)
    (case l13 => k_is)
    (case c13 => k_is)
    (case k13 => k_is)
    (case a14 => k_is)
    (case l14 => k_is)
    (case c14 => k_is)
    (case k14 => k_is)
    (case a15 => k_is)
    (case l15 => k_is)
    (case c15 => k_is)
    (case k15 => k_is)
    (case a16 => k_is)
    (case l16 => k_is)
    (case c16 => k_is)
    (case k16 => k_is)
    (case a17 => k_is)
    (case l17 => k_is)
    (case c17 => k_is)
    (case k17 => k_is)
    (case a18 => k_is)
    (case l18 => k_is)
    (case c18 => k_is)
    (case k18 => k_is)
    (case a19 => k_is)
    (case l19 => k_is)
    (case c19 => k_is)
    (case k19 => k_is)
    (case a20 => k_is)
    (case l20 => k_is)
    (case c20 => k_is)
    (case k20 => k_is)
    (case a21 => k_is)
    (case l21 => k_is)
    (case c21 => k_is)
    (case k21 => k_is)
    (case a22 => k_is)
    (case l22 => k_is)
    (case c22 => k_is)
    (case k22 => k_is)
    (case a23 => k_is)
    (case l23 => k_is)
    (case c23 => k_is)
    (case k23 => k_is)
    (case a24 => k_is)
    (case l24 => k_is)
    (case c24 => k_is)
    (case k24 => k_is)
    (case a25 => k_is)
    (case l25 => k_is)
    (case c25 => k_is)
    (case k25 => k_is)
    (case a26 => k_is)
    (case l26 => k_is)
    (case c26 => k_is)
    (case k26 => k_is)
    (case a27 => k_is)
    (case l27 => k_is)
    (case c27 => k_is)
    (case k27 => k_is)
    (case a28 => k_is)
    (case l28 => k_is)
    (case c28 => k_is)
    (case k28 => k_is)
    (case a29 => k_is)
    (case l29 => k_is)
    (case c29 => k_is)
    (case k29 => k_is)
    (case a30 => k_is)
    (case l30 => k_is)
    (case c30 => k_is)
    (case k30 => k_is)
    (case a31 => k_is)
    (case l31 => k_is)
    (case c31 => k_is)
    (case k31 => k_is)
    (case a32 => k_is)
    (case l32 => k_is)
    (case c32 => k_is)
    (case k32 => k_is)
    (case a33 => k_is)
    (case l33 => k_is)
    (case c33 => k_is)
    (case k33 => k_is)
    (case a34 => k_is)
    (case l34 => k_is)
    (case c34 => k_is)
    (case k34 => k_is)
    (case a35 => k_is)
    (case i35 => k_is)
    (case l35 => k_is)
    (case c35 => k_is)
    (case k35 => k_is)
    (case a36 => k_is)
    (case i36 => k_is)
    (case l36 => k_is)
    (case c36 => k_is)
    (case k36 => k_is)
    (case a37 => k_is)
    (case i37 => k_is)
    (case l37 => k_is)
    (case c37 => k_is)
    (case k37 => k_is)
    (case pg => k_is)
    (case hd => k_is)
    (case po => k_is)
    (case sa => k_is)
    (case mk => k_is)
    (case kc => k_is)
    (case n_base => k_is)
    (case n_suits => k_is)
    (case n_prices => k_is)
    (case n_must_fill => k_is)
    (case n_paths => k_is)
    (case n_is_ring => k_is)
    (case z_isi => k_is)
    (case z_int => k_is)
    (case z_bool => k_is)
    (case z_tuple => k_is)
    (case z_len => k_is)
    (case z_list => k_is)
    (case z_set => k_is)
    (case z_sorted => k_is)
    (case z_range => k_is)
    (case z_enum => k_is)
    (case z_zip => k_is)
    (case z_min => k_is)
    (case z_max => k_is)
    (case z_sum => k_is)
    (case z_dict => k_is)
    (case z_str => k_is)
    (case z_cells => k_is)
    (case z_colour => k_is)
    (case z_ring => k_is)
    (case z_price => k_is)
end
