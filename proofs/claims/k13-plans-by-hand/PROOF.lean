import PyProof.Rows.All
import Wide.All
import OpenK.AllK
import Wide.FinOn
import HandS.ForMost
import HandS.Deep
import KE.DataEq
import HandS.Wide
import HandS.Style
import HandS.IsInst
import KE.KDictZip
import HandS.Dict
import HandS.Text
import HandS.Conv
import HandS.Walk
import PySem.Challenge.RW_mixminus_k13_plans_by_hand
set_option Elab.async false
set_option linter.all false
set_option maxRecDepth 100000
/-! Mx1: the judgements in the form of what they must give (w), frozen and owned things, data environments. -/
namespace Mx
open PySem PySem.Spec PyProof.Rows L2

/-! ### what a piece of syntax must give -/
section
variable (X : Cx)
def wE (e : Expr) : TE := fun σ H Q => ∀ pins s, Inv X pins σ H s → wpAny (model X.prog X.w) X.A (eval e X.env) (EP X pins σ Q) X.xe s
def wT (e : Expr) : TT := fun σ H Q => ∀ pins s, Inv X pins σ H s → wpAny (model X.prog X.w) X.A (isTrue e X.env (eval e X.env)) (TP X pins σ Q) X.xe s
def wW (e : Expr) : TT := fun σ H Q => ∀ whole pins s, Inv X pins σ H s → wpAny (model X.prog X.w) X.A (isTrue e X.env whole) (TP X pins σ Q) X.xe s
def wA (es : List Expr) : TA := fun σ H Q => ∀ pos pins s, Inv X pins σ H s → wpAny (model X.prog X.w) X.A (spliced (backTo pos (starEach es X.env))) (AP X pins σ Q) X.xe s
def wS (st : Stmt) : TS := fun D σ H => ∀ pins s, Inv X pins σ H s → wpAny (model X.prog X.w) X.A (exec st X.env) (SP X pins D) X.xe s
def wSs (st : List Stmt) : TS := fun D σ H => ∀ pins s, Inv X pins σ H s → wpAny (model X.prog X.w) X.A (execs st X.env) (SP X pins D) X.xe s
def wG (tg : Expr) : TG := fun v σ H Q => ∀ pins s u, Inv X pins σ H s → RelV v u → wpAny (model X.prog X.w) X.A (assign tg X.env u) (fun _ s' => ∃ σ' H', Inv X pins σ' H' s' ∧ Q σ' H') X.xe s
def wGs (ts : List Expr) : TGs := fun vs σ H Q => ∀ pins s us, Inv X pins σ H s → Vals vs us → wpAny (model X.prog X.w) X.A (assignInOrder ((assignEach ts X.env).map (·.2)) us) (fun _ s' => ∃ σ' H', Inv X pins σ' H' s' ∧ Q σ' H') X.xe s
def wI (tg iter : Expr) : TI := fun σ H R => ∀ pins s, Inv X pins σ H s →
    wpAny (model X.prog X.w) X.A (eval iter X.env) (fun v s1 => wpAny (model X.prog X.w) X.A (pyIter v) (PIE X pins σ tg R) X.xe s1) X.xe s
def wTs (ifs : List Expr) : TT := fun σ H Q => ∀ pins s, Inv X pins σ H s →
    wpAny (model X.prog X.w) X.A (forIn ifs true fun c r => if r = true then do let ok ← isTrue c X.env (eval c X.env); pure (ForInStep.yield ok) else pure (ForInStep.yield r)) (TP X pins σ Q) X.xe s
end
section
variable {X : Cx}
theorem pe_w {e : Expr} : PE X e (wE X e) := ⟨fun pins s _ _ _ I h => h pins s I⟩
theorem pt_w {e : Expr} : PT X e (wT X e) := ⟨fun pins s _ _ _ I h => h pins s I⟩
theorem pw_w {e : Expr} : PW X e (wW X e) := ⟨fun wh pins s _ _ _ I h => h wh pins s I⟩
theorem pa_w {e : List Expr} : PA X e (wA X e) := ⟨fun pos pins s _ _ _ I h => h pos pins s I⟩
theorem ps_w {e : Stmt} : PS X e (wS X e) := ⟨fun pins s _ _ _ I h => h pins s I⟩
theorem pss_w {e : List Stmt} : PSs X e (wSs X e) := ⟨fun pins s _ _ _ I h => h pins s I⟩
theorem pg_w {e : Expr} : PG X e (wG X e) := ⟨fun pins s _ _ _ u _ I r h => h pins s u I r⟩
theorem pgs_w {e : List Expr} : PGs X e (wGs X e) := ⟨fun pins s _ _ _ u _ I r h => h pins s u I r⟩
theorem pi_w {tg e : Expr} : PI X tg e (wI X tg e) := ⟨fun pins s _ _ _ I h => h pins s I⟩
theorem pts_w {e : List Expr} : PTs X e (wTs X e) := ⟨fun pins s _ _ _ I h => h pins s I⟩
variable {σ : L2.St} {H : Hp}
theorem PEw {e : Expr} {t : TE} {Q : VK} (h : PE X e t) (q : t σ H Q) : wE X e σ H Q := fun pins s I => h.run pins s σ H Q I q
theorem PTw {e : Expr} {t : TT} {Q : Bool → Hp → Prop} (h : PT X e t) (q : t σ H Q) : wT X e σ H Q := fun pins s I => h.run pins s σ H Q I q
theorem PWw {e : Expr} {t : TT} {Q : Bool → Hp → Prop} (h : PW X e t) (q : t σ H Q) : wW X e σ H Q := fun wh pins s I => h.run wh pins s σ H Q I q
theorem PAw {e : List Expr} {t : TA} {Q : List V → Hp → Prop} (h : PA X e t) (q : t σ H Q) : wA X e σ H Q := fun pos pins s I => h.run pos pins s σ H Q I q
theorem PSw {e : Stmt} {t : TS} {D : Ends} (h : PS X e t) (q : t D σ H) : wS X e D σ H := fun pins s I => h.run pins s σ H D I q
theorem PSsw {e : List Stmt} {t : TS} {D : Ends} (h : PSs X e t) (q : t D σ H) : wSs X e D σ H := fun pins s I => h.run pins s σ H D I q
theorem PGw {e : Expr} {t : TG} {v : V} {Q : L2.St → Hp → Prop} (h : PG X e t) (q : t v σ H Q) : wG X e v σ H Q := fun pins s u I r => h.run pins s σ H v u Q I r q
theorem PGsw {e : List Expr} {t : TGs} {v : List V} {Q : L2.St → Hp → Prop} (h : PGs X e t) (q : t v σ H Q) : wGs X e v σ H Q := fun pins s u I r => h.run pins s σ H v u Q I r q
theorem PIw {tg e : Expr} {t : TI} {R : It → Hp → Prop} (h : PI X tg e t) (q : t σ H R) : wI X tg e σ H R := fun pins s I => h.run pins s σ H R I q
theorem PTsw {e : List Expr} {t : TT} {Q : Bool → Hp → Prop} (h : PTs X e t) (q : t σ H Q) : wTs X e σ H Q := fun pins s I => h.run pins s σ H Q I q
end

/-! ### heaps that hold on to what they know -/
def Ex (H H' : Hp) : Prop := ∀ a o, H a = some o → H' a = some o
theorem Ex.refl (H : Hp) : Ex H H := fun _ _ h => h
theorem Ex.trans {H H1 H2 : Hp} (a : Ex H H1) (b : Ex H1 H2) : Ex H H2 := fun x o h => b x o (a x o h)
theorem Ex.new {H : Hp} {p : Addr} {o : HO} (h : H p = none) : Ex H (upd H p o) := fun a u e => by
  rw [upd_ne (ne_of_none e h)]
  exact e
theorem Ex.mut {H H' : Hp} {p : Addr} {o : HO} (e : Ex H H') (h : H p = none) : Ex H (upd H' p o) := fun a u ha => by
  rw [upd_ne (ne_of_none ha h)]
  exact e a u ha
theorem Ex.both {H H' : Hp} {p : Addr} {o : HO} (e : Ex H H') : Ex (upd H p o) (upd H' p o) := fun a u ha => by
  by_cases z : a = p
  · subst z; rw [upd_same] at ha ⊢; exact ha
  · rw [upd_ne z] at ha ⊢; exact e a u ha
theorem Ex.noneOf {H H' : Hp} {p : Addr} (e : Ex H H') (h : H' p = none) : H p = none := by
  cases h1 : H p with
  | none => rfl
  | some o => rw [e p o h1] at h; cases h
theorem Ex.someOf {H H' : Hp} {p : Addr} (e : Ex H H') (h : H p ≠ none) : H' p ≠ none := by
  cases h1 : H p with
  | none => exact absurd h1 h
  | some o => rw [e p o h1]; intro z; cases z
theorem sz_of {n : Nat} (h : n ≤ 100000) : n ≤ sizeLine := Nat.le_trans h (by decide)
theorem sz_lt {n : Nat} (h : n < 100000) : n < sizeLine := Nat.lt_of_lt_of_le h (by decide)

/-- F the frozen part of H grows to F' of H': by what is new in H' alone -/
structure Grow (F H F' H' : Hp) : Prop where
  ff : Ex F F'
  hh : Ex H H'
  fh : Ex F' H'
  fr : ∀ a, H a ≠ none → F' a = F a
theorem Grow.refl {F H : Hp} (e : Ex F H) : Grow F H F H := ⟨Ex.refl F, Ex.refl H, e, fun _ _ => rfl⟩
theorem Grow.trans {F H F1 H1 F2 H2 : Hp} (a : Grow F H F1 H1) (b : Grow F1 H1 F2 H2) : Grow F H F2 H2 :=
  ⟨a.ff.trans b.ff, a.hh.trans b.hh, b.fh, fun x h => (b.fr x (Ex.someOf a.hh h)).trans (a.fr x h)⟩
/-- something new that is frozen at once; that is not -/
theorem Grow.new {F H F1 H1 : Hp} {p : Addr} {o : HO} (g : Grow F H F1 H1) (h : H1 p = none) : Grow F H (upd F1 p o) (upd H1 p o) :=
  ⟨g.ff.trans (Ex.new (Ex.noneOf g.fh h)), g.hh.trans (Ex.new h), g.fh.both, fun x hx => by
    rw [upd_ne (fun z => by subst z; exact Ex.someOf g.hh hx h)]
    exact g.fr x hx⟩
theorem Grow.loose {F H F1 H1 : Hp} {p : Addr} {o : HO} (g : Grow F H F1 H1) (h : H1 p = none) : Grow F H F1 (upd H1 p o) :=
  ⟨g.ff, g.hh.trans (Ex.new h), g.fh.trans (Ex.new h), g.fr⟩
/-- of a smaller frozen part: the union -/
def cup (F G : Hp) : Hp := fun a => match F a with | some o => some o | none => G a
theorem cup_l {F G : Hp} : Ex F (cup F G) := fun a o h => by unfold cup; rw [h]
theorem cup_none {F G : Hp} {a : Addr} (h : F a = none) : cup F G a = G a := by unfold cup; rw [h]
theorem Grow.cup {F F0 H G H' : Hp} (g : Grow F H G H') (e0 : Ex F F0) (eH : Ex F0 H) : Grow F0 H (cup F0 G) H' ∧ Ex G (cup F0 G) := by
  have e1 : Ex F0 H' := eH.trans g.hh
  have e2 : Ex (Mx.cup F0 G) H' := fun a o h => by
    unfold Mx.cup at h
    cases q : F0 a with
    | some u => rw [q] at h; exact e1 a o (q.trans h)
    | none => rw [q] at h; exact g.fh a o h
  refine ⟨⟨cup_l, g.hh, e2, fun a h => ?_⟩, fun a o h => ?_⟩
  · cases q : F0 a with
    | some u => unfold Mx.cup; rw [q]
    | none => rw [cup_none q, g.fr a h]; exact Ex.noneOf e0 q
  · cases q : F0 a with
    | some u =>
      unfold Mx.cup; rw [q]
      have z := e1 a u q
      rw [g.fh a o h] at z
      exact z.symm
    | none => rw [cup_none q]; exact h

/-! ### data that stands in a heap -/
mutual
inductive Dv (F : Hp) : V → PyData → Prop
  | non : Dv F .non .none
  | bl (b : Bool) : Dv F (.bl b) (.bool b)
  | int (i : Int) : Dv F (.int i) (.int i)
  | str (x : Str) : Dv F (.str x) (.str x)
  | lst {a : Addr} {xs : List V} {ds : List PyData} : F a = some (.lst xs) → DvAll F xs ds → Dv F (.ref a) (.list ds)
  | tup {a : Addr} {xs : List V} {ds : List PyData} : F a = some (.tup xs) → DvAll F xs ds → Dv F (.ref a) (.tuple ds)
  | dct {a : Addr} : F a = some (.dK []) → Dv F (.ref a) (.dict [])
inductive DvAll (F : Hp) : List V → List PyData → Prop
  | nil : DvAll F [] []
  | cons {v : V} {vs : List V} {d : PyData} {ds : List PyData} : Dv F v d → DvAll F vs ds → DvAll F (v :: vs) (d :: ds)
end
mutual
theorem Dv.mono {F G : Hp} (e : Ex F G) : ∀ {v : V} {d : PyData}, Dv F v d → Dv G v d
  | _, _, .non => .non
  | _, _, .bl b => .bl b
  | _, _, .int i => .int i
  | _, _, .str x => .str x
  | _, _, .lst h r => .lst (e _ _ h) (DvAll.mono e r)
  | _, _, .tup h r => .tup (e _ _ h) (DvAll.mono e r)
  | _, _, .dct h => .dct (e _ _ h)
theorem DvAll.mono {F G : Hp} (e : Ex F G) : ∀ {vs : List V} {ds : List PyData}, DvAll F vs ds → DvAll G vs ds
  | _, _, .nil => .nil
  | _, _, .cons a b => .cons (Dv.mono e a) (DvAll.mono e b)
end
theorem DvAll.length {F : Hp} : ∀ {vs : List V} {ds : List PyData}, DvAll F vs ds → vs.length = ds.length
  | _, _, .nil => rfl
  | _, _, .cons _ r => by rw [List.length_cons, List.length_cons, r.length]
theorem DvAll.get {F : Hp} : ∀ {vs : List V} {ds : List PyData} {i : Nat} {d : PyData}, DvAll F vs ds → ds[i]? = some d → ∃ v, vs[i]? = some v ∧ Dv F v d
  | _, _, _, _, .nil, e => by simp at e
  | _, _, 0, _, .cons r _, e => by simp at e; subst e; exact ⟨_, rfl, r⟩
  | _, _, i + 1, d, .cons _ t, e => by
    obtain ⟨u, h1, h2⟩ := DvAll.get (i := i) (d := d) t (by simpa using e)
    exact ⟨u, by simpa using h1, h2⟩
theorem DvAll.getV {F : Hp} : ∀ {vs : List V} {ds : List PyData} {i : Nat} {v : V}, DvAll F vs ds → vs[i]? = some v → ∃ d, ds[i]? = some d ∧ Dv F v d
  | _, _, _, _, .nil, e => by simp at e
  | _, _, 0, _, .cons r _, e => by simp at e; subst e; exact ⟨_, rfl, r⟩
  | _, _, i + 1, d, .cons _ t, e => by
    obtain ⟨u, h1, h2⟩ := DvAll.getV (i := i) (v := d) t (by simpa using e)
    exact ⟨u, by simpa using h1, h2⟩
theorem DvAll.append {F : Hp} : ∀ {xs ys : List V} {ds es : List PyData}, DvAll F xs ds → DvAll F ys es → DvAll F (xs ++ ys) (ds ++ es)
  | _, _, _, _, .nil, s => s
  | _, _, _, _, .cons r t, s => .cons r (DvAll.append t s)
theorem DvAll.take {F : Hp} : ∀ {xs : List V} {ds : List PyData} (n : Nat), DvAll F xs ds → DvAll F (xs.take n) (ds.take n)
  | _, _, 0, _ => .nil
  | _, _, _ + 1, .nil => .nil
  | _, _, n + 1, .cons r t => .cons r (DvAll.take n t)
theorem DvAll.drop {F : Hp} : ∀ {xs : List V} {ds : List PyData} (n : Nat), DvAll F xs ds → DvAll F (xs.drop n) (ds.drop n)
  | _, _, 0, r => r
  | _, _, _ + 1, .nil => .nil
  | _, _, n + 1, .cons _ t => DvAll.drop n t
theorem DvAll.set {F : Hp} {x : V} {u : PyData} (r : Dv F x u) : ∀ {xs : List V} {us : List PyData} (i : Nat), DvAll F xs us → DvAll F (xs.set i x) (us.set i u)
  | _, _, _, .nil => .nil
  | _, _, 0, .cons _ t => .cons r t
  | _, _, i + 1, .cons q t => .cons q (DvAll.set r i t)
theorem DvAll.ints {F : Hp} : ∀ {vs : List V} {ns : List Int}, DvAll F vs (ns.map .int) → vs = ns.map V.int
  | _, [], .nil => rfl
  | _, _ :: _, .cons (.int _) t => by rw [List.map_cons, DvAll.ints t]
theorem DvAll.strs {F : Hp} : ∀ {vs : List V} {ns : List Str}, DvAll F vs (ns.map .str) → vs = ns.map V.str
  | _, [], .nil => rfl
  | _, _ :: _, .cons (.str _) t => by rw [List.map_cons, DvAll.strs t]
theorem DvAll.bls {F : Hp} : ∀ {vs : List V} {ns : List Bool}, DvAll F vs (ns.map .bool) → vs = ns.map V.bl
  | _, [], .nil => rfl
  | _, _ :: _, .cons (.bl _) t => by rw [List.map_cons, DvAll.bls t]
theorem DvAll.ofInts {F : Hp} : ∀ (ns : List Int), DvAll F (ns.map V.int) (ns.map .int)
  | [] => .nil
  | i :: r => .cons (.int i) (DvAll.ofInts r)
theorem DvAll.ofStrs {F : Hp} : ∀ (ns : List Str), DvAll F (ns.map V.str) (ns.map .str)
  | [] => .nil
  | i :: r => .cons (.str i) (DvAll.ofStrs r)
theorem Dv.eint {F : Hp} {v : V} {i : Int} (h : Dv F v (.int i)) : v = .int i := by cases h; rfl
theorem Dv.ebl {F : Hp} {v : V} {i : Bool} (h : Dv F v (.bool i)) : v = .bl i := by cases h; rfl
theorem Dv.estr {F : Hp} {v : V} {i : Str} (h : Dv F v (.str i)) : v = .str i := by cases h; rfl
theorem Dv.enon {F : Hp} {v : V} (h : Dv F v .none) : v = .non := by cases h; rfl
theorem Dv.elst {F : Hp} {v : V} {ds : List PyData} (h : Dv F v (.list ds)) : ∃ a xs, v = .ref a ∧ F a = some (.lst xs) ∧ DvAll F xs ds := by cases h with | lst a b => exact ⟨_, _, rfl, a, b⟩
theorem Dv.etup {F : Hp} {v : V} {ds : List PyData} (h : Dv F v (.tuple ds)) : ∃ a xs, v = .ref a ∧ F a = some (.tup xs) ∧ DvAll F xs ds := by cases h with | tup a b => exact ⟨_, _, rfl, a, b⟩
/-- a thing without a place -/
def flatD : PyData → Bool
  | .none => true
  | .bool _ => true
  | .int _ => true
  | .str _ => true
  | _ => false
theorem Dv.flat {F G : Hp} {v : V} {d : PyData} (h : Dv F v d) (f : flatD d = true) : Dv G v d := by
  cases h <;> first | (cases f; done) | constructor
mutual
theorem Dv.dp {F : Hp} {K : PySem.W.Frag} : ∀ {v : V} {d : PyData}, Dv F v d → d.plain = true → Dp K F v d
  | _, _, .non, _ => .non
  | _, _, .bl b, _ => .bl b
  | _, _, .int i, _ => .int i
  | _, _, .str x, _ => .str x
  | _, .list ds, .lst h r, s => .lst (.inl (.inl h)) (DvAll.dp r (by simpa [PyData.plain] using s))
  | _, .tuple ds, .tup h r, s => .tup (.inl (.inl h)) (DvAll.dp r (by simpa [PyData.plain] using s))
  | _, _, .dct _, s => by simp [PyData.plain] at s
theorem DvAll.dp {F : Hp} {K : PySem.W.Frag} : ∀ {vs : List V} {ds : List PyData}, DvAll F vs ds → PyData.plainAll ds = true → DpAll K F vs ds
  | _, _, .nil, _ => .nil
  | _, _, .cons a b, s => by
    have s' := s
    simp [PyData.plainAll] at s'
    exact .cons (Dv.dp a s'.1) (DvAll.dp b s'.2)
end
/-! ### == and in, of data without dicts -/
/-- plain and not deep -/
def Pl (d : PyData) : Prop := d.plain = true ∧ d.depth ≤ 50
section
variable {X : Cx}
def rEqP (K : PySem.W.Frag) : R2 := fun x y H Q => ∃ d e, Dp K H x d ∧ Dp K H y e ∧ Pl d ∧ Pl e ∧ Q (.bl (PyData.eqv d e)) H
def rNeP (K : PySem.W.Frag) : R2 := fun x y H Q => ∃ d e, Dp K H x d ∧ Dp K H y e ∧ Pl d ∧ Pl e ∧ Q (.bl (!PyData.eqv d e)) H
theorem op_eqP (hu : X.A.units + 64 < cLine) : OpR X (compareOp .Eq) (rEqP X.K) := by
  intro pins s σ H x y v u Q I rx ry h
  obtain ⟨d, e, hd, he, sd, se, q⟩ := h
  obtain ⟨as, r1⟩ := Dp.reads I d x v hd rx
  obtain ⟨bs, r2⟩ := Dp.reads I e y u he ry
  have m : min d.depth e.depth ≤ d.depth := Nat.min_le_left _ _
  have := sd.2
  exact SeqAt.eq_plain r1 r2 sd.1 se.1 (by omega) ⟨.bl _, H, I, rfl, q⟩
theorem op_neP (hu : X.A.units + 64 < cLine) : OpR X (compareOp .NotEq) (rNeP X.K) := by
  intro pins s σ H x y v u Q I rx ry h
  obtain ⟨d, e, hd, he, sd, se, q⟩ := h
  obtain ⟨as, r1⟩ := Dp.reads I d x v hd rx
  obtain ⟨bs, r2⟩ := Dp.reads I e y u he ry
  have m : min d.depth e.depth ≤ d.depth := Nat.min_le_left _ _
  have := sd.2
  exact SeqAt.ne_plain r1 r2 sd.1 se.1 (by omega) ⟨.bl _, H, I, rfl, q⟩
def rInP (K : PySem.W.Frag) : R2 := fun x y H Q => ∃ d ds, Dp K H x d ∧ (Dp K H y (.list ds) ∨ Dp K H y (.tuple ds)) ∧ Pl d ∧ PyData.plainAll ds = true ∧ Q (.bl (ds.any fun z => PyData.eqv z d)) H
def rNotInP (K : PySem.W.Frag) : R2 := fun x y H Q => ∃ d ds, Dp K H x d ∧ (Dp K H y (.list ds) ∨ Dp K H y (.tuple ds)) ∧ Pl d ∧ PyData.plainAll ds = true ∧ Q (.bl (!ds.any fun z => PyData.eqv z d)) H
theorem op_inP (hu : X.A.units + 64 < cLine) : OpR X (compareOp .In) (rInP X.K) := by
  intro pins s σ H x y v u Q I rx ry h
  obtain ⟨d, ds, hd, he, sd, se, q⟩ := h
  obtain ⟨as, r1⟩ := Dp.reads I d x v hd rx
  have m : min (PyData.depthAll ds) d.depth ≤ d.depth := Nat.min_le_right _ _
  have := sd.2
  rcases he with he | he
  · obtain ⟨bs, r2⟩ := Dp.reads I (.list ds) y u he ry
    exact SeqAt.in_list_data r2 r1 se sd.1 (by omega) ⟨.bl _, H, I, rfl, q⟩
  · obtain ⟨bs, r2⟩ := Dp.reads I (.tuple ds) y u he ry
    exact SeqAt.in_tuple_data r2 r1 se sd.1 (by omega) ⟨.bl _, H, I, rfl, q⟩
theorem op_notInP (hu : X.A.units + 64 < cLine) : OpR X (compareOp .NotIn) (rNotInP X.K) := by
  intro pins s σ H x y v u Q I rx ry h
  obtain ⟨d, ds, hd, he, sd, se, q⟩ := h
  obtain ⟨as, r1⟩ := Dp.reads I d x v hd rx
  have m : min (PyData.depthAll ds) d.depth ≤ d.depth := Nat.min_le_right _ _
  have := sd.2
  rcases he with he | he
  · obtain ⟨bs, r2⟩ := Dp.reads I (.list ds) y u he ry
    exact SeqAt.notIn_list_data r2 r1 se sd.1 (by omega) ⟨.bl _, H, I, rfl, q⟩
  · obtain ⟨bs, r2⟩ := Dp.reads I (.tuple ds) y u he ry
    exact SeqAt.notIn_tuple_data r2 r1 se sd.1 (by omega) ⟨.bl _, H, I, rfl, q⟩
end

/-! ### no stars -/
def isStar : Expr → Bool
  | .Starred _ _ => true
  | _ => false
theorem star_cons {e : Expr} {es : List Expr} {env : Env} (h : isStar e = false) : starEach (e :: es) env = (false, eval e env) :: starEach es env := by
  cases e <;> first | rfl | (cases h; done)
theorem star_one {e : Expr} {env : Env} (h : isStar e = false) : starEach [e] env = [(false, eval e env)] := star_cons h
theorem star_two {a b : Expr} {env : Env} (h : isStar a = false) (h' : isStar b = false) : starEach [a, b] env = [(false, eval a env), (false, eval b env)] := by rw [star_cons h, star_one h']
theorem star_none {pos : Pos} {env : Env} : ∀ {es : List Expr}, es.all (fun e => !isStar e) = true → (backTo pos (starEach es env)).any (·.1) = false
  | [], _ => rfl
  | e :: es, h => by
    rw [List.all_cons, Bool.and_eq_true] at h
    rw [star_cons (by simpa using h.1)]
    show (false || (backTo pos (starEach es env)).any (·.1)) = false
    rw [star_none h.2]
    rfl
theorem star_few {pc : Pos} {e : Expr} {env : Env} (h : isStar e = false) : ((backTo pc (starEach [e] env)).all (fun x => !x.1) && (backToKw pc (keywordEach [] env)).all (fun x => x.1.isSome)
      && decide ([e].length + ([] : List Keyword).length + (if ([] : List Keyword).isEmpty then 0 else 1) < 30)) = true := by
  rw [star_one h]
  rfl
theorem asg_cons {e : Expr} {es : List Expr} {env : Env} (h : isStar e = false) : (assignEach (e :: es) env).map (·.2) = assign e env :: (assignEach es env).map (·.2) := by
  cases e <;> first | rfl | (cases h; done)
theorem asg_one {e : Expr} {env : Env} (h : isStar e = false) : (assignEach [e] env).map (·.2) = [assign e env] := by
  cases e <;> first | rfl | (cases h; done)
theorem asg_len {env : Env} : ∀ {es : List Expr}, (assignEach es env).length = es.length
  | [] => rfl
  | e :: es => by
    have ih := asg_len (env := env) (es := es)
    cases e <;> exact congrArg (· + 1) ih
theorem asg_none {env : Env} : ∀ {es : List Expr}, es.all (fun e => !isStar e) = true → (assignEach es env).findIdx? (·.1) = none
  | [], _ => rfl
  | e :: es, h => by
    rw [List.all_cons, Bool.and_eq_true] at h
    have ih := asg_none (env := env) h.2
    have q : assignEach (e :: es) env = (false, assign e env) :: assignEach es env := by
      have h1 := h.1
      cases e <;> first | rfl | (simp [isStar] at h1; done)
    rw [q, List.findIdx?_cons]
    simp [ih]
theorem abase {o : Expr} {f : Str} {env : Env} (h : (match o with | .Call _ [] [] _ => false | _ => true) = true) : attributeBase o f env (eval o env) = eval o env := by
  unfold attributeBase
  split
  · simp at h
  · rfl
/-- no comprehension as such -/
def isComp : Expr → Bool
  | .ListComp _ _ _ _ => true
  | .SetComp _ _ _ _ => true
  | .DictComp _ _ _ _ _ => true
  | _ => false
theorem swaps_no {e : Expr} {t : Option Expr} {l : Nat} {env : Env} (h : isComp e = false) : swapsWith e t l env = pure false := by
  cases e <;> first | rfl | (cases h; done)

/-! ### names, asked of the kernel at once -/
def nameOk (sc : Scope) (x : Str) : Bool := (match sc.names.lookup x with | some .local => true | some .cell => true | some .free => true | _ => false) && (!(x == ("__debug__" : Str)) && !(x == ("__classdict__" : Str)))
theorem nameOk_vis {sc : Scope} {x : Str} (h : nameOk sc x = true) : Vis sc x := by
  unfold nameOk at h
  rw [Bool.and_eq_true] at h
  have h1 := h.1
  split at h1 <;> rename_i q
  · exact .inl q
  · exact .inr (.inl q)
  · exact .inr (.inr q)
  · cases h1
theorem nameOk_d {sc : Scope} {x : Str} (h : nameOk sc x = true) : (x == ("__debug__" : Str)) = false := by
  unfold nameOk at h
  simp only [Bool.and_eq_true, Bool.not_eq_true'] at h
  exact h.2.1
theorem nameOk_c {sc : Scope} {x : Str} (h : nameOk sc x = true) : (x == ("__classdict__" : Str)) = false := by
  unfold nameOk at h
  simp only [Bool.and_eq_true, Bool.not_eq_true'] at h
  exact h.2.2
def storeOk (sc : Scope) (fn : Bool) (x : Str) : Bool := match sc.names.lookup x with | some .local => true | some .cell => fn | _ => false
theorem storeOk_loc {sc : Scope} {x : Str} {fn : Bool} (h : storeOk sc fn x = true) : Loc sc x := by
  unfold storeOk at h
  split at h <;> rename_i q
  · exact .inl q
  · exact .inr q
  · cases h
theorem storeOk_fn {sc : Scope} {x : Str} {fn : Bool} (h : storeOk sc fn x = true) : fn = true ∨ sc.names.lookup x = some .local := by
  unfold storeOk at h
  split at h <;> rename_i q
  · exact .inr q
  · exact .inl h
  · cases h
def globOk (x : Str) : Bool := !(decide (x = ("__name__" : Str))) && !(x == ("__debug__" : Str))
theorem globOk_n {x : Str} (h : globOk x = true) : x ≠ ("__name__" : Str) := by
  unfold globOk at h
  simp only [Bool.and_eq_true, Bool.not_eq_true', decide_eq_false_iff_not] at h
  exact h.1
theorem globOk_d {x : Str} (h : globOk x = true) : (x == ("__debug__" : Str)) = false := by
  unfold globOk at h
  simp only [Bool.and_eq_true, Bool.not_eq_true'] at h
  exact h.2
theorem gl_of {X : Cx} {x : Str} (h : X.env.kindOf x = some .globalImplicit) : Gl X x := h
end Mx

set_option Elab.async false
set_option linter.all false
set_option maxRecDepth 100000
/-! Mx2: data environments. -/
namespace Mx
open PySem PySem.Spec PyProof.Rows L2

/-- a thing of one's own: what holds of it, by the frozen heap, the heap, its value, its places -/
structure Own where
  holds : Hp → Hp → V → List Addr → Prop
  mono : ∀ {F F' H H' : Hp} {v : V} {as : List Addr}, holds F H v as → Ex F F' → (∀ a ∈ as, H' a = H a) → (∀ a ∈ as, F' a = none) → holds F' H' v as

inductive Slot where
  | un
  | da (d : PyData)
  | ow (ds : List PyData)
  | scr (ns : List Int)
  | ext (O : Own)

def SlotOk (K : PySem.W.Frag) (F H : Hp) (o : Option V) : Slot → List Addr → Prop
  | .un, as => as = []
  | .da d, as => as = [] ∧ ∃ v, o = some v ∧ Dv F v d
  | .ow ds, as => ∃ a vs, as = [a] ∧ o = some (.ref a) ∧ H a = some (.lst vs) ∧ DvAll F vs ds
  | .scr ns, as => as = [] ∧ ∃ a, o = some (.ref a) ∧ SqL K F a (ns.map V.int)
  | .ext O, as => ∃ v, o = some v ∧ O.holds F H v as

theorem sql_mono {K : PySem.W.Frag} {F G : Hp} {a : Addr} {xs : List V} (e : Ex F G) (h : SqL K F a xs) : SqL K G a xs := by
  rcases h with (h | ⟨o, h⟩) | h
  · exact .inl (.inl (e _ _ h))
  · exact .inl (.inr ⟨o, e _ _ h⟩)
  · exact .inr h

theorem SlotOk.mono {K : PySem.W.Frag} {F F' H H' : Hp} {o : Option V} {s : Slot} {as : List Addr} (h : SlotOk K F H o s as) (e : Ex F F') (k : ∀ a ∈ as, H' a = H a) (n : ∀ a ∈ as, F' a = none) : SlotOk K F' H' o s as := by
  cases s with
  | un => exact h
  | da d => obtain ⟨h1, v, h2, h3⟩ := h; exact ⟨h1, v, h2, h3.mono e⟩
  | ow ds =>
    obtain ⟨a, vs, rfl, h2, h3, h4⟩ := h
    exact ⟨a, vs, rfl, h2, (k a (by simp)).trans h3, h4.mono e⟩
  | scr ns => obtain ⟨h1, a, h2, h3⟩ := h; exact ⟨h1, a, h2, sql_mono e h3⟩
  | ext O => obtain ⟨v, h2, h3⟩ := h; exact ⟨v, h2, O.mono h3 e k n⟩

def at' (σ : L2.St) (i : Nat) : Option V := (σ[i]?).join
theorem at_get {σ : L2.St} {i : Nat} {v : V} (h : at' σ i = some v) : σ[i]? = some (some v) := by
  unfold at' at h
  cases e : σ[i]? with
  | none => rw [e] at h; cases h
  | some o => rw [e] at h; cases o with
    | none => cases h
    | some u => cases h; rfl
theorem at_set_same {σ : L2.St} {i : Nat} {o : Option V} (h : i < σ.length) : at' (σ.set i o) i = o := by
  unfold at'
  rw [List.getElem?_set_self h]
  rfl
theorem at_set_ne {σ : L2.St} {i j : Nat} {o : Option V} (h : i ≠ j) : at' (σ.set i o) j = at' σ j := by
  unfold at'
  rw [List.getElem?_set_ne h]

abbrev Env' := List Slot

/-- the slots are as the data environment says; B: what must stay; F0: what was frozen of it -/
structure Sl (K : PySem.W.Frag) (B F0 F H : Hp) (σ : L2.St) (ρ : Env') : Prop where
  ex : Ex F H
  kb : Ex B H
  kf : ∀ a, B a ≠ none → F a = F0 a
  len : σ.length = ρ.length
  fp : ∃ fp : Nat → List Addr, (∀ i j a, a ∈ fp i → a ∈ fp j → i = j) ∧ (∀ i a, a ∈ fp i → F a = none ∧ B a = none ∧ H a ≠ none) ∧ ∀ i s, ρ[i]? = some s → SlotOk K F H (at' σ i) s (fp i)

section
variable {K : PySem.W.Frag} {B F0 F H G H' : Hp} {σ : L2.St} {ρ : Env'}
theorem Sl.grow (S : Sl K B F0 F H σ ρ) (g : Grow F H G H') : Sl K B F0 G H' σ ρ := by
  obtain ⟨fp, f1, f2, f3⟩ := S.fp
  have z : ∀ i a, a ∈ fp i → G a = none := fun i a h => by rw [g.fr a (f2 i a h).2.2]; exact (f2 i a h).1
  refine ⟨g.fh, S.kb.trans g.hh, fun a h => (g.fr a (Ex.someOf S.kb h)).trans (S.kf a h), S.len, fp, f1, fun i a h => ⟨z i a h, (f2 i a h).2.1, Ex.someOf g.hh (f2 i a h).2.2⟩, fun i s e => (f3 i s e).mono g.ff (fun a h => ?_) (z i)⟩
  have q := (f2 i a h).2.2
  cases e1 : H a with
  | none => exact absurd e1 q
  | some o => exact g.hh a o e1
/-- other places for one slot -/
def pick (i : Nat) (as : List Addr) (fp : Nat → List Addr) : Nat → List Addr := fun k => if k = i then as else fp k
theorem pick_same {i : Nat} {as : List Addr} {fp : Nat → List Addr} : pick i as fp i = as := by unfold pick; rw [if_pos rfl]
theorem pick_ne {i k : Nat} {as : List Addr} {fp : Nat → List Addr} (h : k ≠ i) : pick i as fp k = fp k := by unfold pick; rw [if_neg h]
/-- one slot anew -/
theorem Sl.build {F' H' : Hp} {σ' : L2.St} {s : Slot} {as : List Addr} {fp : Nat → List Addr} (i : Nat) (ex : Ex F' H') (kb : Ex B H') (kf : ∀ a, B a ≠ none → F' a = F0 a) (len : σ'.length = ρ.length)
    (f1 : ∀ i j a, a ∈ fp i → a ∈ fp j → i = j) (f2 : ∀ j a, j ≠ i → a ∈ fp j → F' a = none ∧ B a = none ∧ H' a ≠ none) (dis : ∀ j a, j ≠ i → a ∈ as → a ∉ fp j) (n : ∀ a ∈ as, F' a = none ∧ B a = none ∧ H' a ≠ none)
    (f3 : ∀ j s, j ≠ i → ρ[j]? = some s → SlotOk K F' H' (at' σ' j) s (fp j)) (hi : i < ρ.length → SlotOk K F' H' (at' σ' i) s as) : Sl K B F0 F' H' σ' (ρ.set i s) := by
  refine ⟨ex, kb, kf, by rw [List.length_set]; exact len, pick i as fp, fun j k a hj hk => ?_, fun j a hj => ?_, fun j t e => ?_⟩
  · by_cases e1 : j = i
    · by_cases e2 : k = i
      · rw [e1, e2]
      · rw [e1, pick_same] at hj; rw [pick_ne e2] at hk; exact absurd hk (dis k a e2 hj)
    · by_cases e2 : k = i
      · rw [pick_ne e1] at hj; rw [e2, pick_same] at hk; exact absurd hj (dis j a e1 hk)
      · rw [pick_ne e1] at hj; rw [pick_ne e2] at hk; exact f1 j k a hj hk
  · by_cases e1 : j = i
    · rw [e1, pick_same] at hj; exact n a hj
    · rw [pick_ne e1] at hj; exact f2 j a e1 hj
  · by_cases e1 : j = i
    · subst e1
      have hl : j < ρ.length := by
        have q := (List.getElem?_eq_some_iff.mp e).1
        rwa [List.length_set] at q
      rw [List.getElem?_set_self hl] at e
      cases e
      rw [pick_same]
      exact hi hl
    · rw [List.getElem?_set_ne (Ne.symm e1)] at e
      rw [pick_ne e1]
      exact f3 j t e1 e
/-- a fresh thing -/
theorem Sl.setNew {s : Slot} {v : V} {as : List Addr} (S : Sl K B F0 F H σ ρ) (g : Grow F H G H') (i : Nat) (h : SlotOk K G H' (some v) s as) (n : ∀ a ∈ as, H a = none ∧ G a = none ∧ H' a ≠ none) : Sl K B F0 G H' (σ.set i (some v)) (ρ.set i s) := by
  have S' := S.grow g
  obtain ⟨fp, f1, f2, f3⟩ := S.fp
  have z : ∀ i a, a ∈ fp i → G a = none := fun i a h => by rw [g.fr a (f2 i a h).2.2]; exact (f2 i a h).1
  refine Sl.build (as := as) (fp := fp) i S'.ex S'.kb S'.kf (by rw [List.length_set]; exact S.len) f1 (fun j a _ hj => ⟨z j a hj, (f2 j a hj).2.1, Ex.someOf g.hh (f2 j a hj).2.2⟩) (fun j a _ ha hf => (f2 j a hf).2.2 (n a ha).1)
    (fun a ha => ⟨(n a ha).2.1, Ex.noneOf S.kb (n a ha).1, (n a ha).2.2⟩) (fun j t e1 e => ?_) (fun hl => by rw [at_set_same (by rw [S.len]; exact hl)]; exact h)
  rw [at_set_ne (Ne.symm e1)]
  refine (f3 j t e).mono g.ff (fun a h => ?_) (z j)
  have q := (f2 j a h).2.2
  cases e2 : H a with
  | none => exact absurd e2 q
  | some o => exact g.hh a o e2
theorem Sl.setDa {d : PyData} {v : V} (S : Sl K B F0 F H σ ρ) (i : Nat) (h : Dv F v d) : Sl K B F0 F H (σ.set i (some v)) (ρ.set i (.da d)) :=
  S.setNew (Grow.refl S.ex) i (as := []) ⟨rfl, v, rfl, h⟩ fun _ h => nomatch h
theorem Sl.setUn (S : Sl K B F0 F H σ ρ) (i : Nat) (v : Option V) : Sl K B F0 F H (σ.set i v) (ρ.set i .un) := by
  obtain ⟨fp, f1, f2, f3⟩ := S.fp
  refine Sl.build (as := []) (fp := fp) i S.ex S.kb S.kf (by rw [List.length_set]; exact S.len) f1 (fun j a _ hj => f2 j a hj) (fun _ _ _ h => nomatch h) (fun _ h => nomatch h) (fun j t e1 e => ?_) fun _ => rfl
  rw [at_set_ne (Ne.symm e1)]
  exact f3 j t e
/-- a slot is forgotten -/
theorem Sl.drop (S : Sl K B F0 F H σ ρ) (i : Nat) : Sl K B F0 F H σ (ρ.set i .un) := by
  obtain ⟨fp, f1, f2, f3⟩ := S.fp
  exact Sl.build (as := []) (fp := fp) i S.ex S.kb S.kf S.len f1 (fun j a _ hj => f2 j a hj) (fun _ _ _ h => nomatch h) (fun _ h => nomatch h) (fun j t _ e => f3 j t e) fun _ => rfl
theorem Sl.da {i : Nat} {d : PyData} (S : Sl K B F0 F H σ ρ) (h : ρ[i]? = some (.da d)) : ∃ v, σ[i]? = some (some v) ∧ Dv F v d := by
  obtain ⟨fp, f1, f2, f3⟩ := S.fp
  obtain ⟨_, v, h2, h3⟩ := f3 i _ h
  exact ⟨v, at_get h2, h3⟩
theorem Sl.ow {i : Nat} {ds : List PyData} (S : Sl K B F0 F H σ ρ) (h : ρ[i]? = some (.ow ds)) : ∃ a vs, σ[i]? = some (some (.ref a)) ∧ H a = some (.lst vs) ∧ DvAll F vs ds ∧ F a = none := by
  obtain ⟨fp, f1, f2, f3⟩ := S.fp
  obtain ⟨a, vs, h1, h2, h3, h4⟩ := f3 i _ h
  exact ⟨a, vs, at_get h2, h3, h4, (f2 i a (by rw [h1]; simp)).1⟩
/-- what is owned at i changes -/
theorem Sl.owMut {i : Nat} {ds ds' : List PyData} {a : Addr} {vs' : List V} (S : Sl K B F0 F H σ ρ) (h : ρ[i]? = some (.ow ds)) (ha : σ[i]? = some (some (.ref a))) (hd : DvAll F vs' ds') : Sl K B F0 F (upd H a (.lst vs')) σ (ρ.set i (.ow ds')) := by
  obtain ⟨fp, f1, f2, f3⟩ := S.fp
  obtain ⟨a', vs, h1, h2, h3, h4⟩ := f3 i _ h
  have ea : a' = a := by
    have q := at_get h2
    rw [q] at ha
    cases ha
    rfl
  subst ea
  have hm : a' ∈ fp i := by rw [h1]; simp
  obtain ⟨n1, n2, n3⟩ := f2 i a' hm
  have ne : ∀ j b, j ≠ i → b ∈ fp j → b ≠ a' := fun j b hj hb e => by subst e; exact hj (f1 j i b hb hm)
  refine Sl.build (as := fp i) (fp := fp) i (S.ex.mut n1) (S.kb.mut n2) S.kf S.len f1 (fun j b hj hb => ⟨(f2 j b hb).1, (f2 j b hb).2.1, by rw [upd_ne (ne j b hj hb)]; exact (f2 j b hb).2.2⟩) (fun j b hj hb hb' => hj (f1 j i b hb' hb))
    (fun b hb => ?_) (fun j t e1 e => (f3 j t e).mono (Ex.refl F) (fun b hb => upd_ne (ne j b e1 hb)) fun b hb => (f2 j b hb).1) fun _ => ⟨a', vs', h1, h2, upd_same, hd⟩
  rw [h1] at hb
  have e : b = a' := by simpa using hb
  subst e
  exact ⟨n1, n2, by rw [upd_same]; intro z; cases z⟩
/-- what is owned at i is frozen -/
theorem Sl.freeze {i : Nat} {ds : List PyData} (S : Sl K B F0 F H σ ρ) (h : ρ[i]? = some (.ow ds)) : ∃ F', Ex F F' ∧ Sl K B F0 F' H σ (ρ.set i (.da (.list ds))) := by
  obtain ⟨fp, f1, f2, f3⟩ := S.fp
  obtain ⟨a, vs, h1, h2, h3, h4⟩ := f3 i _ h
  have hm : a ∈ fp i := by rw [h1]; simp
  obtain ⟨n1, n2, n3⟩ := f2 i a hm
  have e1 : Ex F (upd F a (.lst vs)) := Ex.new n1
  have ne : ∀ j b, j ≠ i → b ∈ fp j → b ≠ a := fun j b hj hb e => by subst e; exact hj (f1 j i b hb hm)
  refine ⟨upd F a (.lst vs), e1, Sl.build (as := []) (fp := fp) i (fun b o q => ?_) S.kb (fun b hb => ?_) S.len f1 (fun j b hj hb => ⟨by rw [upd_ne (ne j b hj hb)]; exact (f2 j b hb).1, (f2 j b hb).2⟩) (fun _ _ _ h => nomatch h) (fun _ h => nomatch h)
    (fun j t e2 e => (f3 j t e).mono e1 (fun b _ => rfl) fun b hb => by rw [upd_ne (ne j b e2 hb)]; exact (f2 j b hb).1) fun _ => ⟨rfl, _, h2, .lst upd_same (h4.mono e1)⟩⟩
  · by_cases z : b = a
    · subst z; rw [upd_same] at q; rw [h3]; exact q
    · rw [upd_ne z] at q; exact S.ex b o q
  · rw [upd_ne (fun z => by subst z; exact hb n2)]; exact S.kf b hb
/-- all that is owned as a list, read -/
def starS : Slot → Slot
  | .ow ds => .da (.list ds)
  | s => s
def star (ρ : Env') : Env' := ρ.map starS
theorem star_get {i : Nat} {s : Slot} (h : ρ[i]? = some s) : (star ρ)[i]? = some (starS s) := by
  unfold star
  rw [List.getElem?_map, h]
  rfl
theorem Sl.starAt (S : Sl K B F0 F H σ ρ) : ∀ n, n ≤ ρ.length → ∃ F', Ex F F' ∧ Sl K B F0 F' H σ (star (ρ.take n) ++ ρ.drop n)
  | 0, _ => ⟨F, Ex.refl F, by simpa [star] using S⟩
  | n + 1, hn => by
    obtain ⟨F1, e1, S1⟩ := Sl.starAt S n (by omega)
    have hlt : n < ρ.length := by omega
    have eq : star (ρ.take n) ++ ρ.drop n = star (ρ.take n) ++ (ρ[n] :: ρ.drop (n + 1)) := by rw [List.drop_eq_getElem_cons hlt]
    have eq2 : star (ρ.take (n + 1)) ++ ρ.drop (n + 1) = star (ρ.take n) ++ (starS ρ[n] :: ρ.drop (n + 1)) := by
      rw [List.take_succ_eq_append_getElem hlt]
      unfold star
      rw [List.map_append, List.append_assoc]
      rfl
    have hl : (star (ρ.take n)).length = n := by unfold star; rw [List.length_map, List.length_take]; omega
    rw [eq] at S1
    rw [eq2]
    cases hs : ρ[n] with
    | ow ds =>
      rw [hs] at S1
      have g : (star (ρ.take n) ++ (Slot.ow ds :: ρ.drop (n + 1)))[n]? = some (.ow ds) := by
        rw [List.getElem?_append_right (by omega), hl, Nat.sub_self]
        rfl
      obtain ⟨F2, e2, S2⟩ := S1.freeze g
      refine ⟨F2, e1.trans e2, ?_⟩
      rw [List.set_append_right _ _ (by omega), hl, Nat.sub_self] at S2
      exact S2
    | un => rw [hs] at S1; exact ⟨F1, e1, S1⟩
    | da d => rw [hs] at S1; exact ⟨F1, e1, S1⟩
    | scr d => rw [hs] at S1; exact ⟨F1, e1, S1⟩
    | ext d => rw [hs] at S1; exact ⟨F1, e1, S1⟩
theorem Sl.star (S : Sl K B F0 F H σ ρ) : ∃ F', Ex F F' ∧ Sl K B F0 F' H σ (Mx.star ρ) := by
  obtain ⟨F', e, S'⟩ := S.starAt ρ.length (Nat.le_refl _)
  rw [List.take_length, List.drop_length, List.append_nil] at S'
  exact ⟨F', e, S'⟩
end
end Mx

set_option Elab.async false
set_option linter.all false
set_option maxRecDepth 100000
/-! Mx3: expressions over data environments. -/
namespace Mx
open PySem PySem.Spec PyProof.Rows L2

def Kont (K : PySem.W.Frag) (F H : Hp) (s : Slot) (Q : VK) : Prop := ∀ v G H' as, Grow F H G H' → SlotOk K G H' (some v) s as → (∀ a ∈ as, H a = none ∧ G a = none ∧ H' a ≠ none) → Q v H'
section
variable {K : PySem.W.Frag} {F H G H1 H' : Hp} {s : Slot} {Q : VK}
theorem Kont.da {d : PyData} {v : V} (k : Kont K F H (.da d) Q) (g : Grow F H G H') (h : Dv G v d) : Q v H' := k v G H' [] g ⟨rfl, v, rfl, h⟩ fun _ h => nomatch h
theorem Kont.go (k : Kont K F H s Q) (g : Grow F H G H1) : Kont K G H1 s Q := fun v G' H' as g' ok n => k v G' H' as (g.trans g') ok fun a ha => ⟨Ex.noneOf g.hh (n a ha).1, (n a ha).2⟩
theorem Kont.here {d : PyData} {v : V} (k : Kont K F H (.da d) Q) (e : Ex F H) (h : Dv F v d) : Q v H := k.da (Grow.refl e) h
/-- a new list of one's own -/
theorem Kont.ow {ds : List PyData} {vs : List V} {p : Addr} (k : Kont K F H (.ow ds) Q) (g : Grow F H G H1) (hp : H1 p = none) (h : DvAll G vs ds) : Q (.ref p) (upd H1 p (.lst vs)) :=
  k (.ref p) G _ [p] (g.loose hp) ⟨p, vs, rfl, rfl, upd_same, h⟩ fun a ha => by
    have e : a = p := by simpa using ha
    subst e
    exact ⟨Ex.noneOf g.hh hp, Ex.noneOf g.fh hp, by rw [upd_same]; intro z; cases z⟩
/-- a new tuple -/
theorem Kont.tup {ds : List PyData} {vs : List V} {p : Addr} (k : Kont K F H (.da (.tuple ds)) Q) (g : Grow F H G H1) (hp : H1 p = none) (h : DvAll G vs ds) : Q (.ref p) (upd H1 p (.tup vs)) :=
  k.da (g.new (o := .tup vs) hp) (.tup upd_same (h.mono (Ex.new (Ex.noneOf g.fh hp))))
end

section
variable (X : Cx)
structure EX (e : Expr) (ρ : Env') (s : Slot) : Prop where
  run : ∀ B F0 F H σ Q, Sl X.K B F0 F H σ ρ → Kont X.K F H s Q → wE X e σ H Q
structure ET (e : Expr) (ρ : Env') (b : Bool) : Prop where
  run : ∀ B F0 F H σ (Q : Bool → Hp → Prop), Sl X.K B F0 F H σ ρ → (∀ G H', Grow F H G H' → Q b H') → wT X e σ H Q
structure EW (e : Expr) (ρ : Env') (b : Bool) : Prop where
  run : ∀ B F0 F H σ (Q : Bool → Hp → Prop), Sl X.K B F0 F H σ ρ → (∀ G H', Grow F H G H' → Q b H') → wW X e σ H Q
structure EA (es : List Expr) (ρ : Env') (ds : List PyData) : Prop where
  run : ∀ B F0 F H σ (Q : List V → Hp → Prop), Sl X.K B F0 F H σ ρ → (∀ vs G H', Grow F H G H' → DvAll G vs ds → Q vs H') → wA X es σ H Q
/-- operations on values -/
def OpD (f : Value → Value → Sem Value) (d1 d2 : PyData) (s : Slot) : Prop := ∃ r, OpR X f r ∧ ∀ F H x y Q, Ex F H → Dv F x d1 → Dv F y d2 → Kont X.K F H s Q → r x y H Q
structure BinD (op : Operator) (d1 d2 : PyData) (s : Slot) : Prop where
  it : OpD X (binaryOp op) d1 d2 s
structure CmpD (op : CmpOp) (d1 d2 : PyData) (s : Slot) : Prop where
  it : OpD X (compareOp op) d1 d2 s
structure CallD (f : Value) (ds : List PyData) (s : Slot) : Prop where
  it : ∃ r, CallR X f r ∧ ∀ F H vs Q, Ex F H → DvAll F vs ds → Kont X.K F H s Q → r vs H Q
end
section
variable {X : Cx} {ρ : Env'} {a b c e : Expr} {es rest : List Expr} {pos p : Pos} {d d1 d2 : PyData} {s : Slot} {ds : List PyData} {x : Str}
theorem EX.use {B F0 F H : Hp} {σ : L2.St} {Q : VK} (h : EX X e ρ (.da d)) (S : Sl X.K B F0 F H σ ρ) (k : ∀ v G H', Grow F H G H' → Dv G v d → Sl X.K B F0 G H' σ ρ → Q v H') : wE X e σ H Q :=
  h.run B F0 F H σ Q S fun v G H' as g ok _ => by
    obtain ⟨_, u, e1, hu⟩ := ok
    cases e1
    exact k v G H' g hu (S.grow g)
theorem ET.use {B F0 F H : Hp} {σ : L2.St} {b : Bool} {Q : Bool → Hp → Prop} (h : ET X e ρ b) (S : Sl X.K B F0 F H σ ρ) (k : ∀ G H', Grow F H G H' → Sl X.K B F0 G H' σ ρ → Q b H') : wT X e σ H Q :=
  h.run B F0 F H σ Q S fun G H' g => k G H' g (S.grow g)
theorem EA.use {B F0 F H : Hp} {σ : L2.St} {Q : List V → Hp → Prop} (h : EA X es ρ ds) (S : Sl X.K B F0 F H σ ρ) (k : ∀ vs G H', Grow F H G H' → DvAll G vs ds → Sl X.K B F0 G H' σ ρ → Q vs H') : wA X es σ H Q :=
  h.run B F0 F H σ Q S fun vs G H' g hv => k vs G H' g hv (S.grow g)
theorem EX.is {d' : PyData} (h : EX X e ρ (.da d)) (q : d = d') : EX X e ρ (.da d') := q ▸ h
theorem ET.is {b b' : Bool} (h : ET X e ρ b) (q : b = b') : ET X e ρ b' := q ▸ h

/-! ### own lists read -/
theorem ex_star (h : EX X e (star ρ) (.da d)) (f : flatD d = true) : EX X e ρ (.da d) := .mk fun B F0 F H σ Q S k => by
  obtain ⟨F', e1, S'⟩ := S.star
  exact h.use S' fun v G H' g hv _ => k.da (G := F) ⟨Ex.refl F, g.hh, S.ex.trans g.hh, fun _ _ => rfl⟩ (hv.flat f)
theorem et_star {b : Bool} (h : ET X e (star ρ) b) : ET X e ρ b := .mk fun B F0 F H σ Q S k => by
  obtain ⟨F', e1, S'⟩ := S.star
  exact h.use S' fun G H' g _ => k F H' ⟨Ex.refl F, g.hh, S.ex.trans g.hh, fun _ _ => rfl⟩
/-- what is owned, given away -/
theorem ex_freeze (h : EX X e ρ (.ow ds)) : EX X e ρ (.da (.list ds)) := .mk fun B F0 F H σ Q S k => h.run B F0 F H σ Q S fun v G H' as g ok n => by
  obtain ⟨a, vs, rfl, ev, ha, hd⟩ := ok
  cases ev
  have nn := n a (by simp)
  have e1 : Ex G (upd G a (.lst vs)) := Ex.new nn.2.1
  refine k.da (G := upd G a (.lst vs)) ⟨g.ff.trans e1, g.hh, fun b o q => ?_, fun b hb => ?_⟩ (.lst upd_same (hd.mono e1))
  · by_cases z : b = a
    · subst z; rw [upd_same] at q; rw [ha]; exact q
    · rw [upd_ne z] at q; exact g.fh b o q
  · rw [upd_ne (fun z => by subst z; exact hb nn.1)]; exact g.fr b hb

/-! ### names and constants -/
theorem ex_name (i : Nat) (h : ρ[i]? = some (.da d)) (hN : X.N[i]? = some x := by rfl) (hv : nameOk X.env.scope x = true := by kernel_rfl) : EX X (.Name x pos) ρ (.da d) := .mk fun B F0 F H σ Q S k => by
  obtain ⟨v, e1, hv'⟩ := S.da h
  exact PEw (pv i hN (nameOk_vis hv) (nameOk_d hv) (nameOk_c hv)) ⟨v, e1, k.here S.ex hv'⟩
theorem ex_int {i j} : EX X (.Constant (.int i) j pos) ρ (.da (.int i)) := .mk fun B F0 F H σ Q S k => PEw pe_int (k.here S.ex (.int i))
theorem ex_bl {i j} : EX X (.Constant (.bool i) j pos) ρ (.da (.bool i)) := .mk fun B F0 F H σ Q S k => PEw pe_bl (k.here S.ex (.bl i))
theorem ex_str {i j} : EX X (.Constant (.str i) j pos) ρ (.da (.str i)) := .mk fun B F0 F H σ Q S k => PEw pe_str (k.here S.ex (.str i))
theorem ex_non {j} : EX X (.Constant .none j pos) ρ (.da .none) := .mk fun B F0 F H σ Q S k => PEw pe_non (k.here S.ex .non)
theorem ex_globI {i : Int} {t : Tok} (hm : X.mg x = some (.int i t)) (hg : Gl X x := by exact gl_of (by kernel_rfl)) (hd : (x == ("__debug__" : Str)) = false := by kernel_rfl) : EX X (.Name x pos) ρ (.da (.int i)) := .mk fun B F0 F H σ Q S k =>
  PEw (pe_glob (v := .int i) hg hm ⟨t, rfl⟩ hd) (k.here S.ex (.int i))
theorem ex_globS {i : Str} {t : Tok} (hm : X.mg x = some (.str i t)) (hg : Gl X x := by exact gl_of (by kernel_rfl)) (hd : (x == ("__debug__" : Str)) = false := by kernel_rfl) : EX X (.Name x pos) ρ (.da (.str i)) := .mk fun B F0 F H σ Q S k =>
  PEw (pe_glob (v := .str i) hg hm ⟨t, rfl⟩ hd) (k.here S.ex (.str i))

/-! ### operators -/
theorem ex_bin {op : Operator} (ha : EX X a ρ (.da d1)) (hb : EX X b ρ (.da d2)) (o : BinD X op d1 d2 s) : EX X (.BinOp a op b pos) ρ s := .mk fun B F0 F H σ Q S k => by
  obtain ⟨r, hr, hq⟩ := o.it
  refine PEw (pe_op hr pe_w pe_w) (ha.use S fun v1 G1 H1 g1 h1 S1 => hb.use S1 fun v2 G2 H2 g2 h2 S2 => ?_)
  exact hq G2 H2 v1 v2 Q S2.ex (h1.mono g2.ff) h2 (k.go (g1.trans g2))
theorem ex_cmp {op : CmpOp} (ha : EX X a ρ (.da d1)) (hb : EX X b ρ (.da d2)) (o : CmpD X op d1 d2 s) (hm : behindInMarks op b = false := by first | exact nomark _ | rfl) : EX X (.Compare a [op] [b] pos) ρ s := .mk fun B F0 F H σ Q S k => by
  obtain ⟨r, hr, hq⟩ := o.it
  refine PEw (pe_cmpR hr pe_w pe_w hm) (ha.use S fun v1 G1 H1 g1 h1 S1 => hb.use S1 fun v2 G2 H2 g2 h2 S2 => ?_)
  exact hq G2 H2 v1 v2 Q S2.ex (h1.mono g2.ff) h2 (k.go (g1.trans g2))
theorem et_cmp {op : CmpOp} {t : Bool} (ha : EX X a ρ (.da d1)) (hb : EX X b ρ (.da d2)) (o : CmpD X op d1 d2 (.da (.bool t))) (hm : behindInMarks op b = false := by first | exact nomark _ | rfl) : ET X (.Compare a [op] [b] pos) ρ t := .mk fun B F0 F H σ Q S k => by
  obtain ⟨r, hr, hq⟩ := o.it
  refine PTw (pt_cmpR hr pe_w pe_w hm) (ha.use S fun v1 G1 H1 g1 h1 S1 => hb.use S1 fun v2 G2 H2 g2 h2 S2 => ?_)
  refine hq G2 H2 v1 v2 _ S2.ex (h1.mono g2.ff) h2 fun v G' H' as g ok n => ?_
  obtain ⟨_, u, e1, hu⟩ := ok
  cases e1
  exact ⟨t, hu.ebl, k G' H' ((g1.trans g2).trans g)⟩
/-- a < b < c -/
theorem ex_chain {op op' : CmpOp} {t t' : Bool} {d3 : PyData} (ha : EX X a ρ (.da d1)) (hb : EX X b ρ (.da d2)) (hc : t = true → EX X c ρ (.da d3)) (o : CmpD X op d1 d2 (.da (.bool t))) (o' : t = true → CmpD X op' d2 d3 (.da (.bool t')))
    (hm : lastMarks [op, op'] [b, c] = false := by with_unfolding_all rfl) : EX X (.Compare a [op, op'] [b, c] pos) ρ (.da (.bool (t && t'))) := .mk fun B F0 F H σ Q S k => by
  obtain ⟨r, hr, hq⟩ := o.it
  cases t with
  | false =>
    refine PEw (pe_chain (r' := fun _ _ _ _ => False) hr (fun _ _ _ _ _ _ _ _ _ _ _ _ h => h.elim) pe_w pe_w pe_w hm) (ha.use S fun v1 G1 H1 g1 h1 S1 => hb.use S1 fun v2 G2 H2 g2 h2 S2 => ?_)
    refine hq G2 H2 v1 v2 _ S2.ex (h1.mono g2.ff) h2 fun v G' H' as g ok n => ?_
    obtain ⟨_, u, e1, hu⟩ := ok
    cases e1
    refine ⟨false, hu.ebl, ?_⟩
    simp only [Bool.false_eq_true, if_false]
    exact k.da ((g1.trans g2).trans g) (.bl false)
  | true =>
    obtain ⟨r', hr', hq'⟩ := (o' rfl).it
    refine PEw (pe_chain hr hr' pe_w pe_w pe_w hm) (ha.use S fun v1 G1 H1 g1 h1 S1 => hb.use S1 fun v2 G2 H2 g2 h2 S2 => ?_)
    refine hq G2 H2 v1 v2 _ S2.ex (h1.mono g2.ff) h2 fun v G' H' as g ok n => ?_
    obtain ⟨_, u, e1, hu⟩ := ok
    cases e1
    refine ⟨true, hu.ebl, ?_⟩
    simp only [if_true]
    refine (hc rfl).use (S2.grow g) fun v3 G3 H3 g3 h3 S3 => ?_
    exact hq' G3 H3 v2 v3 _ S3.ex ((h2.mono g.ff).mono g3.ff) h3 (k.go (((g1.trans g2).trans g).trans g3))

/-! ### and, or, not, if -/
theorem ex_one {op} (h : EX X a ρ s) : EX X (.BoolOp op [a] pos) ρ s := .mk fun B F0 F H σ Q S k => PEw (pe_one pe_w) (h.run B F0 F H σ Q S k)
theorem ex_and {t u : Bool} (ha : EX X a ρ (.da (.bool t))) (hb : t = true → EX X (.BoolOp .And (b :: rest) pos) ρ (.da (.bool u))) : EX X (.BoolOp .And (a :: b :: rest) pos) ρ (.da (.bool (t && u))) := .mk fun B F0 F H σ Q S k => by
  refine PEw (pe_and pe_w pe_w) (ha.use S fun v1 G1 H1 g1 h1 S1 => ⟨t, h1.ebl, ?_⟩)
  cases t with
  | true => simp only [if_true]; exact (hb rfl).run B F0 G1 H1 σ Q S1 (k.go g1)
  | false => simp only [Bool.false_eq_true, if_false]; exact k.da g1 (.bl false)
theorem ex_or {t u : Bool} (ha : EX X a ρ (.da (.bool t))) (hb : t = false → EX X (.BoolOp .Or (b :: rest) pos) ρ (.da (.bool u))) : EX X (.BoolOp .Or (a :: b :: rest) pos) ρ (.da (.bool (t || u))) := .mk fun B F0 F H σ Q S k => by
  refine PEw (pe_or pe_w pe_w) (ha.use S fun v1 G1 H1 g1 h1 S1 => ⟨t, h1.ebl, ?_⟩)
  cases t with
  | false => simp only [Bool.false_eq_true, if_false]; exact (hb rfl).run B F0 G1 H1 σ Q S1 (k.go g1)
  | true => simp only [if_true]; exact k.da g1 (.bl true)
theorem ex_not {t : Bool} (ha : EX X a ρ (.da (.bool t))) : EX X (.UnaryOp .Not a pos) ρ (.da (.bool (!t))) := .mk fun B F0 F H σ Q S k =>
  PEw (pe_not pe_w) (ha.use S fun v1 G1 H1 g1 h1 S1 => ⟨t, h1.ebl, k.da g1 (.bl _)⟩)
theorem ex_if {t : Bool} (hc : ET X c ρ t) (ha : t = true → EX X a ρ s) (hb : t = false → EX X b ρ s) : EX X (.IfExp c a b pos) ρ s := .mk fun B F0 F H σ Q S k => by
  refine PEw (pe_ifExp pt_w pe_w pe_w) (hc.use S fun G1 H1 g1 S1 => ?_)
  cases t with
  | true => simp only [if_true]; exact (ha rfl).run B F0 G1 H1 σ Q S1 (k.go g1)
  | false => simp only [Bool.false_eq_true, if_false]; exact (hb rfl).run B F0 G1 H1 σ Q S1 (k.go g1)
theorem et_val {t : Bool} (h : EX X e ρ (.da (.bool t))) (he : ∀ whole, isTrue e X.env whole = (do let v ← whole; standAt e.pos; holding [v] (truthy v)) := by intro _; rfl) : ET X e ρ t := .mk fun B F0 F H σ Q S k =>
  PTw (pt_val pe_w he) (h.use S fun v1 G1 H1 g1 h1 S1 => ⟨t, h1.ebl, k G1 H1 g1⟩)
theorem et_W {t : Bool} (h : EW X e ρ t) : ET X e ρ t := .mk fun B F0 F H σ Q S k => PTw (PW.pt pw_w) (h.run B F0 F H σ Q S k)
theorem ew_and1 {t : Bool} (h : ET X a ρ t) : EW X (.BoolOp .And [a] pos) ρ t := .mk fun B F0 F H σ Q S k => PWw (pw_and1 pt_w) (h.run B F0 F H σ Q S k)
theorem ew_or1 {t : Bool} (h : ET X a ρ t) : EW X (.BoolOp .Or [a] pos) ρ t := .mk fun B F0 F H σ Q S k => PWw (pw_or1 pt_w) (h.run B F0 F H σ Q S k)
theorem ew_and {t u : Bool} (ha : ET X a ρ t) (hb : t = true → EW X (.BoolOp .And (b :: rest) pos) ρ u) : EW X (.BoolOp .And (a :: b :: rest) pos) ρ (t && u) := .mk fun B F0 F H σ Q S k => by
  refine PWw (pw_and pt_w pw_w) (ha.use S fun G1 H1 g1 S1 => ?_)
  cases t with
  | true => simp only [if_true]; exact (hb rfl).run B F0 G1 H1 σ Q S1 fun G2 H2 g2 => k G2 H2 (g1.trans g2)
  | false => simp only [Bool.false_eq_true, if_false]; exact k G1 H1 g1
theorem ew_or {t u : Bool} (ha : ET X a ρ t) (hb : t = false → EW X (.BoolOp .Or (b :: rest) pos) ρ u) : EW X (.BoolOp .Or (a :: b :: rest) pos) ρ (t || u) := .mk fun B F0 F H σ Q S k => by
  refine PWw (pw_or pt_w pw_w) (ha.use S fun G1 H1 g1 S1 => ?_)
  cases t with
  | false => simp only [Bool.false_eq_true, if_false]; exact (hb rfl).run B F0 G1 H1 σ Q S1 fun G2 H2 g2 => k G2 H2 (g1.trans g2)
  | true => simp only [if_true]; exact k G1 H1 g1
theorem et_not {t : Bool} (h : ET X a ρ t) : ET X (.UnaryOp .Not a pos) ρ (!t) := .mk fun B F0 F H σ Q S k => PTw (pt_not pt_w) (h.run B F0 F H σ (fun c H1 => Q (!c) H1) S k)

/-! ### argument lists, displays, calls of built-ins -/
theorem ea_nil : EA X [] ρ [] := .mk fun B F0 F H σ Q S k => PAw pa_nil (k [] F H (Grow.refl S.ex) .nil)
theorem ea_cons (ha : EX X e ρ (.da d)) (hr : EA X es ρ ds) (hs : starEach (e :: es) X.env = (false, eval e X.env) :: starEach es X.env := by exact star_cons rfl) : EA X (e :: es) ρ (d :: ds) := .mk fun B F0 F H σ Q S k =>
  PAw (pa_cons pe_w pa_w hs) (ha.use S fun v1 G1 H1 g1 h1 S1 => hr.use S1 fun vs G2 H2 g2 h2 S2 => k (v1 :: vs) G2 H2 (g1.trans g2) (.cons (h1.mono g2.ff) h2))
theorem ex_tup {x1} (h : EA X es ρ ds) (hz : ds.length ≤ 100000 := by simp) : EX X (.Tuple es x1 pos) ρ (.da (.tuple ds)) := .mk fun B F0 F H σ Q S k =>
  PEw (pe_tup pa_w) (h.use S fun vs G1 H1 g1 h1 S1 => ⟨by rw [h1.length]; exact sz_of hz, fun p hp => k.tup g1 hp h1⟩)
theorem ex_lst (h : EA X es ρ ds) (hz : ds.length ≤ 100000 := by simp) : EX X (.List es pos) ρ (.ow ds) := .mk fun B F0 F H σ Q S k =>
  PEw (pe_lst pa_w) (h.use S fun vs G1 H1 g1 h1 S1 => ⟨by rw [h1.length]; exact sz_of hz, fun p hp => k.ow g1 hp h1⟩)
theorem ex_callB {id : String} (ha : EA X (e :: es) ρ ds) (o : CallD X (.builtin id) ds s) (hm : X.mg x = none) (hg : Gl X x := by exact gl_of (by kernel_rfl)) (hv : bootBuiltins x = some (.builtin id) := by kernel_rfl) (hok : globOk x = true := by kernel_rfl)
    (he : starEach (e :: es) X.env = (false, eval e X.env) :: starEach es X.env := by exact star_cons rfl) (hpl : (backTo pos (starEach es X.env)).any (·.1) = false := by exact star_none rfl) : EX X (.Call (.Name x p) (e :: es) [] pos) ρ s := .mk fun B F0 F H σ Q S k => by
  obtain ⟨r, hr, hq⟩ := o.it
  exact PEw (pe_callB hr hg hm hv pa_w (globOk_n hok) (globOk_d hok) he hpl) (ha.use S fun vs G1 H1 g1 h1 S1 => hq G1 H1 vs Q S1.ex h1 (k.go g1))
theorem ex_callTy {T : String} (ha : EA X (e :: es) ρ ds) (o : CallD X (.type T) ds s) (hm : X.mg x = none) (hg : Gl X x := by exact gl_of (by kernel_rfl)) (hv : bootBuiltins x = some (.type T) := by kernel_rfl) (hok : globOk x = true := by kernel_rfl)
    (he : starEach (e :: es) X.env = (false, eval e X.env) :: starEach es X.env := by exact star_cons rfl) (hpl : (backTo pos (starEach es X.env)).any (·.1) = false := by exact star_none rfl) : EX X (.Call (.Name x p) (e :: es) [] pos) ρ s := .mk fun B F0 F H σ Q S k => by
  obtain ⟨r, hr, hq⟩ := o.it
  exact PEw (pe_callTy hr hg hm hv pa_w (globOk_n hok) (globOk_d hok) he hpl) (ha.use S fun vs G1 H1 g1 h1 S1 => hq G1 H1 vs Q S1.ex h1 (k.go g1))
end

/-! ### operators on data -/
section
variable {X : Cx} {i j : Int} {d1 d2 : PyData} {ds es : List PyData}
theorem od_add : BinD X .Add (.int i) (.int j) (.da (.int (i + j))) := .mk ⟨_, op_add, fun F H x y Q e hx hy k => ⟨i, j, hx.eint, hy.eint, k.here e (.int _)⟩⟩
theorem od_sub : BinD X .Sub (.int i) (.int j) (.da (.int (i - j))) := .mk ⟨_, op_sub, fun F H x y Q e hx hy k => ⟨i, j, hx.eint, hy.eint, k.here e (.int _)⟩⟩
theorem od_mod (hj : 0 < j) : BinD X .Mod (.int i) (.int j) (.da (.int (i % j))) := .mk ⟨_, op_mod, fun F H x y Q e hx hy k => ⟨i, j, hx.eint, hy.eint, hj, k.here e (.int _)⟩⟩
theorem od_fdiv (hj : 0 < j) (hz : j < 1073741824) : BinD X .FloorDiv (.int i) (.int j) (.da (.int (i / j))) := .mk ⟨_, op_fdiv, fun F H x y Q e hx hy k => ⟨i, j, hx.eint, hy.eint, ⟨hj, hz⟩, k.here e (.int _)⟩⟩
theorem od_pow (hj : 0 ≤ j ∧ j ≤ 1000000 ∧ i.natAbs < 2 ^ 64) : BinD X .Pow (.int i) (.int j) (.da (.int (i ^ j.toNat))) := .mk ⟨_, op_pow, fun F H x y Q e hx hy k => ⟨i, j, hx.eint, hy.eint, hj, k.here e (.int _)⟩⟩
theorem od_mulL (h : -(2 ^ 64) < i ∧ i < 2 ^ 64) : BinD X .Mult (.int i) (.int j) (.da (.int (i * j))) := .mk ⟨_, op_mul, fun F H x y Q e hx hy k => ⟨i, j, hx.eint, hy.eint, .inl h, k.here e (.int _)⟩⟩
theorem od_mulR (h : -(2 ^ 64) < j ∧ j < 2 ^ 64) : BinD X .Mult (.int i) (.int j) (.da (.int (i * j))) := .mk ⟨_, op_mul, fun F H x y Q e hx hy k => ⟨i, j, hx.eint, hy.eint, .inr h, k.here e (.int _)⟩⟩
theorem od_addS {x y : Str} (h : x.length + y.length ≤ 100000) : BinD X .Add (.str x) (.str y) (.da (.str (x ++ y))) := .mk ⟨_, op_add_str, fun F H u v Q e hx hy k => ⟨x, y, hx.estr, hy.estr, sz_of h, k.here e (.str _)⟩⟩
theorem od_cat (h : ds.length + es.length ≤ 100000) : BinD X .Add (.list ds) (.list es) (.ow (ds ++ es)) := .mk ⟨_, op_cat, fun F H u v Q e hx hy k => by
  obtain ⟨a, xs, rfl, h1, h2⟩ := hx.elst
  obtain ⟨b, ys, rfl, h3, h4⟩ := hy.elst
  exact ⟨a, b, xs, ys, rfl, rfl, e _ _ h1, e _ _ h3, by rw [h2.length, h4.length]; exact sz_of h, fun p hp => k.ow (Grow.refl e) hp (h2.append h4)⟩⟩
theorem oc_lt : CmpD X .Lt (.int i) (.int j) (.da (.bool (decide (i < j)))) := .mk ⟨_, op_lt, fun F H x y Q e hx hy k => ⟨i, j, hx.eint, hy.eint, k.here e (.bl _)⟩⟩
theorem oc_le : CmpD X .LtE (.int i) (.int j) (.da (.bool (decide (i ≤ j)))) := .mk ⟨_, op_le, fun F H x y Q e hx hy k => ⟨i, j, hx.eint, hy.eint, k.here e (.bl _)⟩⟩
theorem oc_gt : CmpD X .Gt (.int i) (.int j) (.da (.bool (decide (j < i)))) := .mk ⟨_, op_gt, fun F H x y Q e hx hy k => ⟨i, j, hx.eint, hy.eint, k.here e (.bl _)⟩⟩
theorem oc_ge : CmpD X .GtE (.int i) (.int j) (.da (.bool (decide (j ≤ i)))) := .mk ⟨_, op_ge, fun F H x y Q e hx hy k => ⟨i, j, hx.eint, hy.eint, k.here e (.bl _)⟩⟩
theorem oc_ltS {x y : Str} : CmpD X .Lt (.str x) (.str y) (.da (.bool (decide (x.cps.toList < y.cps.toList)))) := .mk ⟨_, op_lt_str, fun F H u v Q e hx hy k => ⟨x, y, hx.estr, hy.estr, k.here e (.bl _)⟩⟩
theorem oc_eq (hu : X.A.units + 64 < cLine) (h1 : Pl d1) (h2 : Pl d2) : CmpD X .Eq d1 d2 (.da (.bool (PyData.eqv d1 d2))) := .mk ⟨_, op_eqP hu, fun F H x y Q e hx hy k =>
  ⟨d1, d2, (hx.mono e).dp h1.1, (hy.mono e).dp h2.1, h1, h2, k.here e (.bl _)⟩⟩
theorem oc_ne (hu : X.A.units + 64 < cLine) (h1 : Pl d1) (h2 : Pl d2) : CmpD X .NotEq d1 d2 (.da (.bool (!PyData.eqv d1 d2))) := .mk ⟨_, op_neP hu, fun F H x y Q e hx hy k =>
  ⟨d1, d2, (hx.mono e).dp h1.1, (hy.mono e).dp h2.1, h1, h2, k.here e (.bl _)⟩⟩
theorem plain_list {ds : List PyData} (h : PyData.plainAll ds = true) : (PyData.list ds).plain = true := by simpa [PyData.plain] using h
theorem plain_tuple {ds : List PyData} (h : PyData.plainAll ds = true) : (PyData.tuple ds).plain = true := by simpa [PyData.plain] using h
theorem oc_in (hu : X.A.units + 64 < cLine) (h1 : Pl d1) (h2 : PyData.plainAll ds = true) : CmpD X .In d1 (.list ds) (.da (.bool (ds.any fun z => PyData.eqv z d1))) := .mk ⟨_, op_inP hu, fun F H x y Q e hx hy k =>
  ⟨d1, ds, (hx.mono e).dp h1.1, .inl ((hy.mono e).dp (plain_list h2)), h1, h2, k.here e (.bl _)⟩⟩
theorem oc_notin (hu : X.A.units + 64 < cLine) (h1 : Pl d1) (h2 : PyData.plainAll ds = true) : CmpD X .NotIn d1 (.list ds) (.da (.bool (!ds.any fun z => PyData.eqv z d1))) := .mk ⟨_, op_notInP hu, fun F H x y Q e hx hy k =>
  ⟨d1, ds, (hx.mono e).dp h1.1, .inl ((hy.mono e).dp (plain_list h2)), h1, h2, k.here e (.bl _)⟩⟩
theorem oc_inT (hu : X.A.units + 64 < cLine) (h1 : Pl d1) (h2 : PyData.plainAll ds = true) : CmpD X .In d1 (.tuple ds) (.da (.bool (ds.any fun z => PyData.eqv z d1))) := .mk ⟨_, op_inP hu, fun F H x y Q e hx hy k =>
  ⟨d1, ds, (hx.mono e).dp h1.1, .inr ((hy.mono e).dp (plain_tuple h2)), h1, h2, k.here e (.bl _)⟩⟩
theorem oc_notinT (hu : X.A.units + 64 < cLine) (h1 : Pl d1) (h2 : PyData.plainAll ds = true) : CmpD X .NotIn d1 (.tuple ds) (.da (.bool (!ds.any fun z => PyData.eqv z d1))) := .mk ⟨_, op_notInP hu, fun F H x y Q e hx hy k =>
  ⟨d1, ds, (hx.mono e).dp h1.1, .inr ((hy.mono e).dp (plain_tuple h2)), h1, h2, k.here e (.bl _)⟩⟩
def isNone : PyData → Bool
  | .none => true
  | _ => false
theorem oc_isN : CmpD X .Is d1 .none (.da (.bool (isNone d1))) := .mk ⟨_, op_isN, fun F H x y Q e hx hy k => ⟨hy.enon, by
  have z : decide (x = V.non) = isNone d1 := by cases hx <;> rfl
  rw [z]; exact k.here e (.bl _)⟩⟩
theorem oc_notN : CmpD X .IsNot d1 .none (.da (.bool (!isNone d1))) := .mk ⟨_, op_notN, fun F H x y Q e hx hy k => ⟨hy.enon, by
  have z : (!decide (x = V.non)) = !isNone d1 := by cases hx <;> rfl
  rw [z]; exact k.here e (.bl _)⟩⟩
/-! ### built-ins on data -/
theorem cd_lenL : CallD X (.builtin "len") [.list ds] (.da (.int ds.length)) := .mk ⟨_, call_len_seq, fun F H vs Q e hv k => by
  cases hv with
  | cons h r =>
    cases r
    obtain ⟨a, xs, rfl, h1, h2⟩ := h.elst
    refine ⟨a, xs, rfl, .inl (.inl (.inl (e _ _ h1))), ?_⟩
    rw [h2.length]
    exact k.here e (.int _)⟩
theorem cd_lenT : CallD X (.builtin "len") [.tuple ds] (.da (.int ds.length)) := .mk ⟨_, call_len_seq, fun F H vs Q e hv k => by
  cases hv with
  | cons h r =>
    cases r
    obtain ⟨a, xs, rfl, h1, h2⟩ := h.etup
    refine ⟨a, xs, rfl, .inr (.inl (.inl (e _ _ h1))), ?_⟩
    rw [h2.length]
    exact k.here e (.int _)⟩
theorem cd_list : CallD X (.type "list") [.list ds] (.ow ds) := .mk ⟨_, call_list_of, fun F H vs Q e hv k => by
  cases hv with
  | cons h r =>
    cases r
    obtain ⟨a, xs, rfl, h1, h2⟩ := h.elst
    exact ⟨a, xs, rfl, .inl (.inl (.inl (e _ _ h1))), fun l hl => k.ow (Grow.refl e) hl h2⟩⟩
theorem cd_tuple : CallD X (.type "tuple") [.list ds] (.da (.tuple ds)) := .mk ⟨_, call_tuple_of, fun F H vs Q e hv k => by
  cases hv with
  | cons h r =>
    cases r
    obtain ⟨a, xs, rfl, h1, h2⟩ := h.elst
    exact ⟨a, xs, rfl, .inl ⟨.inl (.inl (e _ _ h1)), fun l hl => k.tup (Grow.refl e) hl h2⟩⟩⟩
theorem cd_sum (hc : X.calm = true) {ns : List Int} : CallD X (.builtin "sum") [.list (ns.map .int)] (.da (.int ns.sum)) := .mk ⟨_, cr_sum hc, fun F H vs Q e hv k => by
  cases hv with
  | cons h r =>
    cases r
    obtain ⟨a, xs, rfl, h1, h2⟩ := h.elst
    rw [h2.ints] at h1
    exact ⟨a, ns, rfl, .inl (.inl (e _ _ h1)), k.here e (.int _)⟩⟩
theorem cd_all (hc : X.calm = true) {ns : List Bool} : CallD X (.builtin "all") [.list (ns.map .bool)] (.da (.bool (ns.all id))) := .mk ⟨_, cr_all hc, fun F H vs Q e hv k => by
  cases hv with
  | cons h r =>
    cases r
    obtain ⟨a, xs, rfl, h1, h2⟩ := h.elst
    rw [h2.bls] at h1
    exact ⟨a, ns, rfl, .inl (.inl (e _ _ h1)), k.here e (.bl _)⟩⟩
theorem cd_any (hc : X.calm = true) {ns : List Bool} : CallD X (.builtin "any") [.list (ns.map .bool)] (.da (.bool (ns.any id))) := .mk ⟨_, cr_any hc, fun F H vs Q e hv k => by
  cases hv with
  | cons h r =>
    cases r
    obtain ⟨a, xs, rfl, h1, h2⟩ := h.elst
    rw [h2.bls] at h1
    exact ⟨a, ns, rfl, .inl (.inl (e _ _ h1)), k.here e (.bl _)⟩⟩
theorem cd_max2 (hc : X.calm = true) : CallD X (.builtin "max") [.int i, .int j] (.da (.int (max i j))) := .mk ⟨_, call_max2 hc, fun F H vs Q e hv k => by
  cases hv with
  | cons h r => cases r with
    | cons h' r' =>
      cases r'
      refine ⟨i, j, by rw [h.eint, h'.eint], ?_⟩
      have z : (if j > i then j else i) = max i j := by split <;> omega
      rw [z]
      exact k.here e (.int _)⟩
theorem cd_min2 (hc : X.calm = true) : CallD X (.builtin "min") [.int i, .int j] (.da (.int (min i j))) := .mk ⟨_, call_min2 hc, fun F H vs Q e hv k => by
  cases hv with
  | cons h r => cases r with
    | cons h' r' =>
      cases r'
      refine ⟨i, j, by rw [h.eint, h'.eint], ?_⟩
      have z : (if j < i then j else i) = min i j := by split <;> omega
      rw [z]
      exact k.here e (.int _)⟩
theorem cd_abs : CallD X (.builtin "abs") [.int i] (.da (.int (if i < 0 then -i else i))) := .mk ⟨_, call_abs, fun F H vs Q e hv k => by
  cases hv with
  | cons h r => cases r; exact ⟨i, by rw [h.eint], k.here e (.int _)⟩⟩
theorem cd_intB {b : Bool} : CallD X (.type "int") [.bool b] (.da (.int (if b then 1 else 0))) := .mk ⟨_, call_int1, fun F H vs Q e hv k => by
  cases hv with
  | cons h r => cases r; exact .inr ⟨b, by rw [h.ebl], k.here e (.int _)⟩⟩
end
end Mx

set_option Elab.async false
set_option linter.all false
set_option maxRecDepth 100000
/-! Mx4: subscripts, targets, what is walked, comprehensions. -/
namespace Mx
open PySem PySem.Spec PyProof.Rows L2

/-! ### subscripts and slices -/
theorem atI_dv {F : Hp} {xs : List V} {ds : List PyData} {k : Int} {d : PyData} (h : DvAll F xs ds) (e : atI ds k = some d) : ∃ v, atI xs k = some v ∧ Dv F v d := by
  unfold atI at e ⊢
  rw [h.length]
  cases q : ixN ds.length k with
  | none => rw [q] at e; cases e
  | some j => rw [q] at e; exact h.get e
def cutD (xs : List PyData) (lo hi : Option Int) : List PyData := (xs.drop (HT.sIx xs.length 0 lo)).take (HT.sIx xs.length xs.length hi - HT.sIx xs.length 0 lo)
theorem cut_dv {F : Hp} {xs : List V} {ds : List PyData} {lo hi : Option Int} (h : DvAll F xs ds) : DvAll F (cutV xs lo hi) (cutD ds lo hi) := by
  unfold cutV cutD
  rw [h.length]
  exact (h.drop _).take _
section
variable (X : Cx)
/-- an optional part of a slice -/
def EO (e : Option Expr) (ρ : Env') (o : Option Int) : Prop := ∃ t, PO X e t ∧ ∀ B F0 F H σ (Q : Option Int → Hp → Prop), Sl X.K B F0 F H σ ρ → (∀ G H', Grow F H G H' → Q o H') → t σ H Q
end
section
variable {X : Cx} {ρ : Env'} {a b e : Expr} {pos p2 : Pos} {d : PyData} {ds : List PyData} {k : Int} {lo hi : Option Expr} {l u : Option Int}
theorem eo_none : EO X none ρ none := ⟨_, po_none, fun B F0 F H σ Q S k => k F H (Grow.refl S.ex)⟩
theorem eo_some (h : EX X e ρ (.da (.int k))) : EO X (some e) ρ (some k) := ⟨_, po_some pe_w, fun B F0 F H σ Q S q => h.use S fun v G H' g hv _ => ⟨k, hv.eint, q G H' g⟩⟩
theorem ex_ixL (ha : EX X a ρ (.da (.list ds))) (hb : EX X b ρ (.da (.int k))) (h : atI ds k = some d) (hs : PlainIx b := by exact fun _ _ => rfl) : EX X (.Subscript a b pos) ρ (.da d) := .mk fun B F0 F H σ Q S q =>
  PEw (pe_ix ix_list pe_w pe_w hs) (ha.use S fun v1 G1 H1 g1 h1 S1 => hb.use S1 fun v2 G2 H2 g2 h2 S2 => by
    obtain ⟨p, xs, rfl, e1, e2⟩ := (h1.mono g2.ff).elst
    obtain ⟨v, e3, e4⟩ := atI_dv e2 h
    exact ⟨p, xs, k, v, rfl, h2.eint, .inl (.inl (S2.ex _ _ e1)), e3, q.da (g1.trans g2) e4⟩)
theorem ex_ixT (ha : EX X a ρ (.da (.tuple ds))) (hb : EX X b ρ (.da (.int k))) (h : atI ds k = some d) (hs : PlainIx b := by exact fun _ _ => rfl) : EX X (.Subscript a b pos) ρ (.da d) := .mk fun B F0 F H σ Q S q =>
  PEw (pe_ix ix_tup pe_w pe_w hs) (ha.use S fun v1 G1 H1 g1 h1 S1 => hb.use S1 fun v2 G2 H2 g2 h2 S2 => by
    obtain ⟨p, xs, rfl, e1, e2⟩ := (h1.mono g2.ff).etup
    obtain ⟨v, e3, e4⟩ := atI_dv e2 h
    exact ⟨p, xs, k, v, rfl, h2.eint, .inl (.inl (S2.ex _ _ e1)), e3, q.da (g1.trans g2) e4⟩)
theorem ex_ixS {z : Str} {c : Nat} (ha : EX X a ρ (.da (.str z))) (hb : EX X b ρ (.da (.int k))) (h : atI z.cps.toList k = some c) (hz : z.length ≤ 100000) (hs : PlainIx b := by exact fun _ _ => rfl) : EX X (.Subscript a b pos) ρ (.da (.str ⟨#[c]⟩)) := .mk fun B F0 F H σ Q S q =>
  PEw (pe_ix ix_str pe_w pe_w hs) (ha.use S fun v1 G1 H1 g1 h1 S1 => hb.use S1 fun v2 G2 H2 g2 h2 S2 =>
    ⟨z, k, c, h1.estr, h2.eint, sz_of hz, h, q.da (g1.trans g2) (.str _)⟩)
/-- an own list's item -/
theorem ex_ixO {x : Str} {pn : Pos} (i : Nat) (hρ : ρ[i]? = some (.ow ds)) (hb : EX X b ρ (.da (.int k))) (h : atI ds k = some d) (hN : X.N[i]? = some x := by rfl) (hv : nameOk X.env.scope x = true := by kernel_rfl) (hs : PlainIx b := by exact fun _ _ => rfl) : EX X (.Subscript (.Name x pn) b pos) ρ (.da d) := .mk fun B F0 F H σ Q S q => by
  obtain ⟨a, vs, e1, e2, e3, e4⟩ := S.ow hρ
  refine PEw (pe_ix ix_list (pv i hN (nameOk_vis hv) (nameOk_d hv) (nameOk_c hv)) pe_w hs) ⟨.ref a, e1, hb.use S fun v2 G2 H2 g2 h2 S2 => ?_⟩
  obtain ⟨v, e5, e6⟩ := atI_dv (e3.mono g2.ff) h
  exact ⟨a, vs, k, v, rfl, h2.eint, .inl (.inl (g2.hh _ _ e2)), e5, q.da g2 e6⟩
theorem ex_slL (ha : EX X a ρ (.da (.list ds))) (hl : EO X lo ρ l) (hu : EO X hi ρ u) : EX X (.Subscript a (.Slice lo hi none p2) pos) ρ (.ow (cutD ds l u)) := .mk fun B F0 F H σ Q S q => by
  obtain ⟨tl, pl, ql⟩ := hl
  obtain ⟨tu, pu, qu⟩ := hu
  refine PEw (pe_slice sl_list pe_w pl pu) (ha.use S fun v1 G1 H1 g1 h1 S1 => ql B F0 G1 H1 σ _ S1 fun G2 H2 g2 => qu B F0 G2 H2 σ _ (S1.grow g2) fun G3 H3 g3 => ?_)
  obtain ⟨p, xs, rfl, e1, e2⟩ := ((h1.mono g2.ff).mono g3.ff).elst
  exact ⟨p, xs, rfl, .inl (.inl (g3.fh _ _ e1)), fun p hp => q.ow ((g1.trans g2).trans g3) hp (cut_dv e2)⟩
end

/-! ### targets -/
/-- σ' is σ but at is -/
def Agree (is : List Nat) (σ σ' : L2.St) : Prop := σ'.length = σ.length ∧ ∀ i, i ∉ is → σ'[i]? = σ[i]?
theorem Agree.refl {σ : L2.St} : Agree [] σ σ := ⟨rfl, fun _ _ => rfl⟩
theorem Agree.trans {is js : List Nat} {σ σ' σ'' : L2.St} (a : Agree is σ σ') (b : Agree js σ' σ'') : Agree (is ++ js) σ σ'' :=
  ⟨b.1.trans a.1, fun i h => (b.2 i fun z => h (List.mem_append_right _ z)).trans (a.2 i fun z => h (List.mem_append_left _ z))⟩
theorem wipe_in {σ : L2.St} {i : Nat} : ∀ {vs : List Nat}, i ∈ vs → i < σ.length → (wipe σ vs)[i]? = some none
  | v :: vs, h, hl => by
    unfold wipe
    by_cases e : v = i
    · subst e
      rw [List.getElem?_set_self (by rw [wipe_length]; exact hl)]
    · rw [List.getElem?_set_ne e]
      exact wipe_in (by
        rcases List.mem_cons.mp h with z | z
        · exact absurd z.symm e
        · exact z) hl
theorem Agree.wipe {is vs : List Nat} {σ σ' : L2.St} (a : Agree is σ σ') (h : ∀ i ∈ is, i ∈ vs) : wipe σ' vs = L2.wipe σ vs := by
  apply List.ext_getElem?
  intro i
  by_cases hi : i ∈ vs
  · by_cases hl : i < σ.length
    · rw [wipe_in hi hl, wipe_in hi (by rw [a.1]; exact hl)]
    · rw [List.getElem?_eq_none (by rw [wipe_length, a.1]; omega), List.getElem?_eq_none (by rw [wipe_length]; omega)]
  · rw [wipe_out hi, wipe_out hi]
    exact a.2 i fun z => hi (h i z)
section
variable (X : Cx)
structure BT (tg : Expr) (is : List Nat) (d : PyData) (ρ ρ' : Env') : Prop where
  run : ∀ B F0 F H σ v (Q : L2.St → Hp → Prop), Sl X.K B F0 F H σ ρ → Dv F v d → (∀ σ', Agree is σ σ' → Sl X.K B F0 F H σ' ρ' → Q σ' H) → wG X tg v σ H Q
structure BTs (ts : List Expr) (is : List Nat) (ds : List PyData) (ρ ρ' : Env') : Prop where
  run : ∀ B F0 F H σ vs (Q : L2.St → Hp → Prop), Sl X.K B F0 F H σ ρ → DvAll F vs ds → (∀ σ', Agree is σ σ' → Sl X.K B F0 F H σ' ρ' → Q σ' H) → wGs X ts vs σ H Q
end
section
variable {X : Cx} {ρ ρ1 ρ2 : Env'} {e : Expr} {es : List Expr} {pos : Pos} {d : PyData} {ds : List PyData} {x : Str} {is js : List Nat}
theorem bt_name (i : Nat) (hN : X.N.Nodup) (hi : X.N[i]? = some x := by rfl) (hx : storeOk X.env.scope (X.fn x) x = true := by kernel_rfl) : BT X (.Name x pos) [i] d ρ (ρ.set i (.da d)) := .mk fun B F0 F H σ v Q S hv k =>
  PGw (pg_name hN hi (storeOk_loc hx) (storeOk_fn hx)) (k _ ⟨List.length_set .., fun j hj => List.getElem?_set_ne (fun z => hj (by simp [z]))⟩ (S.setDa i hv))
theorem bts_nil : BTs X [] [] [] ρ ρ := .mk fun B F0 F H σ vs Q S hv k => PGsw pgs_nil (by cases hv; exact ⟨rfl, k σ Agree.refl S⟩)
theorem bts_cons (h1 : BT X e is d ρ ρ1) (h2 : BTs X es js ds ρ1 ρ2) (hs : (assignEach (e :: es) X.env).map (·.2) = assign e X.env :: (assignEach es X.env).map (·.2) := by exact asg_cons rfl) : BTs X (e :: es) (is ++ js) (d :: ds) ρ ρ2 := .mk fun B F0 F H σ vs Q S hv k => by
  cases hv with
  | cons a r =>
    exact PGsw (pgs_cons pg_w pgs_w hs) ⟨_, _, rfl, h1.run B F0 F H σ _ _ S a fun σ1 a1 S1 => h2.run B F0 F H σ1 _ Q S1 r fun σ2 a2 S2 => k σ2 (a1.trans a2) S2⟩
theorem bt_tup {k : Nat} {n : Nat} (hc : X.calm = true) (h : BTs X es is ds ρ ρ1) (hl : ds.length = n := by rfl) (hn : (assignEach es X.env).length = n := by exact asg_len) (hst : (assignEach es X.env).findIdx? (·.1) = none := by exact asg_none rfl) : BT X (.Tuple es k pos) is (.tuple ds) ρ ρ1 := .mk fun B F0 F H σ v Q S hv q => by
  obtain ⟨a, xs, rfl, e1, e2⟩ := hv.etup
  exact PGw (pg_tup hc pgs_w hn hst) ⟨a, xs, rfl, .inl (.inl (S.ex _ _ e1)), e2.length.trans hl, h.run B F0 F H σ xs Q S e2 q⟩
end

/-! ### what is walked -/
def Yields (J : It) (F : Hp) (ds : List PyData) : Prop := ∀ i F1 H, Ex F F1 → Ex F1 H →
  (i < ds.length → J.go i H ∧ ∀ x H', J.yld i H x H' → ∃ G d, ds[i]? = some d ∧ Grow F1 H G H' ∧ Dv G x d) ∧ (ds.length ≤ i → J.stop i H)
section
variable (X : Cx)
structure IT (tg iter : Expr) (ρ : Env') (ds : List PyData) : Prop where
  run : ∀ B F0 F H σ (R : It → Hp → Prop), Sl X.K B F0 F H σ ρ → (∀ J G H', Grow F H G H' → Yields J G ds → R J H') → wI X tg iter σ H R
end
section
variable {X : Cx} {ρ : Env'} {tg e e2 a b : Expr} {pos p : Pos} {d : PyData} {ds es : List PyData}
theorem yields_lst {K : PySem.W.Frag} {F : Hp} {a : Addr} {xs : List V} (h : F a = some (.lst xs)) (hd : DvAll F xs ds) : Yields (Itl K a) F ds := fun i F1 H e1 e2 => by
  have hq : SqL K H a xs := .inl (.inl (e2 _ _ (e1 _ _ h)))
  refine ⟨fun hi => ?_, fun hi => ⟨xs, hq, by rw [hd.length]; exact hi⟩⟩
  obtain ⟨v, e3, e4⟩ := hd.get (List.getElem?_eq_getElem hi)
  refine ⟨⟨xs, v, hq, e3⟩, fun x H' y => ?_⟩
  obtain ⟨rfl, y⟩ := y
  have e5 := y xs hq
  rw [e3] at e5
  cases e5
  exact ⟨F1, _, List.getElem?_eq_getElem hi, Grow.refl e2, e4.mono e1⟩
theorem yields_tup {K : PySem.W.Frag} {F : Hp} {a : Addr} {xs : List V} (h : F a = some (.tup xs)) (hd : DvAll F xs ds) : Yields (Itt K a) F ds := fun i F1 H e1 e2 => by
  have hq : SqT K H a xs := .inl (.inl (e2 _ _ (e1 _ _ h)))
  refine ⟨fun hi => ?_, fun hi => ⟨xs, hq, by rw [hd.length]; exact hi⟩⟩
  obtain ⟨v, e3, e4⟩ := hd.get (List.getElem?_eq_getElem hi)
  refine ⟨⟨xs, v, hq, e3⟩, fun x H' y => ?_⟩
  obtain ⟨rfl, y⟩ := y
  have e5 := y xs hq
  rw [e3] at e5
  cases e5
  exact ⟨F1, _, List.getElem?_eq_getElem hi, Grow.refl e2, e4.mono e1⟩
theorem it_list (h : EX X e ρ (.da (.list ds))) : IT X tg e ρ ds := .mk fun B F0 F H σ R S k =>
  PIw (pi_list pe_w) (h.use S fun v G H' g hv _ => by
    obtain ⟨a, xs, rfl, e1, e2⟩ := hv.elst
    exact ⟨a, rfl, ⟨xs, .inl (.inl (g.fh _ _ e1))⟩, k _ G H' g (yields_lst e1 e2)⟩)
theorem it_tup (h : EX X e ρ (.da (.tuple ds))) : IT X tg e ρ ds := .mk fun B F0 F H σ R S k =>
  PIw (pi_tup pe_w) (h.use S fun v G H' g hv _ => by
    obtain ⟨a, xs, rfl, e1, e2⟩ := hv.etup
    exact ⟨a, rfl, ⟨xs, .inl (.inl (g.fh _ _ e1))⟩, k _ G H' g (yields_tup e1 e2)⟩)
theorem it_range1 {n : Int} (hm : X.mg "range" = none) (h : EA X [a] ρ [.int n]) (hn : -1000000 ≤ n ∧ n ≤ 1000000) (hg : Gl X "range" := by exact gl_of (by kernel_rfl)) (hs : starEach [a] X.env = [(false, eval a X.env)] := by exact star_one rfl) :
    IT X tg (.Call (.Name "range" p) [a] [] pos) ρ ((List.range n.toNat).map fun (i : Nat) => .int (i : Int)) := .mk fun B F0 F H σ R S k =>
  PIw (pi_range1 hg hm pa_w hs) (h.use S fun v G H' g hv _ => by
    refine ⟨n, hv.ints (ns := [n]), by omega, by omega, k _ G H' g fun i F1 H1 e1 e2 => ⟨fun hi => ?_, fun hi => ?_⟩⟩
    · rw [List.length_map, List.length_range] at hi
      refine ⟨hi, fun x H' y => ?_⟩
      obtain ⟨rfl, rfl⟩ := y
      refine ⟨F1, .int ((i : Nat) : Int), by rw [List.getElem?_map, List.getElem?_range hi]; rfl, Grow.refl e2, ?_⟩
      rw [Int.zero_add]
      exact .int _
    · rw [List.length_map, List.length_range] at hi
      exact hi)
theorem it_range2 {m n : Int} (hm : X.mg "range" = none) (h : EA X [a, b] ρ [.int m, .int n]) (hn : -1000000 ≤ m ∧ m ≤ 1000000 ∧ -1000000 ≤ n ∧ n ≤ 1000000) (hg : Gl X "range" := by exact gl_of (by kernel_rfl))
    (hs : starEach [a, b] X.env = [(false, eval a X.env), (false, eval b X.env)] := by exact star_two rfl rfl) (hs2 : starEach [b] X.env = [(false, eval b X.env)] := by exact star_one rfl) :
    IT X tg (.Call (.Name "range" p) [a, b] [] pos) ρ ((List.range (n - m).toNat).map fun (i : Nat) => .int (m + (i : Int))) := .mk fun B F0 F H σ R S k =>
  PIw (pi_range2 hg hm pa_w hs hs2) (h.use S fun v G H' g hv S1 => by
    refine ⟨m, n, hv.ints (ns := [m, n]), by omega, k _ G H' g fun i F1 H1 e1 e2 => ⟨fun hi => ?_, fun hi => ?_⟩⟩
    · rw [List.length_map, List.length_range] at hi
      refine ⟨hi, fun x H' y => ?_⟩
      obtain ⟨rfl, rfl⟩ := y
      exact ⟨F1, .int (m + ((i : Nat) : Int)), by rw [List.getElem?_map, List.getElem?_range hi]; rfl, Grow.refl e2, .int _⟩
    · rw [List.length_map, List.length_range] at hi
      exact hi)
def signs (z : Str) : List PyData := z.cps.toList.map fun c => .str ⟨#[c]⟩
theorem it_str {z : Str} (h : EX X e ρ (.da (.str z))) : IT X tg e ρ (signs z) := .mk fun B F0 F H σ R S k =>
  PIw (pi_str pe_w) (h.use S fun v G H' g hv _ => by
    refine ⟨z, hv.estr, k _ G H' g fun i F1 H1 e1 e2 => ⟨fun hi => ?_, fun hi => ?_⟩⟩
    · unfold signs at hi
      rw [List.length_map, Array.length_toList] at hi
      refine ⟨hi, fun x H' y => ?_⟩
      obtain ⟨rfl, c, hc, rfl⟩ := y
      refine ⟨F1, _, ?_, Grow.refl e2, .str _⟩
      unfold signs
      rw [List.getElem?_map, Array.getElem?_toList, hc]
      rfl
    · unfold signs at hi
      rw [List.length_map, Array.length_toList] at hi
      exact hi)
def enumD : Nat → List PyData → List PyData
  | _, [] => []
  | n, d :: ds => .tuple [.int (n : Nat), d] :: enumD (n + 1) ds
theorem enumD_len : ∀ (n : Nat) (ds : List PyData), (enumD n ds).length = ds.length
  | _, [] => rfl
  | n, d :: ds => by unfold enumD; rw [List.length_cons, List.length_cons, enumD_len]
theorem enumD_get : ∀ (n : Nat) (ds : List PyData) (i : Nat), (enumD n ds)[i]? = (ds[i]?).map fun d => .tuple [.int ((n + i : Nat) : Int), d]
  | _, [], _ => by unfold enumD; simp
  | n, d :: ds, 0 => by unfold enumD; simp
  | n, d :: ds, i + 1 => by
    unfold enumD
    rw [List.getElem?_cons_succ, List.getElem?_cons_succ, enumD_get (n + 1) ds i, show n + 1 + i = n + (i + 1) by omega]
theorem it_enum {elts : List Expr} {kk : Nat} {tpos : Pos} (hm : X.mg "enumerate" = none) (h : EA X [e] ρ [.list ds]) (hg : Gl X "enumerate" := by exact gl_of (by kernel_rfl)) (hs : starEach [e] X.env = [(false, eval e X.env)] := by exact star_one rfl) :
    IT X (.Tuple elts kk tpos) (.Call (.Name "enumerate" p) [e] [] pos) ρ (enumD 0 ds) := .mk fun B F0 F H σ R S k =>
  PIw (pi_enum hg hm pa_w hs) (h.use S fun vs G H' g hvs _ => by
    obtain ⟨v, rfl, hv⟩ : ∃ v, vs = [v] ∧ Dv G v (.list ds) := by
      cases hvs with
      | cons a r => cases r; exact ⟨_, rfl, a⟩
    obtain ⟨a, xs, rfl, h1, h2⟩ := hv.elst
    refine ⟨a, xs, rfl, .inl (.inl (g.fh _ _ h1)), k _ G H' g fun i F1 H1 e1 e2 => ?_⟩
    have hq : SqL X.K H1 a xs := .inl (.inl (e2 _ _ (e1 _ _ h1)))
    refine ⟨fun hi => ?_, fun hi => ⟨xs, hq, by rw [h2.length, ← enumD_len 0 ds]; exact hi⟩⟩
    rw [enumD_len] at hi
    obtain ⟨v, e3, e4⟩ := h2.get (List.getElem?_eq_getElem hi)
    refine ⟨⟨xs, v, hq, e3⟩, fun x H' y => ?_⟩
    obtain ⟨T, x', rfl, nT, rfl, y⟩ := y
    have e5 := y xs hq
    rw [e3] at e5
    cases e5
    refine ⟨upd F1 T (.tup [.int (i : Nat), v]), _, by rw [enumD_get, List.getElem?_eq_getElem hi]; rfl, (Grow.refl e2).new nT, .tup upd_same ?_⟩
    rw [Nat.zero_add]
    exact .cons (.int _) (.cons ((e4.mono e1).mono (Ex.new (Ex.noneOf e2 nT))) .nil))
def zipD : List PyData → List PyData → List PyData
  | d :: ds, e :: es => .tuple [d, e] :: zipD ds es
  | _, _ => []
theorem zipD_len : ∀ (ds es : List PyData), (zipD ds es).length = min ds.length es.length
  | [], _ => by unfold zipD; simp
  | _ :: _, [] => by unfold zipD; simp
  | d :: ds, e :: es => by unfold zipD; rw [List.length_cons, List.length_cons, List.length_cons, zipD_len]; omega
theorem zipD_get : ∀ (ds es : List PyData) (i : Nat) (d e : PyData), ds[i]? = some d → es[i]? = some e → (zipD ds es)[i]? = some (.tuple [d, e])
  | [], _, _, _, _, h, _ => by simp at h
  | _ :: _, [], _, _, _, _, h => by simp at h
  | a :: ds, b :: es, 0, d, e, h1, h2 => by simp at h1 h2; subst h1 h2; unfold zipD; rfl
  | a :: ds, b :: es, i + 1, d, e, h1, h2 => by
    unfold zipD
    rw [List.getElem?_cons_succ]
    exact zipD_get ds es i d e (by simpa using h1) (by simpa using h2)
theorem it_zip {elts : List Expr} {kk : Nat} {tpos : Pos} (hm : X.mg "zip" = none) (h : EA X [e, e2] ρ [.list ds, .list es]) (hg : Gl X "zip" := by exact gl_of (by kernel_rfl))
    (hs : starEach [e, e2] X.env = (false, eval e X.env) :: starEach [e2] X.env := by exact star_cons rfl) (hpl : (backTo pos (starEach [e2] X.env)).any (·.1) = false := by exact star_none rfl) :
    IT X (.Tuple elts kk tpos) (.Call (.Name "zip" p) [e, e2] [] pos) ρ (zipD ds es) := .mk fun B F0 F H σ R S k =>
  PIw (pi_zip hg hm pa_w hs hpl) (h.use S fun vs G2 H2 g2 hvs S1 => by
    obtain ⟨v, u, rfl, hv, hv2⟩ : ∃ v u, vs = [v, u] ∧ Dv G2 v (.list ds) ∧ Dv G2 u (.list es) := by
      cases hvs with
      | cons a r => cases r with
        | cons b r => cases r; exact ⟨_, _, rfl, a, b⟩
    obtain ⟨a, xs, rfl, h1, h2⟩ := hv.elst
    obtain ⟨b, ys, rfl, h3, h4⟩ := hv2.elst
    refine ⟨a, b, xs, ys, rfl, .inl (.inl (g2.fh _ _ h1)), .inl (.inl (g2.fh _ _ h3)), k _ G2 H2 g2 fun i F1 H1 e1 e2 => ?_⟩
    have hq : SqL X.K H1 a xs := .inl (.inl (e2 _ _ (e1 _ _ h1)))
    have hq2 : SqL X.K H1 b ys := .inl (.inl (e2 _ _ (e1 _ _ h3)))
    refine ⟨fun hi => ?_, fun hi => ⟨xs, ys, hq, hq2, ?_⟩⟩
    · rw [zipD_len] at hi
      have hi1 : i < ds.length := by omega
      have hi2 : i < es.length := by omega
      obtain ⟨v, e3, e4⟩ := h2.get (List.getElem?_eq_getElem hi1)
      obtain ⟨u, e5, e6⟩ := h4.get (List.getElem?_eq_getElem hi2)
      refine ⟨⟨xs, ys, v, u, hq, hq2, e3, e5⟩, fun x H' y => ?_⟩
      obtain ⟨T, x', y', rfl, nT, rfl, y1, y2⟩ := y
      have e7 := y1 xs hq
      rw [e3] at e7
      cases e7
      have e8 := y2 ys hq2
      rw [e5] at e8
      cases e8
      have en : Ex F1 (upd F1 T (.tup [v, u])) := Ex.new (Ex.noneOf e2 nT)
      exact ⟨_, _, zipD_get ds es i _ _ (List.getElem?_eq_getElem hi1) (List.getElem?_eq_getElem hi2), (Grow.refl e2).new nT, .tup upd_same (.cons ((e4.mono e1).mono en) (.cons ((e6.mono e1).mono en) .nil))⟩
    · rw [zipD_len] at hi
      rw [h2.length, h4.length]
      omega)
end
end Mx

set_option Elab.async false
set_option linter.all false
set_option maxRecDepth 100000
/-! Mx5: comprehensions, statements, loops. -/
namespace Mx
open PySem PySem.Spec PyProof.Rows L2

section
variable {K : PySem.W.Frag} {B F0 F H G H' : Hp} {σ : L2.St} {ρ : Env'}
def wipeE (ρ : Env') : List Nat → Env'
  | [] => ρ
  | v :: vs => (wipeE ρ vs).set v .un
theorem Sl.wiped (S : Sl K B F0 F H σ ρ) : ∀ vs : List Nat, Sl K B F0 F H (wipe σ vs) (wipeE ρ vs)
  | [] => S
  | v :: vs => by
    unfold wipe wipeE
    exact (Sl.wiped S vs).setUn v none
/-- a value put ahead -/
theorem Sl.cons {s : Slot} {v : V} {as : List Addr} (S : Sl K B F0 F H σ ρ) (g : Grow F H G H') (h : SlotOk K G H' (some v) s as) (n : ∀ a ∈ as, H a = none ∧ G a = none ∧ H' a ≠ none) : Sl K B F0 G H' (some v :: σ) (s :: ρ) := by
  have S' := S.grow g
  obtain ⟨fp, f1, f2, f3⟩ := S.fp
  have z : ∀ i a, a ∈ fp i → G a = none := fun i a h => by rw [g.fr a (f2 i a h).2.2]; exact (f2 i a h).1
  refine ⟨S'.ex, S'.kb, S'.kf, by rw [List.length_cons, List.length_cons, S.len], fun k => match k with | 0 => as | k + 1 => fp k, fun j k a hj hk => ?_, fun j a hj => ?_, fun j t e => ?_⟩
  · cases j with
    | zero => cases k with
      | zero => rfl
      | succ k => exact absurd (n a hj).1 (f2 k a hk).2.2
    | succ j => cases k with
      | zero => exact absurd (n a hk).1 (f2 j a hj).2.2
      | succ k => exact congrArg (· + 1) (f1 j k a hj hk)
  · cases j with
    | zero => exact ⟨(n a hj).2.1, Ex.noneOf S.kb (n a hj).1, (n a hj).2.2⟩
    | succ j => exact ⟨z j a hj, (f2 j a hj).2.1, Ex.someOf g.hh (f2 j a hj).2.2⟩
  · cases j with
    | zero =>
      have e' : s = t := by simpa using e
      subst e'
      exact h
    | succ j =>
      have q := (f3 j t (by simpa using e)).mono g.ff (H' := H') (fun a h => by
        have q := (f2 j a h).2.2
        cases e2 : H a with
        | none => exact absurd e2 q
        | some o => exact g.hh a o e2) (z j)
      exact q
end

section
variable (X : Cx)
structure ETs (ifs : List Expr) (ρ : Env') (b : Bool) : Prop where
  run : ∀ B F0 F H σ (Q : Bool → Hp → Prop), Sl X.K B F0 F H σ ρ → (∀ G H', Grow F H G H' → Q b H') → wTs X ifs σ H Q
end
section
variable {X : Cx} {ρ : Env'} {c : Expr} {b : Bool}
theorem ets_nil : ETs X [] ρ true := .mk fun B F0 F H σ Q S k => PTsw pts_nil (k F H (Grow.refl S.ex))
theorem ets_one (h : ET X c ρ b) : ETs X [c] ρ b := .mk fun B F0 F H σ Q S k => PTsw (pts_one pt_w) (h.run B F0 F H σ Q S k)
end

/-! ### comprehensions -/
section
variable {X : Cx} {ρ : Env'} {elt tg iter : Expr} {ifs : List Expr} {scope : Scope} {pos : Pos}
/-- the block's readings, whatever block runs -/
def bG (X : Cx) (scope : Scope) (tg : Expr) : TG := fun v σ H Q => ∀ s0 H0 C cl fp, wG (X.blk s0 H0 scope (compEnvC scope cl C X.env) fp) tg v σ H Q
def bT (X : Cx) (scope : Scope) (ifs : List Expr) : TT := fun σ H Q => ∀ s0 H0 C cl fp, wTs (X.blk s0 H0 scope (compEnvC scope cl C X.env) fp) ifs σ H Q
def bE (X : Cx) (scope : Scope) (e : Expr) : TE := fun σ H Q => ∀ s0 H0 C cl fp, wE (X.blk s0 H0 scope (compEnvC scope cl C X.env) fp) e σ H Q
/-- what is asked of a comprehension's block, for one item -/
def BlkAt (X : Cx) (scope : Scope) (tg : Expr) (ifs : List Expr) (elt : Expr) (own : List Nat) (ρ : Env') (d : PyData) (b : Bool) (r : PyData) : Prop :=
  ∃ is ρ1, (∀ i ∈ is, i ∈ own) ∧ ∀ s0 H0 C cl fp, BT (X.blk s0 H0 scope (compEnvC scope cl C X.env) fp) tg is d (wipeE ρ own) ρ1 ∧ ETs (X.blk s0 H0 scope (compEnvC scope cl C X.env) fp) ifs ρ1 b ∧
    (b = true → EX (X.blk s0 H0 scope (compEnvC scope cl C X.env) fp) elt ρ1 (.da r))
theorem lc_read {α : Type} {vs : List Nat} {xs : List α} {enc : α → PyData} {p : α → Bool} {f : α → PyData} (hi : IT X tg iter ρ (xs.map enc)) (body : ∀ x ∈ xs, BlkAt X scope tg ifs elt vs ρ (enc x) (p x) (f x)) (hz : xs.length < 100000)
    {B F0 F H : Hp} {σ : L2.St} {Q : VK} (S : Sl X.K B F0 F H σ ρ) (k : Kont X.K F H (.ow ((xs.filter p).map f)) Q) : tLc (wI X tg iter) (bG X scope tg) (bT X scope ifs) (bE X scope elt) vs σ H Q := by
  refine hi.run B F0 F H σ _ S fun J G H1 g Y D hD => ?_
  have S1 := S.grow g
  refine ⟨fun i m Hc => m = xs.length - i ∧ i ≤ xs.length ∧ ∃ Fc acc, Grow G H1 Fc Hc ∧ Fc D = none ∧ Hc D = some (.lst acc) ∧ DvAll Fc acc (((xs.take i).filter p).map f), ⟨xs.length, by omega, Nat.zero_le _, G, [], (Grow.refl S1.ex).loose hD, Ex.noneOf S1.ex hD, upd_same, .nil⟩, ?_⟩
  rintro i m Hc ⟨rfl, hil, Fc, acc, gc, nD, eD, hacc⟩
  have Yi := Y i Fc Hc gc.ff gc.fh
  rw [List.length_map] at Yi
  by_cases hlt : i < xs.length
  · refine .inr ⟨(Yi.1 hlt).1, fun H' => i + 1 ≤ xs.length ∧ ∃ Fc acc, Grow G H1 Fc H' ∧ Fc D = none ∧ H' D = some (.lst acc) ∧ DvAll Fc acc (((xs.take (i + 1)).filter p).map f), fun H' hh => ⟨xs.length - (i + 1), by omega, rfl, hh.1, hh.2⟩, fun x H' y => ?_⟩
    obtain ⟨G', d, ed, g', dv⟩ := (Yi.1 hlt).2 x H' y
    rw [List.getElem?_map, List.getElem?_eq_getElem hlt] at ed
    have ed' : enc xs[i] = d := by simpa using ed
    subst ed'
    have Sx := (((S1.grow gc).grow g').wiped vs)
    obtain ⟨is, ρ1, his, blk⟩ := body xs[i] (List.getElem_mem hlt)
    have tk : xs.take (i + 1) = xs.take i ++ [xs[i]] := List.take_succ_eq_append_getElem hlt
    have nD' : G' D = none := by rw [g'.fr D (by rw [eD]; intro z; cases z)]; exact nD
    have eD' : H' D = some (.lst acc) := g'.hh _ _ eD
    intro s0 H0 C cl fp
    refine (blk s0 H0 C cl fp).1.run B F0 G' H' _ x _ Sx dv fun σ2 a2 S2 => ⟨a2.wipe his |>.trans ?_, fun s0 H0 C cl fp => ?_⟩
    · -- wiping twice
      apply List.ext_getElem?
      intro j
      by_cases hj : j ∈ vs
      · by_cases hl : j < σ.length
        · rw [wipe_in hj (by rw [wipe_length]; exact hl), wipe_in hj hl]
        · rw [List.getElem?_eq_none (by rw [wipe_length, wipe_length]; omega), List.getElem?_eq_none (by rw [wipe_length]; omega)]
      · rw [wipe_out hj, wipe_out hj]
    refine (blk s0 H0 C cl fp).2.1.run B F0 G' H' σ2 _ S2 fun G2 H2 g2 => ?_
    have S3 := S2.grow g2
    have nD2 : G2 D = none := by rw [g2.fr D (by rw [eD']; intro z; cases z)]; exact nD'
    have eD2 : H2 D = some (.lst acc) := g2.hh _ _ eD'
    cases hp : p xs[i] with
    | false =>
      simp only [Bool.false_eq_true, if_false]
      refine ⟨hlt, G2, acc, (gc.trans g').trans g2, nD2, eD2, ?_⟩
      rw [tk, List.filter_append, List.filter_cons, if_neg (by rw [hp]; decide), List.filter_nil, List.append_nil]
      exact (hacc.mono g'.ff).mono g2.ff
    | true =>
      simp only [if_true]
      intro s0 H0 C cl fp
      refine ((blk s0 H0 C cl fp).2.2 hp).use S3 fun y G3 H3 g3 dy S4 => ?_
      have nD3 : G3 D = none := by rw [g3.fr D (by rw [eD2]; intro z; cases z)]; exact nD2
      have eD3 : H3 D = some (.lst acc) := g3.hh _ _ eD2
      have gg := ((gc.trans g').trans g2).trans g3
      have hl : acc.length ≤ i := by
        rw [hacc.length, List.length_map]
        have q := List.length_filter_le p (xs.take i)
        rw [List.length_take] at q
        omega
      refine ⟨acc, eD3, sz_lt (by omega), hlt, G3, acc ++ [y], ⟨gg.ff, gg.hh.mut hD, gg.fh.mut nD3, gg.fr⟩, nD3, upd_same, ?_⟩
      rw [tk, List.filter_append, List.filter_cons, if_pos hp, List.filter_nil, List.map_append]
      exact (((hacc.mono g'.ff).mono g2.ff).mono g3.ff).append (.cons dy .nil)
  · have ei : i = xs.length := by omega
    subst ei
    refine .inl ⟨Yi.2 (Nat.le_refl _), ?_⟩
    rw [List.take_length] at hacc
    exact (k.go g) (.ref D) Fc Hc [D] gc ⟨D, acc, rfl, rfl, eD, hacc⟩ fun a ha => by
      have e : a = D := by simpa using ha
      subst e
      exact ⟨hD, nD, by rw [eD]; intro z; cases z⟩
theorem ex_lc {α : Type} (own : List (Str × Nat)) (xs : List α) (enc : α → PyData) (p : α → Bool) (f : α → PyData) (hc : X.calm = true) (hN : X.N.Nodup) (ok : BlkOk X.N X.env.scope scope own) (hi : IT X tg iter ρ (xs.map enc))
    (body : ∀ x ∈ xs, BlkAt X scope tg ifs elt (own.map (·.2)) ρ (enc x) (p x) (f x)) (hz : xs.length < 100000) (hs : ∀ x, foldedSetIterable iter X.env x = pure x := by intro _; rfl) :
    EX X (.ListComp elt [⟨tg, iter, ifs, 0⟩] scope pos) ρ (.ow ((xs.filter p).map f)) := .mk fun B F0 F H σ Q S k =>
  PEw (pe_lc (g := bG X scope tg) (tt := bT X scope ifs) (te := bE X scope elt) hc hN pi_w ok (fun s H C cl fp => ⟨fun pins s' σ H' v u Q I r h => h _ _ _ _ _ pins s' u I r⟩) (fun s H C cl fp => ⟨fun pins s' σ H' Q I h => h _ _ _ _ _ pins s' I⟩)
    (fun s H C cl fp => ⟨fun pins s' σ H' Q I h => h _ _ _ _ _ pins s' I⟩) hs) (lc_read hi body hz S k)
end

/-! ### statements -/
inductive Out where
  | nx (ρ : Env')
  | rt (s : Slot) (ρ : Env')
  | bk (ρ : Env')
  | ct (ρ : Env')
def OutOk (K : PySem.W.Frag) (B F0 F : Hp) (D : Ends) : Out → Prop
  | .nx ρ => ∀ F' H' σ', Ex F F' → Sl K B F0 F' H' σ' ρ → D.nx σ' H'
  | .bk ρ => ∀ F' H' σ', Ex F F' → Sl K B F0 F' H' σ' ρ → D.bk σ' H'
  | .ct ρ => ∀ F' H' σ', Ex F F' → Sl K B F0 F' H' σ' ρ → D.ct σ' H'
  | .rt s ρ => ∀ F' H' σ' v, Ex F F' → Sl K B F0 F' H' (some v :: σ') (s :: ρ) → D.rt v H'
theorem OutOk.go {K : PySem.W.Frag} {B F0 F G : Hp} {D : Ends} {o : Out} (h : OutOk K B F0 F D o) (e : Ex F G) : OutOk K B F0 G D o := by
  cases o with
  | nx ρ => exact fun F' H' σ' e' => h F' H' σ' (e.trans e')
  | bk ρ => exact fun F' H' σ' e' => h F' H' σ' (e.trans e')
  | ct ρ => exact fun F' H' σ' e' => h F' H' σ' (e.trans e')
  | rt s ρ => exact fun F' H' σ' v e' => h F' H' σ' v (e.trans e')
section
variable (X : Cx)
structure RS (st : List Stmt) (ρ : Env') (o : Out) : Prop where
  run : ∀ B F0 F H σ D, Sl X.K B F0 F H σ ρ → OutOk X.K B F0 F D o → wSs X st D σ H
structure R1 (st : Stmt) (ρ : Env') (o : Out) : Prop where
  run : ∀ B F0 F H σ D, Sl X.K B F0 F H σ ρ → OutOk X.K B F0 F D o → wS X st D σ H
end
/-- some slots forgotten -/
inductive Weak : Env' → Env' → Prop
  | nil : Weak [] []
  | same {s ρ ρ'} : Weak ρ ρ' → Weak (s :: ρ) (s :: ρ')
  | un {s ρ ρ'} : Weak ρ ρ' → Weak (s :: ρ) (.un :: ρ')
theorem Weak.refl : ∀ ρ : Env', Weak ρ ρ
  | [] => .nil
  | _ :: ρ => .same (Weak.refl ρ)
theorem Weak.get : ∀ {ρ ρ' : Env'}, Weak ρ ρ' → ∀ i : Nat, ρ'[i]? = ρ[i]? ∨ ρ'[i]? = some Slot.un
  | _, _, .nil, _ => .inl rfl
  | _, _, .same _, 0 => .inl rfl
  | _, _, .un _, 0 => .inr rfl
  | _, _, .same w, i + 1 => by simpa using w.get i
  | _, _, .un w, i + 1 => by simpa using w.get i
theorem Weak.len : ∀ {ρ ρ' : Env'}, Weak ρ ρ' → ρ'.length = ρ.length
  | _, _, .nil => rfl
  | _, _, .same w => congrArg (· + 1) w.len
  | _, _, .un w => congrArg (· + 1) w.len
theorem Sl.weak {K : PySem.W.Frag} {B F0 F H : Hp} {σ : L2.St} {ρ ρ' : Env'} (S : Sl K B F0 F H σ ρ) (w : Weak ρ ρ') : Sl K B F0 F H σ ρ' := by
  obtain ⟨fp, f1, f2, f3⟩ := S.fp
  refine ⟨S.ex, S.kb, S.kf, S.len.trans w.len.symm, fun i => match ρ'[i]? with | some .un => [] | _ => fp i, fun i j a hi hj => ?_, fun i a hi => ?_, fun i s e => ?_⟩
  · simp only at hi hj
    split at hi
    · cases hi
    · split at hj
      · cases hj
      · exact f1 i j a hi hj
  · simp only at hi
    split at hi
    · cases hi
    · exact f2 i a hi
  · simp only
    rcases w.get i with z | z
    · split
      · rename_i q
        rw [q] at e
        cases e
        rfl
      · exact f3 i s (by rw [← z]; exact e)
    · rw [z] at e
      cases e
      rw [z]
      rfl
inductive ForR (X : Cx) (tg : Expr) (body : List Stmt) : List PyData → Env' → Out → Prop
  | nil {ρ} : ForR X tg body [] ρ (.nx ρ)
  | next {d ds ρ ρ1 ρ2 is o} : BT X tg is d ρ ρ1 → RS X body ρ1 (.nx ρ2) → ForR X tg body ds ρ2 o → ForR X tg body (d :: ds) ρ o
  | cont {d ds ρ ρ1 ρ2 is o} : BT X tg is d ρ ρ1 → RS X body ρ1 (.ct ρ2) → ForR X tg body ds ρ2 o → ForR X tg body (d :: ds) ρ o
  | brk {d ds ρ ρ1 ρ2 is} : BT X tg is d ρ ρ1 → RS X body ρ1 (.bk ρ2) → ForR X tg body (d :: ds) ρ (.nx ρ2)
  | ret {d ds ρ ρ1 ρ2 is s} : BT X tg is d ρ ρ1 → RS X body ρ1 (.rt s ρ2) → ForR X tg body (d :: ds) ρ (.rt s ρ2)
section
variable {X : Cx} {ρ ρ' ρ1 ρ2 : Env'} {st : Stmt} {rest body els : List Stmt} {o : Out} {e c tg iter : Expr} {pos : Pos} {s : Slot} {d : PyData} {ds es : List PyData} {x : Str} {is : List Nat}
theorem rs_weak (w : Weak ρ1 ρ2) (h : RS X rest ρ (.nx ρ1)) : RS X rest ρ (.nx ρ2) := .mk fun B F0 F H σ D S k => h.run B F0 F H σ D S fun F' H' σ' e S' => k F' H' σ' e (S'.weak w)
theorem rs_weakC (w : Weak ρ1 ρ2) (h : RS X rest ρ (.ct ρ1)) : RS X rest ρ (.ct ρ2) := .mk fun B F0 F H σ D S k => h.run B F0 F H σ D S fun F' H' σ' e S' => k F' H' σ' e (S'.weak w)
theorem rs_pre (w : Weak ρ ρ1) (h : RS X rest ρ1 o) : RS X rest ρ o := .mk fun B F0 F H σ D S k => h.run B F0 F H σ D (S.weak w) k
theorem rs_freeze (i : Nat) (hρ : ρ[i]? = some (.ow ds)) (h : RS X rest (ρ.set i (.da (.list ds))) o) : RS X rest ρ o := .mk fun B F0 F H σ D S k => by
  obtain ⟨F', e, S'⟩ := S.freeze hρ
  exact h.run B F0 F' H σ D S' (k.go e)
theorem r1_freeze (i : Nat) (hρ : ρ[i]? = some (.ow ds)) (h : R1 X st (ρ.set i (.da (.list ds))) o) : R1 X st ρ o := .mk fun B F0 F H σ D S k => by
  obtain ⟨F', e, S'⟩ := S.freeze hρ
  exact h.run B F0 F' H σ D S' (k.go e)
theorem rs_nil : RS X [] ρ (.nx ρ) := .mk fun B F0 F H σ D S k => PSsw pss_nil (k F H σ (Ex.refl F) S)
theorem rs_cons (h1 : R1 X st ρ (.nx ρ1)) (h2 : RS X rest ρ1 o) : RS X (st :: rest) ρ o := .mk fun B F0 F H σ D S k =>
  PSsw (pss_cons ps_w pss_w) (h1.run B F0 F H σ { D with nx := wSs X rest D } S fun F' H' σ' e S' => h2.run B F0 F' H' σ' D S' (k.go e))
theorem rs_ret (h1 : R1 X st ρ (.rt s ρ1)) : RS X (st :: rest) ρ (.rt s ρ1) := .mk fun B F0 F H σ D S k => PSsw (pss_cons ps_w pss_w) (h1.run B F0 F H σ { D with nx := wSs X rest D } S k)
theorem rs_brk (h1 : R1 X st ρ (.bk ρ1)) : RS X (st :: rest) ρ (.bk ρ1) := .mk fun B F0 F H σ D S k => PSsw (pss_cons ps_w pss_w) (h1.run B F0 F H σ { D with nx := wSs X rest D } S k)
theorem rs_cont (h1 : R1 X st ρ (.ct ρ1)) : RS X (st :: rest) ρ (.ct ρ1) := .mk fun B F0 F H σ D S k => PSsw (pss_cons ps_w pss_w) (h1.run B F0 F H σ { D with nx := wSs X rest D } S k)
theorem r_if {b : Bool} (hc : ET X c ρ b) (h1 : b = true → RS X body ρ o) (h2 : b = false → RS X els ρ o) : R1 X (.If c body els pos) ρ o := .mk fun B F0 F H σ D S k =>
  PSw (ps_if pt_w pss_w pss_w) (hc.use S fun G H' g S' => by
    cases b with
    | true => simp only [if_true]; exact (h1 rfl).run B F0 G H' σ D S' (k.go g.ff)
    | false => simp only [Bool.false_eq_true, if_false]; exact (h2 rfl).run B F0 G H' σ D S' (k.go g.ff))
theorem r_pass : R1 X (.Pass pos) ρ (.nx ρ) := .mk fun B F0 F H σ D S k => PSw ps_pass (k F H σ (Ex.refl F) S)
theorem r_continue : R1 X (.Continue pos) ρ (.ct ρ) := .mk fun B F0 F H σ D S k => PSw ps_continue (k F H σ (Ex.refl F) S)
theorem r_break : R1 X (.Break pos) ρ (.bk ρ) := .mk fun B F0 F H σ D S k => PSw ps_break (k F H σ (Ex.refl F) S)
theorem r_return (h : EX X e ρ s) : R1 X (.Return (some e) pos) ρ (.rt s ρ) := .mk fun B F0 F H σ D S k =>
  PSw (ps_ret pe_w) (h.run B F0 F H σ D.rt S fun v G H' as g ok n => k G H' σ v g.ff (S.cons g ok n))
/-- return of a name whose list is one's own -/
theorem r_returnO {ds : List PyData} {pn : Pos} (i : Nat) (hρ : ρ[i]? = some (.ow ds)) (hN : X.N[i]? = some x := by rfl) (hv : nameOk X.env.scope x = true := by kernel_rfl) : R1 X (.Return (some (.Name x pn)) pos) ρ (.rt (.ow ds) (ρ.set i .un)) := .mk fun B F0 F H σ D S k => by
  obtain ⟨fp, f1, f2, f3⟩ := id S.fp
  obtain ⟨a, vs, h1, h2, h3, h4⟩ := f3 i _ hρ
  refine PSw (ps_ret (pv i hN (nameOk_vis hv) (nameOk_d hv) (nameOk_c hv))) ⟨.ref a, at_get h2, k F H σ (.ref a) (Ex.refl F) ?_⟩
  have S' := S.drop i
  refine ⟨S'.ex, S'.kb, S'.kf, by rw [List.length_cons, List.length_cons, S'.len], fun k => match k with | 0 => [a] | k + 1 => pick i [] fp k, fun j k b hj hk => ?_, fun j b hj => ?_, fun j t e => ?_⟩
  · have key : ∀ k, b ∈ ([a] : List Addr) → b ∈ pick i [] fp k → False := fun k h5 h6 => by
      have eb : b = a := by simpa using h5
      subst eb
      by_cases z : k = i
      · rw [z, pick_same] at h6; cases h6
      · rw [pick_ne z] at h6; exact z (f1 k i b h6 (by rw [h1]; simp))
    cases j with
    | zero => cases k with
      | zero => rfl
      | succ k => exact (key k hj hk).elim
    | succ j => cases k with
      | zero => exact (key j hk hj).elim
      | succ k =>
        have hj' : b ∈ pick i [] fp j := hj
        have hk' : b ∈ pick i [] fp k := hk
        by_cases z : j = i
        · rw [z, pick_same] at hj'; cases hj'
        · by_cases z2 : k = i
          · rw [z2, pick_same] at hk'; cases hk'
          · rw [pick_ne z] at hj'; rw [pick_ne z2] at hk'; exact congrArg (· + 1) (f1 j k b hj' hk')
  · cases j with
    | zero =>
      have eb : b = a := by simpa using hj
      subst eb
      exact f2 i b (by rw [h1]; simp)
    | succ j =>
      have hj' : b ∈ pick i [] fp j := hj
      by_cases z : j = i
      · rw [z, pick_same] at hj'; cases hj'
      · rw [pick_ne z] at hj'; exact f2 j b hj'
  · cases j with
    | zero =>
      have e' : Slot.ow ds = t := by simpa using e
      subst e'
      exact ⟨a, vs, rfl, rfl, h3, h4⟩
    | succ j =>
      have e' : (ρ.set i .un)[j]? = some t := by simpa using e
      show SlotOk X.K F H (at' σ j) t (pick i [] fp j)
      by_cases z : j = i
      · subst z
        have hl : j < ρ.length := (List.getElem?_eq_some_iff.mp hρ).1
        rw [List.getElem?_set_self hl] at e'
        cases e'
        rw [pick_same]
        rfl
      · rw [List.getElem?_set_ne (Ne.symm z)] at e'
        rw [pick_ne z]
        exact f3 j t e'
theorem r_set {p' : Pos} (i : Nat) (hN : X.N.Nodup) (he : EX X e ρ s) (hi : X.N[i]? = some x := by rfl) (hx : storeOk X.env.scope (X.fn x) x = true := by kernel_rfl) (hs : swapsWith e (some (.Name x p')) pos.line X.env = pure false := by exact swaps_no rfl) : R1 X (.Assign [.Name x p'] e pos) ρ (.nx (ρ.set i s)) := .mk fun B F0 F H σ D S k =>
  PSw (ps_set hN hi (storeOk_loc hx) pe_w hs (storeOk_fn hx)) (he.run B F0 F H σ _ S fun v G H' as g ok n => k G H' _ g.ff (S.setNew g i ok n))
/-- y = [e for x in xs ..] on one line -/
theorem r_setLc {α : Type} {elt : Expr} {ifs : List Expr} {scope : Scope} {lpos p' : Pos} (i : Nat) (own : List (Str × Nat)) (xs : List α) (enc : α → PyData) (p : α → Bool) (f : α → PyData) (hc : X.calm = true) (hN : X.N.Nodup) (ok : BlkOk X.N X.env.scope scope own) (hit : IT X tg iter ρ (xs.map enc))
    (bd : ∀ y ∈ xs, BlkAt X scope tg ifs elt (own.map (·.2)) ρ (enc y) (p y) (f y)) (hz : xs.length < 100000) (hi : X.N[i]? = some x := by rfl) (hyl : X.env.scope.names.lookup x = some .local := by rfl)
    (hsw : swapsWith (.ListComp elt [⟨tg, iter, ifs, 0⟩] scope lpos) (some (.Name x p')) pos.line X.env = pure true := by exact sw_true rfl rfl rfl (by decide +kernel)) (hs : ∀ x, foldedSetIterable iter X.env x = pure x := by intro _; rfl) :
    R1 X (.Assign [.Name x p'] (.ListComp elt [⟨tg, iter, ifs, 0⟩] scope lpos) pos) ρ (.nx (ρ.set i (.ow ((xs.filter p).map f)))) := .mk fun B F0 F H σ D S k =>
  PSw (ps_setLc (g := bG X scope tg) (tt := bT X scope ifs) (te := bE X scope elt) hc hN hi hyl hsw pi_w ok (fun s H C cl fp => ⟨fun pins s' σ H' v u Q I r h => h _ _ _ _ _ pins s' u I r⟩) (fun s H C cl fp => ⟨fun pins s' σ H' Q I h => h _ _ _ _ _ pins s' I⟩)
    (fun s H C cl fp => ⟨fun pins s' σ H' Q I h => h _ _ _ _ _ pins s' I⟩) hs) (lc_read hit bd hz S fun v G H' as g ok n => k G H' _ g.ff (S.setNew g i ok n))
theorem r_expr (he : EX X e ρ (.da d)) (hs : swapsWith e none pos.line X.env = pure false := by exact swaps_no rfl) : R1 X (.Expr e pos) ρ (.nx ρ) := .mk fun B F0 F H σ D S k =>
  PSw (ps_expr pe_w hs) (he.use S fun v G H' g _ S' => k G H' σ g.ff S')
theorem r_append {po pa' pc : Pos} (i : Nat) (hρ : ρ[i]? = some (.ow ds)) (he : EX X e ρ (.da d)) (hz : ds.length < 100000) (hN : X.N[i]? = some x := by rfl) (hv : nameOk X.env.scope x = true := by kernel_rfl)
    (hs : swapsWith (.Call (.Attribute (.Name x po) "append" pa') [e] [] pc) none pos.line X.env = pure false := by exact swaps_no rfl)
    (hbase : attributeBase (.Name x po) "append" X.env (eval (.Name x po) X.env) = eval (.Name x po) X.env := by exact abase rfl)
    (hfew : ((backTo pc (starEach [e] X.env)).all (fun x => !x.1) && (backToKw pc (keywordEach [] X.env)).all (fun x => x.1.isSome)
      && decide ([e].length + ([] : List Keyword).length + (if ([] : List Keyword).isEmpty then 0 else 1) < 30)) = true := by exact star_few rfl)
    (hline : (pa'.endLine == pc.line) = true := by rfl) (hst : starEach [e] X.env = (false, eval e X.env) :: starEach [] X.env := by exact star_cons rfl) (hplain : (backTo pc (starEach [] X.env)).any (·.1) = false := by exact star_none rfl) :
    R1 X (.Expr (.Call (.Attribute (.Name x po) "append" pa') [e] [] pc) pos) ρ (.nx (ρ.set i (.ow (ds ++ [d])))) := .mk fun B F0 F H σ D S k => by
  obtain ⟨a, vs, e1, e2, e3, e4⟩ := S.ow hρ
  refine PSw (ps_expr (pe_bm PySem.F.plainAttrs_list PySem.F.slot_list_append PySem.F.type_list_append mt_append (pv i hN (nameOk_vis hv) (nameOk_d hv) (nameOk_c hv)) (pa_cons pe_w pa_nil hst) hbase hfew hline hst hplain) hs) ⟨.ref a, e1, .inl ⟨rfl, vs, SqL.of e2⟩, ?_⟩
  refine he.use S fun v G H' g hv' S' => ⟨a, vs, v, rfl, rfl, g.hh _ _ e2, by rw [e3.length]; exact sz_lt hz, k G _ σ g.ff ?_⟩
  exact S'.owMut hρ e1 ((e3.mono g.ff).append (.cons hv' .nil))
theorem r_extend {po pa' pc : Pos} (i : Nat) (hρ : ρ[i]? = some (.ow ds)) (he : EX X e ρ (.da (.list es))) (hz : ds.length + es.length < 100000) (hN : X.N[i]? = some x := by rfl) (hv : nameOk X.env.scope x = true := by kernel_rfl)
    (hs : swapsWith (.Call (.Attribute (.Name x po) "extend" pa') [e] [] pc) none pos.line X.env = pure false := by exact swaps_no rfl)
    (hbase : attributeBase (.Name x po) "extend" X.env (eval (.Name x po) X.env) = eval (.Name x po) X.env := by exact abase rfl)
    (hfew : ((backTo pc (starEach [e] X.env)).all (fun x => !x.1) && (backToKw pc (keywordEach [] X.env)).all (fun x => x.1.isSome)
      && decide ([e].length + ([] : List Keyword).length + (if ([] : List Keyword).isEmpty then 0 else 1) < 30)) = true := by exact star_few rfl)
    (hline : (pa'.endLine == pc.line) = true := by rfl) (hst : starEach [e] X.env = (false, eval e X.env) :: starEach [] X.env := by exact star_cons rfl) (hplain : (backTo pc (starEach [] X.env)).any (·.1) = false := by exact star_none rfl) :
    R1 X (.Expr (.Call (.Attribute (.Name x po) "extend" pa') [e] [] pc) pos) ρ (.nx (ρ.set i (.ow (ds ++ es)))) := .mk fun B F0 F H σ D S k => by
  obtain ⟨a, vs, e1, e2, e3, e4⟩ := S.ow hρ
  refine PSw (ps_expr (pe_bm PySem.F.plainAttrs_list PySem.F.slot_list_extend PySem.F.type_list_extend mt_extend (pv i hN (nameOk_vis hv) (nameOk_d hv) (nameOk_c hv)) (pa_cons pe_w pa_nil hst) hbase hfew hline hst hplain) hs) ⟨.ref a, e1, .inl ⟨rfl, vs, SqL.of e2⟩, ?_⟩
  refine he.use S fun v G H' g hv' S' => ?_
  obtain ⟨b, ys, rfl, h1, h2⟩ := hv'.elst
  exact ⟨a, b, vs, ys, rfl, rfl, g.hh _ _ e2, g.fh _ _ h1, by rw [e3.length, h2.length]; exact Nat.le_of_lt (sz_lt hz), k G _ σ g.ff (S'.owMut hρ e1 ((e3.mono g.ff).append h2))⟩
/-- a, b, .. = e (or any target) by data -/
theorem r_tgt (he : EX X e ρ (.da d)) (hb : BT X tg is d ρ ρ1) (hs : swapsWithSole [tg] e pos.line X.env = pure false := by rfl) (hw : swappedStores [tg] e X.env = pure none := by rfl)
    (h1 : (assignEach [tg] X.env).map (·.2) = [assign tg X.env] := by exact asg_one rfl) : R1 X (.Assign [tg] e pos) ρ (.nx ρ1) := .mk fun B F0 F H σ D S k =>
  PSw (ps_asg pe_w pg_w hs hw h1) (he.use S fun v G H' g hv S' => hb.run B F0 G H' σ v _ S' hv fun σ' _ S2 => k G H' σ' g.ff S2)
/-- a, b = e1, e2 -/
theorem r_par {y : Str} {a b : Expr} {s1 s2 : Slot} {px py pt : Pos} {kt k2 pt2} (i j : Nat) (hc : X.calm = true) (hN : X.N.Nodup) (ha : EX X a ρ s1) (hb : EX X b ρ s2) (hi : X.N[i]? = some x := by rfl) (hj : X.N[j]? = some y := by rfl) (hij : i ≠ j := by decide)
    (hx : X.env.scope.names.lookup x = some .local := by kernel_rfl) (hy : X.env.scope.names.lookup y = some .local := by kernel_rfl) (hst : starEach [a, b] X.env = (false, eval a X.env) :: starEach [b] X.env := by exact star_cons rfl) (hst2 : starEach [b] X.env = (false, eval b X.env) :: starEach [] X.env := by exact star_cons rfl)
    (hw : swappedStores [.Tuple [.Name x px, .Name y py] kt pt] (.Tuple [a, b] k2 pt2) X.env = pure (some [x, y]) := by kernel_rfl)
    (hs : swapsWithSole [.Tuple [.Name x px, .Name y py] kt pt] (.Tuple [a, b] k2 pt2) pos.line X.env = pure false := by kernel_rfl) :
    R1 X (.Assign [.Tuple [.Name x px, .Name y py] kt pt] (.Tuple [a, b] k2 pt2) pos) ρ (.nx ((ρ.set i s1).set j s2)) := .mk fun B F0 F H σ D S k =>
  PSw (ps_par hc hN hi hj hij hx hy (pa_cons pe_w (pa_cons pe_w pa_nil hst2) hst) hw hs) (ha.run B F0 F H σ _ S fun v1 G1 H1 as1 g1 ok1 n1 => hb.run B F0 G1 H1 σ _ (S.grow g1) fun v2 G2 H2 as2 g2 ok2 n2 =>
    ⟨v1, v2, rfl, k G2 H2 _ (g1.ff.trans g2.ff) ((S.setNew g1 i ok1 n1).setNew g2 j ok2 n2)⟩)

/-- a, b, c = e1, e2, e3 -/
theorem r_par3 {y z : Str} {a b c : Expr} {s1 s2 s3 : Slot} {px py pz pt : Pos} {kt k2 pt2} (i j l : Nat) (hc : X.calm = true) (hN : X.N.Nodup) (ha : EX X a ρ s1) (hb : EX X b ρ s2) (hcc : EX X c ρ s3) (hi : X.N[i]? = some x := by rfl) (hj : X.N[j]? = some y := by rfl) (hl : X.N[l]? = some z := by rfl)
    (hij : i ≠ j := by decide) (hil : i ≠ l := by decide) (hjl : j ≠ l := by decide)
    (hx : X.env.scope.names.lookup x = some .local := by kernel_rfl) (hy : X.env.scope.names.lookup y = some .local := by kernel_rfl) (hz : X.env.scope.names.lookup z = some .local := by kernel_rfl)
    (hst : starEach [a, b, c] X.env = (false, eval a X.env) :: starEach [b, c] X.env := by exact star_cons rfl) (hst2 : starEach [b, c] X.env = (false, eval b X.env) :: starEach [c] X.env := by exact star_cons rfl) (hst3 : starEach [c] X.env = (false, eval c X.env) :: starEach [] X.env := by exact star_cons rfl)
    (hw : swappedStores [.Tuple [.Name x px, .Name y py, .Name z pz] kt pt] (.Tuple [a, b, c] k2 pt2) X.env = pure (some [x, y, z]) := by kernel_rfl)
    (hs : swapsWithSole [.Tuple [.Name x px, .Name y py, .Name z pz] kt pt] (.Tuple [a, b, c] k2 pt2) pos.line X.env = pure false := by kernel_rfl) :
    R1 X (.Assign [.Tuple [.Name x px, .Name y py, .Name z pz] kt pt] (.Tuple [a, b, c] k2 pt2) pos) ρ (.nx (((ρ.set i s1).set j s2).set l s3)) := .mk fun B F0 F H σ D S k =>
  PSw (ps_par3 hc hN hi hj hl hij hil hjl hx hy hz (pa_cons pe_w (pa_cons pe_w (pa_cons pe_w pa_nil hst3) hst2) hst) hw hs) (ha.run B F0 F H σ _ S fun v1 G1 H1 as1 g1 ok1 n1 => hb.run B F0 G1 H1 σ _ (S.grow g1) fun v2 G2 H2 as2 g2 ok2 n2 =>
    hcc.run B F0 G2 H2 σ _ ((S.grow g1).grow g2) fun v3 G3 H3 as3 g3 ok3 n3 => ⟨v1, v2, v3, rfl, k G3 H3 _ ((g1.ff.trans g2.ff).trans g3.ff) (((S.setNew g1 i ok1 n1).setNew g2 j ok2 n2).setNew g3 l ok3 n3)⟩)

/-! ### for -/
theorem r_for (hp : PassesOwn (model X.prog X.w) X.A X.env X.xe) (hc : X.calm = true) (hi : IT X tg iter ρ ds) (hf : ForR X tg body ds ρ o) (hs : ∀ x, foldedSetIterable iter X.env x = pure x := by intro _; rfl) : R1 X (.For tg iter body [] pos) ρ o := .mk fun B F0 F H σ D S k =>
  PSw (ps_for hp hc pi_w pg_w pss_w hs) (hi.run B F0 F H σ _ S fun J G H1 g Y => by
    have S1 := S.grow g
    refine ⟨fun i m σ' H' => m = ds.length - i ∧ i ≤ ds.length ∧ ∃ Fc ρ', Ex G Fc ∧ Sl X.K B F0 Fc H' σ' ρ' ∧ ForR X tg body (ds.drop i) ρ' o, ⟨ds.length, by omega, Nat.zero_le _, G, ρ, Ex.refl G, S1, by rw [List.drop_zero]; exact hf⟩, ?_⟩
    rintro i m σ' H' ⟨rfl, hil, Fc, ρ', ec, Sc, fr⟩
    have Yi := Y i Fc H' ec Sc.ex
    by_cases hlt : i < ds.length
    · refine .inr ⟨(Yi.1 hlt).1, fun σ' H' => i + 1 ≤ ds.length ∧ ∃ Fc ρ', Ex G Fc ∧ Sl X.K B F0 Fc H' σ' ρ' ∧ ForR X tg body (ds.drop (i + 1)) ρ' o, fun σ' H' hh => ⟨ds.length - (i + 1), by omega, rfl, hh.1, hh.2⟩, fun x H'' y => ?_⟩
      obtain ⟨G', d, ed, g', dv⟩ := (Yi.1 hlt).2 x H'' y
      have ed' : d = ds[i] := by rw [List.getElem?_eq_getElem hlt] at ed; exact (Option.some.inj ed).symm
      subst ed'
      rw [List.drop_eq_getElem_cons hlt] at fr
      have Sx := Sc.grow g'
      have eg : Ex G G' := ec.trans g'.ff
      generalize hds : ds[i] = d at fr dv
      generalize hdr : ds.drop (i + 1) = dr at fr ⊢
      cases fr with
      | next h1 h2 h3 => exact h1.run B F0 G' H'' σ' x _ Sx dv fun σ2 _ S2 => h2.run B F0 G' H'' σ2 _ S2 fun F3 H3 σ3 e3 S3 => ⟨hlt, F3, _, eg.trans e3, S3, h3⟩
      | cont h1 h2 h3 => exact h1.run B F0 G' H'' σ' x _ Sx dv fun σ2 _ S2 => h2.run B F0 G' H'' σ2 _ S2 fun F3 H3 σ3 e3 S3 => ⟨hlt, F3, _, eg.trans e3, S3, h3⟩
      | brk h1 h2 => exact h1.run B F0 G' H'' σ' x _ Sx dv fun σ2 _ S2 => h2.run B F0 G' H'' σ2 _ S2 fun F3 H3 σ3 e3 S3 => k F3 H3 σ3 ((g.ff.trans eg).trans e3) S3
      | ret h1 h2 => exact h1.run B F0 G' H'' σ' x _ Sx dv fun σ2 _ S2 => h2.run B F0 G' H'' σ2 _ S2 fun F3 H3 σ3 v e3 S3 => k F3 H3 σ3 v ((g.ff.trans eg).trans e3) S3
    · have ei : i = ds.length := by omega
      subst ei
      rw [List.drop_length] at fr
      cases fr
      exact .inl ⟨Yi.2 (Nat.le_refl _), k Fc H' σ' (g.ff.trans ec) Sc⟩)
/-- a loop that goes through all: a fold -/
theorem for_fold {α S : Type} (xs : List α) (encI : α → PyData) (enc : S → Env') (step : S → α → S) (P : List α → S → Prop) (s0 : S) (h0 : P [] s0)
    (turn : ∀ (pre : List α) (y : α) (post : List α) (s : S), xs = pre ++ y :: post → P pre s → ∃ is ρ1, BT X tg is (encI y) (enc s) ρ1 ∧ P (pre ++ [y]) (step s y) ∧ (RS X body ρ1 (.nx (enc (step s y))) ∨ RS X body ρ1 (.ct (enc (step s y))))) :
    ForR X tg body (xs.map encI) (enc s0) (.nx (enc (xs.foldl step s0))) ∧ P xs (xs.foldl step s0) := by
  have key : ∀ (post pre : List α) (s : S), xs = pre ++ post → P pre s → ForR X tg body (post.map encI) (enc s) (.nx (enc (post.foldl step s))) ∧ P xs (post.foldl step s) := by
    intro post
    induction post with
    | nil => intro pre s e h; exact ⟨.nil, by rw [e, List.append_nil]; exact h⟩
    | cons y r ih =>
      intro pre s e h
      obtain ⟨is, ρ1, hb, hp, hr⟩ := turn pre y r s e h
      obtain ⟨i1, i2⟩ := ih (pre ++ [y]) (step s y) (by rw [e, List.append_assoc]; rfl) hp
      refine ⟨?_, i2⟩
      rcases hr with hr | hr
      · exact .next hb hr i1
      · exact .cont hb hr i1
  exact key xs [] s0 rfl h0
/-- a loop that goes through all, told by what it has gone through -/
theorem for_pre {α : Type} (xs : List α) (encI : α → PyData) (enc : List α → Env')
    (turn : ∀ (pre : List α) (y : α) (post : List α), xs = pre ++ y :: post → ∃ is ρ1, BT X tg is (encI y) (enc pre) ρ1 ∧ (RS X body ρ1 (.nx (enc (pre ++ [y]))) ∨ RS X body ρ1 (.ct (enc (pre ++ [y]))))) :
    ForR X tg body (xs.map encI) (enc []) (.nx (enc xs)) := by
  have key : ∀ (post pre : List α), xs = pre ++ post → ForR X tg body (post.map encI) (enc pre) (.nx (enc xs)) := by
    intro post
    induction post with
    | nil => intro pre e; rw [e, List.append_nil]; exact .nil
    | cons y r ih =>
      intro pre e
      obtain ⟨is, ρ1, hb, hr⟩ := turn pre y r e
      have i1 := ih (pre ++ [y]) (by rw [e, List.append_assoc]; rfl)
      rcases hr with hr | hr
      · exact .next hb hr i1
      · exact .cont hb hr i1
  exact key xs [] rfl
theorem rs_is {ρ3 : Env'} (h : RS X rest ρ (.nx ρ1)) (e : ρ1 = ρ3) : RS X rest ρ (.nx ρ3) := e ▸ h
end
end Mx

set_option Elab.async false
set_option linter.all false
set_option maxRecDepth 100000
/-! Mx6: what a def promises, calls, the script, objects. -/
namespace Mx
open PySem PySem.Spec PyProof.Rows L2

/-- a slot without places of its own -/
def Shd (s : Slot) : Prop := ∀ K F H o as, SlotOk K F H o s as → as = []
theorem shd_da {d : PyData} : Shd (.da d) := fun _ _ _ _ _ h => h.1
theorem shd_scr {ns : List Int} : Shd (.scr ns) := fun _ _ _ _ _ h => h.1
abbrev ArgsOk (K : PySem.W.Frag) (F H : Hp) : List V → List Slot → Prop := Paired fun v s => SlotOk K F H (some v) s []
section
variable (X : Cx)
/-- arguments: things without places of their own -/
structure ES (es : List Expr) (ρ : Env') (ss : List Slot) : Prop where
  run : ∀ B F0 F H σ (Q : List V → Hp → Prop), Sl X.K B F0 F H σ ρ → (∀ vs G H', Grow F H G H' → ArgsOk X.K G H' vs ss → Q vs H') → wA X es σ H Q
end
/-- what a def promises: R between arguments and what is handed back -/
def spP (K : PySem.W.Frag) (R : List Slot → Slot → Prop) : Sp := fun vs H Q _ => ∃ F ss s, R ss s ∧ Ex F H ∧ ArgsOk K F H vs ss ∧ Kont K F H s Q
section
variable {X : Cx} {ρ : Env'} {e : Expr} {es : List Expr} {s : Slot} {ss : List Slot} {pos p : Pos} {x : Str} {d : PyData} {ds : List PyData}
theorem SlotOk.stay {K : PySem.W.Frag} {F F' H H' : Hp} {o : Option V} {s : Slot} (h : SlotOk K F H o s []) (e : Ex F F') : SlotOk K F' H' o s [] := h.mono e (fun _ h => nomatch h) fun _ h => nomatch h
theorem ArgsOk.stay {K : PySem.W.Frag} {F F' H H' : Hp} : ∀ {vs : List V} {ss : List Slot}, ArgsOk K F H vs ss → Ex F F' → ArgsOk K F' H' vs ss
  | _, _, .nil, _ => .nil
  | _, _, .cons a r, e => .cons (a.stay e) (ArgsOk.stay r e)
theorem EX.useS {B F0 F H : Hp} {σ : L2.St} {Q : VK} (h : EX X e ρ s) (sh : Shd s) (S : Sl X.K B F0 F H σ ρ) (k : ∀ v G H', Grow F H G H' → SlotOk X.K G H' (some v) s [] → Sl X.K B F0 G H' σ ρ → Q v H') : wE X e σ H Q :=
  h.run B F0 F H σ Q S fun v G H' as g ok _ => by
    have z := sh _ _ _ _ _ ok
    subst z
    exact k v G H' g ok (S.grow g)
theorem ES.use {B F0 F H : Hp} {σ : L2.St} {Q : List V → Hp → Prop} (h : ES X es ρ ss) (S : Sl X.K B F0 F H σ ρ) (k : ∀ vs G H', Grow F H G H' → ArgsOk X.K G H' vs ss → Sl X.K B F0 G H' σ ρ → Q vs H') : wA X es σ H Q :=
  h.run B F0 F H σ Q S fun vs G H' g hv => k vs G H' g hv (S.grow g)
theorem es_nil : ES X [] ρ [] := .mk fun B F0 F H σ Q S k => PAw pa_nil (k [] F H (Grow.refl S.ex) .nil)
theorem es_cons (ha : EX X e ρ s) (hr : ES X es ρ ss) (sh : Shd s := by exact shd_da) (hs : starEach (e :: es) X.env = (false, eval e X.env) :: starEach es X.env := by exact star_cons rfl) : ES X (e :: es) ρ (s :: ss) := .mk fun B F0 F H σ Q S k =>
  PAw (pa_cons pe_w pa_w hs) (ha.useS sh S fun v1 G1 H1 g1 h1 S1 => hr.use S1 fun vs G2 H2 g2 h2 S2 => k (v1 :: vs) G2 H2 (g1.trans g2) (.cons (h1.stay g2.ff) h2))
/-- a name whose thing has no places of its own -/
theorem ex_nameS (i : Nat) (h : ρ[i]? = some s) (sh : Shd s) (hun : s ≠ .un := by intro z; cases z) (hN : X.N[i]? = some x := by rfl) (hv : nameOk X.env.scope x = true := by kernel_rfl) : EX X (.Name x pos) ρ s := .mk fun B F0 F H σ Q S k => by
  obtain ⟨fp, f1, f2, f3⟩ := id S.fp
  have q := f3 i s h
  have z := sh _ _ _ _ _ q
  rw [z] at q
  obtain ⟨v, hv'⟩ : ∃ v, at' σ i = some v := by
    cases s with
    | un => exact absurd rfl hun
    | da d => obtain ⟨_, v, e, _⟩ := q; exact ⟨v, e⟩
    | ow ds => obtain ⟨a, _, z, _⟩ := q; cases z
    | scr ns => obtain ⟨_, a, e, _⟩ := q; exact ⟨_, e⟩
    | ext O => obtain ⟨v, e, _⟩ := q; exact ⟨v, e⟩
  rw [hv'] at q
  exact PEw (pv i hN (nameOk_vis hv) (nameOk_d hv) (nameOk_c hv)) ⟨v, at_get hv', k v F H [] (Grow.refl S.ex) q fun _ h => nomatch h⟩

/-- a def of the text, by its name -/
structure Cal (P : Program) (w : World) (K : PySem.W.Frag) (mg : Str → Option Value) (base : Heap) (x : Str) (k : Nat) (sp : Sp) : Prop where
  ex : ∃ f fd ps, FnOk P w K mg base CX0 k f fd ps sp ∧ mg x = some (.ref f) ∧ PySem.W.keepIn K (.ref f) = true ∧ Binds K fd ps []
theorem ex_call {k : Nat} {R : List Slot → Slot → Prop} (C : Cal X.prog X.w X.K X.mg X.base x k (spP X.K R)) (hr : Room k X.A) (ha : ES X (e :: es) ρ ss) (h : R ss s) (hg : Gl X x := by exact gl_of (by kernel_rfl)) (hdb : (x == ("__debug__" : Str)) = false := by kernel_rfl)
    (he : starEach (e :: es) X.env = (false, eval e X.env) :: starEach es X.env := by exact star_cons rfl) (hpl : (backTo pos (starEach es X.env)).any (·.1) = false := by exact star_none rfl) : EX X (.Call (.Name x p) (e :: es) [] pos) ρ s := .mk fun B F0 F H σ Q S q => by
  obtain ⟨f, fd, ps, G, gS, kp, bS⟩ := C.ex
  refine PEw (pe_call G hr hg gS kp bS .nil pass0 pa_w hdb he hpl) (ha.use S fun vs G1 H1 g1 h1 S1 => ?_)
  rw [List.append_nil]
  exact ⟨G1, ss, s, h, S1.ex, h1, q.go g1⟩
theorem ex_call0 {k : Nat} {R : List Slot → Slot → Prop} (C : Cal X.prog X.w X.K X.mg X.base x k (spP X.K R)) (hr : Room k X.A) (h : R [] s) (hg : Gl X x := by exact gl_of (by kernel_rfl)) (hdb : (x == ("__debug__" : Str)) = false := by kernel_rfl) : EX X (.Call (.Name x p) [] [] pos) ρ s := .mk fun B F0 F H σ Q S q => by
  obtain ⟨f, fd, ps, G, gS, kp, bS⟩ := C.ex
  refine PEw (pe_call0 G hr hg gS kp bS .nil pass0 hdb) ?_
  exact ⟨F, [], s, h, S.ex, .nil, q⟩

/-! ### the script -/
theorem Sl.scr {K : PySem.W.Frag} {B F0 F H : Hp} {σ : L2.St} {i : Nat} {ns : List Int} (S : Sl K B F0 F H σ ρ) (h : ρ[i]? = some (.scr ns)) : ∃ a, σ[i]? = some (some (.ref a)) ∧ SqL K F a (ns.map V.int) := by
  obtain ⟨fp, f1, f2, f3⟩ := S.fp
  obtain ⟨_, a, h2, h3⟩ := f3 i _ h
  exact ⟨a, at_get h2, h3⟩
theorem ex_lenScr {y : Str} {py : Pos} {ns : List Int} (i : Nat) (h : ρ[i]? = some (.scr ns)) (hm : X.mg "len" = none) (hg : Gl X "len" := by exact gl_of (by kernel_rfl)) (hN : X.N[i]? = some y := by rfl) (hv : nameOk X.env.scope y = true := by kernel_rfl) (he : starEach [.Name y py] X.env = (false, eval (.Name y py) X.env) :: starEach [] X.env := by exact star_cons rfl) (hpl : (backTo pos (starEach [] X.env)).any (·.1) = false := by exact star_none rfl) :
    EX X (.Call (.Name "len" p) [.Name y py] [] pos) ρ (.da (.int ns.length)) := .mk fun B F0 F H σ Q S k => by
  obtain ⟨a, e1, e2⟩ := S.scr h
  refine PEw (pe_callB call_len_seq hg hm PySem.boot_len (pa_cons (pv i hN (nameOk_vis hv) (nameOk_d hv) (nameOk_c hv)) pa_nil he) (by decide) (by decide) he hpl) ⟨.ref a, e1, a, ns.map V.int, rfl, .inl (sql_mono S.ex e2), ?_⟩
  rw [List.length_map]
  exact k.here S.ex (.int _)
theorem ex_ixScr {y : Str} {py : Pos} {ns : List Int} {b : Expr} {j n : Int} (i : Nat) (h : ρ[i]? = some (.scr ns)) (hb : EX X b ρ (.da (.int j))) (hj : atI ns j = some n) (hN : X.N[i]? = some y := by rfl) (hv : nameOk X.env.scope y = true := by kernel_rfl)
    (hs : PlainIx b := by exact fun _ _ => rfl) : EX X (.Subscript (.Name y py) b pos) ρ (.da (.int n)) := .mk fun B F0 F H σ Q S k => by
  obtain ⟨a, e1, e2⟩ := S.scr h
  refine PEw (pe_ix ix_list (pv i hN (nameOk_vis hv) (nameOk_d hv) (nameOk_c hv)) pe_w hs) ⟨.ref a, e1, hb.use S fun v G H' g hv' S' => ⟨a, ns.map V.int, j, .int n, rfl, hv'.eint, sql_mono (S.ex.trans g.hh) e2, ?_, k.da g (.int n)⟩⟩
  unfold atI at hj ⊢
  rw [List.length_map]
  cases q : ixN ns.length j with
  | none => rw [q] at hj; cases hj
  | some m =>
    rw [q] at hj
    have hj' : ns[m]? = some n := hj
    show (ns.map V.int)[m]? = some (V.int n)
    rw [List.getElem?_map, hj']
    rfl
end

/-! ### a def's body -/
section
variable {P : Program} {w : World} {K : PySem.W.Frag} {mg : Str → Option Value} {base : Heap}
def rho (N : List Str) (ss : List Slot) : Env' := ss ++ List.replicate (N.length - ss.length) .un
theorem Paired.len {α β : Type} {R : α → β → Prop} : ∀ {xs : List α} {ys : List β}, Paired R xs ys → xs.length = ys.length
  | _, _, .nil => rfl
  | _, _, .cons _ r => congrArg (· + 1) (Paired.len r)
theorem sl_start {K : PySem.W.Frag} {F H : Hp} {N : List Str} {vs : List V} {ss : List Slot} (e : Ex F H) (h : ArgsOk K F H vs ss) : Sl K H F F H (L2.start N vs) (rho N ss) := by
  have hl : vs.length = ss.length := Mx.Paired.len h
  refine ⟨e, Ex.refl H, fun _ _ => rfl, ?_, fun _ => [], (fun _ _ _ h _ => nomatch h), (fun _ _ h => nomatch h), ?_⟩
  · unfold L2.start rho
    rw [List.length_append, List.length_append, List.length_map, List.length_replicate, List.length_replicate, hl]
  · intro i s hs
    unfold L2.start rho at *
    rw [← hl] at hs
    clear hl
    generalize N.length - vs.length = n at hs ⊢
    induction h generalizing i with
    | nil =>
      rw [List.nil_append, List.getElem?_replicate] at hs
      split at hs
      · cases hs; rfl
      · cases hs
    | cons a r ih =>
      cases i with
      | zero => cases hs; exact a
      | succ i => exact ih i (by simpa using hs)
/-- THE RULE for a def that only reads and makes -/
theorem fun_pure {x qual : Str} {st : Stmt} {f : Addr} {fd : FuncData} {N ps : List Str} {k : Nat} {R : List Slot → Slot → Prop} (F : Fun K x qual st f fd) (S : FnScope N ps (defScope st)) (hl : ∀ ss s, R ss s → ss.length = ps.length)
    (hbody : ∀ (cdv : Value) (A : Around) (outer : List Env) (s : Shared) (H : Hp) (E : XK), Room k (A.deeper (envOfC qual (defScope st) s.heap.objs.size f cdv)) → ∀ ss sl, R ss sl →
      ∃ ρ', RS (cxOf CX0 P w K mg base N qual (defScope st) f cdv A outer s H E).nox (defBody st) (rho N ss) (.rt sl ρ') ∨ (sl = .da .none ∧ RS (cxOf CX0 P w K mg base N qual (defScope st) f cdv A outer s H E).nox (defBody st) (rho N ss) (.nx ρ'))) :
    FnOk P w K mg base CX0 (k + 1) f fd ps (spP K R) := by
  refine F.ok S (fun vs H Q E h => ?_) (fun cdv A outer s H vs Q E hr h => ?_)
  · obtain ⟨G, ss, sl, hR, _, hA, _⟩ := h
    rw [Mx.Paired.len hA]
    exact hl ss sl hR
  · obtain ⟨G, ss, sl, hR, eG, hA, q⟩ := h
    obtain ⟨ρ', hb⟩ := hbody cdv A outer s H E hr ss sl hR
    refine ⟨_, pss_w, ?_⟩
    have S0 := sl_start (N := N) eG hA
    have grow : ∀ {F' H' : Hp} {σ' : L2.St} {ρ' : Env'}, Ex G F' → Sl K H G F' H' σ' ρ' → Grow G H F' H' := fun e S' => ⟨e, S'.kb, S'.ex, S'.kf⟩
    rcases hb with hb | ⟨rfl, hb⟩
    · refine hb.run H G G H _ _ S0 fun F' H' σ' v e S' => ?_
      obtain ⟨fp, f1, f2, f3⟩ := id S'.fp
      exact q v F' H' (fp 0) (grow e S') (f3 0 sl rfl) fun a ha => ⟨(f2 0 a ha).2.1, (f2 0 a ha).1, (f2 0 a ha).2.2⟩
    · exact hb.run H G G H _ _ S0 fun F' H' σ' e S' => q .non F' H' [] (grow e S') ⟨rfl, .non, rfl, .non⟩ fun _ h => nomatch h
end

/-- it ends by handing back s -/
structure Rt (X : Cx) (st : List Stmt) (ρ : Env') (s : Slot) : Prop where
  out : ∃ ρ', RS X st ρ (.rt s ρ')
section
variable {X : Cx} {st : Stmt} {rest : List Stmt} {ρ ρ1 : Env'} {s : Slot} {ds : List PyData}
theorem rt_cons (h1 : R1 X st ρ (.nx ρ1)) (h2 : Rt X rest ρ1 s) : Rt X (st :: rest) ρ s := let ⟨ρ', h⟩ := h2.out; ⟨ρ', rs_cons h1 h⟩
theorem rt_ret (h1 : R1 X st ρ (.rt s ρ1)) : Rt X (st :: rest) ρ s := ⟨_, rs_ret h1⟩
theorem rt_freeze (i : Nat) (hρ : ρ[i]? = some (.ow ds)) (h : Rt X rest (ρ.set i (.da (.list ds))) s) : Rt X rest ρ s := let ⟨ρ', h⟩ := h.out; ⟨ρ', rs_freeze i hρ h⟩
theorem rt_pre (w : Weak ρ ρ1) (h : Rt X rest ρ1 s) : Rt X rest ρ s := let ⟨ρ', h⟩ := h.out; ⟨ρ', rs_pre w h⟩
theorem rt_is {s' : Slot} (h : Rt X rest ρ s) (e : s = s') : Rt X rest ρ s' := e ▸ h
/-- a branch ends the def, or what is behind it does -/
inductive Br (X : Cx) (body rest : List Stmt) (ρ : Env') (s : Slot) : Prop
  | ret : Rt X body ρ s → Br X body rest ρ s
  | nx {ρ1 : Env'} : RS X body ρ (.nx ρ1) → Rt X rest ρ1 s → Br X body rest ρ s
/-- an if -/
theorem rt_if {c : Expr} {body els : List Stmt} {pos : Pos} {b : Bool} (hc : ET X c ρ b) (h1 : b = true → Br X body rest ρ s) (h2 : b = false → Br X els rest ρ s) : Rt X (.If c body els pos :: rest) ρ s := by
  cases b with
  | true =>
    cases h1 rfl with
    | ret h => obtain ⟨ρ', h⟩ := h.out; exact ⟨ρ', rs_ret (r_if hc (fun _ => h) fun h => nomatch h)⟩
    | nx e1 h => obtain ⟨ρ', h⟩ := h.out; exact ⟨ρ', rs_cons (r_if hc (fun _ => e1) fun h => nomatch h) h⟩
  | false =>
    cases h2 rfl with
    | ret h => obtain ⟨ρ', h⟩ := h.out; exact ⟨ρ', rs_ret (r_if hc (fun h => nomatch h) fun _ => h)⟩
    | nx e1 h => obtain ⟨ρ', h⟩ := h.out; exact ⟨ρ', rs_cons (r_if hc (fun h => nomatch h) fun _ => e1) h⟩
/-- if c: return ..; the rest -/
theorem rt_if0 {c : Expr} {body : List Stmt} {pos : Pos} {b : Bool} (hc : ET X c ρ b) (h1 : b = true → Rt X body ρ s) (h2 : b = false → Rt X rest ρ s) : Rt X (.If c body [] pos :: rest) ρ s := rt_if hc (fun h => .ret (h1 h)) fun h => .nx rs_nil (h2 h)
end
section
variable {P : Program} {w : World} {K : PySem.W.Frag} {mg : Str → Option Value} {base : Heap}
theorem fun_rt {x qual : Str} {st : Stmt} {f : Addr} {fd : FuncData} {N ps : List Str} {k : Nat} {R : List Slot → Slot → Prop} (F : Fun K x qual st f fd) (S : FnScope N ps (defScope st)) (hl : ∀ ss s, R ss s → ss.length = ps.length)
    (hbody : ∀ (cdv : Value) (A : Around) (outer : List Env) (s : Shared) (H : Hp) (E : XK), Room k (A.deeper (envOfC qual (defScope st) s.heap.objs.size f cdv)) → (A.deeper (envOfC qual (defScope st) s.heap.objs.size f cdv)).units + 64 < cLine → ∀ ss sl, R ss sl →
      Rt (cxOf CX0 P w K mg base N qual (defScope st) f cdv A outer s H E).nox (defBody st) (rho N ss) sl) : FnOk P w K mg base CX0 (k + 1) f fd ps (spP K R) :=
  fun_pure F S hl fun cdv A outer s H E hr ss sl h => let ⟨ρ', q⟩ := (hbody cdv A outer s H E hr hr.units ss sl h).out; ⟨ρ', .inl q⟩
end

/-! ### objects that are only read -/
/-- an instance of the class at C with such fields, at v, frozen -/
def ObjAt (C : Addr) (fs : List (Str × PyData)) (F : Hp) (v : V) : Prop := ∃ a dx fv, v = .ref a ∧ F a = some (.ins C dx fv) ∧ F dx = some (.own a) ∧ Paired (fun (p : Str × V) (q : Str × PyData) => p.1 = q.1 ∧ Dv F p.2 q.2) fv fs
theorem paired_imp {α β : Type} {R R' : α → β → Prop} (h : ∀ a b, R a b → R' a b) : ∀ {xs : List α} {ys : List β}, Paired R xs ys → Paired R' xs ys
  | _, _, .nil => .nil
  | _, _, .cons a r => .cons (h _ _ a) (paired_imp h r)
theorem ObjAt.mono {C : Addr} {fs : List (Str × PyData)} {F G : Hp} {v : V} (h : ObjAt C fs F v) (e : Ex F G) : ObjAt C fs G v := by
  obtain ⟨a, dx, fv, h1, h2, h3, h4⟩ := h
  exact ⟨a, dx, fv, h1, e _ _ h2, e _ _ h3, paired_imp (fun p q z => ⟨z.1, z.2.mono e⟩) h4⟩
def OB (C : Addr) (fs : List (Str × PyData)) : Own := ⟨fun F _ v as => as = [] ∧ ObjAt C fs F v, fun h e _ _ => ⟨h.1, h.2.mono e⟩⟩
theorem shd_ob {C : Addr} {fs : List (Str × PyData)} : Shd (.ext (OB C fs)) := fun _ _ _ _ _ h => by obtain ⟨v, _, h, _⟩ := h; exact h
theorem lookup_pair {F : Hp} {f : Str} {d : PyData} : ∀ {fv : List (Str × V)} {fs : List (Str × PyData)}, Paired (fun (p : Str × V) (q : Str × PyData) => p.1 = q.1 ∧ Dv F p.2 q.2) fv fs → fs.lookup f = some d → ∃ v, fv.lookup f = some v ∧ Dv F v d
  | _, _, .nil, h => by cases h
  | (k, v) :: fv, (k', d') :: fs, .cons a r, h => by
    obtain ⟨rfl, hd⟩ := a
    by_cases e : (f == k) = true
    · simp only [List.lookup, e] at h ⊢
      cases h
      exact ⟨v, rfl, hd⟩
    · have e' : (f == k) = false := by simpa using e
      simp only [List.lookup, e'] at h ⊢
      exact lookup_pair r h
theorem lookup_none {F : Hp} {f : Str} : ∀ {fv : List (Str × V)} {fs : List (Str × PyData)}, Paired (fun (p : Str × V) (q : Str × PyData) => p.1 = q.1 ∧ Dv F p.2 q.2) fv fs → fs.lookup f = none → fv.lookup f = none
  | _, _, .nil, h => rfl
  | (k, v) :: fv, (k', d') :: fs, .cons a r, h => by
    obtain ⟨rfl, hd⟩ := a
    by_cases e : (f == k) = true
    · simp only [List.lookup, e] at h
      cases h
    · have e' : (f == k) = false := by simpa using e
      simp only [List.lookup, e'] at h ⊢
      exact lookup_none r h
section
variable {X : Cx} {ρ : Env'} {o e : Expr} {es : List Expr} {s : Slot} {ss : List Slot} {pos p apos : Pos} {x m f : Str} {d : PyData} {C : Addr} {fs : List (Str × PyData)}
/-- o.f -/
theorem ex_fld (ho : EX X o ρ (.ext (OB C fs))) (hf : fs.lookup f = some d) (hc : Cls X.K C) (hn : NoAttr X.K C f) (hb : attributeBase o f X.env (eval o X.env) = eval o X.env := by first | exact abase rfl | rfl) : EX X (.Attribute o f pos) ρ (.da d) := .mk fun B F0 F H σ Q S k =>
  PEw (pe_fld pe_w hb) (ho.useS shd_ob S fun v G H' g ok S' => by
    obtain ⟨v', ev, _, a, dx, fv, rfl, h2, h3, h4⟩ := ok
    cases ev
    obtain ⟨u, hu, hd⟩ := lookup_pair h4 hf
    exact ⟨a, C, dx, fv, u, rfl, S'.ex _ _ h2, hc, hn, hu, k.da g hd⟩)
/-- a method of the text -/
structure CalM (P : Program) (w : World) (K : PySem.W.Frag) (mg : Str → Option Value) (base : Heap) (C : Addr) (m : Str) (k : Nat) (sp : Sp) : Prop where
  cl : Cls K C
  ex : ∃ f fd ps, FnOk P w K mg base CX0 k f fd ps sp ∧ Meth K C m f ∧ Binds K fd ps []
/-- o.m(e, ..) -/
theorem ex_meth {k : Nat} {R : List Slot → Slot → Prop} {pl : Sem Bool} (M : CalM X.prog X.w X.K X.mg X.base C m k (spP X.K R)) (hr : Room k X.A) (ho : EX X o ρ (.ext (OB C fs))) (hm : fs.lookup m = none) (ha : ES X (e :: es) ρ ss) (h : R (.ext (OB C fs) :: ss) s)
    (hst : starEach (e :: es) X.env = (false, eval e X.env) :: starEach es X.env := by exact star_cons rfl) (hpl : (backTo pos (starEach es X.env)).any (·.1) = false := by exact star_none rfl)
    (ht : eval (.Call (.Attribute o m apos) (e :: es) [] pos) X.env = (do
      let ov ← eval o X.env
      standAt apos.atName
      let (f, first) ← holding [ov] (getMethod ov m pl)
      callWith pos f first (backTo pos (starEach (e :: es) X.env)) (backToKw pos (keywordEach [] X.env))) := by rfl) : EX X (.Call (.Attribute o m apos) (e :: es) [] pos) ρ s := .mk fun B F0 F H σ Q S q => by
  obtain ⟨f, fd, ps, G, mt, bS⟩ := M.ex
  refine PEw (pe_meth pe_w M.cl mt G hr bS .nil pass0 pa_w hst hpl ht) (ho.useS shd_ob S fun v G1 H1 g1 ok S1 => ?_)
  obtain ⟨v', ev, _, a, dx, fv, rfl, h2, h3, h4⟩ := id ok
  cases ev
  refine ⟨a, dx, fv, rfl, S1.ex _ _ h2, lookup_none h4 hm, ha.use S1 fun vs G2 H2 g2 h2 S2 => ?_⟩
  rw [List.append_nil]
  exact ⟨G2, _ :: ss, s, h, S2.ex, .cons (ok.stay g2.ff) h2, q.go (g1.trans g2)⟩

/-! ### instances made -/
theorem run_make0 {pins : List (Addr × Obj)} {σ : L2.St} {H : Hp} {s : Shared} {Q : VK} (hm : PySem.W.makesIn X.K C = true) (hi : PySem.W.findIn X.K (.ref C) "__init__" = some (some (.builtin "object.__init__"))) (I : Inv X pins σ H s)
    (h : ∀ x dx, H x = none → H dx = none → dx ≠ x → Q (.ref x) (upd (upd H dx (.own x)) x (.ins C dx []))) : wpAny (model X.prog X.w) X.A (call (.ref C) []) (EP X pins σ Q) X.xe s := by
  have hq := h (s.heap.objs.size + 1) s.heap.objs.size (I.hok.fresh (Nat.le_succ _)) (I.hok.fresh (Nat.le_refl _)) (Nat.ne_of_lt (Nat.lt_succ_self _))
  have I2 := Inv.made (C := C) I
  refine wpAny_call ?_
  have KX := I.kIn
  obtain ⟨hh, g, d, t, os⟩ := s
  have Y := PySem.W.makes_of (M := model X.prog X.w) KX hm
  have e2 : ((hh.push PySem.W.emptyDict).push (PySem.W.instObj C hh.objs.size)).get? (hh.objs.size + 1) = some (PySem.W.instObj C hh.objs.size) := by
    have := Heap.get?_push_size (hh.push PySem.W.emptyDict) (o := PySem.W.instObj C hh.objs.size) rfl
    rwa [Heap.size_push] at this
  refine PySem.W.make_core Y (PySem.W.looks_findIn KX hi) (fun self => PySem.W.Looks.of_pure (PySem.W.oi_bind self)) (.inr ⟨rfl, rfl⟩) ?_
  have t1 : PySem.W.Looks (model X.prog X.w) ((hh.push PySem.W.emptyDict).push (PySem.W.instObj C hh.objs.size)) (typeOf (.ref (hh.objs.size + 1))) (.ref C) := (PySem.W.Looks.ld e2).andThen .now
  have t2 : PySem.W.Looks (model X.prog X.w) ((hh.push PySem.W.emptyDict).push (PySem.W.instObj C hh.objs.size)) (isInstance (.ref (hh.objs.size + 1)) (.type "object")) true := t1.andThen (Y.top.keeps fun b o e => Heap.get?_push_of_some _ (Heap.get?_push_of_some _ e))
  refine codeAny_call_builtin PySem.W.oi_plain PySem.W.entry_oi (@PySem.W.check_slot (model X.prog X.w) _ _ _ "object.__init__" "object" "__init__" (.ref (hh.objs.size + 1)) [] [] _ PySem.W.oi_kind PySem.W.oi_split t2 (PySem.W.oi_args (.ref (hh.objs.size + 1))) ?_)
  rw [PySem.W.oi_run]
  exact wpAny_pure (And.intro rfl ⟨.ref (hh.objs.size + 1), _, I2, rfl, hq⟩)
/-- what a class without __init__ must have -/
structure Mk0 (K : PySem.W.Frag) (mg : Str → Option Value) (x : Str) (C : Addr) : Prop where
  makes : PySem.W.makesIn K C = true
  init : PySem.W.findIn K (.ref C) "__init__" = some (some (.builtin "object.__init__"))
  kp : PySem.W.keepIn K (.ref C) = true
  nm : mg x = some (.ref C)
theorem frozen_new {F H F1 H1 : Hp} {x dx : Addr} {fv : List (Str × V)} {u : HO} (g : Grow F H F1 H1) (nx : H x = none) (ndx : H dx = none) (ne : dx ≠ x) (n1 : F1 x = none) (n2 : F1 dx = none) (hx : H1 x = some (.ins C dx fv)) (hdx : H1 dx = some u) :
    Grow F H (upd (upd F1 dx u) x (.ins C dx fv)) H1 := by
  refine ⟨g.ff.trans fun b o q => ?_, g.hh, fun b o q => ?_, fun b hb => ?_⟩
  · have z1 : b ≠ x := fun z => by subst z; rw [n1] at q; cases q
    have z2 : b ≠ dx := fun z => by subst z; rw [n2] at q; cases q
    rw [upd_ne z1, upd_ne z2]
    exact q
  · by_cases z1 : b = x
    · subst z1; rw [upd_same] at q; rw [hx]; exact q
    · rw [upd_ne z1] at q
      by_cases z2 : b = dx
      · subst z2; rw [upd_same] at q; rw [hdx]; exact q
      · rw [upd_ne z2] at q; exact g.fh b o q
  · rw [upd_ne (fun z => by subst z; exact hb nx), upd_ne (fun z => by subst z; exact hb ndx)]
    exact g.fr b hb
theorem ex_make0 (M : Mk0 X.K X.mg x C) (hg : Gl X x := by exact gl_of (by kernel_rfl)) (hdb : (x == ("__debug__" : Str)) = false := by kernel_rfl) : EX X (.Call (.Name x p) [] [] pos) ρ (.ext (OB C [])) := .mk fun B F0 F H σ Q S k => by
  have pe : PE X (.Call (.Name x p) [] [] pos) (fun σ H Q => ∀ x dx, H x = none → H dx = none → dx ≠ x → Q (.ref x) (upd (upd H dx (.own x)) x (.ins C dx []))) := by
    refine ⟨fun pins s σ H Q I h => ?_⟩
    refine wpAny_Call_Name_kw (ld_glob I hg M.nm ?_ hdb)
    exact PySem.W.callWith_K0 I.kIn M.kp (run_make0 M.makes M.init I h)
  refine PEw pe fun y dx ny ndy ne => ?_
  have n1 : F y = none := Ex.noneOf S.ex ny
  have n2 : F dx = none := Ex.noneOf S.ex ndy
  have g1 : Grow F H F (upd (upd H dx (.own y)) y (.ins C dx [])) := by
    have a1 := (Grow.refl S.ex).loose (o := .own y) ndy
    exact a1.loose (by rw [upd_ne (Ne.symm ne)]; exact ny)
  refine k (.ref y) _ _ [] (frozen_new g1 ny ndy ne n1 n2 upd_same (by rw [upd_ne ne, upd_same])) ⟨.ref y, rfl, rfl, y, dx, [], rfl, upd_same, by rw [upd_ne ne, upd_same], .nil⟩ fun _ h => nomatch h
/-- what __init__ promises: the fields -/
def spInit (K : PySem.W.Frag) (C : Addr) (R : List Slot → List (Str × PyData) → Prop) : Sp := fun vs H Q _ => ∃ F ss fs x dx vs', vs = .ref x :: vs' ∧ R ss fs ∧ Ex F H ∧ ArgsOk K F H vs' ss ∧ F x = none ∧ F dx = none ∧ dx ≠ x ∧ H x = some (.ins C dx []) ∧ H dx = some (.own x) ∧
  ∀ G H' fv, Ex F G → Ex G H' → (∀ a o, a ≠ x → H a = some o → H' a = some o) → (∀ a, H a ≠ none → G a = F a) → H' x = some (.ins C dx fv) → Paired (fun (p : Str × V) (q : Str × PyData) => p.1 = q.1 ∧ Dv G p.2 q.2) fv fs → Q .non H'
structure CalI (P : Program) (w : World) (K : PySem.W.Frag) (mg : Str → Option Value) (base : Heap) (x : Str) (C : Addr) (k : Nat) (sp : Sp) : Prop where
  nm : mg x = some (.ref C)
  ex : ∃ f fd ps, FnOk P w K mg base CX0 k f fd ps sp ∧ Mk K C f ∧ Binds K fd ps []
theorem ex_make {k : Nat} {R : List Slot → List (Str × PyData) → Prop} (M : CalI X.prog X.w X.K X.mg X.base x C k (spInit X.K C R)) (hr : Room (k + 1) X.A) (ha : ES X (e :: es) ρ ss) (h : R ss fs) (hg : Gl X x := by exact gl_of (by kernel_rfl)) (hdb : (x == ("__debug__" : Str)) = false := by kernel_rfl)
    (he : starEach (e :: es) X.env = (false, eval e X.env) :: starEach es X.env := by exact star_cons rfl) (hpl : (backTo pos (starEach es X.env)).any (·.1) = false := by exact star_none rfl) : EX X (.Call (.Name x p) (e :: es) [] pos) ρ (.ext (OB C fs)) := .mk fun B F0 F H σ Q S q => by
  obtain ⟨f, fd, ps, G, mk, bS⟩ := M.ex
  refine PEw (pe_make mk G hr hg M.nm bS .nil pass0 pa_w hdb he hpl) (ha.use S fun vs G1 H1 g1 h1 S1 y dx ny ndy ne => ?_)
  rw [List.append_nil]
  have n1 : G1 y = none := Ex.noneOf S1.ex ny
  have n2 : G1 dx = none := Ex.noneOf S1.ex ndy
  have ex2 : Ex G1 (upd (upd H1 dx (.own y)) y (.ins C dx [])) := (S1.ex.trans (Ex.new ndy)).mut n1
  refine ⟨G1, ss, fs, y, dx, vs, rfl, h, ex2, h1.stay (Ex.refl _), n1, n2, ne, upd_same, by rw [upd_ne ne, upd_same], fun G2 H2 fv e1 e2 kp fr hx hp => ⟨rfl, ?_⟩⟩
  have nG : ∀ b, (upd (upd H1 dx (.own y)) y (.ins C dx [])) b ≠ none → G2 b = G1 b := fr
  have hy : G2 y = none := by rw [fr y (by rw [upd_same]; intro z; cases z)]; exact n1
  have hdx : G2 dx = none := by rw [fr dx (by rw [upd_ne ne, upd_same]; intro z; cases z)]; exact n2
  have hdH : H2 dx = some (.own y) := kp dx _ ne (by rw [upd_ne ne, upd_same])
  have gg : Grow F H G2 H2 := by
    refine ⟨g1.ff.trans e1, fun b o z => ?_, e2, fun b hb => ?_⟩
    · have z1 := g1.hh b o z
      have nb : b ≠ y := fun q => by subst q; rw [ny] at z1; cases z1
      have nb2 : b ≠ dx := fun q => by subst q; rw [ndy] at z1; cases z1
      exact kp b o nb (by rw [upd_ne nb, upd_ne nb2]; exact z1)
    · have z1 := Ex.someOf g1.hh hb
      have nb : b ≠ y := fun q => by subst q; exact z1 ny
      have nb2 : b ≠ dx := fun q => by subst q; exact z1 ndy
      rw [fr b (by rw [upd_ne nb, upd_ne nb2]; exact z1)]
      exact g1.fr b hb
  have ny' : H y = none := Ex.noneOf g1.hh ny
  have nd' : H dx = none := Ex.noneOf g1.hh ndy
  have e3 : Ex G2 (upd (upd G2 dx (.own y)) y (.ins C dx fv)) := fun b o z => by
    have z1 : b ≠ y := fun q => by subst q; rw [hy] at z; cases z
    have z2 : b ≠ dx := fun q => by subst q; rw [hdx] at z; cases z
    rw [upd_ne z1, upd_ne z2]
    exact z
  exact q (.ref y) _ H2 [] (frozen_new gg ny' nd' ne hy hdx hx hdH) ⟨.ref y, rfl, rfl, y, dx, fv, rfl, upd_same, by rw [upd_ne ne, upd_same], paired_imp (fun p q z => ⟨z.1, z.2.mono e3⟩) hp⟩ fun _ h => nomatch h
end
end Mx

set_option Elab.async false
set_option linter.all false
set_option maxRecDepth 100000
/-! Mx7: order of texts, sorted; equality of data; short words. -/
namespace Mx
open PySem PySem.Spec PyProof.Rows L2

/-! ### the order of texts -/
def ltS (a b : Str) : Bool := decide (a.cps.toList < b.cps.toList)
theorem str_ext {a b : Str} (h : a.cps.toList = b.cps.toList) : a = b := by
  cases a; cases b; simp only at h; congr 1; exact Array.toList_inj.mp h
theorem ltS_irrefl (a : Str) : ltS a a = false := decide_eq_false (List.lt_irrefl _)
theorem ltS_trans {a b c : Str} (h : ltS a b = true) (h' : ltS b c = true) : ltS a c = true := decide_eq_true (List.lt_trans (of_decide_eq_true h) (of_decide_eq_true h'))
theorem ltS_tri {a b : Str} (h : ltS a b = false) (h' : ltS b a = false) : a = b := by
  have h1 := of_decide_eq_false h
  have h2 := of_decide_eq_false h'
  exact str_ext (List.le_antisymm (List.not_lt.mp h2) (List.not_lt.mp h1))
theorem ltS_asymm {a b : Str} (h : ltS a b = true) : ltS b a = false := by
  cases e : ltS b a with
  | false => rfl
  | true => have := ltS_trans h e; rw [ltS_irrefl] at this; cases this
/-- a ≤ b -/
def leS (a b : Str) : Bool := !ltS b a
theorem leS_total (a b : Str) : leS a b = true ∨ leS b a = true := by
  unfold leS
  cases e : ltS b a with
  | false => exact .inl rfl
  | true => rw [ltS_asymm e]; exact .inr rfl
theorem leS_trans {a b c : Str} (h : leS a b = true) (h' : leS b c = true) : leS a c = true := by
  unfold leS at *
  cases e : ltS c a with
  | false => rfl
  | true =>
    simp only [Bool.not_eq_true'] at h h'
    cases e2 : ltS a b with
    | true => have := ltS_trans e e2; rw [this] at h'; cases h'
    | false =>
      have := ltS_tri e2 h
      subst this
      rw [e] at h'
      cases h'
theorem leS_anti {a b : Str} (h : leS a b = true) (h' : leS b a = true) : a = b := by
  unfold leS at h h'
  simp only [Bool.not_eq_true'] at h h'
  exact ltS_tri h' h
def insS (x : Str) : List Str → List Str
  | [] => [x]
  | y :: r => if leS x y = true then x :: y :: r else y :: insS x r
def sortS : List Str → List Str
  | [] => []
  | x :: r => insS x (sortS r)
theorem insS_perm (x : Str) : ∀ l : List Str, (insS x l).Perm (x :: l)
  | [] => List.Perm.refl _
  | y :: r => by
    unfold insS
    split
    · exact List.Perm.refl _
    · exact (List.Perm.cons y (insS_perm x r)).trans (List.Perm.swap x y r)
theorem sortS_perm : ∀ l : List Str, (sortS l).Perm l
  | [] => List.Perm.refl _
  | x :: r => (insS_perm x _).trans (List.Perm.cons x (sortS_perm r))
theorem sortS_len (l : List Str) : (sortS l).length = l.length := (sortS_perm l).length_eq
theorem insS_sorted (x : Str) : ∀ l : List Str, l.Pairwise (fun a b => leS a b = true) → (insS x l).Pairwise (fun a b => leS a b = true)
  | [], _ => by unfold insS; exact List.pairwise_singleton _ _
  | y :: r, h => by
    obtain ⟨h1, h2⟩ := List.pairwise_cons.mp h
    unfold insS
    split
    · rename_i hx
      exact List.pairwise_cons.mpr ⟨fun b hb => by
        rcases List.mem_cons.mp hb with rfl | hb
        · exact hx
        · exact leS_trans hx (h1 b hb), h⟩
    · rename_i hx
      have hyx : leS y x = true := (leS_total x y).resolve_left hx
      refine List.pairwise_cons.mpr ⟨fun b hb => ?_, insS_sorted x r h2⟩
      have hb' := (insS_perm x r).mem_iff.mp hb
      rcases List.mem_cons.mp hb' with rfl | hb'
      · exact hyx
      · exact h1 b hb'
theorem sortS_sorted : ∀ l : List Str, (sortS l).Pairwise (fun a b => leS a b = true)
  | [] => List.Pairwise.nil
  | x :: r => insS_sorted x _ (sortS_sorted r)
theorem pairwise_of_sortedS : ∀ l : List Str, sortedS l = true → l.Pairwise (fun a b => leS a b = true) := by
  have key : ∀ (l : List Str) (p : Str), risingS p l = true → (p :: l).Pairwise (fun a b => leS a b = true) := by
    intro l
    induction l with
    | nil => intro p _; exact List.pairwise_singleton _ _
    | cons x r ih =>
      intro p h
      have h' : (!ltCps x.cps.toList p.cps.toList && risingS x r) = true := h
      rw [Bool.and_eq_true, ltCps_eq] at h'
      have hx := ih x h'.2
      have hpx : leS p x = true := h'.1
      exact List.pairwise_cons.mpr ⟨fun b hb => by
        rcases List.mem_cons.mp hb with rfl | hb
        · exact hpx
        · exact leS_trans hpx ((List.pairwise_cons.mp hx).1 b hb), hx⟩
  intro l h
  cases l with
  | nil => exact List.Pairwise.nil
  | cons x r => exact key r x h
theorem sortS_uniq {xs ys : List Str} (p : ys.Perm xs) (s : sortedS ys = true) : ys = sortS xs :=
  List.Perm.eq_of_pairwise (fun a b _ _ => leS_anti) (pairwise_of_sortedS ys s) (sortS_sorted xs) (p.trans (sortS_perm xs).symm)
/-- a rising list of texts -/
def Rising (l : List Str) : Prop := l.Pairwise (fun a b => ltS a b = true)
theorem sortS_rising {l : List Str} (h : l.Nodup) : Rising (sortS l) := by
  have hn : (sortS l).Nodup := (sortS_perm l).nodup_iff.mpr h
  have hs := sortS_sorted l
  unfold Rising
  revert hn hs
  generalize sortS l = m
  intro hn hs
  induction m with
  | nil => exact List.Pairwise.nil
  | cons a r ih =>
    obtain ⟨n1, n2⟩ := List.nodup_cons.mp hn
    obtain ⟨s1, s2⟩ := List.pairwise_cons.mp hs
    refine List.pairwise_cons.mpr ⟨fun b hb => ?_, ih n2 s2⟩
    cases e : ltS a b with
    | true => rfl
    | false =>
      have h1 := s1 b hb
      unfold leS at h1
      simp only [Bool.not_eq_true'] at h1
      exact absurd (ltS_tri e h1) (fun z => n1 (z ▸ hb))

/-! ### what data is plain -/
def PlN (n : Nat) (d : PyData) : Prop := d.plain = true ∧ d.depth ≤ n
theorem PlN.pl {n : Nat} {d : PyData} (h : PlN n d) (hn : n ≤ 50 := by decide) : Pl d := ⟨h.1, Nat.le_trans h.2 hn⟩
theorem PlN.mono {n m : Nat} {d : PyData} (h : PlN n d) (hn : n ≤ m) : PlN m d := ⟨h.1, Nat.le_trans h.2 hn⟩
theorem pln_int {n : Nat} {i : Int} : PlN n (.int i) := ⟨by simp [PyData.plain], by simp [PyData.depth]⟩
theorem pln_str {n : Nat} {i : Str} : PlN n (.str i) := ⟨by simp [PyData.plain], by simp [PyData.depth]⟩
theorem pln_bool {n : Nat} {i : Bool} : PlN n (.bool i) := ⟨by simp [PyData.plain], by simp [PyData.depth]⟩
theorem pln_none {n : Nat} : PlN n .none := ⟨by simp [PyData.plain], by simp [PyData.depth]⟩
theorem pln_all {n : Nat} : ∀ {ds : List PyData}, (∀ d ∈ ds, PlN n d) → PyData.plainAll ds = true ∧ PyData.depthAll ds ≤ n
  | [], _ => ⟨by simp [PyData.plainAll], by simp [PyData.depthAll]⟩
  | d :: ds, h => by
    obtain ⟨h1, h2⟩ := pln_all (ds := ds) fun x hx => h x (List.mem_cons_of_mem _ hx)
    obtain ⟨h3, h4⟩ := h d List.mem_cons_self
    exact ⟨by simp [PyData.plainAll, h1, h3], by simp only [PyData.depthAll]; omega⟩
theorem pln_list {n : Nat} {ds : List PyData} (h : ∀ d ∈ ds, PlN n d) : PlN (n + 1) (.list ds) := by
  obtain ⟨h1, h2⟩ := pln_all h
  exact ⟨by simpa [PyData.plain] using h1, by simp only [PyData.depth]; omega⟩
theorem pln_tuple {n : Nat} {ds : List PyData} (h : ∀ d ∈ ds, PlN n d) : PlN (n + 1) (.tuple ds) := by
  obtain ⟨h1, h2⟩ := pln_all h
  exact ⟨by simpa [PyData.plain] using h1, by simp only [PyData.depth]; omega⟩
theorem pl_int {i : Int} : Pl (.int i) := (pln_int (n := 0)).pl
theorem pl_str {i : Str} : Pl (.str i) := (pln_str (n := 0)).pl
theorem pl_bool {i : Bool} : Pl (.bool i) := (pln_bool (n := 0)).pl
theorem pl_none : Pl .none := (pln_none (n := 0)).pl
/-! ### names and hearings -/
abbrev Names := List Str
def dN (xs : Names) : PyData := .list (xs.map .str)
abbrev Hear := List (Str × Names)
def dP (p : Str × Names) : PyData := .tuple [.str p.1, dN p.2]
def dH (h : Hear) : PyData := .list (h.map dP)
theorem pln_strs (xs : Names) : ∀ d ∈ xs.map PyData.str, PlN 0 d := fun d h => by
  obtain ⟨x, _, rfl⟩ := List.mem_map.mp h
  exact pln_str
theorem pln_dN (xs : Names) : PlN 1 (dN xs) := pln_list (pln_strs xs)
theorem pln_dP (p : Str × Names) : PlN 2 (dP p) := pln_tuple fun d h => by
  rcases List.mem_cons.mp h with rfl | h
  · exact pln_str
  · have e : d = dN p.2 := by simpa using h
    rw [e]; exact pln_dN _
theorem pln_dH (h : Hear) : PlN 3 (dH h) := pln_list fun d hd => by
  obtain ⟨x, _, rfl⟩ := List.mem_map.mp hd
  exact pln_dP x
theorem pl_dN {xs : Names} : Pl (dN xs) := (pln_dN xs).pl
theorem pl_dH {h : Hear} : Pl (dH h) := (pln_dH h).pl
theorem plainAll_strs {xs : Names} : PyData.plainAll (xs.map PyData.str) = true := (pln_all (pln_strs xs)).1
theorem eqv_int (i j : Int) : PyData.eqv (.int i) (.int j) = decide (i = j) := by simp only [PyData.eqv]; rw [Bool.beq_eq_decide_eq]
theorem eqv_str (i j : Str) : PyData.eqv (.str i) (.str j) = decide (i = j) := by simp only [PyData.eqv]; rw [Bool.beq_eq_decide_eq]
theorem eqv_bool (i j : Bool) : PyData.eqv (.bool i) (.bool j) = decide (i = j) := by simp only [PyData.eqv]; rw [Bool.beq_eq_decide_eq]
/-- a code into data whose equality is told by eqv -/
def Code {α : Type} (f : α → PyData) : Prop := ∀ a b, PyData.eqv (f a) (f b) = true ↔ a = b
theorem code_str : Code PyData.str := fun a b => by rw [eqv_str]; exact decide_eq_true_iff
theorem code_int : Code PyData.int := fun a b => by rw [eqv_int]; exact decide_eq_true_iff
theorem code_all {α : Type} {f : α → PyData} (c : Code f) : ∀ xs ys : List α, PyData.eqvAll (xs.map f) (ys.map f) = true ↔ xs = ys
  | [], [] => by simp [PyData.eqvAll]
  | [], _ :: _ => by simp [PyData.eqvAll]
  | _ :: _, [] => by simp [PyData.eqvAll]
  | x :: xs, y :: ys => by
    simp only [List.map_cons, PyData.eqvAll, Bool.and_eq_true, c x y, code_all c xs ys, List.cons.injEq]
theorem code_list {α : Type} {f : α → PyData} (c : Code f) : Code fun xs : List α => PyData.list (xs.map f) := fun xs ys => by
  simp only [PyData.eqv]
  exact code_all c xs ys
theorem code_dN : Code dN := code_list code_str
theorem code_dP : Code dP := fun p q => by
  obtain ⟨a, b⟩ := p
  obtain ⟨c, d⟩ := q
  simp only [dP, PyData.eqv, PyData.eqvAll, Bool.and_eq_true, and_true]
  rw [show PyData.eqv (dN b) (dN d) = true ↔ b = d from code_dN b d]
  simp
theorem code_dH : Code dH := code_list code_dP
theorem Code.eqv {α : Type} [DecidableEq α] {f : α → PyData} (c : Code f) (a b : α) : PyData.eqv (f a) (f b) = decide (a = b) := by
  by_cases h : a = b
  · rw [decide_eq_true h]; exact (c a b).mpr h
  · rw [decide_eq_false h]
    cases e : PyData.eqv (f a) (f b) with
    | false => rfl
    | true => exact absurd ((c a b).mp e) h
theorem eqv_dN (a b : Names) : PyData.eqv (dN a) (dN b) = decide (a = b) := code_dN.eqv a b
theorem any_str (xs : Names) (x : Str) : ((xs.map PyData.str).any fun z => PyData.eqv z (.str x)) = decide (x ∈ xs) := by
  rw [List.any_map]
  by_cases h : x ∈ xs
  · rw [decide_eq_true h]
    exact List.any_eq_true.mpr ⟨x, h, by simp [eqv_str]⟩
  · rw [decide_eq_false h]
    refine List.any_eq_false.mpr fun y hy => ?_
    simp only [Function.comp_apply, eqv_str, decide_eq_true_eq]
    exact fun e => h (e ▸ hy)

/-! ### more built-ins -/
section
variable {X : Cx} {i j : Int}
theorem od_mulW (h : CMulW i j) : BinD X .Mult (.int i) (.int j) (.da (.int (i * j))) := .mk ⟨_, op_mulW, fun F H x y Q e hx hy k => ⟨i, j, hx.eint, hy.eint, h, k.here e (.int _)⟩⟩
theorem cd_sortedS {xs : Names} (h : xs.length < 64) : CallD X (.builtin "sorted") [.list (xs.map .str)] (.ow ((sortS xs).map .str)) := .mk ⟨_, cr_sortedS, fun F H vs Q e hv k => by
  cases hv with
  | cons h1 r =>
    cases r
    obtain ⟨a, ys, rfl, e1, e2⟩ := h1.elst
    rw [e2.strs] at e1
    refine ⟨a, xs, rfl, .inl (.inl (e _ _ e1)), h, fun zs p hp hs hn => ?_⟩
    rw [sortS_uniq hp hs]
    exact k.ow (Grow.refl e) hn (DvAll.ofStrs _)⟩
variable {ρ : Env'} {a : Expr} {pos : Pos}
theorem ex_neg (ha : EX X a ρ (.da (.int i))) : EX X (.UnaryOp .USub a pos) ρ (.da (.int (-i))) := .mk fun B F0 F H σ Q S k =>
  PEw (pe_un un_neg pe_w) (ha.use S fun v G H' g hv _ => ⟨i, hv.eint, k.da g (.int _)⟩)
end
theorem atI_of {α : Type} {xs : List α} {i : Int} {v : α} (h0 : 0 ≤ i) (h : xs[i.toNat]? = some v) : atI xs i = some v := by
  have e : i = ((i.toNat : Nat) : Int) := by omega
  rw [e]
  exact atI_nat h

/-! ### comparisons told by what stands in the data -/
section
variable {X : Cx} {i j : Int} {x y : Str} {a b : Names} {g h : Hear} {t u : Bool}
theorem CmpD.is {op : CmpOp} {d1 d2 d d' : PyData} (o : CmpD X op d1 d2 (.da d)) (e : d = d') : CmpD X op d1 d2 (.da d') := e ▸ o
theorem oc_eqI (hu : X.A.units + 64 < cLine) : CmpD X .Eq (.int i) (.int j) (.da (.bool (decide (i = j)))) := (oc_eq hu pl_int pl_int).is (by rw [eqv_int])
theorem oc_eqS (hu : X.A.units + 64 < cLine) : CmpD X .Eq (.str x) (.str y) (.da (.bool (decide (x = y)))) := (oc_eq hu pl_str pl_str).is (by rw [eqv_str])
theorem oc_eqB (hu : X.A.units + 64 < cLine) : CmpD X .Eq (.bool t) (.bool u) (.da (.bool (decide (t = u)))) := (oc_eq hu pl_bool pl_bool).is (by rw [eqv_bool])
theorem oc_eqN (hu : X.A.units + 64 < cLine) : CmpD X .Eq (dN a) (dN b) (.da (.bool (decide (a = b)))) := (oc_eq hu pl_dN pl_dN).is (by rw [eqv_dN])
theorem oc_eqH (hu : X.A.units + 64 < cLine) : CmpD X .Eq (dH g) (dH h) (.da (.bool (decide (g = h)))) := (oc_eq hu pl_dH pl_dH).is (by rw [code_dH.eqv])
theorem oc_neI (hu : X.A.units + 64 < cLine) : CmpD X .NotEq (.int i) (.int j) (.da (.bool (!decide (i = j)))) := (oc_ne hu pl_int pl_int).is (by rw [eqv_int])
theorem oc_neS (hu : X.A.units + 64 < cLine) : CmpD X .NotEq (.str x) (.str y) (.da (.bool (!decide (x = y)))) := (oc_ne hu pl_str pl_str).is (by rw [eqv_str])
theorem oc_neB (hu : X.A.units + 64 < cLine) : CmpD X .NotEq (.bool t) (.bool u) (.da (.bool (!decide (t = u)))) := (oc_ne hu pl_bool pl_bool).is (by rw [eqv_bool])
theorem oc_neN (hu : X.A.units + 64 < cLine) : CmpD X .NotEq (dN a) (dN b) (.da (.bool (!decide (a = b)))) := (oc_ne hu pl_dN pl_dN).is (by rw [eqv_dN])
theorem oc_neH (hu : X.A.units + 64 < cLine) : CmpD X .NotEq (dH g) (dH h) (.da (.bool (!decide (g = h)))) := (oc_ne hu pl_dH pl_dH).is (by rw [code_dH.eqv])
theorem oc_neNil (hu : X.A.units + 64 < cLine) : CmpD X .NotEq (dN a) (.list []) (.da (.bool (!decide (a = [])))) := oc_neN (b := []) hu
theorem oc_eqNil (hu : X.A.units + 64 < cLine) : CmpD X .Eq (dN a) (.list []) (.da (.bool (decide (a = [])))) := oc_eqN (b := []) hu
theorem oc_inN (hu : X.A.units + 64 < cLine) : CmpD X .In (.str x) (dN a) (.da (.bool (decide (x ∈ a)))) := (oc_in hu pl_str plainAll_strs).is (by rw [any_str])
theorem oc_notinN (hu : X.A.units + 64 < cLine) : CmpD X .NotIn (.str x) (dN a) (.da (.bool (!decide (x ∈ a)))) := (oc_notin hu pl_str plainAll_strs).is (by rw [any_str])
end

/-! ### the text by places, without a recursion -/
def tlS : List Stmt → List Stmt
  | _ :: r => r
  | [] => []
def hdS : List Stmt → Stmt
  | s :: _ => s
  | [] => .Pass ⟨0, 0, 0, 0⟩
def clsB : Stmt → List Stmt
  | .ClassDef _ _ _ body _ _ _ _ _ _ _ => body
  | _ => []

/-! ### enumerate over names -/
def dI (q : Str × Nat) : PyData := .tuple [.int (q.2 : Nat), .str q.1]
theorem enum_names : ∀ (xs : Names) (n : Nat), enumD n (xs.map .str) = (xs.zipIdx n).map dI
  | [], _ => rfl
  | x :: xs, n => by
    rw [List.map_cons, List.zipIdx_cons, List.map_cons, ← enum_names xs (n + 1)]
    rfl
theorem zip_mem {xs : Names} {q : Str × Nat} (h : q ∈ xs.zipIdx) : q.2 < xs.length ∧ q.1 ∈ xs := by
  have := List.mem_zipIdx h
  refine ⟨by omega, ?_⟩
  rw [this.2.2]
  exact List.getElem_mem _
theorem it_enumN {X : Cx} {ρ : Env'} {e : Expr} {pos p tpos : Pos} {elts : List Expr} {kk : Nat} {xs : Names} (hm : X.mg "enumerate" = none) (h : EA X [e] ρ [dN xs]) (hg : Gl X "enumerate" := by exact gl_of (by kernel_rfl)) (hs : starEach [e] X.env = [(false, eval e X.env)] := by exact star_one rfl) :
    IT X (.Tuple elts kk tpos) (.Call (.Name "enumerate" p) [e] [] pos) ρ (xs.zipIdx.map dI) := by
  rw [← enum_names xs 0]
  exact it_enum hm h hg hs

/-! ### isinstance with a built-in type -/
def tyD : PyData → String
  | .none => "NoneType"
  | .bool _ => "bool"
  | .int _ => "int"
  | .str _ => "str"
  | .list _ => "list"
  | .tuple _ => "tuple"
  | .dict _ => "dict"
theorem ty_dv {K : PySem.W.Frag} {F H : Hp} {v : V} {d : PyData} (h : Dv F v d) (e : Ex F H) : TyX K H v (.type (tyD d)) := by
  cases h with
  | non => exact .base .non
  | bl b => exact .base (.bl b)
  | int i => exact .base (.int i)
  | str x => exact .base (.str x)
  | lst a r => exact .base (.lst (e _ _ a))
  | tup a r => exact .base (.tup (e _ _ a))
  | dct a => exact .base (.dK (e _ _ a))
section
variable {X : Cx} {ρ : Env'} {a : Expr} {pos p pT : Pos} {d : PyData} {T : Str} {n : String} {b : Bool}
theorem ex_isi (ha : EX X a ρ (.da d)) (hk : kitB (tyD d) n = some b) (hm : X.mg "isinstance" = none) (hT : X.mg T = none) (hv : bootBuiltins T = some (.type n) := by kernel_rfl) (hg : Gl X "isinstance" := by exact gl_of (by kernel_rfl)) (hgT : Gl X T := by exact gl_of (by kernel_rfl)) (hok : globOk T = true := by kernel_rfl)
    (he : starEach [a, .Name T pT] X.env = (false, eval a X.env) :: starEach [.Name T pT] X.env := by exact star_cons rfl) : EX X (.Call (.Name "isinstance" p) [a, .Name T pT] [] pos) ρ (.da (.bool b)) := .mk fun B F0 F H σ Q S k =>
  PEw (pe_callB call_isi hg hm (by kernel_rfl) (pa_cons pe_w (pa_cons (pe_bltn (v := .ty n) hgT hT hv rfl (globOk_n hok) (globOk_d hok)) pa_nil (star_cons rfl)) he) (by decide +kernel) (by decide +kernel) he (star_none rfl)) (ha.use S fun v G H' g hv' S' =>
    ⟨v, .ty n, .type (tyD d), .type n, b, rfl, .ty n, ty_dv hv' S'.ex, kit_ty hk, k.da g (.bl b)⟩)
end
theorem kitB_bool (d : PyData) : kitB (tyD d) "bool" = some (match d with | .bool _ => true | _ => false) := by cases d <;> first | rfl | kernel_rfl
theorem kitB_int (d : PyData) : kitB (tyD d) "int" = some (match d with | .bool _ => true | .int _ => true | _ => false) := by cases d <;> first | rfl | kernel_rfl
theorem kitB_str (d : PyData) : kitB (tyD d) "str" = some (match d with | .str _ => true | _ => false) := by cases d <;> first | rfl | kernel_rfl
theorem kitB_list (d : PyData) : kitB (tyD d) "list" = some (match d with | .list _ => true | _ => false) := by cases d <;> first | rfl | kernel_rfl
theorem kitB_tuple (d : PyData) : kitB (tyD d) "tuple" = some (match d with | .tuple _ => true | _ => false) := by cases d <;> first | rfl | kernel_rfl
/-! ### comprehensions that keep all -/
section
variable {X : Cx} {ρ : Env'} {elt tg iter : Expr} {scope : Scope} {pos : Pos} {x : Str}
theorem filt_all {α : Type} (xs : List α) : xs.filter (fun _ => true) = xs := List.filter_eq_self.mpr fun _ _ => rfl
theorem ex_lcA {α : Type} (own : List (Str × Nat)) (xs : List α) (enc : α → PyData) (f : α → PyData) (hc : X.calm = true) (hN : X.N.Nodup) (ok : BlkOk X.N X.env.scope scope own) (hi : IT X tg iter ρ (xs.map enc))
    (body : ∀ x ∈ xs, BlkAt X scope tg [] elt (own.map (·.2)) ρ (enc x) true (f x)) (hz : xs.length < 100000) (hs : ∀ x, foldedSetIterable iter X.env x = pure x := by intro _; rfl) : EX X (.ListComp elt [⟨tg, iter, [], 0⟩] scope pos) ρ (.ow (xs.map f)) := by
  have h := ex_lc (pos := pos) own xs enc (fun _ => true) f hc hN ok hi body hz hs
  rw [filt_all] at h
  exact h
theorem r_setLcA {α : Type} {lpos p' : Pos} (i : Nat) (own : List (Str × Nat)) (xs : List α) (enc : α → PyData) (f : α → PyData) (hc : X.calm = true) (hN : X.N.Nodup) (ok : BlkOk X.N X.env.scope scope own) (hit : IT X tg iter ρ (xs.map enc))
    (bd : ∀ y ∈ xs, BlkAt X scope tg [] elt (own.map (·.2)) ρ (enc y) true (f y)) (hz : xs.length < 100000) (hi : X.N[i]? = some x := by rfl) (hyl : X.env.scope.names.lookup x = some .local := by kernel_rfl)
    (hsw : swapsWith (.ListComp elt [⟨tg, iter, [], 0⟩] scope lpos) (some (.Name x p')) pos.line X.env = pure true := by exact sw_true rfl rfl rfl (by kernel_rfl)) (hs : ∀ x, foldedSetIterable iter X.env x = pure x := by intro _; rfl) :
    R1 X (.Assign [.Name x p'] (.ListComp elt [⟨tg, iter, [], 0⟩] scope lpos) pos) ρ (.nx (ρ.set i (.ow (xs.map f)))) := by
  have h := r_setLc (p' := p') (lpos := lpos) (pos := pos) i own xs enc (fun _ => true) f hc hN ok hit bd hz hi hyl hsw hs
  rw [filt_all] at h
  exact h
end
end Mx

set_option Elab.async false
set_option linter.all false
set_option maxRecDepth 100000
/-! Mx8: the head: what the top has written. -/
namespace Mx
open PySem PySem.Spec PyProof.Rows L2
theorem law_sp {K : PySem.W.Frag} {R : List Slot → Slot → Prop} {a : Addr} {ns : List Int} {H : Hp} {E : XK} (hS : SqL K H a (ns.map V.int)) (h : R [.scr ns] (.da (.bool true))) : spP K R [.ref a] H (fun v _ => v = .bl true) E :=
  ⟨H, [.scr ns], .da (.bool true), h, Ex.refl H, .cons ⟨rfl, a, rfl, hS⟩ .nil, fun v G H' as g ok n => by
    obtain ⟨_, v', e, hd⟩ := ok
    cases e
    cases hd
    rfl⟩
theorem walkS {l : PySem.W.OpenLaw} {q : Program} {loose : List Str} {XP : (Str → Option Value) → Heap → Prop} {YP : World → Heap → Prop} {d : DefRec} {K : Params → PySem.W.Frag} {x : Str} {R : List Slot → Slot → Prop} (k : Nat) (hn : l.most = some 63) (hdf : d.params.defaults = [])
    (hk : Room k callerA) (hY : ∀ (w : World) (h : Heap), YP w h → (K w.params).In h)
    (F : ∀ (w : World) (mg : Str → Option Value) (fa : Addr) (h : Heap), (K w.params).In h → h.Ns mainGlobals mg → mg d.name = some (.ref fa) →
      ∃ fd : FuncData, (∀ (s : Shared) (u : Value), BindsTo s fd ⟨[u], []⟩ [(x, u)]) ∧ ∀ base : Heap, (K w.params).In base → base.Ns mainGlobals mg → FnOk l.prog w (K w.params) mg base CX0 k fa fd [x] (spP (K w.params) R))
    (hR : ∀ ns : List Int, ns.length ≤ 63 → R [.scr ns] (.da (.bool true))) :
    PySem.W.WalkO q loose XP YP l.row.toRowW d [] (fun f vs => PySem.call f vs) :=
  L2.walk_of (n := 63) (k := k) (x := x) (CX := fun _ => CX0) (sp := fun w => spP (K w.params) R) hn (by decide) hdf hk hY F (fun _ _ a ns hl _ hS => law_sp hS (hR ns hl)) fun _ _ _ _ _ z => z
end Mx

set_option Elab.async false
set_option linter.all false
set_option maxRecDepth 100000
/-! Mx9: dict(zip(a, b)), results of temporarily frozen lists, more built-ins. -/
namespace Mx
open PySem PySem.Spec PyProof.Rows L2

/-! ### dict(zip(a, b)) -/
theorem Paired.getR {α β : Type} {R : α → β → Prop} : ∀ {xs : List α} {ys : List β}, Paired R xs ys → ∀ (i : Nat) (y : β), ys[i]? = some y → ∃ x, xs[i]? = some x ∧ R x y
  | _, _, .cons a r, 0, y, h => by cases h; exact ⟨_, rfl, a⟩
  | _, _, .cons a r, i + 1, y, h => by simpa using Paired.getR r i y (by simpa using h)
theorem kv_merge : ∀ {more : List (Key × V)} {mv : List (Key × Value)} {kvs : List (Key × V)} {vs : List (Key × Value)}, KV kvs vs → KV more mv → KV (mergeK kvs more) (merged vs mv)
  | _, _, _, _, h, .nil => h
  | _, _, _, _, h, .cons (a := p) (b := q) e r => by
    obtain ⟨e1, e2⟩ := e
    have := kv_merge (h.put p.1 e2) r
    unfold mergeK merged at this ⊢
    simp only [List.foldl_cons]
    rw [e1] at this ⊢
    exact this
theorem kv_zip : ∀ {ks : List Key} {us : List Value} {ys : List V} {vs : List Value}, us.length = ks.length → (∀ (i : Nat) k u, ks[i]? = some k → us[i]? = some u → keyIs k u = true) → Vals ys vs → KV (ks.zip ys) (ks.zip vs)
  | [], _, _, _, _, _, _ => by simp only [List.zip_nil_left]; exact .nil
  | _ :: _, [], _, _, h, _, _ => nomatch h
  | _ :: _, _ :: _, _, _, _, _, .nil => .nil
  | _ :: _, _ :: _, _, _, h, hk, .cons e r => .cons ⟨rfl, e⟩ (kv_zip (us := _) (by simpa using h) (fun i k u h1 h2 => hk (i + 1) k u (by simpa using h1) (by simpa using h2)) r)
theorem key_val : ∀ {k : Key} {u : Value}, RelV (kV k) u → keyIs k u = true
  | .inl i, u, h => by obtain ⟨t, rfl⟩ := h; simp [keyIs, Value.isInt]
  | .inr x, u, h => by obtain ⟨t, rfl⟩ := h; simp [keyIs, Value.isStrOf]
theorem inv_laid {X : Cx} {pins : List (Addr × Obj)} {σ : L2.St} {H : Hp} {s : Shared} {h' : Heap} {t' : Nat} {p : Addr} {o : HO} (I : Inv X pins σ H s) (kp : ∀ b u, s.heap.get? b = some u → h'.get? b = some u) (hp : s.heap.objs.size ≤ p) (ok : ObjOk X.prog X.w (upd H p o) h' p o) : Inv X pins σ (upd H p o) ⟨h', s.gens, s.drawn, t', s.os⟩ := by
  have hnew : ∀ b u, s.heap.get? b = some u → b ≠ p := fun b u e q => by
    subst q
    rw [Heap.get?_none_of_le hp] at e
    cases e
  have hold : ∀ b u, H b = some u → b ≠ p := fun b u e q => by
    subst q
    exact absurd (I.hok.lt e) (Nat.not_lt.mpr hp)
  exact Inv.step (ch := []) I (fun _ h => nomatch h) (fun b o _ _ _ e _ => kp b o e) (fun b o _ _ _ e _ => ⟨o.slots, kp b o e⟩) (fun b u _ e h => by rw [upd_ne (hnew b u e)]; exact h) (fun b u _ e => ⟨u, kp b u e⟩)
    (fun b xs e => by rw [upd_ne (hold b _ e)]; exact e) (fun b o u e => by rw [upd_ne (hold b _ e)]; exact e) (fun b ps e => ⟨#[], by rw [upd_ne (hold b _ e)]; simpa using e⟩) (fun m h => h.keepsP kp) (I.hok.laid kp hp ok) I.bare
section
variable {X : Cx} {a b : Expr} {ta : TA} {p p2 pos pos2 : Pos}
theorem apart5 {n l1 l2 : Nat} (h1 : l1 < n) (h2 : l2 < n) : ZipApart (n + 4) (n + 2) (n + 3) n (n + 1) l1 l2 := by
  constructor <;> first | exact Nat.ne_of_lt (by omega) | exact Nat.ne_of_gt (by omega)
theorem off4 {n b : Nat} (h : b < n) (q : b = n + 4 ∨ b = n + 3 ∨ b = n ∨ b = n + 1) : False := by omega
theorem pe_dictZip (hc : X.calm = true) (ha : PA X [a, b] ta) (hmd : X.mg "dict" = none) (hmz : X.mg "zip" = none) (hgd : Gl X "dict" := by exact gl_of (by kernel_rfl)) (hgz : Gl X "zip" := by exact gl_of (by kernel_rfl))
    (hs2 : starEach [a, b] X.env = (false, eval a X.env) :: starEach [b] X.env := by exact star_cons rfl) (hp2 : (backTo pos2 (starEach [b] X.env)).any (·.1) = false := by exact star_none rfl)
    (hs1 : starEach [.Call (.Name "zip" p2) [a, b] [] pos2] X.env = (false, eval (.Call (.Name "zip" p2) [a, b] [] pos2) X.env) :: starEach [] X.env := by exact star_cons rfl) :
    PE X (.Call (.Name "dict" p) [.Call (.Name "zip" p2) [a, b] [] pos2] [] pos) (fun σ H Q => ta σ H fun vs H1 => ∃ (pa pb : Addr) (ks : List Key) (ys : List V), vs = [.ref pa, .ref pb] ∧ SqL X.K H1 pa (ks.map kV) ∧ SqL X.K H1 pb ys ∧ ks.length ≤ 1000 ∧
      ∀ q, H1 q = none → Q (.ref q) (upd H1 q (.dK (mergeK [] (ks.zip ys))))) := ⟨fun pins s σ H Q I h => by
  refine wpAny_Call_NameR (ld_blt (u := .type "dict") I hgd hmd (by kernel_rfl) ?_)
  refine callWith_type1 (spliced_more (wpAny_Call_NameR (ld_blt (u := .type "zip") I hgz hmz (by kernel_rfl) ?_)) hs1) hs1 rfl
  refine callWith_type1 (wpAny_mono (ha.run pos2 pins s σ H _ I h) ?_ fun _ _ e => e) hs2 hp2
  rintro us s1 ⟨vs, H1, I1, rv, pa, pb, ks, ys, rfl, sa, sb, hz, k⟩
  cases rv with
  | cons r1 r => cases r with
    | cons r2 r =>
      cases r
      cases r1
      cases r2
      obtain ⟨ia, va, la, _⟩ := I1.list sa
      obtain ⟨ib, vb, lb, _⟩ := I1.list sb
      obtain ⟨oa, na, ga, ca, _, da⟩ := la
      obtain ⟨ob, nb, gb, cb, _, db⟩ := lb
      refine call_zip_2 ⟨oa, ga, ca, na, da⟩ ⟨ob, gb, cb, nb, db⟩ fun h' z1 z2 z3 z4 z5 hsz kp => spliced_none ?_
      have lpa : pa < s1.heap.objs.size := Heap.lt_size ga
      have lpb : pb < s1.heap.objs.size := Heap.lt_size gb
      have hd : X.A.handled = none := I1.ok.hd hc
      have hla : ks.length = ia.length := by have := Mx.Paired.len va; rw [List.length_map] at this; exact this
      refine PySem.call_dict_pairs (knd := mixKind X.prog X.w) (kvs := ks.zip ib) (PairArg.zip (s1.heap.objs.size + 4) (s1.heap.objs.size + 2) (s1.heap.objs.size + 3) s1.heap.objs.size (s1.heap.objs.size + 1) pa pb (apart5 lpa lpb) ia.toArray ib.toArray) hd
        ⟨z1, z2, ⟨_, _, z3⟩, z4, z5, ⟨oa, kp _ _ ga, ca, na, da⟩, ⟨ob, kp _ _ gb, cb, nb, db⟩⟩ ⟨?_, ?_⟩ ?_ fun h2 tk hD kp2 => ?_
      · rw [List.length_zip, hla]; simp
      · rintro i key v ⟨e1, e2⟩
        have e1' : ia[i]? = some key := by simpa using e1
        have e2' : ib[i]? = some v := by simpa using e2
        obtain ⟨kv, h1, h2⟩ := Mx.Paired.getR va i key e1'
        rw [List.getElem?_map] at h1
        cases hk : ks[i]? with
        | none => rw [hk] at h1; cases h1
        | some k0 =>
          rw [hk] at h1
          cases h1
          refine ⟨k0, ?_, key_val h2⟩
          rw [List.getElem?_zip_eq_some]
          exact ⟨hk, e2'⟩
      · have : min ia.toArray.size ib.toArray.size ≤ 1000 := by simp; omega
        exact Nat.le_trans this (by decide)
      · have kp3 : ∀ b u, s1.heap.get? b = some u → h2.get? b = some u := fun b u e => by
          have lb : b < s1.heap.objs.size := Heap.lt_size e
          refine kp2 b u (fun q => ?_) (kp _ _ e)
          simp only [List.mem_cons, List.not_mem_nil, or_false] at q
          exact off4 lb q
        have hz2 : (mergeK [] (ks.zip ys)).length ≤ sizeLine := by
          have h1 := length_mergeK (ks.zip ys) []
          rw [List.length_zip] at h1
          have h2 : (mergeK [] (ks.zip ys)).length ≤ 1000 := by simp at h1; omega
          exact Nat.le_trans h2 (by decide)
        have hs : (h'.objs.size == sysModules) = false := by
          have q : (h'.objs.size : Nat) ≠ 1 := by omega
          exact beq_eq_false_iff_ne.mpr q
        have hok : ObjOk X.prog X.w (upd H1 h'.objs.size (.dK (mergeK [] (ks.zip ys)))) h2 h'.objs.size (.dK (mergeK [] (ks.zip ys))) := ⟨hz2, hs, _, kv_merge .nil (kv_zip (us := ia) hla.symm (fun i k u e1 e2 => ?_) vb), hD⟩
        · exact ⟨.ref h'.objs.size, _, inv_laid (s := s1) (t' := tk) I1 kp3 (by omega) hok, rfl, k _ (I1.hok.fresh (by omega))⟩
        · obtain ⟨kv, h1, h2⟩ := Mx.Paired.getR va i u e2
          rw [List.getElem?_map, e1] at h1
          cases h1
          exact key_val h2
⟩
end
end Mx

set_option Elab.async false
set_option linter.all false
set_option maxRecDepth 100000
namespace Mx
open PySem PySem.Spec PyProof.Rows L2

/-! ### results of temporarily frozen lists -/
theorem dv_flatAll {F G : Hp} : ∀ {vs : List V} {ds : List PyData}, DvAll F vs ds → ds.all flatD = true → DvAll G vs ds
  | _, _, .nil, _ => .nil
  | _, _, .cons a r, h => by
    rw [List.all_cons, Bool.and_eq_true] at h
    exact .cons (a.flat h.1) (dv_flatAll r h.2)
section
variable {X : Cx} {ρ : Env'} {a b c e : Expr} {es : List Expr} {pos p : Pos} {d d1 d2 : PyData} {s : Slot} {ds : List PyData} {x : Str}
theorem ex_starO (h : EX X e (star ρ) (.ow ds)) (f : ds.all flatD = true) : EX X e ρ (.ow ds) := .mk fun B F0 F H σ Q S k => by
  obtain ⟨F', e1, S'⟩ := S.star
  refine h.run B F0 F' H σ Q S' fun v G H' as g ok n => ?_
  obtain ⟨q, vs, rfl, ev, ha, hd⟩ := ok
  have nn := n q (by simp)
  refine k v F H' [q] ⟨Ex.refl F, g.hh, S.ex.trans g.hh, fun _ _ => rfl⟩ ⟨q, vs, rfl, ev, ha, dv_flatAll hd f⟩ fun y hy => ?_
  have ey : y = q := by simpa using hy
  subst ey
  exact ⟨nn.1, Ex.noneOf S.ex nn.1, nn.2.2⟩
end

/-! ### more operators -/
section
variable {X : Cx} {i j k : Int} {ds : List PyData}
theorem oc_inSg {c : Nat} {z : Str} : CmpD X .In (.str ⟨#[c]⟩) (.str z) (.da (.bool (decide (c ∈ z.cps.toList)))) := .mk ⟨_, op_in_sign, fun F H x y Q e hx hy q => ⟨c, z, hx.estr, hy.estr, q.here e (.bl _)⟩⟩
theorem dv_append {F : Hp} : ∀ {vs us : List V} {ds es : List PyData}, DvAll F vs ds → DvAll F us es → DvAll F (vs ++ us) (ds ++ es)
  | _, _, _, _, .nil, h => h
  | _, _, _, _, .cons a r, h => .cons a (dv_append r h)
theorem dv_rep {F : Hp} {vs : List V} {ds : List PyData} (h : DvAll F vs ds) : ∀ n : Nat, DvAll F (List.replicate n vs).flatten (List.replicate n ds).flatten
  | 0 => .nil
  | n + 1 => by
    rw [List.replicate_succ, List.replicate_succ, List.flatten_cons, List.flatten_cons]
    exact dv_append h (dv_rep h n)
theorem od_rep (hk : -1000 ≤ k ∧ k ≤ 1000) (hl : ds.length ≤ 100) : BinD X .Mult (.list ds) (.int k) (.ow (List.replicate k.toNat ds).flatten) := .mk ⟨_, op_rep, fun F H x y Q e hx hy q => by
  obtain ⟨a, xs, rfl, h1, h2⟩ := hx.elst
  refine ⟨a, k, xs, rfl, hy.eint, e _ _ h1, by omega, by omega, sz_of ?_, fun p hp => q.ow (Grow.refl e) hp (dv_rep h2 _)⟩
  rw [h2.length]
  have h3 : k.toNat ≤ 1000 := by omega
  calc ds.length * k.toNat ≤ 100 * 1000 := Nat.mul_le_mul hl h3
    _ = 100000 := rfl⟩
end

/-! ### slots changed -/
theorem Sl.change {K : PySem.W.Frag} {B F0 F H : Hp} {σ : L2.St} {ρ : Env'} {i : Nat} {s : Slot} (S : Sl K B F0 F H σ ρ) (hρ : ρ[i]? = some s) : ∃ as, SlotOk K F H (at' σ i) s as ∧ (∀ a ∈ as, F a = none ∧ B a = none ∧ H a ≠ none) ∧
    ∀ (G H' : Hp) (as' : List Addr) (s' : Slot), Ex F G → Ex G H' → (∀ b o, b ∉ as → H b = some o → H' b = some o) → (∀ b, H b ≠ none → G b = F b) → (∀ b ∈ as', (b ∈ as ∨ H b = none) ∧ G b = none ∧ H' b ≠ none) → SlotOk K G H' (at' σ i) s' as' → Sl K B F0 G H' σ (ρ.set i s') := by
  obtain ⟨fp, f1, f2, f3⟩ := id S.fp
  refine ⟨fp i, f3 i s hρ, f2 i, fun G H' as' s' e1 e2 kp fr n ok => ?_⟩
  have other : ∀ j b, j ≠ i → b ∈ fp j → b ∉ fp i := fun j b hj hb hb' => hj (f1 j i b hb hb')
  refine Sl.build (as := as') (fp := fp) i e2 (fun b o q => kp b o (fun z => by rw [(f2 i b z).2.1] at q; cases q) (S.kb b o q)) (fun b hb => by
      rw [fr b (Ex.someOf S.kb hb)]
      exact S.kf b hb) S.len f1 (fun j b hj hb => ?_) (fun j b hj hb hb' => ?_) (fun b hb => ?_) (fun j t hj e => ?_) fun _ => ok
  · obtain ⟨z1, z2, z3⟩ := f2 j b hb
    refine ⟨by rw [fr b z3]; exact z1, z2, ?_⟩
    cases q : H b with
    | none => exact absurd q z3
    | some o => rw [kp b o (other j b hj hb) q]; intro z; cases z
  · rcases (n b hb).1 with z | z
    · exact other j b hj hb' z
    · exact (f2 j b hb').2.2 z
  · refine ⟨(n b hb).2.1, ?_, (n b hb).2.2⟩
    rcases (n b hb).1 with z | z
    · exact (f2 i b z).2.1
    · exact Ex.noneOf S.kb z
  · refine (f3 j t e).mono e1 (fun b hb => ?_) fun b hb => by rw [fr b (f2 j b hb).2.2]; exact (f2 j b hb).1
    cases q : H b with
    | none => exact absurd q (f2 j b hb).2.2
    | some o => rw [kp b o (other j b hj hb) q]
/-- an expression that changes what one has -/
structure EM (X : Cx) (e : Expr) (ρ ρ' : Env') (d : PyData) : Prop where
  run : ∀ B F0 F H σ (Q : VK), Sl X.K B F0 F H σ ρ → (∀ v G H', Ex F G → Sl X.K B F0 G H' σ ρ' → Dv G v d → Q v H') → wE X e σ H Q
section
variable {X : Cx} {ρ ρ' : Env'} {a b c e : Expr} {es : List Expr} {pos p : Pos} {d : PyData} {ds : List PyData} {x : Str}
theorem em_ex (h : EX X e ρ (.da d)) : EM X e ρ ρ d := .mk fun B F0 F H σ Q S k => h.use S fun v G H' g hv S' => k v G H' g.ff S' hv
theorem r_setM {p' : Pos} (i : Nat) (hN : X.N.Nodup) (he : EM X e ρ ρ' d) (hi : X.N[i]? = some x := by rfl) (hx : storeOk X.env.scope (X.fn x) x = true := by kernel_rfl) (hs : swapsWith e (some (.Name x p')) pos.line X.env = pure false := by exact swaps_no rfl) : R1 X (.Assign [.Name x p'] e pos) ρ (.nx (ρ'.set i (.da d))) := .mk fun B F0 F H σ D S k =>
  PSw (ps_set hN hi (storeOk_loc hx) pe_w hs (storeOk_fn hx)) (he.run B F0 F H σ _ S fun v G H' e1 S' hv => k G H' _ e1 (S'.setDa i hv))
end

/-! ### own lists of a caller -/
def OwnL (a : Addr) (ds : List PyData) : Own := ⟨fun F H v as => v = .ref a ∧ as = [a] ∧ ∃ vs, H a = some (.lst vs) ∧ DvAll F vs ds, fun h e k n => by
  obtain ⟨rfl, rfl, vs, h1, h2⟩ := h
  exact ⟨rfl, rfl, vs, (k _ (by simp)).trans h1, h2.mono e⟩⟩
def spIO (K : PySem.W.Frag) (R : List PyData → List Slot → PyData → List PyData → Prop) : Sp := fun vs H Q _ => ∃ F a us ds vs' ss d ds', vs = .ref a :: vs' ∧ H a = some (.lst us) ∧ F a = none ∧ DvAll F us ds ∧ R ds ss d ds' ∧ Ex F H ∧ ArgsOk K F H vs' ss ∧
  ∀ v G H' us', Ex F G → Ex G H' → (∀ b o, b ≠ a → H b = some o → H' b = some o) → (∀ b, H b ≠ none → G b = F b) → H' a = some (.lst us') → DvAll G us' ds' → Dv G v d → Q v H'
section
variable {P : Program} {w : World} {K : PySem.W.Frag} {mg : Str → Option Value} {base : Heap}
theorem args_at {K : PySem.W.Frag} {F H : Hp} : ∀ {vs : List V} {ss : List Slot}, ArgsOk K F H vs ss → ∀ (n i : Nat) (s : Slot), (ss ++ List.replicate n Slot.un)[i]? = some s → SlotOk K F H (at' (vs.map some ++ List.replicate n none) i) s []
  | _, _, .nil, n, i, s, e => by
    rw [List.nil_append, List.getElem?_replicate] at e
    split at e
    · cases e; rfl
    · cases e
  | _, _, .cons a r, n, 0, s, e => by cases e; exact a
  | _, _, .cons a r, n, i + 1, s, e => args_at r n i s (by simpa using e)
theorem fun_io {x qual : Str} {st : Stmt} {f : Addr} {fd : FuncData} {N ps : List Str} {k : Nat} {R : List PyData → List Slot → PyData → List PyData → Prop} (F : Fun K x qual st f fd) (S : FnScope N ps (defScope st)) (hl : ∀ ds ss d ds', R ds ss d ds' → ss.length + 1 = ps.length)
    (hbody : ∀ (cdv : Value) (A : Around) (outer : List Env) (s : Shared) (H : Hp) (E : XK), Room k (A.deeper (envOfC qual (defScope st) s.heap.objs.size f cdv)) → (A.deeper (envOfC qual (defScope st) s.heap.objs.size f cdv)).units + 64 < cLine → ∀ a ds ss d ds', R ds ss d ds' →
      ∃ ρ', RS (cxOf CX0 P w K mg base N qual (defScope st) f cdv A outer s H E).nox (defBody st) (rho N (.ext (OwnL a ds) :: ss)) (.rt (.da d) ρ') ∧ ρ'[0]? = some (.ext (OwnL a ds'))) : FnOk P w K mg base CX0 (k + 1) f fd ps (spIO K R) := by
  refine F.ok S (fun vs H Q E h => ?_) (fun cdv A outer s H vs Q E hr h => ?_)
  · obtain ⟨G, a, us, ds, vs', ss, d, ds', rfl, _, _, _, hR, _, hA, _⟩ := h
    rw [List.length_cons, Mx.Paired.len hA]
    exact hl _ _ _ _ hR
  · obtain ⟨G, a, us, ds, vs', ss, d, ds', rfl, ha, na, hd, hR, eG, hA, q⟩ := h
    obtain ⟨ρ', hb, h0⟩ := hbody cdv A outer s H E hr hr.units a ds ss d ds' hR
    refine ⟨_, pss_w, ?_⟩
    have hB : Ex (fun b => if b = a then none else H b) H := fun b o e => by
      simp only at e
      split at e
      · cases e
      · exact e
    have S0 : Sl K (fun b => if b = a then none else H b) G G H (L2.start N (.ref a :: vs')) (rho N (.ext (OwnL a ds) :: ss)) := by
      have hll : vs'.length = ss.length := Mx.Paired.len hA
      refine ⟨eG, hB, fun _ _ => rfl, ?_, fun j => if j = 0 then [a] else [], fun i j b hi hj => ?_, fun i b hi => ?_, fun i s e => ?_⟩
      · unfold L2.start rho
        rw [List.length_append, List.length_append, List.length_map, List.length_replicate, List.length_replicate, List.length_cons, List.length_cons, hll]
      · by_cases z : i = 0
        · by_cases z2 : j = 0
          · rw [z, z2]
          · simp only [if_neg z2] at hj; cases hj
        · simp only [if_neg z] at hi; cases hi
      · by_cases z : i = 0
        · simp only [if_pos z] at hi
          have eb : b = a := by simpa using hi
          subst eb
          exact ⟨na, if_pos rfl, by rw [ha]; intro z; cases z⟩
        · simp only [if_neg z] at hi; cases hi
      · unfold rho at e
        unfold L2.start
        cases i with
        | zero =>
          cases e
          exact ⟨.ref a, rfl, rfl, rfl, us, ha, hd⟩
        | succ i =>
          have e' : (ss ++ List.replicate (N.length - (Slot.ext (OwnL a ds) :: ss).length) Slot.un)[i]? = some s := e
          have q := args_at hA (N.length - (Slot.ext (OwnL a ds) :: ss).length) i s e'
          rw [List.length_cons, ← hll] at q
          exact q
    refine hb.run _ G G H _ _ S0 fun F' H' σ' v e S' => ?_
    obtain ⟨fp, f1, f2, f3⟩ := id S'.fp
    obtain ⟨_, v', ev, hv⟩ := f3 0 _ rfl
    cases ev
    obtain ⟨v2, e2, rfl, e3, us', h4, h5⟩ := f3 1 _ (by simpa using h0)
    refine q v F' H' us' e S'.ex (fun b o nb e => S'.kb b o (by simp only [if_neg nb]; exact e)) (fun b hb => ?_) h4 h5 hv
    by_cases z : b = a
    · subst z
      rw [na]
      exact (f2 1 b (by rw [e3]; simp)).1
    · exact S'.kf b (by simp only [if_neg z]; exact hb)
end
section
variable {X : Cx} {ρ ρ' : Env'} {a b c e : Expr} {es : List Expr} {pos p pn : Pos} {d : PyData} {ds ds' : List PyData} {x y : Str} {ss : List Slot} {ad : Addr}
/-- f(y, ..) where y's list is lent -/
theorem em_call {k : Nat} {R : List PyData → List Slot → PyData → List PyData → Prop} (i : Nat) (C : Cal X.prog X.w X.K X.mg X.base x k (spIO X.K R)) (hr : Room k X.A) (hρ : ρ[i]? = some (.ow ds)) (ha : ES X es ρ ss) (h : R ds ss d ds') (hN : X.N[i]? = some y := by rfl) (hv : nameOk X.env.scope y = true := by kernel_rfl) (hg : Gl X x := by exact gl_of (by kernel_rfl)) (hdb : (x == ("__debug__" : Str)) = false := by kernel_rfl)
    (he : starEach (.Name y pn :: es) X.env = (false, eval (.Name y pn) X.env) :: starEach es X.env := by exact star_cons rfl) (hpl : (backTo pos (starEach es X.env)).any (·.1) = false := by exact star_none rfl) : EM X (.Call (.Name x p) (.Name y pn :: es) [] pos) ρ (ρ.set i (.ow ds')) d := .mk fun B F0 F H σ Q S q => by
  obtain ⟨f, fd, ps, G, gS, kp, bS⟩ := C.ex
  refine PEw (pe_call G hr hg gS kp bS .nil pass0 (pa_cons (pv i hN (nameOk_vis hv) (nameOk_d hv) (nameOk_c hv)) pa_w he) hdb he hpl) ?_
  obtain ⟨a, us, e1, e2, e3, e4⟩ := S.ow hρ
  refine ⟨.ref a, e1, ha.use S fun vs G1 H1 g1 h1 S1 => ?_⟩
  show spIO X.K R ((V.ref a :: vs) ++ []) H1 Q E0
  rw [List.append_nil]
  obtain ⟨as, ⟨a', us', eas, e5, e6, e7⟩, n, ch⟩ := S1.change hρ
  have ea : a' = a := by
    have q := at_get e5
    rw [q] at e1
    cases e1
    rfl
  subst ea
  subst eas
  have eu : us' = us := by
    have := g1.hh _ _ e2
    rw [this] at e6
    cases e6
    rfl
  subst eu
  refine ⟨G1, a', us', ds, vs, ss, d, ds', rfl, e6, (n a' (by simp)).1, e7, h, S1.ex, h1, fun v G H' us2 x1 x2 x3 x4 x5 x6 x7 => ?_⟩
  refine q v G H' (g1.ff.trans x1) (ch G H' [a'] (.ow ds') x1 x2 (fun b o nb e => x3 b o (by simpa using nb) e) x4 (fun b hb => ?_) ⟨a', us2, rfl, e5, x5, x6⟩) x7
  have eb : b = a' := by simpa using hb
  subst eb
  exact ⟨.inl (by simp), by rw [x4 b (n b (by simp)).2.2]; exact (n b (by simp)).1, by rw [x5]; intro z; cases z⟩
theorem Sl.ownL {K : PySem.W.Frag} {B F0 F H : Hp} {σ : L2.St} {i : Nat} (S : Sl K B F0 F H σ ρ) (hρ : ρ[i]? = some (.ext (OwnL ad ds))) : ∃ vs, σ[i]? = some (some (.ref ad)) ∧ H ad = some (.lst vs) ∧ DvAll F vs ds ∧ F ad = none := by
  obtain ⟨fp, f1, f2, f3⟩ := S.fp
  obtain ⟨v, e1, rfl, e2, vs, h1, h2⟩ := f3 i _ hρ
  exact ⟨vs, at_get e1, h1, h2, (f2 i ad (by rw [e2]; simp)).1⟩
theorem ex_lenA (i : Nat) (hρ : ρ[i]? = some (.ext (OwnL ad ds))) (hm : X.mg "len" = none) (hg : Gl X "len" := by exact gl_of (by kernel_rfl)) (hN : X.N[i]? = some y := by rfl) (hv : nameOk X.env.scope y = true := by kernel_rfl) (he : starEach [.Name y pn] X.env = (false, eval (.Name y pn) X.env) :: starEach [] X.env := by exact star_cons rfl) (hpl : (backTo pos (starEach [] X.env)).any (·.1) = false := by exact star_none rfl) :
    EX X (.Call (.Name "len" p) [.Name y pn] [] pos) ρ (.da (.int ds.length)) := .mk fun B F0 F H σ Q S k => by
  obtain ⟨vs, e1, e2, e3, _⟩ := S.ownL hρ
  refine PEw (pe_callB call_len_seq hg hm PySem.boot_len (pa_cons (pv i hN (nameOk_vis hv) (nameOk_d hv) (nameOk_c hv)) pa_nil he) (by decide) (by decide) he hpl) ⟨.ref ad, e1, ad, vs, rfl, .inl (.inl (.inl e2)), ?_⟩
  rw [e3.length]
  exact k.here S.ex (.int _)
theorem r_appendA {po pa' pc : Pos} (i : Nat) (hρ : ρ[i]? = some (.ext (OwnL ad ds))) (he : EX X e ρ (.da d)) (hz : ds.length < 100000) (hN : X.N[i]? = some x := by rfl) (hv : nameOk X.env.scope x = true := by kernel_rfl)
    (hs : swapsWith (.Call (.Attribute (.Name x po) "append" pa') [e] [] pc) none pos.line X.env = pure false := by exact swaps_no rfl)
    (hbase : attributeBase (.Name x po) "append" X.env (eval (.Name x po) X.env) = eval (.Name x po) X.env := by exact abase rfl)
    (hfew : ((backTo pc (starEach [e] X.env)).all (fun x => !x.1) && (backToKw pc (keywordEach [] X.env)).all (fun x => x.1.isSome)
      && decide ([e].length + ([] : List Keyword).length + (if ([] : List Keyword).isEmpty then 0 else 1) < 30)) = true := by exact star_few rfl)
    (hline : (pa'.endLine == pc.line) = true := by rfl) (hst : starEach [e] X.env = (false, eval e X.env) :: starEach [] X.env := by exact star_cons rfl) (hplain : (backTo pc (starEach [] X.env)).any (·.1) = false := by exact star_none rfl) :
    R1 X (.Expr (.Call (.Attribute (.Name x po) "append" pa') [e] [] pc) pos) ρ (.nx (ρ.set i (.ext (OwnL ad (ds ++ [d]))))) := .mk fun B F0 F H σ D S k => by
  obtain ⟨vs, e1, e2, e3, _⟩ := S.ownL hρ
  refine PSw (ps_expr (pe_bm PySem.F.plainAttrs_list PySem.F.slot_list_append PySem.F.type_list_append mt_append (pv i hN (nameOk_vis hv) (nameOk_d hv) (nameOk_c hv)) (pa_cons pe_w pa_nil hst) hbase hfew hline hst hplain) hs) ⟨.ref ad, e1, .inl ⟨rfl, vs, SqL.of e2⟩, ?_⟩
  refine he.use S fun v G H' g hv' S' => ⟨ad, vs, v, rfl, rfl, g.hh _ _ e2, by rw [e3.length]; exact sz_lt hz, k G _ σ g.ff ?_⟩
  obtain ⟨as, ⟨v0, e5, rfl, rfl, vs', e6, e7⟩, n, ch⟩ := S'.change hρ
  have n0 := n ad (by simp)
  refine ch G _ [ad] _ (Ex.refl G) (S'.ex.mut n0.1) (fun b o nb e => by rw [upd_ne (by simpa using nb)]; exact e) (fun _ _ => rfl) (fun b hb => ?_) ⟨_, e5, rfl, rfl, _, upd_same, (e3.mono g.ff).append (.cons hv' .nil)⟩
  have eb : b = ad := by simpa using hb
  subst eb
  exact ⟨.inl (by simp), n0.1, by rw [upd_same]; intro z; cases z⟩
end

/-! ### dicts -/
/-- a frozen dict with text keys -/
def FDK (g : Str → Option PyData) : Own := ⟨fun F _ v as => as = [] ∧ ∃ a kvs, v = .ref a ∧ F a = some (.dK kvs) ∧ ∀ x d, g x = some d → ∃ u, valV kvs (.inr x) = some u ∧ Dv F u d, fun h e _ _ => by
  obtain ⟨h1, a, kvs, rfl, h2, h3⟩ := h
  refine ⟨h1, a, kvs, rfl, e _ _ h2, fun x d q => ?_⟩
  obtain ⟨u, h4, h5⟩ := h3 x d q
  exact ⟨u, h4, h5.mono e⟩⟩
theorem shd_fdk {g : Str → Option PyData} : Shd (.ext (FDK g)) := fun _ _ _ _ _ h => by obtain ⟨v, _, h, _⟩ := h; exact h
theorem val_skip {x : Str} : ∀ {xs : Names} {vs : List V} {acc : List (Key × V)}, x ∉ xs → valV (mergeK acc ((xs.map Sum.inr).zip vs)) (.inr x) = valV acc (.inr x)
  | [], _, _, _ => rfl
  | _ :: _, [], _, _ => rfl
  | y :: xs, v :: vs, acc, h => by
    have h1 : x ≠ y := fun e => h (e ▸ List.mem_cons_self)
    have h2 : x ∉ xs := fun e => h (List.mem_cons_of_mem _ e)
    show valV (mergeK (putK acc (.inr y) v) ((xs.map Sum.inr).zip vs)) (.inr x) = _
    rw [val_skip h2, valV_put, if_neg (fun e => h1 (Sum.inr.inj e))]
theorem val_zip {F : Hp} {x : Str} {d : PyData} : ∀ {xs : Names} {vs : List V} {ds : List PyData} {acc : List (Key × V)}, xs.Nodup → DvAll F vs ds → (xs.zip ds).lookup x = some d → ∃ u, valV (mergeK acc ((xs.map Sum.inr).zip vs)) (.inr x) = some u ∧ Dv F u d
  | [], _, _, _, _, _, h => by simp at h
  | _ :: _, _, _, _, _, .nil, h => by simp at h
  | y :: xs, _, _, acc, hn, .cons (v := v) (d := d') a r, h => by
    show ∃ u, valV (mergeK (putK acc (.inr y) v) ((xs.map Sum.inr).zip _)) (.inr x) = some u ∧ _
    rw [List.zip_cons_cons, List.lookup_cons] at h
    by_cases e : x = y
    · subst e
      simp only [beq_self_eq_true] at h
      cases h
      refine ⟨v, ?_, a⟩
      rw [val_skip (List.nodup_cons.mp hn).1, valV_put, if_pos rfl]
    · have e' : (x == y) = false := by simpa using e
      rw [e'] at h
      exact val_zip (List.nodup_cons.mp hn).2 r h
section
variable {X : Cx} {ρ : Env'} {a b e : Expr} {pos p p2 pos2 pn : Pos} {d : PyData} {ds : List PyData} {x y : Str} {xs : Names} {g : Str → Option PyData}
theorem ex_dictZip (hc : X.calm = true) (ha : EA X [a, b] ρ [dN xs, .list ds]) (hn : xs.Nodup) (hz : xs.length ≤ 1000) (hmd : X.mg "dict" = none) (hmz : X.mg "zip" = none) (hgd : Gl X "dict" := by exact gl_of (by kernel_rfl)) (hgz : Gl X "zip" := by exact gl_of (by kernel_rfl))
    (hs2 : starEach [a, b] X.env = (false, eval a X.env) :: starEach [b] X.env := by exact star_cons rfl) (hp2 : (backTo pos2 (starEach [b] X.env)).any (·.1) = false := by exact star_none rfl)
    (hs1 : starEach [.Call (.Name "zip" p2) [a, b] [] pos2] X.env = (false, eval (.Call (.Name "zip" p2) [a, b] [] pos2) X.env) :: starEach [] X.env := by exact star_cons rfl) :
    EX X (.Call (.Name "dict" p) [.Call (.Name "zip" p2) [a, b] [] pos2] [] pos) ρ (.ext (FDK fun x => (xs.zip ds).lookup x)) := .mk fun B F0 F H σ Q S k =>
  PEw (pe_dictZip hc pa_w hmd hmz hgd hgz hs2 hp2 hs1) (ha.use S fun vs G1 H1 g1 h1 S1 => by
    cases h1 with
    | cons r1 r => cases r with
      | cons r2 r =>
        cases r
        obtain ⟨pa, xa, rfl, e1, e2⟩ := r1.elst
        obtain ⟨pb, xb, rfl, e3, e4⟩ := r2.elst
        rw [e2.strs] at e1
        refine ⟨pa, pb, xs.map Sum.inr, xb, rfl, .inl (.inl (by rw [List.map_map]; exact S1.ex _ _ e1)), .inl (.inl (S1.ex _ _ e3)), by rw [List.length_map]; exact hz, fun q hq => ?_⟩
        have nq : G1 q = none := Ex.noneOf S1.ex hq
        refine k (.ref q) _ _ [] (g1.trans ((Grow.refl S1.ex).new hq)) ⟨_, rfl, rfl, q, _, rfl, upd_same, fun x d hx => ?_⟩ fun _ h => nomatch h
        obtain ⟨u, h5, h6⟩ := val_zip (acc := []) hn e4 hx
        exact ⟨u, h5, h6.mono (Ex.new nq)⟩)
theorem ex_dgetF (hu : X.A.units + 64 < cLine) (ho : EX X a ρ (.ext (FDK g))) (hb : EX X b ρ (.da (.str x))) (h : g x = some d) (hs : NoSl b := by exact fun _ _ => rfl) : EX X (.Subscript a b pos) ρ (.da d) := .mk fun B F0 F H σ Q S q =>
  PEw (pe_dget (by omega) pe_w pe_w hs) (ho.useS shd_fdk S fun v1 G1 H1 g1 h1 S1 => hb.use S1 fun v2 G2 H2 g2 h2 S2 => by
    obtain ⟨v0, e0, _, r, kvs, rfl, h3, h4⟩ := h1
    cases e0
    obtain ⟨u, h5, h6⟩ := h4 x d h
    exact ⟨r, u, rfl, .inl ⟨kvs, .inr x, .inl (S2.ex _ _ (g2.ff _ _ h3)), h2.estr, h5.symm⟩, q.da (g1.trans g2) (h6.mono g2.ff)⟩)
end
end Mx

set_option Elab.async false
set_option linter.all false
set_option maxRecDepth 100000
/-! Mx9c: dicts by tuples of texts, list.index, list(range(..)), classes of objects. -/
namespace Mx
open PySem PySem.Spec PyProof.Rows L2

/-! ### a dict of one's own by tuples of texts -/
abbrev tKey (k : Names) : List Key := k.map Sum.inr
theorem tKey_inj : ∀ {k j : Names}, tKey k = tKey j → k = j
  | [], [], _ => rfl
  | [], _ :: _, h => nomatch h
  | _ :: _, [], h => nomatch h
  | a :: k, b :: j, h => by
    have h1 : (Sum.inr a : Key) :: tKey k = Sum.inr b :: tKey j := h
    injection h1 with h2 h3
    injection h2 with h4
    rw [h4, tKey_inj h3]
abbrev KvT (F : Hp) : List (List Key × V) → List (Names × PyData) → Prop := Paired fun p q => p.1 = tKey q.1 ∧ Dv F p.2 q.2
def ODT (kvs : List (Names × PyData)) : Own := ⟨fun F H v as => ∃ a vs, v = .ref a ∧ as = [a] ∧ H a = some (.dT vs) ∧ KvT F vs kvs, fun h e k _ => by
  obtain ⟨a, vs, rfl, rfl, h1, h2⟩ := h
  exact ⟨a, vs, rfl, rfl, (k _ (by simp)).trans h1, paired_imp (fun p q z => ⟨z.1, z.2.mono e⟩) h2⟩⟩
theorem kvt_get {F : Hp} {k : Names} : ∀ {vs : List (List Key × V)} {kvs : List (Names × PyData)}, KvT F vs kvs → (valV vs (tKey k)).isSome = (kvs.lookup k).isSome ∧ ∀ d, kvs.lookup k = some d → ∃ u, valV vs (tKey k) = some u ∧ Dv F u d
  | _, _, .nil => ⟨rfl, fun _ h => nomatch h⟩
  | p :: vs, (j, d0) :: kvs, .cons a r => by
    obtain ⟨i1, i2⟩ := kvt_get (k := k) r
    obtain ⟨a1, a2⟩ := a
    by_cases e : k = j
    · subst e
      rw [valV_pos a1, List.lookup_cons]
      simp only [beq_self_eq_true]
      refine ⟨rfl, fun d h => ?_⟩
      cases h
      exact ⟨_, rfl, a2⟩
    · have e' : (k == j) = false := by simpa using e
      rw [valV_neg (fun z => e (tKey_inj (z.symm.trans a1))), List.lookup_cons]
      simp only [e']
      exact ⟨i1, i2⟩
theorem kvt_snoc {F : Hp} : ∀ {vs : List (List Key × V)} {kvs : List (Names × PyData)} {k : Names} {v : V} {d : PyData}, KvT F vs kvs → Dv F v d → KvT F (vs ++ [(tKey k, v)]) (kvs ++ [(k, d)])
  | _, _, _, _, _, .nil, h => .cons ⟨rfl, h⟩ .nil
  | _, _, _, _, _, .cons a r, h => .cons a (kvt_snoc r h)
theorem dv_tkey {F : Hp} {v : V} {k : Names} (h : Dv F v (.tuple (k.map .str))) : ∃ b, v = .ref b ∧ F b = some (.tup ((tKey k).map kV)) := by
  obtain ⟨b, xs, rfl, h1, h2⟩ := h.etup
  refine ⟨b, rfl, ?_⟩
  rw [h2.strs] at h1
  rw [h1, List.map_map]
  rfl
section
variable {X : Cx} {ρ ρ' : Env'} {a b e key : Expr} {pos p pn : Pos} {d : PyData} {ds : List PyData} {x y : Str} {k : Names} {kvs : List (Names × PyData)}
theorem ex_dnewT : EX X (.Dict [] [] pos) ρ (.ext (ODT [])) := .mk fun B F0 F H σ Q S q => PEw pe_dnewT fun r hr => by
  refine q (.ref r) F _ [r] ((Grow.refl S.ex).loose hr) ⟨_, rfl, r, [], rfl, rfl, upd_same, .nil⟩ fun b hb => ?_
  have eb : b = r := by simpa using hb
  subst eb
  exact ⟨hr, Ex.noneOf S.ex hr, by rw [upd_same]; intro z; cases z⟩
theorem Sl.odt {K : PySem.W.Frag} {B F0 F H : Hp} {σ : L2.St} {i : Nat} (S : Sl K B F0 F H σ ρ) (hρ : ρ[i]? = some (.ext (ODT kvs))) : ∃ a vs, σ[i]? = some (some (.ref a)) ∧ H a = some (.dT vs) ∧ KvT F vs kvs := by
  obtain ⟨fp, f1, f2, f3⟩ := S.fp
  obtain ⟨v, e1, a, vs, rfl, e2, h1, h2⟩ := f3 i _ hρ
  exact ⟨a, vs, at_get e1, h1, h2⟩
theorem et_dnotin (hu : X.A.units + 64 < cLine) (i : Nat) (hρ : ρ[i]? = some (.ext (ODT kvs))) (hk : EX X key ρ (.da (.tuple (k.map .str)))) (hN : X.N[i]? = some y := by rfl) (hv : nameOk X.env.scope y = true := by kernel_rfl) (hm : behindInMarks .NotIn (.Name y pn) = false := by first | exact nomark _ | rfl) :
    ET X (.Compare key [.NotIn] [.Name y pn] pos) ρ (!(kvs.lookup k).isSome) := .mk fun B F0 F H σ Q S q =>
  PTw (pt_cmp (pc_dnotin (by omega) pe_w (pv i hN (nameOk_vis hv) (nameOk_d hv) (nameOk_c hv))) hm) (hk.use S fun v G H' g hv' S' => by
    obtain ⟨a, vs, e1, e2, e3⟩ := S'.odt hρ
    obtain ⟨b, rfl, e4⟩ := dv_tkey hv'
    refine ⟨.ref a, e1, a, valV vs (tKey k), rfl, .inr ⟨vs, tKey k, b, .inl e2, rfl, S'.ex _ _ e4, rfl⟩, ?_⟩
    refine ⟨_, rfl, ?_⟩
    rw [(kvt_get e3).1]
    exact q G H' g)
theorem ex_dgetT (hu : X.A.units + 64 < cLine) (i : Nat) (hρ : ρ[i]? = some (.ext (ODT kvs))) (hk : EX X key ρ (.da (.tuple (k.map .str)))) (h : kvs.lookup k = some d) (hN : X.N[i]? = some y := by rfl) (hv : nameOk X.env.scope y = true := by kernel_rfl) (hs : NoSl key := by exact fun _ _ => rfl) :
    EX X (.Subscript (.Name y pn) key pos) ρ (.da d) := .mk fun B F0 F H σ Q S q => by
  obtain ⟨a, vs, e1, e2, e3⟩ := S.odt hρ
  refine PEw (pe_dget (by omega) (pv i hN (nameOk_vis hv) (nameOk_d hv) (nameOk_c hv)) pe_w hs) ⟨.ref a, e1, hk.use S fun v G H' g hv' S' => ?_⟩
  obtain ⟨b, rfl, e4⟩ := dv_tkey hv'
  obtain ⟨u, h5, h6⟩ := (kvt_get e3).2 d h
  exact ⟨a, u, rfl, .inr ⟨vs, tKey k, b, .inl (g.hh _ _ e2), rfl, S'.ex _ _ e4, h5.symm⟩, q.da g (h6.mono g.ff)⟩
/-- known[key] = e, the key a new one -/
theorem r_dputT {pos' : Pos} (hu : X.A.units + 64 < cLine) (i : Nat) (he : EM X e ρ ρ' d) (hρ : ρ'[i]? = some (.ext (ODT kvs))) (hk : EX X key ρ' (.da (.tuple (k.map .str)))) (hnew : kvs.lookup k = none) (hz : kvs.length < 100000) (hN : X.N[i]? = some y := by rfl) (hv : nameOk X.env.scope y = true := by kernel_rfl)
    (hs : swapsWith e (some (.Subscript (.Name y pn) key pos')) pos.line X.env = pure false := by exact swaps_no rfl) : R1 X (.Assign [.Subscript (.Name y pn) key pos'] e pos) ρ (.nx (ρ'.set i (.ext (ODT (kvs ++ [(k, d)]))))) := .mk fun B F0 F H σ D S q =>
  PSw (ps_dput (by omega) (pv i hN (nameOk_vis hv) (nameOk_d hv) (nameOk_c hv)) pe_w pe_w hs) (he.run B F0 F H σ _ S fun v G H1 e1 S1 hd => by
    obtain ⟨a, vs, e2, e3, e4⟩ := S1.odt hρ
    refine ⟨.ref a, e2, hk.use S1 fun v2 G2 H2 g2 h2 S2 => ?_⟩
    obtain ⟨b, rfl, e5⟩ := dv_tkey h2
    have hl : vs.length = kvs.length := Mx.Paired.len e4
    have hno : valV vs (tKey k) = none := by
      have := (kvt_get (k := k) e4).1
      rw [hnew] at this
      simpa using this
    refine ⟨a, _, rfl, .inr ⟨vs, tKey k, b, g2.hh _ _ e3, rfl, S2.ex _ _ e5, by rw [hl]; exact sz_lt hz, rfl⟩, ?_⟩
    rw [putK_new _ hno]
    obtain ⟨as, ⟨v0, e6, a', vs', rfl, rfl, e7, e8⟩, n, ch⟩ := S2.change hρ
    have ea : a' = a := by
      have q := at_get e6
      rw [q] at e2
      cases e2
      rfl
    subst ea
    have n0 := n a' (by simp)
    refine q G2 _ σ (e1.trans g2.ff) (ch G2 _ [a'] _ (Ex.refl G2) (S2.ex.mut n0.1) (fun b o nb e => by rw [upd_ne (by simpa using nb)]; exact e) (fun _ _ => rfl) (fun b hb => ?_) ⟨_, e6, a', _, rfl, rfl, upd_same, kvt_snoc (paired_imp (fun p q z => ⟨z.1, z.2.mono g2.ff⟩) e4) (hd.mono g2.ff)⟩)
    have eb : b = a' := by simpa using hb
    subst eb
    exact ⟨.inl (by simp), n0.1, by rw [upd_same]; intro z; cases z⟩)
end

/-! ### list.index, list(range(..)) -/
theorem idx_first {x : Str} : ∀ {xs : Names}, x ∈ xs → xs[xs.idxOf x]? = some x ∧ ∀ m z, m < xs.idxOf x → xs[m]? = some z → z ≠ x
  | y :: xs, h => by
    by_cases e : y = x
    · subst e
      simp
    · have h' : x ∈ xs := by
        rcases List.mem_cons.mp h with z | z
        · exact absurd z.symm e
        · exact z
      obtain ⟨i1, i2⟩ := idx_first h'
      have e2 : (y :: xs).idxOf x = xs.idxOf x + 1 := by
        have eb : (y == x) = false := by simpa using e
        rw [List.idxOf_cons, eb]
        rfl
      rw [e2]
      refine ⟨by simpa using i1, fun m z hm hz => ?_⟩
      cases m with
      | zero => simp at hz; subst hz; exact e
      | succ m => exact i2 m z (by omega) (by simpa using hz)
section
variable {X : Cx} {ρ : Env'} {o a e : Expr} {pos p p2 apos cpos pos2 : Pos} {x : Str} {xs : Names} {n m : Int}
theorem ex_index (ho : EX X o ρ (.da (dN xs))) (he : EX X e ρ (.da (.str x))) (hx : x ∈ xs)
    (hbase : attributeBase o "index" X.env (eval o X.env) = eval o X.env := by exact abase rfl)
    (hfew : ((backTo cpos (starEach [e] X.env)).all (fun x => !x.1) && (backToKw cpos (keywordEach [] X.env)).all (fun x => x.1.isSome)
      && decide ([e].length + ([] : List Keyword).length + (if ([] : List Keyword).isEmpty then 0 else 1) < 30)) = true := by exact star_few rfl)
    (hline : (apos.endLine == cpos.line) = true := by rfl) (hst : starEach [e] X.env = (false, eval e X.env) :: starEach [] X.env := by exact star_cons rfl) (hplain : (backTo cpos (starEach [] X.env)).any (·.1) = false := by exact star_none rfl) :
    EX X (.Call (.Attribute o "index" apos) [e] [] cpos) ρ (.da (.int (xs.idxOf x : Nat))) := .mk fun B F0 F H σ Q S k =>
  PEw (pe_bm PySem.F.plainAttrs_list PySem.F.slot_list_index PySem.F.type_list_index mt_index pe_w (pa_cons pe_w pa_nil hst) hbase hfew hline hst hplain) (ho.use S fun v G H' g hv S' => by
    obtain ⟨a, ys, rfl, e1, e2⟩ := hv.elst
    rw [e2.strs] at e1
    refine ⟨.inl ⟨rfl, _, SqL.of (S'.ex _ _ e1)⟩, ?_⟩
    refine he.use S' fun v2 G2 H2 g2 h2 S2 => ?_
    obtain ⟨i1, i2⟩ := idx_first hx
    refine ⟨a, xs.map V.str, v2, xs.idxOf x, .str x, rfl, rfl, .inl (.inl (S2.ex _ _ (g2.ff _ _ e1))), by rw [h2.estr]; rfl, ?_, by rw [List.getElem?_map, i1]; rfl, by rw [h2.estr]; simp [eqV], fun m z hm hz => ?_, k.da (g.trans g2) (.int _)⟩
    · rw [List.all_map]
      exact List.all_eq_true.mpr fun _ _ => rfl
    · rw [List.getElem?_map] at hz
      cases q : xs[m]? with
      | none => rw [q] at hz; cases hz
      | some y =>
        rw [q] at hz
        cases hz
        rw [h2.estr]
        have := i2 m y hm q
        simp [eqV, this])
end
end Mx

set_option Elab.async false
set_option linter.all false
set_option maxRecDepth 100000
/-! Mx9d: more data: numbers, steps, ends; classes of objects. -/
namespace Mx
open PySem PySem.Spec PyProof.Rows L2

/-! ### numbers, steps, ends -/
abbrev Stp := Str × Int × Int
def dS (s : Stp) : PyData := .tuple [.str s.1, .int s.2.1, .int s.2.2]
def dSs (l : List Stp) : PyData := .list (l.map dS)
def dE : Option Int → PyData
  | none => .none
  | some i => .int i
def dEs (l : List (Option Int)) : PyData := .list (l.map dE)
def dZ (l : List Int) : PyData := .list (l.map .int)
theorem pln_dS (s : Stp) : PlN 1 (dS s) := pln_tuple fun d h => by
  rcases List.mem_cons.mp h with rfl | h
  · exact pln_str
  · rcases List.mem_cons.mp h with rfl | h
    · exact pln_int
    · have e : d = .int s.2.2 := by simpa using h
      rw [e]; exact pln_int
theorem pln_dE (s : Option Int) : PlN 0 (dE s) := by
  cases s
  · exact pln_none
  · exact pln_int
theorem pln_map {α : Type} {f : α → PyData} {n : Nat} (h : ∀ a, PlN n (f a)) (xs : List α) : ∀ d ∈ xs.map f, PlN n d := fun d hd => by
  obtain ⟨x, _, rfl⟩ := List.mem_map.mp hd
  exact h x
theorem pl_dS {s : Stp} : Pl (dS s) := (pln_dS s).pl
theorem pl_dE {s : Option Int} : Pl (dE s) := (pln_dE s).pl
theorem pl_dSs {l : List Stp} : Pl (dSs l) := (pln_list (pln_map pln_dS l)).pl
theorem pl_dEs {l : List (Option Int)} : Pl (dEs l) := (pln_list (pln_map pln_dE l)).pl
theorem pl_dZ {l : List Int} : Pl (dZ l) := (pln_list (n := 0) (pln_map (fun _ => pln_int) l)).pl
theorem code_dS : Code dS := fun p q => by
  obtain ⟨a, b, c⟩ := p
  obtain ⟨d, e, f⟩ := q
  simp only [dS, PyData.eqv, PyData.eqvAll, Bool.and_eq_true, and_true, beq_iff_eq, Prod.mk.injEq]
theorem code_dE : Code dE := fun p q => by
  cases p <;> cases q <;> simp [dE, PyData.eqv]
theorem code_dSs : Code dSs := code_list code_dS
theorem code_dEs : Code dEs := code_list code_dE
theorem code_dZ : Code dZ := code_list code_int
section
variable {X : Cx} {a b : List Int} {s t : List Stp} {e f : List (Option Int)}
theorem oc_eqZ (hu : X.A.units + 64 < cLine) : CmpD X .Eq (dZ a) (dZ b) (.da (.bool (decide (a = b)))) := (oc_eq hu pl_dZ pl_dZ).is (by rw [code_dZ.eqv])
theorem oc_neZ (hu : X.A.units + 64 < cLine) : CmpD X .NotEq (dZ a) (dZ b) (.da (.bool (!decide (a = b)))) := (oc_ne hu pl_dZ pl_dZ).is (by rw [code_dZ.eqv])
theorem oc_eqSs (hu : X.A.units + 64 < cLine) : CmpD X .Eq (dSs s) (dSs t) (.da (.bool (decide (s = t)))) := (oc_eq hu pl_dSs pl_dSs).is (by rw [code_dSs.eqv])
theorem oc_neSs (hu : X.A.units + 64 < cLine) : CmpD X .NotEq (dSs s) (dSs t) (.da (.bool (!decide (s = t)))) := (oc_ne hu pl_dSs pl_dSs).is (by rw [code_dSs.eqv])
theorem isNone_dE (o : Option Int) : isNone (dE o) = o.isNone := by cases o <;> rfl
theorem oc_isE {o : Option Int} : CmpD X .Is (dE o) .none (.da (.bool o.isNone)) := oc_isN.is (by rw [isNone_dE])
theorem oc_notE {o : Option Int} : CmpD X .IsNot (dE o) .none (.da (.bool (!o.isNone))) := oc_notN.is (by rw [isNone_dE])
/-- a text among two -/
theorem oc_notin2 (hu : X.A.units + 64 < cLine) {x y z : Str} : CmpD X .NotIn (.str x) (.tuple [.str y, .str z]) (.da (.bool (!decide (x ∈ ([y, z] : Names))))) := (oc_notinT hu pl_str (ds := ([y, z] : Names).map .str) (pln_all (pln_strs _)).1).is (by rw [any_str])
end

/-! ### list(range(n)), cuts -/
section
variable {X : Cx} {ρ : Env'} {a e : Expr} {pos p p2 pos2 pT : Pos} {n : Int} {T : Str} {C D : Addr} {fs : List (Str × PyData)} {b : Bool}
theorem ex_listRg (hc : X.calm = true) (ha : EX X a ρ (.da (.int n))) (hn : n ≤ 100000 ∧ -100000 ≤ n) (hml : X.mg "list" = none) (hmr : X.mg "range" = none) (hgl : Gl X "list" := by exact gl_of (by kernel_rfl)) (hgr : Gl X "range" := by exact gl_of (by kernel_rfl))
    (hs1 : starEach [.Call (.Name "range" p2) [a] [] pos2] X.env = (false, eval (.Call (.Name "range" p2) [a] [] pos2) X.env) :: starEach [] X.env := by exact star_cons rfl) (hs2 : starEach [a] X.env = (false, eval a X.env) :: starEach [] X.env := by exact star_cons rfl) :
    EX X (.Call (.Name "list" p) [.Call (.Name "range" p2) [a] [] pos2] [] pos) ρ (.ow ((List.range n.toNat).map fun (i : Nat) => .int (i : Int))) := .mk fun B F0 F H σ Q S k =>
  PEw (pe_listRg hc hgl hml (prg_1 hgr hmr pe_w hs2) hs1) (ha.use S fun v G H' g hv S' => ⟨n, hv.eint, ⟨by omega, by omega, by omega, by omega, by omega⟩, fun q hq => k.ow g hq (by
    have e0 : (n - 0 : Int) = n := by omega
    unfold rgV
    rw [e0]
    induction List.range n.toNat with
    | nil => exact .nil
    | cons i r ih =>
      refine .cons ?_ ih
      show Dv G (V.int (0 + (i : Int))) (PyData.int (i : Int))
      rw [Int.zero_add]
      exact .int _)⟩)
/-- what isinstance asks of a class of the text -/
structure InC (K : PySem.W.Frag) (C : Addr) : Prop where
  cl : Cls K C
  fc : PySem.W.findIn K (.ref C) "__class__" = some (some (.builtin "object.__class__"))
  sp : PySem.W.specialIn K (.builtin "object.__class__") "__get__" = some (some (.builtin "getset_descriptor.__get__"))
  tk : PySem.W.takesIn K (.builtin "object.__class__") = some true
  mr : PySem.W.mroIn K C (.type "object") = some true
theorem ex_isiO (ha : EX X a ρ (.ext (OB C fs))) (I : InC X.K C) (hk : PySem.W.kitOne X.K (.ref C) (.ref D) = some b) (hT : X.mg T = some (.ref D)) (hm : X.mg "isinstance" = none) (hg : Gl X "isinstance" := by exact gl_of (by kernel_rfl)) (hgT : Gl X T := by exact gl_of (by kernel_rfl)) (hdT : (T == ("__debug__" : Str)) = false := by kernel_rfl)
    (he : starEach [a, .Name T pT] X.env = (false, eval a X.env) :: starEach [.Name T pT] X.env := by exact star_cons rfl) : EX X (.Call (.Name "isinstance" p) [a, .Name T pT] [] pos) ρ (.da (.bool b)) := .mk fun B F0 F H σ Q S k =>
  PEw (pe_callB call_isi hg hm (by kernel_rfl) (pa_cons pe_w (pa_cons (pe_glob (v := .ref D) hgT hT rfl hdT) pa_nil (star_cons rfl)) he) (by decide +kernel) (by decide +kernel) he (star_none rfl)) (ha.useS shd_ob S fun v G H' g ok S' => by
    obtain ⟨v', ev, _, x, dx, fv, rfl, h2, h3, h4⟩ := ok
    cases ev
    exact ⟨.ref x, .ref D, .ref C, .ref D, b, rfl, .own D, .base (.ins (S'.ex _ _ h2) I.cl I.fc I.sp I.tk I.mr), hk, k.da g (.bl b)⟩)
end
theorem take_sub {α : Type} (l : List α) (m n : Nat) : (l.drop m).take (n - m) = (l.take n).drop m := by
  rw [List.drop_take]
theorem sIx_nat (n k : Nat) (d : Nat) : HT.sIx n d (some (k : Int)) = min k n := by
  show (if (k : Int) < 0 then ((k : Int) + (n : Int)).toNat else min (k : Int).toNat n) = _
  rw [if_neg (by omega)]
  rfl
theorem cut_upto {α : Type} (f : α → PyData) (k : Nat) (xs : List α) : Mx.cutD (xs.map f) none (some (k : Int)) = (xs.take k).map f := by
  unfold Mx.cutD
  rw [sIx_nat]
  show ((xs.map f).drop 0).take (min k (xs.map f).length - 0) = _
  rw [List.drop_zero, Nat.sub_zero, ← List.map_take, List.length_map, ← List.take_take, List.take_length]
theorem cut_from {α : Type} (f : α → PyData) (k : Nat) (xs : List α) : Mx.cutD (xs.map f) (some (k : Int)) none = (xs.drop k).map f := by
  unfold Mx.cutD
  rw [sIx_nat]
  show ((xs.map f).drop (min k (xs.map f).length)).take ((xs.map f).length - min k (xs.map f).length) = _
  have e : ((xs.map f).drop (min k (xs.map f).length)) = (xs.drop k).map f := by
    rw [List.map_drop]
    by_cases h : k ≤ (xs.map f).length
    · rw [Nat.min_eq_left h]
    · rw [Nat.min_eq_right (by omega), List.drop_length, List.drop_of_length_le (by omega)]
  rw [e]
  apply List.take_of_length_le
  rw [List.length_map, List.length_drop, List.length_map]
  omega
end Mx

set_option Elab.async false
set_option linter.all false
set_option maxRecDepth 100000
/-! Mx9e: built-ins over mapped lists, zip of mapped lists. -/
namespace Mx
open PySem PySem.Spec PyProof.Rows L2
section
variable {X : Cx} {ρ : Env'} {α β : Type}
theorem cd_allF (hc : X.calm = true) {xs : List α} {g : α → Bool} : CallD X (.builtin "all") [.list (xs.map fun x => .bool (g x))] (.da (.bool (xs.all g))) := by
  have h := cd_all (X := X) hc (ns := xs.map g)
  rw [List.map_map, List.all_map] at h
  exact h
theorem cd_anyF (hc : X.calm = true) {xs : List α} {g : α → Bool} : CallD X (.builtin "any") [.list (xs.map fun x => .bool (g x))] (.da (.bool (xs.any g))) := by
  have h := cd_any (X := X) hc (ns := xs.map g)
  rw [List.map_map, List.any_map] at h
  exact h
theorem cd_sumF (hc : X.calm = true) {xs : List α} {g : α → Int} : CallD X (.builtin "sum") [.list (xs.map fun x => .int (g x))] (.da (.int (xs.map g).sum)) := by
  have h := cd_sum (X := X) hc (ns := xs.map g)
  rw [List.map_map] at h
  exact h
theorem cd_lenS {z : Str} (h : z.length ≤ 100000) : CallD X (.builtin "len") [.str z] (.da (.int z.length)) := .mk ⟨_, call_len_str, fun F H vs Q e hv k => by
  cases hv with
  | cons h1 r =>
    cases r
    exact ⟨z, by rw [h1.estr], sz_of h, k.here e (.int _)⟩⟩
theorem zip_map (f : α → PyData) (g : β → PyData) : ∀ (xs : List α) (ys : List β), zipD (xs.map f) (ys.map g) = (xs.zip ys).map fun p => .tuple [f p.1, g p.2]
  | [], _ => rfl
  | _ :: _, [] => rfl
  | x :: xs, y :: ys => by
    rw [List.map_cons, List.map_cons, List.zip_cons_cons, List.map_cons, ← zip_map f g xs ys]
    rfl
theorem it_zipM {e e2 : Expr} {pos p tpos : Pos} {elts : List Expr} {kk : Nat} (f : α → PyData) (g : β → PyData) {xs : List α} {ys : List β} (hm : X.mg "zip" = none) (h : EA X [e, e2] ρ [.list (xs.map f), .list (ys.map g)]) (hg : Gl X "zip" := by exact gl_of (by kernel_rfl))
    (hs : starEach [e, e2] X.env = (false, eval e X.env) :: starEach [e2] X.env := by exact star_cons rfl) (hp : (backTo pos (starEach [e2] X.env)).any (·.1) = false := by exact star_none rfl) :
    IT X (.Tuple elts kk tpos) (.Call (.Name "zip" p) [e, e2] [] pos) ρ ((xs.zip ys).map fun p => .tuple [f p.1, g p.2]) := by
  rw [← zip_map f g]
  exact it_zip hm h hg hs hp
theorem enum_map (f : α → PyData) : ∀ (xs : List α) (n : Nat), enumD n (xs.map f) = (xs.zipIdx n).map fun q => .tuple [.int (q.2 : Nat), f q.1]
  | [], _ => rfl
  | x :: xs, n => by
    rw [List.map_cons, List.zipIdx_cons, List.map_cons, ← enum_map f xs (n + 1)]
    rfl
theorem it_enumM {e : Expr} {pos p tpos : Pos} {elts : List Expr} {kk : Nat} (f : α → PyData) {xs : List α} (hm : X.mg "enumerate" = none) (h : EA X [e] ρ [.list (xs.map f)]) (hg : Gl X "enumerate" := by exact gl_of (by kernel_rfl)) (hs : starEach [e] X.env = [(false, eval e X.env)] := by exact star_one rfl) :
    IT X (.Tuple elts kk tpos) (.Call (.Name "enumerate" p) [e] [] pos) ρ (xs.zipIdx.map fun q => .tuple [.int (q.2 : Nat), f q.1]) := by
  rw [← enum_map f xs 0]
  exact it_enum hm h hg hs
end
theorem sw_cell {elt : Expr} {gs : List Comprehension} {scope : Scope} {pos py : Pos} {y : Str} {l : Nat} {env : Env} (h : env.scope.names.lookup y = some .cell) : swapsWith (.ListComp elt gs scope pos) (some (.Name y py)) l env = pure false := by
  have e : (env.kindOf y == some .local) = false := by
    unfold Env.kindOf
    rw [h]
    simp
  unfold swapsWith
  simp only [e, Bool.and_false, Bool.false_and]
def risingB (l : Names) : Bool := (l.zip (l.drop 1)).all fun p => ltS p.1 p.2
theorem rising_B : ∀ {l : Names}, Rising l → risingB l = true
  | [], _ => rfl
  | [_], _ => rfl
  | a :: b :: r, h => by
    obtain ⟨h1, h2⟩ := List.pairwise_cons.mp h
    have i := rising_B h2
    unfold risingB at i ⊢
    show (ltS a b && ((b :: r).zip r).all fun p => ltS p.1 p.2) = true
    rw [h1 b List.mem_cons_self, Bool.true_and]
    exact i
/-- what a hearing must be, its names of the letters z -/
def NameOk (z x : Str) : Prop := 1 ≤ x.length ∧ x.length ≤ 2 ∧ ∀ c ∈ x.cps.toList, c ∈ z.cps.toList
structure Valid (z : Str) (h : Hear) : Prop where
  len : h.length ≤ 7
  nm : ∀ p ∈ h, NameOk z p.1 ∧ ∀ n ∈ p.2, NameOk z n
  ot : ∀ p ∈ h, p.1 ∉ p.2 ∧ Rising p.2 ∧ ∀ n ∈ p.2, n ∈ h.map (·.1)
  ri : Rising (h.map (·.1))
theorem rising_nodup {l : Names} (h : Rising l) : l.Nodup := by
  unfold Rising at h
  refine List.Pairwise.imp (fun {a b} q e => ?_) h
  subst e
  rw [ltS_irrefl] at q
  cases q
theorem Valid.olen {z : Str} {h : Hear} (V : Valid z h) {p : Str × Names} (hp : p ∈ h) : p.2.length ≤ 7 := by
  have h1 := (V.ot p hp)
  have h2 : p.2.length ≤ (h.map (·.1)).length := List.Nodup.length_le_of_subset (rising_nodup h1.2.1) h1.2.2
  rw [List.length_map] at h2
  exact Nat.le_trans h2 V.len
end Mx

set_option Elab.async false
set_option linter.all false
set_option maxRecDepth 100000
/-! Mx9f: loops that hand back at the first that tells. -/
namespace Mx
open PySem PySem.Spec PyProof.Rows L2
section
variable {X : Cx} {tg : Expr} {body : List Stmt}
def FindR (X : Cx) (tg : Expr) (body : List Stmt) (ds : List PyData) (ρ : Env') : Option Slot → Prop
  | none => ForR X tg body ds ρ (.nx ρ)
  | some s => ∃ ρ2, ForR X tg body ds ρ (.rt s ρ2)
def FindB (X : Cx) (body : List Stmt) (ρ1 ρ : Env') : Option Slot → Prop
  | none => RS X body ρ1 (.nx ρ)
  | some s => ∃ ρ2, RS X body ρ1 (.rt s ρ2)
theorem for_find {α : Type} (xs : List α) (encI : α → PyData) (ρ : Env') (g : α → Option Slot) (turn : ∀ x ∈ xs, ∃ is ρ1, BT X tg is (encI x) ρ ρ1 ∧ FindB X body ρ1 ρ (g x)) : FindR X tg body (xs.map encI) ρ (xs.findSome? g) := by
  induction xs with
  | nil => exact .nil
  | cons x r ih =>
    obtain ⟨is, ρ1, hb, hr⟩ := turn x List.mem_cons_self
    have i1 := ih fun y hy => turn y (List.mem_cons_of_mem _ hy)
    rw [List.findSome?_cons]
    cases e : g x with
    | none =>
      rw [e] at hr
      simp only
      cases e2 : r.findSome? g with
      | none => rw [e2] at i1; exact .next hb hr i1
      | some s =>
        rw [e2] at i1
        obtain ⟨ρ2, i1⟩ := i1
        exact ⟨ρ2, .next hb hr i1⟩
    | some s =>
      rw [e] at hr
      obtain ⟨ρ2, hr⟩ := hr
      exact ⟨ρ2, .ret hb hr⟩
theorem rt_find {ρ : Env'} {iter : Expr} {rest : List Stmt} {pos : Pos} {ds : List PyData} {s : Slot} (o : Option Slot) (hp : PassesOwn (model X.prog X.w) X.A X.env X.xe) (hc : X.calm = true) (hi : IT X tg iter ρ ds) (hf : FindR X tg body ds ρ o) (hs : o = none → Rt X rest ρ s) (hr : ∀ t, o = some t → t = s) (hst : ∀ x, foldedSetIterable iter X.env x = pure x := by intro _; rfl) :
    Rt X (.For tg iter body [] pos :: rest) ρ s := by
  cases o with
  | none => exact rt_cons (r_for hp hc hi hf hst) (hs rfl)
  | some t =>
    obtain ⟨ρ2, hf⟩ := hf
    obtain rfl := hr t rfl
    exact ⟨⟨ρ2, rs_ret (r_for hp hc hi hf hst)⟩⟩
theorem fb_for {ρ ρ1 : Env'} {iter : Expr} {pos : Pos} {ds : List PyData} {o : Option Slot} (hp : PassesOwn (model X.prog X.w) X.A X.env X.xe) (hc : X.calm = true) (hi : IT X tg iter ρ1 ds) (hf : FindR X tg body ds ρ1 o) (wk : Weak ρ1 ρ) (hst : ∀ x, foldedSetIterable iter X.env x = pure x := by intro _; rfl) : FindB X [.For tg iter body [] pos] ρ1 ρ o := by
  cases o with
  | none => exact rs_weak wk (rs_cons (r_for hp hc hi hf hst) rs_nil)
  | some t =>
    obtain ⟨ρ2, hf⟩ := hf
    exact ⟨ρ2, rs_ret (r_for hp hc hi hf hst)⟩
theorem fb_cons {ρ ρ1 ρ2 : Env'} {st : Stmt} {rest : List Stmt} {o : Option Slot} (h : R1 X st ρ1 (.nx ρ2)) (h2 : FindB X rest ρ2 ρ o) : FindB X (st :: rest) ρ1 ρ o := by
  cases o with
  | none => exact rs_cons h h2
  | some t =>
    obtain ⟨ρ3, h2⟩ := h2
    exact ⟨ρ3, rs_cons h h2⟩
theorem fb_freeze {ρ ρ1 : Env'} {rest : List Stmt} {o : Option Slot} {ds : List PyData} (i : Nat) (hρ : ρ1[i]? = some (.ow ds)) (h : FindB X rest (ρ1.set i (.da (.list ds))) ρ o) : FindB X rest ρ1 ρ o := by
  cases o with
  | none => exact rs_freeze i hρ h
  | some t =>
    obtain ⟨ρ3, h⟩ := h
    exact ⟨ρ3, rs_freeze i hρ h⟩
/-- if c: return e, at a body's end -/
theorem fb_ifr {ρ ρ1 : Env'} {c e : Expr} {pos pos2 : Pos} {b : Bool} {s : Slot} (hc : ET X c ρ1 b) (he : b = true → EX X e ρ1 s) (wk : Weak ρ1 ρ) : FindB X [.If c [.Return (some e) pos2] [] pos] ρ1 ρ (if b = true then some s else none) := by
  cases b with
  | true => exact ⟨_, rs_ret (r_if hc (fun _ => rs_ret (r_return (he rfl))) fun z => nomatch z)⟩
  | false => exact rs_weak wk (rs_cons (r_if hc (fun z => nomatch z) fun _ => rs_nil) rs_nil)
theorem FindB.is {ρ ρ1 : Env'} {o o' : Option Slot} (h : FindB X body ρ1 ρ o) (e : o = o') : FindB X body ρ1 ρ o' := e ▸ h
end
end Mx

set_option Elab.async false
set_option linter.all false
set_option maxRecDepth 100000
/-! Mx9g: parallel stores by way of a tuple; instances made of lent lists; more calls. -/
namespace Mx
open PySem PySem.Spec PyProof.Rows L2
section
variable {X : Cx} {ρ : Env'} {α : Type}
theorem r_par3T {x y z : Str} {a b c : Expr} {s1 s2 s3 : Slot} {px py pz pt pos : Pos} {kt k2 pt2} (i j l : Nat) (hc : X.calm = true) (hN : X.N.Nodup) (ha : EX X a ρ s1) (hb : EX X b ρ s2) (hcc : EX X c ρ s3) (hi : X.N[i]? = some x := by rfl) (hj : X.N[j]? = some y := by rfl) (hl : X.N[l]? = some z := by rfl)
    (hx : storeOk X.env.scope (X.fn x) x = true := by kernel_rfl) (hy : storeOk X.env.scope (X.fn y) y = true := by kernel_rfl) (hz : storeOk X.env.scope (X.fn z) z = true := by kernel_rfl)
    (hst : starEach [a, b, c] X.env = (false, eval a X.env) :: starEach [b, c] X.env := by exact star_cons rfl) (hst2 : starEach [b, c] X.env = (false, eval b X.env) :: starEach [c] X.env := by exact star_cons rfl) (hst3 : starEach [c] X.env = (false, eval c X.env) :: starEach [] X.env := by exact star_cons rfl)
    (hw : swappedStores [.Tuple [.Name x px, .Name y py, .Name z pz] kt pt] (.Tuple [a, b, c] k2 pt2) X.env = pure none := by kernel_rfl)
    (hs : swapsWithSole [.Tuple [.Name x px, .Name y py, .Name z pz] kt pt] (.Tuple [a, b, c] k2 pt2) pos.line X.env = pure false := by kernel_rfl)
    (h1 : (assignEach [.Tuple [.Name x px, .Name y py, .Name z pz] kt pt] X.env).map (·.2) = [assign (.Tuple [.Name x px, .Name y py, .Name z pz] kt pt) X.env] := by exact asg_one rfl)
    (hs1 : (assignEach [.Name x px, .Name y py, .Name z pz] X.env).map (·.2) = assign (.Name x px) X.env :: (assignEach [.Name y py, .Name z pz] X.env).map (·.2) := by exact asg_cons rfl)
    (hs2 : (assignEach [.Name y py, .Name z pz] X.env).map (·.2) = assign (.Name y py) X.env :: (assignEach [.Name z pz] X.env).map (·.2) := by exact asg_cons rfl) (hs3 : (assignEach [.Name z pz] X.env).map (·.2) = assign (.Name z pz) X.env :: (assignEach [] X.env).map (·.2) := by exact asg_cons rfl)
    (hn : (assignEach [.Name x px, .Name y py, .Name z pz] X.env).length = 3 := by exact asg_len) (hno : (assignEach [.Name x px, .Name y py, .Name z pz] X.env).findIdx? (·.1) = none := by exact asg_none rfl) :
    R1 X (.Assign [.Tuple [.Name x px, .Name y py, .Name z pz] kt pt] (.Tuple [a, b, c] k2 pt2) pos) ρ (.nx (((ρ.set i s1).set j s2).set l s3)) := .mk fun B F0 F H σ D S k =>
  PSw (ps_asg (pe_tup (pa_cons pe_w (pa_cons pe_w (pa_cons pe_w pa_nil hst3) hst2) hst)) (pg_tup hc (pgs_cons (pg_name hN hi (storeOk_loc hx) (storeOk_fn hx)) (pgs_cons (pg_name hN hj (storeOk_loc hy) (storeOk_fn hy)) (pgs_cons (pg_name hN hl (storeOk_loc hz) (storeOk_fn hz)) pgs_nil hs3) hs2) hs1) hn hno) hs hw h1)
    (ha.run B F0 F H σ _ S fun v1 G1 H1 as1 g1 ok1 n1 => hb.run B F0 G1 H1 σ _ (S.grow g1) fun v2 G2 H2 as2 g2 ok2 n2 => hcc.run B F0 G2 H2 σ _ ((S.grow g1).grow g2) fun v3 G3 H3 as3 g3 ok3 n3 =>
      ⟨sz_of (by show 3 ≤ 100000; omega), fun p hp => ⟨p, [v1, v2, v3], rfl, .inl (.inl upd_same), rfl, v1, _, rfl, v2, _, rfl, v3, _, rfl, rfl, by
        have S' := ((S.setNew g1 i ok1 n1).setNew g2 j ok2 n2).setNew g3 l ok3 n3
        exact k G3 _ _ ((g1.ff.trans g2.ff).trans g3.ff) (S'.grow ((Grow.refl S'.ex).loose hp))⟩⟩)
theorem any_code [DecidableEq α] {f : α → PyData} (c : Code f) (xs : List α) (x : α) : ((xs.map f).any fun z => PyData.eqv z (f x)) = decide (x ∈ xs) := by
  rw [List.any_map]
  by_cases h : x ∈ xs
  · rw [decide_eq_true h]
    exact List.any_eq_true.mpr ⟨x, h, (c x x).mpr rfl⟩
  · rw [decide_eq_false h]
    refine List.any_eq_false.mpr fun y hy => ?_
    simp only [Function.comp_apply]
    intro e
    exact h ((c y x).mp e ▸ hy)
theorem plainAll_map {f : α → PyData} {n : Nat} (h : ∀ a, PlN n (f a)) (xs : List α) : PyData.plainAll (xs.map f) = true := (pln_all (pln_map h xs)).1
theorem oc_notinNs (hu : X.A.units + 64 < cLine) {x : Names} {xs : List Names} : CmpD X .NotIn (dN x) (.list (xs.map dN)) (.da (.bool (!decide (x ∈ xs)))) := (oc_notin hu pl_dN (plainAll_map pln_dN xs)).is (by rw [any_code code_dN]; congr)
theorem oc_inNs (hu : X.A.units + 64 < cLine) {x : Names} {xs : List Names} : CmpD X .In (dN x) (.list (xs.map dN)) (.da (.bool (decide (x ∈ xs)))) := (oc_in hu pl_dN (plainAll_map pln_dN xs)).is (by rw [any_code code_dN]; congr)
theorem oc_notinZ (hu : X.A.units + 64 < cLine) {x : Int} {xs : List Int} : CmpD X .NotIn (.int x) (dZ xs) (.da (.bool (!decide (x ∈ xs)))) := (oc_notin hu pl_int (plainAll_map (n := 0) (fun _ => pln_int) xs)).is (by rw [any_code code_int])
end
/-- a < b < c as a test -/
theorem et_chain {X : Cx} {ρ : Env'} {a b c : Expr} {pos : Pos} {op op' : CmpOp} {t t' : Bool} {d1 d2 d3 : PyData} (ha : EX X a ρ (.da d1)) (hb : EX X b ρ (.da d2)) (hc : t = true → EX X c ρ (.da d3)) (o : CmpD X op d1 d2 (.da (.bool t))) (o' : t = true → CmpD X op' d2 d3 (.da (.bool t')))
    (hm : lastMarks [op, op'] [b, c] = false := by with_unfolding_all rfl) : ET X (.Compare a [op, op'] [b, c] pos) ρ (t && t') := .mk fun B F0 F H σ Q S k => by
  obtain ⟨r, hr, hq⟩ := o.it
  cases t with
  | false =>
    refine PTw (pt_chain (r' := fun _ _ _ _ => False) hr (fun _ _ _ _ _ _ _ _ _ _ _ _ h => h.elim) pe_w pe_w pe_w hm) (ha.use S fun v1 G1 H1 g1 h1 S1 => hb.use S1 fun v2 G2 H2 g2 h2 S2 => ?_)
    refine hq G2 H2 v1 v2 _ S2.ex (h1.mono g2.ff) h2 fun v G' H' as g ok n => ?_
    obtain ⟨_, u, e1, hu⟩ := ok
    cases e1
    refine ⟨false, hu.ebl, ?_⟩
    simp only [Bool.false_eq_true, if_false]
    exact ⟨false, rfl, k G' H' ((g1.trans g2).trans g)⟩
  | true =>
    obtain ⟨r', hr', hq'⟩ := (o' rfl).it
    refine PTw (pt_chain hr hr' pe_w pe_w pe_w hm) (ha.use S fun v1 G1 H1 g1 h1 S1 => hb.use S1 fun v2 G2 H2 g2 h2 S2 => ?_)
    refine hq G2 H2 v1 v2 _ S2.ex (h1.mono g2.ff) h2 fun v G' H' as g ok n => ?_
    obtain ⟨_, u, e1, hu⟩ := ok
    cases e1
    refine ⟨true, hu.ebl, ?_⟩
    simp only [if_true]
    refine (hc rfl).use (S2.grow g) fun v3 G3 H3 g3 h3 S3 => ?_
    refine hq' G3 H3 v2 v3 _ S3.ex ((h2.mono g.ff).mono g3.ff) h3 fun v G4 H4 as4 g4 ok4 n4 => ?_
    obtain ⟨_, u4, e4, hu4⟩ := ok4
    cases e4
    exact ⟨t', hu4.ebl, k G4 H4 ((((g1.trans g2).trans g).trans g3).trans g4)⟩
/-! ### instances made of things that are only lent -/
abbrev ArgsB (K : PySem.W.Frag) (F H : Hp) : List V → List Slot → Prop := Paired fun v s => ∃ as, SlotOk K F H (some v) s as ∧ ∀ a ∈ as, F a = none ∧ H a ≠ none
structure ESB (X : Cx) (es : List Expr) (ρ : Env') (ss : List Slot) : Prop where
  run : ∀ B F0 F H σ (Q : List V → Hp → Prop), Sl X.K B F0 F H σ ρ → (∀ vs G H', Grow F H G H' → ArgsB X.K G H' vs ss → Q vs H') → wA X es σ H Q
section
variable {X : Cx} {ρ : Env'} {e : Expr} {es : List Expr} {s : Slot} {ss : List Slot} {pos p : Pos} {x y : Str} {ds : List PyData} {C : Addr} {fs : List (Str × PyData)}
theorem esb_nil : ESB X [] ρ [] := .mk fun B F0 F H σ Q S k => PAw pa_nil (k [] F H (Grow.refl S.ex) .nil)
theorem esb_cons (ha : EX X e ρ s) (hr : ESB X es ρ ss) (sh : Shd s := by exact shd_da) (hs : starEach (e :: es) X.env = (false, eval e X.env) :: starEach es X.env := by exact star_cons rfl) : ESB X (e :: es) ρ (s :: ss) := .mk fun B F0 F H σ Q S k =>
  PAw (pa_cons pe_w pa_w hs) (ha.useS sh S fun v1 G1 H1 g1 h1 S1 => hr.run B F0 G1 H1 σ _ S1 fun vs G2 H2 g2 h2 => k (v1 :: vs) G2 H2 (g1.trans g2) (.cons ⟨[], h1.stay g2.ff, fun _ h => nomatch h⟩ h2))
theorem esb_own {pn : Pos} (i : Nat) (hρ : ρ[i]? = some (.ow ds)) (hr : ESB X es ρ ss) (hN : X.N[i]? = some y := by rfl) (hv : nameOk X.env.scope y = true := by kernel_rfl) (hs : starEach (.Name y pn :: es) X.env = (false, eval (.Name y pn) X.env) :: starEach es X.env := by exact star_cons rfl) : ESB X (.Name y pn :: es) ρ (.ow ds :: ss) := .mk fun B F0 F H σ Q S k => by
  obtain ⟨a, us, e1, e2, e3, e4⟩ := S.ow hρ
  refine PAw (pa_cons (pv i hN (nameOk_vis hv) (nameOk_d hv) (nameOk_c hv)) pa_w hs) ⟨.ref a, e1, ?_⟩
  exact hr.run B F0 F H σ _ S fun vs G2 H2 g2 h2 => k (.ref a :: vs) G2 H2 g2 (.cons ⟨[a], ⟨a, us, rfl, rfl, g2.hh _ _ e2, e3.mono g2.ff⟩, fun b hb => by
    have eb : b = a := by simpa using hb
    subst eb
    exact ⟨by rw [g2.fr b (by rw [e2]; intro z; cases z)]; exact e4, by rw [g2.hh _ _ e2]; intro z; cases z⟩⟩ h2)
def spInitB (K : PySem.W.Frag) (C : Addr) (R : List Slot → List (Str × PyData) → Prop) : Sp := fun vs H Q _ => ∃ F ss fs x dx vs', vs = .ref x :: vs' ∧ R ss fs ∧ Ex F H ∧ ArgsB K F H vs' ss ∧ F x = none ∧ F dx = none ∧ dx ≠ x ∧ H x = some (.ins C dx []) ∧ H dx = some (.own x) ∧
  ∀ G H' fv, Ex F G → Ex G H' → (∀ a o, a ≠ x → H a = some o → H' a = some o) → (∀ a, H a ≠ none → G a = F a) → H' x = some (.ins C dx fv) → Paired (fun (p : Str × V) (q : Str × PyData) => p.1 = q.1 ∧ Dv G p.2 q.2) fv fs → Q .non H'
theorem ex_makeB {k : Nat} {R : List Slot → List (Str × PyData) → Prop} (M : CalI X.prog X.w X.K X.mg X.base x C k (spInitB X.K C R)) (hr : Room (k + 1) X.A) (ha : ESB X (e :: es) ρ ss) (h : R ss fs) (hg : Gl X x := by exact gl_of (by kernel_rfl)) (hdb : (x == ("__debug__" : Str)) = false := by kernel_rfl)
    (he : starEach (e :: es) X.env = (false, eval e X.env) :: starEach es X.env := by exact star_cons rfl) (hpl : (backTo pos (starEach es X.env)).any (·.1) = false := by exact star_none rfl) : EX X (.Call (.Name x p) (e :: es) [] pos) ρ (.ext (OB C fs)) := .mk fun B F0 F H σ Q S q => by
  obtain ⟨f, fd, ps, G, mk, bS⟩ := M.ex
  refine PEw (pe_make mk G hr hg M.nm bS .nil pass0 pa_w hdb he hpl) (ha.run B F0 F H σ _ S fun vs G1 H1 g1 h1 y dx ny ndy ne => ?_)
  have S1 := S.grow g1
  rw [List.append_nil]
  have n1 : G1 y = none := Ex.noneOf S1.ex ny
  have n2 : G1 dx = none := Ex.noneOf S1.ex ndy
  have ex2 : Ex G1 (upd (upd H1 dx (.own y)) y (.ins C dx [])) := (S1.ex.trans (Ex.new ndy)).mut n1
  have hkeep : ∀ b, H1 b ≠ none → (upd (upd H1 dx (.own y)) y (.ins C dx [])) b = H1 b := fun b hb => by
    rw [upd_ne (fun q => hb (by rw [q]; exact ny)), upd_ne (fun q => hb (by rw [q]; exact ndy))]
  have h1' : ArgsB X.K G1 (upd (upd H1 dx (.own y)) y (.ins C dx [])) vs ss := by
    refine paired_imp (fun v s hh => ?_) h1
    obtain ⟨as, hh, hn⟩ := hh
    exact ⟨as, hh.mono (Ex.refl _) (fun a ha => hkeep a (hn a ha).2) fun a ha => (hn a ha).1, fun a ha => ⟨(hn a ha).1, by rw [hkeep a (hn a ha).2]; exact (hn a ha).2⟩⟩
  refine ⟨G1, ss, fs, y, dx, vs, rfl, h, ex2, h1', n1, n2, ne, upd_same, by rw [upd_ne ne, upd_same], fun G2 H2 fv e1 e2 kp fr hx hp => ⟨rfl, ?_⟩⟩
  have nG : ∀ b, (upd (upd H1 dx (.own y)) y (.ins C dx [])) b ≠ none → G2 b = G1 b := fr
  have hy : G2 y = none := by rw [fr y (by rw [upd_same]; intro z; cases z)]; exact n1
  have hdx : G2 dx = none := by rw [fr dx (by rw [upd_ne ne, upd_same]; intro z; cases z)]; exact n2
  have hdH : H2 dx = some (.own y) := kp dx _ ne (by rw [upd_ne ne, upd_same])
  have gg : Grow F H G2 H2 := by
    refine ⟨g1.ff.trans e1, fun b o z => ?_, e2, fun b hb => ?_⟩
    · have z1 := g1.hh b o z
      have nb : b ≠ y := fun q => by subst q; rw [ny] at z1; cases z1
      have nb2 : b ≠ dx := fun q => by subst q; rw [ndy] at z1; cases z1
      exact kp b o nb (by rw [upd_ne nb, upd_ne nb2]; exact z1)
    · have z1 := Ex.someOf g1.hh hb
      have nb : b ≠ y := fun q => by subst q; exact z1 ny
      have nb2 : b ≠ dx := fun q => by subst q; exact z1 ndy
      rw [fr b (by rw [upd_ne nb, upd_ne nb2]; exact z1)]
      exact g1.fr b hb
  have ny' : H y = none := Ex.noneOf g1.hh ny
  have nd' : H dx = none := Ex.noneOf g1.hh ndy
  have e3 : Ex G2 (upd (upd G2 dx (.own y)) y (.ins C dx fv)) := fun b o z => by
    have z1 : b ≠ y := fun q => by subst q; rw [hy] at z; cases z
    have z2 : b ≠ dx := fun q => by subst q; rw [hdx] at z; cases z
    rw [upd_ne z1, upd_ne z2]
    exact z
  exact q (.ref y) _ H2 [] (frozen_new gg ny' nd' ne hy hdx hx hdH) ⟨.ref y, rfl, rfl, y, dx, fv, rfl, upd_same, by rw [upd_ne ne, upd_same], paired_imp (fun p q z => ⟨z.1, z.2.mono e3⟩) hp⟩ fun _ h => nomatch h
/-- a thing that is a list, lent or frozen -/
def LstB (s : Slot) (ds : List PyData) : Prop := s = .da (.list ds) ∨ s = .ow ds
theorem LstB.get {K : PySem.W.Frag} {F H : Hp} {v : V} (h : LstB s ds) (e : Ex F H) (a : ∃ as, SlotOk K F H (some v) s as ∧ ∀ a ∈ as, F a = none ∧ H a ≠ none) : ∃ p us, v = .ref p ∧ H p = some (.lst us) ∧ DvAll F us ds := by
  obtain ⟨as, a, _⟩ := a
  rcases h with rfl | rfl
  · obtain ⟨_, v', ev, hv⟩ := a
    cases ev
    obtain ⟨p, us, rfl, h1, h2⟩ := hv.elst
    exact ⟨p, us, rfl, e _ _ h1, h2⟩
  · obtain ⟨p, us, _, ev, h1, h2⟩ := a
    cases ev
    exact ⟨p, us, rfl, h1, h2⟩
end
end Mx

set_option Elab.async false
set_option linter.all false
set_option maxRecDepth 100000
/-! Mx9h: whether one own class is kind of another. -/
namespace Mx
open PySem PySem.Spec PyProof.Rows L2
theorem kit_self (K : W.Frag) (A : Addr) : PySem.W.kitOne K (.ref A) (.ref A) = some true := by
  unfold PySem.W.kitOne; exact if_pos (beq_self_eq_true _)
theorem kit_not {K : W.Frag} {A B : Addr} (h : PySem.W.mroIn K A (.ref B) = some false) (hs : PySem.W.mroIn K A (.ref A) = some true)
    (hB : PySem.W.isClsIn K B = true) (hT : PySem.W.typeIn K (.ref B) = some (.type "type")) : PySem.W.kitOne K (.ref A) (.ref B) = some false := by
  have hne : (Value.ref A == Value.ref B) = false := by
    cases hb : (Value.ref A == Value.ref B)
    · rfl
    · have := eq_of_beq hb
      rw [← this, hs] at h; cases h
  unfold PySem.W.kitOne PySem.W.kitCls
  rw [if_neg (by rw [hne]; decide)]
  have hc : (PySem.W.clsIn K B).isSome = true := hB
  have : ((PySem.W.clsIn K B).isSome && PySem.W.typeIn K (.ref B) == some (.type "type")) = true := by
    rw [hc, hT]; simp
  show (if ((PySem.W.clsIn K B).isSome && PySem.W.typeIn K (.ref B) == some (.type "type")) = true then PySem.W.subIn K (.ref A) (.ref B) else none) = some false
  rw [if_pos this]
  exact h
end Mx

set_option Elab.async false
set_option linter.all false
set_option maxRecDepth 100000
/-! Mx9i: two stores by way of a tuple; a list told backwards; the last one; a checker for hearings. -/
namespace Mx
open PySem PySem.Spec PyProof.Rows L2
section
variable {X : Cx} {ρ : Env'} {α : Type}
theorem r_par2T {x y : Str} {a b : Expr} {s1 s2 : Slot} {px py pt pos : Pos} {kt k2 pt2} (i j : Nat) (hc : X.calm = true) (hN : X.N.Nodup) (ha : EX X a ρ s1) (hb : EX X b ρ s2) (hi : X.N[i]? = some x := by rfl) (hj : X.N[j]? = some y := by rfl)
    (hx : storeOk X.env.scope (X.fn x) x = true := by kernel_rfl) (hy : storeOk X.env.scope (X.fn y) y = true := by kernel_rfl)
    (hst : starEach [a, b] X.env = (false, eval a X.env) :: starEach [b] X.env := by exact star_cons rfl) (hst2 : starEach [b] X.env = (false, eval b X.env) :: starEach [] X.env := by exact star_cons rfl)
    (hw : swappedStores [.Tuple [.Name x px, .Name y py] kt pt] (.Tuple [a, b] k2 pt2) X.env = pure none := by kernel_rfl)
    (hs : swapsWithSole [.Tuple [.Name x px, .Name y py] kt pt] (.Tuple [a, b] k2 pt2) pos.line X.env = pure false := by kernel_rfl)
    (h1 : (assignEach [.Tuple [.Name x px, .Name y py] kt pt] X.env).map (·.2) = [assign (.Tuple [.Name x px, .Name y py] kt pt) X.env] := by exact asg_one rfl)
    (hs1 : (assignEach [.Name x px, .Name y py] X.env).map (·.2) = assign (.Name x px) X.env :: (assignEach [.Name y py] X.env).map (·.2) := by exact asg_cons rfl)
    (hs2 : (assignEach [.Name y py] X.env).map (·.2) = assign (.Name y py) X.env :: (assignEach [] X.env).map (·.2) := by exact asg_cons rfl)
    (hn : (assignEach [.Name x px, .Name y py] X.env).length = 2 := by exact asg_len) (hno : (assignEach [.Name x px, .Name y py] X.env).findIdx? (·.1) = none := by exact asg_none rfl) :
    R1 X (.Assign [.Tuple [.Name x px, .Name y py] kt pt] (.Tuple [a, b] k2 pt2) pos) ρ (.nx ((ρ.set i s1).set j s2)) := .mk fun B F0 F H σ D S k =>
  PSw (ps_asg (pe_tup (pa_cons pe_w (pa_cons pe_w pa_nil hst2) hst)) (pg_tup hc (pgs_cons (pg_name hN hi (storeOk_loc hx) (storeOk_fn hx)) (pgs_cons (pg_name hN hj (storeOk_loc hy) (storeOk_fn hy)) pgs_nil hs2) hs1) hn hno) hs hw h1)
    (ha.run B F0 F H σ _ S fun v1 G1 H1 as1 g1 ok1 n1 => hb.run B F0 G1 H1 σ _ (S.grow g1) fun v2 G2 H2 as2 g2 ok2 n2 =>
      ⟨sz_of (by show 2 ≤ 100000; omega), fun p hp => ⟨p, [v1, v2], rfl, .inl (.inl upd_same), rfl, v1, _, rfl, v2, _, rfl, rfl, by
        have S' := (S.setNew g1 i ok1 n1).setNew g2 j ok2 n2
        exact k G2 _ _ (g1.ff.trans g2.ff) (S'.grow ((Grow.refl S'.ex).loose hp))⟩⟩)
theorem dv_rev {F : Hp} : ∀ {vs : List V} {ds : List PyData}, DvAll F vs ds → DvAll F vs.reverse ds.reverse
  | _, _, .nil => .nil
  | _, _, .cons a r => by
    rw [List.reverse_cons, List.reverse_cons]
    exact dv_append (dv_rev r) (.cons a .nil)
theorem ex_revL {a : Expr} {pos p1 p2 p3 : Pos} {k : Nat} {ds : List PyData} (ha : EX X a ρ (.da (.list ds))) : EX X (.Subscript a (.Slice none none (some (.UnaryOp .USub (.Constant (.int 1) k p1) p2)) p3) pos) ρ (.ow ds.reverse) := .mk fun B F0 F H σ Q S q =>
  PEw (pe_revL pe_w) (ha.use S fun v1 G1 H1 g1 h1 S1 => by
    obtain ⟨p, xs, rfl, e1, e2⟩ := h1.elst
    exact ⟨p, xs, rfl, .inl (.inl (S1.ex _ _ e1)), fun p hp => q.ow g1 hp (dv_rev e2)⟩)
end
def dNZ (p : Str × List Int) : PyData := .tuple [.str p.1, dZ p.2]
theorem pl_nz {n : Str} {l : List Int} : Pl (.tuple [.str n, dZ l]) := (pln_tuple (n := 1) fun d h => by
  rcases List.mem_cons.mp h with rfl | h
  · exact pln_str
  · have e : d = dZ l := by simpa using h
    rw [e]; exact pln_list (n := 0) (pln_map (fun _ => pln_int) l)).pl
theorem eqv_nz {n : Str} {l : List Int} : PyData.eqv (.tuple [.str n, dZ l]) (.tuple [.str n, dZ l]) = true := by
  simp only [PyData.eqv, PyData.eqvAll, Bool.and_eq_true, and_true]
  refine ⟨by simp, ?_⟩
  exact (code_dZ l l).mpr rfl
theorem for_preS {X : Cx} {tg : Expr} {body : List Stmt} {α : Type} {ρ : Env'} (xs : List α) (encI : α → PyData) (enc : List α → Env') (h0 : enc [] = ρ)
    (turn : ∀ (pre : List α) (y : α) (post : List α), xs = pre ++ y :: post → ∃ is ρ1, BT X tg is (encI y) (enc pre) ρ1 ∧ (RS X body ρ1 (.nx (enc (pre ++ [y]))) ∨ RS X body ρ1 (.ct (enc (pre ++ [y]))))) :
    ForR X tg body (xs.map encI) ρ (.nx (enc xs)) := h0 ▸ for_pre xs encI enc turn
theorem EX.isS {X : Cx} {e : Expr} {ρ : Env'} {s s' : Slot} (h : EX X e ρ s) (q : s = s') : EX X e ρ s' := q ▸ h
theorem atI_last {α : Type} {xs : List α} {v : α} (h : xs.getLast? = some v) : atI xs (-1) = some v := by
  have hne : xs ≠ [] := fun e => by subst e; cases h
  have hl : 0 < xs.length := List.length_pos_iff.mpr hne
  unfold atI ixN
  rw [if_neg (by decide), if_pos (by omega)]
  show xs[(-1 + (xs.length : Int)).toNat]? = _
  have : (-1 + (xs.length : Int)).toNat = xs.length - 1 := by omega
  rw [this, ← List.getLast?_eq_getElem?, h]
theorem cut_init {α : Type} (f : α → PyData) (xs : List α) : Mx.cutD (xs.map f) none (some (-1)) = xs.dropLast.map f := by
  unfold Mx.cutD
  have h0 : HT.sIx (xs.map f).length 0 none = 0 := rfl
  have h1 : HT.sIx (xs.map f).length (xs.map f).length (some (-1)) = xs.length - 1 := by
    rw [List.length_map]
    show (if (-1 : Int) < 0 then ((-1 : Int) + (xs.length : Int)).toNat else min (-1 : Int).toNat xs.length) = _
    rw [if_pos (by decide)]
    omega
  rw [h0, h1, List.drop_zero, Nat.sub_zero, ← List.map_take, List.dropLast_eq_take]
/-! ### whether it is a hearing, told by looking -/
def nameB (z x : Str) : Bool := decide (1 ≤ x.length) && decide (x.length ≤ 2) && x.cps.toList.all fun c => z.cps.toList.contains c
def risesB : Names → Bool
  | [] => true
  | a :: r => r.all (fun b => ltS a b) && risesB r
def validB (z : Str) (h : Hear) : Bool := decide (h.length ≤ 7) && (h.all fun p => nameB z p.1 && p.2.all (nameB z) && !(p.2.contains p.1) && risesB p.2 && p.2.all fun n => (h.map (·.1)).contains n) && risesB (h.map (·.1))
theorem name_B {z x : Str} (h : nameB z x = true) : NameOk z x := by
  unfold nameB at h
  rw [Bool.and_eq_true, Bool.and_eq_true] at h
  refine ⟨of_decide_eq_true h.1.1, of_decide_eq_true h.1.2, fun c hc => ?_⟩
  exact List.contains_iff_mem.mp (List.all_eq_true.mp h.2 c hc)
theorem rises_B : ∀ {l : Names}, risesB l = true → Rising l
  | [], _ => .nil
  | a :: r, h => by
    unfold risesB at h
    rw [Bool.and_eq_true] at h
    exact .cons (fun b hb => List.all_eq_true.mp h.1 b hb) (rises_B h.2)
theorem valid_B {z : Str} {h : Hear} (e : validB z h = true) : Valid z h := by
  unfold validB at e
  rw [Bool.and_eq_true, Bool.and_eq_true] at e
  obtain ⟨⟨e1, e2⟩, e3⟩ := e
  have q : ∀ p ∈ h, _ := fun p hp => List.all_eq_true.mp e2 p hp
  refine ⟨of_decide_eq_true e1, fun p hp => ?_, fun p hp => ?_, rises_B e3⟩
  · have := q p hp
    simp only [Bool.and_eq_true] at this
    exact ⟨name_B this.1.1.1.1, fun n hn => name_B (List.all_eq_true.mp this.1.1.1.2 n hn)⟩
  · have := q p hp
    simp only [Bool.and_eq_true, Bool.not_eq_true'] at this
    refine ⟨fun hm => ?_, rises_B this.1.2, fun n hn => List.contains_iff_mem.mp (List.all_eq_true.mp this.2 n hn)⟩
    have c := this.1.1.2
    rw [List.contains_iff_mem.mpr hm] at c
    cases c
end Mx

set_option Elab.async false
set_option linter.all false
set_option maxRecDepth 100000
/-! Mx9j: min of a tuple of two ints; a dict by tuples of texts put anew; its keys walked. -/
namespace Mx
open PySem PySem.Spec PyProof.Rows L2
section
variable {X : Cx}
def rMinT2 (K : PySem.W.Frag) : List V → Hp → VK → Prop := fun vs H Q => ∃ (a : Addr) (i j : Int), vs = [V.ref a] ∧ SqT K H a [V.int i, V.int j] ∧ Q (.int (min i j)) H
theorem cr_minT2 (hc : X.calm = true) : CallR X (.builtin "min") (rMinT2 X.K) := by
  intro pins s σ H vs us Q I r h
  obtain ⟨a, i, j, rfl, hs, q⟩ := h
  obtain ⟨its, rv, hl, _⟩ := I.tuple hs
  rw [Vals.ref1 r]
  obtain ⟨u, w', rfl, ⟨t, rfl⟩, ⟨t', rfl⟩⟩ := vals2 rv
  have hlT : s.heap.IsTuple a #[Value.int i t, Value.int j t'] := hl
  have hlt : a < s.heap.objs.size := by obtain ⟨_, e, _⟩ := hl; exact Heap.lt_size e
  have hval : ∀ (n : Nat) (v : Value), (#[Value.int i t, Value.int j t'] : Array Value)[n]? = some v → ∃ t, v = Value.int (([i, j] : List Int).getD n 0) t := fun n v e => by
    match n, e with
    | 0, e => cases e; exact ⟨t, rfl⟩
    | 1, e => cases e; exact ⟨t', rfl⟩
    | n + 2, e => simp at e
  refine call_min_walk (wpAny_pyIter_tuple hlT ?_)
  refine ⟨_, [_, a], [_], _, _, _, _, rfl, Walks.tuple (A := X.A.in1) (I.ok.hd hc) _ a (Nat.ne_of_lt hlt) #[Value.int i t, Value.int j t'], ⟨⟨_, Heap.get?_push_size _ rfl, rfl, rfl⟩, hlT.push _⟩, fun b hb => ?_, by simp, CmpOf.ints_lt (fun n => ([i, j] : List Int).getD n 0) hval, fun v h' tk hP hk => ?_⟩
  · show b < (s.heap.push _).objs.size
    rw [Heap.size_push]
    rcases List.mem_cons.mp hb with e | hb
    · rw [e]
      exact Nat.lt_succ_self _
    · rw [List.mem_singleton.mp hb]
      exact Nat.lt_succ_of_lt hlt
  · obtain ⟨t2, rfl⟩ := hval _ v hP
    obtain ⟨b1, b2⟩ := argBest_lt (fun n => ([i, j] : List Int).getD n 0) 1
    have c0 := b2 0 (by omega)
    have c1 := b2 1 (by omega)
    have e : (([i, j] : List Int).getD (argBest (fun n m => decide ((([i, j] : List Int).getD n 0) < (([i, j] : List Int).getD m 0))) 1) 0) = min i j := by
      change argBest (fun n m => decide ((([i, j] : List Int).getD n 0) < (([i, j] : List Int).getD m 0))) 1 ≤ 1 at b1
      change ([i, j] : List Int).getD (argBest (fun n m => decide ((([i, j] : List Int).getD n 0) < (([i, j] : List Int).getD m 0))) 1) 0 ≤ ([i, j] : List Int).getD 0 0 at c0
      change ([i, j] : List Int).getD (argBest (fun n m => decide ((([i, j] : List Int).getD n 0) < (([i, j] : List Int).getD m 0))) 1) 0 ≤ ([i, j] : List Int).getD 1 0 at c1
      generalize argBest (fun n m => decide ((([i, j] : List Int).getD n 0) < (([i, j] : List Int).getD m 0))) 1 = g at b1 c0 c1 ⊢
      have d0 : ([i, j] : List Int).getD 0 0 = i := rfl
      have d1 : ([i, j] : List Int).getD 1 0 = j := rfl
      rw [d0] at c0
      rw [d1] at c1
      have hg : g = 0 ∨ g = 1 := by omega
      rcases hg with rfl | rfl
      · rw [d0] at c1 ⊢; omega
      · rw [d1] at c0 ⊢; omega
    refine ⟨.int (min i j), H, I.kept (t' := tk) fun b u e => hk b u (fun hmem => ?_) (Heap.get?_push_of_some _ e), ⟨t2, by rw [← e]; rfl⟩, q⟩
    have e1 : b = s.heap.objs.size := List.mem_singleton.mp hmem
    have e2 := Heap.lt_size e
    rw [e1] at e2
    exact absurd e2 (Nat.lt_irrefl _)
theorem cd_minT2 {i j : Int} (hc : X.calm = true) : CallD X (.builtin "min") [.tuple [.int i, .int j]] (.da (.int (min i j))) := .mk ⟨_, cr_minT2 hc, fun F H vs Q e hv k => by
  cases hv with
  | cons h r =>
    cases r
    obtain ⟨a, xs, rfl, h1, h2⟩ := h.etup
    cases h2 with
    | cons x1 r1 => cases r1 with
      | cons x2 r2 =>
        cases r2
        exact ⟨a, i, j, rfl, by rw [← x1.eint, ← x2.eint]; exact .inl (.inl (e _ _ h1)), k.here e (.int _)⟩⟩
end

/-! ### put anew, the same value -/
theorem kvt_put {F : Hp} {k : Names} {v : V} {d : PyData} : ∀ {vs : List (List Key × V)} {kvs : List (Names × PyData)}, KvT F vs kvs → (∀ p ∈ kvs, p.1 = k → p.2 = d) → Dv F v d → KvT F (vs.map fun kv => if kv.1 = tKey k then (kv.1, v) else kv) kvs
  | _, _, .nil, _, _ => .nil
  | p :: vs, q :: kvs, .cons a r, h, hd => by
    refine .cons ?_ (kvt_put r (fun x hx => h x (List.mem_cons_of_mem _ hx)) hd)
    show (if p.1 = tKey k then (p.1, v) else p).1 = tKey q.1 ∧ Dv F (if p.1 = tKey k then (p.1, v) else p).2 q.2
    by_cases e : p.1 = tKey k
    · rw [if_pos e]
      refine ⟨a.1, ?_⟩
      rw [h q List.mem_cons_self (tKey_inj (a.1.symm.trans e))]
      exact hd
    · rw [if_neg e]; exact a
section
variable {X : Cx} {ρ ρ' : Env'} {a b e key : Expr} {pos p pn : Pos} {d : PyData} {ds : List PyData} {x y : Str} {k : Names} {kvs : List (Names × PyData)}
/-- known[key] = e, the key there, its value as before -/
theorem r_dputA {pos' : Pos} (hu : X.A.units + 64 < cLine) (i : Nat) (he : EM X e ρ ρ' d) (hρ : ρ'[i]? = some (.ext (ODT kvs))) (hk : EX X key ρ' (.da (.tuple (k.map .str)))) (hold : kvs.lookup k ≠ none) (hsame : ∀ p ∈ kvs, p.1 = k → p.2 = d) (hz : kvs.length < 100000) (hN : X.N[i]? = some y := by rfl) (hv : nameOk X.env.scope y = true := by kernel_rfl)
    (hs : swapsWith e (some (.Subscript (.Name y pn) key pos')) pos.line X.env = pure false := by exact swaps_no rfl) : R1 X (.Assign [.Subscript (.Name y pn) key pos'] e pos) ρ (.nx (ρ'.set i (.ext (ODT kvs)))) := .mk fun B F0 F H σ D S q =>
  PSw (ps_dput (by omega) (pv i hN (nameOk_vis hv) (nameOk_d hv) (nameOk_c hv)) pe_w pe_w hs) (he.run B F0 F H σ _ S fun v G H1 e1 S1 hd => by
    obtain ⟨a, vs, e2, e3, e4⟩ := S1.odt hρ
    refine ⟨.ref a, e2, hk.use S1 fun v2 G2 H2 g2 h2 S2 => ?_⟩
    obtain ⟨b, rfl, e5⟩ := dv_tkey h2
    have hl : vs.length = kvs.length := Mx.Paired.len e4
    have hyes : (valV vs (tKey k)).isSome = true := by
      rw [(kvt_get (k := k) e4).1]
      cases q : kvs.lookup k with
      | none => exact absurd q hold
      | some _ => rfl
    have hput : putK vs (tKey k) v = vs.map fun kv => if kv.1 = tKey k then (kv.1, v) else kv := by
      unfold putK
      rw [if_pos]
      obtain ⟨u, hu⟩ := Option.isSome_iff_exists.mp hyes
      unfold valV at hu
      obtain ⟨p, hp, _⟩ := Option.map_eq_some_iff.mp hu
      rw [List.any_eq_true]
      exact ⟨p, List.mem_of_find?_eq_some hp, by have := List.find?_some hp; simpa using this⟩
    refine ⟨a, _, rfl, .inr ⟨vs, tKey k, b, g2.hh _ _ e3, rfl, S2.ex _ _ e5, by rw [hl]; exact sz_lt hz, rfl⟩, ?_⟩
    rw [hput]
    obtain ⟨as, ⟨v0, e6, a', vs', rfl, rfl, e7, e8⟩, n, ch⟩ := S2.change hρ
    have ea : a' = a := by
      have q := at_get e6
      rw [q] at e2
      cases e2
      rfl
    subst ea
    have n0 := n a' (by simp)
    refine q G2 _ σ (e1.trans g2.ff) (ch G2 _ [a'] _ (Ex.refl G2) (S2.ex.mut n0.1) (fun b o nb e => by rw [upd_ne (by simpa using nb)]; exact e) (fun _ _ => rfl) (fun b hb => ?_) ⟨_, e6, a', _, rfl, rfl, upd_same, kvt_put (paired_imp (fun p q z => ⟨z.1, z.2.mono g2.ff⟩) e4) hsame (hd.mono g2.ff)⟩)
    have eb : b = a' := by simpa using hb
    subst eb
    exact ⟨.inl (by simp), n0.1, by rw [upd_same]; intro z; cases z⟩)
end

/-! ### for key in known: .. known[key] .. -/
def KeyAt (σ : L2.St) (H : Hp) (j : Nat) (k : Names) : Prop := ∃ q, at' σ j = some (.ref q) ∧ H q = some (.tup ((tKey k).map kV))
theorem KeyAt.up {σ : L2.St} {H H' : Hp} {j : Nat} {k : Names} (h : KeyAt σ H j k) (e : Ex H H') : KeyAt σ H' j k := by
  obtain ⟨q, h1, h2⟩ := h
  exact ⟨q, h1, e _ _ h2⟩
/-- the dict locked -/
def FDT (d : Addr) (od : Obj) (vs : List (List Key × V)) (kvs : List (Names × PyData)) : Own := ⟨fun F H v as => v = .ref d ∧ as = [d] ∧ H d = some (.frz od (.dT vs)) ∧ KvT F vs kvs, fun h e k _ => by
  obtain ⟨rfl, rfl, h1, h2⟩ := h
  exact ⟨rfl, rfl, (k _ (by simp)).trans h1, paired_imp (fun p q z => ⟨z.1, z.2.mono e⟩) h2⟩⟩
structure EXK (X : Cx) (j : Nat) (k : Names) (e : Expr) (ρ : Env') (s : Slot) : Prop where
  run : ∀ B F0 F H σ Q, Sl X.K B F0 F H σ ρ → KeyAt σ H j k → Kont X.K F H s Q → wE X e σ H Q
structure EAK (X : Cx) (j : Nat) (k : Names) (es : List Expr) (ρ : Env') (ds : List PyData) : Prop where
  run : ∀ B F0 F H σ (Q : List V → Hp → Prop), Sl X.K B F0 F H σ ρ → KeyAt σ H j k → (∀ vs G H', Grow F H G H' → DvAll G vs ds → Q vs H') → wA X es σ H Q
structure RSK (X : Cx) (j : Nat) (k : Names) (st : List Stmt) (ρ ρ' : Env') : Prop where
  run : ∀ B F0 F H σ (D : Ends), Sl X.K B F0 F H σ ρ → KeyAt σ H j k → (∀ F' H' σ', Ex F F' → Sl X.K B F0 F' H' σ' ρ' → D.nx σ' H') → wSs X st D σ H
section
variable {X : Cx} {ρ ρ1 ρ2 : Env'} {a b e : Expr} {es : List Expr} {pos p pn pz : Pos} {d d1 d2 : PyData} {ds : List PyData} {x y z : Str} {j : Nat} {k : Names} {s : Slot} {kvs : List (Names × PyData)}
theorem EXK.of (h : EX X e ρ s) : EXK X j k e ρ s := .mk fun B F0 F H σ Q S _ q => h.run B F0 F H σ Q S q
theorem EXK.use {B F0 F H : Hp} {σ : L2.St} {Q : VK} (h : EXK X j k e ρ (.da d)) (S : Sl X.K B F0 F H σ ρ) (ka : KeyAt σ H j k) (q : ∀ v G H', Grow F H G H' → Dv G v d → Sl X.K B F0 G H' σ ρ → KeyAt σ H' j k → Q v H') : wE X e σ H Q :=
  h.run B F0 F H σ Q S ka fun v G H' as g ok _ => by
    obtain ⟨_, u, e1, hu⟩ := ok
    cases e1
    exact q v G H' g hu (S.grow g) (ka.up g.hh)
theorem exk_bin {op : Operator} (ha : EXK X j k a ρ (.da d1)) (hb : EXK X j k b ρ (.da d2)) (o : BinD X op d1 d2 s) : EXK X j k (.BinOp a op b pos) ρ s := .mk fun B F0 F H σ Q S ka q => by
  obtain ⟨r, hr, hq⟩ := o.it
  refine PEw (pe_op hr pe_w pe_w) (ha.use S ka fun v1 G1 H1 g1 h1 S1 k1 => hb.use S1 k1 fun v2 G2 H2 g2 h2 S2 _ => ?_)
  exact hq G2 H2 v1 v2 Q S2.ex (h1.mono g2.ff) h2 (q.go (g1.trans g2))
theorem eak_nil : EAK X j k [] ρ [] := .mk fun B F0 F H σ Q S _ q => PAw pa_nil (q [] F H (Grow.refl S.ex) .nil)
theorem eak_cons (ha : EXK X j k e ρ (.da d)) (hr : EAK X j k es ρ ds) (hs : starEach (e :: es) X.env = (false, eval e X.env) :: starEach es X.env := by exact star_cons rfl) : EAK X j k (e :: es) ρ (d :: ds) := .mk fun B F0 F H σ Q S ka q =>
  PAw (pa_cons pe_w pa_w hs) (ha.use S ka fun v1 G1 H1 g1 h1 S1 k1 => hr.run B F0 G1 H1 σ _ S1 k1 fun vs G2 H2 g2 h2 => q (v1 :: vs) G2 H2 (g1.trans g2) (.cons (h1.mono g2.ff) h2))
theorem exk_callB {id : String} (ha : EAK X j k (e :: es) ρ ds) (o : CallD X (.builtin id) ds s) (hm : X.mg x = none) (hg : Gl X x := by exact gl_of (by kernel_rfl)) (hv : bootBuiltins x = some (.builtin id) := by kernel_rfl) (hok : globOk x = true := by kernel_rfl)
    (he : starEach (e :: es) X.env = (false, eval e X.env) :: starEach es X.env := by exact star_cons rfl) (hpl : (backTo pos (starEach es X.env)).any (·.1) = false := by exact star_none rfl) : EXK X j k (.Call (.Name x p) (e :: es) [] pos) ρ s := .mk fun B F0 F H σ Q S ka q => by
  obtain ⟨r, hr, hq⟩ := o.it
  exact PEw (pe_callB hr hg hm hv pa_w (globOk_n hok) (globOk_d hok) he hpl) (ha.run B F0 F H σ _ S ka fun vs G1 H1 g1 h1 => hq G1 H1 vs Q g1.fh h1 (q.go g1))
theorem Sl.fdt {K : PySem.W.Frag} {B F0 F H : Hp} {σ : L2.St} {i : Nat} {dd : Addr} {od : Obj} {vs : List (List Key × V)} (S : Sl K B F0 F H σ ρ) (hρ : ρ[i]? = some (.ext (FDT dd od vs kvs))) : at' σ i = some (.ref dd) ∧ H dd = some (.frz od (.dT vs)) ∧ KvT F vs kvs := by
  obtain ⟨fp, f1, f2, f3⟩ := S.fp
  obtain ⟨v, e1, rfl, e2, h1, h2⟩ := f3 i _ hρ
  exact ⟨e1, h1, h2⟩
theorem exk_get {dd : Addr} {od : Obj} {vs : List (List Key × V)} (hu : X.A.units + 64 < cLine) (i : Nat) (hρ : ρ[i]? = some (.ext (FDT dd od vs kvs))) (h : kvs.lookup k = some d) (hN : X.N[i]? = some y := by rfl) (hNj : X.N[j]? = some z := by rfl) (hv : nameOk X.env.scope y = true := by kernel_rfl) (hvj : nameOk X.env.scope z = true := by kernel_rfl) :
    EXK X j k (.Subscript (.Name y pn) (.Name z pz) pos) ρ (.da d) := .mk fun B F0 F H σ Q S ka q => by
  obtain ⟨e1, e2, e3⟩ := S.fdt hρ
  obtain ⟨b, k1, k2⟩ := ka
  refine PEw (pe_dget (by omega) (pv i hN (nameOk_vis hv) (nameOk_d hv) (nameOk_c hv)) (pv j hNj (nameOk_vis hvj) (nameOk_d hvj) (nameOk_c hvj)) (fun _ _ => rfl)) ⟨.ref dd, at_get e1, .ref b, at_get k1, ?_⟩
  obtain ⟨u, h5, h6⟩ := (kvt_get e3).2 d h
  exact ⟨dd, u, rfl, .inr ⟨vs, tKey k, b, .inr ⟨od, e2⟩, rfl, k2, h5.symm⟩, q.here S.ex h6⟩
theorem rsk_nil : RSK X j k [] ρ ρ := .mk fun B F0 F H σ D S _ q => PSsw pss_nil (q F H σ (Ex.refl F) S)
theorem rsk_set {p' : Pos} {rest : List Stmt} (i : Nat) (hij : i ≠ j) (hN : X.N.Nodup) (he : EXK X j k e ρ s) (hr : RSK X j k rest (ρ.set i s) ρ2) (hi : X.N[i]? = some x := by rfl) (hx : storeOk X.env.scope (X.fn x) x = true := by kernel_rfl) (hs : swapsWith e (some (.Name x p')) pos.line X.env = pure false := by exact swaps_no rfl) : RSK X j k (.Assign [.Name x p'] e pos :: rest) ρ ρ2 := .mk fun B F0 F H σ D S ka q =>
  PSsw (pss_cons ps_w pss_w) (PSw (ps_set hN hi (storeOk_loc hx) pe_w hs (storeOk_fn hx)) (he.run B F0 F H σ _ S ka fun v G H' as g ok n => hr.run B F0 G H' _ D (S.setNew g i ok n) (by
    obtain ⟨b, k1, k2⟩ := ka.up g.hh
    exact ⟨b, by rw [at_set_ne hij]; exact k1, k2⟩) fun F' H2 σ' e' S' => q F' H2 σ' (g.ff.trans e') S'))
theorem set_at {α : Type} {l : List α} {i : Nat} {a : α} (h : l[i]? = some a) : l.set i a = l := by
  apply List.ext_getElem?
  intro n
  by_cases e : i = n
  · subst e
    rw [List.getElem?_set_self (List.getElem?_eq_some_iff.mp h).1, h]
  · rw [List.getElem?_set_ne e]
theorem r_forKT {body : List Stmt} (i j : Nat) (hij : i ≠ j) (hp : PassesOwn (model X.prog X.w) X.A X.env X.xe) (hc : X.calm = true) (hN : X.N.Nodup) (enc : List (Names × PyData) → Env') (e1 : ∀ pre, (enc pre)[i]? = some (.ext (ODT kvs))) (e2 : ∀ pre, (enc pre)[j]? = some .un)
    (turn : ∀ pre q post, kvs = pre ++ q :: post → ∀ d od vs, RSK X j q.1 body ((enc pre).set i (.ext (FDT d od vs kvs))) ((enc (pre ++ [q])).set i (.ext (FDT d od vs kvs))))
    (hi : X.N[i]? = some y := by rfl) (hj : X.N[j]? = some z := by rfl) (hv : nameOk X.env.scope y = true := by kernel_rfl) (hx : storeOk X.env.scope (X.fn z) z = true := by kernel_rfl) (hs : ∀ x, foldedSetIterable (.Name y pn) X.env x = pure x := by intro _; rfl) :
    R1 X (.For (.Name z pz) (.Name y pn) body [] pos) (enc []) (.nx (enc kvs)) := .mk fun B F0 F H σ D S q => by
  obtain ⟨as, ⟨v0, ev, a, vs, rfl, rfl, hH, hK⟩, n, ch⟩ := S.change (e1 [])
  have n0 := n a (by simp)
  have hl : vs.length = kvs.length := Mx.Paired.len hK
  refine PSw (ps_lock (ps_for hp hc (pi_keys (pv i hi (nameOk_vis hv) (nameOk_d hv) (nameOk_c hv))) pg_w pss_w hs)) ⟨a, .dT vs, hH, True.intro, fun od => ?_⟩
  have S1 : Sl X.K B F0 F (upd H a (.frz od (.dT vs))) σ ((enc []).set i (.ext (FDT a od vs kvs))) := ch F (upd H a (.frz od (.dT vs))) [a] (.ext (FDT a od vs kvs)) (Ex.refl F) (S.ex.mut n0.1) (fun b o nb e => by rw [upd_ne (by simpa using nb)]; exact e) (fun _ _ => rfl) (fun b hb => by
    have eb : b = a := by simpa using hb
    subst eb
    exact ⟨.inl (by simp), n0.1, by rw [upd_same]; intro z; cases z⟩) ⟨_, ev, rfl, rfl, upd_same, hK⟩
  refine ⟨.ref a, at_get ev, a, od, rfl, .inr ⟨vs, upd_same, ?_⟩⟩
  refine ⟨fun t m σ' H' => m = kvs.length - t ∧ t ≤ kvs.length ∧ ∃ Fc, Ex F Fc ∧ Sl X.K B F0 Fc H' σ' ((enc (kvs.take t)).set i (.ext (FDT a od vs kvs))), ⟨kvs.length, by omega, Nat.zero_le _, F, Ex.refl F, by rw [List.take_zero]; exact S1⟩, ?_⟩
  rintro t m σ' H' ⟨rfl, htl, Fc, ec, Sc⟩
  have hlen : ∀ pre, i < (enc pre).length := fun pre => (List.getElem?_eq_some_iff.mp (e1 pre)).1
  have gi : ∀ pre, ((enc pre).set i (.ext (FDT a od vs kvs)))[i]? = some (.ext (FDT a od vs kvs)) := fun pre => List.getElem?_set_self (hlen pre)
  obtain ⟨s1, s2, s3⟩ := Sc.fdt (gi _)
  by_cases hlt : t < kvs.length
  · refine .inr ⟨(walk_keysT (kvs := vs)).goes t H' (by omega) s2, fun σ' H' => t + 1 ≤ kvs.length ∧ ∃ Fc, Ex F Fc ∧ Sl X.K B F0 Fc H' σ' ((enc (kvs.take (t + 1))).set i (.ext (FDT a od vs kvs))), fun σ' H' hh => ⟨kvs.length - (t + 1), by omega, rfl, hh.1, hh.2⟩, fun x H'' y => ?_⟩
    obtain ⟨rfl, k0, v1, b, ek, rfl, hq⟩ := (walk_keysT (kvs := vs)).yields t H' x H'' (by omega) s2 y
    have hk0 : k0 = tKey kvs[t].1 := by
      obtain ⟨w2, g1, g2⟩ := Mx.Paired.getR s3 t _ (List.getElem?_eq_getElem hlt)
      rw [ek] at g1
      cases g1
      exact g2.1
    subst hk0
    have hj2 : ((enc (kvs.take t)).set i (.ext (FDT a od vs kvs)))[j]? = some .un := by rw [List.getElem?_set_ne hij]; exact e2 _
    have Sx := Sc.setUn j (some (.ref b))
    rw [set_at hj2] at Sx
    have hjl : j < σ'.length := by rw [Sc.len]; exact (List.getElem?_eq_some_iff.mp hj2).1
    refine PGw (pg_name hN hj (storeOk_loc hx) (storeOk_fn hx)) ?_
    refine (turn (kvs.take t) kvs[t] (kvs.drop (t + 1)) (by rw [List.getElem_cons_drop, List.take_append_drop]) a od vs).run B F0 Fc _ _ _ Sx ⟨b, at_set_same hjl, hq⟩ fun F3 H3 σ3 e3 S3 => ⟨hlt, F3, ec.trans e3, ?_⟩
    rw [List.take_succ_eq_append_getElem hlt]
    exact S3
  · have et : t = kvs.length := by omega
    subst et
    rw [List.take_length] at Sc
    obtain ⟨as2, ⟨v2, ev2, rfl, rfl, hH2, hK2⟩, n2, ch2⟩ := Sc.change (gi kvs)
    have n3 := n2 a (by simp)
    refine .inl ⟨by have := (walk_keysT (kvs := vs)).stops H' s2; rw [hl] at this; exact this, s2, ?_⟩
    have S4 := ch2 Fc (upd H' a (.dT vs)) [a] (.ext (ODT kvs)) (Ex.refl Fc) (Sc.ex.mut n3.1) (fun b o nb e => by rw [upd_ne (by simpa using nb)]; exact e) (fun _ _ => rfl) (fun b hb => by
      have eb : b = a := by simpa using hb
      subst eb
      exact ⟨.inl (by simp), n3.1, by rw [upd_same]; intro z; cases z⟩) ⟨_, ev2, a, vs, rfl, rfl, upd_same, hK2⟩
    rw [List.set_set, set_at (e1 kvs)] at S4
    exact q Fc _ σ' ec S4
end
end Mx

set_option Elab.async false
set_option linter.all false
set_option maxRecDepth 100000
/-! Hm: plain facts about hearings: the voices. -/
namespace My
open PySem Mx
def vfold (l : Hear) : Names := l.foldl (fun acc p => acc ++ p.2.filter fun x => !decide (x ∈ acc)) []
def vo (h : Hear) : Names := (h.map (·.1)).filter fun n => h.any fun p => decide (n ∈ p.2)
theorem vfold_snoc (l : Hear) (p : Str × Names) : vfold (l ++ [p]) = vfold l ++ p.2.filter fun x => !decide (x ∈ vfold l) := by
  unfold vfold
  rw [List.foldl_append]
  rfl
theorem snoc_ind {α : Type} {motive : List α → Prop} (nil : motive []) (snoc : ∀ l a, motive l → motive (l ++ [a])) (l : List α) : motive l := by
  have key : ∀ r : List α, motive r.reverse := by
    intro r
    induction r with
    | nil => exact nil
    | cons a r ih => rw [List.reverse_cons]; exact snoc _ _ ih
  have := key l.reverse
  rwa [List.reverse_reverse] at this
theorem vfold_mem (l : Hear) (x : Str) : x ∈ vfold l ↔ ∃ p ∈ l, x ∈ p.2 := by
  induction l using snoc_ind with
  | nil => simp [vfold]
  | snoc l p ih =>
    rw [vfold_snoc, List.mem_append, List.mem_filter]
    simp only [Bool.not_eq_true', decide_eq_false_iff_not, List.mem_append, List.mem_singleton]
    rw [ih]
    constructor
    · rintro (⟨q, h1, h2⟩ | ⟨h1, _⟩)
      · exact ⟨q, .inl h1, h2⟩
      · exact ⟨p, .inr rfl, h1⟩
    · rintro ⟨q, h1 | rfl, h2⟩
      · exact .inl ⟨q, h1, h2⟩
      · by_cases h : ∃ q ∈ l, x ∈ q.2
        · exact .inl h
        · exact .inr ⟨h2, h⟩
theorem vfold_nodup (l : Hear) (h : ∀ p ∈ l, p.2.Nodup) : (vfold l).Nodup := by
  induction l using snoc_ind with
  | nil => exact List.nodup_nil
  | snoc l p ih =>
    rw [vfold_snoc]
    refine List.nodup_append.mpr ⟨ih fun q hq => h q (List.mem_append_left _ hq), List.Pairwise.filter _ (h p (by simp)), fun a ha b hb => ?_⟩
    rintro rfl
    have := (List.mem_filter.mp hb).2
    simp at this
    exact this ha
theorem rising_ext {a b : Names} (ha : Rising a) (hb : Rising b) (h : ∀ x, x ∈ a ↔ x ∈ b) : a = b :=
  List.Perm.eq_of_pairwise (le := fun x y => ltS x y = true) (fun x y _ _ h1 h2 => by rw [ltS_asymm h1] at h2; cases h2) ha hb ((List.perm_ext_iff_of_nodup (rising_nodup ha) (rising_nodup hb)).mpr h)
section
variable {z : Str} {h : Hear}
theorem vo_rising (V : Valid z h) : Rising (vo h) := List.Pairwise.filter _ V.ri
theorem vo_nodup (V : Valid z h) : (vo h).Nodup := rising_nodup (vo_rising V)
theorem vo_mem (V : Valid z h) {x : Str} : x ∈ vo h ↔ ∃ p ∈ h, x ∈ p.2 := by
  unfold vo
  rw [List.mem_filter]
  simp only [List.any_eq_true, decide_eq_true_eq]
  constructor
  · exact fun q => q.2
  · rintro ⟨p, hp, hx⟩
    exact ⟨(V.ot p hp).2.2 x hx, p, hp, hx⟩
theorem vo_len (V : Valid z h) : (vo h).length ≤ 7 := by
  unfold vo
  refine Nat.le_trans (List.length_filter_le _ _) ?_
  rw [List.length_map]
  exact V.len
theorem vo_eq (V : Valid z h) : sortS (vfold h) = vo h := by
  have hn : (vfold h).Nodup := vfold_nodup h fun p hp => rising_nodup (V.ot p hp).2.1
  refine rising_ext (sortS_rising hn) (vo_rising V) fun x => ?_
  rw [(sortS_perm _).mem_iff, vfold_mem, vo_mem V]
theorem vfold_len (V : Valid z h) {l : Hear} (hl : ∀ p ∈ l, p ∈ h) : (vfold l).length ≤ 7 := by
  have h1 : (vfold l).Nodup := vfold_nodup l fun p hp => rising_nodup (V.ot p (hl p hp)).2.1
  refine Nat.le_trans (List.Nodup.length_le_of_subset h1 fun x hx => ?_) (vo_len V)
  obtain ⟨p, hp, hx⟩ := (vfold_mem l x).mp hx
  exact (vo_mem V).mpr ⟨p, hl p hp, hx⟩
end
/-- what one hears -/
def heard (h : Hear) (n : Str) : Names := ((h.filter fun y => decide (y.1 = n)).map (·.2)).headD []
theorem heard_get {h : Hear} {n : Str} (hn : n ∈ h.map (·.1)) : ((h.filter fun y => decide (y.1 = n)).map (·.2))[0]? = some (heard h n) := by
  unfold heard
  have : n ∈ (h.filter fun y => decide (y.1 = n)).map (·.1) := by
    obtain ⟨y, hy, e⟩ := List.mem_map.mp hn
    exact List.mem_map.mpr ⟨y, List.mem_filter.mpr ⟨hy, by simpa using e⟩, e⟩
  revert this
  generalize h.filter (fun y => decide (y.1 = n)) = g
  cases g with
  | nil => intro z; cases z
  | cons a r => intro _; rfl
theorem nd_first {h : Hear} (hn : (h.map (·.1)).Nodup) {p : Str × Names} (hp : p ∈ h) : h.filter (fun y => decide (y.1 = p.1)) = [p] := by
  induction h with
  | nil => cases hp
  | cons q r ih =>
    obtain ⟨h1, h2⟩ := List.nodup_cons.mp (show (q.1 :: r.map (·.1)).Nodup from hn)
    rcases List.mem_cons.mp hp with rfl | hp
    · rw [List.filter_cons, if_pos (by simp)]
      congr 1
      refine List.filter_eq_nil_iff.mpr fun y hy e => h1 ?_
      exact List.mem_map.mpr ⟨y, hy, by simpa using e⟩
    · rw [List.filter_cons, if_neg, ih h2 hp]
      intro e
      exact h1 (List.mem_map.mpr ⟨p, hp, (by simpa using e : q.1 = p.1).symm⟩)
theorem heard_of {h : Hear} (hn : (h.map (·.1)).Nodup) {p : Str × Names} (hp : p ∈ h) : heard h p.1 = p.2 := by
  unfold heard
  rw [nd_first hn hp]
  rfl
end My

set_option Elab.async false
set_option linter.all false
set_option maxRecDepth 100000
/-! Pm: plain facts about steps, values, what is told and due. -/
namespace My
open PySem Mx
def ADD : Str := "add"
def OFF : Str := "off"
def stepF (f : List Int) (s : Stp) : List Int := f ++ [if s.1 = ADD then f.getD s.2.1.toNat 0 + f.getD s.2.2.toNat 0 else f.getD s.2.1.toNat 0 - f.getD s.2.2.toNat 0]
def valF (sp : List Int) (st : List Stp) : List Int := st.foldl stepF sp
def StepsOk (many : Nat) (st : List Stp) : Prop := ∀ i s, st[i]? = some s → 0 ≤ s.2.1 ∧ s.2.1 < ((many + i : Nat) : Int) ∧ 0 ≤ s.2.2 ∧ s.2.2 < ((many + i : Nat) : Int)
theorem valF_snoc (sp : List Int) (st : List Stp) (s : Stp) : valF sp (st ++ [s]) = stepF (valF sp st) s := by
  unfold valF
  rw [List.foldl_append]
  rfl
theorem valF_len (sp : List Int) (st : List Stp) : (valF sp st).length = sp.length + st.length := by
  induction st using snoc_ind with
  | nil => rfl
  | snoc l s ih =>
    rw [valF_snoc]
    unfold stepF
    rw [List.length_append, ih, List.length_append, List.length_singleton, List.length_singleton]
    omega
theorem StepsOk.at {many : Nat} {pre post : List Stp} {s : Stp} (h : StepsOk many (pre ++ s :: post)) : 0 ≤ s.2.1 ∧ s.2.1 < ((many + pre.length : Nat) : Int) ∧ 0 ≤ s.2.2 ∧ s.2.2 < ((many + pre.length : Nat) : Int) := h pre.length s (by simp)
theorem StepsOk.pre {many : Nat} {pre post : List Stp} (h : StepsOk many (pre ++ post)) : StepsOk many pre := fun i s e => h i s (by rw [List.getElem?_append_left (List.getElem?_eq_some_iff.mp e).1]; exact e)
def EndsOk (most : Nat) (en : List (Option Int)) : Prop := ∀ i : Int, some i ∈ en → 0 ≤ i ∧ i < (most : Int)
def dlook (vs : Names) (sp : List Int) (x : Str) : Int := ((vs.zip sp).lookup x).getD 0
theorem look_dz {x : Str} : ∀ {vs : Names} {sp : List Int}, sp.length = vs.length → x ∈ vs → (vs.zip (sp.map PyData.int)).lookup x = some (.int (dlook vs sp x))
  | v :: vs, i :: sp, hl, h => by
    unfold dlook
    rw [List.map_cons, List.zip_cons_cons, List.zip_cons_cons, List.lookup_cons, List.lookup_cons]
    by_cases e : x = v
    · subst e
      simp only [beq_self_eq_true]
      rfl
    · have e' : (x == v) = false := by simpa using e
      rw [e']
      have h' : x ∈ vs := by
        rcases List.mem_cons.mp h with z | z
        · exact absurd z e
        · exact z
      exact look_dz (by simpa using hl) h'
def dueF (h : Hear) (n : Str) (sp : List Int) : Int := ((heard h n).map (dlook (vo h) sp)).sum
def endF (h : Hear) (en : List (Option Int)) (n : Str) : Option Int := en.getD ((h.map (·.1)).idxOf n) none
def toldF (h : Hear) (st : List Stp) (en : List (Option Int)) (n : Str) (sp : List Int) : Int :=
  match endF h en n with
  | none => 0
  | some i => (valF sp st).getD i.toNat 0
def unitF (many pl : Nat) : List Int := (List.range many).map fun i => if pl = i then 1 else 0
theorem unitF_len (many pl : Nat) : (unitF many pl).length = many := by unfold unitF; rw [List.length_map, List.length_range]
def wrongF (h : Hear) (st : List Stp) (en : List (Option Int)) : Option (Str × List Int) :=
  h.findSome? fun p => (List.range (vo h).length).findSome? fun pl => if toldF h st en p.1 (unitF (vo h).length pl) = dueF h p.1 (unitF (vo h).length pl) then none else some (p.1, unitF (vo h).length pl)
def dW : Option (Str × List Int) → PyData
  | none => .none
  | some (n, sp) => .tuple [.str n, dZ sp]
theorem heard_sub {z : Str} {h : Hear} (V : Valid z h) {n x : Str} (hn : n ∈ h.map (·.1)) (hx : x ∈ heard h n) : x ∈ vo h := by
  obtain ⟨p, hp, rfl⟩ := List.mem_map.mp hn
  rw [heard_of (rising_nodup V.ri) hp] at hx
  exact (vo_mem V).mpr ⟨p, hp, hx⟩
end My

set_option Elab.async false
set_option linter.all false
set_option maxRecDepth 100000
/-! Pl: plain mirrors of what makes a plan. -/
namespace My
open PySem Mx
def stepOkB (m : Int) (q : Stp × Nat) : Bool := decide (q.1.1 ∈ ([ADD, OFF] : Names)) && (decide (0 ≤ q.1.2.1) && decide (q.1.2.1 < m + (q.2 : Nat))) && (decide (0 ≤ q.1.2.2) && decide (q.1.2.2 < m + (q.2 : Nat)))
def areStepsF (m : Int) (st : List Stp) : Bool := st.zipIdx.all (stepOkB m)
def endOkB (most : Int) : Option Int → Bool
  | none => true
  | some i => decide (0 ≤ i) && decide (i < most)
def areEndsF (m most : Int) (en : List (Option Int)) : Bool := decide ((en.length : Int) = m) && en.all (endOkB most)
def ulStep (acc : List Names) (p : Str × Names) : List Names := if (!decide (p.2 = []) && !decide (p.2 ∈ acc)) = true then acc ++ [p.2] else acc
def ulF (l : Hear) : List Names := l.foldl ulStep []
theorem ulF_snoc (l : Hear) (p : Str × Names) : ulF (l ++ [p]) = ulStep (ulF l) p := by
  unfold ulF
  rw [List.foldl_append]
  rfl
theorem ulF_len (l : Hear) : (ulF l).length ≤ l.length := by
  induction l using snoc_ind with
  | nil => exact Nat.le_refl _
  | snoc l p ih =>
    rw [ulF_snoc, List.length_append, List.length_singleton]
    unfold ulStep
    split
    · rw [List.length_append, List.length_singleton]; omega
    · omega
theorem ulF_mem (l : Hear) (o : Names) : o ∈ ulF l ↔ o ≠ [] ∧ ∃ p ∈ l, p.2 = o := by
  induction l using snoc_ind with
  | nil => simp [ulF]
  | snoc l p ih =>
    rw [ulF_snoc]
    unfold ulStep
    by_cases h1 : p.2 = []
    · rw [if_neg (by simp [h1]), ih]
      constructor
      · rintro ⟨h2, q, h3, h4⟩; exact ⟨h2, q, List.mem_append_left _ h3, h4⟩
      · rintro ⟨h2, q, h3, h4⟩
        rcases List.mem_append.mp h3 with h3 | h3
        · exact ⟨h2, q, h3, h4⟩
        · rw [List.mem_singleton] at h3
          subst h3
          exact absurd (h4.symm.trans h1) h2
    · by_cases h2 : p.2 ∈ ulF l
      · rw [if_neg (by simp [h2]), ih]
        constructor
        · rintro ⟨h3, q, h4, h5⟩; exact ⟨h3, q, List.mem_append_left _ h4, h5⟩
        · rintro ⟨h3, q, h4, h5⟩
          rcases List.mem_append.mp h4 with h4 | h4
          · exact ⟨h3, q, h4, h5⟩
          · rw [List.mem_singleton] at h4
            subst h4
            subst h5
            exact ih.mp h2
      · rw [if_pos (by simp [h1, h2]), List.mem_append, List.mem_singleton, ih]
        constructor
        · rintro (⟨h3, q, h4, h5⟩ | rfl)
          · exact ⟨h3, q, List.mem_append_left _ h4, h5⟩
          · exact ⟨h1, p, by simp, rfl⟩
        · rintro ⟨h3, q, h4, h5⟩
          rcases List.mem_append.mp h4 with h4 | h4
          · exact .inl ⟨h3, q, h4, h5⟩
          · rw [List.mem_singleton] at h4
            subst h4
            exact .inr h5.symm
def waysF (h : Hear) : Int × Int :=
  (((ulF h).map fun o => (o.length : Int) - 1).sum, max 0 (((vo h).length : Int) - 1) + ((ulF h).map fun o => min ((o.length : Int) - 1) (((vo h).length : Int) - o.length)).sum)
/-! ### additions -/
def moreStep (k : Str) (many : Int) (s : List Stp × Int) (place : Int) : List Stp × Int := (s.1 ++ [(k, s.2, place)], many + ((s.1.length : Int) + 1) - 1)
def moreF (k : Str) (many : Int) (pls : List Int) (s : List Stp × Int) : List Stp × Int := pls.foldl (moreStep k many) s
def addF (many : Int) (pls : List Int) (st : List Stp) : List Stp × Int := moreF ADD many pls.tail (st, pls.headD 0)
theorem moreF_snoc (k : Str) (many : Int) (pls : List Int) (s : List Stp × Int) (p : Int) : moreF k many (pls ++ [p]) s = moreStep k many (moreF k many pls s) p := by
  unfold moreF
  rw [List.foldl_append]
  rfl
theorem moreF_len (k : Str) (many : Int) (pls : List Int) (s : List Stp × Int) : (moreF k many pls s).1.length = s.1.length + pls.length := by
  induction pls using snoc_ind with
  | nil => rfl
  | snoc l p ih =>
    rw [moreF_snoc]
    unfold moreStep
    simp only [List.length_append, List.length_singleton, ih]
    omega
/-! ### the plan -/
def placesF (vs o : Names) : List Int := o.map fun x => ((vs.idxOf x : Nat) : Int)
def missF (m : Nat) (pls : List Int) : List Int := ((List.range m).map fun (i : Nat) => (i : Int)).filter fun i => !decide (i ∈ pls)
def oneF (m : Nat) (vs o : Names) (total : Option Int) (st : List Stp) : List Stp × Int :=
  match total with
  | some t => if (missF m (placesF vs o)).length < (placesF vs o).length then moreF OFF m (missF m (placesF vs o)) (st, t) else addF m (placesF vs o) st
  | none => addF m (placesF vs o) st
structure PS where
  st : List Stp
  kn : List (Names × Int)
  en : List (Option Int)
def planStep (m : Nat) (vs : Names) (total : Option Int) (s : PS) (p : Str × Names) : PS :=
  if p.2 = [] then ⟨s.st, s.kn, s.en ++ [none]⟩
  else match s.kn.lookup p.2 with
    | some i => ⟨s.st, s.kn, s.en ++ [some i]⟩
    | none => ⟨(oneF m vs p.2 total s.st).1, s.kn ++ [(p.2, (oneF m vs p.2 total s.st).2)], s.en ++ [some (oneF m vs p.2 total s.st).2]⟩
def total0 (h : Hear) : List Stp × Option Int :=
  if (waysF h).2 < (waysF h).1 then ((addF (vo h).length ((List.range (vo h).length).map fun (i : Nat) => (i : Int)) []).1, some (addF (vo h).length ((List.range (vo h).length).map fun (i : Nat) => (i : Int)) []).2) else ([], none)
def planS (h l : Hear) : PS := l.foldl (planStep (vo h).length (vo h) (total0 h).2) ⟨(total0 h).1, [], []⟩
theorem planS_snoc (h l : Hear) (p : Str × Names) : planS h (l ++ [p]) = planStep (vo h).length (vo h) (total0 h).2 (planS h l) p := by
  unfold planS
  rw [List.foldl_append]
  rfl
def planF (h : Hear) : List Stp × List (Option Int) := ((planS h h).st, (planS h h).en)
theorem missF_len (m : Nat) (pls : List Int) : (missF m pls).length ≤ m := by
  unfold missF
  refine Nat.le_trans (List.length_filter_le _ _) ?_
  rw [List.length_map, List.length_range]
  exact Nat.le_refl _
theorem addF_len (many : Int) (pls : List Int) (st : List Stp) : (addF many pls st).1.length = st.length + (pls.length - 1) := by
  unfold addF
  rw [moreF_len, List.length_tail]
theorem oneF_len (m : Nat) (vs o : Names) (total : Option Int) (st : List Stp) (hm : m ≤ 7) (ho : o.length ≤ 7) : (oneF m vs o total st).1.length ≤ st.length + 7 := by
  have hp : (placesF vs o).length = o.length := by unfold placesF; rw [List.length_map]
  unfold oneF
  have h2 := missF_len m (placesF vs o)
  split
  · split
    · rw [moreF_len]; simp only; omega
    · rw [addF_len]; omega
  · rw [addF_len]; omega
theorem total0_len {z : Str} {h : Hear} (V : Valid z h) : (total0 h).1.length ≤ 6 := by
  have := vo_len V
  unfold total0
  split
  · simp only
    rw [addF_len, List.length_map, List.length_range]
    simp only [List.length_nil]
    omega
  · exact Nat.zero_le _
theorem planS_len {z : Str} {h : Hear} (V : Valid z h) {l : Hear} (hl : ∀ p ∈ l, p ∈ h) : (planS h l).st.length ≤ 6 + 7 * l.length ∧ (planS h l).en.length = l.length ∧ (planS h l).kn.length ≤ l.length := by
  induction l using snoc_ind with
  | nil => exact ⟨total0_len V, rfl, Nat.le_refl _⟩
  | snoc l p ih =>
    obtain ⟨i1, i2, i3⟩ := ih fun q hq => hl q (List.mem_append_left _ hq)
    have ho := V.olen (hl p (by simp))
    have h1 := oneF_len (vo h).length (vo h) p.2 (total0 h).2 (planS h l).st (vo_len V) ho
    rw [planS_snoc, List.length_append, List.length_singleton]
    unfold planStep
    split
    · simp only [List.length_append, List.length_singleton]; omega
    · split
      · simp only [List.length_append, List.length_singleton]; omega
      · simp only [List.length_append, List.length_singleton]; omega
theorem many_pos {z : Str} {h : Hear} (V : Valid z h) (hw : (waysF h).2 < (waysF h).1) : 0 < (vo h).length := by
  rcases Nat.eq_zero_or_pos (vo h).length with e | e
  · exfalso
    have hu : ulF h = [] := by
      apply List.eq_nil_iff_forall_not_mem.mpr
      intro o ho
      obtain ⟨h1, p, hp, rfl⟩ := (ulF_mem h o).mp ho
      cases q : p.2 with
      | nil => exact h1 q
      | cons x r =>
        have : x ∈ vo h := (vo_mem V).mpr ⟨p, hp, by rw [q]; exact List.mem_cons_self⟩
        rw [List.length_eq_zero_iff.mp e] at this
        cases this
    unfold waysF at hw
    rw [hu, e] at hw
    simp at hw
    omega
  · exact e
end My

set_option Elab.async false
set_option linter.all false
set_option maxRecDepth 100000
/-! Pk: what the checks of steps and ends mean. -/
namespace My
open PySem Mx
theorem areSteps_ok {m : Nat} {st : List Stp} (h : areStepsF m st = true) : StepsOk m st := fun i s e => by
  unfold areStepsF at h
  have hm : (s, i) ∈ st.zipIdx := List.mem_zipIdx_iff_getElem?.mpr (by simpa using e)
  have := List.all_eq_true.mp h _ hm
  unfold stepOkB at this
  simp only [Bool.and_eq_true, decide_eq_true_eq] at this
  obtain ⟨⟨_, h1, h2⟩, h3, h4⟩ := this
  exact ⟨h1, by omega, h3, by omega⟩
theorem areEnds_ok {m most : Nat} {en : List (Option Int)} (h : areEndsF m most en = true) : en.length = m ∧ EndsOk most en := by
  unfold areEndsF at h
  simp only [Bool.and_eq_true, decide_eq_true_eq] at h
  refine ⟨by omega, fun i hi => ?_⟩
  have := List.all_eq_true.mp h.2 _ hi
  unfold endOkB at this
  simp only [Bool.and_eq_true, decide_eq_true_eq] at this
  exact this
end My

set_option Elab.async false
set_option linter.all false
set_option maxRecDepth 100000
/-! Rm: counts, and that both reckonings agree. -/
namespace My
open PySem Mx
def sgn (k : Str) : Int := if k = ADD then 1 else -1
def cStep (f : List (List Int)) (s : Stp) : List (List Int) := f ++ [List.zipWith (fun m t => m + sgn s.1 * t) (f.getD s.2.1.toNat []) (f.getD s.2.2.toNat [])]
def unitRow (m a : Nat) : List Int := (List.range m).map fun p => if p = a then 1 else 0
def countsF (m : Nat) (st : List Stp) : List (List Int) := st.foldl cStep ((List.range m).map (unitRow m))
theorem countsF_snoc (m : Nat) (st : List Stp) (s : Stp) : countsF m (st ++ [s]) = cStep (countsF m st) s := by
  unfold countsF
  rw [List.foldl_append]
  rfl
theorem countsF_len (m : Nat) (st : List Stp) : (countsF m st).length = m + st.length := by
  induction st using snoc_ind with
  | nil => unfold countsF; rw [List.foldl_nil, List.length_map, List.length_range]; rfl
  | snoc l s ih =>
    rw [countsF_snoc]
    unfold cStep
    rw [List.length_append, ih, List.length_append, List.length_singleton, List.length_singleton]
    omega
theorem StepsOk.snoc {m : Nat} {l : List Stp} {s : Stp} (h : StepsOk m (l ++ [s])) : StepsOk m l ∧ s.2.1.toNat < m + l.length ∧ s.2.2.toNat < m + l.length := by
  have a := StepsOk.at (post := []) h
  exact ⟨StepsOk.pre h, by omega, by omega⟩
theorem countsF_row {m : Nat} {st : List Stp} (h : StepsOk m st) : ∀ r ∈ countsF m st, r.length = m := by
  induction st using snoc_ind with
  | nil =>
    intro r hr
    unfold countsF at hr
    obtain ⟨a, _, rfl⟩ := List.mem_map.mp hr
    unfold unitRow
    rw [List.length_map, List.length_range]
  | snoc l s ih =>
    obtain ⟨h1, h2, h3⟩ := h.snoc
    have hl := countsF_len m l
    intro r hr
    rw [countsF_snoc] at hr
    unfold cStep at hr
    rcases List.mem_append.mp hr with hr | hr
    · exact ih h1 r hr
    · rw [List.mem_singleton] at hr
      subst hr
      rw [List.length_zipWith]
      have g : ∀ i, i < m + l.length → ((countsF m l).getD i []).length = m := fun i hi => by
        rw [List.getD_eq_getElem?_getD, List.getElem?_eq_getElem (by omega)]
        exact ih h1 _ (List.getElem_mem _)
      rw [g _ h2, g _ h3, Nat.min_self]
def dot (r sp : List Int) : Int := (List.zipWith (fun a b => a * b) r sp).sum
theorem dot_lin (k : Int) : ∀ {r q sp : List Int}, r.length = q.length → dot (List.zipWith (fun m t => m + k * t) r q) sp = dot r sp + k * dot q sp
  | [], [], sp, _ => by simp [dot]
  | a :: r, b :: q, [], _ => by simp [dot]
  | a :: r, b :: q, x :: sp, h => by
    have i := dot_lin k (r := r) (q := q) (sp := sp) (by simpa using h)
    unfold dot at i ⊢
    simp only [List.zipWith_cons_cons, List.sum_cons]
    rw [i, Int.add_mul, Int.mul_add, Int.mul_assoc]
    omega
theorem dot_unit (a : Nat) : ∀ (sp : List Int) (n : Nat), dot ((List.range' n sp.length).map fun p => if p = n + a then 1 else 0) sp = sp.getD a 0 := by
  induction a with
  | zero =>
    intro sp n
    cases sp with
    | nil => rfl
    | cons x sp =>
      have hz : ∀ (sp : List Int) (k : Nat), n < k → dot ((List.range' k sp.length).map fun p => if p = n then 1 else 0) sp = 0 := by
        intro sp
        induction sp with
        | nil => intro k _; rfl
        | cons y sp ih =>
          intro k hk
          have := ih (k + 1) (by omega)
          unfold dot at this ⊢
          rw [List.length_cons, List.range'_succ, List.map_cons, List.zipWith_cons_cons, List.sum_cons, this, if_neg (by omega)]
          simp
      have := hz sp (n + 1) (by omega)
      unfold dot at this ⊢
      rw [List.length_cons, List.range'_succ, List.map_cons, List.zipWith_cons_cons, List.sum_cons]
      simp only [Nat.add_zero]
      rw [this]
      simp
  | succ a ih =>
    intro sp n
    cases sp with
    | nil => rfl
    | cons x sp =>
      have := ih sp (n + 1)
      have e : n + 1 + a = n + (a + 1) := by omega
      rw [e] at this
      unfold dot at this ⊢
      rw [List.length_cons, List.range'_succ, List.map_cons, List.zipWith_cons_cons, List.sum_cons, this, if_neg (by omega)]
      simp
theorem dot_unitRow (sp : List Int) (a : Nat) : dot (unitRow sp.length a) sp = sp.getD a 0 := by
  have := dot_unit a sp 0
  rw [Nat.zero_add, ← List.range_eq_range'] at this
  exact this
theorem dot_comm : ∀ (r sp : List Int), dot r sp = dot sp r
  | [], sp => by simp [dot]
  | a :: r, [] => by simp [dot]
  | a :: r, b :: sp => by
    have := dot_comm r sp
    unfold dot at this ⊢
    simp only [List.zipWith_cons_cons, List.sum_cons]
    rw [this, Int.mul_comm]
/-- the values are the counts' sums -/
theorem val_count {sp : List Int} {st : List Stp} (h : StepsOk sp.length st) : ∀ i, i < sp.length + st.length → (valF sp st).getD i 0 = dot ((countsF sp.length st).getD i []) sp := by
  induction st using snoc_ind with
  | nil =>
    intro i hi
    have hi' : i < sp.length := by simpa using hi
    show sp.getD i 0 = dot (((List.range sp.length).map (unitRow sp.length)).getD i []) sp
    rw [List.getD_eq_getElem?_getD (l := (List.range sp.length).map (unitRow sp.length)), List.getElem?_map, List.getElem?_range hi']
    exact (dot_unitRow sp i).symm
  | snoc l s ih =>
    obtain ⟨h1, h2, h3⟩ := h.snoc
    intro i hi
    have hl := countsF_len sp.length l
    have hv := valF_len sp l
    rw [List.length_append, List.length_singleton] at hi
    rw [valF_snoc, countsF_snoc]
    unfold stepF cStep
    have row : ∀ j, j < sp.length + l.length → ((countsF sp.length l).getD j []).length = sp.length := fun j hj => by
      rw [List.getD_eq_getElem?_getD, List.getElem?_eq_getElem (by omega)]
      exact countsF_row h1 _ (List.getElem_mem _)
    by_cases hlt : i < sp.length + l.length
    · rw [List.getD_eq_getElem?_getD, List.getD_eq_getElem?_getD (l := countsF _ _ ++ _), List.getElem?_append_left (by omega), List.getElem?_append_left (by omega), ← List.getD_eq_getElem?_getD, ← List.getD_eq_getElem?_getD]
      exact ih h1 i hlt
    · have ei : i = sp.length + l.length := by omega
      subst ei
      rw [List.getD_eq_getElem?_getD, List.getD_eq_getElem?_getD (l := countsF _ _ ++ _), List.getElem?_append_right (by omega), List.getElem?_append_right (by omega), hv, hl, Nat.sub_self]
      simp only [List.getElem?_cons_zero, Option.getD_some]
      rw [dot_lin _ (by rw [row _ h2, row _ h3]), ih h1 _ h2, ih h1 _ h3]
      unfold sgn
      by_cases hk : s.1 = ADD
      · rw [if_pos hk, if_pos hk]; omega
      · rw [if_neg hk, if_neg hk]; omega
def givenF (h : Hear) (st : List Stp) (en : List (Option Int)) (n : Str) (sp : List Int) : Int :=
  match endF h en n with
  | none => 0
  | some i => dot ((countsF sp.length st).getD i.toNat []) sp
theorem endF_mem {h : Hear} {en : List (Option Int)} {n : Str} (hn : n ∈ h.map (·.1)) (he : en.length = h.length) : endF h en n ∈ en := by
  have hi : (h.map (·.1)).idxOf n < (h.map (·.1)).length := (List.getElem?_eq_some_iff.mp (idx_first hn).1).1
  rw [List.length_map] at hi
  unfold endF
  rw [List.getD_eq_getElem?_getD, List.getElem?_eq_getElem (by omega)]
  exact List.getElem_mem _
theorem told_given {h : Hear} {st : List Stp} {en : List (Option Int)} {n : Str} {sp : List Int} (hn : n ∈ h.map (·.1)) (he : en.length = h.length) (hs : StepsOk sp.length st) (hE : EndsOk (sp.length + st.length) en) : toldF h st en n sp = givenF h st en n sp := by
  have hm := endF_mem hn he
  unfold toldF givenF
  generalize endF h en n = o at hm
  cases o with
  | none => rfl
  | some i =>
    obtain ⟨i0, i1⟩ := hE i hm
    exact val_count hs _ (by omega)
end My

set_option Elab.async false
set_option linter.all false
set_option maxRecDepth 100000
/-! Rn: what is due, told two ways; right plans. -/
namespace My
open PySem Mx
def ldueF (h : Hear) (n : Str) (sp : List Int) : Int := ((((vo h).zip sp).filter fun q => decide (q.1 ∈ heard h n)).map (·.2)).sum
theorem zip_look : ∀ {xs : Names} {sp : List Int}, xs.Nodup → sp.length = xs.length → xs.zip sp = xs.map fun v => (v, dlook xs sp v)
  | [], [], _, _ => rfl
  | x :: xs, y :: sp, hn, hl => by
    obtain ⟨h1, h2⟩ := List.nodup_cons.mp hn
    rw [List.zip_cons_cons, List.map_cons]
    have e0 : dlook (x :: xs) (y :: sp) x = y := by
      unfold dlook
      rw [List.zip_cons_cons, List.lookup_cons]
      simp
    rw [e0]
    congr 1
    rw [zip_look h2 (by simpa using hl)]
    apply List.map_congr_left
    intro v hv
    have e : v ≠ x := fun e => h1 (e ▸ hv)
    congr 1
    unfold dlook
    rw [List.zip_cons_cons, List.lookup_cons]
    have e' : (v == x) = false := by simpa using e
    rw [e', zip_look h2 (by simpa using hl)]
theorem sum_perm {l m : List Int} (h : l.Perm m) : l.sum = m.sum := by
  induction h with
  | nil => rfl
  | cons x _ ih => rw [List.sum_cons, List.sum_cons, ih]
  | swap x y l => simp only [List.sum_cons]; omega
  | trans _ _ i1 i2 => exact i1.trans i2
theorem due_eq {z : Str} {h : Hear} (V : Valid z h) {n : Str} {sp : List Int} (hn : n ∈ h.map (·.1)) (hl : sp.length = (vo h).length) : dueF h n sp = ldueF h n sp := by
  unfold dueF ldueF
  rw [zip_look (vo_nodup V) hl, List.filter_map, List.map_map]
  show _ = (((vo h).filter fun v => decide (v ∈ heard h n)).map (dlook (vo h) sp)).sum
  apply sum_perm
  apply List.Perm.map
  have hnd : (heard h n).Nodup := by
    obtain ⟨p, hp, rfl⟩ := List.mem_map.mp hn
    rw [heard_of (rising_nodup V.ri) hp]
    exact rising_nodup (V.ot p hp).2.1
  refine (List.perm_ext_iff_of_nodup hnd (List.Pairwise.filter _ (vo_nodup V))).mpr fun x => ?_
  rw [List.mem_filter, decide_eq_true_eq]
  exact ⟨fun q => ⟨heard_sub V hn q, q⟩, fun q => q.2⟩
theorem unit_get {m a i : Nat} (hi : i < m) : (unitF m a)[i]? = some (if a = i then 1 else 0) := by
  unfold unitF
  rw [List.getElem?_map, List.getElem?_range hi]
  rfl
theorem unit_row (m a : Nat) : unitF m a = unitRow m a := by
  unfold unitF unitRow
  apply List.map_congr_left
  intro i _
  by_cases h : a = i
  · subst h; rfl
  · rw [if_neg h, if_neg (fun e => h e.symm)]
theorem dot_unitF {r : List Int} {m a : Nat} (hr : r.length = m) : dot r (unitF m a) = r.getD a 0 := by
  subst hr
  rw [dot_comm, unit_row]
  exact dot_unitRow r a
/-- what is due of the voice at a place alone -/
theorem due_unit {z : Str} {h : Hear} (V : Valid z h) {n : Str} (hn : n ∈ h.map (·.1)) {a : Nat} (ha : a < (vo h).length) : dueF h n (unitF (vo h).length a) = if (vo h)[a] ∈ heard h n then 1 else 0 := by
  rw [due_eq V hn (unitF_len _ _)]
  unfold ldueF
  have key : ∀ (xs : Names) (k : Nat), k + xs.length = (vo h).length → ((((xs.zip (((List.range' k xs.length).map fun i => if a = i then (1 : Int) else 0))).filter fun q => decide (q.1 ∈ heard h n))).map (·.2)).sum = if k ≤ a then (if (xs.getD (a - k) "") ∈ heard h n ∧ a - k < xs.length then 1 else 0) else 0 := by
    intro xs
    induction xs with
    | nil => intro k _; simp
    | cons x xs ih =>
      intro k hk
      rw [List.length_cons, List.range'_succ, List.map_cons, List.zip_cons_cons, List.filter_cons]
      have i1 := ih (k + 1) (by rw [List.length_cons] at hk; omega)
      by_cases hka : k ≤ a
      · by_cases e : a = k
        · subst e
          rw [if_neg (by omega)] at i1
          rw [if_pos (Nat.le_refl _), Nat.sub_self]
          by_cases hx : x ∈ heard h n
          · rw [if_pos (by simpa using hx), List.map_cons, List.sum_cons, i1]
            simp [hx]
          · rw [if_neg (by simpa using hx), i1]
            simp [hx]
        · rw [if_pos (by omega)] at i1
          rw [if_pos hka]
          have e2 : a - k = (a - (k + 1)) + 1 := by omega
          rw [e2, List.getD_cons_succ]
          have hz : (if a = k then (1 : Int) else 0) = 0 := if_neg e
          by_cases hx : x ∈ heard h n
          · rw [if_pos (by simpa using hx), List.map_cons, List.sum_cons, i1]
            simp only [hz, Int.zero_add, List.length_cons, Nat.add_lt_add_iff_right]
          · rw [if_neg (by simpa using hx), i1]
            simp only [List.length_cons, Nat.add_lt_add_iff_right]
      · rw [if_neg (by omega)] at i1
        rw [if_neg hka]
        have hz : (if a = k then (1 : Int) else 0) = 0 := if_neg (by omega)
        by_cases hx : x ∈ heard h n
        · rw [if_pos (by simpa using hx), List.map_cons, List.sum_cons, i1]
          simp [hz]
        · rw [if_neg (by simpa using hx), i1]
  have k0 := key (vo h) 0 (by omega)
  unfold unitF
  rw [List.range_eq_range', k0, if_pos (Nat.zero_le _), Nat.sub_zero]
  have e : (vo h).getD a "" = (vo h)[a] := by rw [List.getD_eq_getElem?_getD, List.getElem?_eq_getElem ha]; rfl
  rw [e]
  simp [ha]
def rowOf (m : Nat) (st : List Stp) : Option Int → List Int
  | none => List.replicate m 0
  | some i => (countsF m st).getD i.toNat []
def dueRow (h : Hear) (o : Names) : List Int := (vo h).map fun v => if v ∈ o then 1 else 0
def rightF (h : Hear) (st : List Stp) (en : List (Option Int)) : Bool := (h.zip en).all fun q => decide (rowOf (vo h).length st q.2 = dueRow h q.1.2)
theorem rowOf_len {m : Nat} {st : List Stp} {e : Option Int} (hs : StepsOk m st) (hE : ∀ i, e = some i → 0 ≤ i ∧ i < ((m + st.length : Nat) : Int)) : (rowOf m st e).length = m := by
  cases e with
  | none => exact List.length_replicate
  | some i =>
    obtain ⟨i0, i1⟩ := hE i rfl
    have hl := countsF_len m st
    show ((countsF m st).getD i.toNat []).length = m
    rw [List.getD_eq_getElem?_getD, List.getElem?_eq_getElem (by omega)]
    exact countsF_row hs _ (List.getElem_mem _)
theorem given_unit {h : Hear} {st : List Stp} {en : List (Option Int)} {n : Str} {a : Nat} (hn : n ∈ h.map (·.1)) (he : en.length = h.length) (hs : StepsOk (vo h).length st) (hE : EndsOk ((vo h).length + st.length) en) :
    givenF h st en n (unitF (vo h).length a) = (rowOf (vo h).length st (endF h en n)).getD a 0 := by
  have hm := endF_mem hn he
  unfold givenF
  rw [unitF_len]
  generalize endF h en n = o at hm
  cases o with
  | none =>
    show (0 : Int) = (List.replicate _ 0).getD a 0
    rw [List.getD_eq_getElem?_getD, List.getElem?_replicate]
    split <;> rfl
  | some i =>
    exact dot_unitF (rowOf_len (e := some i) hs fun j e => by cases e; exact hE i hm)
theorem end_at {h : Hear} {en : List (Option Int)} (hn : (h.map (·.1)).Nodup) (he : en.length = h.length) {q : (Str × Names) × Option Int} (hq : q ∈ h.zip en) : q.1 ∈ h ∧ endF h en q.1.1 = q.2 := by
  obtain ⟨k, hk⟩ := List.getElem?_of_mem hq
  rw [List.getElem?_zip_eq_some] at hk
  obtain ⟨h1, h2⟩ := hk
  refine ⟨List.mem_of_getElem? h1, ?_⟩
  unfold endF
  have hkl : k < h.length := (List.getElem?_eq_some_iff.mp h1).1
  have e1 : (h.map (·.1))[k]? = some q.1.1 := by rw [List.getElem?_map, h1]; rfl
  have e2 : (h.map (·.1)).idxOf q.1.1 = k := by
    have := List.Nodup.idxOf_getElem hn k (by rw [List.length_map]; exact hkl)
    rw [List.getElem?_eq_getElem (by rw [List.length_map]; exact hkl)] at e1
    rw [Option.some.inj e1] at this
    exact this
  rw [e2, List.getD_eq_getElem?_getD, h2]
  rfl
theorem zip_all {h : Hear} {en : List (Option Int)} (he : en.length = h.length) {p : Str × Names} (hp : p ∈ h) : ∃ e, (p, e) ∈ h.zip en := by
  obtain ⟨k, hk⟩ := List.getElem?_of_mem hp
  have hkl : k < h.length := (List.getElem?_eq_some_iff.mp hk).1
  refine ⟨en[k]'(by omega), List.mem_of_getElem? (i := k) ?_⟩
  rw [List.getElem?_zip_eq_some]
  exact ⟨hk, List.getElem?_eq_getElem _⟩
theorem row_eq {h : Hear} {o : Names} {r : List Int} (hr : r.length = (vo h).length) : r = dueRow h o ↔ ∀ a (ha : a < (vo h).length), r.getD a 0 = if (vo h)[a] ∈ o then 1 else 0 := by
  unfold dueRow
  constructor
  · rintro rfl a ha
    rw [List.getD_eq_getElem?_getD, List.getElem?_map, List.getElem?_eq_getElem ha]
    rfl
  · intro q
    apply List.ext_getElem?
    intro a
    by_cases ha : a < (vo h).length
    · have := q a ha
      rw [List.getD_eq_getElem?_getD, List.getElem?_eq_getElem (by omega)] at this
      rw [List.getElem?_map, List.getElem?_eq_getElem ha, List.getElem?_eq_getElem (by omega)]
      exact congrArg some this
    · rw [List.getElem?_eq_none (by omega), List.getElem?_eq_none (by rw [List.length_map]; omega)]
section
variable {z : Str} {h : Hear} {st : List Stp} {en : List (Option Int)}
theorem told_unit (he : en.length = h.length) (hs : StepsOk (vo h).length st) (hE : EndsOk ((vo h).length + st.length) en) {n : Str} (hn : n ∈ h.map (·.1)) (a : Nat) : toldF h st en n (unitF (vo h).length a) = (rowOf (vo h).length st (endF h en n)).getD a 0 := by
  rw [told_given hn he (by rw [unitF_len]; exact hs) (by rw [unitF_len]; exact hE), given_unit hn he hs hE]
theorem wrong_right (V : Valid z h) (he : en.length = h.length) (hs : StepsOk (vo h).length st) (hE : EndsOk ((vo h).length + st.length) en) : (wrongF h st en).isNone = rightF h st en := by
  have hnd := rising_nodup V.ri
  rw [Bool.eq_iff_iff]
  unfold wrongF rightF
  rw [Option.isNone_iff_eq_none, List.findSome?_eq_none_iff, List.all_eq_true]
  constructor
  · intro q x hx
    obtain ⟨h1, h2⟩ := end_at hnd he hx
    have hn : x.1.1 ∈ h.map (·.1) := List.mem_map.mpr ⟨x.1, h1, rfl⟩
    have q1 := q x.1 h1
    rw [List.findSome?_eq_none_iff] at q1
    rw [decide_eq_true_eq, row_eq (rowOf_len hs fun i e => hE i (by rw [← e, ← h2]; exact endF_mem hn he))]
    intro a ha
    have q2 := q1 a (List.mem_range.mpr ha)
    have q3 : toldF h st en x.1.1 (unitF (vo h).length a) = dueF h x.1.1 (unitF (vo h).length a) := by
      by_cases q : toldF h st en x.1.1 (unitF (vo h).length a) = dueF h x.1.1 (unitF (vo h).length a)
      · exact q
      · rw [if_neg q] at q2; cases q2
    rw [told_unit he hs hE hn, due_unit V hn ha, h2, heard_of hnd h1] at q3
    exact q3
  · intro q p hp
    have hn : p.1 ∈ h.map (·.1) := List.mem_map.mpr ⟨p, hp, rfl⟩
    rw [List.findSome?_eq_none_iff]
    intro a ha
    have ha' := List.mem_range.mp ha
    obtain ⟨e, hz⟩ := zip_all he hp
    obtain ⟨_, h2⟩ := end_at hnd he hz
    have h2' : endF h en p.1 = e := h2
    have q1 := q _ hz
    rw [decide_eq_true_eq, row_eq (rowOf_len hs fun i e' => hE i (by
      have := endF_mem hn he
      rw [h2', (show e = some i from e')] at this
      exact this))] at q1
    rw [if_pos]
    rw [told_unit he hs hE hn, due_unit V hn ha', h2', heard_of hnd hp]
    exact q1 a ha'
def lwrongF (h : Hear) (st : List Stp) (en : List (Option Int)) (n : Str) (sp : List Int) : Bool := (decide (n ∈ h.map (·.1)) && decide (sp.length = (vo h).length)) && !decide (givenF h st en n sp = ldueF h n sp)
theorem wrong_shown (V : Valid z h) (he : en.length = h.length) (hs : StepsOk (vo h).length st) (hE : EndsOk ((vo h).length + st.length) en) {n : Str} {sp : List Int} (hw : wrongF h st en = some (n, sp)) : n ∈ h.map (·.1) ∧ (∃ a, sp = unitF (vo h).length a) ∧ lwrongF h st en n sp = true := by
  unfold wrongF at hw
  obtain ⟨p, hp, h1⟩ := List.exists_of_findSome?_eq_some hw
  obtain ⟨a, ha, h2⟩ := List.exists_of_findSome?_eq_some h1
  split at h2
  · cases h2
  · rename_i q
    cases h2
    have hn : p.1 ∈ h.map (·.1) := List.mem_map.mpr ⟨p, hp, rfl⟩
    refine ⟨hn, ⟨a, rfl⟩, ?_⟩
    unfold lwrongF
    rw [decide_eq_true hn, decide_eq_true (unitF_len _ _)]
    rw [told_given hn he (by rw [unitF_len]; exact hs) (by rw [unitF_len]; exact hE), due_eq V hn (unitF_len _ _)] at q
    simp [q]
end
end My

set_option Elab.async false
set_option linter.all false
set_option maxRecDepth 100000
/-! Ro: how great counts are. -/
namespace My
open PySem Mx
theorem natAbs_two {a b k : Int} {n : Nat} (ha : a.natAbs ≤ 2 ^ n) (hb : b.natAbs ≤ 2 ^ n) (hk : k = 1 ∨ k = -1) : (a + k * b).natAbs ≤ 2 ^ (n + 1) := by
  rw [Nat.pow_succ]
  rcases hk with rfl | rfl <;> omega
theorem count_bound {m : Nat} {st : List Stp} (h : StepsOk m st) : ∀ r ∈ countsF m st, ∀ c ∈ r, c.natAbs ≤ 2 ^ st.length := by
  induction st using snoc_ind with
  | nil =>
    intro r hr c hc
    unfold countsF at hr
    obtain ⟨a, _, rfl⟩ := List.mem_map.mp hr
    unfold unitRow at hc
    obtain ⟨p, _, rfl⟩ := List.mem_map.mp hc
    split <;> simp
  | snoc l s ih =>
    obtain ⟨h1, h2, h3⟩ := h.snoc
    have hl := countsF_len m l
    intro r hr c hc
    rw [List.length_append, List.length_singleton]
    rw [countsF_snoc] at hr
    unfold cStep at hr
    rcases List.mem_append.mp hr with hr | hr
    · exact Nat.le_trans (ih h1 r hr c hc) (Nat.pow_le_pow_right (by decide) (Nat.le_succ _))
    · rw [List.mem_singleton] at hr
      subst hr
      have g : ∀ i, i < m + l.length → ∀ c ∈ (countsF m l).getD i [], c.natAbs ≤ 2 ^ l.length := fun i hi => by
        rw [List.getD_eq_getElem?_getD, List.getElem?_eq_getElem (by omega)]
        exact ih h1 _ (List.getElem_mem _)
      obtain ⟨k, hk⟩ := List.getElem?_of_mem hc
      rw [List.getElem?_zipWith] at hk
      cases e1 : ((countsF m l).getD s.2.1.toNat [])[k]? with
      | none => rw [e1] at hk; cases hk
      | some a =>
        cases e2 : ((countsF m l).getD s.2.2.toNat [])[k]? with
        | none => rw [e1, e2] at hk; cases hk
        | some b =>
          rw [e1, e2] at hk
          cases hk
          exact natAbs_two (g _ h2 a (List.mem_of_getElem? e1)) (g _ h3 b (List.mem_of_getElem? e2)) (by unfold sgn; split <;> simp)
end My

set_option Elab.async false
set_option linter.all false
set_option maxRecDepth 100000
/-! Bt: kinds of a plan's steps; plans bent at one place. -/
namespace My
open PySem Mx
def KindsOk (st : List Stp) : Prop := ∀ s ∈ st, s.1 = ADD ∨ s.1 = OFF
theorem moreF_kinds {k : Str} (hk : k = ADD ∨ k = OFF) {many : Int} {pls : List Int} {s : List Stp × Int} (h : KindsOk s.1) : KindsOk (moreF k many pls s).1 := by
  induction pls using snoc_ind with
  | nil => exact h
  | snoc l p ih =>
    rw [moreF_snoc]
    unfold moreStep
    intro x hx
    rcases List.mem_append.mp hx with hx | hx
    · exact ih x hx
    · rw [List.mem_singleton] at hx
      subst hx
      exact hk
theorem addF_kinds {many : Int} {pls : List Int} {st : List Stp} (h : KindsOk st) : KindsOk (addF many pls st).1 := moreF_kinds (.inl rfl) h
theorem oneF_kinds {m : Nat} {vs o : Names} {total : Option Int} {st : List Stp} (h : KindsOk st) : KindsOk (oneF m vs o total st).1 := by
  unfold oneF
  split
  · split
    · exact moreF_kinds (.inr rfl) h
    · exact addF_kinds h
  · exact addF_kinds h
theorem kinds_nil : KindsOk [] := fun _ h => nomatch h
theorem total0_kinds (h : Hear) : KindsOk (total0 h).1 := by
  unfold total0
  split
  · exact addF_kinds kinds_nil
  · exact kinds_nil
theorem planS_kinds (h l : Hear) : KindsOk (planS h l).st := by
  induction l using snoc_ind with
  | nil => exact total0_kinds h
  | snoc l p ih =>
    rw [planS_snoc]
    unfold planStep
    split
    · exact ih
    · split
      · exact ih
      · exact oneF_kinds ih
def setAt {α : Type} (l : List α) (a : Nat) (x : α) : List α := l.take a ++ [x] ++ l.drop (a + 1)
theorem setAt_len {α : Type} {l : List α} {a : Nat} {x : α} (h : a < l.length) : (setAt l a x).length = l.length := by
  unfold setAt
  rw [List.length_append, List.length_append, List.length_take, List.length_drop, List.length_singleton]
  omega
theorem setAt_mem {α : Type} {l : List α} {a : Nat} {x y : α} (h : y ∈ setAt l a x) : y = x ∨ y ∈ l := by
  unfold setAt at h
  rcases List.mem_append.mp h with h | h
  · rcases List.mem_append.mp h with h | h
    · exact .inr (List.mem_of_mem_take h)
    · rw [List.mem_singleton] at h; exact .inl h
  · exact .inr (List.mem_of_mem_drop h)
def flip (k : Str) : Str := if k = ADD then OFF else ADD
def oneS (s : Stp) : List Stp := [(flip s.1, s.2.1, s.2.2), (s.1, s.2.2, s.2.1), (s.1, s.2.1 - 1, s.2.2)]
def twoS (s : Stp) : List Stp := [(s.1, s.2.1, s.2.2 + 1), (s.1, s.2.1 + 1, s.2.2)]
def oneE : Option Int → List (Option Int)
  | none => [none, some 0, some 1]
  | some e => [none, some (e + 1), some (e - 1)]
abbrev StEn := List Stp × List (Option Int)
def dT2 (q : StEn) : PyData := .tuple [dSs q.1, dEs q.2]
def bentS (st : List Stp) (en : List (Option Int)) (l : List (Stp × Nat)) : List StEn := l.flatMap fun q => (oneS q.1 ++ twoS q.1).map fun t => (setAt st q.2 t, en)
def bentE (st : List Stp) (en : List (Option Int)) (l : List (Option Int × Nat)) : List StEn := l.flatMap fun q => (oneE q.1).map fun t => (st, setAt en q.2 t)
def bentF (st : List Stp) (en : List (Option Int)) : List StEn := bentS st en st.zipIdx ++ bentE st en en.zipIdx
theorem bentF_ok {st : List Stp} {en : List (Option Int)} (hk : KindsOk st) {q : StEn} (hq : q ∈ bentF st en) : KindsOk q.1 ∧ q.1.length = st.length ∧ q.2.length = en.length := by
  unfold bentF at hq
  rcases List.mem_append.mp hq with hq | hq
  · unfold bentS at hq
    obtain ⟨⟨s, a⟩, hs, ht⟩ := List.mem_flatMap.mp hq
    obtain ⟨t, htm, rfl⟩ := List.mem_map.mp ht
    have hz := List.mem_zipIdx hs
    have hsm : s ∈ st := by rw [hz.2.2]; exact List.getElem_mem _
    refine ⟨fun y hy => ?_, setAt_len (by omega), rfl⟩
    rcases setAt_mem hy with rfl | hy
    · unfold oneS twoS at htm
      simp only [List.cons_append, List.nil_append, List.mem_cons, List.not_mem_nil, or_false] at htm
      rcases htm with rfl | rfl | rfl | rfl | rfl
      · show flip s.1 = ADD ∨ flip s.1 = OFF
        unfold flip
        split
        · exact .inr rfl
        · exact .inl rfl
      all_goals exact hk s hsm
    · exact hk y hy
  · unfold bentE at hq
    obtain ⟨⟨e, a⟩, hs, ht⟩ := List.mem_flatMap.mp hq
    obtain ⟨t, htm, rfl⟩ := List.mem_map.mp ht
    have hz := List.mem_zipIdx hs
    exact ⟨hk, rfl, setAt_len (by omega)⟩
theorem oneE_len (e : Option Int) : (oneE e).length = 3 := by cases e <;> rfl
theorem bentS_len (st : List Stp) (en : List (Option Int)) (l : List (Stp × Nat)) : (bentS st en l).length = 5 * l.length := by
  induction l with
  | nil => rfl
  | cons a r ih =>
    have : bentS st en (a :: r) = ((oneS a.1 ++ twoS a.1).map fun t => (setAt st a.2 t, en)) ++ bentS st en r := rfl
    rw [this, List.length_append, ih, List.length_map, List.length_cons]
    show 5 + _ = _
    omega
theorem bentE_len (st : List Stp) (en : List (Option Int)) (l : List (Option Int × Nat)) : (bentE st en l).length = 3 * l.length := by
  induction l with
  | nil => rfl
  | cons a r ih =>
    have : bentE st en (a :: r) = ((oneE a.1).map fun t => (st, setAt en a.2 t)) ++ bentE st en r := rfl
    rw [this, List.length_append, ih, List.length_map, oneE_len, List.length_cons]
    omega
theorem bentS_snoc (st : List Stp) (en : List (Option Int)) (l : List (Stp × Nat)) (a : Stp × Nat) : bentS st en (l ++ [a]) = bentS st en l ++ (oneS a.1 ++ twoS a.1).map fun t => (setAt st a.2 t, en) := by
  unfold bentS
  rw [List.flatMap_append]
  simp [List.flatMap]
theorem bentE_snoc (st : List Stp) (en : List (Option Int)) (l : List (Option Int × Nat)) (a : Option Int × Nat) : bentE st en (l ++ [a]) = bentE st en l ++ (oneE a.1).map fun t => (st, setAt en a.2 t) := by
  unfold bentE
  rw [List.flatMap_append]
  simp [List.flatMap]
/-! ### standing up -/
def idxOkB (m : Int) (q : Stp × Nat) : Bool := (decide (0 ≤ q.1.2.1) && decide (q.1.2.1 < m + (q.2 : Nat))) && (decide (0 ≤ q.1.2.2) && decide (q.1.2.2 < m + (q.2 : Nat)))
def standsF (m : Int) (st : List Stp) (en : List (Option Int)) : Bool := st.zipIdx.all (idxOkB m) && en.all (endOkB (m + st.length))
theorem stands_ok {m : Nat} {st : List Stp} {en : List (Option Int)} {k : Nat} (hk : KindsOk st) (he : en.length = k) (h : standsF m st en = true) : areStepsF m st = true ∧ areEndsF k ((m + st.length : Nat) : Int) en = true := by
  unfold standsF at h
  rw [Bool.and_eq_true] at h
  refine ⟨?_, ?_⟩
  · unfold areStepsF
    refine List.all_eq_true.mpr fun q hq => ?_
    have h1 := List.all_eq_true.mp h.1 q hq
    have hz := List.mem_zipIdx (x := q.1) (i := q.2) hq
    have hs : q.1 ∈ st := by rw [hz.2.2]; exact List.getElem_mem _
    unfold stepOkB
    unfold idxOkB at h1
    rw [Bool.and_assoc, h1, Bool.and_true]
    rcases hk _ hs with e | e
    · rw [e]; decide +kernel
    · rw [e]; decide +kernel
  · unfold areEndsF
    rw [Bool.and_eq_true, decide_eq_true_eq]
    refine ⟨by omega, ?_⟩
    have : ((m + st.length : Nat) : Int) = (m : Int) + (st.length : Int) := by omega
    rw [this]
    exact h.2
end My

set_option Elab.async false
set_option linter.all false
set_option maxRecDepth 100000
/-! Pv: a plan's steps and ends stand. -/
namespace My
open PySem Mx
def HereOk (m : Nat) (s : List Stp × Int) : Prop := StepsOk m s.1 ∧ 0 ≤ s.2 ∧ s.2 < ((m + s.1.length : Nat) : Int)
theorem StepsOk.add {m : Nat} {st : List Stp} {s : Stp} (h : StepsOk m st) (h1 : 0 ≤ s.2.1 ∧ s.2.1 < ((m + st.length : Nat) : Int)) (h2 : 0 ≤ s.2.2 ∧ s.2.2 < ((m + st.length : Nat) : Int)) : StepsOk m (st ++ [s]) := fun i t e => by
  by_cases hi : i < st.length
  · rw [List.getElem?_append_left hi] at e
    exact h i t e
  · have hl := (List.getElem?_eq_some_iff.mp e).1
    rw [List.length_append, List.length_singleton] at hl
    have ei : i = st.length := by omega
    subst ei
    rw [List.getElem?_append_right (Nat.le_refl _), Nat.sub_self] at e
    cases e
    exact ⟨h1.1, h1.2, h2.1, h2.2⟩
theorem moreF_ok {k : Str} {m : Nat} {pls : List Int} {s : List Stp × Int} (h : HereOk m s) (hp : ∀ p ∈ pls, 0 ≤ p ∧ p < (m : Int)) : HereOk m (moreF k m pls s) := by
  induction pls using snoc_ind with
  | nil => exact h
  | snoc l p ih =>
    obtain ⟨i1, i2, i3⟩ := ih fun q hq => hp q (List.mem_append_left _ hq)
    have hpp := hp p (by simp)
    rw [moreF_snoc]
    unfold moreStep HereOk
    simp only [List.length_append, List.length_singleton]
    refine ⟨i1.add ⟨i2, i3⟩ ⟨hpp.1, ?_⟩, by omega, by omega⟩
    show p < _
    omega
theorem addF_ok {m : Nat} {pls : List Int} {st : List Stp} (hs : StepsOk m st) (hne : pls ≠ []) (hp : ∀ p ∈ pls, 0 ≤ p ∧ p < (m : Int)) : HereOk m (addF m pls st) := by
  cases pls with
  | nil => exact absurd rfl hne
  | cons p r =>
    have h0 := hp p List.mem_cons_self
    exact moreF_ok ⟨hs, h0.1, by simp only [List.headD_cons]; omega⟩ fun q hq => hp q (List.mem_cons_of_mem _ hq)
theorem places_ok {vs o : Names} (h : ∀ x ∈ o, x ∈ vs) : ∀ p ∈ placesF vs o, 0 ≤ p ∧ p < (vs.length : Int) := fun p hp => by
  unfold placesF at hp
  obtain ⟨x, hx, rfl⟩ := List.mem_map.mp hp
  have := (List.getElem?_eq_some_iff.mp (idx_first (h x hx)).1).1
  omega
theorem miss_ok {m : Nat} {pls : List Int} : ∀ p ∈ missF m pls, 0 ≤ p ∧ p < (m : Int) := fun p hp => by
  unfold missF at hp
  obtain ⟨i, hi, rfl⟩ := List.mem_map.mp (List.mem_filter.mp hp).1
  have := List.mem_range.mp hi
  omega
theorem StepsOk.mono_len {m : Nat} {st : List Stp} {i : Int} {k : Nat} (h : i < ((m + st.length : Nat) : Int)) (hk : st.length ≤ k) : i < ((m + k : Nat) : Int) := by omega
theorem total0_ok {z : Str} {h : Hear} (V : Valid z h) : StepsOk (vo h).length (total0 h).1 ∧ ∀ t, (total0 h).2 = some t → 0 ≤ t ∧ t < (((vo h).length + (total0 h).1.length : Nat) : Int) := by
  unfold total0
  split
  · rename_i hw
    have hp := many_pos V hw
    have := addF_ok (m := (vo h).length) (pls := (List.range (vo h).length).map fun (i : Nat) => (i : Int)) (st := []) (fun i s e => by simp at e) (fun e => by
      have := congrArg List.length e
      rw [List.length_map, List.length_range] at this
      simp at this
      rw [this] at hp
      simp at hp) (fun p hp => by
        obtain ⟨i, hi, rfl⟩ := List.mem_map.mp hp
        have := List.mem_range.mp hi
        omega)
    obtain ⟨a, b, c⟩ := this
    refine ⟨a, fun t e => ?_⟩
    cases e
    exact ⟨b, c⟩
  · exact ⟨fun i s e => by simp at e, fun t e => nomatch e⟩
theorem oneF_ok {z : Str} {h : Hear} (V : Valid z h) {o : Names} (ho : ∀ x ∈ o, x ∈ vo h) (hne : o ≠ []) {total : Option Int} {st : List Stp} (hs : StepsOk (vo h).length st) (ht : ∀ t, total = some t → 0 ≤ t ∧ t < (((vo h).length + st.length : Nat) : Int)) : HereOk (vo h).length (oneF (vo h).length (vo h) o total st) := by
  have hpl := places_ok ho
  have hpn : placesF (vo h) o ≠ [] := fun e => hne (by
    unfold placesF at e
    exact List.map_eq_nil_iff.mp e)
  unfold oneF
  split
  · rename_i t
    split
    · exact moreF_ok ⟨hs, ht t rfl⟩ miss_ok
    · exact addF_ok hs hpn hpl
  · exact addF_ok hs hpn hpl
theorem planS_ok {z : Str} {h : Hear} (V : Valid z h) {l : Hear} (hl : ∀ p ∈ l, p ∈ h) : StepsOk (vo h).length (planS h l).st ∧ (total0 h).1.length ≤ (planS h l).st.length ∧ EndsOk ((vo h).length + (planS h l).st.length) (planS h l).en ∧ ∀ k i, (planS h l).kn.lookup k = some i → 0 ≤ i ∧ i < (((vo h).length + (planS h l).st.length : Nat) : Int) := by
  induction l using snoc_ind with
  | nil => exact ⟨(total0_ok V).1, Nat.le_refl _, (fun i hi => by simp [planS] at hi), (fun k i hi => by simp [planS] at hi)⟩
  | snoc l p ih =>
    obtain ⟨i1, i2, i3, i4⟩ := ih fun q hq => hl q (List.mem_append_left _ hq)
    have hp := hl p (by simp)
    have ho : ∀ x ∈ p.2, x ∈ vo h := fun x hx => (vo_mem V).mpr ⟨p, hp, hx⟩
    rw [planS_snoc]
    unfold planStep
    by_cases h2 : p.2 = []
    · rw [if_pos h2]
      refine ⟨i1, i2, fun i hi => ?_, i4⟩
      rcases List.mem_append.mp hi with hi | hi
      · exact i3 i hi
      · simp at hi
    · rw [if_neg h2]
      cases hk : (planS h l).kn.lookup p.2 with
      | some j =>
        refine ⟨i1, i2, fun i hi => ?_, i4⟩
        rcases List.mem_append.mp hi with hi | hi
        · exact i3 i hi
        · have : i = j := by simpa using hi
          subst this
          exact i4 _ _ hk
      | none =>
        have ht : ∀ t, (total0 h).2 = some t → 0 ≤ t ∧ t < (((vo h).length + (planS h l).st.length : Nat) : Int) := fun t e => by
          have := (total0_ok V).2 t e
          omega
        obtain ⟨o1, o2, o3⟩ := oneF_ok V ho h2 (st := (planS h l).st) i1 ht
        have hlen : (planS h l).st.length ≤ (oneF (vo h).length (vo h) p.2 (total0 h).2 (planS h l).st).1.length := by
          unfold oneF
          split
          · split
            · rw [moreF_len]; simp only; omega
            · rw [addF_len]; omega
          · rw [addF_len]; omega
        simp only
        refine ⟨o1, by omega, fun i hi => ?_, fun k i hki => ?_⟩
        · rcases List.mem_append.mp hi with hi | hi
          · have := i3 i hi
            omega
          · have : i = (oneF (vo h).length (vo h) p.2 (total0 h).2 (planS h l).st).2 := by simpa using hi
            subst this
            exact ⟨o2, o3⟩
        · rw [List.lookup_append] at hki
          cases e : (planS h l).kn.lookup k with
          | some j =>
            rw [e] at hki
            have : j = i := by simpa using hki
            subst this
            have := i4 _ _ e
            omega
          | none =>
            rw [e] at hki
            simp only [Option.none_or, List.lookup_cons] at hki
            split at hki
            · cases hki; exact ⟨o2, o3⟩
            · simp at hki
end My

set_option Elab.async false
set_option linter.all false
set_option maxRecDepth 100000
/-! Pw: the plans tried by hand, the rows of numbers tried. -/
namespace My
open PySem Mx
def lastF (st : List Stp) (en : List (Option Int)) : List StEn := match st.getLast? with
  | none => []
  | some s => [(st.dropLast ++ [(flip s.1, s.2.1, s.2.2)], en)]
def triedF (n : Nat) (st : List Stp) (en : List (Option Int)) : List StEn := [(st, en), (st, en.reverse), (st, List.replicate n none)] ++ lastF st en
def StandsOk (h : Hear) (q : StEn) : Prop := q.2.length = h.length ∧ StepsOk (vo h).length q.1 ∧ EndsOk ((vo h).length + q.1.length) q.2 ∧ q.1.length ≤ 60
theorem getLast_split {α : Type} : ∀ {l : List α} {a : α}, l.getLast? = some a → l = l.dropLast ++ [a]
  | [], _, h => nomatch h
  | [b], _, h => by cases h; rfl
  | b :: c :: r, a, h => by
    have := getLast_split (l := c :: r) (a := a) (by rw [← h]; rfl)
    show b :: c :: r = (b :: (c :: r).dropLast) ++ [a]
    rw [List.cons_append, ← this]
theorem last_ok {h : Hear} {st : List Stp} {en : List (Option Int)} (H : StandsOk h (st, en)) : ∀ q ∈ lastF st en, StandsOk h q := by
  obtain ⟨h1, h2, h3, h4⟩ := H
  unfold lastF
  cases e : st.getLast? with
  | none => intro q hq; cases hq
  | some s =>
    intro q hq
    rw [List.mem_singleton] at hq
    subst hq
    have es := getLast_split e
    have hl : (st.dropLast ++ [(flip s.1, s.2.1, s.2.2)]).length = st.length := by
      have := congrArg List.length es
      rw [List.length_append, List.length_singleton] at this ⊢
      exact this.symm
    refine ⟨h1, ?_, ?_, ?_⟩
    · have h2' : StepsOk (vo h).length (st.dropLast ++ s :: []) := by rw [← es]; exact h2
      have a := h2'.at
      exact StepsOk.add h2'.pre ⟨a.1, a.2.1⟩ ⟨a.2.2.1, a.2.2.2⟩
    · show EndsOk ((vo h).length + (st.dropLast ++ [(flip s.1, s.2.1, s.2.2)]).length) en
      rw [hl]; exact h3
    · show (st.dropLast ++ [(flip s.1, s.2.1, s.2.2)]).length ≤ 60
      rw [hl]; exact h4
theorem plan_ok {z : Str} {h : Hear} (V : Valid z h) : StandsOk h (planF h) := by
  obtain ⟨h1, h2, h3, _⟩ := planS_ok V (l := h) fun p hp => hp
  obtain ⟨hst, hen, _⟩ := planS_len V (l := h) fun p hp => hp
  have := V.len
  exact ⟨hen, h1, h3, by show (planS h h).st.length ≤ 60; omega⟩
theorem tried_ok {h : Hear} {q : StEn} (H : StandsOk h q) : ∀ t ∈ triedF h.length q.1 q.2, StandsOk h t := by
  obtain ⟨st, en⟩ := q
  intro t ht
  have H' := H
  obtain ⟨h1, h2, h3, h4⟩ := H'
  rcases List.mem_append.mp ht with ht | ht
  · simp only [List.mem_cons, List.not_mem_nil, or_false] at ht
    rcases ht with rfl | rfl | rfl
    · exact H
    · exact ⟨by rw [List.length_reverse]; exact h1, h2, fun i hi => h3 i (List.mem_reverse.mp hi), h4⟩
    · refine ⟨List.length_replicate, h2, fun i hi => ?_, h4⟩
      have := List.eq_of_mem_replicate hi
      cases this
  · exact last_ok H t ht
def rowsF (m : Nat) (d : List Int) : List (List Int) := [d, List.replicate m 0, d.drop 1, d ++ [1], List.replicate m 1] ++ (List.range m).map (unitRow m)
theorem rows_len {m : Nat} {d : List Int} (hd : d.length = m) (hm : m ≤ 7) : ∀ r ∈ rowsF m d, r.length ≤ 1000 := by
  intro r hr
  rcases List.mem_append.mp hr with hr | hr
  · simp only [List.mem_cons, List.not_mem_nil, or_false] at hr
    rcases hr with rfl | rfl | rfl | rfl | rfl
    · omega
    · rw [List.length_replicate]; omega
    · rw [List.length_drop]; omega
    · rw [List.length_append, List.length_singleton]; omega
    · rw [List.length_replicate]; omega
  · obtain ⟨a, _, rfl⟩ := List.mem_map.mp hr
    unfold unitRow
    rw [List.length_map, List.length_range]
    omega
theorem rep_none (n : Nat) : (List.replicate n [PyData.none]).flatten = (List.replicate n (none : Option Int)).map dE := by
  induction n with
  | zero => rfl
  | succ n ih => rw [List.replicate_succ, List.flatten_cons, ih, List.replicate_succ]; rfl
theorem rep_int (n : Nat) (i : Int) : (List.replicate n [PyData.int i]).flatten = (List.replicate n i).map .int := by
  induction n with
  | zero => rfl
  | succ n ih => rw [List.replicate_succ, List.flatten_cons, ih, List.replicate_succ]; rfl
end My

set_option Elab.async false
set_option linter.all false
set_option maxRecDepth 100000
/-! Pf: the fewest steps, whether a plan shows what it tells, plans by hand. -/
namespace My
open PySem Mx
def fewF (h : Hear) : Int := min (waysF h).1 (waysF h).2
def showsF (h : Hear) (st : List Stp) (en : List (Option Int)) : Bool := if areStepsF (vo h).length st = true then (if areEndsF (h.length : Nat) (((vo h).length : Int) + (st.length : Int)) en = true then (decide ((st.length : Int) = fewF h) && (wrongF h st en).isNone) else false) else false
/-! ### the law's own reckoning -/
def firstF (l : List Names) : Int := l.foldl (fun a o => a + (o.length : Int) - 1) 0
def secondF (m : Int) (l : List Names) : Int := l.foldl (fun a o => a + min ((o.length : Int) - 1) (m - o.length)) (if m > 0 then m - 1 else 0)
theorem firstF_sum (l : List Names) : firstF l = (l.map fun o => (o.length : Int) - 1).sum := by
  unfold firstF
  induction l using snoc_ind with
  | nil => rfl
  | snoc l o ih => rw [List.foldl_append, List.map_append, List.sum_append, ih]; simp only [List.foldl_cons, List.foldl_nil, List.map_cons, List.map_nil, List.sum_cons, List.sum_nil]; omega
theorem secondF_sum (m : Int) (hm : 0 ≤ m) (l : List Names) : secondF m l = max 0 (m - 1) + (l.map fun o => min ((o.length : Int) - 1) (m - o.length)).sum := by
  unfold secondF
  induction l using snoc_ind with
  | nil => simp only [List.foldl_nil, List.map_nil, List.sum_nil]; split <;> omega
  | snoc l o ih => rw [List.foldl_append, List.map_append, List.sum_append, ih]; simp only [List.foldl_cons, List.foldl_nil, List.map_cons, List.map_nil, List.sum_cons, List.sum_nil]; omega
theorem firstF_snoc (l : List Names) (o : Names) : firstF (l ++ [o]) = firstF l + (o.length : Int) - 1 := by unfold firstF; rw [List.foldl_append]; rfl
theorem secondF_snoc (m : Int) (l : List Names) (o : Names) : secondF m (l ++ [o]) = secondF m l + min ((o.length : Int) - 1) (m - o.length) := by unfold secondF; rw [List.foldl_append]; rfl
def lfewF (h : Hear) : Int := min (firstF (ulF h)) (secondF (vo h).length (ulF h))
theorem few_eq (h : Hear) : lfewF h = fewF h := by
  unfold lfewF fewF waysF
  rw [firstF_sum, secondF_sum _ (by omega)]
def isPlanF (h : Hear) (st : List Stp) (en : List (Option Int)) : Bool := if st.zipIdx.all (idxOkB (vo h).length) = true then (if (decide (en.length = h.length) && en.all (endOkB (((vo h).length : Int) + st.length))) = true then (decide ((st.length : Int) = lfewF h) && rightF h st en) else false) else false
theorem idx_steps {m : Int} {st : List Stp} (hk : KindsOk st) : areStepsF m st = st.zipIdx.all (idxOkB m) := by
  unfold areStepsF
  rw [Bool.eq_iff_iff, List.all_eq_true, List.all_eq_true]
  refine forall_congr' fun q => forall_congr' fun hq => ?_
  have hz := List.mem_zipIdx (x := q.1) (i := q.2) hq
  have hs : q.1 ∈ st := by rw [hz.2.2]; exact List.getElem_mem _
  unfold stepOkB idxOkB
  rw [Bool.and_assoc]
  rcases hk _ hs with e | e
  · have : decide (q.1.1 ∈ ([ADD, OFF] : Names)) = true := by rw [e]; decide +kernel
    rw [this, Bool.true_and]
  · have : decide (q.1.1 ∈ ([ADD, OFF] : Names)) = true := by rw [e]; decide +kernel
    rw [this, Bool.true_and]
theorem shows_isPlan {z : Str} {h : Hear} (V : Valid z h) {st : List Stp} {en : List (Option Int)} (hk : KindsOk st) : showsF h st en = isPlanF h st en := by
  unfold showsF isPlanF
  rw [idx_steps hk, few_eq]
  cases e : st.zipIdx.all (idxOkB (vo h).length) with
  | false => rfl
  | true =>
    rw [if_pos rfl, if_pos rfl]
    have e2 : areEndsF (h.length : Nat) (((vo h).length : Int) + (st.length : Int)) en = (decide (en.length = h.length) && en.all (endOkB (((vo h).length : Int) + st.length))) := by
      unfold areEndsF
      congr 1
      rw [decide_eq_decide]
      omega
    rw [e2]
    cases e3 : (decide (en.length = h.length) && en.all (endOkB (((vo h).length : Int) + st.length))) with
    | false => rfl
    | true =>
      rw [if_pos rfl, if_pos rfl]
      have hs : StepsOk (vo h).length st := areSteps_ok (by rw [idx_steps hk]; exact e)
      have he := areEnds_ok (m := h.length) (most := (vo h).length + st.length) (en := en) (by
        have : (((vo h).length + st.length : Nat) : Int) = ((vo h).length : Int) + (st.length : Int) := by omega
        rw [this, e2, e3])
      rw [wrong_right V he.1 hs he.2]
/-! ### each one's names added up by themselves -/
def eachStep (vs : Names) (s : StEn) (p : Str × Names) : StEn := if p.2 = [] then (s.1, s.2 ++ [none]) else ((addF vs.length (placesF vs p.2) s.1).1, s.2 ++ [some (addF vs.length (placesF vs p.2) s.1).2])
def eachF (vs : Names) (l : Hear) : StEn := l.foldl (eachStep vs) ([], [])
theorem eachF_snoc (vs : Names) (l : Hear) (p : Str × Names) : eachF vs (l ++ [p]) = eachStep vs (eachF vs l) p := by unfold eachF; rw [List.foldl_append]; rfl
theorem each_ok {z : Str} {h : Hear} (V : Valid z h) (vs : Names) {l : Hear} (hl : ∀ p ∈ l, p ∈ h) : KindsOk (eachF vs l).1 ∧ (eachF vs l).1.length ≤ 7 * l.length ∧ (eachF vs l).2.length = l.length := by
  induction l using snoc_ind with
  | nil => exact ⟨fun _ h => (by simp [eachF] at h), Nat.zero_le _, rfl⟩
  | snoc l p ih =>
    obtain ⟨i1, i2, i3⟩ := ih fun q hq => hl q (List.mem_append_left _ hq)
    have hp := V.olen (hl p (by simp))
    rw [eachF_snoc, List.length_append, List.length_singleton]
    unfold eachStep
    split
    · exact ⟨i1, by show (eachF vs l).1.length ≤ _; omega, by show ((eachF vs l).2 ++ [none]).length = _; rw [List.length_append, List.length_singleton]; omega⟩
    · refine ⟨addF_kinds i1, ?_, by show ((eachF vs l).2 ++ [some _]).length = _; rw [List.length_append, List.length_singleton]; omega⟩
      show (addF vs.length (placesF vs p.2) (eachF vs l).1).1.length ≤ _
      rw [addF_len]
      have : (placesF vs p.2).length = p.2.length := by unfold placesF; rw [List.length_map]
      omega
/-! ### the plans tried -/
def handF (n m : Nat) (st : List Stp) (en : List (Option Int)) (q : StEn) : List StEn :=
  [(st, en), q, (st.drop 1, en), ([], List.replicate n none)] ++ [(st ++ [(ADD, 0, 0)], en), (st, en.drop 1), (st, en ++ [none])] ++ [(st.reverse, en), (st, en.reverse), (st, List.replicate n (some (-1)))] ++
    [(List.replicate st.length (ADD, -1, 0), en), (List.replicate 2 (OFF, 10 ^ 20, 0), en)] ++ [(st, List.replicate n (some ((m : Int) + st.length)))]
def SmallOk (q : StEn) : Prop := KindsOk q.1 ∧ q.1.length ≤ 100 ∧ q.2.length ≤ 100
theorem hand_ok {n m : Nat} {st : List Stp} {en : List (Option Int)} {q : StEn} (hk : KindsOk st) (hs : st.length ≤ 60) (he : en.length ≤ 7) (hn : n ≤ 7) (hq : SmallOk q) : ∀ t ∈ handF n m st en q, SmallOk t := by
  intro t ht
  unfold handF at ht
  simp only [List.mem_append, List.mem_cons, List.not_mem_nil, or_false] at ht
  rcases ht with (((( rfl | rfl | rfl | rfl) | rfl | rfl | rfl) | rfl | rfl | rfl) | rfl | rfl) | rfl
  · exact ⟨hk, by show st.length ≤ _; omega, by show en.length ≤ _; omega⟩
  · exact hq
  · exact ⟨fun s h => hk s (List.mem_of_mem_drop h), by show (st.drop 1).length ≤ _; rw [List.length_drop]; omega, by show en.length ≤ _; omega⟩
  · exact ⟨kinds_nil, by show 0 ≤ 100; omega, by show (List.replicate n none).length ≤ _; rw [List.length_replicate]; omega⟩
  · refine ⟨fun s h => ?_, by show (st ++ [_]).length ≤ _; rw [List.length_append, List.length_singleton]; omega, by show en.length ≤ _; omega⟩
    rcases List.mem_append.mp h with h | h
    · exact hk s h
    · rw [List.mem_singleton] at h; subst h; exact .inl rfl
  · exact ⟨hk, by show st.length ≤ _; omega, by show (en.drop 1).length ≤ _; rw [List.length_drop]; omega⟩
  · exact ⟨hk, by show st.length ≤ _; omega, by show (en ++ [none]).length ≤ _; rw [List.length_append, List.length_singleton]; omega⟩
  · exact ⟨fun s h => hk s (List.mem_reverse.mp h), by show st.reverse.length ≤ _; rw [List.length_reverse]; omega, by show en.length ≤ _; omega⟩
  · exact ⟨hk, by show st.length ≤ _; omega, by show en.reverse.length ≤ _; rw [List.length_reverse]; omega⟩
  · exact ⟨hk, by show st.length ≤ _; omega, by show (List.replicate n _).length ≤ _; rw [List.length_replicate]; omega⟩
  · exact ⟨fun s h => by rw [List.eq_of_mem_replicate h]; exact .inl rfl, by show (List.replicate st.length _).length ≤ _; rw [List.length_replicate]; omega, by show en.length ≤ _; omega⟩
  · exact ⟨fun s h => by rw [List.eq_of_mem_replicate h]; exact .inr rfl, by show (List.replicate 2 _).length ≤ _; rw [List.length_replicate]; omega, by show en.length ≤ _; omega⟩
  · exact ⟨hk, by show st.length ≤ _; omega, by show (List.replicate n _).length ≤ _; rw [List.length_replicate]; omega⟩
end My

set_option Elab.async false
set_option linter.all false
set_option maxRecDepth 100000
set_option maxHeartbeats 1000000
namespace My
open PySem PySem.Spec PyProof.Rows L2 Mx

/-! ### short words for the walk (all local) -/
local macro_rules | `(tactic| walk_at "pl") => `(tactic| first | exact pl_int | exact pl_str | exact pl_bool | exact pl_none | exact pl_dN | exact pl_dH | assumption)
local macro_rules | `(tactic| walk_at "od") => `(tactic| first
  | exact od_add | exact od_sub | exact od_mod (by omega) | exact od_fdiv (by omega) (by omega) | exact od_pow (by decide) | exact od_mulL (by omega) | exact od_mulR (by omega)
  | exact oc_lt | exact oc_le | exact oc_gt | exact oc_ge | exact oc_ltS | exact oc_isN | exact oc_notN
  | exact oc_eqI (by assumption) | exact oc_eqS (by assumption) | exact oc_eqB (by assumption) | exact oc_eqN (by assumption) | exact oc_eqH (by assumption) | exact oc_eqNil (by assumption)
  | exact oc_neI (by assumption) | exact oc_neS (by assumption) | exact oc_neB (by assumption) | exact oc_neN (by assumption) | exact oc_neH (by assumption) | exact oc_neNil (by assumption)
  | exact oc_inN (by assumption) | exact oc_notinN (by assumption)
  | exact oc_eq (by assumption) (by walk_at "pl") (by walk_at "pl") | exact oc_ne (by assumption) (by walk_at "pl") (by walk_at "pl"))
local macro_rules | `(tactic| walk_at "nm") => `(tactic| first
  | exact ex_name 0 rfl | exact ex_name 1 rfl | exact ex_name 2 rfl | exact ex_name 3 rfl | exact ex_name 4 rfl | exact ex_name 5 rfl | exact ex_name 6 rfl | exact ex_name 7 rfl
  | exact ex_name 8 rfl | exact ex_name 9 rfl | exact ex_name 10 rfl | exact ex_name 11 rfl | exact ex_name 12 rfl | exact ex_name 13 rfl | exact ex_name 14 rfl | exact ex_name 15 rfl | exact ex_name 16 rfl | exact ex_name 17 rfl)
local macro_rules | `(tactic| walk_at "call") => `(tactic| fail)
local macro_rules | `(tactic| walk_at "exs") => `(tactic| first
  | walk_at "nm" | exact ex_int | exact ex_str | exact ex_bl | exact ex_non
  | (refine' ex_bin ?a ?b ?o; (case a => walk_at "ex"); (case b => walk_at "ex"); (case o => walk_at "od"))
  | (refine' ex_cmp ?a ?b ?o; (case a => walk_at "ex"); (case b => walk_at "ex"); (case o => walk_at "od"))
  | (refine' ex_not ?a; (case a => walk_at "ex"))
  | (refine' ex_neg ?a; (case a => walk_at "ex"))
  | (refine' ex_one ?a; (case a => walk_at "ex"))
  | (refine' ex_and ?a ?b; (case a => walk_at "ex"); (case b => intro _; walk_at "ex"))
  | (refine' ex_or ?a ?b; (case a => walk_at "ex"); (case b => intro _; walk_at "ex"))
  | (refine' ex_tup ?a ?z; (case a => walk_at "ea"); (case z => simp))
  | (refine' ex_freeze (ex_lst ?a ?z); (case a => walk_at "ea"); (case z => simp))
  | (refine' ex_callB ?a cd_lenL (by assumption); (case a => walk_at "ea"))
  | (refine' ex_callB ?a cd_lenT (by assumption); (case a => walk_at "ea"))
  | walk_at "call")
local macro_rules | `(tactic| walk_at "ex") => `(tactic| first | walk_at "exs" | (refine' ex_star ?h ?f; (case h => walk_at "exs"); (case f => rfl)))
local macro_rules | `(tactic| walk_at "ea") => `(tactic| first | exact ea_nil | (refine' ea_cons ?a ?r; (case a => walk_at "ex"); (case r => walk_at "ea")))
local macro_rules | `(tactic| walk_at "ews") => `(tactic| first
  | (refine' ew_and1 ?a; (case a => walk_at "et"))
  | (refine' ew_or1 ?a; (case a => walk_at "et"))
  | (refine' ew_and ?a ?b; (case a => walk_at "et"); (case b => intro _; walk_at "ews"))
  | (refine' ew_or ?a ?b; (case a => walk_at "et"); (case b => intro _; walk_at "ews")))
local macro_rules | `(tactic| walk_at "ets") => `(tactic| first
  | (refine' et_W ?a; (case a => walk_at "ews"))
  | (refine' et_not ?a; (case a => walk_at "et"))
  | (refine' et_cmp ?a ?b ?o; (case a => walk_at "ex"); (case b => walk_at "ex"); (case o => walk_at "od"))
  | (refine' et_val ?a; (case a => walk_at "ex")))
local macro_rules | `(tactic| walk_at "et") => `(tactic| first | walk_at "ets" | (refine' et_star ?h; (case h => walk_at "ets")))
local macro_rules | `(tactic| walk_at "sh") => `(tactic| first | exact shd_da | exact shd_scr | exact shd_ob)
local macro_rules | `(tactic| walk_at "nmS") => `(tactic| first
  | exact ex_nameS 0 rfl (by walk_at "sh") | exact ex_nameS 1 rfl (by walk_at "sh") | exact ex_nameS 2 rfl (by walk_at "sh") | exact ex_nameS 3 rfl (by walk_at "sh") | exact ex_nameS 4 rfl (by walk_at "sh") | exact ex_nameS 5 rfl (by walk_at "sh")
  | exact ex_nameS 6 rfl (by walk_at "sh") | exact ex_nameS 7 rfl (by walk_at "sh") | exact ex_nameS 8 rfl (by walk_at "sh") | exact ex_nameS 9 rfl (by walk_at "sh") | exact ex_nameS 10 rfl (by walk_at "sh") | exact ex_nameS 11 rfl (by walk_at "sh"))
local macro_rules | `(tactic| walk_at "es") => `(tactic| first
  | exact es_nil
  | (refine' es_cons ?a ?r; (case a => (first | walk_at "ex" | walk_at "nmS")); (case r => walk_at "es"))
  | (refine' es_cons ?a ?r shd_scr; (case a => walk_at "nmS"); (case r => walk_at "es"))
  | (refine' es_cons ?a ?r shd_ob; (case a => (first | walk_at "ex" | walk_at "nmS")); (case r => walk_at "es")))
local macro_rules | `(tactic| walk_at "rm") => `(tactic| exact Room.mono (by assumption) (by decide))
def T1 := tlS PySem.Challenge.pw_mixminus_k13_plans_by_hand.main.body
def T2 := tlS T1
def T3 := tlS T2
def T4 := tlS T3
def T5 := tlS T4
def T6 := tlS T5
def T7 := tlS T6
def T8 := tlS T7
def T9 := tlS T8
def T10 := tlS T9
def T11 := tlS T10
def T12 := tlS T11
def T13 := tlS T12
def T14 := tlS T13
def T15 := tlS T14
def T16 := tlS T15
def T17 := tlS T16
def T18 := tlS T17
def T19 := tlS T18
def T20 := tlS T19
def T21 := tlS T20
def T22 := tlS T21
def T23 := tlS T22
def T24 := tlS T23
def T25 := tlS T24
def T26 := tlS T25
def T27 := tlS T26
def T28 := tlS T27
def T29 := tlS T28
def T30 := tlS T29
def T31 := tlS T30
def T32 := tlS T31
def T33 := tlS T32
def T34 := tlS T33
def T35 := tlS T34
def T36 := tlS T35
def T37 := tlS T36
def T38 := tlS T37
def T39 := tlS T38
def T40 := tlS T39
def T41 := tlS T40
abbrev s_is_name : Stmt := hdS T6
theorem c_is_name : FnScope ["thing", "sign"] ["thing"] (defScope s_is_name) := ⟨rfl, rfl, rfl, by decide +kernel, rfl, by decide +kernel, by decide +kernel⟩
-- slots is_name: 0 thing 1 sign; comprehensions: ("sign", 1)
abbrev s_is_rising : Stmt := hdS T7
theorem c_is_rising : FnScope ["line", "one", "other"] ["line"] (defScope s_is_rising) := ⟨rfl, rfl, rfl, by decide +kernel, rfl, by decide +kernel, by decide +kernel⟩
-- slots is_rising: 0 line 1 one 2 other; comprehensions: ("one", 1),("other", 2)
abbrev s_is_pair : Stmt := hdS T8
theorem c_is_pair : FnScope ["thing", "name"] ["thing"] (defScope s_is_pair) := ⟨rfl, rfl, rfl, by decide +kernel, rfl, by decide +kernel, by decide +kernel⟩
-- slots is_pair: 0 thing 1 name; comprehensions: ("name", 1)
abbrev s_is_hearing : Stmt := hdS T9
theorem c_is_hearing : FnScope ["thing", "names", "name", "others", "pair", "one"] ["thing"] (defScope s_is_hearing) := ⟨rfl, rfl, rfl, by decide +kernel, rfl, by decide +kernel, by decide +kernel⟩
-- slots is_hearing: 0 thing 1 names 2 name 3 others 4 pair 5 one; comprehensions: ("pair", 4) | ("name", 2),("others", 3) | ("one", 5)
abbrev s_check_hearing : Stmt := hdS T10
theorem c_check_hearing : FnScope ["hearing"] ["hearing"] (defScope s_check_hearing) := ⟨rfl, rfl, rfl, by decide +kernel, rfl, by decide +kernel, by decide +kernel⟩
-- slots check_hearing: 0 hearing
abbrev s_heard_by : Stmt := hdS T11
theorem c_heard_by : FnScope ["hearing", "name", "one", "others"] ["hearing", "name"] (defScope s_heard_by) := ⟨rfl, rfl, rfl, by decide +kernel, rfl, by decide +kernel, by decide +kernel⟩
-- slots heard_by: 0 hearing 1 name 2 one 3 others; comprehensions: ("one", 2),("others", 3)
abbrev s_voices_of : Stmt := hdS T12
theorem c_voices_of : FnScope ["hearing", "found", "name", "others", "one"] ["hearing"] (defScope s_voices_of) := ⟨rfl, rfl, rfl, by decide +kernel, rfl, by decide +kernel, by decide +kernel⟩
-- slots voices_of: 0 hearing 1 found 2 name 3 others 4 one; comprehensions: ("one", 4)
abbrev s_values_of : Stmt := hdS T15
theorem c_values_of : FnScope ["many", "steps", "spoken", "found", "kind", "one", "other"] ["many", "steps", "spoken"] (defScope s_values_of) := ⟨rfl, rfl, rfl, by decide +kernel, rfl, by decide +kernel, by decide +kernel⟩
-- slots values_of: 0 many 1 steps 2 spoken 3 found 4 kind 5 one 6 other
abbrev s_due_of : Stmt := hdS T16
theorem c_due_of : FnScope ["hearing", "name", "spoken", "known", "other"] ["hearing", "name", "spoken"] (defScope s_due_of) := ⟨rfl, rfl, rfl, by decide +kernel, rfl, by decide +kernel, by decide +kernel⟩
-- slots due_of: 0 hearing 1 name 2 spoken 3 known 4 other; comprehensions: ("other", 4)
abbrev s_told_of : Stmt := hdS T17
theorem c_told_of : FnScope ["hearing", "steps", "ends", "name", "spoken", "end", "one", "others"] ["hearing", "steps", "ends", "name", "spoken"] (defScope s_told_of) := ⟨rfl, rfl, rfl, by decide +kernel, rfl, by decide +kernel, by decide +kernel⟩
-- slots told_of: 0 hearing 1 steps 2 ends 3 name 4 spoken 5 end 6 one 7 others; comprehensions: ("one", 6),("others", 7)
abbrev s_wrong_of : Stmt := hdS T18
theorem c_wrong_of : FnScope ["hearing", "steps", "ends", "many", "name", "others", "place", "spoken", "one"] ["hearing", "steps", "ends"] (defScope s_wrong_of) := ⟨rfl, rfl, rfl, by decide +kernel, rfl, by decide +kernel, by decide +kernel⟩
-- slots wrong_of: 0 hearing 1 steps 2 ends 3 many 4 name 5 others 6 place 7 spoken 8 one; comprehensions: ("one", 8)
abbrev s_Plan_init : Stmt := hdS ((clsB (hdS T19)))
theorem c_Plan_init : FnScope ["self", "steps", "ends"] ["self", "steps", "ends"] (defScope s_Plan_init) := ⟨rfl, rfl, rfl, by decide +kernel, rfl, by decide +kernel, by decide +kernel⟩
-- slots Plan_init: 0 self 1 steps 2 ends
abbrev s_Plan_shows : Stmt := hdS (tlS ((clsB (hdS T19))))
theorem c_Plan_shows : FnScope ["self", "hearing"] ["self", "hearing"] (defScope s_Plan_shows) := ⟨rfl, rfl, rfl, by decide +kernel, rfl, by decide +kernel, by decide +kernel⟩
-- slots Plan_shows: 0 self 1 hearing
abbrev s_are_steps : Stmt := hdS T20
theorem c_are_steps : FnScope ["steps", "many", "at", "kind", "one", "other"] ["steps", "many"] (defScope s_are_steps) := ⟨rfl, rfl, rfl, by decide +kernel, rfl, by decide +kernel, by decide +kernel⟩
-- slots are_steps: 0 steps 1 many 2 at 3 kind 4 one 5 other
abbrev s_are_ends : Stmt := hdS T21
theorem c_are_ends : FnScope ["ends", "many", "most", "end"] ["ends", "many", "most"] (defScope s_are_ends) := ⟨rfl, rfl, rfl, by decide +kernel, rfl, by decide +kernel, by decide +kernel⟩
-- slots are_ends: 0 ends 1 many 2 most 3 end; comprehensions: ("end", 3)
abbrev s_unlike_of : Stmt := hdS T22
theorem c_unlike_of : FnScope ["hearing", "found", "name", "others"] ["hearing"] (defScope s_unlike_of) := ⟨rfl, rfl, rfl, by decide +kernel, rfl, by decide +kernel, by decide +kernel⟩
-- slots unlike_of: 0 hearing 1 found 2 name 3 others
abbrev s_ways_of : Stmt := hdS T23
theorem c_ways_of : FnScope ["hearing", "many", "some", "first", "second", "others"] ["hearing"] (defScope s_ways_of) := ⟨rfl, rfl, rfl, by decide +kernel, rfl, by decide +kernel, by decide +kernel⟩
-- slots ways_of: 0 hearing 1 many 2 some 3 first 4 second 5 others; comprehensions: ("others", 5) | ("others", 5)
abbrev s_few_of : Stmt := hdS T24
theorem c_few_of : FnScope ["hearing"] ["hearing"] (defScope s_few_of) := ⟨rfl, rfl, rfl, by decide +kernel, rfl, by decide +kernel, by decide +kernel⟩
-- slots few_of: 0 hearing
abbrev s_added : Stmt := hdS T26
theorem c_added : FnScope ["steps", "many", "places", "here", "place"] ["steps", "many", "places"] (defScope s_added) := ⟨rfl, rfl, rfl, by decide +kernel, rfl, by decide +kernel, by decide +kernel⟩
-- slots added: 0 steps 1 many 2 places 3 here 4 place
abbrev s_plan : Stmt := hdS T27
theorem c_plan : FnScope ["hearing", "names", "steps", "known", "many", "first", "second", "total", "ends", "name", "others", "key", "places", "missing", "here", "place", "one"] ["hearing"] (defScope s_plan) := ⟨rfl, rfl, rfl, by decide +kernel, rfl, by decide +kernel, by decide +kernel⟩
-- slots plan: 0 hearing 1 names 2 steps 3 known 4 many 5 first 6 second 7 total 8 ends 9 name 10 others 11 key 12 places 13 missing 14 here 15 place 16 one; comprehensions: ("one", 16) | ("place", 15)
abbrev s__law_cell_at : Stmt := hdS T29
theorem c__law_cell_at : FnScope ["_law_script", "_law_k"] ["_law_script", "_law_k"] (defScope s__law_cell_at) := ⟨rfl, rfl, rfl, by decide +kernel, rfl, by decide +kernel, by decide +kernel⟩
-- slots _law_cell_at: 0 _law_script 1 _law_k
abbrev s__law_draw : Stmt := hdS T30
theorem c__law_draw : FnScope ["_law_cell", "_law_k", "_law_most", "_law_primes"] ["_law_cell", "_law_k", "_law_most"] (defScope s__law_draw) := ⟨rfl, rfl, rfl, by decide +kernel, rfl, by decide +kernel, by decide +kernel⟩
-- slots _law_draw: 0 _law_cell 1 _law_k 2 _law_most 3 _law_primes
abbrev s__law_number : Stmt := hdS T31
theorem c__law_number : FnScope ["_law_cell", "_law_k", "_law_limit", "_law_d"] ["_law_cell", "_law_k", "_law_limit"] (defScope s__law_number) := ⟨rfl, rfl, rfl, by decide +kernel, rfl, by decide +kernel, by decide +kernel⟩
-- slots _law_number: 0 _law_cell 1 _law_k 2 _law_limit 3 _law_d
abbrev s__law_names : Stmt := hdS T32
theorem c__law_names : FnScope ["_law_script", "_law_by", "_law_many", "_law_turn", "_law_letters", "_law_found", "_law_at", "_law_behind"] ["_law_script", "_law_by", "_law_many"] (defScope s__law_names) := ⟨rfl, rfl, rfl, by decide +kernel, rfl, by decide +kernel, by decide +kernel⟩
-- slots _law_names: 0 _law_script 1 _law_by 2 _law_many 3 _law_turn 4 _law_letters 5 _law_found 6 _law_at 7 _law_behind
abbrev s__law_drawn : Stmt := hdS T33
theorem c__law_drawn : FnScope ["_law_script", "_law_by", "_law_names_here", "_law_kind", "_law_found", "_law_at", "_law_name", "_law_others", "_law_place", "_law_other", "_law_cell", "_law_hears"] ["_law_script", "_law_by"] (defScope s__law_drawn) := ⟨rfl, rfl, rfl, by decide +kernel, rfl, by decide +kernel, by decide +kernel⟩
-- slots _law_drawn: 0 _law_script 1 _law_by 2 _law_names_here 3 _law_kind 4 _law_found 5 _law_at 6 _law_name 7 _law_others 8 _law_place 9 _law_other 10 _law_cell 11 _law_hears
abbrev s__law_voices : Stmt := hdS T34
theorem c__law_voices : FnScope ["_law_hearing", "_law_name", "_law_mine", "_law_one", "_law_others"] ["_law_hearing"] (defScope s__law_voices) := ⟨rfl, rfl, rfl, by decide +kernel, rfl, by decide +kernel, by decide +kernel⟩
-- slots _law_voices: 0 _law_hearing 1 _law_name 2 _law_mine 3 _law_one 4 _law_others; comprehensions: ("_law_name", 1),("_law_mine", 2) | ("_law_one", 3),("_law_others", 4)
abbrev s__law_counts : Stmt := hdS T35
theorem c__law_counts : FnScope ["_law_many", "_law_steps", "_law_found", "_law_kind", "_law_one", "_law_other", "_law_sign", "_law_at", "_law_place", "_law_mine", "_law_theirs"] ["_law_many", "_law_steps"] (defScope s__law_counts) := ⟨rfl, rfl, rfl, by decide +kernel, rfl, by decide +kernel, by decide +kernel⟩
-- slots _law_counts: 0 _law_many 1 _law_steps 2 _law_found 3 _law_kind 4 _law_one 5 _law_other 6 _law_sign 7 _law_at 8 _law_place 9 _law_mine 10 _law_theirs; comprehensions: ("_law_at", 7) | ("_law_place", 8) | ("_law_mine", 9),("_law_theirs", 10)
abbrev s__law_right_plan : Stmt := hdS T36
theorem c__law_right_plan : FnScope ["_law_hearing", "_law_steps", "_law_ends", "_law_speakers", "_law_counts_here", "_law_name", "_law_others", "_law_end", "_law_due", "_law_voice"] ["_law_hearing", "_law_steps", "_law_ends"] (defScope s__law_right_plan) := ⟨rfl, rfl, rfl, by decide +kernel, rfl, by decide +kernel, by decide +kernel⟩
-- slots _law_right_plan: 0 _law_hearing 1 _law_steps 2 _law_ends 3 _law_speakers 4 _law_counts_here 5 _law_name 6 _law_others 7 _law_end 8 _law_due 9 _law_voice; comprehensions: ("_law_voice", 9)
abbrev s__law_few : Stmt := hdS T37
theorem c__law_few : FnScope ["_law_hearing", "_law_many", "_law_sizes", "_law_name", "_law_others", "_law_first", "_law_second", "_law_key"] ["_law_hearing"] (defScope s__law_few) := ⟨rfl, rfl, rfl, by decide +kernel, rfl, by decide +kernel, by decide +kernel⟩
-- slots _law_few: 0 _law_hearing 1 _law_many 2 _law_sizes 3 _law_name 4 _law_others 5 _law_first 6 _law_second 7 _law_key
abbrev s__law_says : Stmt := hdS T38
theorem c__law_says : FnScope ["_law_said", "_law_due"] ["_law_said", "_law_due"] (defScope s__law_says) := ⟨rfl, rfl, rfl, by decide +kernel, rfl, by decide +kernel, by decide +kernel⟩
-- slots _law_says: 0 _law_said 1 _law_due
abbrev s__law_is_plan : Stmt := hdS T39
theorem c__law_is_plan : FnScope ["_law_hearing", "_law_steps", "_law_ends", "_law_many", "_law_at", "_law_kind", "_law_one", "_law_other", "_law_most", "_law_end"] ["_law_hearing", "_law_steps", "_law_ends"] (defScope s__law_is_plan) := ⟨rfl, rfl, rfl, by decide +kernel, rfl, by decide +kernel, by decide +kernel⟩
-- slots _law_is_plan: 0 _law_hearing 1 _law_steps 2 _law_ends 3 _law_many 4 _law_at 5 _law_kind 6 _law_one 7 _law_other 8 _law_most 9 _law_end; comprehensions: ("_law_end", 9)
abbrev s__law_each : Stmt := hdS T40
theorem c__law_each : FnScope ["_law_hearing", "_law_speakers", "_law_steps", "_law_ends", "_law_name", "_law_others", "_law_here", "_law_other"] ["_law_hearing", "_law_speakers"] (defScope s__law_each) := ⟨rfl, rfl, rfl, by decide +kernel, rfl, by decide +kernel, by decide +kernel⟩
-- slots _law_each: 0 _law_hearing 1 _law_speakers 2 _law_steps 3 _law_ends 4 _law_name 5 _law_others 6 _law_here 7 _law_other
abbrev s_law : Stmt := hdS T41
theorem c_law : FnScope ["_law_script", "_law_by", "_law_hearing", "_law_speakers", "_law_told", "_law_mine_of", "_law_theirs", "_law_tried", "_law_steps", "_law_ends", "_law_handed", "_law_mine", "_law_answer", "_law_some"] ["_law_script"] (defScope s_law) := ⟨rfl, rfl, rfl, by decide +kernel, rfl, by decide +kernel, by decide +kernel⟩
-- slots law: 0 _law_script 1 _law_by 2 _law_hearing 3 _law_speakers 4 _law_told 5 _law_mine_of 6 _law_theirs 7 _law_tried 8 _law_steps 9 _law_ends 10 _law_handed 11 _law_mine 12 _law_answer 13 _law_some
section
variable {P : Program} {w : World} {K : PySem.W.Frag} {mg : Str → Option Value} {base : Heap}
def cellF (ns : List Int) (k : Int) : Int := if k < ns.length then ns.getD k.toNat 0 else 0
def R_cell : List Slot → Slot → Prop := fun ss s => ∃ ns k, ss = [.scr ns, .da (.int k)] ∧ 0 ≤ k ∧ s = .da (.int (cellF ns k))
theorem ok_cell_at {f : Addr} {fd : FuncData} (F : Fun K "_law_cell_at" "_law_cell_at" s__law_cell_at f fd) (zlen : mg "len" = none) : FnOk P w K mg base CX0 1 f fd ["_law_script", "_law_k"] (spP K R_cell) := by
  refine fun_rt F c__law_cell_at (fun ss s h => ?_) fun cdv A outer s H E hr hu ss sl h => ?_
  · obtain ⟨ns, k, rfl, _⟩ := h; rfl
  · obtain ⟨ns, k, rfl, hk, rfl⟩ := h
    refine' rt_if0 (et_cmp (ex_name 1 rfl) (ex_lenScr 0 rfl zlen) oc_lt) (fun hb => ?a) (fun hb => ?b)
    case a =>
      have hc := of_decide_eq_true hb
      refine' rt_ret (r_return (ex_ixScr 0 rfl (ex_name 1 rfl) (atI_of hk ?_)))
      unfold cellF
      rw [if_pos hc, List.getD_eq_getElem?_getD, List.getElem?_eq_getElem (by omega)]
      rfl
    case b =>
      refine' rt_is (rt_ret (r_return ex_int)) ?_
      unfold cellF
      rw [if_neg (of_decide_eq_false hb)]
def primesL : List Int := [1000003, 1000033, 1000037, 1000039, 1000081, 1000099, 1000117, 1000121, 1000133, 1000151, 1000159, 1000171, 1000183, 1000187, 1000193, 1000199]
def drawF (c k m : Int) : Int := (c * 48271 + k * 69621) % (primesL.getD (k % 16).toNat 1) % m
theorem primes_at (k : Int) : primesL[(k % 16).toNat]? = some (primesL.getD (k % 16).toNat 1) ∧ 0 < primesL.getD (k % 16).toNat 1 := by
  have h0 : 0 ≤ k % 16 := Int.emod_nonneg _ (by decide)
  have h1 : k % 16 < 16 := Int.emod_lt_of_pos _ (by decide)
  have h2 : (k % 16).toNat < 16 := by omega
  revert h2
  generalize (k % 16).toNat = n
  intro h2
  have key : ∀ n : Fin 16, primesL[n.1]? = some (primesL.getD n.1 1) ∧ 0 < primesL.getD n.1 1 := by decide
  exact key ⟨n, h2⟩
def R_draw : List Slot → Slot → Prop := fun ss s => ∃ c k m, ss = [.da (.int c), .da (.int k), .da (.int m)] ∧ 0 < m ∧ s = .da (.int (drawF c k m))
theorem ok_draw {f : Addr} {fd : FuncData} (F : Fun K "_law_draw" "_law_draw" s__law_draw f fd) : FnOk P w K mg base CX0 1 f fd ["_law_cell", "_law_k", "_law_most"] (spP K R_draw) := by
  refine fun_rt F c__law_draw (fun ss s h => ?_) fun cdv A outer s H E hr hu ss sl h => ?_
  · obtain ⟨c, k, m, rfl, _⟩ := h; rfl
  · obtain ⟨c, k, m, rfl, hm, rfl⟩ := h
    obtain ⟨p1, p2⟩ := primes_at k
    show Rt _ _ [.da (.int c), .da (.int k), .da (.int m), .un] _
    refine' rt_cons (r_set 3 c__law_draw.nd ?a1) (rt_ret (r_return (ex_bin ?a2 ?a3 (od_mod hm))))
    case a1 => walk_at "ex"
    case a3 => walk_at "ex"
    refine' ex_bin ?b1 (ex_ixT ?b2 ?b3 (atI_of ?b5 ?b4)) (od_mod p2)
    case b1 => walk_at "ex"
    case b2 => walk_at "ex"
    case b3 => walk_at "ex"
    case b5 => exact Int.emod_nonneg _ (by decide)
    show (primesL.map PyData.int)[(k % 16).toNat]? = _
    rw [List.getElem?_map, p1]
    rfl

/-! ### _law_number -/
def BIG : Int := 1000811284336359577647248616306026718125307353262274591
def divL : List Int := [1, 7, 49, 343, 2401]
def numF (c k l : Int) : Int :=
  if c ≥ 10 ^ 18 then (c - 10 ^ 18) % (divL.getD (k % 5).toNat 1 * l) / divL.getD (k % 5).toNat 1
  else drawF (((if c < -10 ^ 18 then c % BIG else c) + 977 * k) * ((if c < -10 ^ 18 then c % BIG else c) + 31 * k + 5)) (k % 9 + 1) 999983 % l
theorem div_at (k : Int) : divL[(k % 5).toNat]? = some (divL.getD (k % 5).toNat 1) ∧ 0 < divL.getD (k % 5).toNat 1 ∧ divL.getD (k % 5).toNat 1 ≤ 2401 := by
  have h0 : 0 ≤ k % 5 := Int.emod_nonneg _ (by decide)
  have h1 : k % 5 < 5 := Int.emod_lt_of_pos _ (by decide)
  have h2 : (k % 5).toNat < 5 := by omega
  revert h2
  generalize (k % 5).toNat = n
  intro h2
  have key : ∀ n : Fin 5, divL[n.1]? = some (divL.getD n.1 1) ∧ 0 < divL.getD n.1 1 ∧ divL.getD n.1 1 ≤ 2401 := by decide
  exact key ⟨n, h2⟩
theorem num_range {c k l : Int} (hl : 0 < l) : 0 ≤ numF c k l ∧ numF c k l < l := by
  unfold numF
  split
  · obtain ⟨_, d1, d2⟩ := div_at k
    generalize divL.getD (k % 5).toNat 1 = d at d1 d2
    have hm : 0 < d * l := Int.mul_pos d1 hl
    have h1 : 0 ≤ (c - 10 ^ 18) % (d * l) := Int.emod_nonneg _ (by omega)
    have h2 : (c - 10 ^ 18) % (d * l) < d * l := Int.emod_lt_of_pos _ hm
    exact ⟨Int.ediv_nonneg h1 (by omega), Int.ediv_lt_of_lt_mul d1 (by rw [Int.mul_comm l d]; exact h2)⟩
  · exact ⟨Int.emod_nonneg _ (by omega), Int.emod_lt_of_pos _ hl⟩
def R_number : List Slot → Slot → Prop := fun ss s => ∃ c k l, ss = [.da (.int c), .da (.int k), .da (.int l)] ∧ (0 ≤ k ∧ k ≤ 10000 ∧ 0 < l) ∧ s = .da (.int (numF c k l))
theorem mul_small {a b : Int} (ha : a.natAbs < 2 ^ 200) (hb : b.natAbs < 2 ^ 200) : CMulW a b := wide_mul ha hb (by decide) (by decide) (by decide)
local macro_rules | `(tactic| walk_at "call") => `(tactic| (refine' ex_call (x := "_law_draw") (R := R_draw) (by assumption) ?rm ?es ⟨_, _, _, rfl, ?cd, rfl⟩; (case rm => walk_at "rm"); (case es => walk_at "es"); (case cd => omega)))
theorem ok_number {f : Addr} {fd : FuncData} (F : Fun K "_law_number" "_law_number" s__law_number f fd) (CD : Cal P w K mg base "_law_draw" 1 (spP K R_draw)) : FnOk P w K mg base CX0 2 f fd ["_law_cell", "_law_k", "_law_limit"] (spP K R_number) := by
  refine fun_rt F c__law_number (fun ss s h => ?_) fun cdv A outer s H E hr hu ss sl h => ?_
  · obtain ⟨c, k, l, rfl, _⟩ := h; rfl
  · obtain ⟨c, k, l, rfl, ⟨h0, h1, h2⟩, rfl⟩ := h
    show Rt _ _ [.da (.int c), .da (.int k), .da (.int l), .un] _
    obtain ⟨p1, p2, p3⟩ := div_at k
    refine' rt_if0 (b := decide (c ≥ 10 ^ 18)) ?t1 (fun hb => ?a) (fun hb => ?b)
    case t1 => walk_at "et"
    case a =>
      have hc := of_decide_eq_true hb
      refine' rt_cons (r_set 3 c__law_number.nd (ex_ixT (d := .int (divL.getD (k % 5).toNat 1)) ?a1 ?a2 (atI_of ?a3 ?a4))) ?r
      case a1 => walk_at "ex"
      case a2 => walk_at "ex"
      case a3 => exact Int.emod_nonneg _ (by decide)
      case a4 =>
        show (divL.map PyData.int)[(k % 5).toNat]? = _
        rw [List.getElem?_map, p1]
        rfl
      refine' rt_is (rt_ret (r_return (ex_bin (ex_bin ?a1 (ex_bin ?a2 ?a3 (od_mulL ?a4)) (od_mod ?a5)) ?a6 (od_fdiv p2 ?a7)))) ?a8
      case a1 => walk_at "ex"
      case a2 => walk_at "ex"
      case a3 => walk_at "ex"
      case a6 => walk_at "ex"
      case a4 => omega
      case a5 => exact Int.mul_pos p2 h2
      case a7 => omega
      unfold numF
      rw [if_pos hc]
      rfl
    case b =>
      have hc := of_decide_eq_false hb
      have fin : ∀ c' : Int, c' = (if c < -10 ^ 18 then c % BIG else c) → Rt (cxOf CX0 P w K mg base ["_law_cell", "_law_k", "_law_limit", "_law_d"] "_law_number" (defScope s__law_number) f cdv A outer s H E).nox (tlS (tlS (defBody s__law_number))) [.da (.int c'), .da (.int k), .da (.int l), .un] (.da (.int (numF c k l))) := by
        intro c' hc'
        have hbd : c'.natAbs < 2 ^ 190 := by
          rw [hc']
          unfold BIG
          split <;> omega
        refine' rt_is (rt_ret (r_return (ex_bin (ex_call (x := "_law_draw") (R := R_draw) CD ?rm (es_cons (ex_bin ?u1 ?u2 (od_mulW (mul_small ?u3 ?u4))) (es_cons ?u5 (es_cons ?u6 es_nil))) ⟨_, _, _, rfl, ?u7, rfl⟩) ?u8 (od_mod h2)))) ?u9
        case rm => walk_at "rm"
        case u1 => walk_at "ex"
        case u2 => walk_at "ex"
        case u5 => walk_at "ex"
        case u6 => walk_at "ex"
        case u8 => walk_at "ex"
        case u3 => omega
        case u4 => omega
        case u7 => omega
        unfold numF
        rw [if_neg hc, ← hc']
      refine' rt_if (b := decide (c < -10 ^ 18)) ?t1 (fun hb => ?x) (fun hb => ?y)
      case t1 => walk_at "et"
      case x =>
        have hx := of_decide_eq_true hb
        refine' .nx (rs_cons (r_set 0 c__law_number.nd ?v1) rs_nil) (fin (c % BIG) ?v2)
        case v1 => walk_at "ex"
        case v2 => rw [if_pos hx]
      case y =>
        have hx := of_decide_eq_false hb
        exact .nx rs_nil (fin c (by rw [if_neg hx]))

/-! ### _law_names -/
def letter (i : Int) : Str := ⟨#[97 + i.toNat]⟩
def LETT : Str := Str.ofString "abcdefghijklmnopqrstuvwxyz"
theorem lett_at {k : Int} (h0 : 0 ≤ k) (h1 : k < 26) : atI LETT.cps.toList k = some (97 + k.toNat) := by
  refine atI_of h0 ?_
  have h2 : k.toNat < 26 := by omega
  generalize k.toNat = n at h2
  have e : LETT.cps.toList = [97, 98, 99, 100, 101, 102, 103, 104, 105, 106, 107, 108, 109, 110, 111, 112, 113, 114, 115, 116, 117, 118, 119, 120, 121, 122] := by decide +kernel
  rw [e]
  have key : ∀ n : Fin 26, ([97, 98, 99, 100, 101, 102, 103, 104, 105, 106, 107, 108, 109, 110, 111, 112, 113, 114, 115, 116, 117, 118, 119, 120, 121, 122] : List Nat)[n.1]? = some (97 + n.1) := by decide
  exact key ⟨n, h2⟩
theorem lett_len : LETT.length ≤ 100000 := by decide +kernel
def nameAt (t : Int) (at_ : Nat) : Str := letter ((t + 3 * (at_ : Int)) % 26) ++ (if (t + (at_ : Int)) % 3 = 0 then letter ((t / 26 + 5 * (at_ : Int)) % 26) else Str.ofString "")
def turnF (ns : List Int) (by_ : Int) : Int := numF (cellF ns by_) (by_ + 1) 676
def namesF (ns : List Int) (by_ : Int) (n : Nat) : Names := (List.range n).map (nameAt (turnF ns by_))
def R_names : List Slot → Slot → Prop := fun ss s => ∃ ns b n, ss = [.scr ns, .da (.int b), .da (.int n)] ∧ (0 ≤ b ∧ b ≤ 1000 ∧ 0 ≤ n ∧ n ≤ 100) ∧ s = .ow ((namesF ns b n.toNat).map .str)
local macro_rules | `(tactic| walk_at "call") => `(tactic| (refine' ex_call (x := "_law_cell_at") (R := R_cell) (by assumption) ?rm ?es ⟨_, _, rfl, ?cd, rfl⟩; (case rm => walk_at "rm"); (case es => walk_at "es"); (case cd => omega)))
local macro_rules | `(tactic| walk_at "call") => `(tactic| (refine' ex_call (x := "_law_number") (R := R_number) (by assumption) ?rm ?es ⟨_, _, _, rfl, ?cd, rfl⟩; (case rm => walk_at "rm"); (case es => walk_at "es"); (case cd => omega)))
theorem len_ab {x : Str} {t : Int} {b : Prop} [Decidable b] : (letter t).length + (if b then x else Str.ofString "").length ≤ 1 + (x.length + 0) := by
  have h1 : (letter t).length = 1 := rfl
  have h2 : (Str.ofString "").length = 0 := by decide +kernel
  split <;> omega
theorem ok_names {f : Addr} {fd : FuncData} (F : Fun K "_law_names" "_law_names" s__law_names f fd) (CC : Cal P w K mg base "_law_cell_at" 1 (spP K R_cell)) (CN : Cal P w K mg base "_law_number" 2 (spP K R_number)) (zr : mg "range" = none) :
    FnOk P w K mg base CX0 3 f fd ["_law_script", "_law_by", "_law_many"] (spP K R_names) := by
  refine fun_rt F c__law_names (fun ss s h => ?_) fun cdv A outer s H E hr hu ss sl h => ?_
  · obtain ⟨c, k, l, rfl, _⟩ := h; rfl
  · obtain ⟨ns, b, n, rfl, ⟨b0, b1, n0, n1⟩, rfl⟩ := h
    show Rt _ _ [.scr ns, .da (.int b), .da (.int n), .un, .un, .un, .un, .un] _
    refine' rt_cons (r_par3 3 4 5 rfl c__law_names.nd (s1 := .da (.int (turnF ns b))) (s2 := .da (.str LETT)) (s3 := .ow []) ?a1 ?a2 ?a3) ?r
    case a1 => walk_at "ex"
    case a2 => walk_at "ex"
    case a3 => exact ex_lst ea_nil (by decide)
    have ht := num_range (c := cellF ns b) (k := b + 1) (l := 676) (by decide)
    have ht' : 0 ≤ turnF ns b ∧ turnF ns b < 676 := ht
    generalize htt : turnF ns b = t at ht'
    show Rt _ _ [.scr ns, .da (.int b), .da (.int n), .da (.int t), .da (.str LETT), .ow [], .un, .un] _
    refine' rt_cons (r_for PassesOwn.never rfl (it_range1 zr ?b1 ?b2) (for_pre (List.range n.toNat) (fun i => .int (i : Int)) (fun pre => [.scr ns, .da (.int b), .da (.int n), .da (.int t), .da (.str LETT), .ow ((pre.map (nameAt t)).map .str), .un, .un]) (fun pre y post e => ⟨_, _, bt_name 6 c__law_names.nd, .inl ?b3⟩))) ?e
    case b1 => walk_at "ea"
    case b2 => omega
    case e =>
      refine' rt_is (rt_ret (r_returnO 5 rfl)) ?_
      unfold namesF
      rw [htt]
    case b3 =>
      have hy : y < 100 := by
        have hm : y ∈ List.range n.toNat := by rw [e]; simp
        have := List.mem_range.mp hm
        omega
      have hp : pre.length < 100 := by
        have := congrArg List.length e
        simp only [List.length_range, List.length_append, List.length_cons] at this
        omega
      refine' rs_is (rs_weak (.same (.same (.same (.same (.same (.same (.un (.un .nil)))))))) (rs_cons (r_set 7 c__law_names.nd (s := .da (.str (if (t + (y : Int)) % 3 = 0 then letter ((t / 26 + 5 * (y : Int)) % 26) else Str.ofString ""))) ?c1) (rs_cons (r_append 5 rfl (ex_bin (ex_ixS (c := 97 + ((t + 3 * (y : Int)) % 26).toNat) ?c2 ?c3 ?c4 lett_len) ?c5 (od_addS ?c6)) ?c7) rs_nil))) ?c8
      case c1 =>
        refine' ex_if (t := decide ((t + (y : Int)) % 3 = 0)) ?d1 (fun h => ?d2) (fun h => ?d3)
        case d1 => walk_at "et"
        case d2 =>
          rw [if_pos (of_decide_eq_true h)]
          refine' ex_ixS ?_ ?_ (lett_at ?_ ?_) lett_len
          walk_at "ex"
          walk_at "ex"
          omega
          omega
        case d3 =>
          rw [if_neg (of_decide_eq_false h)]
          exact ex_str
      case c2 => walk_at "ex"
      case c3 => walk_at "ex"
      case c4 => exact lett_at (by omega) (by omega)
      case c5 => exact ex_name 7 rfl
      case c6 => exact Nat.le_trans len_ab (Nat.le_trans (Nat.le_of_eq (show _ = 2 from rfl)) (by decide))
      case c7 => rw [List.length_map, List.length_map]; omega
      case c8 =>
        rw [List.map_append, List.map_append]
        rfl
end
end My

set_option Elab.async false
set_option linter.all false
set_option maxRecDepth 100000
set_option maxHeartbeats 1000000
namespace My
open PySem PySem.Spec PyProof.Rows L2 Mx

/-! ### short words for the walk (all local) -/
local macro_rules | `(tactic| walk_at "pl") => `(tactic| first | exact pl_int | exact pl_str | exact pl_bool | exact pl_none | exact pl_dN | exact pl_dH | assumption)
local macro_rules | `(tactic| walk_at "od") => `(tactic| first
  | exact od_add | exact od_sub | exact od_mod (by omega) | exact od_fdiv (by omega) (by omega) | exact od_pow (by decide) | exact od_mulL (by omega) | exact od_mulR (by omega)
  | exact oc_lt | exact oc_le | exact oc_gt | exact oc_ge | exact oc_ltS | exact oc_isN | exact oc_notN
  | exact oc_eqI (by assumption) | exact oc_eqS (by assumption) | exact oc_eqB (by assumption) | exact oc_eqN (by assumption) | exact oc_eqH (by assumption) | exact oc_eqNil (by assumption)
  | exact oc_neI (by assumption) | exact oc_neS (by assumption) | exact oc_neB (by assumption) | exact oc_neN (by assumption) | exact oc_neH (by assumption) | exact oc_neNil (by assumption)
  | exact oc_inN (by assumption) | exact oc_notinN (by assumption)
  | exact oc_eq (by assumption) (by walk_at "pl") (by walk_at "pl") | exact oc_ne (by assumption) (by walk_at "pl") (by walk_at "pl"))
local macro_rules | `(tactic| walk_at "nm") => `(tactic| first
  | exact ex_name 0 rfl | exact ex_name 1 rfl | exact ex_name 2 rfl | exact ex_name 3 rfl | exact ex_name 4 rfl | exact ex_name 5 rfl | exact ex_name 6 rfl | exact ex_name 7 rfl
  | exact ex_name 8 rfl | exact ex_name 9 rfl | exact ex_name 10 rfl | exact ex_name 11 rfl | exact ex_name 12 rfl | exact ex_name 13 rfl | exact ex_name 14 rfl | exact ex_name 15 rfl | exact ex_name 16 rfl | exact ex_name 17 rfl)
local macro_rules | `(tactic| walk_at "call") => `(tactic| fail)
local macro_rules | `(tactic| walk_at "exs") => `(tactic| first
  | walk_at "nm" | exact ex_int | exact ex_str | exact ex_bl | exact ex_non
  | (refine' ex_bin ?a ?b ?o; (case a => walk_at "ex"); (case b => walk_at "ex"); (case o => walk_at "od"))
  | (refine' ex_cmp ?a ?b ?o; (case a => walk_at "ex"); (case b => walk_at "ex"); (case o => walk_at "od"))
  | (refine' ex_not ?a; (case a => walk_at "ex"))
  | (refine' ex_neg ?a; (case a => walk_at "ex"))
  | (refine' ex_one ?a; (case a => walk_at "ex"))
  | (refine' ex_and ?a ?b; (case a => walk_at "ex"); (case b => intro _; walk_at "ex"))
  | (refine' ex_or ?a ?b; (case a => walk_at "ex"); (case b => intro _; walk_at "ex"))
  | (refine' ex_tup ?a ?z; (case a => walk_at "ea"); (case z => simp))
  | (refine' ex_freeze (ex_lst ?a ?z); (case a => walk_at "ea"); (case z => simp))
  | (refine' ex_callB ?a cd_lenL (by assumption); (case a => walk_at "ea"))
  | (refine' ex_callB ?a cd_lenT (by assumption); (case a => walk_at "ea"))
  | walk_at "call")
local macro_rules | `(tactic| walk_at "ex") => `(tactic| first | walk_at "exs" | (refine' ex_star ?h ?f; (case h => walk_at "exs"); (case f => rfl)))
local macro_rules | `(tactic| walk_at "ea") => `(tactic| first | exact ea_nil | (refine' ea_cons ?a ?r; (case a => walk_at "ex"); (case r => walk_at "ea")))
local macro_rules | `(tactic| walk_at "ews") => `(tactic| first
  | (refine' ew_and1 ?a; (case a => walk_at "et"))
  | (refine' ew_or1 ?a; (case a => walk_at "et"))
  | (refine' ew_and ?a ?b; (case a => walk_at "et"); (case b => intro _; walk_at "ews"))
  | (refine' ew_or ?a ?b; (case a => walk_at "et"); (case b => intro _; walk_at "ews")))
local macro_rules | `(tactic| walk_at "ets") => `(tactic| first
  | (refine' et_W ?a; (case a => walk_at "ews"))
  | (refine' et_not ?a; (case a => walk_at "et"))
  | (refine' et_cmp ?a ?b ?o; (case a => walk_at "ex"); (case b => walk_at "ex"); (case o => walk_at "od"))
  | (refine' et_val ?a; (case a => walk_at "ex")))
local macro_rules | `(tactic| walk_at "et") => `(tactic| first | walk_at "ets" | (refine' et_star ?h; (case h => walk_at "ets")))
local macro_rules | `(tactic| walk_at "sh") => `(tactic| first | exact shd_da | exact shd_scr | exact shd_ob)
local macro_rules | `(tactic| walk_at "nmS") => `(tactic| first
  | exact ex_nameS 0 rfl (by walk_at "sh") | exact ex_nameS 1 rfl (by walk_at "sh") | exact ex_nameS 2 rfl (by walk_at "sh") | exact ex_nameS 3 rfl (by walk_at "sh") | exact ex_nameS 4 rfl (by walk_at "sh") | exact ex_nameS 5 rfl (by walk_at "sh")
  | exact ex_nameS 6 rfl (by walk_at "sh") | exact ex_nameS 7 rfl (by walk_at "sh") | exact ex_nameS 8 rfl (by walk_at "sh") | exact ex_nameS 9 rfl (by walk_at "sh") | exact ex_nameS 10 rfl (by walk_at "sh") | exact ex_nameS 11 rfl (by walk_at "sh"))
local macro_rules | `(tactic| walk_at "es") => `(tactic| first
  | exact es_nil
  | (refine' es_cons ?a ?r; (case a => (first | walk_at "ex" | walk_at "nmS")); (case r => walk_at "es"))
  | (refine' es_cons ?a ?r shd_scr; (case a => walk_at "nmS"); (case r => walk_at "es"))
  | (refine' es_cons ?a ?r shd_ob; (case a => (first | walk_at "ex" | walk_at "nmS")); (case r => walk_at "es")))
local macro_rules | `(tactic| walk_at "rm") => `(tactic| exact Room.mono (by assumption) (by decide))
local macro_rules | `(tactic| walk_at "call") => `(tactic| (refine' ex_call (x := "_law_cell_at") (R := R_cell) (by assumption) ?rm ?es ⟨_, _, rfl, ?cd, rfl⟩; (case rm => walk_at "rm"); (case es => walk_at "es"); (case cd => omega)))
local macro_rules | `(tactic| walk_at "call") => `(tactic| (refine' ex_call (x := "_law_number") (R := R_number) (by assumption) ?rm ?es ⟨_, _, _, rfl, ?cd, rfl⟩; (case rm => walk_at "rm"); (case es => walk_at "es"); (case cd => omega)))
section
variable {P : Program} {w : World} {K : PySem.W.Frag} {mg : Str → Option Value} {base : Heap}
/-! ### _law_drawn -/
def hearsF (ns : List Int) (b kind : Int) (a p : Nat) : Bool :=
  decide (kind = 0) || (decide (kind % 3 < numF (cellF ns (b + (a : Int) % 5) + 7 * (p : Int)) ((a : Int) + (p : Int)) 3) || (decide (kind = 3) && decide (0 < (p : Int) % 3)))
def othersF (ns : List Int) (b kind : Int) (a : Nat) (x : Str) (l : List (Str × Nat)) : Names := (l.filter fun q => !decide (x = q.1) && hearsF ns b kind a q.2).map (·.1)
def cntF (ns : List Int) (b : Int) : Int := numF (cellF ns b) (b + 2) 8
def namF (ns : List Int) (b : Int) : Names := sortS (namesF ns b (cntF ns b).toNat)
def kindF (ns : List Int) (b : Int) : Int := numF (cellF ns b) (b + 3) 4
def drawnF (ns : List Int) (b : Int) : Hear := (namF ns b).zipIdx.map fun q => (q.1, othersF ns b (kindF ns b) q.2 q.1 (namF ns b).zipIdx)
theorem cnt_range (ns : List Int) (b : Int) : 0 ≤ cntF ns b ∧ cntF ns b < 8 := num_range (by decide)
theorem kind_range (ns : List Int) (b : Int) : 0 ≤ kindF ns b ∧ kindF ns b < 4 := num_range (by decide)
theorem namF_len (ns : List Int) (b : Int) : (namF ns b).length ≤ 7 := by
  unfold namF namesF
  rw [sortS_len, List.length_map, List.length_range]
  have := cnt_range ns b
  omega
def R_drawn : List Slot → Slot → Prop := fun ss s => ∃ ns b, ss = [.scr ns, .da (.int b)] ∧ (0 ≤ b ∧ b ≤ 100) ∧ s = .ow ((drawnF ns b).map dP)
theorem ok_drawn {f : Addr} {fd : FuncData} (F : Fun K "_law_drawn" "_law_drawn" s__law_drawn f fd) (CC : Cal P w K mg base "_law_cell_at" 1 (spP K R_cell)) (CN : Cal P w K mg base "_law_number" 2 (spP K R_number)) (CM : Cal P w K mg base "_law_names" 3 (spP K R_names))
    (ze : mg "enumerate" = none) (zs : mg "sorted" = none) : FnOk P w K mg base CX0 4 f fd ["_law_script", "_law_by"] (spP K R_drawn) := by
  refine fun_rt F c__law_drawn (fun ss s h => ?_) fun cdv A outer s H E hr hu ss sl h => ?_
  · obtain ⟨c, k, rfl, _⟩ := h; rfl
  · obtain ⟨ns, b, rfl, ⟨b0, b1⟩, rfl⟩ := h
    show Rt _ _ [.scr ns, .da (.int b), .un, .un, .un, .un, .un, .un, .un, .un, .un, .un] _
    have hcnt := cnt_range ns b
    have hnl : (namesF ns b (cntF ns b).toNat).length < 64 := by unfold namesF; rw [List.length_map, List.length_range]; omega
    refine' rt_cons (r_set 2 c__law_drawn.nd (ex_freeze (ex_callB (ea_cons (ex_freeze (ex_call CM ?rm (es_cons ?e1 (es_cons ?e2 (es_cons (s := .da (.int (cntF ns b))) ?e3 es_nil)) shd_scr) ⟨ns, b, cntF ns b, rfl, ?cd, rfl⟩)) ea_nil) (cd_sortedS hnl) zs))) ?r
    case rm => walk_at "rm"
    case e1 => walk_at "nmS"
    case e2 => walk_at "ex"
    case e3 => walk_at "ex"
    case cd => omega
    refine' rt_cons (r_par 3 4 rfl c__law_drawn.nd (s1 := .da (.int (kindF ns b))) (s2 := .ow []) ?a1 (ex_lst ea_nil (by decide))) ?rr
    case a1 => walk_at "ex"
    have hkind := kind_range ns b
    have hlen := namF_len ns b
    have hdr : drawnF ns b = (namF ns b).zipIdx.map fun q => (q.1, othersF ns b (kindF ns b) q.2 q.1 (namF ns b).zipIdx) := rfl
    rw [hdr]
    show Rt _ _ [.scr ns, .da (.int b), .da (dN (namF ns b)), .da (.int (kindF ns b)), .ow [], .un, .un, .un, .un, .un, .un, .un] _
    generalize kindF ns b = kd at hkind
    generalize namF ns b = xs at hlen
    have hzl : xs.zipIdx.length = xs.length := List.length_zipIdx
    refine' rt_cons (r_for PassesOwn.never rfl (it_enumN ze ?b1) (for_pre xs.zipIdx dI (fun pre => [.scr ns, .da (.int b), .da (dN xs), .da (.int kd), .ow ((pre.map fun q => (q.1, othersF ns b kd q.2 q.1 xs.zipIdx)).map dP), .un, .un, .un, .un, .un, .un, .un]) (fun pre q post e => ⟨_, _, bt_tup rfl (bts_cons (bt_name 5 c__law_drawn.nd) (bts_cons (bt_name 6 c__law_drawn.nd) bts_nil)), .inl (by
        obtain ⟨x, a⟩ := q
        have hq := zip_mem (xs := xs) (q := (x, a)) (by rw [e]; simp)
        have hpl : pre.length < 10 := by have := congrArg List.length e; simp at this; omega
        simp only at hq
        refine' rs_cons (r_set 7 c__law_drawn.nd (ex_lst ea_nil (by decide))) ?r1
        refine' rs_cons (r_for PassesOwn.never rfl (it_enumN ze ?c1) (for_pre xs.zipIdx dI (fun pr => [.scr ns, .da (.int b), .da (dN xs), .da (.int kd), .ow ((pre.map fun q => (q.1, othersF ns b kd q.2 q.1 xs.zipIdx)).map dP), .da (.int (a : Nat)), .da (.str x), .ow ((othersF ns b kd a x pr).map .str), .un, .un, .un, .un]) (fun pr q post e => ⟨_, _, bt_tup rfl (bts_cons (bt_name 8 c__law_drawn.nd) (bts_cons (bt_name 9 c__law_drawn.nd) bts_nil)), .inl (by
            obtain ⟨y, p⟩ := q
            have hq2 := zip_mem (xs := xs) (q := (y, p)) (by rw [e]; simp)
            simp only at hq2
            have hpl2 : pr.length < 10 := by have := congrArg List.length e; simp at this; omega
            have hol : (othersF ns b kd a x pr).length < 10 := by
              unfold othersF
              rw [List.length_map]
              have := List.length_filter_le (fun q : Str × Nat => !decide (x = q.1) && hearsF ns b kd a q.2) pr
              omega
            have hadd : othersF ns b kd a x (pr ++ [(y, p)]) = if (!decide (x = y) && hearsF ns b kd a p) = true then othersF ns b kd a x pr ++ [y] else othersF ns b kd a x pr := by
              unfold othersF
              rw [List.filter_append, List.map_append, List.filter_cons]
              split <;> simp
            refine' rs_weak (.same (.same (.same (.same (.same (.same (.same (.same (.un (.un (.un (.un .nil)))))))))))) (rs_cons (r_set 10 c__law_drawn.nd ?d1) (rs_cons (r_set 11 c__law_drawn.nd (s := .da (.bool (hearsF ns b kd a p))) ?d2) (rs_cons (r_if (b := !decide (x = y) && hearsF ns b kd a p) ?d3 (fun h => ?d4) (fun h => ?d5)) rs_nil)))
            case d1 => walk_at "ex"
            case d2 => walk_at "ex"
            case d3 => walk_at "et"
            case d4 =>
              rw [hadd, if_pos h]
              refine' rs_is (rs_cons (r_append 7 rfl (ex_name 9 rfl) ?f1) rs_nil) ?f2
              case f1 => rw [List.length_map]; omega
              case f2 => rw [List.map_append]; rfl
            case d5 =>
              rw [hadd, if_neg (by rw [h]; decide)]
              exact rs_nil)⟩))) ?r2
        case c1 => walk_at "ea"
        refine' rs_freeze 7 rfl (rs_is (rs_weak (.same (.same (.same (.same (.same (.un (.un (.un (.un (.un (.un (.un .nil)))))))))))) (rs_cons (r_append 4 rfl ?g1 ?g2) rs_nil)) ?g3)
        case g1 => walk_at "ex"
        case g2 => rw [List.length_map, List.length_map]; omega
        case g3 => rw [List.map_append, List.map_append]; rfl)⟩))) ?e
    case b1 => walk_at "ea"
    case e => exact rt_ret (r_returnO 4 rfl)
end
end My

set_option Elab.async false
set_option linter.all false
set_option maxRecDepth 100000
set_option maxHeartbeats 1000000
namespace My
open PySem PySem.Spec PyProof.Rows L2 Mx

/-! ### short words for the walk (all local) -/
local macro_rules | `(tactic| walk_at "pl") => `(tactic| first | exact pl_int | exact pl_str | exact pl_bool | exact pl_none | exact pl_dN | exact pl_dH | assumption)
local macro_rules | `(tactic| walk_at "od") => `(tactic| first
  | exact od_add | exact od_sub | exact od_mod (by omega) | exact od_fdiv (by omega) (by omega) | exact od_pow (by decide) | exact od_mulL (by omega) | exact od_mulR (by omega)
  | exact oc_lt | exact oc_le | exact oc_gt | exact oc_ge | exact oc_ltS | exact oc_isN | exact oc_notN
  | exact oc_eqI (by assumption) | exact oc_eqS (by assumption) | exact oc_eqB (by assumption) | exact oc_eqN (by assumption) | exact oc_eqH (by assumption) | exact oc_eqNil (by assumption)
  | exact oc_neI (by assumption) | exact oc_neS (by assumption) | exact oc_neB (by assumption) | exact oc_neN (by assumption) | exact oc_neH (by assumption) | exact oc_neNil (by assumption)
  | exact oc_inN (by assumption) | exact oc_notinN (by assumption)
  | exact oc_eq (by assumption) (by walk_at "pl") (by walk_at "pl") | exact oc_ne (by assumption) (by walk_at "pl") (by walk_at "pl"))
local macro_rules | `(tactic| walk_at "nm") => `(tactic| first
  | exact ex_name 0 rfl | exact ex_name 1 rfl | exact ex_name 2 rfl | exact ex_name 3 rfl | exact ex_name 4 rfl | exact ex_name 5 rfl | exact ex_name 6 rfl | exact ex_name 7 rfl
  | exact ex_name 8 rfl | exact ex_name 9 rfl | exact ex_name 10 rfl | exact ex_name 11 rfl | exact ex_name 12 rfl | exact ex_name 13 rfl | exact ex_name 14 rfl | exact ex_name 15 rfl | exact ex_name 16 rfl | exact ex_name 17 rfl)
local macro_rules | `(tactic| walk_at "call") => `(tactic| fail)
local macro_rules | `(tactic| walk_at "exs") => `(tactic| first
  | walk_at "nm" | exact ex_int | exact ex_str | exact ex_bl | exact ex_non
  | (refine' ex_bin ?a ?b ?o; (case a => walk_at "ex"); (case b => walk_at "ex"); (case o => walk_at "od"))
  | (refine' ex_cmp ?a ?b ?o; (case a => walk_at "ex"); (case b => walk_at "ex"); (case o => walk_at "od"))
  | (refine' ex_not ?a; (case a => walk_at "ex"))
  | (refine' ex_neg ?a; (case a => walk_at "ex"))
  | (refine' ex_one ?a; (case a => walk_at "ex"))
  | (refine' ex_and ?a ?b; (case a => walk_at "ex"); (case b => intro _; walk_at "ex"))
  | (refine' ex_or ?a ?b; (case a => walk_at "ex"); (case b => intro _; walk_at "ex"))
  | (refine' ex_tup ?a ?z; (case a => walk_at "ea"); (case z => simp))
  | (refine' ex_freeze (ex_lst ?a ?z); (case a => walk_at "ea"); (case z => simp))
  | (refine' ex_callB ?a cd_lenL (by assumption); (case a => walk_at "ea"))
  | (refine' ex_callB ?a cd_lenT (by assumption); (case a => walk_at "ea"))
  | walk_at "call")
local macro_rules | `(tactic| walk_at "ex") => `(tactic| first | walk_at "exs" | (refine' ex_star ?h ?f; (case h => walk_at "exs"); (case f => rfl)))
local macro_rules | `(tactic| walk_at "ea") => `(tactic| first | exact ea_nil | (refine' ea_cons ?a ?r; (case a => walk_at "ex"); (case r => walk_at "ea")))
local macro_rules | `(tactic| walk_at "ews") => `(tactic| first
  | (refine' ew_and1 ?a; (case a => walk_at "et"))
  | (refine' ew_or1 ?a; (case a => walk_at "et"))
  | (refine' ew_and ?a ?b; (case a => walk_at "et"); (case b => intro _; walk_at "ews"))
  | (refine' ew_or ?a ?b; (case a => walk_at "et"); (case b => intro _; walk_at "ews")))
local macro_rules | `(tactic| walk_at "ets") => `(tactic| first
  | (refine' et_W ?a; (case a => walk_at "ews"))
  | (refine' et_not ?a; (case a => walk_at "et"))
  | (refine' et_cmp ?a ?b ?o; (case a => walk_at "ex"); (case b => walk_at "ex"); (case o => walk_at "od"))
  | (refine' et_val ?a; (case a => walk_at "ex")))
local macro_rules | `(tactic| walk_at "et") => `(tactic| first | walk_at "ets" | (refine' et_star ?h; (case h => walk_at "ets")))
local macro_rules | `(tactic| walk_at "sh") => `(tactic| first | exact shd_da | exact shd_scr | exact shd_ob)
local macro_rules | `(tactic| walk_at "nmS") => `(tactic| first
  | exact ex_nameS 0 rfl (by walk_at "sh") | exact ex_nameS 1 rfl (by walk_at "sh") | exact ex_nameS 2 rfl (by walk_at "sh") | exact ex_nameS 3 rfl (by walk_at "sh") | exact ex_nameS 4 rfl (by walk_at "sh") | exact ex_nameS 5 rfl (by walk_at "sh")
  | exact ex_nameS 6 rfl (by walk_at "sh") | exact ex_nameS 7 rfl (by walk_at "sh") | exact ex_nameS 8 rfl (by walk_at "sh") | exact ex_nameS 9 rfl (by walk_at "sh") | exact ex_nameS 10 rfl (by walk_at "sh") | exact ex_nameS 11 rfl (by walk_at "sh"))
local macro_rules | `(tactic| walk_at "es") => `(tactic| first
  | exact es_nil
  | (refine' es_cons ?a ?r; (case a => (first | walk_at "ex" | walk_at "nmS")); (case r => walk_at "es"))
  | (refine' es_cons ?a ?r shd_scr; (case a => walk_at "nmS"); (case r => walk_at "es"))
  | (refine' es_cons ?a ?r shd_ob; (case a => (first | walk_at "ex" | walk_at "nmS")); (case r => walk_at "es")))
local macro_rules | `(tactic| walk_at "rm") => `(tactic| exact Room.mono (by assumption) (by decide))
section
variable {P : Program} {w : World} {K : PySem.W.Frag} {mg : Str → Option Value} {base : Heap}
/-! ### is_name -/
def R_isName : List Slot → Slot → Prop := fun ss s => ∃ x, ss = [.da (.str x)] ∧ NameOk LETT x ∧ s = .da (.bool true)
theorem ok_isName {f : Addr} {fd : FuncData} {tL : Tok} (F : Fun K "is_name" "is_name" s_is_name f fd) (zi : mg "isinstance" = none) (zs : mg "str" = none) (zl : mg "len" = none) (za : mg "all" = none) (gL : mg "LETTERS" = some (.str LETT tL)) : FnOk P w K mg base CX0 1 f fd ["thing"] (spP K R_isName) := by
  refine fun_rt F c_is_name (fun ss s h => ?_) fun cdv A outer s H E hr hu ss sl h => ?_
  · obtain ⟨x, rfl, _⟩ := h; rfl
  · obtain ⟨x, rfl, ⟨n1, n2, n3⟩, rfl⟩ := h
    show Rt _ _ [.da (.str x), .un] _
    refine' rt_ret (r_return (EX.is (ex_and (ex_isi (ex_name 0 rfl) (kitB_str _) zi zs) fun _ => ex_and (ex_chain (t := true) (t' := true) ex_int (ex_callB (ea_cons (ex_name 0 rfl) ea_nil) (cd_lenS (by omega)) zl) (fun _ => ex_int) (oc_le.is ?c1) fun _ => oc_le.is ?c2) fun _ =>
      ex_one (ex_callB (ea_cons (ex_freeze (ex_lcA [("sign", 1)] x.cps.toList (fun c => .str ⟨#[c]⟩) (fun c => .bool (decide (c ∈ LETT.cps.toList))) rfl c_is_name.nd (blkOk_by (by kernel_rfl)) (it_str (ex_name 0 rfl)) (fun y _ => ?lc) ?ln)) ea_nil) (cd_allF rfl) za)) ?e))
    case c1 => rw [decide_eq_true (by omega)]
    case c2 => rw [decide_eq_true (by omega)]
    case lc =>
      refine ⟨_, _, ?_, fun s0 H0 C cl fp => ⟨bt_name 1 c_is_name.nd, ets_nil, fun _ => ex_cmp (ex_name 1 rfl) (ex_globS gL) oc_inSg⟩⟩
      decide
    case ln =>
      have : x.cps.toList.length = x.length := by simp [Str.length]
      omega
    case e =>
      have : x.cps.toList.all (fun c => decide (c ∈ LETT.cps.toList)) = true := List.all_eq_true.mpr fun c hc => decide_eq_true (n3 c hc)
      rw [this]
      rfl
/-! ### is_rising -/
def R_isRising : List Slot → Slot → Prop := fun ss s => ∃ l, ss = [.da (dN l)] ∧ Rising l ∧ l.length ≤ 1000 ∧ s = .da (.bool true)
theorem ok_isRising {f : Addr} {fd : FuncData} (F : Fun K "is_rising" "is_rising" s_is_rising f fd) (zz : mg "zip" = none) (za : mg "all" = none) : FnOk P w K mg base CX0 1 f fd ["line"] (spP K R_isRising) := by
  refine fun_rt F c_is_rising (fun ss s h => ?_) fun cdv A outer s H E hr hu ss sl h => ?_
  · obtain ⟨x, rfl, _⟩ := h; rfl
  · obtain ⟨l, rfl, hri, hl, rfl⟩ := h
    show Rt _ _ [.da (dN l), .un, .un] _
    have ec : Mx.cutD (l.map .str) (some 1) none = (l.drop 1).map .str := cut_from .str 1 l
    refine' rt_ret (r_return (EX.is (ex_callB (ea_cons (ex_freeze (ex_lcA [("one", 1), ("other", 2)] (l.zip (l.drop 1)) (fun p => .tuple [.str p.1, .str p.2]) (fun p => .bool (ltS p.1 p.2)) rfl c_is_rising.nd (blkOk_by (by kernel_rfl))
      (it_zipM .str .str zz (ea_cons (ex_name 0 rfl) (ea_cons (EX.is (ex_freeze (ex_slL (ex_name 0 rfl) (eo_some ex_int) eo_none)) (congrArg PyData.list ec)) ea_nil))) (fun y _ => ?lc) ?ln)) ea_nil) (cd_allF rfl) za) ?e))
    case lc =>
      refine ⟨_, _, ?_, fun s0 H0 C cl fp => ⟨bt_tup rfl (bts_cons (bt_name 1 c_is_rising.nd) (bts_cons (bt_name 2 c_is_rising.nd) bts_nil)), ets_nil, fun _ => ex_cmp (ex_name 1 rfl) (ex_name 2 rfl) oc_ltS⟩⟩
      decide
    case ln => rw [List.length_zip]; omega
    case e => exact congrArg PyData.bool (rising_B hri)
/-! ### is_pair -/
def R_isPair : List Slot → Slot → Prop := fun ss s => ∃ p : Str × Names, ss = [.da (dP p)] ∧ NameOk LETT p.1 ∧ (∀ n ∈ p.2, NameOk LETT n) ∧ p.2.length ≤ 1000 ∧ s = .da (.bool true)
theorem ok_isPair {f : Addr} {fd : FuncData} (F : Fun K "is_pair" "is_pair" s_is_pair f fd) (CN : Cal P w K mg base "is_name" 1 (spP K R_isName)) (zi : mg "isinstance" = none) (zt : mg "tuple" = none) (zli : mg "list" = none) (zl : mg "len" = none) (za : mg "all" = none) : FnOk P w K mg base CX0 2 f fd ["thing"] (spP K R_isPair) := by
  refine fun_rt F c_is_pair (fun ss s h => ?_) fun cdv A outer s H E hr hu ss sl h => ?_
  · obtain ⟨x, rfl, _⟩ := h; rfl
  · obtain ⟨p, rfl, h1, h2, hl, rfl⟩ := h
    show Rt _ _ [.da (dP p), .un] _
    refine' rt_if0 (b := false) (ET.is (et_W (ew_or (et_not (et_val (ex_isi (ex_name 0 rfl) (kitB_tuple _) zi zt))) fun _ => ew_or (et_cmp (ex_callB (ea_cons (ex_name 0 rfl) ea_nil) cd_lenT zl) ex_int (oc_neI hu)) fun _ =>
      ew_or (et_not (et_val (ex_call CN ?m1 (es_cons (ex_ixT (d := .str p.1) (ex_name 0 rfl) ex_int rfl) es_nil) ⟨p.1, rfl, h1, rfl⟩))) fun _ => ew_or1 (et_not (et_val (ex_isi (ex_ixT (d := dN p.2) (ex_name 0 rfl) ex_int rfl) (kitB_list _) zi zli))))) ?e1) (fun z => nomatch z) fun _ => ?r
    case m1 => walk_at "rm"
    case e1 => rfl
    refine' rt_ret (r_return (EX.is (ex_callB (ea_cons (ex_freeze (ex_lcA [("name", 1)] p.2 .str (fun _ => .bool true) rfl c_is_pair.nd (blkOk_by (by kernel_rfl)) (it_list (ex_ixT (d := dN p.2) (ex_name 0 rfl) ex_int rfl)) (fun y hy => ?lc) (by omega))) ea_nil) (cd_allF rfl) za) ?e))
    case lc =>
      refine ⟨_, _, ?_, fun s0 H0 C cl fp => ⟨bt_name 1 c_is_pair.nd, ets_nil, fun _ => ex_call CN (by walk_at "rm") (es_cons (ex_name 1 rfl) es_nil) ⟨y, rfl, h2 y hy, rfl⟩⟩⟩
      decide
    case e => simp
/-! ### is_hearing -/
def R_isHear : List Slot → Slot → Prop := fun ss s => ∃ h, ss = [.da (dH h)] ∧ Valid LETT h ∧ s = .da (.bool true)
theorem ok_isHear {f : Addr} {fd : FuncData} {tM : Tok} (F : Fun K "is_hearing" "is_hearing" s_is_hearing f fd) (CP : Cal P w K mg base "is_pair" 2 (spP K R_isPair)) (CR : Cal P w K mg base "is_rising" 1 (spP K R_isRising)) (zi : mg "isinstance" = none) (zli : mg "list" = none) (zl : mg "len" = none) (za : mg "all" = none) (gM : mg "MOST" = some (.int 7 tM)) :
    FnOk P w K mg base CX0 3 f fd ["thing"] (spP K R_isHear) := by
  refine fun_rt F c_is_hearing (fun ss s h => ?_) fun cdv A outer s H E hr hu ss sl h => ?_
  · obtain ⟨x, rfl, _⟩ := h; rfl
  · obtain ⟨h, rfl, V, rfl⟩ := h
    show Rt _ _ [.da (dH h), .un, .un, .un, .un, .un] _
    have hlen := V.len
    refine' rt_if0 (b := false) (ET.is (et_W (ew_or (et_not (et_val (ex_isi (ex_name 0 rfl) (kitB_list _) zi zli))) fun _ => ew_or (et_cmp (ex_callB (ea_cons (ex_name 0 rfl) ea_nil) cd_lenL zl) (ex_globI gM) oc_gt) fun _ =>
      ew_or1 (et_not (et_val (ex_callB (ea_cons (ex_freeze (ex_lcA [("pair", 4)] h dP (fun _ => .bool true) rfl c_is_hearing.nd (blkOk_by (by kernel_rfl)) (it_list (ex_name 0 rfl)) (fun y hy => ?lc) (by omega))) ea_nil) (cd_allF rfl) za))))) ?e1) (fun z => nomatch z) fun _ => ?r
    case lc =>
      refine ⟨_, _, ?_, fun s0 H0 C cl fp => ⟨bt_name 4 c_is_hearing.nd, ets_nil, fun _ => ex_call CP (by walk_at "rm") (es_cons (ex_name 4 rfl) es_nil) ⟨y, rfl, (V.nm y hy).1, (V.nm y hy).2, Nat.le_trans (V.olen hy) (by decide), rfl⟩⟩⟩
      decide
    case e1 =>
      rw [List.length_map]
      have : decide ((7 : Int) < (h.length : Nat)) = false := decide_eq_false (by omega)
      rw [this]
      simp [tyD, dH]
    refine' rt_cons (r_set 1 c_is_hearing.nd (ex_lcA [("name", 2), ("others", 3)] h dP (fun y => .str y.1) rfl c_is_hearing.nd (blkOk_by (by kernel_rfl)) (it_list (ex_name 0 rfl)) (fun y _ => ?lc2) (by omega)) (hs := sw_cell (by kernel_rfl))) ?r2
    case lc2 =>
      refine ⟨_, _, ?_, fun s0 H0 C cl fp => ⟨bt_tup rfl (bts_cons (bt_name 2 c_is_hearing.nd) (bts_cons (bt_name 3 c_is_hearing.nd) bts_nil)), ets_nil, fun _ => ex_name 2 rfl⟩⟩
      decide
    have en : h.map (fun y => PyData.str y.1) = (h.map (·.1)).map .str := by rw [List.map_map]; rfl
    rw [en]
    refine rt_freeze 1 rfl ?_
    show Rt _ _ [.da (dH h), .da (dN (h.map (·.1))), .un, .un, .un, .un] _
    refine' rt_cons (r_for PassesOwn.never rfl (it_list (ex_name 0 rfl)) (for_pre h dP (fun _ => [.da (dH h), .da (dN (h.map (·.1))), .un, .un, .un, .un]) (fun pre p post e => ⟨_, _, bt_tup rfl (bts_cons (bt_name 2 c_is_hearing.nd) (bts_cons (bt_name 3 c_is_hearing.nd) bts_nil)), .inl (by
      have hp : p ∈ h := by rw [e]; simp
      obtain ⟨o1, o2, o3⟩ := V.ot p hp
      have ol := V.olen hp
      refine' rs_weak (ρ1 := [.da (dH h), .da (dN (h.map (·.1))), .da (.str p.1), .da (dN p.2), .un, .un]) (.same (.same (.un (.un (.same (.same .nil)))))) (rs_cons (r_if (b := false) (ET.is (et_W (ew_or (et_cmp (ex_name 2 rfl) (ex_name 3 rfl) (oc_inN hu)) fun _ => ew_or (et_not (et_val (ex_call CR ?m1 (es_cons (ex_name 3 rfl) es_nil) ⟨p.2, rfl, o2, by omega, rfl⟩))) fun _ =>
        ew_or1 (et_not (et_val (ex_callB (ea_cons (ex_freeze (ex_lcA [("one", 5)] p.2 .str (fun y => .bool (decide (y ∈ h.map (·.1)))) rfl c_is_hearing.nd (blkOk_by (by kernel_rfl)) (it_list (ex_name 3 rfl)) (fun y hy => ?lc3) (by omega))) ea_nil) (cd_allF rfl) za))))) ?e2) (fun z => nomatch z) fun _ => rs_nil) rs_nil)
      case m1 => walk_at "rm"
      case lc3 =>
        refine ⟨_, _, ?_, fun s0 H0 C cl fp => ⟨bt_name 5 c_is_hearing.nd, ets_nil, fun _ => ex_cmp (ex_name 5 rfl) (ex_name 1 rfl) (oc_inN hu)⟩⟩
        decide
      case e2 =>
        have : p.2.all (fun y => decide (y ∈ h.map (·.1))) = true := List.all_eq_true.mpr fun c hc => decide_eq_true (o3 c hc)
        rw [this, decide_eq_false o1]
        rfl)⟩))) ?r3
    exact rt_ret (r_return (ex_call CR (by walk_at "rm") (es_cons (ex_name 1 rfl) es_nil) ⟨h.map (·.1), rfl, V.ri, by rw [List.length_map]; omega, rfl⟩))
/-! ### check_hearing -/
def R_chk : List Slot → Slot → Prop := fun ss s => ∃ h, ss = [.da (dH h)] ∧ Valid LETT h ∧ s = .da .none
theorem ok_chk {f : Addr} {fd : FuncData} (F : Fun K "check_hearing" "check_hearing" s_check_hearing f fd) (CH : Cal P w K mg base "is_hearing" 3 (spP K R_isHear)) : FnOk P w K mg base CX0 4 f fd ["hearing"] (spP K R_chk) := by
  refine fun_pure F c_check_hearing (fun ss s h => ?_) fun cdv A outer s H E hr ss sl h => ?_
  · obtain ⟨x, rfl, _⟩ := h; rfl
  · obtain ⟨h, rfl, V, rfl⟩ := h
    refine ⟨[.da (dH h)], .inr ⟨rfl, ?_⟩⟩
    show RS _ _ [.da (dH h)] _
    exact rs_cons (r_if (b := false) (ET.is (et_not (et_val (ex_call CH (by walk_at "rm") (es_cons (ex_name 0 rfl) es_nil) ⟨h, rfl, V, rfl⟩))) rfl) (fun z => nomatch z) fun _ => rs_nil) rs_nil
end
end My

set_option Elab.async false
set_option linter.all false
set_option maxRecDepth 100000
set_option maxHeartbeats 1000000
namespace My
open PySem PySem.Spec PyProof.Rows L2 Mx

/-! ### short words for the walk (all local) -/
local macro_rules | `(tactic| walk_at "pl") => `(tactic| first | exact pl_int | exact pl_str | exact pl_bool | exact pl_none | exact pl_dN | exact pl_dH | assumption)
local macro_rules | `(tactic| walk_at "od") => `(tactic| first
  | exact od_add | exact od_sub | exact od_mod (by omega) | exact od_fdiv (by omega) (by omega) | exact od_pow (by decide) | exact od_mulL (by omega) | exact od_mulR (by omega)
  | exact oc_lt | exact oc_le | exact oc_gt | exact oc_ge | exact oc_ltS | exact oc_isN | exact oc_notN
  | exact oc_eqI (by assumption) | exact oc_eqS (by assumption) | exact oc_eqB (by assumption) | exact oc_eqN (by assumption) | exact oc_eqH (by assumption) | exact oc_eqNil (by assumption)
  | exact oc_neI (by assumption) | exact oc_neS (by assumption) | exact oc_neB (by assumption) | exact oc_neN (by assumption) | exact oc_neH (by assumption) | exact oc_neNil (by assumption)
  | exact oc_inN (by assumption) | exact oc_notinN (by assumption)
  | exact oc_eq (by assumption) (by walk_at "pl") (by walk_at "pl") | exact oc_ne (by assumption) (by walk_at "pl") (by walk_at "pl"))
local macro_rules | `(tactic| walk_at "nm") => `(tactic| first
  | exact ex_name 0 rfl | exact ex_name 1 rfl | exact ex_name 2 rfl | exact ex_name 3 rfl | exact ex_name 4 rfl | exact ex_name 5 rfl | exact ex_name 6 rfl | exact ex_name 7 rfl
  | exact ex_name 8 rfl | exact ex_name 9 rfl | exact ex_name 10 rfl | exact ex_name 11 rfl | exact ex_name 12 rfl | exact ex_name 13 rfl | exact ex_name 14 rfl | exact ex_name 15 rfl | exact ex_name 16 rfl | exact ex_name 17 rfl)
local macro_rules | `(tactic| walk_at "call") => `(tactic| fail)
local macro_rules | `(tactic| walk_at "exs") => `(tactic| first
  | walk_at "nm" | exact ex_int | exact ex_str | exact ex_bl | exact ex_non
  | (refine' ex_bin ?a ?b ?o; (case a => walk_at "ex"); (case b => walk_at "ex"); (case o => walk_at "od"))
  | (refine' ex_cmp ?a ?b ?o; (case a => walk_at "ex"); (case b => walk_at "ex"); (case o => walk_at "od"))
  | (refine' ex_not ?a; (case a => walk_at "ex"))
  | (refine' ex_neg ?a; (case a => walk_at "ex"))
  | (refine' ex_one ?a; (case a => walk_at "ex"))
  | (refine' ex_and ?a ?b; (case a => walk_at "ex"); (case b => intro _; walk_at "ex"))
  | (refine' ex_or ?a ?b; (case a => walk_at "ex"); (case b => intro _; walk_at "ex"))
  | (refine' ex_tup ?a ?z; (case a => walk_at "ea"); (case z => simp))
  | (refine' ex_freeze (ex_lst ?a ?z); (case a => walk_at "ea"); (case z => simp))
  | (refine' ex_callB ?a cd_lenL (by assumption); (case a => walk_at "ea"))
  | (refine' ex_callB ?a cd_lenT (by assumption); (case a => walk_at "ea"))
  | walk_at "call")
local macro_rules | `(tactic| walk_at "ex") => `(tactic| first | walk_at "exs" | (refine' ex_star ?h ?f; (case h => walk_at "exs"); (case f => rfl)))
local macro_rules | `(tactic| walk_at "ea") => `(tactic| first | exact ea_nil | (refine' ea_cons ?a ?r; (case a => walk_at "ex"); (case r => walk_at "ea")))
local macro_rules | `(tactic| walk_at "ews") => `(tactic| first
  | (refine' ew_and1 ?a; (case a => walk_at "et"))
  | (refine' ew_or1 ?a; (case a => walk_at "et"))
  | (refine' ew_and ?a ?b; (case a => walk_at "et"); (case b => intro _; walk_at "ews"))
  | (refine' ew_or ?a ?b; (case a => walk_at "et"); (case b => intro _; walk_at "ews")))
local macro_rules | `(tactic| walk_at "ets") => `(tactic| first
  | (refine' et_W ?a; (case a => walk_at "ews"))
  | (refine' et_not ?a; (case a => walk_at "et"))
  | (refine' et_cmp ?a ?b ?o; (case a => walk_at "ex"); (case b => walk_at "ex"); (case o => walk_at "od"))
  | (refine' et_val ?a; (case a => walk_at "ex")))
local macro_rules | `(tactic| walk_at "et") => `(tactic| first | walk_at "ets" | (refine' et_star ?h; (case h => walk_at "ets")))
local macro_rules | `(tactic| walk_at "sh") => `(tactic| first | exact shd_da | exact shd_scr | exact shd_ob)
local macro_rules | `(tactic| walk_at "nmS") => `(tactic| first
  | exact ex_nameS 0 rfl (by walk_at "sh") | exact ex_nameS 1 rfl (by walk_at "sh") | exact ex_nameS 2 rfl (by walk_at "sh") | exact ex_nameS 3 rfl (by walk_at "sh") | exact ex_nameS 4 rfl (by walk_at "sh") | exact ex_nameS 5 rfl (by walk_at "sh")
  | exact ex_nameS 6 rfl (by walk_at "sh") | exact ex_nameS 7 rfl (by walk_at "sh") | exact ex_nameS 8 rfl (by walk_at "sh") | exact ex_nameS 9 rfl (by walk_at "sh") | exact ex_nameS 10 rfl (by walk_at "sh") | exact ex_nameS 11 rfl (by walk_at "sh"))
local macro_rules | `(tactic| walk_at "es") => `(tactic| first
  | exact es_nil
  | (refine' es_cons ?a ?r; (case a => (first | walk_at "ex" | walk_at "nmS")); (case r => walk_at "es"))
  | (refine' es_cons ?a ?r shd_scr; (case a => walk_at "nmS"); (case r => walk_at "es"))
  | (refine' es_cons ?a ?r shd_ob; (case a => (first | walk_at "ex" | walk_at "nmS")); (case r => walk_at "es")))
local macro_rules | `(tactic| walk_at "rm") => `(tactic| exact Room.mono (by assumption) (by decide))
section
variable {P : Program} {w : World} {K : PySem.W.Frag} {mg : Str → Option Value} {base : Heap}
/-! ### heard_by -/
def R_heard : List Slot → Slot → Prop := fun ss s => ∃ h n, ss = [.da (dH h), .da (.str n)] ∧ h.length ≤ 1000 ∧ n ∈ h.map (·.1) ∧ s = .da (dN (heard h n))
theorem ok_heard_by {f : Addr} {fd : FuncData} (F : Fun K "heard_by" "heard_by" s_heard_by f fd) : FnOk P w K mg base CX0 1 f fd ["hearing", "name"] (spP K R_heard) := by
  refine fun_rt F c_heard_by (fun ss s h => ?_) fun cdv A outer s H E hr hu ss sl h => ?_
  · obtain ⟨h, n, rfl, _⟩ := h; rfl
  · obtain ⟨h, n, rfl, hl, hg, rfl⟩ := h
    show Rt _ _ [.da (dH h), .da (.str n), .un, .un] _
    refine rt_ret (r_return (ex_ixL (ds := ((h.filter fun y => decide (y.1 = n)).map fun y => dN y.2)) (ex_freeze (ex_lc [("one", 2), ("others", 3)] h dP _ _ rfl c_heard_by.nd (blkOk_by (by kernel_rfl)) (it_list (ex_name 0 rfl)) (fun y _ => ?_) (by omega))) ex_int ?_))
    · refine ⟨_, _, ?_, fun s0 H0 C cl fp => ⟨bt_tup rfl (bts_cons (bt_name 2 c_heard_by.nd) (bts_cons (bt_name 3 c_heard_by.nd) bts_nil)), ets_one (et_cmp (ex_name 2 rfl) (ex_name 1 rfl) (oc_eqS hu)), fun _ => ex_name 3 rfl⟩⟩
      decide
    · have e : (h.filter fun y => decide (y.1 = n)).map (fun y => dN y.2) = ((h.filter fun y => decide (y.1 = n)).map (·.2)).map dN := by rw [List.map_map]; rfl
      rw [e]
      exact atI_of (by decide) (by show (List.map dN _)[0]? = _; rw [List.getElem?_map, heard_get hg]; rfl)
/-! ### voices_of -/
def R_voices : List Slot → Slot → Prop := fun ss s => ∃ h, ss = [.da (dH h)] ∧ Valid LETT h ∧ s = .ow ((vo h).map .str)
theorem ok_voices_of {f : Addr} {fd : FuncData} (F : Fun K "voices_of" "voices_of" s_voices_of f fd) (zs : mg "sorted" = none) : FnOk P w K mg base CX0 1 f fd ["hearing"] (spP K R_voices) := by
  refine fun_rt F c_voices_of (fun ss s h => ?_) fun cdv A outer s H E hr hu ss sl h => ?_
  · obtain ⟨h, rfl, _⟩ := h; rfl
  · obtain ⟨h, rfl, V, rfl⟩ := h
    show Rt _ _ [.da (dH h), .un, .un, .un, .un] _
    refine' rt_cons (r_set 1 c_voices_of.nd (ex_lst ea_nil (by decide))) ?r
    refine' rt_cons (r_for PassesOwn.never rfl (it_list (ex_name 0 rfl)) (for_pre h dP (fun pre => [.da (dH h), .ow ((vfold pre).map .str), .un, .un, .un]) (fun pre p post e => ⟨_, _, bt_tup rfl (bts_cons (bt_name 2 c_voices_of.nd) (bts_cons (bt_name 3 c_voices_of.nd) bts_nil)), .inl (by
      have hp : p ∈ h := by rw [e]; simp
      have hpre : (vfold pre).length ≤ 7 := vfold_len V fun q hq => by rw [e]; simp [hq]
      have ol := V.olen hp
      refine' rs_weak (ρ1 := [.da (dH h), .ow ((vfold (pre ++ [p])).map .str), .da (.str p.1), .da (dN p.2), .un]) (.same (.same (.un (.un (.same .nil))))) (rs_is (rs_cons (r_extend 1 rfl (ex_freeze (ex_starO (ex_lc [("one", 4)] p.2 .str (fun x => !decide (x ∈ vfold pre)) .str rfl c_voices_of.nd (blkOk_by (by kernel_rfl)) (it_list (ex_name 3 rfl)) (fun y hy => ?lc) (by omega)) ?fl)) ?ln) rs_nil) ?e1)
      case lc =>
        refine ⟨_, _, ?_, fun s0 H0 C cl fp => ⟨bt_name 4 c_voices_of.nd, ets_one (et_cmp (ex_name 4 rfl) (ex_name 1 rfl) (oc_notinN hu)), fun _ => ex_name 4 rfl⟩⟩
        decide
      case fl => rw [List.all_map]; exact List.all_eq_true.mpr fun _ _ => rfl
      case ln =>
        rw [List.length_map, List.length_map]
        have := List.length_filter_le (fun x => !decide (x ∈ vfold pre)) p.2
        omega
      case e1 => rw [vfold_snoc, List.map_append]; rfl)⟩))) ?r2
    have hv : (vfold h).length ≤ 7 := vfold_len V fun q hq => hq
    have hvo := vo_eq V
    refine rt_is (rt_freeze 1 rfl (rt_ret (r_return (ex_callB (ea_cons (ex_name 1 rfl) ea_nil) (cd_sortedS (xs := vfold h) (by omega)) zs)))) ?_
    rw [hvo]
end
end My

set_option Elab.async false
set_option linter.all false
set_option maxRecDepth 100000
set_option maxHeartbeats 1000000
namespace My
open PySem PySem.Spec PyProof.Rows L2 Mx

/-! ### short words for the walk (all local) -/
local macro_rules | `(tactic| walk_at "pl") => `(tactic| first | exact pl_int | exact pl_str | exact pl_bool | exact pl_none | exact pl_dN | exact pl_dH | assumption)
local macro_rules | `(tactic| walk_at "od") => `(tactic| first
  | exact od_add | exact od_sub | exact od_mod (by omega) | exact od_fdiv (by omega) (by omega) | exact od_pow (by decide) | exact od_mulL (by omega) | exact od_mulR (by omega)
  | exact oc_lt | exact oc_le | exact oc_gt | exact oc_ge | exact oc_ltS | exact oc_isN | exact oc_notN
  | exact oc_eqI (by assumption) | exact oc_eqS (by assumption) | exact oc_eqB (by assumption) | exact oc_eqN (by assumption) | exact oc_eqH (by assumption) | exact oc_eqNil (by assumption)
  | exact oc_neI (by assumption) | exact oc_neS (by assumption) | exact oc_neB (by assumption) | exact oc_neN (by assumption) | exact oc_neH (by assumption) | exact oc_neNil (by assumption)
  | exact oc_inN (by assumption) | exact oc_notinN (by assumption)
  | exact oc_eq (by assumption) (by walk_at "pl") (by walk_at "pl") | exact oc_ne (by assumption) (by walk_at "pl") (by walk_at "pl"))
local macro_rules | `(tactic| walk_at "nm") => `(tactic| first
  | exact ex_name 0 rfl | exact ex_name 1 rfl | exact ex_name 2 rfl | exact ex_name 3 rfl | exact ex_name 4 rfl | exact ex_name 5 rfl | exact ex_name 6 rfl | exact ex_name 7 rfl
  | exact ex_name 8 rfl | exact ex_name 9 rfl | exact ex_name 10 rfl | exact ex_name 11 rfl | exact ex_name 12 rfl | exact ex_name 13 rfl | exact ex_name 14 rfl | exact ex_name 15 rfl | exact ex_name 16 rfl | exact ex_name 17 rfl)
local macro_rules | `(tactic| walk_at "call") => `(tactic| fail)
local macro_rules | `(tactic| walk_at "exs") => `(tactic| first
  | walk_at "nm" | exact ex_int | exact ex_str | exact ex_bl | exact ex_non
  | (refine' ex_bin ?a ?b ?o; (case a => walk_at "ex"); (case b => walk_at "ex"); (case o => walk_at "od"))
  | (refine' ex_cmp ?a ?b ?o; (case a => walk_at "ex"); (case b => walk_at "ex"); (case o => walk_at "od"))
  | (refine' ex_not ?a; (case a => walk_at "ex"))
  | (refine' ex_neg ?a; (case a => walk_at "ex"))
  | (refine' ex_one ?a; (case a => walk_at "ex"))
  | (refine' ex_and ?a ?b; (case a => walk_at "ex"); (case b => intro _; walk_at "ex"))
  | (refine' ex_or ?a ?b; (case a => walk_at "ex"); (case b => intro _; walk_at "ex"))
  | (refine' ex_tup ?a ?z; (case a => walk_at "ea"); (case z => simp))
  | (refine' ex_freeze (ex_lst ?a ?z); (case a => walk_at "ea"); (case z => simp))
  | (refine' ex_callB ?a cd_lenL (by assumption); (case a => walk_at "ea"))
  | (refine' ex_callB ?a cd_lenT (by assumption); (case a => walk_at "ea"))
  | walk_at "call")
local macro_rules | `(tactic| walk_at "ex") => `(tactic| first | walk_at "exs" | (refine' ex_star ?h ?f; (case h => walk_at "exs"); (case f => rfl)))
local macro_rules | `(tactic| walk_at "ea") => `(tactic| first | exact ea_nil | (refine' ea_cons ?a ?r; (case a => walk_at "ex"); (case r => walk_at "ea")))
local macro_rules | `(tactic| walk_at "ews") => `(tactic| first
  | (refine' ew_and1 ?a; (case a => walk_at "et"))
  | (refine' ew_or1 ?a; (case a => walk_at "et"))
  | (refine' ew_and ?a ?b; (case a => walk_at "et"); (case b => intro _; walk_at "ews"))
  | (refine' ew_or ?a ?b; (case a => walk_at "et"); (case b => intro _; walk_at "ews")))
local macro_rules | `(tactic| walk_at "ets") => `(tactic| first
  | (refine' et_W ?a; (case a => walk_at "ews"))
  | (refine' et_not ?a; (case a => walk_at "et"))
  | (refine' et_cmp ?a ?b ?o; (case a => walk_at "ex"); (case b => walk_at "ex"); (case o => walk_at "od"))
  | (refine' et_val ?a; (case a => walk_at "ex")))
local macro_rules | `(tactic| walk_at "et") => `(tactic| first | walk_at "ets" | (refine' et_star ?h; (case h => walk_at "ets")))
local macro_rules | `(tactic| walk_at "sh") => `(tactic| first | exact shd_da | exact shd_scr | exact shd_ob)
local macro_rules | `(tactic| walk_at "nmS") => `(tactic| first
  | exact ex_nameS 0 rfl (by walk_at "sh") | exact ex_nameS 1 rfl (by walk_at "sh") | exact ex_nameS 2 rfl (by walk_at "sh") | exact ex_nameS 3 rfl (by walk_at "sh") | exact ex_nameS 4 rfl (by walk_at "sh") | exact ex_nameS 5 rfl (by walk_at "sh")
  | exact ex_nameS 6 rfl (by walk_at "sh") | exact ex_nameS 7 rfl (by walk_at "sh") | exact ex_nameS 8 rfl (by walk_at "sh") | exact ex_nameS 9 rfl (by walk_at "sh") | exact ex_nameS 10 rfl (by walk_at "sh") | exact ex_nameS 11 rfl (by walk_at "sh"))
local macro_rules | `(tactic| walk_at "es") => `(tactic| first
  | exact es_nil
  | (refine' es_cons ?a ?r; (case a => (first | walk_at "ex" | walk_at "nmS")); (case r => walk_at "es"))
  | (refine' es_cons ?a ?r shd_scr; (case a => walk_at "nmS"); (case r => walk_at "es"))
  | (refine' es_cons ?a ?r shd_ob; (case a => (first | walk_at "ex" | walk_at "nmS")); (case r => walk_at "es")))
local macro_rules | `(tactic| walk_at "rm") => `(tactic| exact Room.mono (by assumption) (by decide))
section
variable {P : Program} {w : World} {K : PySem.W.Frag} {mg : Str → Option Value} {base : Heap}
/-! ### values_of -/
def R_values : List Slot → Slot → Prop := fun ss s => ∃ m : Int, ∃ st sp, ss = [.da (.int m), .da (dSs st), .da (dZ sp)] ∧ StepsOk sp.length st ∧ sp.length ≤ 1000 ∧ st.length ≤ 1000 ∧ s = .ow ((valF sp st).map .int)
theorem get_val {l : List Int} {i : Int} (h0 : 0 ≤ i) (h1 : i < (l.length : Nat)) : atI (l.map PyData.int) i = some (.int (l.getD i.toNat 0)) := by
  refine atI_of h0 ?_
  rw [List.getElem?_map, List.getElem?_eq_getElem (show i.toNat < l.length by omega), List.getD_eq_getElem?_getD, List.getElem?_eq_getElem (show i.toNat < l.length by omega)]
  rfl
theorem ok_values {f : Addr} {fd : FuncData} (F : Fun K "values_of" "values_of" s_values_of f fd) (zl : mg "list" = none) : FnOk P w K mg base CX0 1 f fd ["many", "steps", "spoken"] (spP K R_values) := by
  refine fun_rt F c_values_of (fun ss s h => ?_) fun cdv A outer s H E hr hu ss sl h => ?_
  · obtain ⟨m, st, sp, rfl, _⟩ := h; rfl
  · obtain ⟨m, st, sp, rfl, hs, l1, l2, rfl⟩ := h
    show Rt _ _ [.da (.int m), .da (dSs st), .da (dZ sp), .un, .un, .un, .un] _
    refine' rt_cons (r_set 3 c_values_of.nd (ex_callTy (ea_cons (ex_name 2 rfl) ea_nil) cd_list zl)) ?r
    refine' rt_cons (r_for PassesOwn.never rfl (it_list (ex_name 1 rfl)) (for_pre st dS (fun pre => [.da (.int m), .da (dSs st), .da (dZ sp), .ow ((valF sp pre).map .int), .un, .un, .un]) (fun pre s post e => ⟨_, _, bt_tup rfl (bts_cons (bt_name 4 c_values_of.nd) (bts_cons (bt_name 5 c_values_of.nd) (bts_cons (bt_name 6 c_values_of.nd) bts_nil))), .inl (by
      obtain ⟨k, i, j⟩ := s
      subst e
      have a := hs.at
      have hl : (valF sp pre).length = sp.length + pre.length := valF_len sp pre
      have lp : pre.length ≤ 1000 := by rw [List.length_append] at l2; omega
      simp only at a
      have gi : atI ((valF sp pre).map PyData.int) i = some (.int ((valF sp pre).getD i.toNat 0)) := get_val a.1 (by rw [hl]; exact a.2.1)
      have gj : atI ((valF sp pre).map PyData.int) j = some (.int ((valF sp pre).getD j.toNat 0)) := get_val a.2.2.1 (by rw [hl]; exact a.2.2.2)
      refine' rs_weak (ρ1 := [.da (.int m), .da (dSs (pre ++ (k, i, j) :: post)), .da (dZ sp), .ow ((valF sp (pre ++ [(k, i, j)])).map .int), .da (.str k), .da (.int i), .da (.int j)]) (.same (.same (.same (.same (.un (.un (.un .nil))))))) (rs_is (rs_cons (r_append 3 rfl (ex_if (s := .da (.int (if k = ADD then (valF sp pre).getD i.toNat 0 + (valF sp pre).getD j.toNat 0 else (valF sp pre).getD i.toNat 0 - (valF sp pre).getD j.toNat 0))) (et_cmp (ex_name 4 rfl) ex_str (oc_eqS hu))
        (fun t => EX.is (ex_bin (ex_ixO 3 rfl (ex_name 5 rfl) gi) (ex_ixO 3 rfl (ex_name 6 rfl) gj) od_add) ?e1) (fun t => EX.is (ex_bin (ex_ixO 3 rfl (ex_name 5 rfl) gi) (ex_ixO 3 rfl (ex_name 6 rfl) gj) od_sub) ?e2)) ?ln) rs_nil) ?e3)
      case e1 => rw [if_pos (show k = ADD from of_decide_eq_true t)]
      case e2 => rw [if_neg (show ¬ k = ADD from of_decide_eq_false t)]
      case ln => rw [List.length_map]; omega
      case e3 => rw [valF_snoc]; unfold stepF; rw [List.map_append]; rfl)⟩))) ?r2
    exact rt_ret (r_returnO 3 rfl)
/-! ### due_of -/
def R_due : List Slot → Slot → Prop := fun ss s => ∃ h n sp, ss = [.da (dH h), .da (.str n), .da (dZ sp)] ∧ Valid LETT h ∧ n ∈ h.map (·.1) ∧ sp.length = (vo h).length ∧ s = .da (.int (dueF h n sp))
theorem ok_due {f : Addr} {fd : FuncData} (F : Fun K "due_of" "due_of" s_due_of f fd) (CV : Cal P w K mg base "voices_of" 1 (spP K R_voices)) (CH : Cal P w K mg base "heard_by" 1 (spP K R_heard)) (zd : mg "dict" = none) (zz : mg "zip" = none) (zs : mg "sum" = none) : FnOk P w K mg base CX0 2 f fd ["hearing", "name", "spoken"] (spP K R_due) := by
  refine fun_rt F c_due_of (fun ss s h => ?_) fun cdv A outer s H E hr hu ss sl h => ?_
  · obtain ⟨h, n, sp, rfl, _⟩ := h; rfl
  · obtain ⟨h, n, sp, rfl, V, hn, hl, rfl⟩ := h
    have hvl := vo_len V
    have hhl := V.len
    show Rt _ _ [.da (dH h), .da (.str n), .da (dZ sp), .un, .un] _
    refine' rt_cons (r_set 3 c_due_of.nd (ex_dictZip rfl (ea_cons (ex_freeze (ex_call CV ?m1 (es_cons (ex_name 0 rfl) es_nil) ⟨h, rfl, V, rfl⟩)) (ea_cons (ex_name 2 rfl) ea_nil)) (vo_nodup V) (by omega) zd zz)) ?r
    case m1 => walk_at "rm"
    have hsub : (heard h n).length ≤ 1000 := by
      obtain ⟨p, hp, rfl⟩ := List.mem_map.mp hn
      rw [heard_of (rising_nodup V.ri) hp]
      exact Nat.le_trans (V.olen hp) (by decide)
    refine' rt_ret (r_return (ex_callB (ea_cons (ex_freeze (ex_lcA [("other", 4)] (heard h n) .str (fun x => .int (dlook (vo h) sp x)) rfl c_due_of.nd (blkOk_by (by kernel_rfl)) (it_list (ex_call CH ?m2 (es_cons (ex_name 0 rfl) (es_cons (ex_name 1 rfl) es_nil)) ⟨h, n, rfl, by omega, hn, rfl⟩)) (fun y hy => ?lc) (by omega))) ea_nil) (cd_sumF rfl) zs))
    case m2 => walk_at "rm"
    case lc =>
      refine ⟨_, _, ?_, fun s0 H0 C cl fp => ⟨bt_name 4 c_due_of.nd, ets_nil, fun _ => ex_dgetF hu (ex_nameS 3 rfl shd_fdk) (ex_name 4 rfl) (look_dz hl (heard_sub V hn hy))⟩⟩
      decide
/-! ### told_of -/
def R_told : List Slot → Slot → Prop := fun ss s => ∃ h st en n sp, ss = [.da (dH h), .da (dSs st), .da (dEs en), .da (.str n), .da (dZ sp)] ∧ h.length ≤ 1000 ∧ n ∈ h.map (·.1) ∧ en.length = h.length ∧ StepsOk sp.length st ∧ EndsOk (sp.length + st.length) en ∧ sp.length ≤ 1000 ∧ st.length ≤ 1000 ∧ s = .da (.int (toldF h st en n sp))
theorem idx_lt {n : Str} {l : Names} (h : n ∈ l) : l.idxOf n < l.length := (List.getElem?_eq_some_iff.mp (idx_first h).1).1
theorem ok_told {f : Addr} {fd : FuncData} (F : Fun K "told_of" "told_of" s_told_of f fd) (CV : Cal P w K mg base "values_of" 1 (spP K R_values)) (zl : mg "len" = none) : FnOk P w K mg base CX0 2 f fd ["hearing", "steps", "ends", "name", "spoken"] (spP K R_told) := by
  refine fun_rt F c_told_of (fun ss s h => ?_) fun cdv A outer s H E hr hu ss sl h => ?_
  · obtain ⟨h, st, en, n, sp, rfl, _⟩ := h; rfl
  · obtain ⟨h, st, en, n, sp, rfl, hl, hn, he, hs, hE, l1, l2, rfl⟩ := h
    show Rt _ _ [.da (dH h), .da (dSs st), .da (dEs en), .da (.str n), .da (dZ sp), .un, .un, .un] _
    have en1 : h.map (fun y => PyData.str y.1) = (h.map (·.1)).map .str := by rw [List.map_map]; rfl
    have hi := idx_lt hn
    rw [List.length_map] at hi
    have hg : en[(h.map (·.1)).idxOf n]? = some (endF h en n) := by
      unfold endF
      rw [List.getD_eq_getElem?_getD, List.getElem?_eq_getElem (by omega)]
      rfl
    refine' rt_cons (r_set 5 c_told_of.nd (ex_ixL (d := dE (endF h en n)) (ex_name 2 rfl) (ex_index (xs := h.map (·.1)) (EX.is (ex_freeze (ex_lcA [("one", 6), ("others", 7)] h dP (fun y => .str y.1) rfl c_told_of.nd (blkOk_by (by kernel_rfl)) (it_list (ex_name 0 rfl)) (fun y hy => ?lc) (by omega))) ?e1) (ex_name 3 rfl) hn) ?hg)) ?r
    case lc =>
      refine ⟨_, _, ?_, fun s0 H0 C cl fp => ⟨bt_tup rfl (bts_cons (bt_name 6 c_told_of.nd) (bts_cons (bt_name 7 c_told_of.nd) bts_nil)), ets_nil, fun _ => ex_name 6 rfl⟩⟩
      decide
    case e1 => rw [en1]; rfl
    case hg =>
      refine atI_of (by omega) ?_
      show (en.map dE)[(((h.map (·.1)).idxOf n : Nat) : Int).toNat]? = _
      rw [List.getElem?_map, Int.toNat_natCast, hg]
      rfl
    unfold toldF
    have hm : endF h en n ∈ en := List.mem_of_getElem? hg
    generalize endF h en n = eo at hm
    cases eo with
    | none => exact rt_ret (r_return (ex_if (t := true) (et_cmp (d1 := dE none) (ex_name 5 rfl) ex_non oc_isE) (fun _ => ex_int) fun z => nomatch z))
    | some i =>
      obtain ⟨i0, i1⟩ := hE i hm
      have hv : (valF sp st).length = sp.length + st.length := valF_len sp st
      refine' rt_ret (r_return (ex_if (t := false) (et_cmp (d1 := dE (some i)) (ex_name 5 rfl) ex_non oc_isE) (fun z => nomatch z) fun _ => ex_ixL (ex_freeze (ex_call CV ?m1 (es_cons (ex_callB (ea_cons (ex_name 4 rfl) ea_nil) cd_lenL zl) (es_cons (ex_name 1 rfl) (es_cons (ex_name 4 rfl) es_nil))) ⟨((sp.map PyData.int).length : Nat), st, sp, rfl, hs, l1, l2, rfl⟩)) (ex_name 5 rfl) (get_val i0 (by omega))))
      case m1 => walk_at "rm"
/-! ### wrong_of -/
def R_wrong : List Slot → Slot → Prop := fun ss s => ∃ h st en, ss = [.da (dH h), .da (dSs st), .da (dEs en)] ∧ Valid LETT h ∧ en.length = h.length ∧ StepsOk (vo h).length st ∧ EndsOk ((vo h).length + st.length) en ∧ st.length ≤ 1000 ∧ s = .da (dW (wrongF h st en))
theorem ok_wrong {f : Addr} {fd : FuncData} (F : Fun K "wrong_of" "wrong_of" s_wrong_of f fd) (CV : Cal P w K mg base "voices_of" 1 (spP K R_voices)) (CT : Cal P w K mg base "told_of" 2 (spP K R_told)) (CD : Cal P w K mg base "due_of" 2 (spP K R_due)) (zl : mg "len" = none) (zr : mg "range" = none) (zi : mg "int" = none) : FnOk P w K mg base CX0 3 f fd ["hearing", "steps", "ends"] (spP K R_wrong) := by
  refine fun_rt F c_wrong_of (fun ss s h => ?_) fun cdv A outer s H E hr hu ss sl h => ?_
  · obtain ⟨h, st, en, rfl, _⟩ := h; rfl
  · obtain ⟨h, st, en, rfl, V, he, hs, hE, l2, rfl⟩ := h
    show Rt _ _ [.da (dH h), .da (dSs st), .da (dEs en), .un, .un, .un, .un, .un, .un] _
    have hvl := vo_len V
    have hhl := V.len
    refine' rt_cons (r_set 3 c_wrong_of.nd (ex_callB (ea_cons (ex_freeze (ex_call CV ?m1 (es_cons (ex_name 0 rfl) es_nil) ⟨h, rfl, V, rfl⟩)) ea_nil) cd_lenL zl)) ?r
    case m1 => walk_at "rm"
    rw [List.length_map]
    let g2 : Str × Names → Nat → Option Slot := fun p pl => if toldF h st en p.1 (unitF (vo h).length pl) = dueF h p.1 (unitF (vo h).length pl) then none else some (.da (dW (some (p.1, unitF (vo h).length pl))))
    let g1 : Str × Names → Option Slot := fun p => (List.range (vo h).length).findSome? (g2 p)
    have hW : (h.findSome? g1).getD (.da .none) = .da (dW (wrongF h st en)) := by
      unfold wrongF
      have k2 : ∀ p, g1 p = ((List.range (vo h).length).findSome? fun pl => if toldF h st en p.1 (unitF (vo h).length pl) = dueF h p.1 (unitF (vo h).length pl) then none else some (p.1, unitF (vo h).length pl)).map fun x => .da (dW (some x)) := fun p => by
        show (List.range (vo h).length).findSome? (g2 p) = _
        rw [List.map_findSome?]
        congr 1
        funext pl
        show (if _ then _ else _) = Option.map _ (if _ then _ else _)
        split <;> rfl
      have k1 : h.findSome? g1 = (h.findSome? fun p => (List.range (vo h).length).findSome? fun pl => if toldF h st en p.1 (unitF (vo h).length pl) = dueF h p.1 (unitF (vo h).length pl) then none else some (p.1, unitF (vo h).length pl)).map fun x => .da (dW (some x)) := by
        rw [List.map_findSome?]
        congr 1
        funext p
        exact k2 p
      rw [k1]
      cases (h.findSome? fun p => (List.range (vo h).length).findSome? fun pl => if toldF h st en p.1 (unitF (vo h).length pl) = dueF h p.1 (unitF (vo h).length pl) then none else some (p.1, unitF (vo h).length pl)) <;> rfl
    rw [← hW]
    refine' rt_find (h.findSome? g1) PassesOwn.never rfl (it_list (ex_name 0 rfl)) (for_find h dP [.da (dH h), .da (dSs st), .da (dEs en), .da (.int ((vo h).length : Nat)), .un, .un, .un, .un, .un] g1 fun p hp => ⟨_, _, bt_tup rfl (bts_cons (bt_name 4 c_wrong_of.nd) (bts_cons (bt_name 5 c_wrong_of.nd) bts_nil)), ?body⟩) (fun q => ?z1) (fun t q => ?z2)
    case z1 => rw [q]; exact rt_ret (r_return ex_non)
    case z2 => rw [q]; rfl
    case body =>
      have hn : p.1 ∈ h.map (·.1) := List.mem_map.mpr ⟨p, hp, rfl⟩
      show FindB _ _ [.da (dH h), .da (dSs st), .da (dEs en), .da (.int ((vo h).length : Nat)), .da (.str p.1), .da (dN p.2), .un, .un, .un] _ (g1 p)
      refine' fb_for PassesOwn.never rfl (it_range1 (n := ((vo h).length : Nat)) zr (ea_cons (ex_name 3 rfl) ea_nil) (by omega)) (for_find (List.range ((vo h).length : Int).toNat) (fun (i : Nat) => .int (i : Int)) [.da (dH h), .da (dSs st), .da (dEs en), .da (.int ((vo h).length : Nat)), .da (.str p.1), .da (dN p.2), .un, .un, .un] (g2 p) fun pl hpl => ⟨_, _, bt_name 6 c_wrong_of.nd, ?b2⟩) (.same (.same (.same (.same (.un (.un (.un (.un (.un .nil)))))))))
      case b2 =>
        have hul := unitF_len (vo h).length pl
        refine' fb_cons (r_setLcA 7 [("one", 8)] (List.range ((vo h).length : Int).toNat) (fun (i : Nat) => .int (i : Int)) (fun (i : Nat) => .int (if decide ((pl : Int) = (i : Int)) = true then 1 else 0)) rfl c_wrong_of.nd (blkOk_by (by kernel_rfl)) (it_range1 (n := ((vo h).length : Nat)) zr (ea_cons (ex_name 3 rfl) ea_nil) (by omega)) (fun y hy => ?lc) ?ln) ?r2
        case lc =>
          refine ⟨_, _, ?_, fun s0 H0 C cl fp => ⟨bt_name 8 c_wrong_of.nd, ets_nil, fun _ => ex_callTy (ea_cons (ex_cmp (ex_name 6 rfl) (ex_name 8 rfl) (oc_eqI hu)) ea_nil) cd_intB zi⟩⟩
          decide
        case ln => rw [List.length_range]; omega
        have e1 : (List.range ((vo h).length : Int).toNat).map (fun (i : Nat) => PyData.int (if decide ((pl : Int) = (i : Int)) = true then 1 else 0)) = (unitF (vo h).length pl).map .int := by
          unfold unitF
          rw [List.map_map, Int.toNat_natCast]
          apply List.map_congr_left
          intro i _
          show PyData.int _ = PyData.int _
          congr 1
          by_cases q : pl = i
          · subst q; simp
          · have : ¬ ((pl : Int) = (i : Int)) := by omega
            simp [q, this]
        rw [e1]
        refine fb_freeze 7 rfl ?_
        show FindB _ _ [.da (dH h), .da (dSs st), .da (dEs en), .da (.int ((vo h).length : Nat)), .da (.str p.1), .da (dN p.2), .da (.int (pl : Int)), .da (dZ (unitF (vo h).length pl)), .un] _ _
        refine' FindB.is (fb_ifr (s := .da (dW (some (p.1, unitF (vo h).length pl)))) (et_cmp (ex_call CT ?m2 (es_cons (ex_name 0 rfl) (es_cons (ex_name 1 rfl) (es_cons (ex_name 2 rfl) (es_cons (ex_name 4 rfl) (es_cons (ex_name 7 rfl) es_nil))))) ⟨h, st, en, p.1, unitF (vo h).length pl, rfl, by omega, hn, he, by rw [hul]; exact hs, by rw [hul]; exact hE, by omega, l2, rfl⟩)
          (ex_call CD ?m3 (es_cons (ex_name 0 rfl) (es_cons (ex_name 4 rfl) (es_cons (ex_name 7 rfl) es_nil))) ⟨h, p.1, unitF (vo h).length pl, rfl, V, hn, hul, rfl⟩) (oc_neI hu)) (fun _ => ex_tup (ea_cons (ex_name 4 rfl) (ea_cons (ex_name 7 rfl) ea_nil)) (by show 2 ≤ 100000; omega)) (.same (.same (.same (.same (.same (.same (.un (.un (.same .nil)))))))))) ?e2
        case m2 => walk_at "rm"
        case m3 => walk_at "rm"
        case e2 =>
          show _ = (if _ then _ else _)
          by_cases q : toldF h st en p.1 (unitF (vo h).length pl) = dueF h p.1 (unitF (vo h).length pl)
          · simp [q]
          · simp [q]
end
end My

set_option Elab.async false
set_option linter.all false
set_option maxRecDepth 100000
set_option maxHeartbeats 1000000
namespace My
open PySem PySem.Spec PyProof.Rows L2 Mx

/-! ### short words for the walk (all local) -/
local macro_rules | `(tactic| walk_at "pl") => `(tactic| first | exact pl_int | exact pl_str | exact pl_bool | exact pl_none | exact pl_dN | exact pl_dH | assumption)
local macro_rules | `(tactic| walk_at "od") => `(tactic| first
  | exact od_add | exact od_sub | exact od_mod (by omega) | exact od_fdiv (by omega) (by omega) | exact od_pow (by decide) | exact od_mulL (by omega) | exact od_mulR (by omega)
  | exact oc_lt | exact oc_le | exact oc_gt | exact oc_ge | exact oc_ltS | exact oc_isN | exact oc_notN
  | exact oc_eqI (by assumption) | exact oc_eqS (by assumption) | exact oc_eqB (by assumption) | exact oc_eqN (by assumption) | exact oc_eqH (by assumption) | exact oc_eqNil (by assumption)
  | exact oc_neI (by assumption) | exact oc_neS (by assumption) | exact oc_neB (by assumption) | exact oc_neN (by assumption) | exact oc_neH (by assumption) | exact oc_neNil (by assumption)
  | exact oc_inN (by assumption) | exact oc_notinN (by assumption)
  | exact oc_eq (by assumption) (by walk_at "pl") (by walk_at "pl") | exact oc_ne (by assumption) (by walk_at "pl") (by walk_at "pl"))
local macro_rules | `(tactic| walk_at "nm") => `(tactic| first
  | exact ex_name 0 rfl | exact ex_name 1 rfl | exact ex_name 2 rfl | exact ex_name 3 rfl | exact ex_name 4 rfl | exact ex_name 5 rfl | exact ex_name 6 rfl | exact ex_name 7 rfl
  | exact ex_name 8 rfl | exact ex_name 9 rfl | exact ex_name 10 rfl | exact ex_name 11 rfl | exact ex_name 12 rfl | exact ex_name 13 rfl | exact ex_name 14 rfl | exact ex_name 15 rfl | exact ex_name 16 rfl | exact ex_name 17 rfl)
local macro_rules | `(tactic| walk_at "call") => `(tactic| fail)
local macro_rules | `(tactic| walk_at "exs") => `(tactic| first
  | walk_at "nm" | exact ex_int | exact ex_str | exact ex_bl | exact ex_non
  | (refine' ex_bin ?a ?b ?o; (case a => walk_at "ex"); (case b => walk_at "ex"); (case o => walk_at "od"))
  | (refine' ex_cmp ?a ?b ?o; (case a => walk_at "ex"); (case b => walk_at "ex"); (case o => walk_at "od"))
  | (refine' ex_not ?a; (case a => walk_at "ex"))
  | (refine' ex_neg ?a; (case a => walk_at "ex"))
  | (refine' ex_one ?a; (case a => walk_at "ex"))
  | (refine' ex_and ?a ?b; (case a => walk_at "ex"); (case b => intro _; walk_at "ex"))
  | (refine' ex_or ?a ?b; (case a => walk_at "ex"); (case b => intro _; walk_at "ex"))
  | (refine' ex_tup ?a ?z; (case a => walk_at "ea"); (case z => simp))
  | (refine' ex_freeze (ex_lst ?a ?z); (case a => walk_at "ea"); (case z => simp))
  | (refine' ex_callB ?a cd_lenL (by assumption); (case a => walk_at "ea"))
  | (refine' ex_callB ?a cd_lenT (by assumption); (case a => walk_at "ea"))
  | walk_at "call")
local macro_rules | `(tactic| walk_at "ex") => `(tactic| first | walk_at "exs" | (refine' ex_star ?h ?f; (case h => walk_at "exs"); (case f => rfl)))
local macro_rules | `(tactic| walk_at "ea") => `(tactic| first | exact ea_nil | (refine' ea_cons ?a ?r; (case a => walk_at "ex"); (case r => walk_at "ea")))
local macro_rules | `(tactic| walk_at "ews") => `(tactic| first
  | (refine' ew_and1 ?a; (case a => walk_at "et"))
  | (refine' ew_or1 ?a; (case a => walk_at "et"))
  | (refine' ew_and ?a ?b; (case a => walk_at "et"); (case b => intro _; walk_at "ews"))
  | (refine' ew_or ?a ?b; (case a => walk_at "et"); (case b => intro _; walk_at "ews")))
local macro_rules | `(tactic| walk_at "ets") => `(tactic| first
  | (refine' et_W ?a; (case a => walk_at "ews"))
  | (refine' et_not ?a; (case a => walk_at "et"))
  | (refine' et_cmp ?a ?b ?o; (case a => walk_at "ex"); (case b => walk_at "ex"); (case o => walk_at "od"))
  | (refine' et_val ?a; (case a => walk_at "ex")))
local macro_rules | `(tactic| walk_at "et") => `(tactic| first | walk_at "ets" | (refine' et_star ?h; (case h => walk_at "ets")))
local macro_rules | `(tactic| walk_at "sh") => `(tactic| first | exact shd_da | exact shd_scr | exact shd_ob)
local macro_rules | `(tactic| walk_at "nmS") => `(tactic| first
  | exact ex_nameS 0 rfl (by walk_at "sh") | exact ex_nameS 1 rfl (by walk_at "sh") | exact ex_nameS 2 rfl (by walk_at "sh") | exact ex_nameS 3 rfl (by walk_at "sh") | exact ex_nameS 4 rfl (by walk_at "sh") | exact ex_nameS 5 rfl (by walk_at "sh")
  | exact ex_nameS 6 rfl (by walk_at "sh") | exact ex_nameS 7 rfl (by walk_at "sh") | exact ex_nameS 8 rfl (by walk_at "sh") | exact ex_nameS 9 rfl (by walk_at "sh") | exact ex_nameS 10 rfl (by walk_at "sh") | exact ex_nameS 11 rfl (by walk_at "sh"))
local macro_rules | `(tactic| walk_at "es") => `(tactic| first
  | exact es_nil
  | (refine' es_cons ?a ?r; (case a => (first | walk_at "ex" | walk_at "nmS")); (case r => walk_at "es"))
  | (refine' es_cons ?a ?r shd_scr; (case a => walk_at "nmS"); (case r => walk_at "es"))
  | (refine' es_cons ?a ?r shd_ob; (case a => (first | walk_at "ex" | walk_at "nmS")); (case r => walk_at "es")))
local macro_rules | `(tactic| walk_at "rm") => `(tactic| exact Room.mono (by assumption) (by decide))
section
variable {P : Program} {w : World} {K : PySem.W.Frag} {mg : Str → Option Value} {base : Heap}
/-! ### unlike_of, ways_of -/
def R_unlike : List Slot → Slot → Prop := fun ss s => ∃ h, ss = [.da (dH h)] ∧ h.length ≤ 1000 ∧ s = .ow ((ulF h).map dN)
theorem ok_unlike {f : Addr} {fd : FuncData} (F : Fun K "unlike_of" "unlike_of" s_unlike_of f fd) : FnOk P w K mg base CX0 1 f fd ["hearing"] (spP K R_unlike) := by
  refine fun_rt F c_unlike_of (fun ss s h => ?_) fun cdv A outer s H E hr hu ss sl h => ?_
  · obtain ⟨h, rfl, _⟩ := h; rfl
  · obtain ⟨h, rfl, hl, rfl⟩ := h
    show Rt _ _ [.da (dH h), .un, .un, .un] _
    refine' rt_cons (r_set 1 c_unlike_of.nd (ex_lst ea_nil (by decide))) ?r
    refine' rt_cons (r_for PassesOwn.never rfl (it_list (ex_name 0 rfl)) (for_pre h dP (fun pre => [.da (dH h), .ow ((ulF pre).map dN), .un, .un]) (fun pre p post e => ⟨_, _, bt_tup rfl (bts_cons (bt_name 2 c_unlike_of.nd) (bts_cons (bt_name 3 c_unlike_of.nd) bts_nil)), .inl (by
      have hul := ulF_len pre
      have hpl : pre.length ≤ 1000 := by have := congrArg List.length e; simp at this; omega
      refine' rs_weak (ρ1 := [.da (dH h), .ow ((ulF (pre ++ [p])).map dN), .da (.str p.1), .da (dN p.2)]) (.same (.same (.un (.un .nil)))) (rs_cons (r_if (b := !decide (p.2 = []) && !decide (p.2 ∈ ulF pre)) (et_W (ew_and (et_cmp (ex_name 3 rfl) (ex_freeze (ex_lst ea_nil (by decide))) (oc_neNil hu)) fun _ => ew_and1 (et_star (et_cmp (ex_name 3 rfl) (ex_name 1 rfl) (oc_notinNs hu))))) (fun t => ?t1) (fun t => ?t2)) rs_nil)
      case t1 =>
        refine' rs_is (rs_cons (r_append 1 rfl (ex_name 3 rfl) ?ln) rs_nil) ?e1
        case ln => rw [List.length_map]; omega
        case e1 =>
          rw [ulF_snoc]
          unfold ulStep
          rw [if_pos t, List.map_append]
          rfl
      case t2 =>
        rw [ulF_snoc]
        unfold ulStep
        rw [if_neg (by rw [t]; decide)]
        exact rs_nil)⟩))) ?r2
    exact rt_ret (r_returnO 1 rfl)
def R_ways : List Slot → Slot → Prop := fun ss s => ∃ h, ss = [.da (dH h)] ∧ Valid LETT h ∧ s = .da (.tuple [.int (waysF h).1, .int (waysF h).2])
theorem ok_ways {f : Addr} {fd : FuncData} (F : Fun K "ways_of" "ways_of" s_ways_of f fd) (CV : Cal P w K mg base "voices_of" 1 (spP K R_voices)) (CU : Cal P w K mg base "unlike_of" 1 (spP K R_unlike)) (zl : mg "len" = none) (zs : mg "sum" = none) (zmin : mg "min" = none) (zmax : mg "max" = none) : FnOk P w K mg base CX0 2 f fd ["hearing"] (spP K R_ways) := by
  refine fun_rt F c_ways_of (fun ss s h => ?_) fun cdv A outer s H E hr hu ss sl h => ?_
  · obtain ⟨h, rfl, _⟩ := h; rfl
  · obtain ⟨h, rfl, V, rfl⟩ := h
    show Rt _ _ [.da (dH h), .un, .un, .un, .un, .un] _
    have hhl := V.len
    have hul := ulF_len h
    refine' rt_cons (r_tgt (ex_tup (ea_cons (ex_callB (ea_cons (ex_freeze (ex_call CV ?m1 (es_cons (ex_name 0 rfl) es_nil) ⟨h, rfl, V, rfl⟩)) ea_nil) cd_lenL zl) (ea_cons (ex_freeze (ex_call CU ?m2 (es_cons (ex_name 0 rfl) es_nil) ⟨h, rfl, by omega, rfl⟩)) ea_nil)) (by show 2 ≤ 100000; omega))
      (bt_tup rfl (bts_cons (bt_name 1 c_ways_of.nd) (bts_cons (bt_name 2 c_ways_of.nd) bts_nil)))) ?r
    case m1 => walk_at "rm"
    case m2 => walk_at "rm"
    rw [List.length_map]
    show Rt _ _ [.da (dH h), .da (.int ((vo h).length : Nat)), .da (.list ((ulF h).map dN)), .un, .un, .un] _
    refine' rt_cons (r_set 3 c_ways_of.nd (ex_callB (ea_cons (ex_freeze (ex_lcA [("others", 5)] (ulF h) dN (fun o => .int ((o.length : Int) - 1)) rfl c_ways_of.nd (blkOk_by (by kernel_rfl)) (it_list (ex_name 2 rfl)) (fun y hy => ?lc) (by omega))) ea_nil) (cd_sumF rfl) zs)) ?r2
    case lc =>
      refine ⟨_, _, ?_, fun s0 H0 C cl fp => ⟨bt_name 5 c_ways_of.nd, ets_nil, fun _ => EX.is (ex_bin (ex_callB (ea_cons (ex_name 5 rfl) ea_nil) cd_lenL zl) ex_int od_sub) (by rw [List.length_map])⟩⟩
      decide
    refine' rt_cons (r_set 4 c_ways_of.nd (ex_bin (ex_callB (ea_cons ex_int (ea_cons (ex_bin (ex_name 1 rfl) ex_int od_sub) ea_nil)) (cd_max2 rfl) zmax) (ex_callB (ea_cons (ex_freeze (ex_lcA [("others", 5)] (ulF h) dN (fun o => .int (min ((o.length : Int) - 1) (((vo h).length : Int) - o.length))) rfl c_ways_of.nd (blkOk_by (by kernel_rfl)) (it_list (ex_name 2 rfl)) (fun y hy => ?lc2) (by omega))) ea_nil) (cd_sumF rfl) zs) od_add)) ?r3
    case lc2 =>
      refine ⟨_, _, ?_, fun s0 H0 C cl fp => ⟨bt_name 5 c_ways_of.nd, ets_nil, fun _ => EX.is (ex_callB (ea_cons (ex_bin (ex_callB (ea_cons (ex_name 5 rfl) ea_nil) cd_lenL zl) ex_int od_sub) (ea_cons (ex_bin (ex_name 1 rfl) (ex_callB (ea_cons (ex_name 5 rfl) ea_nil) cd_lenL zl) od_sub) ea_nil)) (cd_min2 rfl) zmin) (by rw [List.length_map])⟩⟩
      decide
    exact rt_ret (r_return (ex_tup (ea_cons (ex_name 3 rfl) (ea_cons (ex_name 4 rfl) ea_nil)) (by show 2 ≤ 100000; omega)))
/-! ### added -/
def R_added : List PyData → List Slot → PyData → List PyData → Prop := fun ds ss d ds' => ∃ (st : List Stp) (many : Int) (pl : List Int), pl ≠ [] ∧ st.length ≤ 1000 ∧ pl.length ≤ 1000 ∧ ds = st.map dS ∧ ss = [.da (.int many), .da (dZ pl)] ∧ d = .int (addF many pl st).2 ∧ ds' = (addF many pl st).1.map dS
theorem ok_added {f : Addr} {fd : FuncData} (F : Fun K "added" "added" s_added f fd) (zl : mg "len" = none) : FnOk P w K mg base CX0 1 f fd ["steps", "many", "places"] (spIO K R_added) := by
  refine fun_io F c_added (fun ds ss d ds' h => ?_) fun cdv A outer s H E hr hu a ds ss d ds' h => ?_
  · obtain ⟨st, many, pl, _, _, _, _, rfl, _⟩ := h; rfl
  · obtain ⟨st, many, pl, hne, l1, l2, rfl, rfl, rfl, rfl⟩ := h
    cases pl with
    | nil => exact absurd rfl hne
    | cons p0 pr =>
      have ec : Mx.cutD ((p0 :: pr).map .int) (some 1) none = pr.map .int := cut_from .int 1 (p0 :: pr)
      refine ⟨[.ext (OwnL a ((addF many (p0 :: pr) st).1.map dS)), .da (.int many), .da (dZ (p0 :: pr)), .da (.int (addF many (p0 :: pr) st).2), .un], ?_, rfl⟩
      show RS _ _ [.ext (OwnL a (st.map dS)), .da (.int many), .da (dZ (p0 :: pr)), .un, .un] _
      refine' rs_cons (r_set 3 c_added.nd (ex_ixL (d := .int p0) (ex_name 2 rfl) ex_int (atI_of (by decide) rfl))) ?r
      refine' rs_cons (r_for PassesOwn.never rfl (it_list (ds := pr.map .int) (EX.is (ex_freeze (ex_slL (ex_name 2 rfl) (eo_some ex_int) eo_none)) (congrArg PyData.list ec))) (for_pre pr .int (fun pre => [.ext (OwnL a ((moreF ADD many pre (st, p0)).1.map dS)), .da (.int many), .da (dZ (p0 :: pr)), .da (.int (moreF ADD many pre (st, p0)).2), .un]) (fun pre p post e => ⟨_, _, bt_name 4 c_added.nd, .inl (by
        have hml := moreF_len ADD many pre (st, p0)
        have hpl : pre.length ≤ 1000 := by have := congrArg List.length e; simp at this l2; omega
        simp only at hml
        refine' rs_cons (r_appendA 0 rfl (ex_tup (ea_cons ex_str (ea_cons (ex_name 3 rfl) (ea_cons (ex_name 4 rfl) ea_nil))) (by show 3 ≤ 100000; omega)) ?ln) ?r4
        case ln => rw [List.length_map]; omega
        refine' rs_weak (ρ1 := [.ext (OwnL a ((moreF ADD many (pre ++ [p]) (st, p0)).1.map dS)), .da (.int many), .da (dZ (p0 :: pr)), .da (.int (moreF ADD many (pre ++ [p]) (st, p0)).2), .da (.int p)]) (.same (.same (.same (.same (.un .nil))))) (rs_is (rs_cons (r_set 3 c_added.nd (ex_bin (ex_bin (ex_name 1 rfl) (ex_lenA 0 rfl zl) od_add) ex_int od_sub)) rs_nil) ?e1)
        case e1 =>
          rw [moreF_snoc]
          unfold moreStep
          simp only [List.map_append, List.length_append, List.length_map, List.length_cons, List.length_nil, List.map_cons, List.map_nil]
          rfl)⟩))) ?r2
      exact rs_ret (r_return (ex_name 3 rfl))
end
end My

set_option Elab.async false
set_option linter.all false
set_option maxRecDepth 100000
set_option maxHeartbeats 1000000
namespace My
open PySem PySem.Spec PyProof.Rows L2 Mx

/-! ### short words for the walk (all local) -/
local macro_rules | `(tactic| walk_at "pl") => `(tactic| first | exact pl_int | exact pl_str | exact pl_bool | exact pl_none | exact pl_dN | exact pl_dH | assumption)
local macro_rules | `(tactic| walk_at "od") => `(tactic| first
  | exact od_add | exact od_sub | exact od_mod (by omega) | exact od_fdiv (by omega) (by omega) | exact od_pow (by decide) | exact od_mulL (by omega) | exact od_mulR (by omega)
  | exact oc_lt | exact oc_le | exact oc_gt | exact oc_ge | exact oc_ltS | exact oc_isN | exact oc_notN
  | exact oc_eqI (by assumption) | exact oc_eqS (by assumption) | exact oc_eqB (by assumption) | exact oc_eqN (by assumption) | exact oc_eqH (by assumption) | exact oc_eqNil (by assumption)
  | exact oc_neI (by assumption) | exact oc_neS (by assumption) | exact oc_neB (by assumption) | exact oc_neN (by assumption) | exact oc_neH (by assumption) | exact oc_neNil (by assumption)
  | exact oc_inN (by assumption) | exact oc_notinN (by assumption)
  | exact oc_eq (by assumption) (by walk_at "pl") (by walk_at "pl") | exact oc_ne (by assumption) (by walk_at "pl") (by walk_at "pl"))
local macro_rules | `(tactic| walk_at "nm") => `(tactic| first
  | exact ex_name 0 rfl | exact ex_name 1 rfl | exact ex_name 2 rfl | exact ex_name 3 rfl | exact ex_name 4 rfl | exact ex_name 5 rfl | exact ex_name 6 rfl | exact ex_name 7 rfl
  | exact ex_name 8 rfl | exact ex_name 9 rfl | exact ex_name 10 rfl | exact ex_name 11 rfl | exact ex_name 12 rfl | exact ex_name 13 rfl | exact ex_name 14 rfl | exact ex_name 15 rfl | exact ex_name 16 rfl | exact ex_name 17 rfl)
local macro_rules | `(tactic| walk_at "call") => `(tactic| fail)
local macro_rules | `(tactic| walk_at "exs") => `(tactic| first
  | walk_at "nm" | exact ex_int | exact ex_str | exact ex_bl | exact ex_non
  | (refine' ex_bin ?a ?b ?o; (case a => walk_at "ex"); (case b => walk_at "ex"); (case o => walk_at "od"))
  | (refine' ex_cmp ?a ?b ?o; (case a => walk_at "ex"); (case b => walk_at "ex"); (case o => walk_at "od"))
  | (refine' ex_not ?a; (case a => walk_at "ex"))
  | (refine' ex_neg ?a; (case a => walk_at "ex"))
  | (refine' ex_one ?a; (case a => walk_at "ex"))
  | (refine' ex_and ?a ?b; (case a => walk_at "ex"); (case b => intro _; walk_at "ex"))
  | (refine' ex_or ?a ?b; (case a => walk_at "ex"); (case b => intro _; walk_at "ex"))
  | (refine' ex_tup ?a ?z; (case a => walk_at "ea"); (case z => simp))
  | (refine' ex_freeze (ex_lst ?a ?z); (case a => walk_at "ea"); (case z => simp))
  | (refine' ex_callB ?a cd_lenL (by assumption); (case a => walk_at "ea"))
  | (refine' ex_callB ?a cd_lenT (by assumption); (case a => walk_at "ea"))
  | walk_at "call")
local macro_rules | `(tactic| walk_at "ex") => `(tactic| first | walk_at "exs" | (refine' ex_star ?h ?f; (case h => walk_at "exs"); (case f => rfl)))
local macro_rules | `(tactic| walk_at "ea") => `(tactic| first | exact ea_nil | (refine' ea_cons ?a ?r; (case a => walk_at "ex"); (case r => walk_at "ea")))
local macro_rules | `(tactic| walk_at "ews") => `(tactic| first
  | (refine' ew_and1 ?a; (case a => walk_at "et"))
  | (refine' ew_or1 ?a; (case a => walk_at "et"))
  | (refine' ew_and ?a ?b; (case a => walk_at "et"); (case b => intro _; walk_at "ews"))
  | (refine' ew_or ?a ?b; (case a => walk_at "et"); (case b => intro _; walk_at "ews")))
local macro_rules | `(tactic| walk_at "ets") => `(tactic| first
  | (refine' et_W ?a; (case a => walk_at "ews"))
  | (refine' et_not ?a; (case a => walk_at "et"))
  | (refine' et_cmp ?a ?b ?o; (case a => walk_at "ex"); (case b => walk_at "ex"); (case o => walk_at "od"))
  | (refine' et_val ?a; (case a => walk_at "ex")))
local macro_rules | `(tactic| walk_at "et") => `(tactic| first | walk_at "ets" | (refine' et_star ?h; (case h => walk_at "ets")))
local macro_rules | `(tactic| walk_at "sh") => `(tactic| first | exact shd_da | exact shd_scr | exact shd_ob)
local macro_rules | `(tactic| walk_at "nmS") => `(tactic| first
  | exact ex_nameS 0 rfl (by walk_at "sh") | exact ex_nameS 1 rfl (by walk_at "sh") | exact ex_nameS 2 rfl (by walk_at "sh") | exact ex_nameS 3 rfl (by walk_at "sh") | exact ex_nameS 4 rfl (by walk_at "sh") | exact ex_nameS 5 rfl (by walk_at "sh")
  | exact ex_nameS 6 rfl (by walk_at "sh") | exact ex_nameS 7 rfl (by walk_at "sh") | exact ex_nameS 8 rfl (by walk_at "sh") | exact ex_nameS 9 rfl (by walk_at "sh") | exact ex_nameS 10 rfl (by walk_at "sh") | exact ex_nameS 11 rfl (by walk_at "sh"))
local macro_rules | `(tactic| walk_at "es") => `(tactic| first
  | exact es_nil
  | (refine' es_cons ?a ?r; (case a => (first | walk_at "ex" | walk_at "nmS")); (case r => walk_at "es"))
  | (refine' es_cons ?a ?r shd_scr; (case a => walk_at "nmS"); (case r => walk_at "es"))
  | (refine' es_cons ?a ?r shd_ob; (case a => (first | walk_at "ex" | walk_at "nmS")); (case r => walk_at "es")))
local macro_rules | `(tactic| walk_at "rm") => `(tactic| exact Room.mono (by assumption) (by decide))
section
variable {P : Program} {w : World} {K : PySem.W.Frag} {mg : Str → Option Value} {base : Heap}
/-! ### Plan.__init__, Wrong.__init__ -/
abbrev fP (st : List Stp) (en : List (Option Int)) : List (Str × PyData) := [(("steps" : Str), dSs st), (("ends" : Str), dEs en)]
abbrev fW (n : Str) (sp : List Int) : List (Str × PyData) := [(("name" : Str), PyData.str n), (("spoken" : Str), dZ sp)]
def R_planI : List Slot → List (Str × PyData) → Prop := fun ss fs => ∃ st en s1 s2, ss = [s1, s2] ∧ LstB s1 (st.map dS) ∧ LstB s2 (en.map dE) ∧ fs = fP st en
theorem put_new {f g : Str} {v u : V} (h : f ≠ g) : putF g u [(f, v)] = [(f, v), (g, u)] := by
  show (if f = g then [(f, u)] else (f, v) :: putF g u []) = _
  rw [if_neg h]
  rfl
theorem ok_planI {C f : Addr} {fd : FuncData} (F : Fun K "__init__" "Plan.__init__" s_Plan_init f fd) (cl : Cls K C) (n1 : NoAttr K C "steps") (n2 : NoAttr K C "ends") (zl : mg "list" = none) : FnOk P w K mg base CX0 1 f fd ["self", "steps", "ends"] (spInitB K C R_planI) := by
  refine F.ok c_Plan_init (fun vs H Q E h => ?_) (fun cdv A outer s H vs Q E hr h => ?_)
  · obtain ⟨G, ss, fs, x, dx, vs', rfl, ⟨st, en, s1, s2, rfl, _⟩, _, hA, _⟩ := h
    cases hA with
    | cons a r => cases r with
      | cons b r => cases r; rfl
  · obtain ⟨G, ss, fs, x, dx, vs', rfl, ⟨st, en, s1, s2, rfl, L1, L2, rfl⟩, eG, hA, nx, nd, ne, hx, hdx, k⟩ := h
    cases hA with
    | cons a r => cases r with
      | cons b r =>
        cases r
        obtain ⟨p1, us1, rfl, h1, d1⟩ := L1.get eG a
        obtain ⟨p2, us2, rfl, h2, d2⟩ := L2.get eG b
        have hg : Gl (cxOf CX0 P w K mg base ["self", "steps", "ends"] "Plan.__init__" (defScope s_Plan_init) f cdv A outer s H E).nox "list" := gl_of (by kernel_rfl)
        refine ⟨_, pss_cons (ps_fld (pv 0) (pe_callTy call_list_of hg zl (by kernel_rfl) (pa_cons (pv 1) pa_nil)) rfl) (pss_one (ps_fld (pv 0) (pe_callTy call_list_of hg zl (by kernel_rfl) (pa_cons (pv 2) pa_nil)) rfl)), ?_⟩
        refine ⟨_, rfl, p1, us1, rfl, .inl (.inl (.inl h1)), fun l1 hl1 => ?_⟩
        have nxl : x ≠ l1 := ne_of_none hx hl1
        refine ⟨_, rfl, x, C, dx, [], rfl, by rw [upd_ne nxl]; exact hx, cl, n1, (by show 0 < 1000; decide), ?_⟩
        have np2 : p2 ≠ l1 := ne_of_none h2 hl1
        have np2x : p2 ≠ x := ne_of h2 hx (by intro z; cases z)
        refine ⟨_, rfl, p2, us2, rfl, .inl (.inl (.inl (by rw [upd_ne np2x, upd_ne np2]; exact h2))), fun l2 hl2 => ?_⟩
        have nxl2 : x ≠ l2 := fun z => by rw [← z, upd_same] at hl2; cases hl2
        have nll : l1 ≠ l2 := fun z => by rw [← z, upd_ne nxl.symm, upd_same] at hl2; cases hl2
        have hl2' : H l2 = none := by rw [upd_ne nxl2.symm, upd_ne nll.symm] at hl2; exact hl2
        refine ⟨_, rfl, x, C, dx, _, rfl, by rw [upd_ne nxl2, upd_same], cl, n2, (by show 1 < 1000; decide), ?_⟩
        have g1 : G l1 = none := Ex.noneOf eG hl1
        have g2 : G l2 = none := Ex.noneOf eG hl2'
        have e1 : Ex G (upd G l1 (.lst us1)) := Ex.new g1
        have e2 : Ex (upd G l1 (.lst us1)) (upd (upd G l1 (.lst us1)) l2 (.lst us2)) := Ex.new (by rw [upd_ne nll.symm]; exact g2)
        refine k (upd (upd G l1 (.lst us1)) l2 (.lst us2)) _ _ (e1.trans e2) (fun c o q => ?_) (fun c o nc q => ?_) (fun c hc => ?_) upd_same ?_
        · by_cases z2 : c = l2
          · subst z2; rw [upd_same] at q; rw [upd_ne nxl2.symm, upd_same]; exact q
          · rw [upd_ne z2] at q
            by_cases z1 : c = l1
            · subst z1; rw [upd_same] at q; rw [upd_ne nxl.symm, upd_ne nll, upd_ne nxl.symm, upd_same]; exact q
            · rw [upd_ne z1] at q
              have nc : c ≠ x := fun z => by rw [z, nx] at q; cases q
              rw [upd_ne nc, upd_ne z2, upd_ne nc, upd_ne z1]
              exact eG _ _ q
        · have z1 : c ≠ l1 := ne_of_none q hl1
          have z2 : c ≠ l2 := ne_of_none q hl2'
          rw [upd_ne nc, upd_ne z2, upd_ne nc, upd_ne z1]
          exact q
        · rw [upd_ne (fun z => hc (by rw [z]; exact hl2')), upd_ne (fun z => hc (by rw [z]; exact hl1))]
        · have es : ¬ (("steps" : Str) = "ends") := by decide +kernel
          show Paired _ (putF "ends" (.ref l2) [(("steps" : Str), V.ref l1)]) _
          rw [put_new es]
          exact .cons ⟨rfl, .lst (by rw [upd_ne nll, upd_same]) ((d1.mono e1).mono e2)⟩ (.cons ⟨rfl, .lst upd_same ((d2.mono e1).mono e2)⟩ .nil)
end
end My

set_option Elab.async false
set_option linter.all false
set_option maxRecDepth 100000
set_option maxHeartbeats 1000000
namespace My
open PySem PySem.Spec PyProof.Rows L2 Mx

/-! ### short words for the walk (all local) -/
local macro_rules | `(tactic| walk_at "pl") => `(tactic| first | exact pl_int | exact pl_str | exact pl_bool | exact pl_none | exact pl_dN | exact pl_dH | assumption)
local macro_rules | `(tactic| walk_at "od") => `(tactic| first
  | exact od_add | exact od_sub | exact od_mod (by omega) | exact od_fdiv (by omega) (by omega) | exact od_pow (by decide) | exact od_mulL (by omega) | exact od_mulR (by omega)
  | exact oc_lt | exact oc_le | exact oc_gt | exact oc_ge | exact oc_ltS | exact oc_isN | exact oc_notN
  | exact oc_eqI (by assumption) | exact oc_eqS (by assumption) | exact oc_eqB (by assumption) | exact oc_eqN (by assumption) | exact oc_eqH (by assumption) | exact oc_eqNil (by assumption)
  | exact oc_neI (by assumption) | exact oc_neS (by assumption) | exact oc_neB (by assumption) | exact oc_neN (by assumption) | exact oc_neH (by assumption) | exact oc_neNil (by assumption)
  | exact oc_inN (by assumption) | exact oc_notinN (by assumption)
  | exact oc_eq (by assumption) (by walk_at "pl") (by walk_at "pl") | exact oc_ne (by assumption) (by walk_at "pl") (by walk_at "pl"))
local macro_rules | `(tactic| walk_at "nm") => `(tactic| first
  | exact ex_name 0 rfl | exact ex_name 1 rfl | exact ex_name 2 rfl | exact ex_name 3 rfl | exact ex_name 4 rfl | exact ex_name 5 rfl | exact ex_name 6 rfl | exact ex_name 7 rfl
  | exact ex_name 8 rfl | exact ex_name 9 rfl | exact ex_name 10 rfl | exact ex_name 11 rfl | exact ex_name 12 rfl | exact ex_name 13 rfl | exact ex_name 14 rfl | exact ex_name 15 rfl | exact ex_name 16 rfl | exact ex_name 17 rfl)
local macro_rules | `(tactic| walk_at "call") => `(tactic| fail)
local macro_rules | `(tactic| walk_at "exs") => `(tactic| first
  | walk_at "nm" | exact ex_int | exact ex_str | exact ex_bl | exact ex_non
  | (refine' ex_bin ?a ?b ?o; (case a => walk_at "ex"); (case b => walk_at "ex"); (case o => walk_at "od"))
  | (refine' ex_cmp ?a ?b ?o; (case a => walk_at "ex"); (case b => walk_at "ex"); (case o => walk_at "od"))
  | (refine' ex_not ?a; (case a => walk_at "ex"))
  | (refine' ex_neg ?a; (case a => walk_at "ex"))
  | (refine' ex_one ?a; (case a => walk_at "ex"))
  | (refine' ex_and ?a ?b; (case a => walk_at "ex"); (case b => intro _; walk_at "ex"))
  | (refine' ex_or ?a ?b; (case a => walk_at "ex"); (case b => intro _; walk_at "ex"))
  | (refine' ex_tup ?a ?z; (case a => walk_at "ea"); (case z => simp))
  | (refine' ex_freeze (ex_lst ?a ?z); (case a => walk_at "ea"); (case z => simp))
  | (refine' ex_callB ?a cd_lenL (by assumption); (case a => walk_at "ea"))
  | (refine' ex_callB ?a cd_lenT (by assumption); (case a => walk_at "ea"))
  | walk_at "call")
local macro_rules | `(tactic| walk_at "ex") => `(tactic| first | walk_at "exs" | (refine' ex_star ?h ?f; (case h => walk_at "exs"); (case f => rfl)))
local macro_rules | `(tactic| walk_at "ea") => `(tactic| first | exact ea_nil | (refine' ea_cons ?a ?r; (case a => walk_at "ex"); (case r => walk_at "ea")))
local macro_rules | `(tactic| walk_at "ews") => `(tactic| first
  | (refine' ew_and1 ?a; (case a => walk_at "et"))
  | (refine' ew_or1 ?a; (case a => walk_at "et"))
  | (refine' ew_and ?a ?b; (case a => walk_at "et"); (case b => intro _; walk_at "ews"))
  | (refine' ew_or ?a ?b; (case a => walk_at "et"); (case b => intro _; walk_at "ews")))
local macro_rules | `(tactic| walk_at "ets") => `(tactic| first
  | (refine' et_W ?a; (case a => walk_at "ews"))
  | (refine' et_not ?a; (case a => walk_at "et"))
  | (refine' et_cmp ?a ?b ?o; (case a => walk_at "ex"); (case b => walk_at "ex"); (case o => walk_at "od"))
  | (refine' et_val ?a; (case a => walk_at "ex")))
local macro_rules | `(tactic| walk_at "et") => `(tactic| first | walk_at "ets" | (refine' et_star ?h; (case h => walk_at "ets")))
local macro_rules | `(tactic| walk_at "sh") => `(tactic| first | exact shd_da | exact shd_scr | exact shd_ob)
local macro_rules | `(tactic| walk_at "nmS") => `(tactic| first
  | exact ex_nameS 0 rfl (by walk_at "sh") | exact ex_nameS 1 rfl (by walk_at "sh") | exact ex_nameS 2 rfl (by walk_at "sh") | exact ex_nameS 3 rfl (by walk_at "sh") | exact ex_nameS 4 rfl (by walk_at "sh") | exact ex_nameS 5 rfl (by walk_at "sh")
  | exact ex_nameS 6 rfl (by walk_at "sh") | exact ex_nameS 7 rfl (by walk_at "sh") | exact ex_nameS 8 rfl (by walk_at "sh") | exact ex_nameS 9 rfl (by walk_at "sh") | exact ex_nameS 10 rfl (by walk_at "sh") | exact ex_nameS 11 rfl (by walk_at "sh"))
local macro_rules | `(tactic| walk_at "es") => `(tactic| first
  | exact es_nil
  | (refine' es_cons ?a ?r; (case a => (first | walk_at "ex" | walk_at "nmS")); (case r => walk_at "es"))
  | (refine' es_cons ?a ?r shd_scr; (case a => walk_at "nmS"); (case r => walk_at "es"))
  | (refine' es_cons ?a ?r shd_ob; (case a => (first | walk_at "ex" | walk_at "nmS")); (case r => walk_at "es")))
local macro_rules | `(tactic| walk_at "rm") => `(tactic| exact Room.mono (by assumption) (by decide))
section
variable {P : Program} {w : World} {K : PySem.W.Frag} {mg : Str → Option Value} {base : Heap}
/-! ### plan -/
def R_plan (C : Addr) : List Slot → Slot → Prop := fun ss s => ∃ h, ss = [.da (dH h)] ∧ Valid LETT h ∧ s = .ext (OB C (fP (planF h).1 (planF h).2))
theorem lookE {k : Names} : ∀ l : List (Names × Int), (l.map fun p => (p.1, PyData.int p.2)).lookup k = (l.lookup k).map PyData.int
  | [] => rfl
  | (j, i) :: r => by
    rw [List.map_cons, List.lookup_cons, List.lookup_cons]
    cases e : k == j with
    | true => rfl
    | false => exact lookE r
def envP (h : Hear) (s : PS) : Env' := [.da (dH h), .da (dN (vo h)), .ow (s.st.map dS), .ext (ODT (s.kn.map fun p => (p.1, PyData.int p.2))), .da (.int ((vo h).length : Nat)), .da (.int (waysF h).1), .da (.int (waysF h).2), .da (dE (total0 h).2), .ow (s.en.map dE), .un, .un, .un, .un, .un, .un, .un, .un]
def envQ (h : Hear) (S : PS) (e9 e10 e11 e12 e13 e14 e15 e16 : Slot) : Env' := [.da (dH h), .da (dN (vo h)), .ow (S.st.map dS), .ext (ODT (S.kn.map fun p => (p.1, PyData.int p.2))), .da (.int ((vo h).length : Nat)), .da (.int (waysF h).1), .da (.int (waysF h).2), .da (dE (total0 h).2), .ow (S.en.map dE), e9, e10, e11, e12, e13, e14, e15, e16]
theorem weakQ {h : Hear} {S : PS} {e9 e10 e11 e12 e13 e14 e15 e16 : Slot} : Weak (envQ h S e9 e10 e11 e12 e13 e14 e15 e16) (envP h S) :=
  .same (.same (.same (.same (.same (.same (.same (.same (.same (.un (.un (.un (.un (.un (.un (.un (.un .nil))))))))))))))))
theorem ok_plan {C f : Addr} {fd : FuncData} (F : Fun K "plan" "plan" s_plan f fd) (CC : Cal P w K mg base "check_hearing" 4 (spP K R_chk)) (CV : Cal P w K mg base "voices_of" 1 (spP K R_voices)) (CW : Cal P w K mg base "ways_of" 2 (spP K R_ways)) (CA : Cal P w K mg base "added" 1 (spIO K R_added)) (MP : CalI P w K mg base "Plan" C 1 (spInitB K C R_planI))
    (zl : mg "len" = none) (zli : mg "list" = none) (zr : mg "range" = none) (zt : mg "tuple" = none) : FnOk P w K mg base CX0 5 f fd ["hearing"] (spP K (R_plan C)) := by
  refine fun_rt F c_plan (fun ss s h => ?_) fun cdv A outer s H E hr hu ss sl h => ?_
  · obtain ⟨h, rfl, _⟩ := h; rfl
  · obtain ⟨h, rfl, V, rfl⟩ := h
    show Rt _ _ [.da (dH h), .un, .un, .un, .un, .un, .un, .un, .un, .un, .un, .un, .un, .un, .un, .un, .un] _
    have hhl := V.len
    have hvl := vo_len V
    refine' rt_cons (r_expr (ex_call CC ?m0 (es_cons (ex_name 0 rfl) es_nil) ⟨h, rfl, V, rfl⟩)) ?r0
    case m0 => walk_at "rm"
    refine' rt_cons (r_par3T 1 2 3 rfl c_plan.nd (s1 := .da (dN (vo h))) (s2 := .ow []) (s3 := .ext (ODT [])) (ex_freeze (ex_call CV ?m1 (es_cons (ex_name 0 rfl) es_nil) ⟨h, rfl, V, rfl⟩)) (ex_lst ea_nil (by decide)) ex_dnewT) ?r1
    case m1 => walk_at "rm"
    refine' rt_cons (r_tgt (ex_tup (ea_cons (ex_callB (ea_cons (ex_name 1 rfl) ea_nil) cd_lenL zl) (ea_cons (ex_call CW ?m2 (es_cons (ex_name 0 rfl) es_nil) ⟨h, rfl, V, rfl⟩) ea_nil)) (by show 2 ≤ 100000; omega))
      (bt_tup rfl (bts_cons (bt_name 4 c_plan.nd) (bts_cons (bt_tup rfl (bts_cons (bt_name 5 c_plan.nd) (bts_cons (bt_name 6 c_plan.nd) bts_nil))) bts_nil)))) ?r2
    case m2 => walk_at "rm"
    rw [List.length_map]
    refine' rt_cons (r_set 7 c_plan.nd ex_non) ?r3
    show Rt _ _ [.da (dH h), .da (dN (vo h)), .ow [], .ext (ODT []), .da (.int ((vo h).length : Nat)), .da (.int (waysF h).1), .da (.int (waysF h).2), .da .none, .un, .un, .un, .un, .un, .un, .un, .un, .un] _
    refine' rt_cons (r_if (o := .nx [.da (dH h), .da (dN (vo h)), .ow ((total0 h).1.map dS), .ext (ODT []), .da (.int ((vo h).length : Nat)), .da (.int (waysF h).1), .da (.int (waysF h).2), .da (dE (total0 h).2), .un, .un, .un, .un, .un, .un, .un, .un, .un]) (b := decide ((waysF h).2 < (waysF h).1)) (et_cmp (ex_name 6 rfl) (ex_name 5 rfl) oc_lt) (fun t => ?b1) (fun t => ?b2)) ?r4
    case b1 =>
      have t' := of_decide_eq_true t
      have hp := many_pos V t'
      refine' rs_is (rs_cons (r_setM 7 c_plan.nd (em_call (ds := ([] : List Stp).map dS) 2 CA ?m3 rfl (es_cons (ex_name 4 rfl) (es_cons (ex_freeze (ex_listRg (n := ((vo h).length : Nat)) rfl (ex_name 4 rfl) (by omega) zli zr)) es_nil)) ⟨[], ((vo h).length : Nat), (List.range (vo h).length).map fun (i : Nat) => (i : Int), ?hne, Nat.zero_le _, ?hl, rfl, ?hss, rfl, rfl⟩)) rs_nil) ?e1
      case m3 => walk_at "rm"
      case hne =>
        intro z
        have := congrArg List.length z
        rw [List.length_map, List.length_range] at this
        rw [List.length_nil] at this
        omega
      case hl => rw [List.length_map, List.length_range]; omega
      case hss =>
        unfold dZ
        rw [List.map_map, Int.toNat_natCast]
        rfl
      case e1 =>
        unfold total0
        rw [if_pos t']
        rfl
    case b2 =>
      unfold total0
      rw [if_neg (of_decide_eq_false t)]
      exact rs_nil
    refine' rt_cons (r_set 8 c_plan.nd (ex_lst ea_nil (by decide))) ?r5
    show Rt _ _ (envP h ⟨(total0 h).1, [], []⟩) _
    refine' rt_cons (r_for PassesOwn.never rfl (it_list (ex_name 0 rfl)) (for_pre h dP (fun pre => envP h (planS h pre)) (fun pre p post e => ⟨_, _, bt_tup rfl (bts_cons (bt_name 9 c_plan.nd) (bts_cons (bt_name 10 c_plan.nd) bts_nil)), ?turn⟩))) ?r6
    case r6 =>
      obtain ⟨h1, h2, h3⟩ := planS_len V (l := h) fun p hp => hp
      refine rt_freeze 2 rfl (rt_freeze 8 rfl (rt_ret (r_return (ex_makeB MP (by walk_at "rm") (esb_cons (ex_name 2 rfl) (esb_cons (ex_name 8 rfl) esb_nil)) ⟨(planF h).1, (planF h).2, _, _, rfl, .inl rfl, .inl rfl, rfl⟩))))
    case turn =>
      have hp : p ∈ h := by rw [e]; simp
      obtain ⟨h1, h2, h3⟩ := planS_len V (l := pre) fun q hq => by rw [e]; simp [hq]
      have hpre : pre.length ≤ 7 := by have := congrArg List.length e; simp at this; omega
      rw [planS_snoc]
      generalize planS h pre = S at h1 h2 h3
      obtain ⟨st, kn, en⟩ := S
      simp only at h1 h2 h3
      have ol := V.olen hp
      by_cases hp2 : p.2 = []
      · -- nobody
        refine .inr ?_
        show RS _ _ (envQ h ⟨st, kn, en⟩ (.da (.str p.1)) (.da (dN p.2)) .un .un .un .un .un .un) _
        unfold planStep
        rw [if_pos hp2]
        refine' rs_weakC (ρ1 := envQ h ⟨st, kn, en ++ [none]⟩ (.da (.str p.1)) (.da (dN p.2)) (.da (.tuple (p.2.map .str))) .un .un .un .un .un) weakQ (rs_cons (r_set 11 c_plan.nd (ex_callTy (ea_cons (ex_name 10 rfl) ea_nil) cd_tuple zt)) (rs_cont (r_if (b := true) (ET.is (et_cmp (ex_name 10 rfl) (ex_freeze (ex_lst ea_nil (by decide))) (oc_eqNil hu)) ?c1) (fun _ => ?c2) fun z => nomatch z)))
        case c1 => exact decide_eq_true hp2
        case c2 =>
          have hen : (en ++ [none]).map dE = en.map dE ++ [PyData.none] := by rw [List.map_append]; rfl
          unfold envQ
          simp only
          rw [hen]
          exact rs_cons (r_append 8 rfl ex_non (by rw [List.length_map]; omega)) (rs_cont r_continue)
      · refine .inl ?_
        show RS _ _ (envQ h ⟨st, kn, en⟩ (.da (.str p.1)) (.da (dN p.2)) .un .un .un .un .un .un) _
        unfold planStep
        rw [if_neg hp2]
        refine' rs_cons (r_set 11 c_plan.nd (ex_callTy (ea_cons (ex_name 10 rfl) ea_nil) cd_tuple zt)) ?s1
        refine' rs_cons (r_if (b := false) (ET.is (et_cmp (ex_name 10 rfl) (ex_freeze (ex_lst ea_nil (by decide))) (oc_eqNil hu)) (decide_eq_false hp2)) (fun z => nomatch z) fun _ => rs_nil) ?s2
        cases hk : kn.lookup p.2 with
        | some i =>
          have hlk : (kn.map fun p => (p.1, PyData.int p.2)).lookup p.2 = some (.int i) := by rw [lookE, hk]; rfl
          have hen : (en ++ [some i]).map dE = en.map dE ++ [PyData.int i] := by rw [List.map_append]; rfl
          refine' rs_cons (r_if (b := false) (ET.is (et_dnotin hu 3 rfl (k := p.2) (ex_name 11 rfl)) (by rw [hlk]; rfl)) (fun z => nomatch z) fun _ => rs_nil) ?s3
          refine' rs_weak (ρ1 := envQ h ⟨st, kn, en ++ [some i]⟩ (.da (.str p.1)) (.da (dN p.2)) (.da (.tuple (p.2.map .str))) .un .un .un .un .un) weakQ ?s4
          unfold envQ
          simp only
          rw [hen]
          exact rs_cons (r_append 8 rfl (ex_dgetT hu 3 rfl (k := p.2) (ex_name 11 rfl) hlk) (by rw [List.length_map]; omega)) rs_nil
        | none =>
          have hlk : (kn.map fun p => (p.1, PyData.int p.2)).lookup p.2 = none := by rw [lookE, hk]; rfl
          generalize hO : oneF (vo h).length (vo h) p.2 (total0 h).2 st = O
          obtain ⟨st2, i2⟩ := O
          have hen : (en ++ [some i2]).map dE = en.map dE ++ [PyData.int i2] := by rw [List.map_append]; rfl
          have hlk2 : ((kn ++ [(p.2, i2)]).map fun p => (p.1, PyData.int p.2)).lookup p.2 = some (.int i2) := by
            rw [lookE, List.lookup_append, hk]
            simp [List.lookup]
          refine' rs_cons (r_if (o := .nx (envQ h ⟨st2, kn ++ [(p.2, i2)], en⟩ (.da (.str p.1)) (.da (dN p.2)) (.da (.tuple (p.2.map .str))) .un .un .un .un .un)) (b := true) (ET.is (et_dnotin hu 3 rfl (k := p.2) (ex_name 11 rfl)) (by rw [hlk]; rfl)) (fun _ => ?make) fun z => nomatch z) ?s5
          case s5 =>
            refine' rs_weak (ρ1 := envQ h ⟨st2, kn ++ [(p.2, i2)], en ++ [some i2]⟩ (.da (.str p.1)) (.da (dN p.2)) (.da (.tuple (p.2.map .str))) .un .un .un .un .un) weakQ ?s6
            unfold envQ
            simp only
            rw [hen]
            exact rs_cons (r_append 8 rfl (ex_dgetT hu 3 rfl (k := p.2) (ex_name 11 rfl) hlk2) (by rw [List.length_map]; omega)) rs_nil
          case make =>
            have hin : ∀ x ∈ p.2, x ∈ vo h := fun x hx => (vo_mem V).mpr ⟨p, hp, hx⟩
            have hpl : (placesF (vo h) p.2).length = p.2.length := by unfold placesF; rw [List.length_map]
            have hml := missF_len (vo h).length (placesF (vo h) p.2)
            refine' rs_cons (r_set 12 c_plan.nd (ex_lcA [("one", 16)] p.2 .str (fun x => .int (((vo h).idxOf x : Nat) : Int)) rfl c_plan.nd (blkOk_by (by kernel_rfl)) (it_list (ex_name 10 rfl)) (fun y hy => ?lc) (by omega)) (hs := sw_cell (by kernel_rfl))) ?t1
            case lc =>
              refine ⟨_, _, ?_, fun s0 H0 C cl fp => ⟨bt_name 16 c_plan.nd, ets_nil, fun _ => ex_index (xs := vo h) (ex_name 1 rfl) (ex_name 16 rfl) (hin y hy)⟩⟩
              decide
            have hpe : p.2.map (fun x => PyData.int (((vo h).idxOf x : Nat) : Int)) = (placesF (vo h) p.2).map .int := by unfold placesF; rw [List.map_map]; rfl
            rw [hpe]
            refine rs_freeze 12 rfl ?_
            have hme : ((List.range (vo h).length).filter fun (i : Nat) => !decide ((i : Int) ∈ placesF (vo h) p.2)).map (fun (i : Nat) => PyData.int (i : Int)) = (missF (vo h).length (placesF (vo h) p.2)).map .int := by
              unfold missF
              rw [List.filter_map, List.map_map]
              rfl
            generalize hPL : placesF (vo h) p.2 = pls at *
            refine' rs_cons (r_setLc 13 [("place", 15)] (List.range ((vo h).length : Int).toNat) (fun (i : Nat) => .int (i : Int)) (fun (i : Nat) => !decide ((i : Int) ∈ pls)) (fun (i : Nat) => .int (i : Int)) rfl c_plan.nd (blkOk_by (by kernel_rfl)) (it_range1 (n := ((vo h).length : Nat)) zr (ea_cons (ex_name 4 rfl) ea_nil) (by omega)) (fun y hy => ?lc2) ?ln (hyl := by kernel_rfl) (hsw := by exact sw_true rfl rfl rfl (by kernel_rfl))) ?t2
            case lc2 =>
              refine ⟨_, _, ?_, fun s0 H0 C cl fp => ⟨bt_name 15 c_plan.nd, ets_one (et_cmp (ex_name 15 rfl) (ex_name 12 rfl) (oc_notinZ hu)), fun _ => ex_name 15 rfl⟩⟩
              decide
            case ln => rw [List.length_range]; omega
            rw [Int.toNat_natCast, hme]
            refine rs_freeze 13 rfl ?_
            generalize hMS : missF (vo h).length pls = mis at *
            show RS _ _ (envQ h ⟨st, kn, en⟩ (.da (.str p.1)) (.da (dN p.2)) (.da (.tuple (p.2.map .str))) (.da (dZ pls)) (.da (dZ mis)) .un .un .un) _
            refine' rs_cons (r_if (o := .nx (envQ h ⟨st2, kn ++ [(p.2, i2)], en⟩ (.da (.str p.1)) (.da (dN p.2)) (.da (.tuple (p.2.map .str))) .un .un .un .un .un)) (b := !(total0 h).2.isNone && decide (mis.length < pls.length)) (et_W (ew_and (et_cmp (ex_name 7 rfl) ex_non oc_notE) fun _ => ew_and1 (ET.is (et_cmp (ex_callB (ea_cons (ex_name 13 rfl) ea_nil) cd_lenL zl) (ex_callB (ea_cons (ex_name 12 rfl) ea_nil) cd_lenL zl) oc_lt) ?c3))) (fun t => ?br1) (fun t => ?br2)) rs_nil
            case c3 => rw [List.length_map, List.length_map]; congr 1; simp
            case br1 =>
              rw [Bool.and_eq_true] at t
              obtain ⟨ta, tb⟩ := t
              have tb' := of_decide_eq_true tb
              cases ht : (total0 h).2 with
              | none => rw [ht] at ta; cases ta
              | some t0 =>
                have hO2 : moreF OFF (vo h).length mis (st, t0) = (st2, i2) := by
                  rw [← hO]
                  unfold oneF
                  rw [ht]
                  simp only
                  rw [hPL, hMS, if_pos tb']
                have hknE : ((kn ++ [(p.2, i2)]).map fun p => (p.1, PyData.int p.2)) = (kn.map fun p => (p.1, PyData.int p.2)) ++ [(p.2, .int i2)] := by rw [List.map_append]; rfl
                refine' rs_cons (r_set 14 c_plan.nd (s := .da (.int t0)) (EX.is (ex_name 7 rfl) ?d1)) ?u1
                case d1 => rw [ht]; rfl
                have hmm := missF_len (vo h).length pls
                rw [hMS] at hmm
                refine' rs_cons (r_for PassesOwn.never rfl (it_list (ds := mis.map .int) (ex_name 13 rfl)) (for_pre mis .int (fun pr => envQ h ⟨(moreF OFF (vo h).length pr (st, t0)).1, kn, en⟩ (.da (.str p.1)) (.da (dN p.2)) (.da (.tuple (p.2.map .str))) (.da (dZ pls)) (.da (dZ mis)) (.da (.int (moreF OFF (vo h).length pr (st, t0)).2)) .un .un) (fun pr q po eq => ⟨_, _, bt_name 15 c_plan.nd, .inl (by
                  have hl2 := moreF_len OFF (vo h).length pr (st, t0)
                  simp only at hl2
                  have hpr : pr.length ≤ 7 := by have := congrArg List.length eq; simp at this; omega
                  refine' rs_weak (ρ1 := envQ h ⟨(moreF OFF (vo h).length (pr ++ [q]) (st, t0)).1, kn, en⟩ (.da (.str p.1)) (.da (dN p.2)) (.da (.tuple (p.2.map .str))) (.da (dZ pls)) (.da (dZ mis)) (.da (.int (moreF OFF (vo h).length (pr ++ [q]) (st, t0)).2)) (.da (.int q)) .un) (.same (.same (.same (.same (.same (.same (.same (.same (.same (.same (.same (.same (.same (.same (.same (.un (.same .nil)))))))))))))))))
                    (rs_cons (r_append 2 rfl (ex_tup (ea_cons ex_str (ea_cons (ex_name 14 rfl) (ea_cons (ex_name 15 rfl) ea_nil))) (by show 3 ≤ 100000; omega)) ?al) (rs_is (rs_cons (r_set 14 c_plan.nd (ex_bin (ex_bin (ex_name 4 rfl) (ex_star (ex_callB (ea_cons (ex_name 2 rfl) ea_nil) cd_lenL zl) rfl) od_add) ex_int od_sub)) rs_nil) ?ee))
                  case al => rw [List.length_map]; show (moreF OFF (vo h).length pr (st, t0)).1.length < 100000; omega
                  case ee =>
                    rw [moreF_snoc]
                    unfold moreStep envQ
                    simp only [List.map_append, List.length_append, List.length_map, List.length_cons, List.length_nil, List.map_cons, List.map_nil]
                    rfl)⟩))) ?u2
                rw [hO2]
                refine' rs_weak (ρ1 := envQ h ⟨st2, kn ++ [(p.2, i2)], en⟩ (.da (.str p.1)) (.da (dN p.2)) (.da (.tuple (p.2.map .str))) (.da (dZ pls)) (.da (dZ mis)) (.da (.int i2)) .un .un) (.same (.same (.same (.same (.same (.same (.same (.same (.same (.same (.same (.same (.un (.un (.un (.un (.un .nil))))))))))))))))) ?u3
                unfold envQ
                simp only
                rw [hknE]
                exact rs_cons (r_dputT hu 3 (em_ex (ex_name 14 rfl)) rfl (k := p.2) (ex_name 11 rfl) hlk (by rw [List.length_map]; omega)) rs_nil
            case br2 =>
              have hO2 : addF (vo h).length pls st = (st2, i2) := by
                rw [← hO]
                unfold oneF
                cases ht : (total0 h).2 with
                | none => simp only; rw [hPL]
                | some t0 =>
                  simp only
                  rw [hPL, hMS]
                  rw [ht] at t
                  have t2 : ¬ mis.length < pls.length := by simpa using t
                  rw [if_neg t2]
              have hknE : ((kn ++ [(p.2, i2)]).map fun p => (p.1, PyData.int p.2)) = (kn.map fun p => (p.1, PyData.int p.2)) ++ [(p.2, .int i2)] := by rw [List.map_append]; rfl
              refine' rs_weak (ρ1 := envQ h ⟨st2, kn ++ [(p.2, i2)], en⟩ (.da (.str p.1)) (.da (dN p.2)) (.da (.tuple (p.2.map .str))) (.da (dZ pls)) (.da (dZ mis)) .un .un .un) (.same (.same (.same (.same (.same (.same (.same (.same (.same (.same (.same (.same (.un (.un (.un (.un (.un .nil))))))))))))))))) ?v1
              unfold envQ
              simp only
              rw [hknE]
              refine rs_cons (r_dputT hu 3 (em_call (ds := st.map dS) (ds' := st2.map dS) (d := .int i2) 2 CA (by walk_at "rm") rfl (es_cons (ex_name 4 rfl) (es_cons (ex_name 12 rfl) es_nil)) ⟨st, ((vo h).length : Nat), pls, ?_, by omega, by omega, rfl, rfl, by rw [hO2], by rw [hO2]⟩) rfl (k := p.2) (ex_name 11 rfl) hlk (by rw [List.length_map]; omega)) rs_nil
              intro z
              rw [z] at hpl
              exact hp2 (List.length_eq_zero_iff.mp hpl.symm)
end
end My

set_option Elab.async false
set_option linter.all false
set_option maxRecDepth 100000
set_option maxHeartbeats 1000000
namespace My
open PySem PySem.Spec PyProof.Rows L2 Mx

/-! ### short words for the walk (all local) -/
local macro_rules | `(tactic| walk_at "pl") => `(tactic| first | exact pl_int | exact pl_str | exact pl_bool | exact pl_none | exact pl_dN | exact pl_dH | assumption)
local macro_rules | `(tactic| walk_at "od") => `(tactic| first
  | exact od_add | exact od_sub | exact od_mod (by omega) | exact od_fdiv (by omega) (by omega) | exact od_pow (by decide) | exact od_mulL (by omega) | exact od_mulR (by omega)
  | exact oc_lt | exact oc_le | exact oc_gt | exact oc_ge | exact oc_ltS | exact oc_isN | exact oc_notN
  | exact oc_eqI (by assumption) | exact oc_eqS (by assumption) | exact oc_eqB (by assumption) | exact oc_eqN (by assumption) | exact oc_eqH (by assumption) | exact oc_eqNil (by assumption)
  | exact oc_neI (by assumption) | exact oc_neS (by assumption) | exact oc_neB (by assumption) | exact oc_neN (by assumption) | exact oc_neH (by assumption) | exact oc_neNil (by assumption)
  | exact oc_inN (by assumption) | exact oc_notinN (by assumption)
  | exact oc_eq (by assumption) (by walk_at "pl") (by walk_at "pl") | exact oc_ne (by assumption) (by walk_at "pl") (by walk_at "pl"))
local macro_rules | `(tactic| walk_at "nm") => `(tactic| first
  | exact ex_name 0 rfl | exact ex_name 1 rfl | exact ex_name 2 rfl | exact ex_name 3 rfl | exact ex_name 4 rfl | exact ex_name 5 rfl | exact ex_name 6 rfl | exact ex_name 7 rfl
  | exact ex_name 8 rfl | exact ex_name 9 rfl | exact ex_name 10 rfl | exact ex_name 11 rfl | exact ex_name 12 rfl | exact ex_name 13 rfl | exact ex_name 14 rfl | exact ex_name 15 rfl | exact ex_name 16 rfl | exact ex_name 17 rfl)
local macro_rules | `(tactic| walk_at "call") => `(tactic| fail)
local macro_rules | `(tactic| walk_at "exs") => `(tactic| first
  | walk_at "nm" | exact ex_int | exact ex_str | exact ex_bl | exact ex_non
  | (refine' ex_bin ?a ?b ?o; (case a => walk_at "ex"); (case b => walk_at "ex"); (case o => walk_at "od"))
  | (refine' ex_cmp ?a ?b ?o; (case a => walk_at "ex"); (case b => walk_at "ex"); (case o => walk_at "od"))
  | (refine' ex_not ?a; (case a => walk_at "ex"))
  | (refine' ex_neg ?a; (case a => walk_at "ex"))
  | (refine' ex_one ?a; (case a => walk_at "ex"))
  | (refine' ex_and ?a ?b; (case a => walk_at "ex"); (case b => intro _; walk_at "ex"))
  | (refine' ex_or ?a ?b; (case a => walk_at "ex"); (case b => intro _; walk_at "ex"))
  | (refine' ex_tup ?a ?z; (case a => walk_at "ea"); (case z => simp))
  | (refine' ex_freeze (ex_lst ?a ?z); (case a => walk_at "ea"); (case z => simp))
  | (refine' ex_callB ?a cd_lenL (by assumption); (case a => walk_at "ea"))
  | (refine' ex_callB ?a cd_lenT (by assumption); (case a => walk_at "ea"))
  | walk_at "call")
local macro_rules | `(tactic| walk_at "ex") => `(tactic| first | walk_at "exs" | (refine' ex_star ?h ?f; (case h => walk_at "exs"); (case f => rfl)))
local macro_rules | `(tactic| walk_at "ea") => `(tactic| first | exact ea_nil | (refine' ea_cons ?a ?r; (case a => walk_at "ex"); (case r => walk_at "ea")))
local macro_rules | `(tactic| walk_at "ews") => `(tactic| first
  | (refine' ew_and1 ?a; (case a => walk_at "et"))
  | (refine' ew_or1 ?a; (case a => walk_at "et"))
  | (refine' ew_and ?a ?b; (case a => walk_at "et"); (case b => intro _; walk_at "ews"))
  | (refine' ew_or ?a ?b; (case a => walk_at "et"); (case b => intro _; walk_at "ews")))
local macro_rules | `(tactic| walk_at "ets") => `(tactic| first
  | (refine' et_W ?a; (case a => walk_at "ews"))
  | (refine' et_not ?a; (case a => walk_at "et"))
  | (refine' et_cmp ?a ?b ?o; (case a => walk_at "ex"); (case b => walk_at "ex"); (case o => walk_at "od"))
  | (refine' et_val ?a; (case a => walk_at "ex")))
local macro_rules | `(tactic| walk_at "et") => `(tactic| first | walk_at "ets" | (refine' et_star ?h; (case h => walk_at "ets")))
local macro_rules | `(tactic| walk_at "sh") => `(tactic| first | exact shd_da | exact shd_scr | exact shd_ob)
local macro_rules | `(tactic| walk_at "nmS") => `(tactic| first
  | exact ex_nameS 0 rfl (by walk_at "sh") | exact ex_nameS 1 rfl (by walk_at "sh") | exact ex_nameS 2 rfl (by walk_at "sh") | exact ex_nameS 3 rfl (by walk_at "sh") | exact ex_nameS 4 rfl (by walk_at "sh") | exact ex_nameS 5 rfl (by walk_at "sh")
  | exact ex_nameS 6 rfl (by walk_at "sh") | exact ex_nameS 7 rfl (by walk_at "sh") | exact ex_nameS 8 rfl (by walk_at "sh") | exact ex_nameS 9 rfl (by walk_at "sh") | exact ex_nameS 10 rfl (by walk_at "sh") | exact ex_nameS 11 rfl (by walk_at "sh"))
local macro_rules | `(tactic| walk_at "es") => `(tactic| first
  | exact es_nil
  | (refine' es_cons ?a ?r; (case a => (first | walk_at "ex" | walk_at "nmS")); (case r => walk_at "es"))
  | (refine' es_cons ?a ?r shd_scr; (case a => walk_at "nmS"); (case r => walk_at "es"))
  | (refine' es_cons ?a ?r shd_ob; (case a => (first | walk_at "ex" | walk_at "nmS")); (case r => walk_at "es")))
local macro_rules | `(tactic| walk_at "rm") => `(tactic| exact Room.mono (by assumption) (by decide))
section
variable {P : Program} {w : World} {K : PySem.W.Frag} {mg : Str → Option Value} {base : Heap}
/-! ### are_steps, are_ends -/
def R_areSteps : List Slot → Slot → Prop := fun ss s => ∃ st, ∃ m : Int, ss = [.da (dSs st), .da (.int m)] ∧ s = .da (.bool (areStepsF m st))
theorem ok_areSteps {f : Addr} {fd : FuncData} (F : Fun K "are_steps" "are_steps" s_are_steps f fd) (ze : mg "enumerate" = none) : FnOk P w K mg base CX0 1 f fd ["steps", "many"] (spP K R_areSteps) := by
  refine fun_rt F c_are_steps (fun ss s h => ?_) fun cdv A outer s H E hr hu ss sl h => ?_
  · obtain ⟨st, m, rfl, _⟩ := h; rfl
  · obtain ⟨st, m, rfl, rfl⟩ := h
    show Rt _ _ [.da (dSs st), .da (.int m), .un, .un, .un, .un] _
    have hg : st.zipIdx.findSome? (fun q => if (!stepOkB m q) = true then some (Slot.da (.bool false)) else none) = if areStepsF m st = true then none else some (.da (.bool false)) := by
      unfold areStepsF
      induction st.zipIdx with
      | nil => rfl
      | cons a r ih =>
        rw [List.findSome?_cons, List.all_cons]
        cases stepOkB m a with
        | true =>
          rw [Bool.true_and]
          exact ih
        | false => rfl
    refine' rt_find (st.zipIdx.findSome? (fun q => if (!stepOkB m q) = true then some (Slot.da (.bool false)) else none)) PassesOwn.never rfl (it_enumM dS ze (ea_cons (ex_name 0 rfl) ea_nil)) (for_find st.zipIdx (fun q => .tuple [.int (q.2 : Nat), dS q.1]) [.da (dSs st), .da (.int m), .un, .un, .un, .un] _ fun q hq => ⟨_, _, bt_tup rfl (bts_cons (bt_name 2 c_are_steps.nd) (bts_cons (bt_tup rfl (bts_cons (bt_name 3 c_are_steps.nd) (bts_cons (bt_name 4 c_are_steps.nd) (bts_cons (bt_name 5 c_are_steps.nd) bts_nil)))) bts_nil)), ?body⟩) (fun q => ?z1) (fun t q => ?z2)
    case z1 =>
      rw [hg] at q
      cases e : areStepsF m st with
      | true => exact rt_ret (r_return ex_bl)
      | false => rw [e] at q; cases q
    case z2 =>
      rw [hg] at q
      cases e : areStepsF m st with
      | true => rw [e] at q; cases q
      | false => rw [e] at q; cases q; rfl
    case body =>
      obtain ⟨⟨k, i, j⟩, n⟩ := q
      refine' FindB.is (fb_ifr (b := !stepOkB m ((k, i, j), n)) (s := .da (.bool false)) (ET.is (et_W (ew_or (et_cmp (ex_name 3 rfl) (ex_tup (ea_cons ex_str (ea_cons ex_str ea_nil)) (by show 2 ≤ 100000; omega)) (oc_notin2 hu)) fun _ => ew_or (et_not (et_chain ex_int (ex_name 4 rfl) (fun _ => ex_bin (ex_name 1 rfl) (ex_name 2 rfl) od_add) oc_le fun _ => oc_lt)) fun _ =>
        ew_or1 (et_not (et_chain ex_int (ex_name 5 rfl) (fun _ => ex_bin (ex_name 1 rfl) (ex_name 2 rfl) od_add) oc_le fun _ => oc_lt)))) ?e1) (fun _ => ex_bl) (.same (.same (.un (.un (.un (.un .nil))))))) rfl
      case e1 =>
        unfold stepOkB
        simp only [Bool.not_and, Bool.or_assoc]
        rfl
def R_areEnds : List Slot → Slot → Prop := fun ss s => ∃ en, ∃ m most : Int, ss = [.da (dEs en), .da (.int m), .da (.int most)] ∧ en.length ≤ 1000 ∧ s = .da (.bool (areEndsF m most en))
theorem ok_areEnds {f : Addr} {fd : FuncData} (F : Fun K "are_ends" "are_ends" s_are_ends f fd) (zl : mg "len" = none) (za : mg "all" = none) : FnOk P w K mg base CX0 1 f fd ["ends", "many", "most"] (spP K R_areEnds) := by
  refine fun_rt F c_are_ends (fun ss s h => ?_) fun cdv A outer s H E hr hu ss sl h => ?_
  · obtain ⟨st, m, mo, rfl, _⟩ := h; rfl
  · obtain ⟨en, m, mo, rfl, hl, rfl⟩ := h
    show Rt _ _ [.da (dEs en), .da (.int m), .da (.int mo), .un] _
    refine' rt_ret (r_return (EX.is (ex_and (ex_cmp (ex_callB (ea_cons (ex_name 0 rfl) ea_nil) cd_lenL zl) (ex_name 1 rfl) (oc_eqI hu)) fun _ => ex_one (ex_callB (ea_cons (ex_freeze (ex_lcA [("end", 3)] en dE (fun e => .bool (endOkB mo e)) rfl c_are_ends.nd (blkOk_by (by kernel_rfl)) (it_list (ex_name 0 rfl)) (fun y hy => ?lc) (by omega))) ea_nil) (cd_allF rfl) za)) ?e))
    case lc =>
      refine ⟨_, _, ?_, fun s0 H0 C cl fp => ⟨bt_name 3 c_are_ends.nd, ets_nil, fun _ => ?_⟩⟩
      · decide
      · cases y with
        | none => exact EX.is (ex_or (t := true) (ex_cmp (d1 := dE none) (ex_name 3 rfl) ex_non oc_isE) (u := true) fun z => nomatch z) rfl
        | some i => exact EX.is (ex_or (t := false) (ex_cmp (d1 := dE (some i)) (ex_name 3 rfl) ex_non oc_isE) fun _ => ex_one (ex_chain (d2 := .int i) ex_int (ex_name 3 rfl) (fun _ => ex_name 2 rfl) oc_le fun _ => oc_lt)) rfl
    case e =>
      rw [List.length_map]
      rfl
/-! ### is_whole, is_step -/
/-! ### judged -/
end
end My

set_option Elab.async false
set_option linter.all false
set_option maxRecDepth 100000
set_option maxHeartbeats 1000000
namespace My
open PySem PySem.Spec PyProof.Rows L2 Mx

/-! ### short words for the walk (all local) -/
local macro_rules | `(tactic| walk_at "pl") => `(tactic| first | exact pl_int | exact pl_str | exact pl_bool | exact pl_none | exact pl_dN | exact pl_dH | assumption)
local macro_rules | `(tactic| walk_at "od") => `(tactic| first
  | exact od_add | exact od_sub | exact od_mod (by omega) | exact od_fdiv (by omega) (by omega) | exact od_pow (by decide) | exact od_mulL (by omega) | exact od_mulR (by omega)
  | exact oc_lt | exact oc_le | exact oc_gt | exact oc_ge | exact oc_ltS | exact oc_isN | exact oc_notN
  | exact oc_eqI (by assumption) | exact oc_eqS (by assumption) | exact oc_eqB (by assumption) | exact oc_eqN (by assumption) | exact oc_eqH (by assumption) | exact oc_eqNil (by assumption)
  | exact oc_neI (by assumption) | exact oc_neS (by assumption) | exact oc_neB (by assumption) | exact oc_neN (by assumption) | exact oc_neH (by assumption) | exact oc_neNil (by assumption)
  | exact oc_inN (by assumption) | exact oc_notinN (by assumption)
  | exact oc_eq (by assumption) (by walk_at "pl") (by walk_at "pl") | exact oc_ne (by assumption) (by walk_at "pl") (by walk_at "pl"))
local macro_rules | `(tactic| walk_at "nm") => `(tactic| first
  | exact ex_name 0 rfl | exact ex_name 1 rfl | exact ex_name 2 rfl | exact ex_name 3 rfl | exact ex_name 4 rfl | exact ex_name 5 rfl | exact ex_name 6 rfl | exact ex_name 7 rfl
  | exact ex_name 8 rfl | exact ex_name 9 rfl | exact ex_name 10 rfl | exact ex_name 11 rfl | exact ex_name 12 rfl | exact ex_name 13 rfl | exact ex_name 14 rfl | exact ex_name 15 rfl | exact ex_name 16 rfl | exact ex_name 17 rfl)
local macro_rules | `(tactic| walk_at "call") => `(tactic| fail)
local macro_rules | `(tactic| walk_at "exs") => `(tactic| first
  | walk_at "nm" | exact ex_int | exact ex_str | exact ex_bl | exact ex_non
  | (refine' ex_bin ?a ?b ?o; (case a => walk_at "ex"); (case b => walk_at "ex"); (case o => walk_at "od"))
  | (refine' ex_cmp ?a ?b ?o; (case a => walk_at "ex"); (case b => walk_at "ex"); (case o => walk_at "od"))
  | (refine' ex_not ?a; (case a => walk_at "ex"))
  | (refine' ex_neg ?a; (case a => walk_at "ex"))
  | (refine' ex_one ?a; (case a => walk_at "ex"))
  | (refine' ex_and ?a ?b; (case a => walk_at "ex"); (case b => intro _; walk_at "ex"))
  | (refine' ex_or ?a ?b; (case a => walk_at "ex"); (case b => intro _; walk_at "ex"))
  | (refine' ex_tup ?a ?z; (case a => walk_at "ea"); (case z => simp))
  | (refine' ex_freeze (ex_lst ?a ?z); (case a => walk_at "ea"); (case z => simp))
  | (refine' ex_callB ?a cd_lenL (by assumption); (case a => walk_at "ea"))
  | (refine' ex_callB ?a cd_lenT (by assumption); (case a => walk_at "ea"))
  | walk_at "call")
local macro_rules | `(tactic| walk_at "ex") => `(tactic| first | walk_at "exs" | (refine' ex_star ?h ?f; (case h => walk_at "exs"); (case f => rfl)))
local macro_rules | `(tactic| walk_at "ea") => `(tactic| first | exact ea_nil | (refine' ea_cons ?a ?r; (case a => walk_at "ex"); (case r => walk_at "ea")))
local macro_rules | `(tactic| walk_at "ews") => `(tactic| first
  | (refine' ew_and1 ?a; (case a => walk_at "et"))
  | (refine' ew_or1 ?a; (case a => walk_at "et"))
  | (refine' ew_and ?a ?b; (case a => walk_at "et"); (case b => intro _; walk_at "ews"))
  | (refine' ew_or ?a ?b; (case a => walk_at "et"); (case b => intro _; walk_at "ews")))
local macro_rules | `(tactic| walk_at "ets") => `(tactic| first
  | (refine' et_W ?a; (case a => walk_at "ews"))
  | (refine' et_not ?a; (case a => walk_at "et"))
  | (refine' et_cmp ?a ?b ?o; (case a => walk_at "ex"); (case b => walk_at "ex"); (case o => walk_at "od"))
  | (refine' et_val ?a; (case a => walk_at "ex")))
local macro_rules | `(tactic| walk_at "et") => `(tactic| first | walk_at "ets" | (refine' et_star ?h; (case h => walk_at "ets")))
local macro_rules | `(tactic| walk_at "sh") => `(tactic| first | exact shd_da | exact shd_scr | exact shd_ob)
local macro_rules | `(tactic| walk_at "nmS") => `(tactic| first
  | exact ex_nameS 0 rfl (by walk_at "sh") | exact ex_nameS 1 rfl (by walk_at "sh") | exact ex_nameS 2 rfl (by walk_at "sh") | exact ex_nameS 3 rfl (by walk_at "sh") | exact ex_nameS 4 rfl (by walk_at "sh") | exact ex_nameS 5 rfl (by walk_at "sh")
  | exact ex_nameS 6 rfl (by walk_at "sh") | exact ex_nameS 7 rfl (by walk_at "sh") | exact ex_nameS 8 rfl (by walk_at "sh") | exact ex_nameS 9 rfl (by walk_at "sh") | exact ex_nameS 10 rfl (by walk_at "sh") | exact ex_nameS 11 rfl (by walk_at "sh"))
local macro_rules | `(tactic| walk_at "es") => `(tactic| first
  | exact es_nil
  | (refine' es_cons ?a ?r; (case a => (first | walk_at "ex" | walk_at "nmS")); (case r => walk_at "es"))
  | (refine' es_cons ?a ?r shd_scr; (case a => walk_at "nmS"); (case r => walk_at "es"))
  | (refine' es_cons ?a ?r shd_ob; (case a => (first | walk_at "ex" | walk_at "nmS")); (case r => walk_at "es")))
local macro_rules | `(tactic| walk_at "rm") => `(tactic| exact Room.mono (by assumption) (by decide))
section
variable {P : Program} {w : World} {K : PySem.W.Frag} {mg : Str → Option Value} {base : Heap}
/-! ### _law_heard, _law_voices -/
def R_lvoices : List Slot → Slot → Prop := fun ss s => ∃ h, ss = [.da (dH h)] ∧ h.length ≤ 1000 ∧ s = .ow ((vo h).map .str)
theorem ok_lvoices {f : Addr} {fd : FuncData} (F : Fun K "_law_voices" "_law_voices" s__law_voices f fd) (za : mg "any" = none) : FnOk P w K mg base CX0 1 f fd ["_law_hearing"] (spP K R_lvoices) := by
  refine fun_rt F c__law_voices (fun ss s h => ?_) fun cdv A outer s H E hr hu ss sl h => ?_
  · obtain ⟨h, rfl, _⟩ := h; rfl
  · obtain ⟨h, rfl, hl, rfl⟩ := h
    show Rt _ _ [.da (dH h), .un, .un, .un, .un] _
    have e : (vo h).map PyData.str = (h.filter fun p => h.any fun q => decide (p.1 ∈ q.2)).map fun p => .str p.1 := by
      unfold vo
      rw [List.filter_map, List.map_map]
      rfl
    rw [e]
    refine rt_ret (r_return (ex_lc [("_law_name", 1), ("_law_mine", 2)] h dP (fun p => h.any fun q => decide (p.1 ∈ q.2)) (fun p => .str p.1) rfl c__law_voices.nd (blkOk_by (by kernel_rfl)) (it_list (ex_name 0 rfl)) (fun y hy => ?_) (by omega)))
    refine ⟨_, _, ?_, fun s0 H0 C cl fp => ⟨bt_tup rfl (bts_cons (bt_name 1 c__law_voices.nd) (bts_cons (bt_name 2 c__law_voices.nd) bts_nil)), ets_one (et_val (ex_callB (ea_cons (ex_freeze (ex_lcA [("_law_one", 3), ("_law_others", 4)] h dP (fun q => .bool (decide (y.1 ∈ q.2))) rfl c__law_voices.nd (blkOk_by (by kernel_rfl)) (it_list (ex_name 0 rfl)) (fun q hq => ?_) (by omega))) ea_nil) (cd_anyF rfl) za)), fun _ => ex_name 1 rfl⟩⟩
    · decide
    · refine ⟨_, _, ?_, fun s0 H0 C cl fp => ⟨bt_tup rfl (bts_cons (bt_name 3 c__law_voices.nd) (bts_cons (bt_name 4 c__law_voices.nd) bts_nil)), ets_nil, fun _ => ex_cmp (ex_name 1 rfl) (ex_name 4 rfl) (oc_inN hu)⟩⟩
      decide
/-! ### _law_counts -/
theorem int_one (p a : Nat) : (if decide ((p : Int) = (a : Int)) = true then (1 : Int) else 0) = if p = a then 1 else 0 := by
  by_cases h : p = a
  · subst h; simp
  · have : ¬ ((p : Int) = (a : Int)) := by omega
    simp [h, this]
def R_counts : List Slot → Slot → Prop := fun ss s => ∃ m st, ss = [.da (.int ((m : Nat) : Int)), .da (dSs st)] ∧ m ≤ 1000 ∧ st.length ≤ 1000 ∧ StepsOk m st ∧ s = .ow ((countsF m st).map dZ)
theorem zipWith_zip (g : Int → Int → Int) : ∀ (a b : List Int), List.zipWith g a b = (a.zip b).map fun q => g q.1 q.2
  | [], _ => by simp
  | _ :: _, [] => by simp
  | x :: a, y :: b => by rw [List.zipWith_cons_cons, List.zip_cons_cons, List.map_cons, zipWith_zip g a b]
theorem get_row {l : List (List Int)} {i : Int} (h0 : 0 ≤ i) (h1 : i < (l.length : Nat)) : atI (l.map dZ) i = some (dZ (l.getD i.toNat [])) := by
  refine atI_of h0 ?_
  rw [List.getElem?_map, List.getElem?_eq_getElem (show i.toNat < l.length by omega), List.getD_eq_getElem?_getD, List.getElem?_eq_getElem (show i.toNat < l.length by omega)]
  rfl
theorem ok_counts {f : Addr} {fd : FuncData} (F : Fun K "_law_counts" "_law_counts" s__law_counts f fd) (zr : mg "range" = none) (zi : mg "int" = none) (zz : mg "zip" = none) : FnOk P w K mg base CX0 1 f fd ["_law_many", "_law_steps"] (spP K R_counts) := by
  refine fun_rt F c__law_counts (fun ss s h => ?_) fun cdv A outer s H E hr hu ss sl h => ?_
  · obtain ⟨h, st, rfl, _⟩ := h; rfl
  · obtain ⟨m, st, rfl, hm, hl, hs, rfl⟩ := h
    show Rt _ _ [.da (.int ((m : Nat) : Int)), .da (dSs st), .un, .un, .un, .un, .un, .un, .un, .un, .un] _
    refine' rt_cons (r_setLcA 2 [("_law_at", 7)] (List.range ((m : Nat) : Int).toNat) (fun (i : Nat) => .int (i : Int)) (fun (a : Nat) => dZ (unitRow m a)) rfl c__law_counts.nd (blkOk_by (by kernel_rfl)) (it_range1 (n := ((m : Nat) : Int)) zr (ea_cons (ex_name 0 rfl) ea_nil) (by omega)) (fun a ha => ?lc) ?ln) ?r
    case lc =>
      refine ⟨_, _, ?_, fun s0 H0 C cl fp => ⟨bt_name 7 c__law_counts.nd, ets_nil, fun _ => EX.is (ex_freeze (ex_lcA [("_law_place", 8)] (List.range ((m : Nat) : Int).toNat) (fun (i : Nat) => .int (i : Int)) (fun (p : Nat) => .int (if decide ((p : Int) = (a : Int)) = true then 1 else 0)) rfl c__law_counts.nd (blkOk_by (by kernel_rfl)) (it_range1 (n := ((m : Nat) : Int)) zr (ea_cons (ex_name 0 rfl) ea_nil) (by omega)) (fun p hp => ?_) (by rw [List.length_range]; omega))) ?_⟩⟩
      · decide
      · refine ⟨_, _, ?_, fun s0 H0 C cl fp => ⟨bt_name 8 c__law_counts.nd, ets_nil, fun _ => ex_callTy (ea_cons (ex_cmp (ex_name 8 rfl) (ex_name 7 rfl) (oc_eqI hu)) ea_nil) cd_intB zi⟩⟩
        decide
      · unfold unitRow dZ
        rw [List.map_map, Int.toNat_natCast]
        congr 1
        apply List.map_congr_left
        intro p _
        exact congrArg PyData.int (int_one p a)
    case ln => rw [List.length_range]; omega
    have e0 : (List.range ((m : Nat) : Int).toNat).map (fun (a : Nat) => dZ (unitRow m a)) = (countsF m []).map dZ := by
      unfold countsF
      rw [List.foldl_nil, List.map_map, Int.toNat_natCast]
      rfl
    rw [e0]
    refine' rt_cons (r_for PassesOwn.never rfl (it_list (ex_name 1 rfl)) (for_pre st dS (fun pre => [.da (.int ((m : Nat) : Int)), .da (dSs st), .ow ((countsF m pre).map dZ), .un, .un, .un, .un, .un, .un, .un, .un]) (fun pre s post e => ⟨_, _, bt_tup rfl (bts_cons (bt_name 3 c__law_counts.nd) (bts_cons (bt_name 4 c__law_counts.nd) (bts_cons (bt_name 5 c__law_counts.nd) bts_nil))), .inl (by
      obtain ⟨k, i, j⟩ := s
      subst e
      have a := hs.at
      simp only at a
      have hcl := countsF_len m pre
      have lp : pre.length ≤ 1000 := by rw [List.length_append] at hl; omega
      have gi : atI ((countsF m pre).map dZ) i = some (dZ ((countsF m pre).getD i.toNat [])) := get_row a.1 (by rw [hcl]; exact a.2.1)
      have gj : atI ((countsF m pre).map dZ) j = some (dZ ((countsF m pre).getD j.toNat [])) := get_row a.2.2.1 (by rw [hcl]; exact a.2.2.2)
      have rowl : ((countsF m pre).getD i.toNat []).length ≤ 1000 := by
        rw [List.getD_eq_getElem?_getD, List.getElem?_eq_getElem (by omega)]
        have := countsF_row (StepsOk.pre hs) _ (List.getElem_mem (show i.toNat < (countsF m pre).length by omega))
        show List.length (countsF m pre)[i.toNat] ≤ _
        omega
      have hsg : sgn k = 1 ∨ sgn k = -1 := by unfold sgn; split <;> simp
      refine' rs_cons (r_set 6 c__law_counts.nd (s := .da (.int (sgn k))) (ex_if (et_cmp (ex_name 3 rfl) ex_str (oc_eqS hu)) (fun t => EX.is ex_int ?s1) (fun t => EX.is (ex_neg ex_int) ?s2))) ?r1
      case s1 => unfold sgn; rw [if_pos (show k = ADD from of_decide_eq_true t)]
      case s2 => unfold sgn; rw [if_neg (show ¬ k = ADD from of_decide_eq_false t)]
      refine' rs_weak (ρ1 := [.da (.int ((m : Nat) : Int)), .da (dSs (pre ++ (k, i, j) :: post)), .ow ((countsF m (pre ++ [(k, i, j)])).map dZ), .da (.str k), .da (.int i), .da (.int j), .da (.int (sgn k)), .un, .un, .un, .un]) (.same (.same (.same (.un (.un (.un (.un (.same (.same (.same (.same .nil))))))))))) (rs_is (rs_cons (r_append 2 rfl (d := dZ (List.zipWith (fun x y => x + sgn k * y) ((countsF m pre).getD i.toNat []) ((countsF m pre).getD j.toNat []))) (EX.is (ex_freeze (ex_starO (ex_lcA [("_law_mine", 9), ("_law_theirs", 10)] (((countsF m pre).getD i.toNat []).zip ((countsF m pre).getD j.toNat [])) (fun q => .tuple [.int q.1, .int q.2]) (fun q => .int (q.1 + sgn k * q.2)) rfl c__law_counts.nd (blkOk_by (by kernel_rfl))
        (it_zipM .int .int zz (ea_cons (ex_ixL (ex_name 2 rfl) (ex_name 4 rfl) gi) (ea_cons (ex_ixL (ex_name 2 rfl) (ex_name 5 rfl) gj) ea_nil))) (fun q hq => ?lc2) ?ln2) ?fl)) ?e2) ?ln3) rs_nil) ?e3)
      case lc2 =>
        refine ⟨_, _, ?_, fun s0 H0 C cl fp => ⟨bt_tup rfl (bts_cons (bt_name 9 c__law_counts.nd) (bts_cons (bt_name 10 c__law_counts.nd) bts_nil)), ets_nil, fun _ => ex_bin (ex_name 9 rfl) (ex_bin (ex_name 6 rfl) (ex_name 10 rfl) (od_mulL (by omega))) od_add⟩⟩
        decide
      case ln2 => rw [List.length_zip]; omega
      case fl => rw [List.all_map]; exact List.all_eq_true.mpr fun _ _ => rfl
      case e2 => unfold dZ; rw [zipWith_zip, List.map_map]; rfl
      case ln3 => rw [List.length_map]; omega
      case e3 => rw [countsF_snoc]; unfold cStep; rw [List.map_append]; rfl)⟩))) ?r2
    exact rt_ret (r_returnO 2 rfl)
end
end My

set_option Elab.async false
set_option linter.all false
set_option maxRecDepth 100000
set_option maxHeartbeats 1000000
namespace My
open PySem PySem.Spec PyProof.Rows L2 Mx

/-! ### short words for the walk (all local) -/
local macro_rules | `(tactic| walk_at "pl") => `(tactic| first | exact pl_int | exact pl_str | exact pl_bool | exact pl_none | exact pl_dN | exact pl_dH | assumption)
local macro_rules | `(tactic| walk_at "od") => `(tactic| first
  | exact od_add | exact od_sub | exact od_mod (by omega) | exact od_fdiv (by omega) (by omega) | exact od_pow (by decide) | exact od_mulL (by omega) | exact od_mulR (by omega)
  | exact oc_lt | exact oc_le | exact oc_gt | exact oc_ge | exact oc_ltS | exact oc_isN | exact oc_notN
  | exact oc_eqI (by assumption) | exact oc_eqS (by assumption) | exact oc_eqB (by assumption) | exact oc_eqN (by assumption) | exact oc_eqH (by assumption) | exact oc_eqNil (by assumption)
  | exact oc_neI (by assumption) | exact oc_neS (by assumption) | exact oc_neB (by assumption) | exact oc_neN (by assumption) | exact oc_neH (by assumption) | exact oc_neNil (by assumption)
  | exact oc_inN (by assumption) | exact oc_notinN (by assumption)
  | exact oc_eq (by assumption) (by walk_at "pl") (by walk_at "pl") | exact oc_ne (by assumption) (by walk_at "pl") (by walk_at "pl"))
local macro_rules | `(tactic| walk_at "nm") => `(tactic| first
  | exact ex_name 0 rfl | exact ex_name 1 rfl | exact ex_name 2 rfl | exact ex_name 3 rfl | exact ex_name 4 rfl | exact ex_name 5 rfl | exact ex_name 6 rfl | exact ex_name 7 rfl
  | exact ex_name 8 rfl | exact ex_name 9 rfl | exact ex_name 10 rfl | exact ex_name 11 rfl | exact ex_name 12 rfl | exact ex_name 13 rfl | exact ex_name 14 rfl | exact ex_name 15 rfl | exact ex_name 16 rfl | exact ex_name 17 rfl)
local macro_rules | `(tactic| walk_at "call") => `(tactic| fail)
local macro_rules | `(tactic| walk_at "exs") => `(tactic| first
  | walk_at "nm" | exact ex_int | exact ex_str | exact ex_bl | exact ex_non
  | (refine' ex_bin ?a ?b ?o; (case a => walk_at "ex"); (case b => walk_at "ex"); (case o => walk_at "od"))
  | (refine' ex_cmp ?a ?b ?o; (case a => walk_at "ex"); (case b => walk_at "ex"); (case o => walk_at "od"))
  | (refine' ex_not ?a; (case a => walk_at "ex"))
  | (refine' ex_neg ?a; (case a => walk_at "ex"))
  | (refine' ex_one ?a; (case a => walk_at "ex"))
  | (refine' ex_and ?a ?b; (case a => walk_at "ex"); (case b => intro _; walk_at "ex"))
  | (refine' ex_or ?a ?b; (case a => walk_at "ex"); (case b => intro _; walk_at "ex"))
  | (refine' ex_tup ?a ?z; (case a => walk_at "ea"); (case z => simp))
  | (refine' ex_freeze (ex_lst ?a ?z); (case a => walk_at "ea"); (case z => simp))
  | (refine' ex_callB ?a cd_lenL (by assumption); (case a => walk_at "ea"))
  | (refine' ex_callB ?a cd_lenT (by assumption); (case a => walk_at "ea"))
  | walk_at "call")
local macro_rules | `(tactic| walk_at "ex") => `(tactic| first | walk_at "exs" | (refine' ex_star ?h ?f; (case h => walk_at "exs"); (case f => rfl)))
local macro_rules | `(tactic| walk_at "ea") => `(tactic| first | exact ea_nil | (refine' ea_cons ?a ?r; (case a => walk_at "ex"); (case r => walk_at "ea")))
local macro_rules | `(tactic| walk_at "ews") => `(tactic| first
  | (refine' ew_and1 ?a; (case a => walk_at "et"))
  | (refine' ew_or1 ?a; (case a => walk_at "et"))
  | (refine' ew_and ?a ?b; (case a => walk_at "et"); (case b => intro _; walk_at "ews"))
  | (refine' ew_or ?a ?b; (case a => walk_at "et"); (case b => intro _; walk_at "ews")))
local macro_rules | `(tactic| walk_at "ets") => `(tactic| first
  | (refine' et_W ?a; (case a => walk_at "ews"))
  | (refine' et_not ?a; (case a => walk_at "et"))
  | (refine' et_cmp ?a ?b ?o; (case a => walk_at "ex"); (case b => walk_at "ex"); (case o => walk_at "od"))
  | (refine' et_val ?a; (case a => walk_at "ex")))
local macro_rules | `(tactic| walk_at "et") => `(tactic| first | walk_at "ets" | (refine' et_star ?h; (case h => walk_at "ets")))
local macro_rules | `(tactic| walk_at "sh") => `(tactic| first | exact shd_da | exact shd_scr | exact shd_ob)
local macro_rules | `(tactic| walk_at "nmS") => `(tactic| first
  | exact ex_nameS 0 rfl (by walk_at "sh") | exact ex_nameS 1 rfl (by walk_at "sh") | exact ex_nameS 2 rfl (by walk_at "sh") | exact ex_nameS 3 rfl (by walk_at "sh") | exact ex_nameS 4 rfl (by walk_at "sh") | exact ex_nameS 5 rfl (by walk_at "sh")
  | exact ex_nameS 6 rfl (by walk_at "sh") | exact ex_nameS 7 rfl (by walk_at "sh") | exact ex_nameS 8 rfl (by walk_at "sh") | exact ex_nameS 9 rfl (by walk_at "sh") | exact ex_nameS 10 rfl (by walk_at "sh") | exact ex_nameS 11 rfl (by walk_at "sh"))
local macro_rules | `(tactic| walk_at "es") => `(tactic| first
  | exact es_nil
  | (refine' es_cons ?a ?r; (case a => (first | walk_at "ex" | walk_at "nmS")); (case r => walk_at "es"))
  | (refine' es_cons ?a ?r shd_scr; (case a => walk_at "nmS"); (case r => walk_at "es"))
  | (refine' es_cons ?a ?r shd_ob; (case a => (first | walk_at "ex" | walk_at "nmS")); (case r => walk_at "es")))
local macro_rules | `(tactic| walk_at "rm") => `(tactic| exact Room.mono (by assumption) (by decide))
section
variable {P : Program} {w : World} {K : PySem.W.Frag} {mg : Str → Option Value} {base : Heap}
/-! ### _law_given -/
/-! ### _law_right_plan -/
def R_right : List Slot → Slot → Prop := fun ss s => ∃ h st en, ss = [.da (dH h), .da (dSs st), .da (dEs en)] ∧ h.length ≤ 7 ∧ StepsOk (vo h).length st ∧ EndsOk ((vo h).length + st.length) en ∧ st.length ≤ 1000 ∧ s = .da (.bool (rightF h st en))
theorem rep_zero (n : Nat) : (List.replicate n [PyData.int 0]).flatten = (List.replicate n (0 : Int)).map .int := by
  induction n with
  | zero => rfl
  | succ n ih => rw [List.replicate_succ, List.flatten_cons, ih, List.replicate_succ]; rfl
theorem ok_right {f : Addr} {fd : FuncData} (F : Fun K "_law_right_plan" "_law_right_plan" s__law_right_plan f fd) (CV : Cal P w K mg base "_law_voices" 1 (spP K R_lvoices)) (CC : Cal P w K mg base "_law_counts" 1 (spP K R_counts)) (zl : mg "len" = none) (zz : mg "zip" = none) (zi : mg "int" = none) : FnOk P w K mg base CX0 2 f fd ["_law_hearing", "_law_steps", "_law_ends"] (spP K R_right) := by
  refine fun_rt F c__law_right_plan (fun ss s h => ?_) fun cdv A outer s H E hr hu ss sl h => ?_
  · obtain ⟨h, st, en, rfl, _⟩ := h; rfl
  · obtain ⟨h, st, en, rfl, hl, hs, hE, l2, rfl⟩ := h
    show Rt _ _ [.da (dH h), .da (dSs st), .da (dEs en), .un, .un, .un, .un, .un, .un, .un] _
    have hvl : (vo h).length ≤ 7 := by
      unfold vo
      refine Nat.le_trans (List.length_filter_le _ _) ?_
      rw [List.length_map]; exact hl
    have hcl := countsF_len (vo h).length st
    refine' rt_cons (r_set 3 c__law_right_plan.nd (ex_freeze (ex_call CV (by walk_at "rm") (es_cons (ex_name 0 rfl) es_nil) ⟨h, rfl, by omega, rfl⟩))) ?r
    refine' rt_cons (r_set 4 c__law_right_plan.nd (ex_freeze (ex_call CC (by walk_at "rm") (es_cons (ex_callB (ea_cons (ex_name 3 rfl) ea_nil) cd_lenL zl) (es_cons (ex_name 1 rfl) es_nil)) ⟨(vo h).length, st, by rw [List.length_map], by omega, by omega, hs, rfl⟩))) ?r2
    show Rt _ _ [.da (dH h), .da (dSs st), .da (dEs en), .da (dN (vo h)), .da (.list ((countsF (vo h).length st).map dZ)), .un, .un, .un, .un, .un] _
    let okB : (Str × Names) × Option Int → Bool := fun q => decide (rowOf (vo h).length st q.2 = dueRow h q.1.2)
    have hg : (h.zip en).findSome? (fun q => if (!okB q) = true then some (Slot.da (.bool false)) else none) = if rightF h st en = true then none else some (.da (.bool false)) := by
      unfold rightF
      show _ = if (h.zip en).all okB = true then _ else _
      induction h.zip en with
      | nil => rfl
      | cons a r ih =>
        rw [List.findSome?_cons, List.all_cons]
        cases okB a with
        | true =>
          rw [Bool.true_and]
          exact ih
        | false => rfl
    refine' rt_find ((h.zip en).findSome? (fun q => if (!okB q) = true then some (Slot.da (.bool false)) else none)) PassesOwn.never rfl (it_zipM dP dE zz (ea_cons (ex_name 0 rfl) (ea_cons (ex_name 2 rfl) ea_nil))) (for_find (h.zip en) (fun q => .tuple [dP q.1, dE q.2]) [.da (dH h), .da (dSs st), .da (dEs en), .da (dN (vo h)), .da (.list ((countsF (vo h).length st).map dZ)), .un, .un, .un, .un, .un] _ fun q hq => ⟨_, _, bt_tup rfl (bts_cons (bt_tup rfl (bts_cons (bt_name 5 c__law_right_plan.nd) (bts_cons (bt_name 6 c__law_right_plan.nd) bts_nil))) (bts_cons (bt_name 7 c__law_right_plan.nd) bts_nil)), ?body⟩) (fun q => ?z1) (fun t q => ?z2)
    case z1 =>
      rw [hg] at q
      cases e : rightF h st en with
      | true => exact rt_ret (r_return ex_bl)
      | false => rw [e] at q; cases q
    case z2 =>
      rw [hg] at q
      cases e : rightF h st en with
      | true => rw [e] at q; cases q
      | false => rw [e] at q; cases q; rfl
    case body =>
      obtain ⟨p, e⟩ := q
      have hem : e ∈ en := (List.of_mem_zip hq).2
      refine' fb_cons (r_setLcA 8 [("_law_voice", 9)] (vo h) .str (fun v => .int (if decide (v ∈ p.2) = true then 1 else 0)) rfl c__law_right_plan.nd (blkOk_by (by kernel_rfl)) (it_list (ex_name 3 rfl)) (fun v hv => ?lc) (by omega)) ?r3
      case lc =>
        refine ⟨_, _, ?_, fun s0 H0 C cl fp => ⟨bt_name 9 c__law_right_plan.nd, ets_nil, fun _ => ex_callTy (ea_cons (ex_cmp (ex_name 9 rfl) (ex_name 6 rfl) (oc_inN hu)) ea_nil) cd_intB zi⟩⟩
        decide
      have hdr : (vo h).map (fun v => PyData.int (if decide (v ∈ p.2) = true then 1 else 0)) = (dueRow h p.2).map .int := by
        unfold dueRow
        rw [List.map_map]
        apply List.map_congr_left
        intro v _
        show PyData.int _ = PyData.int _
        congr 1
        by_cases q : v ∈ p.2 <;> simp [q]
      rw [hdr]
      refine fb_freeze 8 rfl ?_
      show FindB _ _ [.da (dH h), .da (dSs st), .da (dEs en), .da (dN (vo h)), .da (.list ((countsF (vo h).length st).map dZ)), .da (.str p.1), .da (dN p.2), .da (dE e), .da (dZ (dueRow h p.2)), .un] _ _
      refine' FindB.is (fb_ifr (b := !okB (p, e)) (s := .da (.bool false)) (et_cmp (d1 := dZ (rowOf (vo h).length st e)) (d2 := dZ (dueRow h p.2)) ?cnd (ex_name 8 rfl) (oc_neZ hu)) (fun _ => ex_bl) (.same (.same (.same (.same (.same (.un (.un (.un (.un (.same .nil))))))))))) rfl
      case cnd =>
        cases e with
        | none =>
          refine' ex_if (t := false) (et_cmp (d1 := dE none) (ex_name 7 rfl) ex_non oc_notE) (fun z => nomatch z) fun _ => EX.is (ex_freeze (ex_bin (ex_freeze (ex_lst (ea_cons ex_int ea_nil) (by decide))) (ex_callB (ea_cons (ex_name 3 rfl) ea_nil) cd_lenL zl) (od_rep ?b1 (by decide)))) ?e1
          case b1 => rw [List.length_map]; omega
          case e1 =>
            rw [List.length_map, Int.toNat_natCast, rep_zero]
            rfl
        | some i =>
          obtain ⟨i0, i1⟩ := hE i hem
          exact ex_if (t := true) (et_cmp (d1 := dE (some i)) (ex_name 7 rfl) ex_non oc_notE) (fun _ => ex_ixL (ex_name 4 rfl) (ex_name 7 rfl) (get_row i0 (by omega))) fun z => nomatch z
/-! ### _law_wrong -/
end
end My

set_option Elab.async false
set_option linter.all false
set_option maxRecDepth 100000
set_option maxHeartbeats 1000000
namespace My
open PySem PySem.Spec PyProof.Rows L2 Mx

/-! ### short words for the walk (all local) -/
local macro_rules | `(tactic| walk_at "pl") => `(tactic| first | exact pl_int | exact pl_str | exact pl_bool | exact pl_none | exact pl_dN | exact pl_dH | assumption)
local macro_rules | `(tactic| walk_at "od") => `(tactic| first
  | exact od_add | exact od_sub | exact od_mod (by omega) | exact od_fdiv (by omega) (by omega) | exact od_pow (by decide) | exact od_mulL (by omega) | exact od_mulR (by omega)
  | exact oc_lt | exact oc_le | exact oc_gt | exact oc_ge | exact oc_ltS | exact oc_isN | exact oc_notN
  | exact oc_eqI (by assumption) | exact oc_eqS (by assumption) | exact oc_eqB (by assumption) | exact oc_eqN (by assumption) | exact oc_eqH (by assumption) | exact oc_eqNil (by assumption)
  | exact oc_neI (by assumption) | exact oc_neS (by assumption) | exact oc_neB (by assumption) | exact oc_neN (by assumption) | exact oc_neH (by assumption) | exact oc_neNil (by assumption)
  | exact oc_inN (by assumption) | exact oc_notinN (by assumption)
  | exact oc_eq (by assumption) (by walk_at "pl") (by walk_at "pl") | exact oc_ne (by assumption) (by walk_at "pl") (by walk_at "pl"))
local macro_rules | `(tactic| walk_at "nm") => `(tactic| first
  | exact ex_name 0 rfl | exact ex_name 1 rfl | exact ex_name 2 rfl | exact ex_name 3 rfl | exact ex_name 4 rfl | exact ex_name 5 rfl | exact ex_name 6 rfl | exact ex_name 7 rfl
  | exact ex_name 8 rfl | exact ex_name 9 rfl | exact ex_name 10 rfl | exact ex_name 11 rfl | exact ex_name 12 rfl | exact ex_name 13 rfl | exact ex_name 14 rfl | exact ex_name 15 rfl | exact ex_name 16 rfl | exact ex_name 17 rfl)
local macro_rules | `(tactic| walk_at "call") => `(tactic| fail)
local macro_rules | `(tactic| walk_at "exs") => `(tactic| first
  | walk_at "nm" | exact ex_int | exact ex_str | exact ex_bl | exact ex_non
  | (refine' ex_bin ?a ?b ?o; (case a => walk_at "ex"); (case b => walk_at "ex"); (case o => walk_at "od"))
  | (refine' ex_cmp ?a ?b ?o; (case a => walk_at "ex"); (case b => walk_at "ex"); (case o => walk_at "od"))
  | (refine' ex_not ?a; (case a => walk_at "ex"))
  | (refine' ex_neg ?a; (case a => walk_at "ex"))
  | (refine' ex_one ?a; (case a => walk_at "ex"))
  | (refine' ex_and ?a ?b; (case a => walk_at "ex"); (case b => intro _; walk_at "ex"))
  | (refine' ex_or ?a ?b; (case a => walk_at "ex"); (case b => intro _; walk_at "ex"))
  | (refine' ex_tup ?a ?z; (case a => walk_at "ea"); (case z => simp))
  | (refine' ex_freeze (ex_lst ?a ?z); (case a => walk_at "ea"); (case z => simp))
  | (refine' ex_callB ?a cd_lenL (by assumption); (case a => walk_at "ea"))
  | (refine' ex_callB ?a cd_lenT (by assumption); (case a => walk_at "ea"))
  | walk_at "call")
local macro_rules | `(tactic| walk_at "ex") => `(tactic| first | walk_at "exs" | (refine' ex_star ?h ?f; (case h => walk_at "exs"); (case f => rfl)))
local macro_rules | `(tactic| walk_at "ea") => `(tactic| first | exact ea_nil | (refine' ea_cons ?a ?r; (case a => walk_at "ex"); (case r => walk_at "ea")))
local macro_rules | `(tactic| walk_at "ews") => `(tactic| first
  | (refine' ew_and1 ?a; (case a => walk_at "et"))
  | (refine' ew_or1 ?a; (case a => walk_at "et"))
  | (refine' ew_and ?a ?b; (case a => walk_at "et"); (case b => intro _; walk_at "ews"))
  | (refine' ew_or ?a ?b; (case a => walk_at "et"); (case b => intro _; walk_at "ews")))
local macro_rules | `(tactic| walk_at "ets") => `(tactic| first
  | (refine' et_W ?a; (case a => walk_at "ews"))
  | (refine' et_not ?a; (case a => walk_at "et"))
  | (refine' et_cmp ?a ?b ?o; (case a => walk_at "ex"); (case b => walk_at "ex"); (case o => walk_at "od"))
  | (refine' et_val ?a; (case a => walk_at "ex")))
local macro_rules | `(tactic| walk_at "et") => `(tactic| first | walk_at "ets" | (refine' et_star ?h; (case h => walk_at "ets")))
local macro_rules | `(tactic| walk_at "sh") => `(tactic| first | exact shd_da | exact shd_scr | exact shd_ob)
local macro_rules | `(tactic| walk_at "nmS") => `(tactic| first
  | exact ex_nameS 0 rfl (by walk_at "sh") | exact ex_nameS 1 rfl (by walk_at "sh") | exact ex_nameS 2 rfl (by walk_at "sh") | exact ex_nameS 3 rfl (by walk_at "sh") | exact ex_nameS 4 rfl (by walk_at "sh") | exact ex_nameS 5 rfl (by walk_at "sh")
  | exact ex_nameS 6 rfl (by walk_at "sh") | exact ex_nameS 7 rfl (by walk_at "sh") | exact ex_nameS 8 rfl (by walk_at "sh") | exact ex_nameS 9 rfl (by walk_at "sh") | exact ex_nameS 10 rfl (by walk_at "sh") | exact ex_nameS 11 rfl (by walk_at "sh"))
local macro_rules | `(tactic| walk_at "es") => `(tactic| first
  | exact es_nil
  | (refine' es_cons ?a ?r; (case a => (first | walk_at "ex" | walk_at "nmS")); (case r => walk_at "es"))
  | (refine' es_cons ?a ?r shd_scr; (case a => walk_at "nmS"); (case r => walk_at "es"))
  | (refine' es_cons ?a ?r shd_ob; (case a => (first | walk_at "ex" | walk_at "nmS")); (case r => walk_at "es")))
local macro_rules | `(tactic| walk_at "rm") => `(tactic| exact Room.mono (by assumption) (by decide))
/-! ### drawn hearings are hearings -/
theorem lett_is : LETT.cps.toList = [97, 98, 99, 100, 101, 102, 103, 104, 105, 106, 107, 108, 109, 110, 111, 112, 113, 114, 115, 116, 117, 118, 119, 120, 121, 122] := by decide +kernel
theorem lett_mem {n : Nat} (h : n < 26) : 97 + n ∈ LETT.cps.toList := by
  rw [lett_is]
  have : ∀ n < 26, (97 + n) ∈ ([97, 98, 99, 100, 101, 102, 103, 104, 105, 106, 107, 108, 109, 110, 111, 112, 113, 114, 115, 116, 117, 118, 119, 120, 121, 122] : List Nat) := by decide
  exact this n h
theorem str_app (a b : Str) : (a ++ b).cps.toList = a.cps.toList ++ b.cps.toList := by
  show (a.cps ++ b.cps).toList = _
  simp
theorem nameAt_cps (t : Int) (i : Nat) : (nameAt t i).cps.toList = (97 + ((t + 3 * (i : Int)) % 26).toNat) :: (if (t + (i : Int)) % 3 = 0 then [97 + ((t / 26 + 5 * (i : Int)) % 26).toNat] else []) := by
  unfold nameAt
  rw [str_app]
  split <;> rfl
theorem nameAt_ok (t : Int) (i : Nat) : NameOk LETT (nameAt t i) := by
  have h1 := Int.emod_lt_of_pos (t + 3 * (i : Int)) (show (0 : Int) < 26 by decide)
  have h2 := Int.emod_nonneg (t + 3 * (i : Int)) (show (26 : Int) ≠ 0 by decide)
  have h3 := Int.emod_lt_of_pos (t / 26 + 5 * (i : Int)) (show (0 : Int) < 26 by decide)
  have h4 := Int.emod_nonneg (t / 26 + 5 * (i : Int)) (show (26 : Int) ≠ 0 by decide)
  have hl : (nameAt t i).length = (nameAt t i).cps.toList.length := by simp [Str.length]
  have hc := nameAt_cps t i
  refine ⟨?_, ?_, ?_⟩
  · rw [hl, hc]; simp
  · rw [hl, hc]; split <;> simp
  · rw [hc]
    intro c hcm
    rcases List.mem_cons.mp hcm with rfl | hcm
    · exact lett_mem (by omega)
    · split at hcm
      · rw [List.mem_singleton] at hcm
        subst hcm
        exact lett_mem (by omega)
      · cases hcm
theorem nameAt_inj {t : Int} {i j : Nat} (hi : i < 8) (hj : j < 8) (h : nameAt t i = nameAt t j) : i = j := by
  have := congrArg (fun x : Str => x.cps.toList) h
  simp only [nameAt_cps] at this
  injection this with h1 _
  have h2 := Int.emod_nonneg (t + 3 * (i : Int)) (show (26 : Int) ≠ 0 by decide)
  have h3 := Int.emod_nonneg (t + 3 * (j : Int)) (show (26 : Int) ≠ 0 by decide)
  omega
theorem names_nodup {ns : List Int} {b : Int} {n : Nat} (hn : n < 8) : (namesF ns b n).Nodup := by
  unfold namesF
  refine List.Pairwise.map (R := fun i j => i ∈ List.range n ∧ j ∈ List.range n ∧ i ≠ j) _ (fun i j hij e => ?_) ?_
  · obtain ⟨h1, h2, h3⟩ := hij
    exact h3 (nameAt_inj (Nat.lt_of_lt_of_le (List.mem_range.mp h1) (by omega)) (Nat.lt_of_lt_of_le (List.mem_range.mp h2) (by omega)) e)
  · exact (List.nodup_range (n := n)).imp_of_mem fun h1 h2 h3 => ⟨h1, h2, h3⟩
theorem namF_rising {ns : List Int} {b : Int} : Rising (namF ns b) := by
  unfold namF
  have := cnt_range ns b
  exact sortS_rising (names_nodup (by omega))
theorem namF_ok {ns : List Int} {b : Int} {x : Str} (h : x ∈ namF ns b) : NameOk LETT x := by
  unfold namF namesF at h
  rw [(sortS_perm _).mem_iff] at h
  obtain ⟨i, _, rfl⟩ := List.mem_map.mp h
  exact nameAt_ok _ _
theorem drawn_names {ns : List Int} {b : Int} : (drawnF ns b).map (·.1) = namF ns b := by
  unfold drawnF
  rw [List.map_map]
  have : ((fun q : Str × Names => q.1) ∘ fun q : Str × Nat => (q.1, othersF ns b (kindF ns b) q.2 q.1 (namF ns b).zipIdx)) = Prod.fst := rfl
  rw [this, List.zipIdx_map_fst]
theorem drawn_len {ns : List Int} {b : Int} : (drawnF ns b).length ≤ 7 := by
  have := congrArg List.length (drawn_names (ns := ns) (b := b))
  rw [List.length_map] at this
  rw [this]
  exact namF_len ns b
theorem others_sub {ns : List Int} {b k : Int} {a : Nat} {x : Str} {l : List (Str × Nat)} : (othersF ns b k a x l).Sublist (l.map (·.1)) := by
  unfold othersF
  exact List.Sublist.map _ List.filter_sublist
theorem drawn_valid (ns : List Int) (b : Int) : Valid LETT (drawnF ns b) := by
  have hz : ((namF ns b).zipIdx.map (·.1)) = namF ns b := List.zipIdx_map_fst _ _
  have mem : ∀ p ∈ drawnF ns b, p.1 ∈ namF ns b ∧ p.2.Sublist (namF ns b) ∧ p.1 ∉ p.2 := by
    intro p hp
    unfold drawnF at hp
    obtain ⟨q, hq, rfl⟩ := List.mem_map.mp hp
    refine ⟨?_, ?_, ?_⟩
    · rw [← hz]; exact List.mem_map.mpr ⟨q, hq, rfl⟩
    · have := others_sub (ns := ns) (b := b) (k := kindF ns b) (a := q.2) (x := q.1) (l := (namF ns b).zipIdx)
      rw [hz] at this
      exact this
    · intro h
      unfold othersF at h
      obtain ⟨r, hr, e⟩ := List.mem_map.mp h
      have := (List.mem_filter.mp hr).2
      simp only [Bool.and_eq_true, Bool.not_eq_true', decide_eq_false_iff_not] at this
      exact this.1 e.symm
  refine ⟨drawn_len, fun p hp => ?_, fun p hp => ?_, ?_⟩
  · obtain ⟨h1, h2, _⟩ := mem p hp
    exact ⟨namF_ok h1, fun n hn => namF_ok (h2.subset hn)⟩
  · obtain ⟨h1, h2, h3⟩ := mem p hp
    refine ⟨h3, List.Pairwise.sublist h2 namF_rising, fun n hn => ?_⟩
    rw [drawn_names]
    exact h2.subset hn
  · rw [drawn_names]; exact namF_rising
end My

set_option Elab.async false
set_option linter.all false
set_option maxRecDepth 100000
set_option maxHeartbeats 1000000
namespace My
open PySem PySem.Spec PyProof.Rows L2 Mx

/-! ### short words for the walk (all local) -/
local macro_rules | `(tactic| walk_at "pl") => `(tactic| first | exact pl_int | exact pl_str | exact pl_bool | exact pl_none | exact pl_dN | exact pl_dH | assumption)
local macro_rules | `(tactic| walk_at "od") => `(tactic| first
  | exact od_add | exact od_sub | exact od_mod (by omega) | exact od_fdiv (by omega) (by omega) | exact od_pow (by decide) | exact od_mulL (by omega) | exact od_mulR (by omega)
  | exact oc_lt | exact oc_le | exact oc_gt | exact oc_ge | exact oc_ltS | exact oc_isN | exact oc_notN
  | exact oc_eqI (by assumption) | exact oc_eqS (by assumption) | exact oc_eqB (by assumption) | exact oc_eqN (by assumption) | exact oc_eqH (by assumption) | exact oc_eqNil (by assumption)
  | exact oc_neI (by assumption) | exact oc_neS (by assumption) | exact oc_neB (by assumption) | exact oc_neN (by assumption) | exact oc_neH (by assumption) | exact oc_neNil (by assumption)
  | exact oc_inN (by assumption) | exact oc_notinN (by assumption)
  | exact oc_eq (by assumption) (by walk_at "pl") (by walk_at "pl") | exact oc_ne (by assumption) (by walk_at "pl") (by walk_at "pl"))
local macro_rules | `(tactic| walk_at "nm") => `(tactic| first
  | exact ex_name 0 rfl | exact ex_name 1 rfl | exact ex_name 2 rfl | exact ex_name 3 rfl | exact ex_name 4 rfl | exact ex_name 5 rfl | exact ex_name 6 rfl | exact ex_name 7 rfl
  | exact ex_name 8 rfl | exact ex_name 9 rfl | exact ex_name 10 rfl | exact ex_name 11 rfl | exact ex_name 12 rfl | exact ex_name 13 rfl | exact ex_name 14 rfl | exact ex_name 15 rfl | exact ex_name 16 rfl | exact ex_name 17 rfl)
local macro_rules | `(tactic| walk_at "call") => `(tactic| fail)
local macro_rules | `(tactic| walk_at "exs") => `(tactic| first
  | walk_at "nm" | exact ex_int | exact ex_str | exact ex_bl | exact ex_non
  | (refine' ex_bin ?a ?b ?o; (case a => walk_at "ex"); (case b => walk_at "ex"); (case o => walk_at "od"))
  | (refine' ex_cmp ?a ?b ?o; (case a => walk_at "ex"); (case b => walk_at "ex"); (case o => walk_at "od"))
  | (refine' ex_not ?a; (case a => walk_at "ex"))
  | (refine' ex_neg ?a; (case a => walk_at "ex"))
  | (refine' ex_one ?a; (case a => walk_at "ex"))
  | (refine' ex_and ?a ?b; (case a => walk_at "ex"); (case b => intro _; walk_at "ex"))
  | (refine' ex_or ?a ?b; (case a => walk_at "ex"); (case b => intro _; walk_at "ex"))
  | (refine' ex_tup ?a ?z; (case a => walk_at "ea"); (case z => simp))
  | (refine' ex_freeze (ex_lst ?a ?z); (case a => walk_at "ea"); (case z => simp))
  | (refine' ex_callB ?a cd_lenL (by assumption); (case a => walk_at "ea"))
  | (refine' ex_callB ?a cd_lenT (by assumption); (case a => walk_at "ea"))
  | walk_at "call")
local macro_rules | `(tactic| walk_at "ex") => `(tactic| first | walk_at "exs" | (refine' ex_star ?h ?f; (case h => walk_at "exs"); (case f => rfl)))
local macro_rules | `(tactic| walk_at "ea") => `(tactic| first | exact ea_nil | (refine' ea_cons ?a ?r; (case a => walk_at "ex"); (case r => walk_at "ea")))
local macro_rules | `(tactic| walk_at "ews") => `(tactic| first
  | (refine' ew_and1 ?a; (case a => walk_at "et"))
  | (refine' ew_or1 ?a; (case a => walk_at "et"))
  | (refine' ew_and ?a ?b; (case a => walk_at "et"); (case b => intro _; walk_at "ews"))
  | (refine' ew_or ?a ?b; (case a => walk_at "et"); (case b => intro _; walk_at "ews")))
local macro_rules | `(tactic| walk_at "ets") => `(tactic| first
  | (refine' et_W ?a; (case a => walk_at "ews"))
  | (refine' et_not ?a; (case a => walk_at "et"))
  | (refine' et_cmp ?a ?b ?o; (case a => walk_at "ex"); (case b => walk_at "ex"); (case o => walk_at "od"))
  | (refine' et_val ?a; (case a => walk_at "ex")))
local macro_rules | `(tactic| walk_at "et") => `(tactic| first | walk_at "ets" | (refine' et_star ?h; (case h => walk_at "ets")))
local macro_rules | `(tactic| walk_at "sh") => `(tactic| first | exact shd_da | exact shd_scr | exact shd_ob)
local macro_rules | `(tactic| walk_at "nmS") => `(tactic| first
  | exact ex_nameS 0 rfl (by walk_at "sh") | exact ex_nameS 1 rfl (by walk_at "sh") | exact ex_nameS 2 rfl (by walk_at "sh") | exact ex_nameS 3 rfl (by walk_at "sh") | exact ex_nameS 4 rfl (by walk_at "sh") | exact ex_nameS 5 rfl (by walk_at "sh")
  | exact ex_nameS 6 rfl (by walk_at "sh") | exact ex_nameS 7 rfl (by walk_at "sh") | exact ex_nameS 8 rfl (by walk_at "sh") | exact ex_nameS 9 rfl (by walk_at "sh") | exact ex_nameS 10 rfl (by walk_at "sh") | exact ex_nameS 11 rfl (by walk_at "sh"))
local macro_rules | `(tactic| walk_at "es") => `(tactic| first
  | exact es_nil
  | (refine' es_cons ?a ?r; (case a => (first | walk_at "ex" | walk_at "nmS")); (case r => walk_at "es"))
  | (refine' es_cons ?a ?r shd_scr; (case a => walk_at "nmS"); (case r => walk_at "es"))
  | (refine' es_cons ?a ?r shd_ob; (case a => (first | walk_at "ex" | walk_at "nmS")); (case r => walk_at "es")))
local macro_rules | `(tactic| walk_at "rm") => `(tactic| exact Room.mono (by assumption) (by decide))
section
variable {P : Program} {w : World} {K : PySem.W.Frag} {mg : Str → Option Value} {base : Heap}
/-! ### _law_says -/
def R_says : List Slot → Slot → Prop := fun ss s => ∃ t u, ss = [.da (.bool t), .da (.bool u)] ∧ s = .da (.bool (decide (t = u)))
theorem ok_says {f : Addr} {fd : FuncData} (F : Fun K "_law_says" "_law_says" s__law_says f fd) (zi : mg "isinstance" = none) (zb : mg "bool" = none) : FnOk P w K mg base CX0 1 f fd ["_law_said", "_law_due"] (spP K R_says) := by
  refine fun_rt F c__law_says (fun ss s h => ?_) fun cdv A outer s H E hr hu ss sl h => ?_
  · obtain ⟨t, u, rfl, _⟩ := h; rfl
  · obtain ⟨t, u, rfl, rfl⟩ := h
    show Rt _ _ [.da (.bool t), .da (.bool u)] _
    refine rt_ret (r_return (EX.is (ex_and (ex_isi (ex_name 0 rfl) (kitB_bool _) zi zb) fun _ => ex_one (ex_cmp (ex_name 0 rfl) (ex_name 1 rfl) (oc_eqB hu))) ?_))
    simp
theorem isNone_dW (o : Option (Str × List Int)) : isNone (dW o) = o.isNone := by cases o <;> rfl
/-! ### few_of, Plan.shows -/
def R_few : List Slot → Slot → Prop := fun ss s => ∃ h, ss = [.da (dH h)] ∧ Valid LETT h ∧ s = .da (.int (fewF h))
theorem ok_few {f : Addr} {fd : FuncData} (F : Fun K "few_of" "few_of" s_few_of f fd) (CW : Cal P w K mg base "ways_of" 2 (spP K R_ways)) (zm : mg "min" = none) : FnOk P w K mg base CX0 3 f fd ["hearing"] (spP K R_few) := by
  refine fun_rt F c_few_of (fun ss s h => ?_) fun cdv A outer s H E hr hu ss sl h => ?_
  · obtain ⟨h, rfl, _⟩ := h; rfl
  · obtain ⟨h, rfl, V, rfl⟩ := h
    show Rt _ _ [.da (dH h)] _
    exact rt_ret (r_return (ex_callB (ea_cons (ex_call CW (by walk_at "rm") (es_cons (ex_name 0 rfl) es_nil) ⟨h, rfl, V, rfl⟩) ea_nil) (cd_minT2 rfl) zm))
def R_planS (C : Addr) : List Slot → Slot → Prop := fun ss s => ∃ h st en, ss = [.ext (OB C (fP st en)), .da (dH h)] ∧ Valid LETT h ∧ st.length ≤ 1000 ∧ en.length ≤ 1000 ∧ s = .da (.bool (showsF h st en))
theorem ok_planS {C f : Addr} {fd : FuncData} (F : Fun K "shows" "Plan.shows" s_Plan_shows f fd) (cl : Cls K C) (p1 : NoAttr K C "steps") (p2 : NoAttr K C "ends") (CV : Cal P w K mg base "voices_of" 1 (spP K R_voices)) (CS : Cal P w K mg base "are_steps" 1 (spP K R_areSteps)) (CE : Cal P w K mg base "are_ends" 1 (spP K R_areEnds))
    (CF : Cal P w K mg base "few_of" 3 (spP K R_few)) (CO : Cal P w K mg base "wrong_of" 3 (spP K R_wrong)) (zl : mg "len" = none) : FnOk P w K mg base CX0 4 f fd ["self", "hearing"] (spP K (R_planS C)) := by
  refine fun_rt F c_Plan_shows (fun ss s h => ?_) fun cdv A outer s H E hr hu ss sl h => ?_
  · obtain ⟨h, st, en, rfl, _⟩ := h; rfl
  · obtain ⟨h, st, en, rfl, V, l1, l2, rfl⟩ := h
    show Rt _ _ [.ext (OB C (fP st en)), .da (dH h)] _
    have hvl := vo_len V
    have hhl := V.len
    unfold showsF
    refine' rt_if0 (b := !areStepsF (vo h).length st) (et_not (et_val (ex_call CS (by walk_at "rm") (es_cons (ex_fld (d := dSs st) (ex_nameS 0 rfl shd_ob) rfl cl p1) (es_cons (EX.is (d' := .int (((vo h).length : Nat) : Int)) (ex_callB (ea_cons (ex_freeze (ex_call CV (by walk_at "rm") (es_cons (ex_name 1 rfl) es_nil) ⟨h, rfl, V, rfl⟩)) ea_nil) cd_lenL zl) (by rw [List.length_map])) es_nil)) ⟨st, ((vo h).length : Nat), rfl, rfl⟩))) (fun t => ?z1) (fun t => ?z2)
    case z1 =>
      rw [Bool.not_eq_true'] at t
      rw [if_neg (by rw [t]; decide)]
      exact rt_ret (r_return ex_bl)
    case z2 =>
      rw [Bool.not_eq_false'] at t
      rw [if_pos t]
      have hs := areSteps_ok t
      refine' rt_if0 (b := !areEndsF (h.length : Nat) (((vo h).length : Int) + (st.length : Int)) en) (et_not (et_val (ex_call CE (by walk_at "rm") (es_cons (ex_fld (d := dEs en) (ex_nameS 0 rfl shd_ob) rfl cl p2) (es_cons (EX.is (d' := .int ((h.length : Nat) : Int)) (ex_callB (ea_cons (ex_name 1 rfl) ea_nil) cd_lenL zl) (by rw [List.length_map])) (es_cons (EX.is (d' := .int (((vo h).length : Int) + (st.length : Int))) (ex_bin (ex_callB (ea_cons (ex_freeze (ex_call CV (by walk_at "rm") (es_cons (ex_name 1 rfl) es_nil) ⟨h, rfl, V, rfl⟩)) ea_nil) cd_lenL zl) (ex_callB (ea_cons (ex_fld (d := dSs st) (ex_nameS 0 rfl shd_ob) rfl cl p1) ea_nil) cd_lenL zl) od_add) (by rw [List.length_map, List.length_map])) es_nil))) ⟨en, (h.length : Nat), ((vo h).length : Int) + (st.length : Int), rfl, by omega, rfl⟩))) (fun t2 => ?y1) (fun t2 => ?y2)
      case y1 =>
        rw [Bool.not_eq_true'] at t2
        rw [if_neg (by rw [t2]; decide)]
        exact rt_ret (r_return ex_bl)
      case y2 =>
        rw [Bool.not_eq_false'] at t2
        rw [if_pos t2]
        have he := areEnds_ok (m := h.length) (most := (vo h).length + st.length) (en := en) (by
          have : (((vo h).length + st.length : Nat) : Int) = ((vo h).length : Int) + (st.length : Int) := by omega
          rw [this, t2])
        exact rt_ret (r_return (EX.is (ex_and (t := decide ((st.length : Int) = fewF h)) (EX.is (ex_cmp (ex_callB (ea_cons (ex_fld (d := dSs st) (ex_nameS 0 rfl shd_ob) rfl cl p1) ea_nil) cd_lenL zl) (ex_call CF (by walk_at "rm") (es_cons (ex_name 1 rfl) es_nil) ⟨h, rfl, V, rfl⟩) (oc_eqI hu)) (by rw [List.length_map])) fun _ => ex_one (ex_cmp (ex_call CO (by walk_at "rm") (es_cons (ex_name 1 rfl) (es_cons (ex_fld (d := dSs st) (ex_nameS 0 rfl shd_ob) rfl cl p1) (es_cons (ex_fld (d := dEs en) (ex_nameS 0 rfl shd_ob) rfl cl p2) es_nil))) ⟨h, st, en, rfl, V, he.1, hs, he.2, by omega, rfl⟩) ex_non (oc_isN.is (by rw [isNone_dW])))) rfl))
/-! ### _law_few -/
def kvF (l : List Names) : List (Names × PyData) := l.map fun o => (o, .int o.length)
theorem kvF_look {o : Names} : ∀ {l : List Names}, o ∈ l → (kvF l).lookup o = some (.int o.length)
  | a :: l, h => by
    unfold kvF
    rw [List.map_cons, List.lookup_cons]
    cases e : o == a with
    | true => rw [eq_of_beq e]
    | false =>
      rcases List.mem_cons.mp h with rfl | h
      · rw [beq_self_eq_true] at e; cases e
      · exact kvF_look h
theorem kvF_none {o : Names} : ∀ {l : List Names}, o ∉ l → (kvF l).lookup o = none
  | [], _ => rfl
  | a :: l, h => by
    unfold kvF
    rw [List.map_cons, List.lookup_cons]
    cases e : o == a with
    | true => rw [eq_of_beq e] at h; exact absurd List.mem_cons_self h
    | false => exact kvF_none fun z => h (List.mem_cons_of_mem _ z)
def R_lfew : List Slot → Slot → Prop := fun ss s => ∃ h, ss = [.da (dH h)] ∧ h.length ≤ 7 ∧ s = .da (.int (lfewF h))
theorem ok_lfew {f : Addr} {fd : FuncData} (F : Fun K "_law_few" "_law_few" s__law_few f fd) (CV : Cal P w K mg base "_law_voices" 1 (spP K R_lvoices)) (zl : mg "len" = none) (zt : mg "tuple" = none) (zm : mg "min" = none) : FnOk P w K mg base CX0 2 f fd ["_law_hearing"] (spP K R_lfew) := by
  refine fun_rt F c__law_few (fun ss s h => ?_) fun cdv A outer s H E hr hu ss sl h => ?_
  · obtain ⟨h, rfl, _⟩ := h; rfl
  · obtain ⟨h, rfl, hl, rfl⟩ := h
    show Rt _ _ [.da (dH h), .un, .un, .un, .un, .un, .un, .un] _
    refine' rt_cons (r_par 1 2 rfl c__law_few.nd (s1 := .da (.int ((vo h).length : Nat))) (s2 := .ext (ODT [])) (EX.is (ex_callB (ea_cons (ex_freeze (ex_call CV (by walk_at "rm") (es_cons (ex_name 0 rfl) es_nil) ⟨h, rfl, by omega, rfl⟩)) ea_nil) cd_lenL zl) (by rw [List.length_map])) ex_dnewT) ?r1
    show Rt _ _ [.da (dH h), .da (.int ((vo h).length : Nat)), .ext (ODT (kvF (ulF []))), .un, .un, .un, .un, .un] _
    refine' rt_cons (r_for PassesOwn.never rfl (it_list (ex_name 0 rfl)) (for_pre h dP (fun pre => [.da (dH h), .da (.int ((vo h).length : Nat)), .ext (ODT (kvF (ulF pre))), .un, .un, .un, .un, .un]) (fun pre p post e => ⟨_, _, bt_tup rfl (bts_cons (bt_name 3 c__law_few.nd) (bts_cons (bt_name 4 c__law_few.nd) bts_nil)), .inl ?turn⟩))) ?r2
    case turn =>
      have hul := ulF_len pre
      have hpl : pre.length ≤ 1000 := by have := congrArg List.length e; simp at this; omega
      have hkl : (kvF (ulF pre)).length = (ulF pre).length := List.length_map _
      refine' rs_weak (ρ1 := [.da (dH h), .da (.int ((vo h).length : Nat)), .ext (ODT (kvF (ulF (pre ++ [p])))), .da (.str p.1), .da (dN p.2), .un, .un, .un]) (.same (.same (.same (.un (.un (.same (.same (.same .nil)))))))) (rs_cons (r_if (b := !decide (p.2 = [])) (et_cmp (ex_name 4 rfl) (ex_freeze (ex_lst ea_nil (by decide))) (oc_neNil hu)) (fun t => ?t1) (fun t => ?t2)) rs_nil)
      case t2 =>
        rw [ulF_snoc]
        unfold ulStep
        rw [if_neg (by rw [t]; simp)]
        exact rs_nil
      case t1 =>
        rw [ulF_snoc]
        unfold ulStep
        by_cases hm : p.2 ∈ ulF pre
        · rw [if_neg (by rw [t, decide_eq_true hm]; decide)]
          refine' rs_cons (r_dputA hu 2 (k := p.2) (em_ex (EX.is (d' := .int (p.2.length : Nat)) (ex_callB (ea_cons (ex_name 4 rfl) ea_nil) cd_lenL zl) (by rw [List.length_map]))) rfl (ex_callTy (ea_cons (ex_name 4 rfl) ea_nil) cd_tuple zt) (by rw [kvF_look hm]; intro z; cases z) ?same (by omega)) rs_nil
          case same =>
            intro q hq eq
            obtain ⟨o, _, rfl⟩ := List.mem_map.mp hq
            have eq' : o = p.2 := eq
            subst eq'
            rfl
        · rw [if_pos (by rw [t, decide_eq_false hm]; decide)]
          refine' rs_is (rs_cons (r_dputT hu 2 (k := p.2) (em_ex (EX.is (d' := .int (p.2.length : Nat)) (ex_callB (ea_cons (ex_name 4 rfl) ea_nil) cd_lenL zl) (by rw [List.length_map]))) rfl (ex_callTy (ea_cons (ex_name 4 rfl) ea_nil) cd_tuple zt) (kvF_none hm) (by omega)) rs_nil) ?e1
          case e1 =>
            unfold kvF
            rw [List.map_append]
            rfl
    refine' rt_cons (r_par 5 6 rfl c__law_few.nd (s1 := .da (.int 0)) (s2 := .da (.int (if ((vo h).length : Int) > 0 then ((vo h).length : Int) - 1 else 0))) ex_int (ex_if (et_cmp (ex_name 1 rfl) ex_int oc_gt) (fun t => EX.is (ex_bin (ex_name 1 rfl) ex_int od_sub) ?i1) (fun t => EX.is ex_int ?i2))) ?r3
    case i1 => rw [if_pos (of_decide_eq_true t)]
    case i2 => rw [if_neg (of_decide_eq_false t)]
    have hkv : ∀ pre q post, kvF (ulF h) = pre ++ q :: post → ∃ o, q = (o, PyData.int o.length) ∧ (ulF h).take (pre.length + 1) = (ulF h).take pre.length ++ [o] := fun pre q post e => by
      have hg : (kvF (ulF h))[pre.length]? = some q := by rw [e]; simp
      unfold kvF at hg
      rw [List.getElem?_map] at hg
      obtain ⟨o, ho, eq⟩ := Option.map_eq_some_iff.mp hg
      refine ⟨o, eq.symm, ?_⟩
      rw [List.take_succ, ho]
      rfl
    let encE : List (Names × PyData) → Env' := fun pre => [.da (dH h), .da (.int ((vo h).length : Nat)), .ext (ODT (kvF (ulF h))), .un, .un, .da (.int (firstF ((ulF h).take pre.length))), .da (.int (secondF (vo h).length ((ulF h).take pre.length))), .un]
    show Rt _ _ (encE []) _
    refine' rt_cons (r_forKT (kvs := kvF (ulF h)) 2 7 (by decide) PassesOwn.never rfl c__law_few.nd encE (fun _ => rfl) (fun _ => rfl) (fun pre q post e d od vs => ?turn2)) ?r4
    case turn2 =>
      obtain ⟨o, rfl, et⟩ := hkv pre q post e
      have hmem : o ∈ ulF h := by
        have : (o, PyData.int o.length) ∈ kvF (ulF h) := by rw [e]; simp
        obtain ⟨o', ho', eq⟩ := List.mem_map.mp this
        cases eq
        exact ho'
      have hlk : (kvF (ulF h)).lookup o = some (.int o.length) := kvF_look hmem
      show RSK _ 7 o _ [.da (dH h), .da (.int ((vo h).length : Nat)), .ext (FDT d od vs (kvF (ulF h))), .un, .un, .da (.int (firstF ((ulF h).take pre.length))), .da (.int (secondF (vo h).length ((ulF h).take pre.length))), .un] _
      have hend : (encE (pre ++ [(o, PyData.int o.length)])).set 2 (.ext (FDT d od vs (kvF (ulF h)))) = [.da (dH h), .da (.int ((vo h).length : Nat)), .ext (FDT d od vs (kvF (ulF h))), .un, .un, .da (.int (firstF ((ulF h).take pre.length) + (o.length : Int) - 1)), .da (.int (secondF (vo h).length ((ulF h).take pre.length) + min ((o.length : Int) - 1) (((vo h).length : Int) - o.length))), .un] := by
        show [_, _, _, _, _, Slot.da (.int (firstF ((ulF h).take (pre ++ [(o, PyData.int o.length)]).length))), Slot.da (.int (secondF (vo h).length ((ulF h).take (pre ++ [(o, PyData.int o.length)]).length))), _] = _
        rw [List.length_append, List.length_singleton, et, firstF_snoc, secondF_snoc]
      rw [hend]
      refine' rsk_set 5 (by decide) c__law_few.nd (exk_bin (exk_bin (.of (ex_name 5 rfl)) (exk_get hu 2 rfl hlk) od_add) (.of ex_int) od_sub) ?s2
      refine' rsk_set 6 (by decide) c__law_few.nd (exk_bin (.of (ex_name 6 rfl)) (exk_callB (eak_cons (exk_bin (exk_get hu 2 rfl hlk) (.of ex_int) od_sub) (eak_cons (exk_bin (.of (ex_name 1 rfl)) (exk_get hu 2 rfl hlk) od_sub) eak_nil)) (cd_min2 rfl) zm) od_add) ?s3
      exact rsk_nil
    have hfin : encE (kvF (ulF h)) = [.da (dH h), .da (.int ((vo h).length : Nat)), .ext (ODT (kvF (ulF h))), .un, .un, .da (.int (firstF (ulF h))), .da (.int (secondF (vo h).length (ulF h))), .un] := by
      show [_, _, _, _, _, Slot.da (.int (firstF ((ulF h).take (kvF (ulF h)).length))), Slot.da (.int (secondF (vo h).length ((ulF h).take (kvF (ulF h)).length))), _] = _
      have : (kvF (ulF h)).length = (ulF h).length := List.length_map _
      rw [this, List.take_length]
    rw [hfin]
    exact rt_ret (r_return (ex_callB (ea_cons (ex_name 5 rfl) (ea_cons (ex_name 6 rfl) ea_nil)) (cd_min2 rfl) zm))
end
end My

set_option Elab.async false
set_option linter.all false
set_option maxRecDepth 100000
set_option maxHeartbeats 1000000
namespace My
open PySem PySem.Spec PyProof.Rows L2 Mx

/-! ### short words for the walk (all local) -/
local macro_rules | `(tactic| walk_at "pl") => `(tactic| first | exact pl_int | exact pl_str | exact pl_bool | exact pl_none | exact pl_dN | exact pl_dH | assumption)
local macro_rules | `(tactic| walk_at "od") => `(tactic| first
  | exact od_add | exact od_sub | exact od_mod (by omega) | exact od_fdiv (by omega) (by omega) | exact od_pow (by decide) | exact od_mulL (by omega) | exact od_mulR (by omega)
  | exact oc_lt | exact oc_le | exact oc_gt | exact oc_ge | exact oc_ltS | exact oc_isN | exact oc_notN
  | exact oc_eqI (by assumption) | exact oc_eqS (by assumption) | exact oc_eqB (by assumption) | exact oc_eqN (by assumption) | exact oc_eqH (by assumption) | exact oc_eqNil (by assumption)
  | exact oc_neI (by assumption) | exact oc_neS (by assumption) | exact oc_neB (by assumption) | exact oc_neN (by assumption) | exact oc_neH (by assumption) | exact oc_neNil (by assumption)
  | exact oc_inN (by assumption) | exact oc_notinN (by assumption)
  | exact oc_eq (by assumption) (by walk_at "pl") (by walk_at "pl") | exact oc_ne (by assumption) (by walk_at "pl") (by walk_at "pl"))
local macro_rules | `(tactic| walk_at "nm") => `(tactic| first
  | exact ex_name 0 rfl | exact ex_name 1 rfl | exact ex_name 2 rfl | exact ex_name 3 rfl | exact ex_name 4 rfl | exact ex_name 5 rfl | exact ex_name 6 rfl | exact ex_name 7 rfl
  | exact ex_name 8 rfl | exact ex_name 9 rfl | exact ex_name 10 rfl | exact ex_name 11 rfl | exact ex_name 12 rfl | exact ex_name 13 rfl | exact ex_name 14 rfl | exact ex_name 15 rfl | exact ex_name 16 rfl | exact ex_name 17 rfl)
local macro_rules | `(tactic| walk_at "call") => `(tactic| fail)
local macro_rules | `(tactic| walk_at "exs") => `(tactic| first
  | walk_at "nm" | exact ex_int | exact ex_str | exact ex_bl | exact ex_non
  | (refine' ex_bin ?a ?b ?o; (case a => walk_at "ex"); (case b => walk_at "ex"); (case o => walk_at "od"))
  | (refine' ex_cmp ?a ?b ?o; (case a => walk_at "ex"); (case b => walk_at "ex"); (case o => walk_at "od"))
  | (refine' ex_not ?a; (case a => walk_at "ex"))
  | (refine' ex_neg ?a; (case a => walk_at "ex"))
  | (refine' ex_one ?a; (case a => walk_at "ex"))
  | (refine' ex_and ?a ?b; (case a => walk_at "ex"); (case b => intro _; walk_at "ex"))
  | (refine' ex_or ?a ?b; (case a => walk_at "ex"); (case b => intro _; walk_at "ex"))
  | (refine' ex_tup ?a ?z; (case a => walk_at "ea"); (case z => simp))
  | (refine' ex_freeze (ex_lst ?a ?z); (case a => walk_at "ea"); (case z => simp))
  | (refine' ex_callB ?a cd_lenL (by assumption); (case a => walk_at "ea"))
  | (refine' ex_callB ?a cd_lenT (by assumption); (case a => walk_at "ea"))
  | walk_at "call")
local macro_rules | `(tactic| walk_at "ex") => `(tactic| first | walk_at "exs" | (refine' ex_star ?h ?f; (case h => walk_at "exs"); (case f => rfl)))
local macro_rules | `(tactic| walk_at "ea") => `(tactic| first | exact ea_nil | (refine' ea_cons ?a ?r; (case a => walk_at "ex"); (case r => walk_at "ea")))
local macro_rules | `(tactic| walk_at "ews") => `(tactic| first
  | (refine' ew_and1 ?a; (case a => walk_at "et"))
  | (refine' ew_or1 ?a; (case a => walk_at "et"))
  | (refine' ew_and ?a ?b; (case a => walk_at "et"); (case b => intro _; walk_at "ews"))
  | (refine' ew_or ?a ?b; (case a => walk_at "et"); (case b => intro _; walk_at "ews")))
local macro_rules | `(tactic| walk_at "ets") => `(tactic| first
  | (refine' et_W ?a; (case a => walk_at "ews"))
  | (refine' et_not ?a; (case a => walk_at "et"))
  | (refine' et_cmp ?a ?b ?o; (case a => walk_at "ex"); (case b => walk_at "ex"); (case o => walk_at "od"))
  | (refine' et_val ?a; (case a => walk_at "ex")))
local macro_rules | `(tactic| walk_at "et") => `(tactic| first | walk_at "ets" | (refine' et_star ?h; (case h => walk_at "ets")))
local macro_rules | `(tactic| walk_at "sh") => `(tactic| first | exact shd_da | exact shd_scr | exact shd_ob)
local macro_rules | `(tactic| walk_at "nmS") => `(tactic| first
  | exact ex_nameS 0 rfl (by walk_at "sh") | exact ex_nameS 1 rfl (by walk_at "sh") | exact ex_nameS 2 rfl (by walk_at "sh") | exact ex_nameS 3 rfl (by walk_at "sh") | exact ex_nameS 4 rfl (by walk_at "sh") | exact ex_nameS 5 rfl (by walk_at "sh")
  | exact ex_nameS 6 rfl (by walk_at "sh") | exact ex_nameS 7 rfl (by walk_at "sh") | exact ex_nameS 8 rfl (by walk_at "sh") | exact ex_nameS 9 rfl (by walk_at "sh") | exact ex_nameS 10 rfl (by walk_at "sh") | exact ex_nameS 11 rfl (by walk_at "sh"))
local macro_rules | `(tactic| walk_at "es") => `(tactic| first
  | exact es_nil
  | (refine' es_cons ?a ?r; (case a => (first | walk_at "ex" | walk_at "nmS")); (case r => walk_at "es"))
  | (refine' es_cons ?a ?r shd_scr; (case a => walk_at "nmS"); (case r => walk_at "es"))
  | (refine' es_cons ?a ?r shd_ob; (case a => (first | walk_at "ex" | walk_at "nmS")); (case r => walk_at "es")))
local macro_rules | `(tactic| walk_at "rm") => `(tactic| exact Room.mono (by assumption) (by decide))
section
variable {P : Program} {w : World} {K : PySem.W.Frag} {mg : Str → Option Value} {base : Heap}
theorem oc_isB {X : Cx} {t u : Bool} : CmpD X .Is (.bool t) (.bool u) (.da (.bool (decide (t = u)))) := .mk ⟨_, op_isBl, fun F H x y Q e hx hy k => by
  cases hx; cases hy
  exact ⟨t, u, rfl, rfl, k.here e (.bl _)⟩⟩
theorem oc_notB {X : Cx} {t u : Bool} : CmpD X .IsNot (.bool t) (.bool u) (.da (.bool (!decide (t = u)))) := .mk ⟨_, op_notBl, fun F H x y Q e hx hy k => by
  cases hx; cases hy
  exact ⟨t, u, rfl, rfl, k.here e (.bl _)⟩⟩
theorem rep_some (n : Nat) (i : Int) : (List.replicate n [PyData.int i]).flatten = (List.replicate n (some i)).map dE := by
  induction n with
  | zero => rfl
  | succ n ih => rw [List.replicate_succ, List.flatten_cons, ih, List.replicate_succ]; rfl
theorem rep_dS (n : Nat) (s : Stp) : (List.replicate n [dS s]).flatten = (List.replicate n s).map dS := by
  induction n with
  | zero => rfl
  | succ n ih => rw [List.replicate_succ, List.flatten_cons, ih, List.replicate_succ]; rfl
theorem pl_dT2 {q : StEn} : Pl (dT2 q) := (pln_tuple (n := 2) fun d h => by
  rcases List.mem_cons.mp h with rfl | h
  · exact pln_list (pln_map pln_dS q.1)
  · have e : d = dEs q.2 := by simpa using h
    rw [e]
    have := pln_list (pln_map pln_dE q.2)
    exact ⟨this.1, Nat.le_trans this.2 (by decide)⟩).pl
theorem eqv_dT2 (q : StEn) : PyData.eqv (dT2 q) (dT2 q) = true := by
  unfold dT2
  simp only [PyData.eqv, PyData.eqvAll, Bool.and_eq_true, and_true]
  exact ⟨(code_dSs q.1 q.1).mpr rfl, (code_dEs q.2 q.2).mpr rfl⟩
/-! ### _law_is_plan -/
theorem idx_ok {m : Nat} {st : List Stp} (h : st.zipIdx.all (idxOkB m) = true) : StepsOk m st := fun i s e => by
  have hm : (s, i) ∈ st.zipIdx := List.mem_zipIdx_iff_getElem?.mpr (by simpa using e)
  have := List.all_eq_true.mp h _ hm
  unfold idxOkB at this
  simp only [Bool.and_eq_true, decide_eq_true_eq] at this
  obtain ⟨⟨h1, h2⟩, h3, h4⟩ := this
  exact ⟨h1, by omega, h3, by omega⟩
theorem end_ok {m k : Nat} {en : List (Option Int)} (h : en.all (endOkB ((m : Int) + (k : Int))) = true) : EndsOk (m + k) en := fun i hi => by
  have := List.all_eq_true.mp h _ hi
  unfold endOkB at this
  simp only [Bool.and_eq_true, decide_eq_true_eq] at this
  exact ⟨this.1, by omega⟩
def R_isPlan : List Slot → Slot → Prop := fun ss s => ∃ h st en, ss = [.da (dH h), .da (dSs st), .da (dEs en)] ∧ h.length ≤ 7 ∧ st.length ≤ 1000 ∧ en.length ≤ 1000 ∧ s = .da (.bool (isPlanF h st en))
theorem ok_isPlan {f : Addr} {fd : FuncData} (F : Fun K "_law_is_plan" "_law_is_plan" s__law_is_plan f fd) (CV : Cal P w K mg base "_law_voices" 1 (spP K R_lvoices)) (CF : Cal P w K mg base "_law_few" 2 (spP K R_lfew)) (CR : Cal P w K mg base "_law_right_plan" 2 (spP K R_right)) (ze : mg "enumerate" = none) (za : mg "any" = none) (zl : mg "len" = none) : FnOk P w K mg base CX0 3 f fd ["_law_hearing", "_law_steps", "_law_ends"] (spP K R_isPlan) := by
  refine fun_rt F c__law_is_plan (fun ss s h => ?_) fun cdv A outer s H E hr hu ss sl h => ?_
  · obtain ⟨m, st, en, rfl, _⟩ := h; rfl
  · obtain ⟨h, st, en, rfl, hl, hsl, hel, rfl⟩ := h
    show Rt _ _ [.da (dH h), .da (dSs st), .da (dEs en), .un, .un, .un, .un, .un, .un, .un] _
    have hvl : (vo h).length ≤ 7 := by
      unfold vo
      refine Nat.le_trans (List.length_filter_le _ _) ?_
      rw [List.length_map]; exact hl
    refine' rt_cons (r_set 3 c__law_is_plan.nd (EX.is (d' := .int (((vo h).length : Nat) : Int)) (ex_callB (ea_cons (ex_freeze (ex_call CV (by walk_at "rm") (es_cons (ex_name 0 rfl) es_nil) ⟨h, rfl, by omega, rfl⟩)) ea_nil) cd_lenL zl) (by rw [List.length_map]))) ?r1
    show Rt _ _ [.da (dH h), .da (dSs st), .da (dEs en), .da (.int (((vo h).length : Nat) : Int)), .un, .un, .un, .un, .un, .un] _
    have hg : st.zipIdx.findSome? (fun q => if (!idxOkB (vo h).length q) = true then some (Slot.da (.bool false)) else none) = if st.zipIdx.all (idxOkB (vo h).length) = true then none else some (.da (.bool false)) := by
      induction st.zipIdx with
      | nil => rfl
      | cons a r ih =>
        rw [List.findSome?_cons, List.all_cons]
        cases idxOkB (vo h).length a with
        | true =>
          rw [Bool.true_and]
          exact ih
        | false => rfl
    refine' rt_find (st.zipIdx.findSome? (fun q => if (!idxOkB (vo h).length q) = true then some (Slot.da (.bool false)) else none)) PassesOwn.never rfl (it_enumM dS ze (ea_cons (ex_name 1 rfl) ea_nil)) (for_find st.zipIdx (fun q => .tuple [.int (q.2 : Nat), dS q.1]) [.da (dH h), .da (dSs st), .da (dEs en), .da (.int (((vo h).length : Nat) : Int)), .un, .un, .un, .un, .un, .un] _ fun q hq => ⟨_, _, bt_tup rfl (bts_cons (bt_name 4 c__law_is_plan.nd) (bts_cons (bt_tup rfl (bts_cons (bt_name 5 c__law_is_plan.nd) (bts_cons (bt_name 6 c__law_is_plan.nd) (bts_cons (bt_name 7 c__law_is_plan.nd) bts_nil)))) bts_nil)), ?body⟩) (fun q => ?z1) (fun t q => ?z2)
    case z1 =>
      rw [hg] at q
      unfold isPlanF
      cases e : st.zipIdx.all (idxOkB (vo h).length) with
      | true =>
        rw [if_pos rfl]
        have hs := idx_ok e
        refine' rt_cons (r_set 8 c__law_is_plan.nd (EX.is (d' := .int (((vo h).length : Int) + st.length)) (ex_bin (ex_name 3 rfl) (ex_callB (ea_cons (ex_name 1 rfl) ea_nil) cd_lenL zl) od_add) (by rw [List.length_map]))) ?r2
        show Rt _ _ [.da (dH h), .da (dSs st), .da (dEs en), .da (.int (((vo h).length : Nat) : Int)), .un, .un, .un, .un, .da (.int (((vo h).length : Int) + st.length)), .un] _
        refine' rt_if0 (b := !(decide (en.length = h.length) && en.all (endOkB (((vo h).length : Int) + st.length)))) (ET.is (et_W (ew_or (et_cmp (ex_callB (ea_cons (ex_name 2 rfl) ea_nil) cd_lenL zl) (ex_callB (ea_cons (ex_name 0 rfl) ea_nil) cd_lenL zl) (oc_neI hu)) fun _ => ew_or1 (et_val (ex_callB (ea_cons (ex_freeze (ex_lcA [("_law_end", 9)] en dE (fun e => .bool (!endOkB (((vo h).length : Int) + st.length) e)) rfl c__law_is_plan.nd (blkOk_by (by kernel_rfl)) (it_list (ex_name 2 rfl)) (fun y hy => ?lc) (by omega))) ea_nil) (cd_anyF rfl) za)))) ?c1) (fun t => ?y1) (fun t => ?y2)
        case lc =>
          refine ⟨_, _, ?_, fun s0 H0 C cl fp => ⟨bt_name 9 c__law_is_plan.nd, ets_nil, fun _ => ?_⟩⟩
          · decide
          · cases y with
            | none => exact EX.is (ex_and (t := false) (ex_cmp (d1 := dE none) (ex_name 9 rfl) ex_non oc_notE) (u := true) fun z => nomatch z) rfl
            | some i => exact EX.is (ex_and (t := true) (ex_cmp (d1 := dE (some i)) (ex_name 9 rfl) ex_non oc_notE) fun _ => ex_one (ex_not (ex_chain (d2 := .int i) ex_int (ex_name 9 rfl) (fun _ => ex_name 8 rfl) oc_le fun _ => oc_lt))) rfl
        case c1 =>
          rw [List.length_map, List.length_map, Bool.not_and]
          congr 1
          · congr 1
            rw [decide_eq_decide]
            omega
          · rw [List.not_all_eq_any_not]
        case y1 =>
          rw [Bool.not_eq_true'] at t
          rw [if_neg (by rw [t]; decide)]
          exact rt_ret (r_return ex_bl)
        case y2 =>
          rw [Bool.not_eq_false'] at t
          rw [if_pos t]
          rw [Bool.and_eq_true] at t
          have he := end_ok t.2
          exact rt_ret (r_return (EX.is (ex_and (t := decide ((st.length : Int) = lfewF h)) (EX.is (ex_cmp (ex_callB (ea_cons (ex_name 1 rfl) ea_nil) cd_lenL zl) (ex_call CF (by walk_at "rm") (es_cons (ex_name 0 rfl) es_nil) ⟨h, rfl, hl, rfl⟩) (oc_eqI hu)) (by rw [List.length_map])) fun _ => ex_one (ex_call CR (by walk_at "rm") (es_cons (ex_name 0 rfl) (es_cons (ex_name 1 rfl) (es_cons (ex_name 2 rfl) es_nil))) ⟨h, st, en, rfl, hl, hs, he, hsl, rfl⟩)) rfl))
      | false => rw [e] at q; cases q
    case z2 =>
      rw [hg] at q
      unfold isPlanF
      cases e : st.zipIdx.all (idxOkB (vo h).length) with
      | true => rw [e] at q; cases q
      | false => rw [e] at q; cases q; rfl
    case body =>
      obtain ⟨⟨k, i, j⟩, n⟩ := q
      refine' FindB.is (fb_ifr (b := !idxOkB (vo h).length ((k, i, j), n)) (s := .da (.bool false)) (ET.is (et_W (ew_or (et_not (et_chain ex_int (ex_name 6 rfl) (fun _ => ex_bin (ex_name 3 rfl) (ex_name 4 rfl) od_add) oc_le fun _ => oc_lt)) fun _ =>
        ew_or1 (et_not (et_chain ex_int (ex_name 7 rfl) (fun _ => ex_bin (ex_name 3 rfl) (ex_name 4 rfl) od_add) oc_le fun _ => oc_lt)))) ?e1) (fun _ => ex_bl) (.same (.same (.same (.same (.un (.un (.un (.un (.same (.same .nil))))))))))) rfl
      case e1 =>
        unfold idxOkB
        simp only [Bool.not_and, Bool.or_assoc]
/-! ### _law_each -/
theorem vo_has {z : Str} {h : Hear} (V : Valid z h) : ∀ p ∈ h, ∀ x ∈ p.2, x ∈ vo h := fun p hp x hx => (vo_mem V).mpr ⟨p, hp, hx⟩
def R_each : List Slot → Slot → Prop := fun ss s => ∃ h vs, ss = [.da (dH h), .da (dN vs)] ∧ Valid LETT h ∧ vs.length ≤ 1000 ∧ (∀ p ∈ h, ∀ x ∈ p.2, x ∈ vs) ∧ s = .da (dT2 (eachF vs h))
theorem ok_each {f : Addr} {fd : FuncData} (F : Fun K "_law_each" "_law_each" s__law_each f fd) (zl : mg "len" = none) : FnOk P w K mg base CX0 1 f fd ["_law_hearing", "_law_speakers"] (spP K R_each) := by
  refine fun_rt F c__law_each (fun ss s h => ?_) fun cdv A outer s H E hr hu ss sl h => ?_
  · obtain ⟨h, vs, rfl, _⟩ := h; rfl
  · obtain ⟨h, vs, rfl, V, hvl, hin, rfl⟩ := h
    show Rt _ _ [.da (dH h), .da (dN vs), .un, .un, .un, .un, .un, .un] _
    have hhl := V.len
    refine' rt_cons (r_par 2 3 rfl c__law_each.nd (ex_lst ea_nil (by decide)) (ex_lst ea_nil (by decide))) ?r1
    refine' rt_cons (r_for PassesOwn.never rfl (it_list (ex_name 0 rfl)) (for_preS h dP (fun pre => [.da (dH h), .da (dN vs), .ow ((eachF vs pre).1.map dS), .ow ((eachF vs pre).2.map dE), .un, .un, .un, .un]) rfl (fun pre p post e => ⟨_, _, bt_tup rfl (bts_cons (bt_name 4 c__law_each.nd) (bts_cons (bt_name 5 c__law_each.nd) bts_nil)), .inl ?turn⟩))) ?r2
    case r2 => exact rt_freeze 2 rfl (rt_freeze 3 rfl (rt_ret (r_return (EX.is (ex_tup (ea_cons (ex_name 2 rfl) (ea_cons (ex_name 3 rfl) ea_nil)) (by show 2 ≤ 100000; omega)) rfl))))
    case turn =>
      have hp : p ∈ h := by rw [e]; simp
      obtain ⟨_, k2, k3⟩ := each_ok V vs (l := pre) fun q hq => by rw [e]; simp [hq]
      have hpre : pre.length ≤ 7 := by have := congrArg List.length e; simp at this; omega
      have hpv := hin p hp
      have hpo := V.olen hp
      obtain ⟨n, o⟩ := p
      rw [eachF_snoc]
      unfold eachStep
      simp only at hpv hpo
      generalize eachF vs pre = S at k2 k3
      obtain ⟨st, en⟩ := S
      simp only at k2 k3
      cases o with
      | nil =>
        rw [if_pos rfl]
        refine' rs_weak (ρ1 := [.da (dH h), .da (dN vs), .ow (st.map dS), .ow ((en ++ [none]).map dE), .da (.str n), .da (dN []), .da .none, .un]) (.same (.same (.same (.same (.un (.un (.un (.same .nil)))))))) (rs_cons (r_set 6 c__law_each.nd (ex_if (t := false) (ET.is (et_cmp (d1 := dN []) (ex_name 5 rfl) (ex_freeze (ex_lst ea_nil (by decide))) (oc_neNil hu)) rfl) (fun z => nomatch z) fun _ => ex_non)) (rs_cons (r_for PassesOwn.never rfl (it_list (ds := []) (EX.is (ex_freeze (ex_slL (ex_name 5 rfl) (eo_some ex_int) eo_none)) rfl)) .nil) (rs_is (rs_cons (r_append 3 rfl (d := .none) (ex_name 6 rfl) (by rw [List.length_map]; show en.length < 100000; omega)) rs_nil) ?e0)))
        case e0 => rw [List.map_append]; rfl
      | cons x r =>
        rw [if_neg (by intro z; cases z)]
        have hx : x ∈ vs := hpv x List.mem_cons_self
        have hpe : placesF vs (x :: r) = ((vs.idxOf x : Nat) : Int) :: placesF vs r := rfl
        have hae : addF vs.length (placesF vs (x :: r)) st = moreF ADD vs.length (placesF vs r) (st, ((vs.idxOf x : Nat) : Int)) := by rw [hpe]; rfl
        rw [hae]
        have hlr : r.length ≤ 7 := by simp only [List.length_cons] at hpo; omega
        refine' rs_cons (r_set 6 c__law_each.nd (s := .da (.int ((vs.idxOf x : Nat) : Int))) (ex_if (t := true) (ET.is (et_cmp (d1 := dN (x :: r)) (ex_name 5 rfl) (ex_freeze (ex_lst ea_nil (by decide))) (oc_neNil hu)) rfl) (fun _ => ex_index (ex_name 1 rfl) (ex_ixL (d := .str x) (ex_name 5 rfl) ex_int (atI_of (by decide) rfl)) hx) fun z => nomatch z)) ?s1
        refine' rs_cons (r_for PassesOwn.never rfl (it_list (ds := r.map .str) (EX.is (ex_freeze (ex_slL (ex_name 5 rfl) (eo_some ex_int) eo_none)) (congrArg PyData.list (cut_from PyData.str 1 (x :: r))))) (for_preS r .str (fun pr => [.da (dH h), .da (dN vs), .ow ((moreF ADD vs.length (placesF vs pr) (st, ((vs.idxOf x : Nat) : Int))).1.map dS), .ow (en.map dE), .da (.str n), .da (dN (x :: r)), .da (.int (moreF ADD vs.length (placesF vs pr) (st, ((vs.idxOf x : Nat) : Int))).2), .un]) rfl (fun pr y po e2 => ⟨_, _, bt_name 7 c__law_each.nd, .inl ?turn2⟩))) ?s2
        case turn2 =>
          have hy : y ∈ vs := hpv y (List.mem_cons_of_mem _ (by rw [e2]; simp))
          have hpl : pr.length ≤ 7 := by have := congrArg List.length e2; simp at this; omega
          have hml := moreF_len ADD vs.length (placesF vs pr) (st, ((vs.idxOf x : Nat) : Int))
          have hpp : (placesF vs pr).length = pr.length := List.length_map _
          have hps : placesF vs (pr ++ [y]) = placesF vs pr ++ [((vs.idxOf y : Nat) : Int)] := List.map_append
          rw [hps, moreF_snoc]
          simp only at hml
          generalize moreF ADD vs.length (placesF vs pr) (st, ((vs.idxOf x : Nat) : Int)) = M at hml
          obtain ⟨st2, hr2⟩ := M
          simp only at hml
          refine' rs_weak (ρ1 := [.da (dH h), .da (dN vs), .ow ((st2 ++ [(ADD, hr2, ((vs.idxOf y : Nat) : Int))]).map dS), .ow (en.map dE), .da (.str n), .da (dN (x :: r)), .da (.int ((vs.length : Int) + ((st2.length : Int) + 1) - 1)), .da (.str y)]) (.same (.same (.same (.same (.same (.same (.same (.un .nil)))))))) ?w
          have hE : (st2 ++ [(ADD, hr2, ((vs.idxOf y : Nat) : Int))]).map dS = st2.map dS ++ [dS (ADD, hr2, ((vs.idxOf y : Nat) : Int))] := by rw [List.map_append]; rfl
          rw [hE]
          refine' rs_cons (r_append 2 rfl (d := dS (ADD, hr2, ((vs.idxOf y : Nat) : Int))) (ex_tup (ea_cons ex_str (ea_cons (ex_name 6 rfl) (ea_cons (ex_index (ex_name 1 rfl) (ex_name 7 rfl) hy) ea_nil))) (by show 3 ≤ 100000; omega)) (by rw [List.length_map]; show st2.length < 100000; omega)) ?w1
          refine' rs_cons (r_set 6 c__law_each.nd (s := .da (.int ((vs.length : Int) + ((st2.length : Int) + 1) - 1))) (EX.is (ex_bin (ex_bin (ex_callB (ea_cons (ex_name 1 rfl) ea_nil) cd_lenL zl) (ex_star (ex_callB (ea_cons (ex_name 2 rfl) ea_nil) cd_lenL zl) rfl) od_add) ex_int od_sub) ?w3)) rs_nil
          case w3 => rw [List.length_map, List.length_append, List.length_map]; rfl
        have hml := moreF_len ADD vs.length (placesF vs r) (st, ((vs.idxOf x : Nat) : Int))
        generalize moreF ADD vs.length (placesF vs r) (st, ((vs.idxOf x : Nat) : Int)) = M
        obtain ⟨st2, hr2⟩ := M
        refine' rs_weak (ρ1 := [.da (dH h), .da (dN vs), .ow (st2.map dS), .ow ((en ++ [some hr2]).map dE), .da (.str n), .da (dN (x :: r)), .da (.int hr2), .un]) (.same (.same (.same (.same (.un (.un (.un (.same .nil)))))))) (rs_is (rs_cons (r_append 3 rfl (d := .int hr2) (ex_name 6 rfl) (by rw [List.length_map]; omega)) rs_nil) ?e3)
        case e3 => rw [List.map_append]; rfl
/-! ### law -/
def H13 : Hear := [("a", []), ("b", []), ("c", ["a", "b"]), ("d", ["a", "b"])]
local macro_rules | `(tactic| walk_at "wk") => `(tactic| repeat (first | exact Weak.nil | refine Weak.same ?_ | refine Weak.un ?_))
def R_law : List Slot → Slot → Prop := fun ss s => ∃ ns, ss = [.scr ns] ∧ s = .da (.bool true)
theorem ok_law {CP f : Addr} {fd : FuncData} (F : Fun K "law" "law" s_law f fd) (CD : Cal P w K mg base "_law_drawn" 4 (spP K R_drawn)) (CV : Cal P w K mg base "_law_voices" 1 (spP K R_lvoices)) (CP' : Cal P w K mg base "plan" 5 (spP K (R_plan CP)))
    (CE : Cal P w K mg base "_law_each" 1 (spP K R_each)) (CI : Cal P w K mg base "_law_is_plan" 3 (spP K R_isPlan)) (CS : Cal P w K mg base "_law_says" 1 (spP K R_says)) (clP : Cls K CP) (p1 : NoAttr K CP "steps") (p2 : NoAttr K CP "ends")
    (IP : CalI P w K mg base "Plan" CP 1 (spInitB K CP R_planI)) (SP : CalM P w K mg base CP "shows" 4 (spP K (R_planS CP)))
    (zl : mg "len" = none) (zr : mg "range" = none) (zli : mg "list" = none) : FnOk P w K mg base CX0 6 f fd ["_law_script"] (spP K R_law) := by
  refine fun_rt F c_law (fun ss s h => ?_) fun cdv A outer s H E hr hu ss sl h => ?_
  · obtain ⟨ns, rfl, _⟩ := h; rfl
  · obtain ⟨ns, rfl, rfl⟩ := h
    show Rt _ _ [.scr ns, .un, .un, .un, .un, .un, .un, .un, .un, .un, .un, .un, .un, .un] _
    refine' rt_cons (r_for PassesOwn.never rfl (it_range1 (n := 2) zr (ea_cons ex_int ea_nil) (by decide)) (for_pre (List.range (2 : Int).toNat) (fun i => .int (i : Int)) (fun _ => [.scr ns, .un, .un, .un, .un, .un, .un, .un, .un, .un, .un, .un, .un, .un]) (fun pre b post e => ⟨_, _, bt_name 1 c_law.nd, .inl ?turn⟩))) ?rest
    case turn =>
      have hb : b < 2 := List.mem_range.mp (e ▸ by simp)
      have V := drawn_valid ns b
      have hhl := V.len
      have hvl := vo_len V
      have PO := plan_ok V
      have hk0 : KindsOk (planF (drawnF ns b)).1 := planS_kinds (drawnF ns b) (drawnF ns b)
      have hq0 := each_ok V (vo (drawnF ns b)) (l := drawnF ns b) fun p hp => hp
      show RS _ _ [.scr ns, .da (.int (b : Nat)), .un, .un, .un, .un, .un, .un, .un, .un, .un, .un, .un, .un] _
      refine' rs_cons (r_set 2 c_law.nd (ex_freeze (ex_call CD (by walk_at "rm") (es_cons (ex_nameS 0 rfl shd_scr) (es_cons (ex_name 1 rfl) es_nil) shd_scr) ⟨ns, b, rfl, by omega, rfl⟩))) ?r1
      generalize drawnF ns b = h at V hhl hvl PO hk0 hq0
      show RS _ _ [.scr ns, .da (.int (b : Nat)), .da (dH h), .un, .un, .un, .un, .un, .un, .un, .un, .un, .un, .un] _
      refine' rs_cons (r_par 3 4 rfl c_law.nd (s1 := .da (dN (vo h))) (s2 := .ext (OB CP (fP (planF h).1 (planF h).2))) (ex_freeze (ex_call CV (by walk_at "rm") (es_cons (ex_name 2 rfl) es_nil) ⟨h, rfl, by omega, rfl⟩)) (ex_call CP' (by walk_at "rm") (es_cons (ex_name 2 rfl) es_nil) ⟨h, rfl, V, rfl⟩)) ?r2
      generalize planF h = pf at PO hk0
      obtain ⟨st, en⟩ := pf
      show RS _ _ [.scr ns, .da (.int (b : Nat)), .da (dH h), .da (dN (vo h)), .ext (OB CP (fP st en)), .un, .un, .un, .un, .un, .un, .un, .un, .un] _
      have hen : en.length = h.length := PO.1
      have hsl : st.length ≤ 60 := PO.2.2.2
      have hq1 : SmallOk (eachF (vo h) h) := ⟨hq0.1, by have := hq0.2.1; omega, by have := hq0.2.2; omega⟩
      refine' rs_cons (r_par 5 6 rfl c_law.nd (s1 := .da (dSs st)) (s2 := .da (dEs en)) (ex_fld (ex_nameS 4 rfl shd_ob) rfl clP p1) (ex_fld (ex_nameS 4 rfl shd_ob) rfl clP p2)) ?r3
      show RS _ _ [.scr ns, .da (.int (b : Nat)), .da (dH h), .da (dN (vo h)), .ext (OB CP (fP st en)), .da (dSs st), .da (dEs en), .un, .un, .un, .un, .un, .un, .un] _
      have hq2 : eachF (vo h) h = eachF (vo h) h := rfl
      generalize hqq : eachF (vo h) h = q0 at hq1
      refine' rs_cons (r_set 7 c_law.nd (s := .ow (([(st, en), q0, (st.drop 1, en), ([], List.replicate h.length none)] : List StEn).map dT2)) (ex_lst (ea_cons (EX.is (d' := dT2 (st, en)) (ex_tup (ea_cons (ex_name 5 rfl) (ea_cons (ex_name 6 rfl) ea_nil)) (by show 2 ≤ 100000; omega)) rfl) (ea_cons (EX.is (d' := dT2 q0) (ex_call CE (by walk_at "rm") (es_cons (ex_name 2 rfl) (es_cons (ex_name 3 rfl) es_nil)) ⟨h, vo h, rfl, V, by omega, vo_has V, rfl⟩) (congrArg dT2 hqq)) (ea_cons (EX.is (d' := dT2 (st.drop 1, en)) (ex_tup (ea_cons (EX.is (d' := dSs (st.drop 1)) (ex_freeze (ex_slL (ex_name 5 rfl) (eo_some ex_int) eo_none)) (congrArg PyData.list (cut_from dS 1 st))) (ea_cons (ex_name 6 rfl) ea_nil)) (by show 2 ≤ 100000; omega)) rfl) (ea_cons (EX.is (d' := dT2 ([], List.replicate h.length none)) (ex_tup (ea_cons (EX.is (d' := dSs []) (ex_freeze (ex_lst ea_nil (by decide))) rfl) (ea_cons (EX.is (d' := dEs (List.replicate h.length none)) (ex_freeze (ex_bin (ex_freeze (ex_lst (ea_cons ex_non ea_nil) (by show 1 ≤ 100000; omega))) (ex_callB (ea_cons (ex_name 2 rfl) ea_nil) cd_lenL zl) (od_rep (by rw [List.length_map]; omega) (by show 1 ≤ 100; omega)))) (by rw [List.length_map, Int.toNat_natCast, rep_none]; rfl)) ea_nil)) (by show 2 ≤ 100000; omega)) rfl) ea_nil)))) (by show 4 ≤ 100000; omega))) ?m1
      refine rs_freeze 7 rfl ?_
      show RS _ _ [.scr ns, .da (.int (b : Nat)), .da (dH h), .da (dN (vo h)), .ext (OB CP (fP st en)), .da (dSs st), .da (dEs en), .da (.list (([(st, en), q0, (st.drop 1, en), ([], List.replicate h.length none)] : List StEn).map dT2)), .un, .un, .un, .un, .un, .un] _
      refine' rs_cons (r_set 7 c_law.nd (s := .ow (([(st, en), q0, (st.drop 1, en), ([], List.replicate h.length none)] ++ [(st ++ [(ADD, 0, 0)], en), (st, en.drop 1), (st, en ++ [none])] : List StEn).map dT2)) (EX.isS (ex_bin (ex_name 7 rfl) (ex_freeze (ex_lst (ea_cons (EX.is (d' := dT2 (st ++ [(ADD, 0, 0)], en)) (ex_tup (ea_cons (EX.is (d' := dSs (st ++ [(ADD, 0, 0)])) (ex_freeze (ex_bin (ex_name 5 rfl) (ex_freeze (ex_lst (ea_cons (EX.is (d' := dS (ADD, 0, 0)) (ex_tup (ea_cons ex_str (ea_cons ex_int (ea_cons ex_int ea_nil))) (by show 3 ≤ 100000; omega)) rfl) ea_nil) (by show 1 ≤ 100000; omega))) (od_cat (by rw [List.length_map]; show st.length + 1 ≤ _; omega)))) (by unfold dSs; rw [List.map_append]; rfl)) (ea_cons (ex_name 6 rfl) ea_nil)) (by show 2 ≤ 100000; omega)) rfl) (ea_cons (EX.is (d' := dT2 (st, en.drop 1)) (ex_tup (ea_cons (ex_name 5 rfl) (ea_cons (EX.is (d' := dEs (en.drop 1)) (ex_freeze (ex_slL (ex_name 6 rfl) (eo_some ex_int) eo_none)) (congrArg PyData.list (cut_from dE 1 en))) ea_nil)) (by show 2 ≤ 100000; omega)) rfl) (ea_cons (EX.is (d' := dT2 (st, en ++ [none])) (ex_tup (ea_cons (ex_name 5 rfl) (ea_cons (EX.is (d' := dEs (en ++ [none])) (ex_freeze (ex_bin (ex_name 6 rfl) (ex_freeze (ex_lst (ea_cons (EX.is (d' := dE none) ex_non rfl) ea_nil) (by show 1 ≤ 100000; omega))) (od_cat (by rw [List.length_map]; show en.length + 1 ≤ _; omega)))) (by unfold dEs; rw [List.map_append]; rfl)) ea_nil)) (by show 2 ≤ 100000; omega)) rfl) ea_nil))) (by show 3 ≤ 100000; omega))) (od_cat (by show 7 ≤ 100000; omega))) (by rw [List.map_append]; rfl))) ?m2
      refine rs_freeze 7 rfl ?_
      show RS _ _ [.scr ns, .da (.int (b : Nat)), .da (dH h), .da (dN (vo h)), .ext (OB CP (fP st en)), .da (dSs st), .da (dEs en), .da (.list (([(st, en), q0, (st.drop 1, en), ([], List.replicate h.length none)] ++ [(st ++ [(ADD, 0, 0)], en), (st, en.drop 1), (st, en ++ [none])] : List StEn).map dT2)), .un, .un, .un, .un, .un, .un] _
      refine' rs_cons (r_set 7 c_law.nd (s := .ow (([(st, en), q0, (st.drop 1, en), ([], List.replicate h.length none)] ++ [(st ++ [(ADD, 0, 0)], en), (st, en.drop 1), (st, en ++ [none])] ++ [(st.reverse, en), (st, en.reverse), (st, List.replicate h.length (some (-1)))] : List StEn).map dT2)) (EX.isS (ex_bin (ex_name 7 rfl) (ex_freeze (ex_lst (ea_cons (EX.is (d' := dT2 (st.reverse, en)) (ex_tup (ea_cons (EX.is (d' := dSs st.reverse) (ex_freeze (ex_revL (ds := st.map dS) (ex_name 5 rfl))) (by rw [← List.map_reverse]; rfl)) (ea_cons (ex_name 6 rfl) ea_nil)) (by show 2 ≤ 100000; omega)) rfl) (ea_cons (EX.is (d' := dT2 (st, en.reverse)) (ex_tup (ea_cons (ex_name 5 rfl) (ea_cons (EX.is (d' := dEs en.reverse) (ex_freeze (ex_revL (ds := en.map dE) (ex_name 6 rfl))) (by rw [← List.map_reverse]; rfl)) ea_nil)) (by show 2 ≤ 100000; omega)) rfl) (ea_cons (EX.is (d' := dT2 (st, List.replicate h.length (some (-1)))) (ex_tup (ea_cons (ex_name 5 rfl) (ea_cons (EX.is (d' := dEs (List.replicate h.length (some (-1)))) (ex_freeze (ex_bin (ex_freeze (ex_lst (ea_cons (ex_neg ex_int) ea_nil) (by show 1 ≤ 100000; omega))) (ex_callB (ea_cons (ex_name 2 rfl) ea_nil) cd_lenL zl) (od_rep (by rw [List.length_map]; omega) (by show 1 ≤ 100; omega)))) (by rw [List.length_map, Int.toNat_natCast, rep_some]; rfl)) ea_nil)) (by show 2 ≤ 100000; omega)) rfl) ea_nil))) (by show 3 ≤ 100000; omega))) (od_cat (by show 10 ≤ 100000; omega))) (by rw [List.map_append]; rfl))) ?m3
      refine rs_freeze 7 rfl ?_
      show RS _ _ [.scr ns, .da (.int (b : Nat)), .da (dH h), .da (dN (vo h)), .ext (OB CP (fP st en)), .da (dSs st), .da (dEs en), .da (.list (([(st, en), q0, (st.drop 1, en), ([], List.replicate h.length none)] ++ [(st ++ [(ADD, 0, 0)], en), (st, en.drop 1), (st, en ++ [none])] ++ [(st.reverse, en), (st, en.reverse), (st, List.replicate h.length (some (-1)))] : List StEn).map dT2)), .un, .un, .un, .un, .un, .un] _
      refine' rs_cons (r_set 7 c_law.nd (s := .ow (([(st, en), q0, (st.drop 1, en), ([], List.replicate h.length none)] ++ [(st ++ [(ADD, 0, 0)], en), (st, en.drop 1), (st, en ++ [none])] ++ [(st.reverse, en), (st, en.reverse), (st, List.replicate h.length (some (-1)))] ++ [(List.replicate st.length (ADD, -1, 0), en), (List.replicate 2 (OFF, 10 ^ 20, 0), en)] : List StEn).map dT2)) (EX.isS (ex_bin (ex_name 7 rfl) (ex_freeze (ex_lst (ea_cons (EX.is (d' := dT2 (List.replicate st.length (ADD, -1, 0), en)) (ex_tup (ea_cons (EX.is (d' := dSs (List.replicate st.length (ADD, -1, 0))) (ex_freeze (ex_bin (ex_freeze (ex_lst (ea_cons (EX.is (d' := dS (ADD, -1, 0)) (ex_tup (ea_cons ex_str (ea_cons (ex_neg ex_int) (ea_cons ex_int ea_nil))) (by show 3 ≤ 100000; omega)) rfl) ea_nil) (by show 1 ≤ 100000; omega))) (ex_callB (ea_cons (ex_name 5 rfl) ea_nil) cd_lenL zl) (od_rep (by rw [List.length_map]; omega) (by show 1 ≤ 100; omega)))) (by rw [List.length_map, Int.toNat_natCast, rep_dS]; rfl)) (ea_cons (ex_name 6 rfl) ea_nil)) (by show 2 ≤ 100000; omega)) rfl) (ea_cons (EX.is (d' := dT2 (List.replicate 2 (OFF, 10 ^ 20, 0), en)) (ex_tup (ea_cons (EX.is (d' := dSs (List.replicate 2 (OFF, 10 ^ 20, 0))) (ex_freeze (ex_bin (ex_freeze (ex_lst (ea_cons (EX.is (d' := dS (OFF, 10 ^ 20, 0)) (ex_tup (ea_cons ex_str (ea_cons (ex_bin ex_int ex_int (od_pow (by decide))) (ea_cons ex_int ea_nil))) (by show 3 ≤ 100000; omega)) rfl) ea_nil) (by show 1 ≤ 100000; omega))) ex_int (od_rep (by omega) (by show 1 ≤ 100; omega)))) (by rw [show (2 : Int).toNat = 2 from rfl, rep_dS]; rfl)) (ea_cons (ex_name 6 rfl) ea_nil)) (by show 2 ≤ 100000; omega)) rfl) ea_nil)) (by show 2 ≤ 100000; omega))) (od_cat (by show 12 ≤ 100000; omega))) (by rw [List.map_append]; rfl))) ?m4
      have hhand := hand_ok (n := h.length) (m := (vo h).length) hk0 hsl (by show en.length ≤ 7; omega) hhl hq1
      refine' rs_cons (r_append 7 rfl (d := dT2 (st, List.replicate h.length (some (((vo h).length : Int) + st.length)))) (EX.is (d' := dT2 (st, List.replicate h.length (some (((vo h).length : Int) + st.length)))) (ex_tup (ea_cons (ex_name 5 rfl) (ea_cons (EX.is (d' := dEs (List.replicate h.length (some (((vo h).length : Int) + st.length)))) (ex_freeze (ex_bin (ex_freeze (ex_lst (ea_cons (ex_bin (ex_callB (ea_cons (ex_name 3 rfl) ea_nil) cd_lenL zl) (ex_callB (ea_cons (ex_name 5 rfl) ea_nil) cd_lenL zl) od_add) ea_nil) (by show 1 ≤ 100000; omega))) (ex_callB (ea_cons (ex_name 2 rfl) ea_nil) cd_lenL zl) (od_rep (by rw [List.length_map]; omega) (by show 1 ≤ 100; omega)))) (by rw [List.length_map, List.length_map, List.length_map, Int.toNat_natCast, rep_some]; rfl)) ea_nil)) (by show 2 ≤ 100000; omega)) rfl) (by show 12 < 100000; omega)) ?m5
      refine rs_freeze 7 rfl ?_
      refine rs_pre (ρ1 := [.scr ns, .da (.int (b : Nat)), .da (dH h), .da (dN (vo h)), .ext (OB CP (fP st en)), .da (dSs st), .da (dEs en), .da (.list ((handF h.length (vo h).length st en q0).map dT2)), .un, .un, .un, .un, .un, .un]) (by
        have : ∀ (l : List StEn) (x : StEn), l.map dT2 ++ [dT2 x] = (l ++ [x]).map dT2 := fun l x => by rw [List.map_append]; rfl
        unfold handF
        rw [← this]
        exact Weak.refl _) ?_
      refine' rs_weak (ρ1 := [.scr ns, .da (.int (b : Nat)), .da (dH h), .da (dN (vo h)), .ext (OB CP (fP st en)), .da (dSs st), .da (dEs en), .da (.list ((handF h.length (vo h).length st en q0).map dT2)), .un, .un, .un, .un, .un, .un]) (by walk_at "wk") (rs_cons (r_for PassesOwn.never rfl (it_list (ex_name 7 rfl)) (for_pre (handF h.length (vo h).length st en q0) dT2 (fun _ => [.scr ns, .da (.int (b : Nat)), .da (dH h), .da (dN (vo h)), .ext (OB CP (fP st en)), .da (dSs st), .da (dEs en), .da (.list ((handF h.length (vo h).length st en q0).map dT2)), .un, .un, .un, .un, .un, .un]) (fun pre q post e => ⟨_, _, bt_tup rfl (bts_cons (bt_name 8 c_law.nd) (bts_cons (bt_name 9 c_law.nd) bts_nil)), .inl ?turn2⟩))) rs_nil)
      case turn2 =>
        obtain ⟨g1, g2, g3⟩ := hhand q (by rw [e]; simp)
        show RS _ _ [.scr ns, .da (.int (b : Nat)), .da (dH h), .da (dN (vo h)), .ext (OB CP (fP st en)), .da (dSs st), .da (dEs en), .da (.list ((handF h.length (vo h).length st en q0).map dT2)), .da (dSs q.1), .da (dEs q.2), .un, .un, .un, .un] _
        refine' rs_weak (ρ1 := [.scr ns, .da (.int (b : Nat)), .da (dH h), .da (dN (vo h)), .ext (OB CP (fP st en)), .da (dSs st), .da (dEs en), .da (.list ((handF h.length (vo h).length st en q0).map dT2)), .da (dSs q.1), .da (dEs q.2), .ow ((q.1 ++ [(ADD, 0, 0)]).map dS), .ow ((q.2 ++ [some 0]).map dE), .ext (OB CP (fP q.1 q.2)), .un]) (by walk_at "wk") ?_
        refine' rs_cons (r_par 10 11 rfl c_law.nd (s1 := .ow (q.1.map dS)) (s2 := .ow (q.2.map dE)) (ex_callTy (ea_cons (ex_name 8 rfl) ea_nil) cd_list zli) (ex_callTy (ea_cons (ex_name 9 rfl) ea_nil) cd_list zli)) ?t1
        refine' rs_cons (r_set 12 c_law.nd (ex_makeB IP (by walk_at "rm") (esb_own 10 rfl (esb_own 11 rfl esb_nil)) ⟨q.1, q.2, .ow (q.1.map dS), .ow (q.2.map dE), rfl, .inr rfl, .inr rfl, rfl⟩)) ?t2
        refine' rs_cons (r_append 10 rfl (d := dS (ADD, 0, 0)) (ex_tup (ea_cons ex_str (ea_cons ex_int (ea_cons ex_int ea_nil))) (by show 3 ≤ 100000; omega)) (by rw [List.length_map]; omega)) ?t3
        refine' rs_cons (r_append 11 rfl (d := dE (some 0)) ex_int (by rw [List.length_map]; omega)) ?t4
        refine' rs_cons (r_if (b := false) (ET.is (et_cmp (d1 := dT2 q) (d2 := dT2 q) (ex_tup (ea_cons (ex_fld (ex_nameS 12 rfl shd_ob) rfl clP p1) (ea_cons (ex_fld (ex_nameS 12 rfl shd_ob) rfl clP p2) ea_nil)) (by show 2 ≤ 100000; omega)) (ex_tup (ea_cons (ex_name 8 rfl) (ea_cons (ex_name 9 rfl) ea_nil)) (by show 2 ≤ 100000; omega)) (oc_ne hu pl_dT2 pl_dT2)) (by rw [eqv_dT2]; rfl)) (fun z => nomatch z) fun _ => rs_nil) ?t5
        refine' rs_is (rs_cons (r_if (b := false) (ET.is (et_not (et_val (ex_call CS (by walk_at "rm") (es_cons (ex_meth SP (by walk_at "rm") (ex_nameS 12 rfl shd_ob) rfl (es_cons (ex_name 2 rfl) es_nil) ⟨h, q.1, q.2, rfl, V, by omega, by omega, rfl⟩) (es_cons (ex_call CI (by walk_at "rm") (es_cons (ex_name 2 rfl) (es_cons (ex_name 8 rfl) (es_cons (ex_name 9 rfl) es_nil))) ⟨h, q.1, q.2, rfl, hhl, by omega, by omega, rfl⟩) es_nil)) ⟨_, _, rfl, rfl⟩))) (by rw [shows_isPlan V g1]; simp)) (fun z => nomatch z) fun _ => rs_nil) rs_nil) ?t6
        case t6 => rw [List.map_append, List.map_append]; rfl
    case rest =>
      have V13 : Valid LETT H13 := valid_B (by decide +kernel)
      have V0 : Valid LETT [] := valid_B (by decide +kernel)
      have V1 : Valid LETT [("a", [])] := valid_B (by decide +kernel)
      refine' rt_cons (r_set 13 c_law.nd (s := .da (dH H13)) (ex_freeze (ex_lst (ea_cons (ex_tup (ea_cons ex_str (ea_cons (ex_freeze (ex_lst ea_nil (by decide))) ea_nil)) (by show 2 ≤ 100000; omega)) (ea_cons (ex_tup (ea_cons ex_str (ea_cons (ex_freeze (ex_lst ea_nil (by decide))) ea_nil)) (by show 2 ≤ 100000; omega)) (ea_cons (ex_tup (ea_cons ex_str (ea_cons (ex_freeze (ex_lst (ea_cons ex_str (ea_cons ex_str ea_nil)) (by show 2 ≤ 100000; omega))) ea_nil)) (by show 2 ≤ 100000; omega)) (ea_cons (ex_tup (ea_cons ex_str (ea_cons (ex_freeze (ex_lst (ea_cons ex_str (ea_cons ex_str ea_nil)) (by show 2 ≤ 100000; omega))) ea_nil)) (by show 2 ≤ 100000; omega)) ea_nil)))) (by show 4 ≤ 100000; omega)))) ?v1
      show Rt _ _ [.scr ns, .un, .un, .un, .un, .un, .un, .un, .un, .un, .un, .un, .un, .da (dH H13)] _
      refine' rt_if0 (b := false) (ET.is (et_cmp (ex_meth SP (by walk_at "rm") (ex_makeB IP (by walk_at "rm") (esb_cons (ex_freeze (ex_lst (ea_cons (ex_tup (ea_cons ex_str (ea_cons ex_int (ea_cons ex_int ea_nil))) (by show 3 ≤ 100000; omega)) (ea_cons (ex_tup (ea_cons ex_str (ea_cons ex_int (ea_cons ex_int ea_nil))) (by show 3 ≤ 100000; omega)) ea_nil)) (by show 2 ≤ 100000; omega))) (esb_cons (ex_freeze (ex_lst (ea_cons ex_non (ea_cons ex_non (ea_cons ex_int (ea_cons ex_int ea_nil)))) (by show 4 ≤ 100000; omega))) esb_nil)) ⟨[(ADD, 0, 1), (ADD, 0, 1)], [none, none, some 2, some 3], .da (dSs [(ADD, 0, 1), (ADD, 0, 1)]), .da (dEs [none, none, some 2, some 3]), rfl, .inl rfl, .inl rfl, rfl⟩) rfl (es_cons (ex_name 13 rfl) es_nil) ⟨H13, [(ADD, 0, 1), (ADD, 0, 1)], [none, none, some 2, some 3], rfl, V13, by decide, by decide, rfl⟩) ex_bl oc_notB) ?q1) (fun z => nomatch z) fun _ => ?v2
      case q1 => kernel_rfl
      refine' rt_if0 (b := false) (ET.is (et_cmp (ex_meth SP (by walk_at "rm") (ex_makeB IP (by walk_at "rm") (esb_cons (ex_freeze (ex_lst (ea_cons (ex_tup (ea_cons ex_str (ea_cons ex_int (ea_cons ex_int ea_nil))) (by show 3 ≤ 100000; omega)) ea_nil) (by show 1 ≤ 100000; omega))) (esb_cons (ex_freeze (ex_lst (ea_cons ex_non (ea_cons ex_non (ea_cons ex_int (ea_cons ex_int ea_nil)))) (by show 4 ≤ 100000; omega))) esb_nil)) ⟨[(ADD, 0, 1)], [none, none, some 2, some 2], .da (dSs [(ADD, 0, 1)]), .da (dEs [none, none, some 2, some 2]), rfl, .inl rfl, .inl rfl, rfl⟩) rfl (es_cons (ex_name 13 rfl) es_nil) ⟨H13, [(ADD, 0, 1)], [none, none, some 2, some 2], rfl, V13, by decide, by decide, rfl⟩) ex_bl oc_notB) ?q2) (fun z => nomatch z) fun _ => ?v3
      case q2 => kernel_rfl
      refine' rt_ret (r_return (EX.is (ex_and (t := true) (EX.is (ex_cmp (ex_meth SP (by walk_at "rm") (ex_makeB IP (by walk_at "rm") (esb_cons (ex_freeze (ex_lst ea_nil (by decide))) (esb_cons (ex_freeze (ex_lst ea_nil (by decide))) esb_nil)) ⟨[], [], .da (dSs []), .da (dEs []), rfl, .inl rfl, .inl rfl, rfl⟩) rfl (es_cons (ex_freeze (ex_lst ea_nil (by decide))) es_nil) ⟨[], [], [], rfl, V0, by decide, by decide, rfl⟩) ex_bl oc_isB) ?q3) fun _ => ex_one (ex_cmp (ex_meth SP (by walk_at "rm") (ex_makeB IP (by walk_at "rm") (esb_cons (ex_freeze (ex_lst ea_nil (by decide))) (esb_cons (ex_freeze (ex_lst (ea_cons ex_int ea_nil) (by show 1 ≤ 100000; omega))) esb_nil)) ⟨[], [some 0], .da (dSs []), .da (dEs [some 0]), rfl, .inl rfl, .inl rfl, rfl⟩) rfl (es_cons (ex_freeze (ex_lst (ea_cons (ex_tup (ea_cons ex_str (ea_cons (ex_freeze (ex_lst ea_nil (by decide))) ea_nil)) (by show 2 ≤ 100000; omega)) ea_nil) (by show 1 ≤ 100000; omega))) es_nil) ⟨[("a", [])], [], [some 0], rfl, V1, by decide, by decide, rfl⟩) ex_bl oc_isB)) ?q4))
      case q3 => kernel_rfl
      case q4 => kernel_rfl
end
end My

set_option Elab.async false
set_option linter.all false
set_option maxRecDepth 100000
set_option maxHeartbeats 4000000
namespace My
open PySem PySem.Spec PyProof.Rows L2 Mx
theorem all_mk {l : PySem.W.OpenLaw} {w : World} {K : PySem.W.Frag} {h : Heap} {mg : Str → Option Value} {fa : Addr} (X : K.In h) (G : h.Ns mainGlobals mg) (hfa : mg "law" = some (.ref fa))
    {tMOST : Tok}
    {tLETTERS : Tok}
    {APlan : Addr}
    {f1 : Addr} {od1 an1 : Option Addr} {sl1 : Array (Option Value)} {oc1 kV1 dc1 pm1 cd1 ct1 : Value}
    {f2 : Addr} {od2 an2 : Option Addr} {sl2 : Array (Option Value)} {oc2 kV2 dc2 pm2 cd2 ct2 : Value}
    {f3 : Addr} {od3 an3 : Option Addr} {sl3 : Array (Option Value)} {oc3 kV3 dc3 pm3 cd3 ct3 : Value}
    {f4 : Addr} {od4 an4 : Option Addr} {sl4 : Array (Option Value)} {oc4 kV4 dc4 pm4 cd4 ct4 : Value}
    {f5 : Addr} {od5 an5 : Option Addr} {sl5 : Array (Option Value)} {oc5 kV5 dc5 pm5 cd5 ct5 : Value}
    {f6 : Addr} {od6 an6 : Option Addr} {sl6 : Array (Option Value)} {oc6 kV6 dc6 pm6 cd6 ct6 : Value}
    {f7 : Addr} {od7 an7 : Option Addr} {sl7 : Array (Option Value)} {oc7 kV7 dc7 pm7 cd7 ct7 : Value}
    {f8 : Addr} {od8 an8 : Option Addr} {sl8 : Array (Option Value)} {oc8 kV8 dc8 pm8 cd8 ct8 : Value}
    {f9 : Addr} {od9 an9 : Option Addr} {sl9 : Array (Option Value)} {oc9 kV9 dc9 pm9 cd9 ct9 : Value}
    {f10 : Addr} {od10 an10 : Option Addr} {sl10 : Array (Option Value)} {oc10 kV10 dc10 pm10 cd10 ct10 : Value}
    {f11 : Addr} {od11 an11 : Option Addr} {sl11 : Array (Option Value)} {oc11 kV11 dc11 pm11 cd11 ct11 : Value}
    {f12 : Addr} {od12 an12 : Option Addr} {sl12 : Array (Option Value)} {oc12 kV12 dc12 pm12 cd12 ct12 : Value}
    {f13 : Addr} {od13 an13 : Option Addr} {sl13 : Array (Option Value)} {oc13 kV13 dc13 pm13 cd13 ct13 : Value}
    {f14 : Addr} {od14 an14 : Option Addr} {sl14 : Array (Option Value)} {oc14 kV14 dc14 pm14 cd14 ct14 : Value}
    {f15 : Addr} {od15 an15 : Option Addr} {sl15 : Array (Option Value)} {oc15 kV15 dc15 pm15 cd15 ct15 : Value}
    {f16 : Addr} {od16 an16 : Option Addr} {sl16 : Array (Option Value)} {oc16 kV16 dc16 pm16 cd16 ct16 : Value}
    {f17 : Addr} {od17 an17 : Option Addr} {sl17 : Array (Option Value)} {oc17 kV17 dc17 pm17 cd17 ct17 : Value}
    {f18 : Addr} {od18 an18 : Option Addr} {sl18 : Array (Option Value)} {oc18 kV18 dc18 pm18 cd18 ct18 : Value}
    {f19 : Addr} {od19 an19 : Option Addr} {sl19 : Array (Option Value)} {oc19 kV19 dc19 pm19 cd19 ct19 : Value}
    {f20 : Addr} {od20 an20 : Option Addr} {sl20 : Array (Option Value)} {oc20 kV20 dc20 pm20 cd20 ct20 : Value}
    {f21 : Addr} {od21 an21 : Option Addr} {sl21 : Array (Option Value)} {oc21 kV21 dc21 pm21 cd21 ct21 : Value}
    {f22 : Addr} {od22 an22 : Option Addr} {sl22 : Array (Option Value)} {oc22 kV22 dc22 pm22 cd22 ct22 : Value}
    {f23 : Addr} {od23 an23 : Option Addr} {sl23 : Array (Option Value)} {oc23 kV23 dc23 pm23 cd23 ct23 : Value}
    {f24 : Addr} {od24 an24 : Option Addr} {sl24 : Array (Option Value)} {oc24 kV24 dc24 pm24 cd24 ct24 : Value}
    {f25 : Addr} {od25 an25 : Option Addr} {sl25 : Array (Option Value)} {oc25 kV25 dc25 pm25 cd25 ct25 : Value}
    {f26 : Addr} {od26 an26 : Option Addr} {sl26 : Array (Option Value)} {oc26 kV26 dc26 pm26 cd26 ct26 : Value}
    {f27 : Addr} {od27 an27 : Option Addr} {sl27 : Array (Option Value)} {oc27 kV27 dc27 pm27 cd27 ct27 : Value}
    {f28 : Addr} {od28 an28 : Option Addr} {sl28 : Array (Option Value)} {oc28 kV28 dc28 pm28 cd28 ct28 : Value}
    {f29 : Addr} {od29 an29 : Option Addr} {sl29 : Array (Option Value)} {oc29 kV29 dc29 pm29 cd29 ct29 : Value}
    {f30 : Addr} {od30 an30 : Option Addr} {sl30 : Array (Option Value)} {oc30 kV30 dc30 pm30 cd30 ct30 : Value}
    {f31 : Addr} {od31 an31 : Option Addr} {sl31 : Array (Option Value)} {oc31 kV31 dc31 pm31 cd31 ct31 : Value}
    {f32 : Addr} {od32 an32 : Option Addr} {sl32 : Array (Option Value)} {oc32 kV32 dc32 pm32 cd32 ct32 : Value}
    {f33 : Addr} {od33 an33 : Option Addr} {sl33 : Array (Option Value)} {oc33 kV33 dc33 pm33 cd33 ct33 : Value}
    (ylen : PySem.W.nsIn K mainGlobals "len" = some none)
    (yrange : PySem.W.nsIn K mainGlobals "range" = some none)
    (yenumerate : PySem.W.nsIn K mainGlobals "enumerate" = some none)
    (ysorted : PySem.W.nsIn K mainGlobals "sorted" = some none)
    (yisinstance : PySem.W.nsIn K mainGlobals "isinstance" = some none)
    (ybool : PySem.W.nsIn K mainGlobals "bool" = some none)
    (ystr : PySem.W.nsIn K mainGlobals "str" = some none)
    (yint : PySem.W.nsIn K mainGlobals "int" = some none)
    (ylist : PySem.W.nsIn K mainGlobals "list" = some none)
    (ytuple : PySem.W.nsIn K mainGlobals "tuple" = some none)
    (yall : PySem.W.nsIn K mainGlobals "all" = some none)
    (yany : PySem.W.nsIn K mainGlobals "any" = some none)
    (yzip : PySem.W.nsIn K mainGlobals "zip" = some none)
    (ydict : PySem.W.nsIn K mainGlobals "dict" = some none)
    (ysum : PySem.W.nsIn K mainGlobals "sum" = some none)
    (ymin : PySem.W.nsIn K mainGlobals "min" = some none)
    (ymax : PySem.W.nsIn K mainGlobals "max" = some none)
    (yMOST : PySem.W.nsIn K mainGlobals "MOST" = some (some (.int 7 tMOST)))
    (yLETTERS : PySem.W.nsIn K mainGlobals "LETTERS" = some (some (.str LETT tLETTERS)))
    (aPlan : PySem.W.nsIn K mainGlobals "Plan" = some (some (.ref APlan)))
    (pgPlan : PySem.W.plainGet K APlan Str.empty = true)
    (hdPlan : PySem.W.hasDictIn K APlan = true)
    (poPlan : PySem.W.plainOver K APlan = true)
    (saPlan : PySem.W.findIn K (.ref APlan) "__setattr__" = some (some (.builtin "object.__setattr__")))
    (mkPlan : PySem.W.makesIn K APlan = true)
    (kcPlan : PySem.W.keepIn K (.ref APlan) = true)
    (nPlan_steps : PySem.W.findIn K (.ref APlan) "steps" = some none)
    (nPlan_ends : PySem.W.findIn K (.ref APlan) "ends" = some none)
    (a1 : PySem.W.findIn K (.ref APlan) "__init__" = some (some (.ref f1)))
    (i1 : PySem.W.isFn K (.ref f1) = true)
    (l1 : K.lookup f1 = some ⟨oc1, od1, .func (PySem.W.fnOf "__init__" "Plan.__init__" (defArgs s_Plan_init) (defBody s_Plan_init) (defScope s_Plan_init) .none kV1 dc1 pm1 an1 cd1 ct1), sl1⟩)
    (c1 : PySem.W.codeIn K cd1 "Plan.__init__" = true)
    (k1 : PySem.W.keepIn K (.ref f1) = true)
    (a2 : PySem.W.findIn K (.ref APlan) "shows" = some (some (.ref f2)))
    (i2 : PySem.W.isFn K (.ref f2) = true)
    (l2 : K.lookup f2 = some ⟨oc2, od2, .func (PySem.W.fnOf "shows" "Plan.shows" (defArgs s_Plan_shows) (defBody s_Plan_shows) (defScope s_Plan_shows) .none kV2 dc2 pm2 an2 cd2 ct2), sl2⟩)
    (c2 : PySem.W.codeIn K cd2 "Plan.shows" = true)
    (k2 : PySem.W.keepIn K (.ref f2) = true)
    (a3 : PySem.W.nsIn K mainGlobals "is_name" = some (some (.ref f3)))
    (l3 : K.lookup f3 = some ⟨oc3, od3, .func (PySem.W.fnOf "is_name" "is_name" (defArgs s_is_name) (defBody s_is_name) (defScope s_is_name) .none kV3 dc3 pm3 an3 cd3 ct3), sl3⟩)
    (c3 : PySem.W.codeIn K cd3 "is_name" = true)
    (k3 : PySem.W.keepIn K (.ref f3) = true)
    (a4 : PySem.W.nsIn K mainGlobals "is_rising" = some (some (.ref f4)))
    (l4 : K.lookup f4 = some ⟨oc4, od4, .func (PySem.W.fnOf "is_rising" "is_rising" (defArgs s_is_rising) (defBody s_is_rising) (defScope s_is_rising) .none kV4 dc4 pm4 an4 cd4 ct4), sl4⟩)
    (c4 : PySem.W.codeIn K cd4 "is_rising" = true)
    (k4 : PySem.W.keepIn K (.ref f4) = true)
    (a5 : PySem.W.nsIn K mainGlobals "is_pair" = some (some (.ref f5)))
    (l5 : K.lookup f5 = some ⟨oc5, od5, .func (PySem.W.fnOf "is_pair" "is_pair" (defArgs s_is_pair) (defBody s_is_pair) (defScope s_is_pair) .none kV5 dc5 pm5 an5 cd5 ct5), sl5⟩)
    (c5 : PySem.W.codeIn K cd5 "is_pair" = true)
    (k5 : PySem.W.keepIn K (.ref f5) = true)
    (a6 : PySem.W.nsIn K mainGlobals "is_hearing" = some (some (.ref f6)))
    (l6 : K.lookup f6 = some ⟨oc6, od6, .func (PySem.W.fnOf "is_hearing" "is_hearing" (defArgs s_is_hearing) (defBody s_is_hearing) (defScope s_is_hearing) .none kV6 dc6 pm6 an6 cd6 ct6), sl6⟩)
    (c6 : PySem.W.codeIn K cd6 "is_hearing" = true)
    (k6 : PySem.W.keepIn K (.ref f6) = true)
    (a7 : PySem.W.nsIn K mainGlobals "check_hearing" = some (some (.ref f7)))
    (l7 : K.lookup f7 = some ⟨oc7, od7, .func (PySem.W.fnOf "check_hearing" "check_hearing" (defArgs s_check_hearing) (defBody s_check_hearing) (defScope s_check_hearing) .none kV7 dc7 pm7 an7 cd7 ct7), sl7⟩)
    (c7 : PySem.W.codeIn K cd7 "check_hearing" = true)
    (k7 : PySem.W.keepIn K (.ref f7) = true)
    (a8 : PySem.W.nsIn K mainGlobals "heard_by" = some (some (.ref f8)))
    (l8 : K.lookup f8 = some ⟨oc8, od8, .func (PySem.W.fnOf "heard_by" "heard_by" (defArgs s_heard_by) (defBody s_heard_by) (defScope s_heard_by) .none kV8 dc8 pm8 an8 cd8 ct8), sl8⟩)
    (c8 : PySem.W.codeIn K cd8 "heard_by" = true)
    (k8 : PySem.W.keepIn K (.ref f8) = true)
    (a9 : PySem.W.nsIn K mainGlobals "voices_of" = some (some (.ref f9)))
    (l9 : K.lookup f9 = some ⟨oc9, od9, .func (PySem.W.fnOf "voices_of" "voices_of" (defArgs s_voices_of) (defBody s_voices_of) (defScope s_voices_of) .none kV9 dc9 pm9 an9 cd9 ct9), sl9⟩)
    (c9 : PySem.W.codeIn K cd9 "voices_of" = true)
    (k9 : PySem.W.keepIn K (.ref f9) = true)
    (a10 : PySem.W.nsIn K mainGlobals "values_of" = some (some (.ref f10)))
    (l10 : K.lookup f10 = some ⟨oc10, od10, .func (PySem.W.fnOf "values_of" "values_of" (defArgs s_values_of) (defBody s_values_of) (defScope s_values_of) .none kV10 dc10 pm10 an10 cd10 ct10), sl10⟩)
    (c10 : PySem.W.codeIn K cd10 "values_of" = true)
    (k10 : PySem.W.keepIn K (.ref f10) = true)
    (a11 : PySem.W.nsIn K mainGlobals "due_of" = some (some (.ref f11)))
    (l11 : K.lookup f11 = some ⟨oc11, od11, .func (PySem.W.fnOf "due_of" "due_of" (defArgs s_due_of) (defBody s_due_of) (defScope s_due_of) .none kV11 dc11 pm11 an11 cd11 ct11), sl11⟩)
    (c11 : PySem.W.codeIn K cd11 "due_of" = true)
    (k11 : PySem.W.keepIn K (.ref f11) = true)
    (a12 : PySem.W.nsIn K mainGlobals "told_of" = some (some (.ref f12)))
    (l12 : K.lookup f12 = some ⟨oc12, od12, .func (PySem.W.fnOf "told_of" "told_of" (defArgs s_told_of) (defBody s_told_of) (defScope s_told_of) .none kV12 dc12 pm12 an12 cd12 ct12), sl12⟩)
    (c12 : PySem.W.codeIn K cd12 "told_of" = true)
    (k12 : PySem.W.keepIn K (.ref f12) = true)
    (a13 : PySem.W.nsIn K mainGlobals "wrong_of" = some (some (.ref f13)))
    (l13 : K.lookup f13 = some ⟨oc13, od13, .func (PySem.W.fnOf "wrong_of" "wrong_of" (defArgs s_wrong_of) (defBody s_wrong_of) (defScope s_wrong_of) .none kV13 dc13 pm13 an13 cd13 ct13), sl13⟩)
    (c13 : PySem.W.codeIn K cd13 "wrong_of" = true)
    (k13 : PySem.W.keepIn K (.ref f13) = true)
    (a14 : PySem.W.nsIn K mainGlobals "unlike_of" = some (some (.ref f14)))
    (l14 : K.lookup f14 = some ⟨oc14, od14, .func (PySem.W.fnOf "unlike_of" "unlike_of" (defArgs s_unlike_of) (defBody s_unlike_of) (defScope s_unlike_of) .none kV14 dc14 pm14 an14 cd14 ct14), sl14⟩)
    (c14 : PySem.W.codeIn K cd14 "unlike_of" = true)
    (k14 : PySem.W.keepIn K (.ref f14) = true)
    (a15 : PySem.W.nsIn K mainGlobals "ways_of" = some (some (.ref f15)))
    (l15 : K.lookup f15 = some ⟨oc15, od15, .func (PySem.W.fnOf "ways_of" "ways_of" (defArgs s_ways_of) (defBody s_ways_of) (defScope s_ways_of) .none kV15 dc15 pm15 an15 cd15 ct15), sl15⟩)
    (c15 : PySem.W.codeIn K cd15 "ways_of" = true)
    (k15 : PySem.W.keepIn K (.ref f15) = true)
    (a16 : PySem.W.nsIn K mainGlobals "added" = some (some (.ref f16)))
    (l16 : K.lookup f16 = some ⟨oc16, od16, .func (PySem.W.fnOf "added" "added" (defArgs s_added) (defBody s_added) (defScope s_added) .none kV16 dc16 pm16 an16 cd16 ct16), sl16⟩)
    (c16 : PySem.W.codeIn K cd16 "added" = true)
    (k16 : PySem.W.keepIn K (.ref f16) = true)
    (a17 : PySem.W.nsIn K mainGlobals "plan" = some (some (.ref f17)))
    (l17 : K.lookup f17 = some ⟨oc17, od17, .func (PySem.W.fnOf "plan" "plan" (defArgs s_plan) (defBody s_plan) (defScope s_plan) .none kV17 dc17 pm17 an17 cd17 ct17), sl17⟩)
    (c17 : PySem.W.codeIn K cd17 "plan" = true)
    (k17 : PySem.W.keepIn K (.ref f17) = true)
    (a18 : PySem.W.nsIn K mainGlobals "_law_cell_at" = some (some (.ref f18)))
    (l18 : K.lookup f18 = some ⟨oc18, od18, .func (PySem.W.fnOf "_law_cell_at" "_law_cell_at" (defArgs s__law_cell_at) (defBody s__law_cell_at) (defScope s__law_cell_at) .none kV18 dc18 pm18 an18 cd18 ct18), sl18⟩)
    (c18 : PySem.W.codeIn K cd18 "_law_cell_at" = true)
    (k18 : PySem.W.keepIn K (.ref f18) = true)
    (a19 : PySem.W.nsIn K mainGlobals "_law_draw" = some (some (.ref f19)))
    (l19 : K.lookup f19 = some ⟨oc19, od19, .func (PySem.W.fnOf "_law_draw" "_law_draw" (defArgs s__law_draw) (defBody s__law_draw) (defScope s__law_draw) .none kV19 dc19 pm19 an19 cd19 ct19), sl19⟩)
    (c19 : PySem.W.codeIn K cd19 "_law_draw" = true)
    (k19 : PySem.W.keepIn K (.ref f19) = true)
    (a20 : PySem.W.nsIn K mainGlobals "_law_number" = some (some (.ref f20)))
    (l20 : K.lookup f20 = some ⟨oc20, od20, .func (PySem.W.fnOf "_law_number" "_law_number" (defArgs s__law_number) (defBody s__law_number) (defScope s__law_number) .none kV20 dc20 pm20 an20 cd20 ct20), sl20⟩)
    (c20 : PySem.W.codeIn K cd20 "_law_number" = true)
    (k20 : PySem.W.keepIn K (.ref f20) = true)
    (a21 : PySem.W.nsIn K mainGlobals "_law_names" = some (some (.ref f21)))
    (l21 : K.lookup f21 = some ⟨oc21, od21, .func (PySem.W.fnOf "_law_names" "_law_names" (defArgs s__law_names) (defBody s__law_names) (defScope s__law_names) .none kV21 dc21 pm21 an21 cd21 ct21), sl21⟩)
    (c21 : PySem.W.codeIn K cd21 "_law_names" = true)
    (k21 : PySem.W.keepIn K (.ref f21) = true)
    (a22 : PySem.W.nsIn K mainGlobals "_law_drawn" = some (some (.ref f22)))
    (l22 : K.lookup f22 = some ⟨oc22, od22, .func (PySem.W.fnOf "_law_drawn" "_law_drawn" (defArgs s__law_drawn) (defBody s__law_drawn) (defScope s__law_drawn) .none kV22 dc22 pm22 an22 cd22 ct22), sl22⟩)
    (c22 : PySem.W.codeIn K cd22 "_law_drawn" = true)
    (k22 : PySem.W.keepIn K (.ref f22) = true)
    (a23 : PySem.W.nsIn K mainGlobals "_law_voices" = some (some (.ref f23)))
    (l23 : K.lookup f23 = some ⟨oc23, od23, .func (PySem.W.fnOf "_law_voices" "_law_voices" (defArgs s__law_voices) (defBody s__law_voices) (defScope s__law_voices) .none kV23 dc23 pm23 an23 cd23 ct23), sl23⟩)
    (c23 : PySem.W.codeIn K cd23 "_law_voices" = true)
    (k23 : PySem.W.keepIn K (.ref f23) = true)
    (a24 : PySem.W.nsIn K mainGlobals "_law_counts" = some (some (.ref f24)))
    (l24 : K.lookup f24 = some ⟨oc24, od24, .func (PySem.W.fnOf "_law_counts" "_law_counts" (defArgs s__law_counts) (defBody s__law_counts) (defScope s__law_counts) .none kV24 dc24 pm24 an24 cd24 ct24), sl24⟩)
    (c24 : PySem.W.codeIn K cd24 "_law_counts" = true)
    (k24 : PySem.W.keepIn K (.ref f24) = true)
    (a25 : PySem.W.nsIn K mainGlobals "_law_right_plan" = some (some (.ref f25)))
    (l25 : K.lookup f25 = some ⟨oc25, od25, .func (PySem.W.fnOf "_law_right_plan" "_law_right_plan" (defArgs s__law_right_plan) (defBody s__law_right_plan) (defScope s__law_right_plan) .none kV25 dc25 pm25 an25 cd25 ct25), sl25⟩)
    (c25 : PySem.W.codeIn K cd25 "_law_right_plan" = true)
    (k25 : PySem.W.keepIn K (.ref f25) = true)
    (a26 : PySem.W.nsIn K mainGlobals "are_steps" = some (some (.ref f26)))
    (l26 : K.lookup f26 = some ⟨oc26, od26, .func (PySem.W.fnOf "are_steps" "are_steps" (defArgs s_are_steps) (defBody s_are_steps) (defScope s_are_steps) .none kV26 dc26 pm26 an26 cd26 ct26), sl26⟩)
    (c26 : PySem.W.codeIn K cd26 "are_steps" = true)
    (k26 : PySem.W.keepIn K (.ref f26) = true)
    (a27 : PySem.W.nsIn K mainGlobals "are_ends" = some (some (.ref f27)))
    (l27 : K.lookup f27 = some ⟨oc27, od27, .func (PySem.W.fnOf "are_ends" "are_ends" (defArgs s_are_ends) (defBody s_are_ends) (defScope s_are_ends) .none kV27 dc27 pm27 an27 cd27 ct27), sl27⟩)
    (c27 : PySem.W.codeIn K cd27 "are_ends" = true)
    (k27 : PySem.W.keepIn K (.ref f27) = true)
    (a28 : PySem.W.nsIn K mainGlobals "few_of" = some (some (.ref f28)))
    (l28 : K.lookup f28 = some ⟨oc28, od28, .func (PySem.W.fnOf "few_of" "few_of" (defArgs s_few_of) (defBody s_few_of) (defScope s_few_of) .none kV28 dc28 pm28 an28 cd28 ct28), sl28⟩)
    (c28 : PySem.W.codeIn K cd28 "few_of" = true)
    (k28 : PySem.W.keepIn K (.ref f28) = true)
    (a29 : PySem.W.nsIn K mainGlobals "_law_few" = some (some (.ref f29)))
    (l29 : K.lookup f29 = some ⟨oc29, od29, .func (PySem.W.fnOf "_law_few" "_law_few" (defArgs s__law_few) (defBody s__law_few) (defScope s__law_few) .none kV29 dc29 pm29 an29 cd29 ct29), sl29⟩)
    (c29 : PySem.W.codeIn K cd29 "_law_few" = true)
    (k29 : PySem.W.keepIn K (.ref f29) = true)
    (a30 : PySem.W.nsIn K mainGlobals "_law_says" = some (some (.ref f30)))
    (l30 : K.lookup f30 = some ⟨oc30, od30, .func (PySem.W.fnOf "_law_says" "_law_says" (defArgs s__law_says) (defBody s__law_says) (defScope s__law_says) .none kV30 dc30 pm30 an30 cd30 ct30), sl30⟩)
    (c30 : PySem.W.codeIn K cd30 "_law_says" = true)
    (k30 : PySem.W.keepIn K (.ref f30) = true)
    (a31 : PySem.W.nsIn K mainGlobals "_law_is_plan" = some (some (.ref f31)))
    (l31 : K.lookup f31 = some ⟨oc31, od31, .func (PySem.W.fnOf "_law_is_plan" "_law_is_plan" (defArgs s__law_is_plan) (defBody s__law_is_plan) (defScope s__law_is_plan) .none kV31 dc31 pm31 an31 cd31 ct31), sl31⟩)
    (c31 : PySem.W.codeIn K cd31 "_law_is_plan" = true)
    (k31 : PySem.W.keepIn K (.ref f31) = true)
    (a32 : PySem.W.nsIn K mainGlobals "_law_each" = some (some (.ref f32)))
    (l32 : K.lookup f32 = some ⟨oc32, od32, .func (PySem.W.fnOf "_law_each" "_law_each" (defArgs s__law_each) (defBody s__law_each) (defScope s__law_each) .none kV32 dc32 pm32 an32 cd32 ct32), sl32⟩)
    (c32 : PySem.W.codeIn K cd32 "_law_each" = true)
    (k32 : PySem.W.keepIn K (.ref f32) = true)
    (a33 : PySem.W.nsIn K mainGlobals "law" = some (some (.ref f33)))
    (l33 : K.lookup f33 = some ⟨oc33, od33, .func (PySem.W.fnOf "law" "law" (defArgs s_law) (defBody s_law) (defScope s_law) .none kV33 dc33 pm33 an33 cd33 ct33), sl33⟩)
    (c33 : PySem.W.codeIn K cd33 "law" = true)
    (k33 : PySem.W.keepIn K (.ref f33) = true)
    : ∃ fd : FuncData, (∀ (s : Shared) (v : Value), BindsTo s fd ⟨[v], []⟩ [("_law_script", v)]) ∧ ∀ base : Heap, K.In base → base.Ns mainGlobals mg → FnOk l.prog w K mg base CX0 6 fa fd ["_law_script"] (spP K R_law) := by
  have e := hfa.symm.trans (PySem.W.mg_of X G a33)
  cases e
  have zlen : mg "len" = none := PySem.W.mg_none_of X G ylen
  have zrange : mg "range" = none := PySem.W.mg_none_of X G yrange
  have zenumerate : mg "enumerate" = none := PySem.W.mg_none_of X G yenumerate
  have zsorted : mg "sorted" = none := PySem.W.mg_none_of X G ysorted
  have zisinstance : mg "isinstance" = none := PySem.W.mg_none_of X G yisinstance
  have zbool : mg "bool" = none := PySem.W.mg_none_of X G ybool
  have zstr : mg "str" = none := PySem.W.mg_none_of X G ystr
  have zint : mg "int" = none := PySem.W.mg_none_of X G yint
  have zlist : mg "list" = none := PySem.W.mg_none_of X G ylist
  have ztuple : mg "tuple" = none := PySem.W.mg_none_of X G ytuple
  have zall : mg "all" = none := PySem.W.mg_none_of X G yall
  have zany : mg "any" = none := PySem.W.mg_none_of X G yany
  have zzip : mg "zip" = none := PySem.W.mg_none_of X G yzip
  have zdict : mg "dict" = none := PySem.W.mg_none_of X G ydict
  have zsum : mg "sum" = none := PySem.W.mg_none_of X G ysum
  have zmin : mg "min" = none := PySem.W.mg_none_of X G ymin
  have zmax : mg "max" = none := PySem.W.mg_none_of X G ymax
  have gMOST : mg "MOST" = some (.int 7 tMOST) := PySem.W.mg_of X G yMOST
  have gLETTERS : mg "LETTERS" = some (.str LETT tLETTERS) := PySem.W.mg_of X G yLETTERS
  have clPlan : Cls K APlan := ⟨pgPlan, hdPlan, poPlan, saPlan⟩
  have mPlan : mg "Plan" = some (.ref APlan) := PySem.W.mg_of X G aPlan
  have F1 := fun_mk (st := s_Plan_init) l1 c1 k1
  have b1 := F1.binds (ps := ["self", "steps", "ends"]) fun _ _ _ _ _ _ us hl => match us, hl with | [_, _, _], _ => rfl
  have F2 := fun_mk (st := s_Plan_shows) l2 c2 k2
  have b2 := F2.binds (ps := ["self", "hearing"]) fun _ _ _ _ _ _ us hl => match us, hl with | [_, _], _ => rfl
  have F3 := fun_mk (st := s_is_name) l3 c3 k3
  have b3 := F3.binds (ps := ["thing"]) fun _ _ _ _ _ _ us hl => match us, hl with | [_], _ => rfl
  have F4 := fun_mk (st := s_is_rising) l4 c4 k4
  have b4 := F4.binds (ps := ["line"]) fun _ _ _ _ _ _ us hl => match us, hl with | [_], _ => rfl
  have F5 := fun_mk (st := s_is_pair) l5 c5 k5
  have b5 := F5.binds (ps := ["thing"]) fun _ _ _ _ _ _ us hl => match us, hl with | [_], _ => rfl
  have F6 := fun_mk (st := s_is_hearing) l6 c6 k6
  have b6 := F6.binds (ps := ["thing"]) fun _ _ _ _ _ _ us hl => match us, hl with | [_], _ => rfl
  have F7 := fun_mk (st := s_check_hearing) l7 c7 k7
  have b7 := F7.binds (ps := ["hearing"]) fun _ _ _ _ _ _ us hl => match us, hl with | [_], _ => rfl
  have F8 := fun_mk (st := s_heard_by) l8 c8 k8
  have b8 := F8.binds (ps := ["hearing", "name"]) fun _ _ _ _ _ _ us hl => match us, hl with | [_, _], _ => rfl
  have F9 := fun_mk (st := s_voices_of) l9 c9 k9
  have b9 := F9.binds (ps := ["hearing"]) fun _ _ _ _ _ _ us hl => match us, hl with | [_], _ => rfl
  have F10 := fun_mk (st := s_values_of) l10 c10 k10
  have b10 := F10.binds (ps := ["many", "steps", "spoken"]) fun _ _ _ _ _ _ us hl => match us, hl with | [_, _, _], _ => rfl
  have F11 := fun_mk (st := s_due_of) l11 c11 k11
  have b11 := F11.binds (ps := ["hearing", "name", "spoken"]) fun _ _ _ _ _ _ us hl => match us, hl with | [_, _, _], _ => rfl
  have F12 := fun_mk (st := s_told_of) l12 c12 k12
  have b12 := F12.binds (ps := ["hearing", "steps", "ends", "name", "spoken"]) fun _ _ _ _ _ _ us hl => match us, hl with | [_, _, _, _, _], _ => rfl
  have F13 := fun_mk (st := s_wrong_of) l13 c13 k13
  have b13 := F13.binds (ps := ["hearing", "steps", "ends"]) fun _ _ _ _ _ _ us hl => match us, hl with | [_, _, _], _ => rfl
  have F14 := fun_mk (st := s_unlike_of) l14 c14 k14
  have b14 := F14.binds (ps := ["hearing"]) fun _ _ _ _ _ _ us hl => match us, hl with | [_], _ => rfl
  have F15 := fun_mk (st := s_ways_of) l15 c15 k15
  have b15 := F15.binds (ps := ["hearing"]) fun _ _ _ _ _ _ us hl => match us, hl with | [_], _ => rfl
  have F16 := fun_mk (st := s_added) l16 c16 k16
  have b16 := F16.binds (ps := ["steps", "many", "places"]) fun _ _ _ _ _ _ us hl => match us, hl with | [_, _, _], _ => rfl
  have F17 := fun_mk (st := s_plan) l17 c17 k17
  have b17 := F17.binds (ps := ["hearing"]) fun _ _ _ _ _ _ us hl => match us, hl with | [_], _ => rfl
  have F18 := fun_mk (st := s__law_cell_at) l18 c18 k18
  have b18 := F18.binds (ps := ["_law_script", "_law_k"]) fun _ _ _ _ _ _ us hl => match us, hl with | [_, _], _ => rfl
  have F19 := fun_mk (st := s__law_draw) l19 c19 k19
  have b19 := F19.binds (ps := ["_law_cell", "_law_k", "_law_most"]) fun _ _ _ _ _ _ us hl => match us, hl with | [_, _, _], _ => rfl
  have F20 := fun_mk (st := s__law_number) l20 c20 k20
  have b20 := F20.binds (ps := ["_law_cell", "_law_k", "_law_limit"]) fun _ _ _ _ _ _ us hl => match us, hl with | [_, _, _], _ => rfl
  have F21 := fun_mk (st := s__law_names) l21 c21 k21
  have b21 := F21.binds (ps := ["_law_script", "_law_by", "_law_many"]) fun _ _ _ _ _ _ us hl => match us, hl with | [_, _, _], _ => rfl
  have F22 := fun_mk (st := s__law_drawn) l22 c22 k22
  have b22 := F22.binds (ps := ["_law_script", "_law_by"]) fun _ _ _ _ _ _ us hl => match us, hl with | [_, _], _ => rfl
  have F23 := fun_mk (st := s__law_voices) l23 c23 k23
  have b23 := F23.binds (ps := ["_law_hearing"]) fun _ _ _ _ _ _ us hl => match us, hl with | [_], _ => rfl
  have F24 := fun_mk (st := s__law_counts) l24 c24 k24
  have b24 := F24.binds (ps := ["_law_many", "_law_steps"]) fun _ _ _ _ _ _ us hl => match us, hl with | [_, _], _ => rfl
  have F25 := fun_mk (st := s__law_right_plan) l25 c25 k25
  have b25 := F25.binds (ps := ["_law_hearing", "_law_steps", "_law_ends"]) fun _ _ _ _ _ _ us hl => match us, hl with | [_, _, _], _ => rfl
  have F26 := fun_mk (st := s_are_steps) l26 c26 k26
  have b26 := F26.binds (ps := ["steps", "many"]) fun _ _ _ _ _ _ us hl => match us, hl with | [_, _], _ => rfl
  have F27 := fun_mk (st := s_are_ends) l27 c27 k27
  have b27 := F27.binds (ps := ["ends", "many", "most"]) fun _ _ _ _ _ _ us hl => match us, hl with | [_, _, _], _ => rfl
  have F28 := fun_mk (st := s_few_of) l28 c28 k28
  have b28 := F28.binds (ps := ["hearing"]) fun _ _ _ _ _ _ us hl => match us, hl with | [_], _ => rfl
  have F29 := fun_mk (st := s__law_few) l29 c29 k29
  have b29 := F29.binds (ps := ["_law_hearing"]) fun _ _ _ _ _ _ us hl => match us, hl with | [_], _ => rfl
  have F30 := fun_mk (st := s__law_says) l30 c30 k30
  have b30 := F30.binds (ps := ["_law_said", "_law_due"]) fun _ _ _ _ _ _ us hl => match us, hl with | [_, _], _ => rfl
  have F31 := fun_mk (st := s__law_is_plan) l31 c31 k31
  have b31 := F31.binds (ps := ["_law_hearing", "_law_steps", "_law_ends"]) fun _ _ _ _ _ _ us hl => match us, hl with | [_, _, _], _ => rfl
  have F32 := fun_mk (st := s__law_each) l32 c32 k32
  have b32 := F32.binds (ps := ["_law_hearing", "_law_speakers"]) fun _ _ _ _ _ _ us hl => match us, hl with | [_, _], _ => rfl
  refine ⟨PySem.W.fnOf "law" "law" (defArgs s_law) (defBody s_law) (defScope s_law) .none kV33 dc33 pm33 an33 cd33 ct33, fun s v => .of_eq rfl, fun base _ _ => ?_⟩
  have IPlan : CalI l.prog w K mg base "Plan" APlan 1 (spInitB K APlan R_planI) := ⟨PySem.W.mg_of X G aPlan, _, _, _, ok_planI F1 clPlan nPlan_steps nPlan_ends zlist, ⟨mkPlan, a1, i1, kcPlan⟩, b1⟩
  have Cis_name : Cal l.prog w K mg base "is_name" 1 (spP K R_isName) := ⟨_, _, _, ok_isName F3 zisinstance zstr zlen zall gLETTERS, PySem.W.mg_of X G a3, k3, b3⟩
  have Cis_rising : Cal l.prog w K mg base "is_rising" 1 (spP K R_isRising) := ⟨_, _, _, ok_isRising F4 zzip zall, PySem.W.mg_of X G a4, k4, b4⟩
  have Cis_pair : Cal l.prog w K mg base "is_pair" 2 (spP K R_isPair) := ⟨_, _, _, ok_isPair F5 Cis_name zisinstance ztuple zlist zlen zall, PySem.W.mg_of X G a5, k5, b5⟩
  have Cis_hearing : Cal l.prog w K mg base "is_hearing" 3 (spP K R_isHear) := ⟨_, _, _, ok_isHear F6 Cis_pair Cis_rising zisinstance zlist zlen zall gMOST, PySem.W.mg_of X G a6, k6, b6⟩
  have Ccheck_hearing : Cal l.prog w K mg base "check_hearing" 4 (spP K R_chk) := ⟨_, _, _, ok_chk F7 Cis_hearing, PySem.W.mg_of X G a7, k7, b7⟩
  have Cheard_by : Cal l.prog w K mg base "heard_by" 1 (spP K R_heard) := ⟨_, _, _, ok_heard_by F8, PySem.W.mg_of X G a8, k8, b8⟩
  have Cvoices_of : Cal l.prog w K mg base "voices_of" 1 (spP K R_voices) := ⟨_, _, _, ok_voices_of F9 zsorted, PySem.W.mg_of X G a9, k9, b9⟩
  have Cvalues_of : Cal l.prog w K mg base "values_of" 1 (spP K R_values) := ⟨_, _, _, ok_values F10 zlist, PySem.W.mg_of X G a10, k10, b10⟩
  have Cdue_of : Cal l.prog w K mg base "due_of" 2 (spP K R_due) := ⟨_, _, _, ok_due F11 Cvoices_of Cheard_by zdict zzip zsum, PySem.W.mg_of X G a11, k11, b11⟩
  have Ctold_of : Cal l.prog w K mg base "told_of" 2 (spP K R_told) := ⟨_, _, _, ok_told F12 Cvalues_of zlen, PySem.W.mg_of X G a12, k12, b12⟩
  have Cwrong_of : Cal l.prog w K mg base "wrong_of" 3 (spP K R_wrong) := ⟨_, _, _, ok_wrong F13 Cvoices_of Ctold_of Cdue_of zlen zrange zint, PySem.W.mg_of X G a13, k13, b13⟩
  have Cunlike_of : Cal l.prog w K mg base "unlike_of" 1 (spP K R_unlike) := ⟨_, _, _, ok_unlike F14, PySem.W.mg_of X G a14, k14, b14⟩
  have Cways_of : Cal l.prog w K mg base "ways_of" 2 (spP K R_ways) := ⟨_, _, _, ok_ways F15 Cvoices_of Cunlike_of zlen zsum zmin zmax, PySem.W.mg_of X G a15, k15, b15⟩
  have Cadded : Cal l.prog w K mg base "added" 1 (spIO K R_added) := ⟨_, _, _, ok_added F16 zlen, PySem.W.mg_of X G a16, k16, b16⟩
  have Cplan : Cal l.prog w K mg base "plan" 5 (spP K (R_plan APlan)) := ⟨_, _, _, ok_plan F17 Ccheck_hearing Cvoices_of Cways_of Cadded IPlan zlen zlist zrange ztuple, PySem.W.mg_of X G a17, k17, b17⟩
  have C_law_cell_at : Cal l.prog w K mg base "_law_cell_at" 1 (spP K R_cell) := ⟨_, _, _, ok_cell_at F18 zlen, PySem.W.mg_of X G a18, k18, b18⟩
  have C_law_draw : Cal l.prog w K mg base "_law_draw" 1 (spP K R_draw) := ⟨_, _, _, ok_draw F19, PySem.W.mg_of X G a19, k19, b19⟩
  have C_law_number : Cal l.prog w K mg base "_law_number" 2 (spP K R_number) := ⟨_, _, _, ok_number F20 C_law_draw, PySem.W.mg_of X G a20, k20, b20⟩
  have C_law_names : Cal l.prog w K mg base "_law_names" 3 (spP K R_names) := ⟨_, _, _, ok_names F21 C_law_cell_at C_law_number zrange, PySem.W.mg_of X G a21, k21, b21⟩
  have C_law_drawn : Cal l.prog w K mg base "_law_drawn" 4 (spP K R_drawn) := ⟨_, _, _, ok_drawn F22 C_law_cell_at C_law_number C_law_names zenumerate zsorted, PySem.W.mg_of X G a22, k22, b22⟩
  have C_law_voices : Cal l.prog w K mg base "_law_voices" 1 (spP K R_lvoices) := ⟨_, _, _, ok_lvoices F23 zany, PySem.W.mg_of X G a23, k23, b23⟩
  have C_law_counts : Cal l.prog w K mg base "_law_counts" 1 (spP K R_counts) := ⟨_, _, _, ok_counts F24 zrange zint zzip, PySem.W.mg_of X G a24, k24, b24⟩
  have C_law_right_plan : Cal l.prog w K mg base "_law_right_plan" 2 (spP K R_right) := ⟨_, _, _, ok_right F25 C_law_voices C_law_counts zlen zzip zint, PySem.W.mg_of X G a25, k25, b25⟩
  have Care_steps : Cal l.prog w K mg base "are_steps" 1 (spP K R_areSteps) := ⟨_, _, _, ok_areSteps F26 zenumerate, PySem.W.mg_of X G a26, k26, b26⟩
  have Care_ends : Cal l.prog w K mg base "are_ends" 1 (spP K R_areEnds) := ⟨_, _, _, ok_areEnds F27 zlen zall, PySem.W.mg_of X G a27, k27, b27⟩
  have Cfew_of : Cal l.prog w K mg base "few_of" 3 (spP K R_few) := ⟨_, _, _, ok_few F28 Cways_of zmin, PySem.W.mg_of X G a28, k28, b28⟩
  have C_law_few : Cal l.prog w K mg base "_law_few" 2 (spP K R_lfew) := ⟨_, _, _, ok_lfew F29 C_law_voices zlen ztuple zmin, PySem.W.mg_of X G a29, k29, b29⟩
  have C_law_says : Cal l.prog w K mg base "_law_says" 1 (spP K R_says) := ⟨_, _, _, ok_says F30 zisinstance zbool, PySem.W.mg_of X G a30, k30, b30⟩
  have C_law_is_plan : Cal l.prog w K mg base "_law_is_plan" 3 (spP K R_isPlan) := ⟨_, _, _, ok_isPlan F31 C_law_voices C_law_few C_law_right_plan zenumerate zany zlen, PySem.W.mg_of X G a31, k31, b31⟩
  have C_law_each : Cal l.prog w K mg base "_law_each" 1 (spP K R_each) := ⟨_, _, _, ok_each F32 zlen, PySem.W.mg_of X G a32, k32, b32⟩
  have MPlan_shows : CalM l.prog w K mg base APlan "shows" 4 (spP K (R_planS APlan)) := ⟨clPlan, _, _, _, ok_planS F2 clPlan nPlan_steps nPlan_ends Cvoices_of Care_steps Care_ends Cfew_of Cwrong_of zlen, ⟨a2, i2, k2⟩, b2⟩
  exact ok_law (fun_mk (st := s_law) l33 c33 k33) C_law_drawn C_law_voices Cplan C_law_each C_law_is_plan C_law_says clPlan nPlan_steps nPlan_ends IPlan MPlan_shows zlen zrange zlist
end My

set_option Elab.async false
set_option linter.all false
set_option maxRecDepth 100000
set_option maxHeartbeats 4000000
set_option maxHeartbeats 0 in
theorem PySem.Challenge.cw_mixminus_k13_plans_by_hand_holds : PySem.Challenge.rw_mixminus_k13_plans_by_hand.Holds := by
  w_on; o_law; k_head; (case hw => w_witness2)
  k_fill
  refine Mx.walkS (l := PySem.Challenge.rw_mixminus_k13_plans_by_hand) (x := "_law_script") (R := My.R_law) 6 rfl rfl ⟨rfl, by decide, by decide⟩ (fun w h Y => PySem.W.kIn_of Y) ?F (fun ns _ => ⟨ns, rfl, rfl⟩)
  case F =>
    intro w mg fa h KX G hmg
    refine' My.all_mk KX G hmg ?ylen ?yrange ?yenumerate ?ysorted ?yisinstance ?ybool ?ystr ?yint ?ylist ?ytuple ?yall ?yany ?yzip ?ydict ?ysum ?ymin ?ymax ?yMOST ?yLETTERS ?aPlan ?pgPlan ?hdPlan ?poPlan ?saPlan ?mkPlan ?kcPlan ?nPlan_steps ?nPlan_ends ?a1 ?i1 ?l1 ?c1 ?k1 ?a2 ?i2 ?l2 ?c2 ?k2 ?a3 ?l3 ?c3 ?k3 ?a4 ?l4 ?c4 ?k4 ?a5 ?l5 ?c5 ?k5 ?a6 ?l6 ?c6 ?k6 ?a7 ?l7 ?c7 ?k7 ?a8 ?l8 ?c8 ?k8 ?a9 ?l9 ?c9 ?k9 ?a10 ?l10 ?c10 ?k10 ?a11 ?l11 ?c11 ?k11 ?a12 ?l12 ?c12 ?k12 ?a13 ?l13 ?c13 ?k13 ?a14 ?l14 ?c14 ?k14 ?a15 ?l15 ?c15 ?k15 ?a16 ?l16 ?c16 ?k16 ?a17 ?l17 ?c17 ?k17 ?a18 ?l18 ?c18 ?k18 ?a19 ?l19 ?c19 ?k19 ?a20 ?l20 ?c20 ?k20 ?a21 ?l21 ?c21 ?k21 ?a22 ?l22 ?c22 ?k22 ?a23 ?l23 ?c23 ?k23 ?a24 ?l24 ?c24 ?k24 ?a25 ?l25 ?c25 ?k25 ?a26 ?l26 ?c26 ?k26 ?a27 ?l27 ?c27 ?k27 ?a28 ?l28 ?c28 ?k28 ?a29 ?l29 ?c29 ?k29 ?a30 ?l30 ?c30 ?k30 ?a31 ?l31 ?c31 ?k31 ?a32 ?l32 ?c32 ?k32 ?a33 ?l33 ?c33 ?k33
    (case ylen => k_is)
    (case yrange => k_is)
    (case yenumerate => k_is)
    (case ysorted => k_is)
    (case yisinstance => k_is)
    (case ybool => k_is)
    (case ystr => k_is)
    (case yint => k_is)
    (case ylist => k_is)
    (case ytuple => k_is)
    (case yall => k_is)
    (case yany => k_is)
    (case yzip => k_is)
    (case ydict => k_is)
    (case ysum => k_is)
    (case ymin => k_is)
    (case ymax => k_is)
    (case yMOST => k_is)
    (case yLETTERS => k_is)
    (case aPlan => k_is)
    (case pgPlan => k_is)
    (case hdPlan => k_is)
    (case poPlan => k_is)
    (case saPlan => k_is)
    (case mkPlan => k_is)
    (case kcPlan => k_is)
    (case nPlan_steps => k_is)
    (case nPlan_ends => k_is)
    (case a1 => k_is)
    (case i1 => k_is)
    (case l1 => k_is)
    (case c1 => k_is)
    (case k1 => k_is)
    (case a2 => k_is)
    (case i2 => k_is)
    (case l2 => k_is)
    (case c2 => k_is)
    (case k2 => k_is)
    (case a3 => k_is)
    (case l3 => k_is)
    (case c3 => k_is)
    (case k3 => k_is)
    (case a4 => k_is)
    (case l4 => k_is)
    (case c4 => k_is)
    (case k4 => k_is)
    (case a5 => k_is)
    (case l5 => k_is)
    (case c5 => k_is)
    (case k5 => k_is)
    (case a6 => k_is)
    (case l6 => k_is)
    (case c6 => k_is)
    (case k6 => k_is)
    (case a7 => k_is)
    (case l7 => k_is)
    (case c7 => k_is)
    (case k7 => k_is)
    (case a8 => k_is)
    (case l8 => k_is)
    (case c8 => k_is)
    (case k8 => k_is)
    (case a9 => k_is)
    (case l9 => k_is)
    (case c9 => k_is)
    (case k9 => k_is)
    (case a10 => k_is)
    (case l10 => k_is)
    (case c10 => k_is)
    (case k10 => k_is)
    (case a11 => k_is)
    (case l11 => k_is)
    (case c11 => k_is)
    (case k11 => k_is)
    (case a12 => k_is)
    (case l12 => k_is)
    (case c12 => k_is)
    (case k12 => k_is)
    (case a13 => k_is)
    (case l13 => k_is)
    (case c13 => k_is)
    (case k13 => k_is)
    (case a14 => k_is)
    (case l14 => k_is)
    (case c14 => k_is)
    (case k14 => k_is)
    (case a15 => k_is)
    (case l15 => k_is)
    (case c15 => k_is)
    (case k15 => k_is)
    (case a16 => k_is)
    (case l16 => k_is)
    (case c16 => k_is)
    (case k16 => k_is)
    (case a17 => k_is)
    (case l17 => k_is)
    (case c17 => k_is)
    (case k17 => k_is)
    (case a18 => k_is)
    (case l18 => k_is)
    (case c18 => k_is)
    (case k18 => k_is)
    (case a19 => k_is)
    (case l19 => k_is)
    (case c19 => k_is)
    (case k19 => k_is)
    (case a20 => k_is)
    (case l20 => k_is)
    (case c20 => k_is)
    (case k20 => k_is)
    (case a21 => k_is)
    (case l21 => k_is)
    (case c21 => k_is)
    (case k21 => k_is)
    (case a22 => k_is)
    (case l22 => k_is)
    (case c22 => k_is)
    (case k22 => k_is)
    (case a23 => k_is)
    (case l23 => k_is)
    (case c23 => k_is)
    (case k23 => k_is)
    (case a24 => k_is)
    (case l24 => k_is)
    (case c24 => k_is)
    (case k24 => k_is)
    (case a25 => k_is)
    (case l25 => k_is)
    (case c25 => k_is)
    (case k25 => k_is)
    (case a26 => k_is)
    (case l26 => k_is)
    (case c26 => k_is)
    (case k26 => k_is)
    (case a27 => k_is)
    (case l27 => k_is)
    (case c27 => k_is)
    (case k27 => k_is)
    (case a28 => k_is)
    (case l28 => k_is)
    (case c28 => k_is)
    (case k28 => k_is)
    (case a29 => k_is)
    (case l29 => k_is)
    (case c29 => k_is)
    (case k29 => k_is)
    (case a30 => k_is)
    (case l30 => k_is)
    (case c30 => k_is)
    (case k30 => k_is)
    (case a31 => k_is)
    (case l31 => k_is)
    (case c31 => k_is)
    (case k31 => k_is)
    (case a32 => k_is)
    (case l32 => k_is)
    (case c32 => k_is)
    (case k32 => k_is)
    (case a33 => k_is)
    (case l33 => k_is)
    (case c33 => k_is)
    (case k33 => k_is)

