import PyProof.Rows.All
import Wide.All
import OpenK.AllK
import Wide.FinOn
import HandS.ForMost
import HandS.Deep
import KE.DataEq
import HandS.Wide
import HandS.Style
import HandS.IsInst
import PySem.Challenge.RW_mixminus_k06_compared_by_hand
set_option Elab.async false
set_option linter.all false
set_option maxRecDepth 100000
/-! Mx1: the judgements in the form of what they must give (w), frozen and owned things, data environments. -/
namespace Mx
open PySem PySem.Spec PyProof.Rows L2

/-! ### what a piece of syntax must give -/
section
variable (X : Cx)
def wE (e : Expr) : TE := fun σ H Q => ∀ pins s, Inv X pins σ H s → wpAny (model X.prog X.w) X.A (eval e X.env) (EP X pins σ Q) X.xe s
def wT (e : Expr) : TT := fun σ H Q => ∀ pins s, Inv X pins σ H s → wpAny (model X.prog X.w) X.A (isTrue e X.env (eval e X.env)) (TP X pins σ Q) X.xe s
def wW (e : Expr) : TT := fun σ H Q => ∀ whole pins s, Inv X pins σ H s → wpAny (model X.prog X.w) X.A (isTrue e X.env whole) (TP X pins σ Q) X.xe s
def wA (es : List Expr) : TA := fun σ H Q => ∀ pos pins s, Inv X pins σ H s → wpAny (model X.prog X.w) X.A (spliced (backTo pos (starEach es X.env))) (AP X pins σ Q) X.xe s
def wS (st : Stmt) : TS := fun D σ H => ∀ pins s, Inv X pins σ H s → wpAny (model X.prog X.w) X.A (exec st X.env) (SP X pins D) X.xe s
def wSs (st : List Stmt) : TS := fun D σ H => ∀ pins s, Inv X pins σ H s → wpAny (model X.prog X.w) X.A (execs st X.env) (SP X pins D) X.xe s
def wG (tg : Expr) : TG := fun v σ H Q => ∀ pins s u, Inv X pins σ H s → RelV v u → wpAny (model X.prog X.w) X.A (assign tg X.env u) (fun _ s' => ∃ σ' H', Inv X pins σ' H' s' ∧ Q σ' H') X.xe s
def wGs (ts : List Expr) : TGs := fun vs σ H Q => ∀ pins s us, Inv X pins σ H s → Vals vs us → wpAny (model X.prog X.w) X.A (assignInOrder ((assignEach ts X.env).map (·.2)) us) (fun _ s' => ∃ σ' H', Inv X pins σ' H' s' ∧ Q σ' H') X.xe s
def wI (tg iter : Expr) : TI := fun σ H R => ∀ pins s, Inv X pins σ H s →
    wpAny (model X.prog X.w) X.A (eval iter X.env) (fun v s1 => wpAny (model X.prog X.w) X.A (pyIter v) (PIE X pins σ tg R) X.xe s1) X.xe s
def wTs (ifs : List Expr) : TT := fun σ H Q => ∀ pins s, Inv X pins σ H s →
    wpAny (model X.prog X.w) X.A (forIn ifs true fun c r => if r = true then do let ok ← isTrue c X.env (eval c X.env); pure (ForInStep.yield ok) else pure (ForInStep.yield r)) (TP X pins σ Q) X.xe s
end
section
variable {X : Cx}
theorem pe_w {e : Expr} : PE X e (wE X e) := ⟨fun pins s _ _ _ I h => h pins s I⟩
theorem pt_w {e : Expr} : PT X e (wT X e) := ⟨fun pins s _ _ _ I h => h pins s I⟩
theorem pw_w {e : Expr} : PW X e (wW X e) := ⟨fun wh pins s _ _ _ I h => h wh pins s I⟩
theorem pa_w {e : List Expr} : PA X e (wA X e) := ⟨fun pos pins s _ _ _ I h => h pos pins s I⟩
theorem ps_w {e : Stmt} : PS X e (wS X e) := ⟨fun pins s _ _ _ I h => h pins s I⟩
theorem pss_w {e : List Stmt} : PSs X e (wSs X e) := ⟨fun pins s _ _ _ I h => h pins s I⟩
theorem pg_w {e : Expr} : PG X e (wG X e) := ⟨fun pins s _ _ _ u _ I r h => h pins s u I r⟩
theorem pgs_w {e : List Expr} : PGs X e (wGs X e) := ⟨fun pins s _ _ _ u _ I r h => h pins s u I r⟩
theorem pi_w {tg e : Expr} : PI X tg e (wI X tg e) := ⟨fun pins s _ _ _ I h => h pins s I⟩
theorem pts_w {e : List Expr} : PTs X e (wTs X e) := ⟨fun pins s _ _ _ I h => h pins s I⟩
variable {σ : L2.St} {H : Hp}
theorem PEw {e : Expr} {t : TE} {Q : VK} (h : PE X e t) (q : t σ H Q) : wE X e σ H Q := fun pins s I => h.run pins s σ H Q I q
theorem PTw {e : Expr} {t : TT} {Q : Bool → Hp → Prop} (h : PT X e t) (q : t σ H Q) : wT X e σ H Q := fun pins s I => h.run pins s σ H Q I q
theorem PWw {e : Expr} {t : TT} {Q : Bool → Hp → Prop} (h : PW X e t) (q : t σ H Q) : wW X e σ H Q := fun wh pins s I => h.run wh pins s σ H Q I q
theorem PAw {e : List Expr} {t : TA} {Q : List V → Hp → Prop} (h : PA X e t) (q : t σ H Q) : wA X e σ H Q := fun pos pins s I => h.run pos pins s σ H Q I q
theorem PSw {e : Stmt} {t : TS} {D : Ends} (h : PS X e t) (q : t D σ H) : wS X e D σ H := fun pins s I => h.run pins s σ H D I q
theorem PSsw {e : List Stmt} {t : TS} {D : Ends} (h : PSs X e t) (q : t D σ H) : wSs X e D σ H := fun pins s I => h.run pins s σ H D I q
theorem PGw {e : Expr} {t : TG} {v : V} {Q : L2.St → Hp → Prop} (h : PG X e t) (q : t v σ H Q) : wG X e v σ H Q := fun pins s u I r => h.run pins s σ H v u Q I r q
theorem PGsw {e : List Expr} {t : TGs} {v : List V} {Q : L2.St → Hp → Prop} (h : PGs X e t) (q : t v σ H Q) : wGs X e v σ H Q := fun pins s u I r => h.run pins s σ H v u Q I r q
theorem PIw {tg e : Expr} {t : TI} {R : It → Hp → Prop} (h : PI X tg e t) (q : t σ H R) : wI X tg e σ H R := fun pins s I => h.run pins s σ H R I q
theorem PTsw {e : List Expr} {t : TT} {Q : Bool → Hp → Prop} (h : PTs X e t) (q : t σ H Q) : wTs X e σ H Q := fun pins s I => h.run pins s σ H Q I q
end

/-! ### heaps that hold on to what they know -/
def Ex (H H' : Hp) : Prop := ∀ a o, H a = some o → H' a = some o
theorem Ex.refl (H : Hp) : Ex H H := fun _ _ h => h
theorem Ex.trans {H H1 H2 : Hp} (a : Ex H H1) (b : Ex H1 H2) : Ex H H2 := fun x o h => b x o (a x o h)
theorem Ex.new {H : Hp} {p : Addr} {o : HO} (h : H p = none) : Ex H (upd H p o) := fun a u e => by
  rw [upd_ne (ne_of_none e h)]
  exact e
theorem Ex.mut {H H' : Hp} {p : Addr} {o : HO} (e : Ex H H') (h : H p = none) : Ex H (upd H' p o) := fun a u ha => by
  rw [upd_ne (ne_of_none ha h)]
  exact e a u ha
theorem Ex.both {H H' : Hp} {p : Addr} {o : HO} (e : Ex H H') : Ex (upd H p o) (upd H' p o) := fun a u ha => by
  by_cases z : a = p
  · subst z; rw [upd_same] at ha ⊢; exact ha
  · rw [upd_ne z] at ha ⊢; exact e a u ha
theorem Ex.noneOf {H H' : Hp} {p : Addr} (e : Ex H H') (h : H' p = none) : H p = none := by
  cases h1 : H p with
  | none => rfl
  | some o => rw [e p o h1] at h; cases h
theorem Ex.someOf {H H' : Hp} {p : Addr} (e : Ex H H') (h : H p ≠ none) : H' p ≠ none := by
  cases h1 : H p with
  | none => exact absurd h1 h
  | some o => rw [e p o h1]; intro z; cases z
theorem sz_of {n : Nat} (h : n ≤ 100000) : n ≤ sizeLine := Nat.le_trans h (by decide)
theorem sz_lt {n : Nat} (h : n < 100000) : n < sizeLine := Nat.lt_of_lt_of_le h (by decide)

/-- F the frozen part of H grows to F' of H': by what is new in H' alone -/
structure Grow (F H F' H' : Hp) : Prop where
  ff : Ex F F'
  hh : Ex H H'
  fh : Ex F' H'
  fr : ∀ a, H a ≠ none → F' a = F a
theorem Grow.refl {F H : Hp} (e : Ex F H) : Grow F H F H := ⟨Ex.refl F, Ex.refl H, e, fun _ _ => rfl⟩
theorem Grow.trans {F H F1 H1 F2 H2 : Hp} (a : Grow F H F1 H1) (b : Grow F1 H1 F2 H2) : Grow F H F2 H2 :=
  ⟨a.ff.trans b.ff, a.hh.trans b.hh, b.fh, fun x h => (b.fr x (Ex.someOf a.hh h)).trans (a.fr x h)⟩
/-- something new that is frozen at once; that is not -/
theorem Grow.new {F H F1 H1 : Hp} {p : Addr} {o : HO} (g : Grow F H F1 H1) (h : H1 p = none) : Grow F H (upd F1 p o) (upd H1 p o) :=
  ⟨g.ff.trans (Ex.new (Ex.noneOf g.fh h)), g.hh.trans (Ex.new h), g.fh.both, fun x hx => by
    rw [upd_ne (fun z => by subst z; exact Ex.someOf g.hh hx h)]
    exact g.fr x hx⟩
theorem Grow.loose {F H F1 H1 : Hp} {p : Addr} {o : HO} (g : Grow F H F1 H1) (h : H1 p = none) : Grow F H F1 (upd H1 p o) :=
  ⟨g.ff, g.hh.trans (Ex.new h), g.fh.trans (Ex.new h), g.fr⟩
/-- of a smaller frozen part: the union -/
def cup (F G : Hp) : Hp := fun a => match F a with | some o => some o | none => G a
theorem cup_l {F G : Hp} : Ex F (cup F G) := fun a o h => by unfold cup; rw [h]
theorem cup_none {F G : Hp} {a : Addr} (h : F a = none) : cup F G a = G a := by unfold cup; rw [h]
theorem Grow.cup {F F0 H G H' : Hp} (g : Grow F H G H') (e0 : Ex F F0) (eH : Ex F0 H) : Grow F0 H (cup F0 G) H' ∧ Ex G (cup F0 G) := by
  have e1 : Ex F0 H' := eH.trans g.hh
  have e2 : Ex (Mx.cup F0 G) H' := fun a o h => by
    unfold Mx.cup at h
    cases q : F0 a with
    | some u => rw [q] at h; exact e1 a o (q.trans h)
    | none => rw [q] at h; exact g.fh a o h
  refine ⟨⟨cup_l, g.hh, e2, fun a h => ?_⟩, fun a o h => ?_⟩
  · cases q : F0 a with
    | some u => unfold Mx.cup; rw [q]
    | none => rw [cup_none q, g.fr a h]; exact Ex.noneOf e0 q
  · cases q : F0 a with
    | some u =>
      unfold Mx.cup; rw [q]
      have z := e1 a u q
      rw [g.fh a o h] at z
      exact z.symm
    | none => rw [cup_none q]; exact h

/-! ### data that stands in a heap -/
mutual
inductive Dv (F : Hp) : V → PyData → Prop
  | non : Dv F .non .none
  | bl (b : Bool) : Dv F (.bl b) (.bool b)
  | int (i : Int) : Dv F (.int i) (.int i)
  | str (x : Str) : Dv F (.str x) (.str x)
  | lst {a : Addr} {xs : List V} {ds : List PyData} : F a = some (.lst xs) → DvAll F xs ds → Dv F (.ref a) (.list ds)
  | tup {a : Addr} {xs : List V} {ds : List PyData} : F a = some (.tup xs) → DvAll F xs ds → Dv F (.ref a) (.tuple ds)
  | dct {a : Addr} : F a = some (.dK []) → Dv F (.ref a) (.dict [])
inductive DvAll (F : Hp) : List V → List PyData → Prop
  | nil : DvAll F [] []
  | cons {v : V} {vs : List V} {d : PyData} {ds : List PyData} : Dv F v d → DvAll F vs ds → DvAll F (v :: vs) (d :: ds)
end
mutual
theorem Dv.mono {F G : Hp} (e : Ex F G) : ∀ {v : V} {d : PyData}, Dv F v d → Dv G v d
  | _, _, .non => .non
  | _, _, .bl b => .bl b
  | _, _, .int i => .int i
  | _, _, .str x => .str x
  | _, _, .lst h r => .lst (e _ _ h) (DvAll.mono e r)
  | _, _, .tup h r => .tup (e _ _ h) (DvAll.mono e r)
  | _, _, .dct h => .dct (e _ _ h)
theorem DvAll.mono {F G : Hp} (e : Ex F G) : ∀ {vs : List V} {ds : List PyData}, DvAll F vs ds → DvAll G vs ds
  | _, _, .nil => .nil
  | _, _, .cons a b => .cons (Dv.mono e a) (DvAll.mono e b)
end
theorem DvAll.length {F : Hp} : ∀ {vs : List V} {ds : List PyData}, DvAll F vs ds → vs.length = ds.length
  | _, _, .nil => rfl
  | _, _, .cons _ r => by rw [List.length_cons, List.length_cons, r.length]
theorem DvAll.get {F : Hp} : ∀ {vs : List V} {ds : List PyData} {i : Nat} {d : PyData}, DvAll F vs ds → ds[i]? = some d → ∃ v, vs[i]? = some v ∧ Dv F v d
  | _, _, _, _, .nil, e => by simp at e
  | _, _, 0, _, .cons r _, e => by simp at e; subst e; exact ⟨_, rfl, r⟩
  | _, _, i + 1, d, .cons _ t, e => by
    obtain ⟨u, h1, h2⟩ := DvAll.get (i := i) (d := d) t (by simpa using e)
    exact ⟨u, by simpa using h1, h2⟩
theorem DvAll.getV {F : Hp} : ∀ {vs : List V} {ds : List PyData} {i : Nat} {v : V}, DvAll F vs ds → vs[i]? = some v → ∃ d, ds[i]? = some d ∧ Dv F v d
  | _, _, _, _, .nil, e => by simp at e
  | _, _, 0, _, .cons r _, e => by simp at e; subst e; exact ⟨_, rfl, r⟩
  | _, _, i + 1, d, .cons _ t, e => by
    obtain ⟨u, h1, h2⟩ := DvAll.getV (i := i) (v := d) t (by simpa using e)
    exact ⟨u, by simpa using h1, h2⟩
theorem DvAll.append {F : Hp} : ∀ {xs ys : List V} {ds es : List PyData}, DvAll F xs ds → DvAll F ys es → DvAll F (xs ++ ys) (ds ++ es)
  | _, _, _, _, .nil, s => s
  | _, _, _, _, .cons r t, s => .cons r (DvAll.append t s)
theorem DvAll.take {F : Hp} : ∀ {xs : List V} {ds : List PyData} (n : Nat), DvAll F xs ds → DvAll F (xs.take n) (ds.take n)
  | _, _, 0, _ => .nil
  | _, _, _ + 1, .nil => .nil
  | _, _, n + 1, .cons r t => .cons r (DvAll.take n t)
theorem DvAll.drop {F : Hp} : ∀ {xs : List V} {ds : List PyData} (n : Nat), DvAll F xs ds → DvAll F (xs.drop n) (ds.drop n)
  | _, _, 0, r => r
  | _, _, _ + 1, .nil => .nil
  | _, _, n + 1, .cons _ t => DvAll.drop n t
theorem DvAll.set {F : Hp} {x : V} {u : PyData} (r : Dv F x u) : ∀ {xs : List V} {us : List PyData} (i : Nat), DvAll F xs us → DvAll F (xs.set i x) (us.set i u)
  | _, _, _, .nil => .nil
  | _, _, 0, .cons _ t => .cons r t
  | _, _, i + 1, .cons q t => .cons q (DvAll.set r i t)
theorem DvAll.ints {F : Hp} : ∀ {vs : List V} {ns : List Int}, DvAll F vs (ns.map .int) → vs = ns.map V.int
  | _, [], .nil => rfl
  | _, _ :: _, .cons (.int _) t => by rw [List.map_cons, DvAll.ints t]
theorem DvAll.strs {F : Hp} : ∀ {vs : List V} {ns : List Str}, DvAll F vs (ns.map .str) → vs = ns.map V.str
  | _, [], .nil => rfl
  | _, _ :: _, .cons (.str _) t => by rw [List.map_cons, DvAll.strs t]
theorem DvAll.bls {F : Hp} : ∀ {vs : List V} {ns : List Bool}, DvAll F vs (ns.map .bool) → vs = ns.map V.bl
  | _, [], .nil => rfl
  | _, _ :: _, .cons (.bl _) t => by rw [List.map_cons, DvAll.bls t]
theorem DvAll.ofInts {F : Hp} : ∀ (ns : List Int), DvAll F (ns.map V.int) (ns.map .int)
  | [] => .nil
  | i :: r => .cons (.int i) (DvAll.ofInts r)
theorem DvAll.ofStrs {F : Hp} : ∀ (ns : List Str), DvAll F (ns.map V.str) (ns.map .str)
  | [] => .nil
  | i :: r => .cons (.str i) (DvAll.ofStrs r)
theorem Dv.eint {F : Hp} {v : V} {i : Int} (h : Dv F v (.int i)) : v = .int i := by cases h; rfl
theorem Dv.ebl {F : Hp} {v : V} {i : Bool} (h : Dv F v (.bool i)) : v = .bl i := by cases h; rfl
theorem Dv.estr {F : Hp} {v : V} {i : Str} (h : Dv F v (.str i)) : v = .str i := by cases h; rfl
theorem Dv.enon {F : Hp} {v : V} (h : Dv F v .none) : v = .non := by cases h; rfl
theorem Dv.elst {F : Hp} {v : V} {ds : List PyData} (h : Dv F v (.list ds)) : ∃ a xs, v = .ref a ∧ F a = some (.lst xs) ∧ DvAll F xs ds := by cases h with | lst a b => exact ⟨_, _, rfl, a, b⟩
theorem Dv.etup {F : Hp} {v : V} {ds : List PyData} (h : Dv F v (.tuple ds)) : ∃ a xs, v = .ref a ∧ F a = some (.tup xs) ∧ DvAll F xs ds := by cases h with | tup a b => exact ⟨_, _, rfl, a, b⟩
/-- a thing without a place -/
def flatD : PyData → Bool
  | .none => true
  | .bool _ => true
  | .int _ => true
  | .str _ => true
  | _ => false
theorem Dv.flat {F G : Hp} {v : V} {d : PyData} (h : Dv F v d) (f : flatD d = true) : Dv G v d := by
  cases h <;> first | (cases f; done) | constructor
mutual
theorem Dv.dp {F : Hp} {K : PySem.W.Frag} : ∀ {v : V} {d : PyData}, Dv F v d → d.plain = true → Dp K F v d
  | _, _, .non, _ => .non
  | _, _, .bl b, _ => .bl b
  | _, _, .int i, _ => .int i
  | _, _, .str x, _ => .str x
  | _, .list ds, .lst h r, s => .lst (.inl (.inl h)) (DvAll.dp r (by simpa [PyData.plain] using s))
  | _, .tuple ds, .tup h r, s => .tup (.inl (.inl h)) (DvAll.dp r (by simpa [PyData.plain] using s))
  | _, _, .dct _, s => by simp [PyData.plain] at s
theorem DvAll.dp {F : Hp} {K : PySem.W.Frag} : ∀ {vs : List V} {ds : List PyData}, DvAll F vs ds → PyData.plainAll ds = true → DpAll K F vs ds
  | _, _, .nil, _ => .nil
  | _, _, .cons a b, s => by
    have s' := s
    simp [PyData.plainAll] at s'
    exact .cons (Dv.dp a s'.1) (DvAll.dp b s'.2)
end
/-! ### == and in, of data without dicts -/
/-- plain and not deep -/
def Pl (d : PyData) : Prop := d.plain = true ∧ d.depth ≤ 50
section
variable {X : Cx}
def rEqP (K : PySem.W.Frag) : R2 := fun x y H Q => ∃ d e, Dp K H x d ∧ Dp K H y e ∧ Pl d ∧ Pl e ∧ Q (.bl (PyData.eqv d e)) H
def rNeP (K : PySem.W.Frag) : R2 := fun x y H Q => ∃ d e, Dp K H x d ∧ Dp K H y e ∧ Pl d ∧ Pl e ∧ Q (.bl (!PyData.eqv d e)) H
theorem op_eqP (hu : X.A.units + 64 < cLine) : OpR X (compareOp .Eq) (rEqP X.K) := by
  intro pins s σ H x y v u Q I rx ry h
  obtain ⟨d, e, hd, he, sd, se, q⟩ := h
  obtain ⟨as, r1⟩ := Dp.reads I d x v hd rx
  obtain ⟨bs, r2⟩ := Dp.reads I e y u he ry
  have m : min d.depth e.depth ≤ d.depth := Nat.min_le_left _ _
  have := sd.2
  exact SeqAt.eq_plain r1 r2 sd.1 se.1 (by omega) ⟨.bl _, H, I, rfl, q⟩
theorem op_neP (hu : X.A.units + 64 < cLine) : OpR X (compareOp .NotEq) (rNeP X.K) := by
  intro pins s σ H x y v u Q I rx ry h
  obtain ⟨d, e, hd, he, sd, se, q⟩ := h
  obtain ⟨as, r1⟩ := Dp.reads I d x v hd rx
  obtain ⟨bs, r2⟩ := Dp.reads I e y u he ry
  have m : min d.depth e.depth ≤ d.depth := Nat.min_le_left _ _
  have := sd.2
  exact SeqAt.ne_plain r1 r2 sd.1 se.1 (by omega) ⟨.bl _, H, I, rfl, q⟩
def rInP (K : PySem.W.Frag) : R2 := fun x y H Q => ∃ d ds, Dp K H x d ∧ (Dp K H y (.list ds) ∨ Dp K H y (.tuple ds)) ∧ Pl d ∧ PyData.plainAll ds = true ∧ Q (.bl (ds.any fun z => PyData.eqv z d)) H
def rNotInP (K : PySem.W.Frag) : R2 := fun x y H Q => ∃ d ds, Dp K H x d ∧ (Dp K H y (.list ds) ∨ Dp K H y (.tuple ds)) ∧ Pl d ∧ PyData.plainAll ds = true ∧ Q (.bl (!ds.any fun z => PyData.eqv z d)) H
theorem op_inP (hu : X.A.units + 64 < cLine) : OpR X (compareOp .In) (rInP X.K) := by
  intro pins s σ H x y v u Q I rx ry h
  obtain ⟨d, ds, hd, he, sd, se, q⟩ := h
  obtain ⟨as, r1⟩ := Dp.reads I d x v hd rx
  have m : min (PyData.depthAll ds) d.depth ≤ d.depth := Nat.min_le_right _ _
  have := sd.2
  rcases he with he | he
  · obtain ⟨bs, r2⟩ := Dp.reads I (.list ds) y u he ry
    exact SeqAt.in_list_data r2 r1 se sd.1 (by omega) ⟨.bl _, H, I, rfl, q⟩
  · obtain ⟨bs, r2⟩ := Dp.reads I (.tuple ds) y u he ry
    exact SeqAt.in_tuple_data r2 r1 se sd.1 (by omega) ⟨.bl _, H, I, rfl, q⟩
theorem op_notInP (hu : X.A.units + 64 < cLine) : OpR X (compareOp .NotIn) (rNotInP X.K) := by
  intro pins s σ H x y v u Q I rx ry h
  obtain ⟨d, ds, hd, he, sd, se, q⟩ := h
  obtain ⟨as, r1⟩ := Dp.reads I d x v hd rx
  have m : min (PyData.depthAll ds) d.depth ≤ d.depth := Nat.min_le_right _ _
  have := sd.2
  rcases he with he | he
  · obtain ⟨bs, r2⟩ := Dp.reads I (.list ds) y u he ry
    exact SeqAt.notIn_list_data r2 r1 se sd.1 (by omega) ⟨.bl _, H, I, rfl, q⟩
  · obtain ⟨bs, r2⟩ := Dp.reads I (.tuple ds) y u he ry
    exact SeqAt.notIn_tuple_data r2 r1 se sd.1 (by omega) ⟨.bl _, H, I, rfl, q⟩
end

/-! ### no stars -/
def isStar : Expr → Bool
  | .Starred _ _ => true
  | _ => false
theorem star_cons {e : Expr} {es : List Expr} {env : Env} (h : isStar e = false) : starEach (e :: es) env = (false, eval e env) :: starEach es env := by
  cases e <;> first | rfl | (cases h; done)
theorem star_one {e : Expr} {env : Env} (h : isStar e = false) : starEach [e] env = [(false, eval e env)] := star_cons h
theorem star_two {a b : Expr} {env : Env} (h : isStar a = false) (h' : isStar b = false) : starEach [a, b] env = [(false, eval a env), (false, eval b env)] := by rw [star_cons h, star_one h']
theorem star_none {pos : Pos} {env : Env} : ∀ {es : List Expr}, es.all (fun e => !isStar e) = true → (backTo pos (starEach es env)).any (·.1) = false
  | [], _ => rfl
  | e :: es, h => by
    rw [List.all_cons, Bool.and_eq_true] at h
    rw [star_cons (by simpa using h.1)]
    show (false || (backTo pos (starEach es env)).any (·.1)) = false
    rw [star_none h.2]
    rfl
theorem star_few {pc : Pos} {e : Expr} {env : Env} (h : isStar e = false) : ((backTo pc (starEach [e] env)).all (fun x => !x.1) && (backToKw pc (keywordEach [] env)).all (fun x => x.1.isSome)
      && decide ([e].length + ([] : List Keyword).length + (if ([] : List Keyword).isEmpty then 0 else 1) < 30)) = true := by
  rw [star_one h]
  rfl
theorem asg_cons {e : Expr} {es : List Expr} {env : Env} (h : isStar e = false) : (assignEach (e :: es) env).map (·.2) = assign e env :: (assignEach es env).map (·.2) := by
  cases e <;> first | rfl | (cases h; done)
theorem asg_one {e : Expr} {env : Env} (h : isStar e = false) : (assignEach [e] env).map (·.2) = [assign e env] := by
  cases e <;> first | rfl | (cases h; done)
theorem asg_len {env : Env} : ∀ {es : List Expr}, (assignEach es env).length = es.length
  | [] => rfl
  | e :: es => by
    have ih := asg_len (env := env) (es := es)
    cases e <;> exact congrArg (· + 1) ih
theorem asg_none {env : Env} : ∀ {es : List Expr}, es.all (fun e => !isStar e) = true → (assignEach es env).findIdx? (·.1) = none
  | [], _ => rfl
  | e :: es, h => by
    rw [List.all_cons, Bool.and_eq_true] at h
    have ih := asg_none (env := env) h.2
    have q : assignEach (e :: es) env = (false, assign e env) :: assignEach es env := by
      have h1 := h.1
      cases e <;> first | rfl | (simp [isStar] at h1; done)
    rw [q, List.findIdx?_cons]
    simp [ih]
theorem abase {o : Expr} {f : Str} {env : Env} (h : (match o with | .Call _ [] [] _ => false | _ => true) = true) : attributeBase o f env (eval o env) = eval o env := by
  unfold attributeBase
  split
  · simp at h
  · rfl
/-- no comprehension as such -/
def isComp : Expr → Bool
  | .ListComp _ _ _ _ => true
  | .SetComp _ _ _ _ => true
  | .DictComp _ _ _ _ _ => true
  | _ => false
theorem swaps_no {e : Expr} {t : Option Expr} {l : Nat} {env : Env} (h : isComp e = false) : swapsWith e t l env = pure false := by
  cases e <;> first | rfl | (cases h; done)

/-! ### names, asked of the kernel at once -/
def nameOk (sc : Scope) (x : Str) : Bool := (match sc.names.lookup x with | some .local => true | some .cell => true | some .free => true | _ => false) && (!(x == ("__debug__" : Str)) && !(x == ("__classdict__" : Str)))
theorem nameOk_vis {sc : Scope} {x : Str} (h : nameOk sc x = true) : Vis sc x := by
  unfold nameOk at h
  rw [Bool.and_eq_true] at h
  have h1 := h.1
  split at h1 <;> rename_i q
  · exact .inl q
  · exact .inr (.inl q)
  · exact .inr (.inr q)
  · cases h1
theorem nameOk_d {sc : Scope} {x : Str} (h : nameOk sc x = true) : (x == ("__debug__" : Str)) = false := by
  unfold nameOk at h
  simp only [Bool.and_eq_true, Bool.not_eq_true'] at h
  exact h.2.1
theorem nameOk_c {sc : Scope} {x : Str} (h : nameOk sc x = true) : (x == ("__classdict__" : Str)) = false := by
  unfold nameOk at h
  simp only [Bool.and_eq_true, Bool.not_eq_true'] at h
  exact h.2.2
def storeOk (sc : Scope) (fn : Bool) (x : Str) : Bool := match sc.names.lookup x with | some .local => true | some .cell => fn | _ => false
theorem storeOk_loc {sc : Scope} {x : Str} {fn : Bool} (h : storeOk sc fn x = true) : Loc sc x := by
  unfold storeOk at h
  split at h <;> rename_i q
  · exact .inl q
  · exact .inr q
  · cases h
theorem storeOk_fn {sc : Scope} {x : Str} {fn : Bool} (h : storeOk sc fn x = true) : fn = true ∨ sc.names.lookup x = some .local := by
  unfold storeOk at h
  split at h <;> rename_i q
  · exact .inr q
  · exact .inl h
  · cases h
def globOk (x : Str) : Bool := !(decide (x = ("__name__" : Str))) && !(x == ("__debug__" : Str))
theorem globOk_n {x : Str} (h : globOk x = true) : x ≠ ("__name__" : Str) := by
  unfold globOk at h
  simp only [Bool.and_eq_true, Bool.not_eq_true', decide_eq_false_iff_not] at h
  exact h.1
theorem globOk_d {x : Str} (h : globOk x = true) : (x == ("__debug__" : Str)) = false := by
  unfold globOk at h
  simp only [Bool.and_eq_true, Bool.not_eq_true'] at h
  exact h.2
theorem gl_of {X : Cx} {x : Str} (h : X.env.kindOf x = some .globalImplicit) : Gl X x := h
end Mx

set_option Elab.async false
set_option linter.all false
set_option maxRecDepth 100000
/-! Mx2: data environments. -/
namespace Mx
open PySem PySem.Spec PyProof.Rows L2

/-- a thing of one's own: what holds of it, by the frozen heap, the heap, its value, its places -/
structure Own where
  holds : Hp → Hp → V → List Addr → Prop
  mono : ∀ {F F' H H' : Hp} {v : V} {as : List Addr}, holds F H v as → Ex F F' → (∀ a ∈ as, H' a = H a) → (∀ a ∈ as, F' a = none) → holds F' H' v as

inductive Slot where
  | un
  | da (d : PyData)
  | ow (ds : List PyData)
  | scr (ns : List Int)
  | ext (O : Own)

def SlotOk (K : PySem.W.Frag) (F H : Hp) (o : Option V) : Slot → List Addr → Prop
  | .un, as => as = []
  | .da d, as => as = [] ∧ ∃ v, o = some v ∧ Dv F v d
  | .ow ds, as => ∃ a vs, as = [a] ∧ o = some (.ref a) ∧ H a = some (.lst vs) ∧ DvAll F vs ds
  | .scr ns, as => as = [] ∧ ∃ a, o = some (.ref a) ∧ SqL K F a (ns.map V.int)
  | .ext O, as => ∃ v, o = some v ∧ O.holds F H v as

theorem sql_mono {K : PySem.W.Frag} {F G : Hp} {a : Addr} {xs : List V} (e : Ex F G) (h : SqL K F a xs) : SqL K G a xs := by
  rcases h with (h | ⟨o, h⟩) | h
  · exact .inl (.inl (e _ _ h))
  · exact .inl (.inr ⟨o, e _ _ h⟩)
  · exact .inr h

theorem SlotOk.mono {K : PySem.W.Frag} {F F' H H' : Hp} {o : Option V} {s : Slot} {as : List Addr} (h : SlotOk K F H o s as) (e : Ex F F') (k : ∀ a ∈ as, H' a = H a) (n : ∀ a ∈ as, F' a = none) : SlotOk K F' H' o s as := by
  cases s with
  | un => exact h
  | da d => obtain ⟨h1, v, h2, h3⟩ := h; exact ⟨h1, v, h2, h3.mono e⟩
  | ow ds =>
    obtain ⟨a, vs, rfl, h2, h3, h4⟩ := h
    exact ⟨a, vs, rfl, h2, (k a (by simp)).trans h3, h4.mono e⟩
  | scr ns => obtain ⟨h1, a, h2, h3⟩ := h; exact ⟨h1, a, h2, sql_mono e h3⟩
  | ext O => obtain ⟨v, h2, h3⟩ := h; exact ⟨v, h2, O.mono h3 e k n⟩

def at' (σ : L2.St) (i : Nat) : Option V := (σ[i]?).join
theorem at_get {σ : L2.St} {i : Nat} {v : V} (h : at' σ i = some v) : σ[i]? = some (some v) := by
  unfold at' at h
  cases e : σ[i]? with
  | none => rw [e] at h; cases h
  | some o => rw [e] at h; cases o with
    | none => cases h
    | some u => cases h; rfl
theorem at_set_same {σ : L2.St} {i : Nat} {o : Option V} (h : i < σ.length) : at' (σ.set i o) i = o := by
  unfold at'
  rw [List.getElem?_set_self h]
  rfl
theorem at_set_ne {σ : L2.St} {i j : Nat} {o : Option V} (h : i ≠ j) : at' (σ.set i o) j = at' σ j := by
  unfold at'
  rw [List.getElem?_set_ne h]

abbrev Env' := List Slot

/-- the slots are as the data environment says; B: what must stay; F0: what was frozen of it -/
structure Sl (K : PySem.W.Frag) (B F0 F H : Hp) (σ : L2.St) (ρ : Env') : Prop where
  ex : Ex F H
  kb : Ex B H
  kf : ∀ a, B a ≠ none → F a = F0 a
  len : σ.length = ρ.length
  fp : ∃ fp : Nat → List Addr, (∀ i j a, a ∈ fp i → a ∈ fp j → i = j) ∧ (∀ i a, a ∈ fp i → F a = none ∧ B a = none ∧ H a ≠ none) ∧ ∀ i s, ρ[i]? = some s → SlotOk K F H (at' σ i) s (fp i)

section
variable {K : PySem.W.Frag} {B F0 F H G H' : Hp} {σ : L2.St} {ρ : Env'}
theorem Sl.grow (S : Sl K B F0 F H σ ρ) (g : Grow F H G H') : Sl K B F0 G H' σ ρ := by
  obtain ⟨fp, f1, f2, f3⟩ := S.fp
  have z : ∀ i a, a ∈ fp i → G a = none := fun i a h => by rw [g.fr a (f2 i a h).2.2]; exact (f2 i a h).1
  refine ⟨g.fh, S.kb.trans g.hh, fun a h => (g.fr a (Ex.someOf S.kb h)).trans (S.kf a h), S.len, fp, f1, fun i a h => ⟨z i a h, (f2 i a h).2.1, Ex.someOf g.hh (f2 i a h).2.2⟩, fun i s e => (f3 i s e).mono g.ff (fun a h => ?_) (z i)⟩
  have q := (f2 i a h).2.2
  cases e1 : H a with
  | none => exact absurd e1 q
  | some o => exact g.hh a o e1
/-- other places for one slot -/
def pick (i : Nat) (as : List Addr) (fp : Nat → List Addr) : Nat → List Addr := fun k => if k = i then as else fp k
theorem pick_same {i : Nat} {as : List Addr} {fp : Nat → List Addr} : pick i as fp i = as := by unfold pick; rw [if_pos rfl]
theorem pick_ne {i k : Nat} {as : List Addr} {fp : Nat → List Addr} (h : k ≠ i) : pick i as fp k = fp k := by unfold pick; rw [if_neg h]
/-- one slot anew -/
theorem Sl.build {F' H' : Hp} {σ' : L2.St} {s : Slot} {as : List Addr} {fp : Nat → List Addr} (i : Nat) (ex : Ex F' H') (kb : Ex B H') (kf : ∀ a, B a ≠ none → F' a = F0 a) (len : σ'.length = ρ.length)
    (f1 : ∀ i j a, a ∈ fp i → a ∈ fp j → i = j) (f2 : ∀ j a, j ≠ i → a ∈ fp j → F' a = none ∧ B a = none ∧ H' a ≠ none) (dis : ∀ j a, j ≠ i → a ∈ as → a ∉ fp j) (n : ∀ a ∈ as, F' a = none ∧ B a = none ∧ H' a ≠ none)
    (f3 : ∀ j s, j ≠ i → ρ[j]? = some s → SlotOk K F' H' (at' σ' j) s (fp j)) (hi : i < ρ.length → SlotOk K F' H' (at' σ' i) s as) : Sl K B F0 F' H' σ' (ρ.set i s) := by
  refine ⟨ex, kb, kf, by rw [List.length_set]; exact len, pick i as fp, fun j k a hj hk => ?_, fun j a hj => ?_, fun j t e => ?_⟩
  · by_cases e1 : j = i
    · by_cases e2 : k = i
      · rw [e1, e2]
      · rw [e1, pick_same] at hj; rw [pick_ne e2] at hk; exact absurd hk (dis k a e2 hj)
    · by_cases e2 : k = i
      · rw [pick_ne e1] at hj; rw [e2, pick_same] at hk; exact absurd hj (dis j a e1 hk)
      · rw [pick_ne e1] at hj; rw [pick_ne e2] at hk; exact f1 j k a hj hk
  · by_cases e1 : j = i
    · rw [e1, pick_same] at hj; exact n a hj
    · rw [pick_ne e1] at hj; exact f2 j a e1 hj
  · by_cases e1 : j = i
    · subst e1
      have hl : j < ρ.length := by
        have q := (List.getElem?_eq_some_iff.mp e).1
        rwa [List.length_set] at q
      rw [List.getElem?_set_self hl] at e
      cases e
      rw [pick_same]
      exact hi hl
    · rw [List.getElem?_set_ne (Ne.symm e1)] at e
      rw [pick_ne e1]
      exact f3 j t e1 e
/-- a fresh thing -/
theorem Sl.setNew {s : Slot} {v : V} {as : List Addr} (S : Sl K B F0 F H σ ρ) (g : Grow F H G H') (i : Nat) (h : SlotOk K G H' (some v) s as) (n : ∀ a ∈ as, H a = none ∧ G a = none ∧ H' a ≠ none) : Sl K B F0 G H' (σ.set i (some v)) (ρ.set i s) := by
  have S' := S.grow g
  obtain ⟨fp, f1, f2, f3⟩ := S.fp
  have z : ∀ i a, a ∈ fp i → G a = none := fun i a h => by rw [g.fr a (f2 i a h).2.2]; exact (f2 i a h).1
  refine Sl.build (as := as) (fp := fp) i S'.ex S'.kb S'.kf (by rw [List.length_set]; exact S.len) f1 (fun j a _ hj => ⟨z j a hj, (f2 j a hj).2.1, Ex.someOf g.hh (f2 j a hj).2.2⟩) (fun j a _ ha hf => (f2 j a hf).2.2 (n a ha).1)
    (fun a ha => ⟨(n a ha).2.1, Ex.noneOf S.kb (n a ha).1, (n a ha).2.2⟩) (fun j t e1 e => ?_) (fun hl => by rw [at_set_same (by rw [S.len]; exact hl)]; exact h)
  rw [at_set_ne (Ne.symm e1)]
  refine (f3 j t e).mono g.ff (fun a h => ?_) (z j)
  have q := (f2 j a h).2.2
  cases e2 : H a with
  | none => exact absurd e2 q
  | some o => exact g.hh a o e2
theorem Sl.setDa {d : PyData} {v : V} (S : Sl K B F0 F H σ ρ) (i : Nat) (h : Dv F v d) : Sl K B F0 F H (σ.set i (some v)) (ρ.set i (.da d)) :=
  S.setNew (Grow.refl S.ex) i (as := []) ⟨rfl, v, rfl, h⟩ fun _ h => nomatch h
theorem Sl.setUn (S : Sl K B F0 F H σ ρ) (i : Nat) (v : Option V) : Sl K B F0 F H (σ.set i v) (ρ.set i .un) := by
  obtain ⟨fp, f1, f2, f3⟩ := S.fp
  refine Sl.build (as := []) (fp := fp) i S.ex S.kb S.kf (by rw [List.length_set]; exact S.len) f1 (fun j a _ hj => f2 j a hj) (fun _ _ _ h => nomatch h) (fun _ h => nomatch h) (fun j t e1 e => ?_) fun _ => rfl
  rw [at_set_ne (Ne.symm e1)]
  exact f3 j t e
/-- a slot is forgotten -/
theorem Sl.drop (S : Sl K B F0 F H σ ρ) (i : Nat) : Sl K B F0 F H σ (ρ.set i .un) := by
  obtain ⟨fp, f1, f2, f3⟩ := S.fp
  exact Sl.build (as := []) (fp := fp) i S.ex S.kb S.kf S.len f1 (fun j a _ hj => f2 j a hj) (fun _ _ _ h => nomatch h) (fun _ h => nomatch h) (fun j t _ e => f3 j t e) fun _ => rfl
theorem Sl.da {i : Nat} {d : PyData} (S : Sl K B F0 F H σ ρ) (h : ρ[i]? = some (.da d)) : ∃ v, σ[i]? = some (some v) ∧ Dv F v d := by
  obtain ⟨fp, f1, f2, f3⟩ := S.fp
  obtain ⟨_, v, h2, h3⟩ := f3 i _ h
  exact ⟨v, at_get h2, h3⟩
theorem Sl.ow {i : Nat} {ds : List PyData} (S : Sl K B F0 F H σ ρ) (h : ρ[i]? = some (.ow ds)) : ∃ a vs, σ[i]? = some (some (.ref a)) ∧ H a = some (.lst vs) ∧ DvAll F vs ds ∧ F a = none := by
  obtain ⟨fp, f1, f2, f3⟩ := S.fp
  obtain ⟨a, vs, h1, h2, h3, h4⟩ := f3 i _ h
  exact ⟨a, vs, at_get h2, h3, h4, (f2 i a (by rw [h1]; simp)).1⟩
/-- what is owned at i changes -/
theorem Sl.owMut {i : Nat} {ds ds' : List PyData} {a : Addr} {vs' : List V} (S : Sl K B F0 F H σ ρ) (h : ρ[i]? = some (.ow ds)) (ha : σ[i]? = some (some (.ref a))) (hd : DvAll F vs' ds') : Sl K B F0 F (upd H a (.lst vs')) σ (ρ.set i (.ow ds')) := by
  obtain ⟨fp, f1, f2, f3⟩ := S.fp
  obtain ⟨a', vs, h1, h2, h3, h4⟩ := f3 i _ h
  have ea : a' = a := by
    have q := at_get h2
    rw [q] at ha
    cases ha
    rfl
  subst ea
  have hm : a' ∈ fp i := by rw [h1]; simp
  obtain ⟨n1, n2, n3⟩ := f2 i a' hm
  have ne : ∀ j b, j ≠ i → b ∈ fp j → b ≠ a' := fun j b hj hb e => by subst e; exact hj (f1 j i b hb hm)
  refine Sl.build (as := fp i) (fp := fp) i (S.ex.mut n1) (S.kb.mut n2) S.kf S.len f1 (fun j b hj hb => ⟨(f2 j b hb).1, (f2 j b hb).2.1, by rw [upd_ne (ne j b hj hb)]; exact (f2 j b hb).2.2⟩) (fun j b hj hb hb' => hj (f1 j i b hb' hb))
    (fun b hb => ?_) (fun j t e1 e => (f3 j t e).mono (Ex.refl F) (fun b hb => upd_ne (ne j b e1 hb)) fun b hb => (f2 j b hb).1) fun _ => ⟨a', vs', h1, h2, upd_same, hd⟩
  rw [h1] at hb
  have e : b = a' := by simpa using hb
  subst e
  exact ⟨n1, n2, by rw [upd_same]; intro z; cases z⟩
/-- what is owned at i is frozen -/
theorem Sl.freeze {i : Nat} {ds : List PyData} (S : Sl K B F0 F H σ ρ) (h : ρ[i]? = some (.ow ds)) : ∃ F', Ex F F' ∧ Sl K B F0 F' H σ (ρ.set i (.da (.list ds))) := by
  obtain ⟨fp, f1, f2, f3⟩ := S.fp
  obtain ⟨a, vs, h1, h2, h3, h4⟩ := f3 i _ h
  have hm : a ∈ fp i := by rw [h1]; simp
  obtain ⟨n1, n2, n3⟩ := f2 i a hm
  have e1 : Ex F (upd F a (.lst vs)) := Ex.new n1
  have ne : ∀ j b, j ≠ i → b ∈ fp j → b ≠ a := fun j b hj hb e => by subst e; exact hj (f1 j i b hb hm)
  refine ⟨upd F a (.lst vs), e1, Sl.build (as := []) (fp := fp) i (fun b o q => ?_) S.kb (fun b hb => ?_) S.len f1 (fun j b hj hb => ⟨by rw [upd_ne (ne j b hj hb)]; exact (f2 j b hb).1, (f2 j b hb).2⟩) (fun _ _ _ h => nomatch h) (fun _ h => nomatch h)
    (fun j t e2 e => (f3 j t e).mono e1 (fun b _ => rfl) fun b hb => by rw [upd_ne (ne j b e2 hb)]; exact (f2 j b hb).1) fun _ => ⟨rfl, _, h2, .lst upd_same (h4.mono e1)⟩⟩
  · by_cases z : b = a
    · subst z; rw [upd_same] at q; rw [h3]; exact q
    · rw [upd_ne z] at q; exact S.ex b o q
  · rw [upd_ne (fun z => by subst z; exact hb n2)]; exact S.kf b hb
/-- all that is owned as a list, read -/
def starS : Slot → Slot
  | .ow ds => .da (.list ds)
  | s => s
def star (ρ : Env') : Env' := ρ.map starS
theorem star_get {i : Nat} {s : Slot} (h : ρ[i]? = some s) : (star ρ)[i]? = some (starS s) := by
  unfold star
  rw [List.getElem?_map, h]
  rfl
theorem Sl.starAt (S : Sl K B F0 F H σ ρ) : ∀ n, n ≤ ρ.length → ∃ F', Ex F F' ∧ Sl K B F0 F' H σ (star (ρ.take n) ++ ρ.drop n)
  | 0, _ => ⟨F, Ex.refl F, by simpa [star] using S⟩
  | n + 1, hn => by
    obtain ⟨F1, e1, S1⟩ := Sl.starAt S n (by omega)
    have hlt : n < ρ.length := by omega
    have eq : star (ρ.take n) ++ ρ.drop n = star (ρ.take n) ++ (ρ[n] :: ρ.drop (n + 1)) := by rw [List.drop_eq_getElem_cons hlt]
    have eq2 : star (ρ.take (n + 1)) ++ ρ.drop (n + 1) = star (ρ.take n) ++ (starS ρ[n] :: ρ.drop (n + 1)) := by
      rw [List.take_succ_eq_append_getElem hlt]
      unfold star
      rw [List.map_append, List.append_assoc]
      rfl
    have hl : (star (ρ.take n)).length = n := by unfold star; rw [List.length_map, List.length_take]; omega
    rw [eq] at S1
    rw [eq2]
    cases hs : ρ[n] with
    | ow ds =>
      rw [hs] at S1
      have g : (star (ρ.take n) ++ (Slot.ow ds :: ρ.drop (n + 1)))[n]? = some (.ow ds) := by
        rw [List.getElem?_append_right (by omega), hl, Nat.sub_self]
        rfl
      obtain ⟨F2, e2, S2⟩ := S1.freeze g
      refine ⟨F2, e1.trans e2, ?_⟩
      rw [List.set_append_right _ _ (by omega), hl, Nat.sub_self] at S2
      exact S2
    | un => rw [hs] at S1; exact ⟨F1, e1, S1⟩
    | da d => rw [hs] at S1; exact ⟨F1, e1, S1⟩
    | scr d => rw [hs] at S1; exact ⟨F1, e1, S1⟩
    | ext d => rw [hs] at S1; exact ⟨F1, e1, S1⟩
theorem Sl.star (S : Sl K B F0 F H σ ρ) : ∃ F', Ex F F' ∧ Sl K B F0 F' H σ (Mx.star ρ) := by
  obtain ⟨F', e, S'⟩ := S.starAt ρ.length (Nat.le_refl _)
  rw [List.take_length, List.drop_length, List.append_nil] at S'
  exact ⟨F', e, S'⟩
end
end Mx

set_option Elab.async false
set_option linter.all false
set_option maxRecDepth 100000
/-! Mx3: expressions over data environments. -/
namespace Mx
open PySem PySem.Spec PyProof.Rows L2

def Kont (K : PySem.W.Frag) (F H : Hp) (s : Slot) (Q : VK) : Prop := ∀ v G H' as, Grow F H G H' → SlotOk K G H' (some v) s as → (∀ a ∈ as, H a = none ∧ G a = none ∧ H' a ≠ none) → Q v H'
section
variable {K : PySem.W.Frag} {F H G H1 H' : Hp} {s : Slot} {Q : VK}
theorem Kont.da {d : PyData} {v : V} (k : Kont K F H (.da d) Q) (g : Grow F H G H') (h : Dv G v d) : Q v H' := k v G H' [] g ⟨rfl, v, rfl, h⟩ fun _ h => nomatch h
theorem Kont.go (k : Kont K F H s Q) (g : Grow F H G H1) : Kont K G H1 s Q := fun v G' H' as g' ok n => k v G' H' as (g.trans g') ok fun a ha => ⟨Ex.noneOf g.hh (n a ha).1, (n a ha).2⟩
theorem Kont.here {d : PyData} {v : V} (k : Kont K F H (.da d) Q) (e : Ex F H) (h : Dv F v d) : Q v H := k.da (Grow.refl e) h
/-- a new list of one's own -/
theorem Kont.ow {ds : List PyData} {vs : List V} {p : Addr} (k : Kont K F H (.ow ds) Q) (g : Grow F H G H1) (hp : H1 p = none) (h : DvAll G vs ds) : Q (.ref p) (upd H1 p (.lst vs)) :=
  k (.ref p) G _ [p] (g.loose hp) ⟨p, vs, rfl, rfl, upd_same, h⟩ fun a ha => by
    have e : a = p := by simpa using ha
    subst e
    exact ⟨Ex.noneOf g.hh hp, Ex.noneOf g.fh hp, by rw [upd_same]; intro z; cases z⟩
/-- a new tuple -/
theorem Kont.tup {ds : List PyData} {vs : List V} {p : Addr} (k : Kont K F H (.da (.tuple ds)) Q) (g : Grow F H G H1) (hp : H1 p = none) (h : DvAll G vs ds) : Q (.ref p) (upd H1 p (.tup vs)) :=
  k.da (g.new (o := .tup vs) hp) (.tup upd_same (h.mono (Ex.new (Ex.noneOf g.fh hp))))
end

section
variable (X : Cx)
structure EX (e : Expr) (ρ : Env') (s : Slot) : Prop where
  run : ∀ B F0 F H σ Q, Sl X.K B F0 F H σ ρ → Kont X.K F H s Q → wE X e σ H Q
structure ET (e : Expr) (ρ : Env') (b : Bool) : Prop where
  run : ∀ B F0 F H σ (Q : Bool → Hp → Prop), Sl X.K B F0 F H σ ρ → (∀ G H', Grow F H G H' → Q b H') → wT X e σ H Q
structure EW (e : Expr) (ρ : Env') (b : Bool) : Prop where
  run : ∀ B F0 F H σ (Q : Bool → Hp → Prop), Sl X.K B F0 F H σ ρ → (∀ G H', Grow F H G H' → Q b H') → wW X e σ H Q
structure EA (es : List Expr) (ρ : Env') (ds : List PyData) : Prop where
  run : ∀ B F0 F H σ (Q : List V → Hp → Prop), Sl X.K B F0 F H σ ρ → (∀ vs G H', Grow F H G H' → DvAll G vs ds → Q vs H') → wA X es σ H Q
/-- operations on values -/
def OpD (f : Value → Value → Sem Value) (d1 d2 : PyData) (s : Slot) : Prop := ∃ r, OpR X f r ∧ ∀ F H x y Q, Ex F H → Dv F x d1 → Dv F y d2 → Kont X.K F H s Q → r x y H Q
structure BinD (op : Operator) (d1 d2 : PyData) (s : Slot) : Prop where
  it : OpD X (binaryOp op) d1 d2 s
structure CmpD (op : CmpOp) (d1 d2 : PyData) (s : Slot) : Prop where
  it : OpD X (compareOp op) d1 d2 s
structure CallD (f : Value) (ds : List PyData) (s : Slot) : Prop where
  it : ∃ r, CallR X f r ∧ ∀ F H vs Q, Ex F H → DvAll F vs ds → Kont X.K F H s Q → r vs H Q
end
section
variable {X : Cx} {ρ : Env'} {a b c e : Expr} {es rest : List Expr} {pos p : Pos} {d d1 d2 : PyData} {s : Slot} {ds : List PyData} {x : Str}
theorem EX.use {B F0 F H : Hp} {σ : L2.St} {Q : VK} (h : EX X e ρ (.da d)) (S : Sl X.K B F0 F H σ ρ) (k : ∀ v G H', Grow F H G H' → Dv G v d → Sl X.K B F0 G H' σ ρ → Q v H') : wE X e σ H Q :=
  h.run B F0 F H σ Q S fun v G H' as g ok _ => by
    obtain ⟨_, u, e1, hu⟩ := ok
    cases e1
    exact k v G H' g hu (S.grow g)
theorem ET.use {B F0 F H : Hp} {σ : L2.St} {b : Bool} {Q : Bool → Hp → Prop} (h : ET X e ρ b) (S : Sl X.K B F0 F H σ ρ) (k : ∀ G H', Grow F H G H' → Sl X.K B F0 G H' σ ρ → Q b H') : wT X e σ H Q :=
  h.run B F0 F H σ Q S fun G H' g => k G H' g (S.grow g)
theorem EA.use {B F0 F H : Hp} {σ : L2.St} {Q : List V → Hp → Prop} (h : EA X es ρ ds) (S : Sl X.K B F0 F H σ ρ) (k : ∀ vs G H', Grow F H G H' → DvAll G vs ds → Sl X.K B F0 G H' σ ρ → Q vs H') : wA X es σ H Q :=
  h.run B F0 F H σ Q S fun vs G H' g hv => k vs G H' g hv (S.grow g)
theorem EX.is {d' : PyData} (h : EX X e ρ (.da d)) (q : d = d') : EX X e ρ (.da d') := q ▸ h
theorem ET.is {b b' : Bool} (h : ET X e ρ b) (q : b = b') : ET X e ρ b' := q ▸ h

/-! ### own lists read -/
theorem ex_star (h : EX X e (star ρ) (.da d)) (f : flatD d = true) : EX X e ρ (.da d) := .mk fun B F0 F H σ Q S k => by
  obtain ⟨F', e1, S'⟩ := S.star
  exact h.use S' fun v G H' g hv _ => k.da (G := F) ⟨Ex.refl F, g.hh, S.ex.trans g.hh, fun _ _ => rfl⟩ (hv.flat f)
theorem et_star {b : Bool} (h : ET X e (star ρ) b) : ET X e ρ b := .mk fun B F0 F H σ Q S k => by
  obtain ⟨F', e1, S'⟩ := S.star
  exact h.use S' fun G H' g _ => k F H' ⟨Ex.refl F, g.hh, S.ex.trans g.hh, fun _ _ => rfl⟩
/-- what is owned, given away -/
theorem ex_freeze (h : EX X e ρ (.ow ds)) : EX X e ρ (.da (.list ds)) := .mk fun B F0 F H σ Q S k => h.run B F0 F H σ Q S fun v G H' as g ok n => by
  obtain ⟨a, vs, rfl, ev, ha, hd⟩ := ok
  cases ev
  have nn := n a (by simp)
  have e1 : Ex G (upd G a (.lst vs)) := Ex.new nn.2.1
  refine k.da (G := upd G a (.lst vs)) ⟨g.ff.trans e1, g.hh, fun b o q => ?_, fun b hb => ?_⟩ (.lst upd_same (hd.mono e1))
  · by_cases z : b = a
    · subst z; rw [upd_same] at q; rw [ha]; exact q
    · rw [upd_ne z] at q; exact g.fh b o q
  · rw [upd_ne (fun z => by subst z; exact hb nn.1)]; exact g.fr b hb

/-! ### names and constants -/
theorem ex_name (i : Nat) (h : ρ[i]? = some (.da d)) (hN : X.N[i]? = some x := by rfl) (hv : nameOk X.env.scope x = true := by kernel_rfl) : EX X (.Name x pos) ρ (.da d) := .mk fun B F0 F H σ Q S k => by
  obtain ⟨v, e1, hv'⟩ := S.da h
  exact PEw (pv i hN (nameOk_vis hv) (nameOk_d hv) (nameOk_c hv)) ⟨v, e1, k.here S.ex hv'⟩
theorem ex_int {i j} : EX X (.Constant (.int i) j pos) ρ (.da (.int i)) := .mk fun B F0 F H σ Q S k => PEw pe_int (k.here S.ex (.int i))
theorem ex_bl {i j} : EX X (.Constant (.bool i) j pos) ρ (.da (.bool i)) := .mk fun B F0 F H σ Q S k => PEw pe_bl (k.here S.ex (.bl i))
theorem ex_str {i j} : EX X (.Constant (.str i) j pos) ρ (.da (.str i)) := .mk fun B F0 F H σ Q S k => PEw pe_str (k.here S.ex (.str i))
theorem ex_non {j} : EX X (.Constant .none j pos) ρ (.da .none) := .mk fun B F0 F H σ Q S k => PEw pe_non (k.here S.ex .non)
theorem ex_globI {i : Int} {t : Tok} (hm : X.mg x = some (.int i t)) (hg : Gl X x := by exact gl_of (by kernel_rfl)) (hd : (x == ("__debug__" : Str)) = false := by kernel_rfl) : EX X (.Name x pos) ρ (.da (.int i)) := .mk fun B F0 F H σ Q S k =>
  PEw (pe_glob (v := .int i) hg hm ⟨t, rfl⟩ hd) (k.here S.ex (.int i))
theorem ex_globS {i : Str} {t : Tok} (hm : X.mg x = some (.str i t)) (hg : Gl X x := by exact gl_of (by kernel_rfl)) (hd : (x == ("__debug__" : Str)) = false := by kernel_rfl) : EX X (.Name x pos) ρ (.da (.str i)) := .mk fun B F0 F H σ Q S k =>
  PEw (pe_glob (v := .str i) hg hm ⟨t, rfl⟩ hd) (k.here S.ex (.str i))

/-! ### operators -/
theorem ex_bin {op : Operator} (ha : EX X a ρ (.da d1)) (hb : EX X b ρ (.da d2)) (o : BinD X op d1 d2 s) : EX X (.BinOp a op b pos) ρ s := .mk fun B F0 F H σ Q S k => by
  obtain ⟨r, hr, hq⟩ := o.it
  refine PEw (pe_op hr pe_w pe_w) (ha.use S fun v1 G1 H1 g1 h1 S1 => hb.use S1 fun v2 G2 H2 g2 h2 S2 => ?_)
  exact hq G2 H2 v1 v2 Q S2.ex (h1.mono g2.ff) h2 (k.go (g1.trans g2))
theorem ex_cmp {op : CmpOp} (ha : EX X a ρ (.da d1)) (hb : EX X b ρ (.da d2)) (o : CmpD X op d1 d2 s) (hm : behindInMarks op b = false := by first | exact nomark _ | rfl) : EX X (.Compare a [op] [b] pos) ρ s := .mk fun B F0 F H σ Q S k => by
  obtain ⟨r, hr, hq⟩ := o.it
  refine PEw (pe_cmpR hr pe_w pe_w hm) (ha.use S fun v1 G1 H1 g1 h1 S1 => hb.use S1 fun v2 G2 H2 g2 h2 S2 => ?_)
  exact hq G2 H2 v1 v2 Q S2.ex (h1.mono g2.ff) h2 (k.go (g1.trans g2))
theorem et_cmp {op : CmpOp} {t : Bool} (ha : EX X a ρ (.da d1)) (hb : EX X b ρ (.da d2)) (o : CmpD X op d1 d2 (.da (.bool t))) (hm : behindInMarks op b = false := by first | exact nomark _ | rfl) : ET X (.Compare a [op] [b] pos) ρ t := .mk fun B F0 F H σ Q S k => by
  obtain ⟨r, hr, hq⟩ := o.it
  refine PTw (pt_cmpR hr pe_w pe_w hm) (ha.use S fun v1 G1 H1 g1 h1 S1 => hb.use S1 fun v2 G2 H2 g2 h2 S2 => ?_)
  refine hq G2 H2 v1 v2 _ S2.ex (h1.mono g2.ff) h2 fun v G' H' as g ok n => ?_
  obtain ⟨_, u, e1, hu⟩ := ok
  cases e1
  exact ⟨t, hu.ebl, k G' H' ((g1.trans g2).trans g)⟩
/-- a < b < c -/
theorem ex_chain {op op' : CmpOp} {t t' : Bool} {d3 : PyData} (ha : EX X a ρ (.da d1)) (hb : EX X b ρ (.da d2)) (hc : t = true → EX X c ρ (.da d3)) (o : CmpD X op d1 d2 (.da (.bool t))) (o' : t = true → CmpD X op' d2 d3 (.da (.bool t')))
    (hm : lastMarks [op, op'] [b, c] = false := by with_unfolding_all rfl) : EX X (.Compare a [op, op'] [b, c] pos) ρ (.da (.bool (t && t'))) := .mk fun B F0 F H σ Q S k => by
  obtain ⟨r, hr, hq⟩ := o.it
  cases t with
  | false =>
    refine PEw (pe_chain (r' := fun _ _ _ _ => False) hr (fun _ _ _ _ _ _ _ _ _ _ _ _ h => h.elim) pe_w pe_w pe_w hm) (ha.use S fun v1 G1 H1 g1 h1 S1 => hb.use S1 fun v2 G2 H2 g2 h2 S2 => ?_)
    refine hq G2 H2 v1 v2 _ S2.ex (h1.mono g2.ff) h2 fun v G' H' as g ok n => ?_
    obtain ⟨_, u, e1, hu⟩ := ok
    cases e1
    refine ⟨false, hu.ebl, ?_⟩
    simp only [Bool.false_eq_true, if_false]
    exact k.da ((g1.trans g2).trans g) (.bl false)
  | true =>
    obtain ⟨r', hr', hq'⟩ := (o' rfl).it
    refine PEw (pe_chain hr hr' pe_w pe_w pe_w hm) (ha.use S fun v1 G1 H1 g1 h1 S1 => hb.use S1 fun v2 G2 H2 g2 h2 S2 => ?_)
    refine hq G2 H2 v1 v2 _ S2.ex (h1.mono g2.ff) h2 fun v G' H' as g ok n => ?_
    obtain ⟨_, u, e1, hu⟩ := ok
    cases e1
    refine ⟨true, hu.ebl, ?_⟩
    simp only [if_true]
    refine (hc rfl).use (S2.grow g) fun v3 G3 H3 g3 h3 S3 => ?_
    exact hq' G3 H3 v2 v3 _ S3.ex ((h2.mono g.ff).mono g3.ff) h3 (k.go (((g1.trans g2).trans g).trans g3))

/-! ### and, or, not, if -/
theorem ex_one {op} (h : EX X a ρ s) : EX X (.BoolOp op [a] pos) ρ s := .mk fun B F0 F H σ Q S k => PEw (pe_one pe_w) (h.run B F0 F H σ Q S k)
theorem ex_and {t u : Bool} (ha : EX X a ρ (.da (.bool t))) (hb : t = true → EX X (.BoolOp .And (b :: rest) pos) ρ (.da (.bool u))) : EX X (.BoolOp .And (a :: b :: rest) pos) ρ (.da (.bool (t && u))) := .mk fun B F0 F H σ Q S k => by
  refine PEw (pe_and pe_w pe_w) (ha.use S fun v1 G1 H1 g1 h1 S1 => ⟨t, h1.ebl, ?_⟩)
  cases t with
  | true => simp only [if_true]; exact (hb rfl).run B F0 G1 H1 σ Q S1 (k.go g1)
  | false => simp only [Bool.false_eq_true, if_false]; exact k.da g1 (.bl false)
theorem ex_or {t u : Bool} (ha : EX X a ρ (.da (.bool t))) (hb : t = false → EX X (.BoolOp .Or (b :: rest) pos) ρ (.da (.bool u))) : EX X (.BoolOp .Or (a :: b :: rest) pos) ρ (.da (.bool (t || u))) := .mk fun B F0 F H σ Q S k => by
  refine PEw (pe_or pe_w pe_w) (ha.use S fun v1 G1 H1 g1 h1 S1 => ⟨t, h1.ebl, ?_⟩)
  cases t with
  | false => simp only [Bool.false_eq_true, if_false]; exact (hb rfl).run B F0 G1 H1 σ Q S1 (k.go g1)
  | true => simp only [if_true]; exact k.da g1 (.bl true)
theorem ex_not {t : Bool} (ha : EX X a ρ (.da (.bool t))) : EX X (.UnaryOp .Not a pos) ρ (.da (.bool (!t))) := .mk fun B F0 F H σ Q S k =>
  PEw (pe_not pe_w) (ha.use S fun v1 G1 H1 g1 h1 S1 => ⟨t, h1.ebl, k.da g1 (.bl _)⟩)
theorem ex_if {t : Bool} (hc : ET X c ρ t) (ha : t = true → EX X a ρ s) (hb : t = false → EX X b ρ s) : EX X (.IfExp c a b pos) ρ s := .mk fun B F0 F H σ Q S k => by
  refine PEw (pe_ifExp pt_w pe_w pe_w) (hc.use S fun G1 H1 g1 S1 => ?_)
  cases t with
  | true => simp only [if_true]; exact (ha rfl).run B F0 G1 H1 σ Q S1 (k.go g1)
  | false => simp only [Bool.false_eq_true, if_false]; exact (hb rfl).run B F0 G1 H1 σ Q S1 (k.go g1)
theorem et_val {t : Bool} (h : EX X e ρ (.da (.bool t))) (he : ∀ whole, isTrue e X.env whole = (do let v ← whole; standAt e.pos; holding [v] (truthy v)) := by intro _; rfl) : ET X e ρ t := .mk fun B F0 F H σ Q S k =>
  PTw (pt_val pe_w he) (h.use S fun v1 G1 H1 g1 h1 S1 => ⟨t, h1.ebl, k G1 H1 g1⟩)
theorem et_W {t : Bool} (h : EW X e ρ t) : ET X e ρ t := .mk fun B F0 F H σ Q S k => PTw (PW.pt pw_w) (h.run B F0 F H σ Q S k)
theorem ew_and1 {t : Bool} (h : ET X a ρ t) : EW X (.BoolOp .And [a] pos) ρ t := .mk fun B F0 F H σ Q S k => PWw (pw_and1 pt_w) (h.run B F0 F H σ Q S k)
theorem ew_or1 {t : Bool} (h : ET X a ρ t) : EW X (.BoolOp .Or [a] pos) ρ t := .mk fun B F0 F H σ Q S k => PWw (pw_or1 pt_w) (h.run B F0 F H σ Q S k)
theorem ew_and {t u : Bool} (ha : ET X a ρ t) (hb : t = true → EW X (.BoolOp .And (b :: rest) pos) ρ u) : EW X (.BoolOp .And (a :: b :: rest) pos) ρ (t && u) := .mk fun B F0 F H σ Q S k => by
  refine PWw (pw_and pt_w pw_w) (ha.use S fun G1 H1 g1 S1 => ?_)
  cases t with
  | true => simp only [if_true]; exact (hb rfl).run B F0 G1 H1 σ Q S1 fun G2 H2 g2 => k G2 H2 (g1.trans g2)
  | false => simp only [Bool.false_eq_true, if_false]; exact k G1 H1 g1
theorem ew_or {t u : Bool} (ha : ET X a ρ t) (hb : t = false → EW X (.BoolOp .Or (b :: rest) pos) ρ u) : EW X (.BoolOp .Or (a :: b :: rest) pos) ρ (t || u) := .mk fun B F0 F H σ Q S k => by
  refine PWw (pw_or pt_w pw_w) (ha.use S fun G1 H1 g1 S1 => ?_)
  cases t with
  | false => simp only [Bool.false_eq_true, if_false]; exact (hb rfl).run B F0 G1 H1 σ Q S1 fun G2 H2 g2 => k G2 H2 (g1.trans g2)
  | true => simp only [if_true]; exact k G1 H1 g1
theorem et_not {t : Bool} (h : ET X a ρ t) : ET X (.UnaryOp .Not a pos) ρ (!t) := .mk fun B F0 F H σ Q S k => PTw (pt_not pt_w) (h.run B F0 F H σ (fun c H1 => Q (!c) H1) S k)

/-! ### argument lists, displays, calls of built-ins -/
theorem ea_nil : EA X [] ρ [] := .mk fun B F0 F H σ Q S k => PAw pa_nil (k [] F H (Grow.refl S.ex) .nil)
theorem ea_cons (ha : EX X e ρ (.da d)) (hr : EA X es ρ ds) (hs : starEach (e :: es) X.env = (false, eval e X.env) :: starEach es X.env := by exact star_cons rfl) : EA X (e :: es) ρ (d :: ds) := .mk fun B F0 F H σ Q S k =>
  PAw (pa_cons pe_w pa_w hs) (ha.use S fun v1 G1 H1 g1 h1 S1 => hr.use S1 fun vs G2 H2 g2 h2 S2 => k (v1 :: vs) G2 H2 (g1.trans g2) (.cons (h1.mono g2.ff) h2))
theorem ex_tup {x1} (h : EA X es ρ ds) (hz : ds.length ≤ 100000 := by simp) : EX X (.Tuple es x1 pos) ρ (.da (.tuple ds)) := .mk fun B F0 F H σ Q S k =>
  PEw (pe_tup pa_w) (h.use S fun vs G1 H1 g1 h1 S1 => ⟨by rw [h1.length]; exact sz_of hz, fun p hp => k.tup g1 hp h1⟩)
theorem ex_lst (h : EA X es ρ ds) (hz : ds.length ≤ 100000 := by simp) : EX X (.List es pos) ρ (.ow ds) := .mk fun B F0 F H σ Q S k =>
  PEw (pe_lst pa_w) (h.use S fun vs G1 H1 g1 h1 S1 => ⟨by rw [h1.length]; exact sz_of hz, fun p hp => k.ow g1 hp h1⟩)
theorem ex_callB {id : String} (ha : EA X (e :: es) ρ ds) (o : CallD X (.builtin id) ds s) (hm : X.mg x = none) (hg : Gl X x := by exact gl_of (by kernel_rfl)) (hv : bootBuiltins x = some (.builtin id) := by kernel_rfl) (hok : globOk x = true := by kernel_rfl)
    (he : starEach (e :: es) X.env = (false, eval e X.env) :: starEach es X.env := by exact star_cons rfl) (hpl : (backTo pos (starEach es X.env)).any (·.1) = false := by exact star_none rfl) : EX X (.Call (.Name x p) (e :: es) [] pos) ρ s := .mk fun B F0 F H σ Q S k => by
  obtain ⟨r, hr, hq⟩ := o.it
  exact PEw (pe_callB hr hg hm hv pa_w (globOk_n hok) (globOk_d hok) he hpl) (ha.use S fun vs G1 H1 g1 h1 S1 => hq G1 H1 vs Q S1.ex h1 (k.go g1))
theorem ex_callTy {T : String} (ha : EA X (e :: es) ρ ds) (o : CallD X (.type T) ds s) (hm : X.mg x = none) (hg : Gl X x := by exact gl_of (by kernel_rfl)) (hv : bootBuiltins x = some (.type T) := by kernel_rfl) (hok : globOk x = true := by kernel_rfl)
    (he : starEach (e :: es) X.env = (false, eval e X.env) :: starEach es X.env := by exact star_cons rfl) (hpl : (backTo pos (starEach es X.env)).any (·.1) = false := by exact star_none rfl) : EX X (.Call (.Name x p) (e :: es) [] pos) ρ s := .mk fun B F0 F H σ Q S k => by
  obtain ⟨r, hr, hq⟩ := o.it
  exact PEw (pe_callTy hr hg hm hv pa_w (globOk_n hok) (globOk_d hok) he hpl) (ha.use S fun vs G1 H1 g1 h1 S1 => hq G1 H1 vs Q S1.ex h1 (k.go g1))
end

/-! ### operators on data -/
section
variable {X : Cx} {i j : Int} {d1 d2 : PyData} {ds es : List PyData}
theorem od_add : BinD X .Add (.int i) (.int j) (.da (.int (i + j))) := .mk ⟨_, op_add, fun F H x y Q e hx hy k => ⟨i, j, hx.eint, hy.eint, k.here e (.int _)⟩⟩
theorem od_sub : BinD X .Sub (.int i) (.int j) (.da (.int (i - j))) := .mk ⟨_, op_sub, fun F H x y Q e hx hy k => ⟨i, j, hx.eint, hy.eint, k.here e (.int _)⟩⟩
theorem od_mod (hj : 0 < j) : BinD X .Mod (.int i) (.int j) (.da (.int (i % j))) := .mk ⟨_, op_mod, fun F H x y Q e hx hy k => ⟨i, j, hx.eint, hy.eint, hj, k.here e (.int _)⟩⟩
theorem od_fdiv (hj : 0 < j) (hz : j < 1073741824) : BinD X .FloorDiv (.int i) (.int j) (.da (.int (i / j))) := .mk ⟨_, op_fdiv, fun F H x y Q e hx hy k => ⟨i, j, hx.eint, hy.eint, ⟨hj, hz⟩, k.here e (.int _)⟩⟩
theorem od_pow (hj : 0 ≤ j ∧ j ≤ 1000000 ∧ i.natAbs < 2 ^ 64) : BinD X .Pow (.int i) (.int j) (.da (.int (i ^ j.toNat))) := .mk ⟨_, op_pow, fun F H x y Q e hx hy k => ⟨i, j, hx.eint, hy.eint, hj, k.here e (.int _)⟩⟩
theorem od_mulL (h : -(2 ^ 64) < i ∧ i < 2 ^ 64) : BinD X .Mult (.int i) (.int j) (.da (.int (i * j))) := .mk ⟨_, op_mul, fun F H x y Q e hx hy k => ⟨i, j, hx.eint, hy.eint, .inl h, k.here e (.int _)⟩⟩
theorem od_mulR (h : -(2 ^ 64) < j ∧ j < 2 ^ 64) : BinD X .Mult (.int i) (.int j) (.da (.int (i * j))) := .mk ⟨_, op_mul, fun F H x y Q e hx hy k => ⟨i, j, hx.eint, hy.eint, .inr h, k.here e (.int _)⟩⟩
theorem od_addS {x y : Str} (h : x.length + y.length ≤ 100000) : BinD X .Add (.str x) (.str y) (.da (.str (x ++ y))) := .mk ⟨_, op_add_str, fun F H u v Q e hx hy k => ⟨x, y, hx.estr, hy.estr, sz_of h, k.here e (.str _)⟩⟩
theorem od_cat (h : ds.length + es.length ≤ 100000) : BinD X .Add (.list ds) (.list es) (.ow (ds ++ es)) := .mk ⟨_, op_cat, fun F H u v Q e hx hy k => by
  obtain ⟨a, xs, rfl, h1, h2⟩ := hx.elst
  obtain ⟨b, ys, rfl, h3, h4⟩ := hy.elst
  exact ⟨a, b, xs, ys, rfl, rfl, e _ _ h1, e _ _ h3, by rw [h2.length, h4.length]; exact sz_of h, fun p hp => k.ow (Grow.refl e) hp (h2.append h4)⟩⟩
theorem oc_lt : CmpD X .Lt (.int i) (.int j) (.da (.bool (decide (i < j)))) := .mk ⟨_, op_lt, fun F H x y Q e hx hy k => ⟨i, j, hx.eint, hy.eint, k.here e (.bl _)⟩⟩
theorem oc_le : CmpD X .LtE (.int i) (.int j) (.da (.bool (decide (i ≤ j)))) := .mk ⟨_, op_le, fun F H x y Q e hx hy k => ⟨i, j, hx.eint, hy.eint, k.here e (.bl _)⟩⟩
theorem oc_gt : CmpD X .Gt (.int i) (.int j) (.da (.bool (decide (j < i)))) := .mk ⟨_, op_gt, fun F H x y Q e hx hy k => ⟨i, j, hx.eint, hy.eint, k.here e (.bl _)⟩⟩
theorem oc_ge : CmpD X .GtE (.int i) (.int j) (.da (.bool (decide (j ≤ i)))) := .mk ⟨_, op_ge, fun F H x y Q e hx hy k => ⟨i, j, hx.eint, hy.eint, k.here e (.bl _)⟩⟩
theorem oc_ltS {x y : Str} : CmpD X .Lt (.str x) (.str y) (.da (.bool (decide (x.cps.toList < y.cps.toList)))) := .mk ⟨_, op_lt_str, fun F H u v Q e hx hy k => ⟨x, y, hx.estr, hy.estr, k.here e (.bl _)⟩⟩
theorem oc_eq (hu : X.A.units + 64 < cLine) (h1 : Pl d1) (h2 : Pl d2) : CmpD X .Eq d1 d2 (.da (.bool (PyData.eqv d1 d2))) := .mk ⟨_, op_eqP hu, fun F H x y Q e hx hy k =>
  ⟨d1, d2, (hx.mono e).dp h1.1, (hy.mono e).dp h2.1, h1, h2, k.here e (.bl _)⟩⟩
theorem oc_ne (hu : X.A.units + 64 < cLine) (h1 : Pl d1) (h2 : Pl d2) : CmpD X .NotEq d1 d2 (.da (.bool (!PyData.eqv d1 d2))) := .mk ⟨_, op_neP hu, fun F H x y Q e hx hy k =>
  ⟨d1, d2, (hx.mono e).dp h1.1, (hy.mono e).dp h2.1, h1, h2, k.here e (.bl _)⟩⟩
theorem plain_list {ds : List PyData} (h : PyData.plainAll ds = true) : (PyData.list ds).plain = true := by simpa [PyData.plain] using h
theorem plain_tuple {ds : List PyData} (h : PyData.plainAll ds = true) : (PyData.tuple ds).plain = true := by simpa [PyData.plain] using h
theorem oc_in (hu : X.A.units + 64 < cLine) (h1 : Pl d1) (h2 : PyData.plainAll ds = true) : CmpD X .In d1 (.list ds) (.da (.bool (ds.any fun z => PyData.eqv z d1))) := .mk ⟨_, op_inP hu, fun F H x y Q e hx hy k =>
  ⟨d1, ds, (hx.mono e).dp h1.1, .inl ((hy.mono e).dp (plain_list h2)), h1, h2, k.here e (.bl _)⟩⟩
theorem oc_notin (hu : X.A.units + 64 < cLine) (h1 : Pl d1) (h2 : PyData.plainAll ds = true) : CmpD X .NotIn d1 (.list ds) (.da (.bool (!ds.any fun z => PyData.eqv z d1))) := .mk ⟨_, op_notInP hu, fun F H x y Q e hx hy k =>
  ⟨d1, ds, (hx.mono e).dp h1.1, .inl ((hy.mono e).dp (plain_list h2)), h1, h2, k.here e (.bl _)⟩⟩
theorem oc_inT (hu : X.A.units + 64 < cLine) (h1 : Pl d1) (h2 : PyData.plainAll ds = true) : CmpD X .In d1 (.tuple ds) (.da (.bool (ds.any fun z => PyData.eqv z d1))) := .mk ⟨_, op_inP hu, fun F H x y Q e hx hy k =>
  ⟨d1, ds, (hx.mono e).dp h1.1, .inr ((hy.mono e).dp (plain_tuple h2)), h1, h2, k.here e (.bl _)⟩⟩
theorem oc_notinT (hu : X.A.units + 64 < cLine) (h1 : Pl d1) (h2 : PyData.plainAll ds = true) : CmpD X .NotIn d1 (.tuple ds) (.da (.bool (!ds.any fun z => PyData.eqv z d1))) := .mk ⟨_, op_notInP hu, fun F H x y Q e hx hy k =>
  ⟨d1, ds, (hx.mono e).dp h1.1, .inr ((hy.mono e).dp (plain_tuple h2)), h1, h2, k.here e (.bl _)⟩⟩
def isNone : PyData → Bool
  | .none => true
  | _ => false
theorem oc_isN : CmpD X .Is d1 .none (.da (.bool (isNone d1))) := .mk ⟨_, op_isN, fun F H x y Q e hx hy k => ⟨hy.enon, by
  have z : decide (x = V.non) = isNone d1 := by cases hx <;> rfl
  rw [z]; exact k.here e (.bl _)⟩⟩
theorem oc_notN : CmpD X .IsNot d1 .none (.da (.bool (!isNone d1))) := .mk ⟨_, op_notN, fun F H x y Q e hx hy k => ⟨hy.enon, by
  have z : (!decide (x = V.non)) = !isNone d1 := by cases hx <;> rfl
  rw [z]; exact k.here e (.bl _)⟩⟩
/-! ### built-ins on data -/
theorem cd_lenL : CallD X (.builtin "len") [.list ds] (.da (.int ds.length)) := .mk ⟨_, call_len_seq, fun F H vs Q e hv k => by
  cases hv with
  | cons h r =>
    cases r
    obtain ⟨a, xs, rfl, h1, h2⟩ := h.elst
    refine ⟨a, xs, rfl, .inl (.inl (.inl (e _ _ h1))), ?_⟩
    rw [h2.length]
    exact k.here e (.int _)⟩
theorem cd_lenT : CallD X (.builtin "len") [.tuple ds] (.da (.int ds.length)) := .mk ⟨_, call_len_seq, fun F H vs Q e hv k => by
  cases hv with
  | cons h r =>
    cases r
    obtain ⟨a, xs, rfl, h1, h2⟩ := h.etup
    refine ⟨a, xs, rfl, .inr (.inl (.inl (e _ _ h1))), ?_⟩
    rw [h2.length]
    exact k.here e (.int _)⟩
theorem cd_list : CallD X (.type "list") [.list ds] (.ow ds) := .mk ⟨_, call_list_of, fun F H vs Q e hv k => by
  cases hv with
  | cons h r =>
    cases r
    obtain ⟨a, xs, rfl, h1, h2⟩ := h.elst
    exact ⟨a, xs, rfl, .inl (.inl (.inl (e _ _ h1))), fun l hl => k.ow (Grow.refl e) hl h2⟩⟩
theorem cd_tuple : CallD X (.type "tuple") [.list ds] (.da (.tuple ds)) := .mk ⟨_, call_tuple_of, fun F H vs Q e hv k => by
  cases hv with
  | cons h r =>
    cases r
    obtain ⟨a, xs, rfl, h1, h2⟩ := h.elst
    exact ⟨a, xs, rfl, .inl ⟨.inl (.inl (e _ _ h1)), fun l hl => k.tup (Grow.refl e) hl h2⟩⟩⟩
theorem cd_sum (hc : X.calm = true) {ns : List Int} : CallD X (.builtin "sum") [.list (ns.map .int)] (.da (.int ns.sum)) := .mk ⟨_, cr_sum hc, fun F H vs Q e hv k => by
  cases hv with
  | cons h r =>
    cases r
    obtain ⟨a, xs, rfl, h1, h2⟩ := h.elst
    rw [h2.ints] at h1
    exact ⟨a, ns, rfl, .inl (.inl (e _ _ h1)), k.here e (.int _)⟩⟩
theorem cd_all (hc : X.calm = true) {ns : List Bool} : CallD X (.builtin "all") [.list (ns.map .bool)] (.da (.bool (ns.all id))) := .mk ⟨_, cr_all hc, fun F H vs Q e hv k => by
  cases hv with
  | cons h r =>
    cases r
    obtain ⟨a, xs, rfl, h1, h2⟩ := h.elst
    rw [h2.bls] at h1
    exact ⟨a, ns, rfl, .inl (.inl (e _ _ h1)), k.here e (.bl _)⟩⟩
theorem cd_any (hc : X.calm = true) {ns : List Bool} : CallD X (.builtin "any") [.list (ns.map .bool)] (.da (.bool (ns.any id))) := .mk ⟨_, cr_any hc, fun F H vs Q e hv k => by
  cases hv with
  | cons h r =>
    cases r
    obtain ⟨a, xs, rfl, h1, h2⟩ := h.elst
    rw [h2.bls] at h1
    exact ⟨a, ns, rfl, .inl (.inl (e _ _ h1)), k.here e (.bl _)⟩⟩
theorem cd_max2 (hc : X.calm = true) : CallD X (.builtin "max") [.int i, .int j] (.da (.int (max i j))) := .mk ⟨_, call_max2 hc, fun F H vs Q e hv k => by
  cases hv with
  | cons h r => cases r with
    | cons h' r' =>
      cases r'
      refine ⟨i, j, by rw [h.eint, h'.eint], ?_⟩
      have z : (if j > i then j else i) = max i j := by split <;> omega
      rw [z]
      exact k.here e (.int _)⟩
theorem cd_min2 (hc : X.calm = true) : CallD X (.builtin "min") [.int i, .int j] (.da (.int (min i j))) := .mk ⟨_, call_min2 hc, fun F H vs Q e hv k => by
  cases hv with
  | cons h r => cases r with
    | cons h' r' =>
      cases r'
      refine ⟨i, j, by rw [h.eint, h'.eint], ?_⟩
      have z : (if j < i then j else i) = min i j := by split <;> omega
      rw [z]
      exact k.here e (.int _)⟩
theorem cd_abs : CallD X (.builtin "abs") [.int i] (.da (.int (if i < 0 then -i else i))) := .mk ⟨_, call_abs, fun F H vs Q e hv k => by
  cases hv with
  | cons h r => cases r; exact ⟨i, by rw [h.eint], k.here e (.int _)⟩⟩
theorem cd_intB {b : Bool} : CallD X (.type "int") [.bool b] (.da (.int (if b then 1 else 0))) := .mk ⟨_, call_int1, fun F H vs Q e hv k => by
  cases hv with
  | cons h r => cases r; exact .inr ⟨b, by rw [h.ebl], k.here e (.int _)⟩⟩
end
end Mx

set_option Elab.async false
set_option linter.all false
set_option maxRecDepth 100000
/-! Mx4: subscripts, targets, what is walked, comprehensions. -/
namespace Mx
open PySem PySem.Spec PyProof.Rows L2

/-! ### subscripts and slices -/
theorem atI_dv {F : Hp} {xs : List V} {ds : List PyData} {k : Int} {d : PyData} (h : DvAll F xs ds) (e : atI ds k = some d) : ∃ v, atI xs k = some v ∧ Dv F v d := by
  unfold atI at e ⊢
  rw [h.length]
  cases q : ixN ds.length k with
  | none => rw [q] at e; cases e
  | some j => rw [q] at e; exact h.get e
def cutD (xs : List PyData) (lo hi : Option Int) : List PyData := (xs.drop (HT.sIx xs.length 0 lo)).take (HT.sIx xs.length xs.length hi - HT.sIx xs.length 0 lo)
theorem cut_dv {F : Hp} {xs : List V} {ds : List PyData} {lo hi : Option Int} (h : DvAll F xs ds) : DvAll F (cutV xs lo hi) (cutD ds lo hi) := by
  unfold cutV cutD
  rw [h.length]
  exact (h.drop _).take _
section
variable (X : Cx)
/-- an optional part of a slice -/
def EO (e : Option Expr) (ρ : Env') (o : Option Int) : Prop := ∃ t, PO X e t ∧ ∀ B F0 F H σ (Q : Option Int → Hp → Prop), Sl X.K B F0 F H σ ρ → (∀ G H', Grow F H G H' → Q o H') → t σ H Q
end
section
variable {X : Cx} {ρ : Env'} {a b e : Expr} {pos p2 : Pos} {d : PyData} {ds : List PyData} {k : Int} {lo hi : Option Expr} {l u : Option Int}
theorem eo_none : EO X none ρ none := ⟨_, po_none, fun B F0 F H σ Q S k => k F H (Grow.refl S.ex)⟩
theorem eo_some (h : EX X e ρ (.da (.int k))) : EO X (some e) ρ (some k) := ⟨_, po_some pe_w, fun B F0 F H σ Q S q => h.use S fun v G H' g hv _ => ⟨k, hv.eint, q G H' g⟩⟩
theorem ex_ixL (ha : EX X a ρ (.da (.list ds))) (hb : EX X b ρ (.da (.int k))) (h : atI ds k = some d) (hs : PlainIx b := by exact fun _ _ => rfl) : EX X (.Subscript a b pos) ρ (.da d) := .mk fun B F0 F H σ Q S q =>
  PEw (pe_ix ix_list pe_w pe_w hs) (ha.use S fun v1 G1 H1 g1 h1 S1 => hb.use S1 fun v2 G2 H2 g2 h2 S2 => by
    obtain ⟨p, xs, rfl, e1, e2⟩ := (h1.mono g2.ff).elst
    obtain ⟨v, e3, e4⟩ := atI_dv e2 h
    exact ⟨p, xs, k, v, rfl, h2.eint, .inl (.inl (S2.ex _ _ e1)), e3, q.da (g1.trans g2) e4⟩)
theorem ex_ixT (ha : EX X a ρ (.da (.tuple ds))) (hb : EX X b ρ (.da (.int k))) (h : atI ds k = some d) (hs : PlainIx b := by exact fun _ _ => rfl) : EX X (.Subscript a b pos) ρ (.da d) := .mk fun B F0 F H σ Q S q =>
  PEw (pe_ix ix_tup pe_w pe_w hs) (ha.use S fun v1 G1 H1 g1 h1 S1 => hb.use S1 fun v2 G2 H2 g2 h2 S2 => by
    obtain ⟨p, xs, rfl, e1, e2⟩ := (h1.mono g2.ff).etup
    obtain ⟨v, e3, e4⟩ := atI_dv e2 h
    exact ⟨p, xs, k, v, rfl, h2.eint, .inl (.inl (S2.ex _ _ e1)), e3, q.da (g1.trans g2) e4⟩)
theorem ex_ixS {z : Str} {c : Nat} (ha : EX X a ρ (.da (.str z))) (hb : EX X b ρ (.da (.int k))) (h : atI z.cps.toList k = some c) (hz : z.length ≤ 100000) (hs : PlainIx b := by exact fun _ _ => rfl) : EX X (.Subscript a b pos) ρ (.da (.str ⟨#[c]⟩)) := .mk fun B F0 F H σ Q S q =>
  PEw (pe_ix ix_str pe_w pe_w hs) (ha.use S fun v1 G1 H1 g1 h1 S1 => hb.use S1 fun v2 G2 H2 g2 h2 S2 =>
    ⟨z, k, c, h1.estr, h2.eint, sz_of hz, h, q.da (g1.trans g2) (.str _)⟩)
/-- an own list's item -/
theorem ex_ixO {x : Str} {pn : Pos} (i : Nat) (hρ : ρ[i]? = some (.ow ds)) (hb : EX X b ρ (.da (.int k))) (h : atI ds k = some d) (hN : X.N[i]? = some x := by rfl) (hv : nameOk X.env.scope x = true := by kernel_rfl) (hs : PlainIx b := by exact fun _ _ => rfl) : EX X (.Subscript (.Name x pn) b pos) ρ (.da d) := .mk fun B F0 F H σ Q S q => by
  obtain ⟨a, vs, e1, e2, e3, e4⟩ := S.ow hρ
  refine PEw (pe_ix ix_list (pv i hN (nameOk_vis hv) (nameOk_d hv) (nameOk_c hv)) pe_w hs) ⟨.ref a, e1, hb.use S fun v2 G2 H2 g2 h2 S2 => ?_⟩
  obtain ⟨v, e5, e6⟩ := atI_dv (e3.mono g2.ff) h
  exact ⟨a, vs, k, v, rfl, h2.eint, .inl (.inl (g2.hh _ _ e2)), e5, q.da g2 e6⟩
theorem ex_slL (ha : EX X a ρ (.da (.list ds))) (hl : EO X lo ρ l) (hu : EO X hi ρ u) : EX X (.Subscript a (.Slice lo hi none p2) pos) ρ (.ow (cutD ds l u)) := .mk fun B F0 F H σ Q S q => by
  obtain ⟨tl, pl, ql⟩ := hl
  obtain ⟨tu, pu, qu⟩ := hu
  refine PEw (pe_slice sl_list pe_w pl pu) (ha.use S fun v1 G1 H1 g1 h1 S1 => ql B F0 G1 H1 σ _ S1 fun G2 H2 g2 => qu B F0 G2 H2 σ _ (S1.grow g2) fun G3 H3 g3 => ?_)
  obtain ⟨p, xs, rfl, e1, e2⟩ := ((h1.mono g2.ff).mono g3.ff).elst
  exact ⟨p, xs, rfl, .inl (.inl (g3.fh _ _ e1)), fun p hp => q.ow ((g1.trans g2).trans g3) hp (cut_dv e2)⟩
end

/-! ### targets -/
/-- σ' is σ but at is -/
def Agree (is : List Nat) (σ σ' : L2.St) : Prop := σ'.length = σ.length ∧ ∀ i, i ∉ is → σ'[i]? = σ[i]?
theorem Agree.refl {σ : L2.St} : Agree [] σ σ := ⟨rfl, fun _ _ => rfl⟩
theorem Agree.trans {is js : List Nat} {σ σ' σ'' : L2.St} (a : Agree is σ σ') (b : Agree js σ' σ'') : Agree (is ++ js) σ σ'' :=
  ⟨b.1.trans a.1, fun i h => (b.2 i fun z => h (List.mem_append_right _ z)).trans (a.2 i fun z => h (List.mem_append_left _ z))⟩
theorem wipe_in {σ : L2.St} {i : Nat} : ∀ {vs : List Nat}, i ∈ vs → i < σ.length → (wipe σ vs)[i]? = some none
  | v :: vs, h, hl => by
    unfold wipe
    by_cases e : v = i
    · subst e
      rw [List.getElem?_set_self (by rw [wipe_length]; exact hl)]
    · rw [List.getElem?_set_ne e]
      exact wipe_in (by
        rcases List.mem_cons.mp h with z | z
        · exact absurd z.symm e
        · exact z) hl
theorem Agree.wipe {is vs : List Nat} {σ σ' : L2.St} (a : Agree is σ σ') (h : ∀ i ∈ is, i ∈ vs) : wipe σ' vs = L2.wipe σ vs := by
  apply List.ext_getElem?
  intro i
  by_cases hi : i ∈ vs
  · by_cases hl : i < σ.length
    · rw [wipe_in hi hl, wipe_in hi (by rw [a.1]; exact hl)]
    · rw [List.getElem?_eq_none (by rw [wipe_length, a.1]; omega), List.getElem?_eq_none (by rw [wipe_length]; omega)]
  · rw [wipe_out hi, wipe_out hi]
    exact a.2 i fun z => hi (h i z)
section
variable (X : Cx)
structure BT (tg : Expr) (is : List Nat) (d : PyData) (ρ ρ' : Env') : Prop where
  run : ∀ B F0 F H σ v (Q : L2.St → Hp → Prop), Sl X.K B F0 F H σ ρ → Dv F v d → (∀ σ', Agree is σ σ' → Sl X.K B F0 F H σ' ρ' → Q σ' H) → wG X tg v σ H Q
structure BTs (ts : List Expr) (is : List Nat) (ds : List PyData) (ρ ρ' : Env') : Prop where
  run : ∀ B F0 F H σ vs (Q : L2.St → Hp → Prop), Sl X.K B F0 F H σ ρ → DvAll F vs ds → (∀ σ', Agree is σ σ' → Sl X.K B F0 F H σ' ρ' → Q σ' H) → wGs X ts vs σ H Q
end
section
variable {X : Cx} {ρ ρ1 ρ2 : Env'} {e : Expr} {es : List Expr} {pos : Pos} {d : PyData} {ds : List PyData} {x : Str} {is js : List Nat}
theorem bt_name (i : Nat) (hN : X.N.Nodup) (hi : X.N[i]? = some x := by rfl) (hx : storeOk X.env.scope (X.fn x) x = true := by kernel_rfl) : BT X (.Name x pos) [i] d ρ (ρ.set i (.da d)) := .mk fun B F0 F H σ v Q S hv k =>
  PGw (pg_name hN hi (storeOk_loc hx) (storeOk_fn hx)) (k _ ⟨List.length_set .., fun j hj => List.getElem?_set_ne (fun z => hj (by simp [z]))⟩ (S.setDa i hv))
theorem bts_nil : BTs X [] [] [] ρ ρ := .mk fun B F0 F H σ vs Q S hv k => PGsw pgs_nil (by cases hv; exact ⟨rfl, k σ Agree.refl S⟩)
theorem bts_cons (h1 : BT X e is d ρ ρ1) (h2 : BTs X es js ds ρ1 ρ2) (hs : (assignEach (e :: es) X.env).map (·.2) = assign e X.env :: (assignEach es X.env).map (·.2) := by exact asg_cons rfl) : BTs X (e :: es) (is ++ js) (d :: ds) ρ ρ2 := .mk fun B F0 F H σ vs Q S hv k => by
  cases hv with
  | cons a r =>
    exact PGsw (pgs_cons pg_w pgs_w hs) ⟨_, _, rfl, h1.run B F0 F H σ _ _ S a fun σ1 a1 S1 => h2.run B F0 F H σ1 _ Q S1 r fun σ2 a2 S2 => k σ2 (a1.trans a2) S2⟩
theorem bt_tup {k : Nat} {n : Nat} (hc : X.calm = true) (h : BTs X es is ds ρ ρ1) (hl : ds.length = n := by rfl) (hn : (assignEach es X.env).length = n := by exact asg_len) (hst : (assignEach es X.env).findIdx? (·.1) = none := by exact asg_none rfl) : BT X (.Tuple es k pos) is (.tuple ds) ρ ρ1 := .mk fun B F0 F H σ v Q S hv q => by
  obtain ⟨a, xs, rfl, e1, e2⟩ := hv.etup
  exact PGw (pg_tup hc pgs_w hn hst) ⟨a, xs, rfl, .inl (.inl (S.ex _ _ e1)), e2.length.trans hl, h.run B F0 F H σ xs Q S e2 q⟩
end

/-! ### what is walked -/
def Yields (J : It) (F : Hp) (ds : List PyData) : Prop := ∀ i F1 H, Ex F F1 → Ex F1 H →
  (i < ds.length → J.go i H ∧ ∀ x H', J.yld i H x H' → ∃ G d, ds[i]? = some d ∧ Grow F1 H G H' ∧ Dv G x d) ∧ (ds.length ≤ i → J.stop i H)
section
variable (X : Cx)
structure IT (tg iter : Expr) (ρ : Env') (ds : List PyData) : Prop where
  run : ∀ B F0 F H σ (R : It → Hp → Prop), Sl X.K B F0 F H σ ρ → (∀ J G H', Grow F H G H' → Yields J G ds → R J H') → wI X tg iter σ H R
end
section
variable {X : Cx} {ρ : Env'} {tg e e2 a b : Expr} {pos p : Pos} {d : PyData} {ds es : List PyData}
theorem yields_lst {K : PySem.W.Frag} {F : Hp} {a : Addr} {xs : List V} (h : F a = some (.lst xs)) (hd : DvAll F xs ds) : Yields (Itl K a) F ds := fun i F1 H e1 e2 => by
  have hq : SqL K H a xs := .inl (.inl (e2 _ _ (e1 _ _ h)))
  refine ⟨fun hi => ?_, fun hi => ⟨xs, hq, by rw [hd.length]; exact hi⟩⟩
  obtain ⟨v, e3, e4⟩ := hd.get (List.getElem?_eq_getElem hi)
  refine ⟨⟨xs, v, hq, e3⟩, fun x H' y => ?_⟩
  obtain ⟨rfl, y⟩ := y
  have e5 := y xs hq
  rw [e3] at e5
  cases e5
  exact ⟨F1, _, List.getElem?_eq_getElem hi, Grow.refl e2, e4.mono e1⟩
theorem yields_tup {K : PySem.W.Frag} {F : Hp} {a : Addr} {xs : List V} (h : F a = some (.tup xs)) (hd : DvAll F xs ds) : Yields (Itt K a) F ds := fun i F1 H e1 e2 => by
  have hq : SqT K H a xs := .inl (.inl (e2 _ _ (e1 _ _ h)))
  refine ⟨fun hi => ?_, fun hi => ⟨xs, hq, by rw [hd.length]; exact hi⟩⟩
  obtain ⟨v, e3, e4⟩ := hd.get (List.getElem?_eq_getElem hi)
  refine ⟨⟨xs, v, hq, e3⟩, fun x H' y => ?_⟩
  obtain ⟨rfl, y⟩ := y
  have e5 := y xs hq
  rw [e3] at e5
  cases e5
  exact ⟨F1, _, List.getElem?_eq_getElem hi, Grow.refl e2, e4.mono e1⟩
theorem it_list (h : EX X e ρ (.da (.list ds))) : IT X tg e ρ ds := .mk fun B F0 F H σ R S k =>
  PIw (pi_list pe_w) (h.use S fun v G H' g hv _ => by
    obtain ⟨a, xs, rfl, e1, e2⟩ := hv.elst
    exact ⟨a, rfl, ⟨xs, .inl (.inl (g.fh _ _ e1))⟩, k _ G H' g (yields_lst e1 e2)⟩)
theorem it_tup (h : EX X e ρ (.da (.tuple ds))) : IT X tg e ρ ds := .mk fun B F0 F H σ R S k =>
  PIw (pi_tup pe_w) (h.use S fun v G H' g hv _ => by
    obtain ⟨a, xs, rfl, e1, e2⟩ := hv.etup
    exact ⟨a, rfl, ⟨xs, .inl (.inl (g.fh _ _ e1))⟩, k _ G H' g (yields_tup e1 e2)⟩)
theorem it_range1 {n : Int} (hm : X.mg "range" = none) (h : EA X [a] ρ [.int n]) (hn : -1000000 ≤ n ∧ n ≤ 1000000) (hg : Gl X "range" := by exact gl_of (by kernel_rfl)) (hs : starEach [a] X.env = [(false, eval a X.env)] := by exact star_one rfl) :
    IT X tg (.Call (.Name "range" p) [a] [] pos) ρ ((List.range n.toNat).map fun (i : Nat) => .int (i : Int)) := .mk fun B F0 F H σ R S k =>
  PIw (pi_range1 hg hm pa_w hs) (h.use S fun v G H' g hv _ => by
    refine ⟨n, hv.ints (ns := [n]), by omega, by omega, k _ G H' g fun i F1 H1 e1 e2 => ⟨fun hi => ?_, fun hi => ?_⟩⟩
    · rw [List.length_map, List.length_range] at hi
      refine ⟨hi, fun x H' y => ?_⟩
      obtain ⟨rfl, rfl⟩ := y
      refine ⟨F1, .int ((i : Nat) : Int), by rw [List.getElem?_map, List.getElem?_range hi]; rfl, Grow.refl e2, ?_⟩
      rw [Int.zero_add]
      exact .int _
    · rw [List.length_map, List.length_range] at hi
      exact hi)
theorem it_range2 {m n : Int} (hm : X.mg "range" = none) (h : EA X [a, b] ρ [.int m, .int n]) (hn : -1000000 ≤ m ∧ m ≤ 1000000 ∧ -1000000 ≤ n ∧ n ≤ 1000000) (hg : Gl X "range" := by exact gl_of (by kernel_rfl))
    (hs : starEach [a, b] X.env = [(false, eval a X.env), (false, eval b X.env)] := by exact star_two rfl rfl) (hs2 : starEach [b] X.env = [(false, eval b X.env)] := by exact star_one rfl) :
    IT X tg (.Call (.Name "range" p) [a, b] [] pos) ρ ((List.range (n - m).toNat).map fun (i : Nat) => .int (m + (i : Int))) := .mk fun B F0 F H σ R S k =>
  PIw (pi_range2 hg hm pa_w hs hs2) (h.use S fun v G H' g hv S1 => by
    refine ⟨m, n, hv.ints (ns := [m, n]), by omega, k _ G H' g fun i F1 H1 e1 e2 => ⟨fun hi => ?_, fun hi => ?_⟩⟩
    · rw [List.length_map, List.length_range] at hi
      refine ⟨hi, fun x H' y => ?_⟩
      obtain ⟨rfl, rfl⟩ := y
      exact ⟨F1, .int (m + ((i : Nat) : Int)), by rw [List.getElem?_map, List.getElem?_range hi]; rfl, Grow.refl e2, .int _⟩
    · rw [List.length_map, List.length_range] at hi
      exact hi)
def signs (z : Str) : List PyData := z.cps.toList.map fun c => .str ⟨#[c]⟩
theorem it_str {z : Str} (h : EX X e ρ (.da (.str z))) : IT X tg e ρ (signs z) := .mk fun B F0 F H σ R S k =>
  PIw (pi_str pe_w) (h.use S fun v G H' g hv _ => by
    refine ⟨z, hv.estr, k _ G H' g fun i F1 H1 e1 e2 => ⟨fun hi => ?_, fun hi => ?_⟩⟩
    · unfold signs at hi
      rw [List.length_map, Array.length_toList] at hi
      refine ⟨hi, fun x H' y => ?_⟩
      obtain ⟨rfl, c, hc, rfl⟩ := y
      refine ⟨F1, _, ?_, Grow.refl e2, .str _⟩
      unfold signs
      rw [List.getElem?_map, Array.getElem?_toList, hc]
      rfl
    · unfold signs at hi
      rw [List.length_map, Array.length_toList] at hi
      exact hi)
def enumD : Nat → List PyData → List PyData
  | _, [] => []
  | n, d :: ds => .tuple [.int (n : Nat), d] :: enumD (n + 1) ds
theorem enumD_len : ∀ (n : Nat) (ds : List PyData), (enumD n ds).length = ds.length
  | _, [] => rfl
  | n, d :: ds => by unfold enumD; rw [List.length_cons, List.length_cons, enumD_len]
theorem enumD_get : ∀ (n : Nat) (ds : List PyData) (i : Nat), (enumD n ds)[i]? = (ds[i]?).map fun d => .tuple [.int ((n + i : Nat) : Int), d]
  | _, [], _ => by unfold enumD; simp
  | n, d :: ds, 0 => by unfold enumD; simp
  | n, d :: ds, i + 1 => by
    unfold enumD
    rw [List.getElem?_cons_succ, List.getElem?_cons_succ, enumD_get (n + 1) ds i, show n + 1 + i = n + (i + 1) by omega]
theorem it_enum {elts : List Expr} {kk : Nat} {tpos : Pos} (hm : X.mg "enumerate" = none) (h : EA X [e] ρ [.list ds]) (hg : Gl X "enumerate" := by exact gl_of (by kernel_rfl)) (hs : starEach [e] X.env = [(false, eval e X.env)] := by exact star_one rfl) :
    IT X (.Tuple elts kk tpos) (.Call (.Name "enumerate" p) [e] [] pos) ρ (enumD 0 ds) := .mk fun B F0 F H σ R S k =>
  PIw (pi_enum hg hm pa_w hs) (h.use S fun vs G H' g hvs _ => by
    obtain ⟨v, rfl, hv⟩ : ∃ v, vs = [v] ∧ Dv G v (.list ds) := by
      cases hvs with
      | cons a r => cases r; exact ⟨_, rfl, a⟩
    obtain ⟨a, xs, rfl, h1, h2⟩ := hv.elst
    refine ⟨a, xs, rfl, .inl (.inl (g.fh _ _ h1)), k _ G H' g fun i F1 H1 e1 e2 => ?_⟩
    have hq : SqL X.K H1 a xs := .inl (.inl (e2 _ _ (e1 _ _ h1)))
    refine ⟨fun hi => ?_, fun hi => ⟨xs, hq, by rw [h2.length, ← enumD_len 0 ds]; exact hi⟩⟩
    rw [enumD_len] at hi
    obtain ⟨v, e3, e4⟩ := h2.get (List.getElem?_eq_getElem hi)
    refine ⟨⟨xs, v, hq, e3⟩, fun x H' y => ?_⟩
    obtain ⟨T, x', rfl, nT, rfl, y⟩ := y
    have e5 := y xs hq
    rw [e3] at e5
    cases e5
    refine ⟨upd F1 T (.tup [.int (i : Nat), v]), _, by rw [enumD_get, List.getElem?_eq_getElem hi]; rfl, (Grow.refl e2).new nT, .tup upd_same ?_⟩
    rw [Nat.zero_add]
    exact .cons (.int _) (.cons ((e4.mono e1).mono (Ex.new (Ex.noneOf e2 nT))) .nil))
def zipD : List PyData → List PyData → List PyData
  | d :: ds, e :: es => .tuple [d, e] :: zipD ds es
  | _, _ => []
theorem zipD_len : ∀ (ds es : List PyData), (zipD ds es).length = min ds.length es.length
  | [], _ => by unfold zipD; simp
  | _ :: _, [] => by unfold zipD; simp
  | d :: ds, e :: es => by unfold zipD; rw [List.length_cons, List.length_cons, List.length_cons, zipD_len]; omega
theorem zipD_get : ∀ (ds es : List PyData) (i : Nat) (d e : PyData), ds[i]? = some d → es[i]? = some e → (zipD ds es)[i]? = some (.tuple [d, e])
  | [], _, _, _, _, h, _ => by simp at h
  | _ :: _, [], _, _, _, _, h => by simp at h
  | a :: ds, b :: es, 0, d, e, h1, h2 => by simp at h1 h2; subst h1 h2; unfold zipD; rfl
  | a :: ds, b :: es, i + 1, d, e, h1, h2 => by
    unfold zipD
    rw [List.getElem?_cons_succ]
    exact zipD_get ds es i d e (by simpa using h1) (by simpa using h2)
theorem it_zip {elts : List Expr} {kk : Nat} {tpos : Pos} (hm : X.mg "zip" = none) (h : EA X [e, e2] ρ [.list ds, .list es]) (hg : Gl X "zip" := by exact gl_of (by kernel_rfl))
    (hs : starEach [e, e2] X.env = (false, eval e X.env) :: starEach [e2] X.env := by exact star_cons rfl) (hpl : (backTo pos (starEach [e2] X.env)).any (·.1) = false := by exact star_none rfl) :
    IT X (.Tuple elts kk tpos) (.Call (.Name "zip" p) [e, e2] [] pos) ρ (zipD ds es) := .mk fun B F0 F H σ R S k =>
  PIw (pi_zip hg hm pa_w hs hpl) (h.use S fun vs G2 H2 g2 hvs S1 => by
    obtain ⟨v, u, rfl, hv, hv2⟩ : ∃ v u, vs = [v, u] ∧ Dv G2 v (.list ds) ∧ Dv G2 u (.list es) := by
      cases hvs with
      | cons a r => cases r with
        | cons b r => cases r; exact ⟨_, _, rfl, a, b⟩
    obtain ⟨a, xs, rfl, h1, h2⟩ := hv.elst
    obtain ⟨b, ys, rfl, h3, h4⟩ := hv2.elst
    refine ⟨a, b, xs, ys, rfl, .inl (.inl (g2.fh _ _ h1)), .inl (.inl (g2.fh _ _ h3)), k _ G2 H2 g2 fun i F1 H1 e1 e2 => ?_⟩
    have hq : SqL X.K H1 a xs := .inl (.inl (e2 _ _ (e1 _ _ h1)))
    have hq2 : SqL X.K H1 b ys := .inl (.inl (e2 _ _ (e1 _ _ h3)))
    refine ⟨fun hi => ?_, fun hi => ⟨xs, ys, hq, hq2, ?_⟩⟩
    · rw [zipD_len] at hi
      have hi1 : i < ds.length := by omega
      have hi2 : i < es.length := by omega
      obtain ⟨v, e3, e4⟩ := h2.get (List.getElem?_eq_getElem hi1)
      obtain ⟨u, e5, e6⟩ := h4.get (List.getElem?_eq_getElem hi2)
      refine ⟨⟨xs, ys, v, u, hq, hq2, e3, e5⟩, fun x H' y => ?_⟩
      obtain ⟨T, x', y', rfl, nT, rfl, y1, y2⟩ := y
      have e7 := y1 xs hq
      rw [e3] at e7
      cases e7
      have e8 := y2 ys hq2
      rw [e5] at e8
      cases e8
      have en : Ex F1 (upd F1 T (.tup [v, u])) := Ex.new (Ex.noneOf e2 nT)
      exact ⟨_, _, zipD_get ds es i _ _ (List.getElem?_eq_getElem hi1) (List.getElem?_eq_getElem hi2), (Grow.refl e2).new nT, .tup upd_same (.cons ((e4.mono e1).mono en) (.cons ((e6.mono e1).mono en) .nil))⟩
    · rw [zipD_len] at hi
      rw [h2.length, h4.length]
      omega)
end
end Mx

set_option Elab.async false
set_option linter.all false
set_option maxRecDepth 100000
/-! Mx5: comprehensions, statements, loops. -/
namespace Mx
open PySem PySem.Spec PyProof.Rows L2

section
variable {K : PySem.W.Frag} {B F0 F H G H' : Hp} {σ : L2.St} {ρ : Env'}
def wipeE (ρ : Env') : List Nat → Env'
  | [] => ρ
  | v :: vs => (wipeE ρ vs).set v .un
theorem Sl.wiped (S : Sl K B F0 F H σ ρ) : ∀ vs : List Nat, Sl K B F0 F H (wipe σ vs) (wipeE ρ vs)
  | [] => S
  | v :: vs => by
    unfold wipe wipeE
    exact (Sl.wiped S vs).setUn v none
/-- a value put ahead -/
theorem Sl.cons {s : Slot} {v : V} {as : List Addr} (S : Sl K B F0 F H σ ρ) (g : Grow F H G H') (h : SlotOk K G H' (some v) s as) (n : ∀ a ∈ as, H a = none ∧ G a = none ∧ H' a ≠ none) : Sl K B F0 G H' (some v :: σ) (s :: ρ) := by
  have S' := S.grow g
  obtain ⟨fp, f1, f2, f3⟩ := S.fp
  have z : ∀ i a, a ∈ fp i → G a = none := fun i a h => by rw [g.fr a (f2 i a h).2.2]; exact (f2 i a h).1
  refine ⟨S'.ex, S'.kb, S'.kf, by rw [List.length_cons, List.length_cons, S.len], fun k => match k with | 0 => as | k + 1 => fp k, fun j k a hj hk => ?_, fun j a hj => ?_, fun j t e => ?_⟩
  · cases j with
    | zero => cases k with
      | zero => rfl
      | succ k => exact absurd (n a hj).1 (f2 k a hk).2.2
    | succ j => cases k with
      | zero => exact absurd (n a hk).1 (f2 j a hj).2.2
      | succ k => exact congrArg (· + 1) (f1 j k a hj hk)
  · cases j with
    | zero => exact ⟨(n a hj).2.1, Ex.noneOf S.kb (n a hj).1, (n a hj).2.2⟩
    | succ j => exact ⟨z j a hj, (f2 j a hj).2.1, Ex.someOf g.hh (f2 j a hj).2.2⟩
  · cases j with
    | zero =>
      have e' : s = t := by simpa using e
      subst e'
      exact h
    | succ j =>
      have q := (f3 j t (by simpa using e)).mono g.ff (H' := H') (fun a h => by
        have q := (f2 j a h).2.2
        cases e2 : H a with
        | none => exact absurd e2 q
        | some o => exact g.hh a o e2) (z j)
      exact q
end

section
variable (X : Cx)
structure ETs (ifs : List Expr) (ρ : Env') (b : Bool) : Prop where
  run : ∀ B F0 F H σ (Q : Bool → Hp → Prop), Sl X.K B F0 F H σ ρ → (∀ G H', Grow F H G H' → Q b H') → wTs X ifs σ H Q
end
section
variable {X : Cx} {ρ : Env'} {c : Expr} {b : Bool}
theorem ets_nil : ETs X [] ρ true := .mk fun B F0 F H σ Q S k => PTsw pts_nil (k F H (Grow.refl S.ex))
theorem ets_one (h : ET X c ρ b) : ETs X [c] ρ b := .mk fun B F0 F H σ Q S k => PTsw (pts_one pt_w) (h.run B F0 F H σ Q S k)
end

/-! ### comprehensions -/
section
variable {X : Cx} {ρ : Env'} {elt tg iter : Expr} {ifs : List Expr} {scope : Scope} {pos : Pos}
/-- the block's readings, whatever block runs -/
def bG (X : Cx) (scope : Scope) (tg : Expr) : TG := fun v σ H Q => ∀ s0 H0 C cl fp, wG (X.blk s0 H0 scope (compEnvC scope cl C X.env) fp) tg v σ H Q
def bT (X : Cx) (scope : Scope) (ifs : List Expr) : TT := fun σ H Q => ∀ s0 H0 C cl fp, wTs (X.blk s0 H0 scope (compEnvC scope cl C X.env) fp) ifs σ H Q
def bE (X : Cx) (scope : Scope) (e : Expr) : TE := fun σ H Q => ∀ s0 H0 C cl fp, wE (X.blk s0 H0 scope (compEnvC scope cl C X.env) fp) e σ H Q
/-- what is asked of a comprehension's block, for one item -/
def BlkAt (X : Cx) (scope : Scope) (tg : Expr) (ifs : List Expr) (elt : Expr) (own : List Nat) (ρ : Env') (d : PyData) (b : Bool) (r : PyData) : Prop :=
  ∃ is ρ1, (∀ i ∈ is, i ∈ own) ∧ ∀ s0 H0 C cl fp, BT (X.blk s0 H0 scope (compEnvC scope cl C X.env) fp) tg is d (wipeE ρ own) ρ1 ∧ ETs (X.blk s0 H0 scope (compEnvC scope cl C X.env) fp) ifs ρ1 b ∧
    (b = true → EX (X.blk s0 H0 scope (compEnvC scope cl C X.env) fp) elt ρ1 (.da r))
theorem lc_read {α : Type} {vs : List Nat} {xs : List α} {enc : α → PyData} {p : α → Bool} {f : α → PyData} (hi : IT X tg iter ρ (xs.map enc)) (body : ∀ x ∈ xs, BlkAt X scope tg ifs elt vs ρ (enc x) (p x) (f x)) (hz : xs.length < 100000)
    {B F0 F H : Hp} {σ : L2.St} {Q : VK} (S : Sl X.K B F0 F H σ ρ) (k : Kont X.K F H (.ow ((xs.filter p).map f)) Q) : tLc (wI X tg iter) (bG X scope tg) (bT X scope ifs) (bE X scope elt) vs σ H Q := by
  refine hi.run B F0 F H σ _ S fun J G H1 g Y D hD => ?_
  have S1 := S.grow g
  refine ⟨fun i m Hc => m = xs.length - i ∧ i ≤ xs.length ∧ ∃ Fc acc, Grow G H1 Fc Hc ∧ Fc D = none ∧ Hc D = some (.lst acc) ∧ DvAll Fc acc (((xs.take i).filter p).map f), ⟨xs.length, by omega, Nat.zero_le _, G, [], (Grow.refl S1.ex).loose hD, Ex.noneOf S1.ex hD, upd_same, .nil⟩, ?_⟩
  rintro i m Hc ⟨rfl, hil, Fc, acc, gc, nD, eD, hacc⟩
  have Yi := Y i Fc Hc gc.ff gc.fh
  rw [List.length_map] at Yi
  by_cases hlt : i < xs.length
  · refine .inr ⟨(Yi.1 hlt).1, fun H' => i + 1 ≤ xs.length ∧ ∃ Fc acc, Grow G H1 Fc H' ∧ Fc D = none ∧ H' D = some (.lst acc) ∧ DvAll Fc acc (((xs.take (i + 1)).filter p).map f), fun H' hh => ⟨xs.length - (i + 1), by omega, rfl, hh.1, hh.2⟩, fun x H' y => ?_⟩
    obtain ⟨G', d, ed, g', dv⟩ := (Yi.1 hlt).2 x H' y
    rw [List.getElem?_map, List.getElem?_eq_getElem hlt] at ed
    have ed' : enc xs[i] = d := by simpa using ed
    subst ed'
    have Sx := (((S1.grow gc).grow g').wiped vs)
    obtain ⟨is, ρ1, his, blk⟩ := body xs[i] (List.getElem_mem hlt)
    have tk : xs.take (i + 1) = xs.take i ++ [xs[i]] := List.take_succ_eq_append_getElem hlt
    have nD' : G' D = none := by rw [g'.fr D (by rw [eD]; intro z; cases z)]; exact nD
    have eD' : H' D = some (.lst acc) := g'.hh _ _ eD
    intro s0 H0 C cl fp
    refine (blk s0 H0 C cl fp).1.run B F0 G' H' _ x _ Sx dv fun σ2 a2 S2 => ⟨a2.wipe his |>.trans ?_, fun s0 H0 C cl fp => ?_⟩
    · -- wiping twice
      apply List.ext_getElem?
      intro j
      by_cases hj : j ∈ vs
      · by_cases hl : j < σ.length
        · rw [wipe_in hj (by rw [wipe_length]; exact hl), wipe_in hj hl]
        · rw [List.getElem?_eq_none (by rw [wipe_length, wipe_length]; omega), List.getElem?_eq_none (by rw [wipe_length]; omega)]
      · rw [wipe_out hj, wipe_out hj]
    refine (blk s0 H0 C cl fp).2.1.run B F0 G' H' σ2 _ S2 fun G2 H2 g2 => ?_
    have S3 := S2.grow g2
    have nD2 : G2 D = none := by rw [g2.fr D (by rw [eD']; intro z; cases z)]; exact nD'
    have eD2 : H2 D = some (.lst acc) := g2.hh _ _ eD'
    cases hp : p xs[i] with
    | false =>
      simp only [Bool.false_eq_true, if_false]
      refine ⟨hlt, G2, acc, (gc.trans g').trans g2, nD2, eD2, ?_⟩
      rw [tk, List.filter_append, List.filter_cons, if_neg (by rw [hp]; decide), List.filter_nil, List.append_nil]
      exact (hacc.mono g'.ff).mono g2.ff
    | true =>
      simp only [if_true]
      intro s0 H0 C cl fp
      refine ((blk s0 H0 C cl fp).2.2 hp).use S3 fun y G3 H3 g3 dy S4 => ?_
      have nD3 : G3 D = none := by rw [g3.fr D (by rw [eD2]; intro z; cases z)]; exact nD2
      have eD3 : H3 D = some (.lst acc) := g3.hh _ _ eD2
      have gg := ((gc.trans g').trans g2).trans g3
      have hl : acc.length ≤ i := by
        rw [hacc.length, List.length_map]
        have q := List.length_filter_le p (xs.take i)
        rw [List.length_take] at q
        omega
      refine ⟨acc, eD3, sz_lt (by omega), hlt, G3, acc ++ [y], ⟨gg.ff, gg.hh.mut hD, gg.fh.mut nD3, gg.fr⟩, nD3, upd_same, ?_⟩
      rw [tk, List.filter_append, List.filter_cons, if_pos hp, List.filter_nil, List.map_append]
      exact (((hacc.mono g'.ff).mono g2.ff).mono g3.ff).append (.cons dy .nil)
  · have ei : i = xs.length := by omega
    subst ei
    refine .inl ⟨Yi.2 (Nat.le_refl _), ?_⟩
    rw [List.take_length] at hacc
    exact (k.go g) (.ref D) Fc Hc [D] gc ⟨D, acc, rfl, rfl, eD, hacc⟩ fun a ha => by
      have e : a = D := by simpa using ha
      subst e
      exact ⟨hD, nD, by rw [eD]; intro z; cases z⟩
theorem ex_lc {α : Type} (own : List (Str × Nat)) (xs : List α) (enc : α → PyData) (p : α → Bool) (f : α → PyData) (hc : X.calm = true) (hN : X.N.Nodup) (ok : BlkOk X.N X.env.scope scope own) (hi : IT X tg iter ρ (xs.map enc))
    (body : ∀ x ∈ xs, BlkAt X scope tg ifs elt (own.map (·.2)) ρ (enc x) (p x) (f x)) (hz : xs.length < 100000) (hs : ∀ x, foldedSetIterable iter X.env x = pure x := by intro _; rfl) :
    EX X (.ListComp elt [⟨tg, iter, ifs, 0⟩] scope pos) ρ (.ow ((xs.filter p).map f)) := .mk fun B F0 F H σ Q S k =>
  PEw (pe_lc (g := bG X scope tg) (tt := bT X scope ifs) (te := bE X scope elt) hc hN pi_w ok (fun s H C cl fp => ⟨fun pins s' σ H' v u Q I r h => h _ _ _ _ _ pins s' u I r⟩) (fun s H C cl fp => ⟨fun pins s' σ H' Q I h => h _ _ _ _ _ pins s' I⟩)
    (fun s H C cl fp => ⟨fun pins s' σ H' Q I h => h _ _ _ _ _ pins s' I⟩) hs) (lc_read hi body hz S k)
end

/-! ### statements -/
inductive Out where
  | nx (ρ : Env')
  | rt (s : Slot) (ρ : Env')
  | bk (ρ : Env')
  | ct (ρ : Env')
def OutOk (K : PySem.W.Frag) (B F0 F : Hp) (D : Ends) : Out → Prop
  | .nx ρ => ∀ F' H' σ', Ex F F' → Sl K B F0 F' H' σ' ρ → D.nx σ' H'
  | .bk ρ => ∀ F' H' σ', Ex F F' → Sl K B F0 F' H' σ' ρ → D.bk σ' H'
  | .ct ρ => ∀ F' H' σ', Ex F F' → Sl K B F0 F' H' σ' ρ → D.ct σ' H'
  | .rt s ρ => ∀ F' H' σ' v, Ex F F' → Sl K B F0 F' H' (some v :: σ') (s :: ρ) → D.rt v H'
theorem OutOk.go {K : PySem.W.Frag} {B F0 F G : Hp} {D : Ends} {o : Out} (h : OutOk K B F0 F D o) (e : Ex F G) : OutOk K B F0 G D o := by
  cases o with
  | nx ρ => exact fun F' H' σ' e' => h F' H' σ' (e.trans e')
  | bk ρ => exact fun F' H' σ' e' => h F' H' σ' (e.trans e')
  | ct ρ => exact fun F' H' σ' e' => h F' H' σ' (e.trans e')
  | rt s ρ => exact fun F' H' σ' v e' => h F' H' σ' v (e.trans e')
section
variable (X : Cx)
structure RS (st : List Stmt) (ρ : Env') (o : Out) : Prop where
  run : ∀ B F0 F H σ D, Sl X.K B F0 F H σ ρ → OutOk X.K B F0 F D o → wSs X st D σ H
structure R1 (st : Stmt) (ρ : Env') (o : Out) : Prop where
  run : ∀ B F0 F H σ D, Sl X.K B F0 F H σ ρ → OutOk X.K B F0 F D o → wS X st D σ H
end
/-- some slots forgotten -/
inductive Weak : Env' → Env' → Prop
  | nil : Weak [] []
  | same {s ρ ρ'} : Weak ρ ρ' → Weak (s :: ρ) (s :: ρ')
  | un {s ρ ρ'} : Weak ρ ρ' → Weak (s :: ρ) (.un :: ρ')
theorem Weak.refl : ∀ ρ : Env', Weak ρ ρ
  | [] => .nil
  | _ :: ρ => .same (Weak.refl ρ)
theorem Weak.get : ∀ {ρ ρ' : Env'}, Weak ρ ρ' → ∀ i : Nat, ρ'[i]? = ρ[i]? ∨ ρ'[i]? = some Slot.un
  | _, _, .nil, _ => .inl rfl
  | _, _, .same _, 0 => .inl rfl
  | _, _, .un _, 0 => .inr rfl
  | _, _, .same w, i + 1 => by simpa using w.get i
  | _, _, .un w, i + 1 => by simpa using w.get i
theorem Weak.len : ∀ {ρ ρ' : Env'}, Weak ρ ρ' → ρ'.length = ρ.length
  | _, _, .nil => rfl
  | _, _, .same w => congrArg (· + 1) w.len
  | _, _, .un w => congrArg (· + 1) w.len
theorem Sl.weak {K : PySem.W.Frag} {B F0 F H : Hp} {σ : L2.St} {ρ ρ' : Env'} (S : Sl K B F0 F H σ ρ) (w : Weak ρ ρ') : Sl K B F0 F H σ ρ' := by
  obtain ⟨fp, f1, f2, f3⟩ := S.fp
  refine ⟨S.ex, S.kb, S.kf, S.len.trans w.len.symm, fun i => match ρ'[i]? with | some .un => [] | _ => fp i, fun i j a hi hj => ?_, fun i a hi => ?_, fun i s e => ?_⟩
  · simp only at hi hj
    split at hi
    · cases hi
    · split at hj
      · cases hj
      · exact f1 i j a hi hj
  · simp only at hi
    split at hi
    · cases hi
    · exact f2 i a hi
  · simp only
    rcases w.get i with z | z
    · split
      · rename_i q
        rw [q] at e
        cases e
        rfl
      · exact f3 i s (by rw [← z]; exact e)
    · rw [z] at e
      cases e
      rw [z]
      rfl
inductive ForR (X : Cx) (tg : Expr) (body : List Stmt) : List PyData → Env' → Out → Prop
  | nil {ρ} : ForR X tg body [] ρ (.nx ρ)
  | next {d ds ρ ρ1 ρ2 is o} : BT X tg is d ρ ρ1 → RS X body ρ1 (.nx ρ2) → ForR X tg body ds ρ2 o → ForR X tg body (d :: ds) ρ o
  | cont {d ds ρ ρ1 ρ2 is o} : BT X tg is d ρ ρ1 → RS X body ρ1 (.ct ρ2) → ForR X tg body ds ρ2 o → ForR X tg body (d :: ds) ρ o
  | brk {d ds ρ ρ1 ρ2 is} : BT X tg is d ρ ρ1 → RS X body ρ1 (.bk ρ2) → ForR X tg body (d :: ds) ρ (.nx ρ2)
  | ret {d ds ρ ρ1 ρ2 is s} : BT X tg is d ρ ρ1 → RS X body ρ1 (.rt s ρ2) → ForR X tg body (d :: ds) ρ (.rt s ρ2)
section
variable {X : Cx} {ρ ρ' ρ1 ρ2 : Env'} {st : Stmt} {rest body els : List Stmt} {o : Out} {e c tg iter : Expr} {pos : Pos} {s : Slot} {d : PyData} {ds es : List PyData} {x : Str} {is : List Nat}
theorem rs_weak (w : Weak ρ1 ρ2) (h : RS X rest ρ (.nx ρ1)) : RS X rest ρ (.nx ρ2) := .mk fun B F0 F H σ D S k => h.run B F0 F H σ D S fun F' H' σ' e S' => k F' H' σ' e (S'.weak w)
theorem rs_weakC (w : Weak ρ1 ρ2) (h : RS X rest ρ (.ct ρ1)) : RS X rest ρ (.ct ρ2) := .mk fun B F0 F H σ D S k => h.run B F0 F H σ D S fun F' H' σ' e S' => k F' H' σ' e (S'.weak w)
theorem rs_pre (w : Weak ρ ρ1) (h : RS X rest ρ1 o) : RS X rest ρ o := .mk fun B F0 F H σ D S k => h.run B F0 F H σ D (S.weak w) k
theorem rs_freeze (i : Nat) (hρ : ρ[i]? = some (.ow ds)) (h : RS X rest (ρ.set i (.da (.list ds))) o) : RS X rest ρ o := .mk fun B F0 F H σ D S k => by
  obtain ⟨F', e, S'⟩ := S.freeze hρ
  exact h.run B F0 F' H σ D S' (k.go e)
theorem r1_freeze (i : Nat) (hρ : ρ[i]? = some (.ow ds)) (h : R1 X st (ρ.set i (.da (.list ds))) o) : R1 X st ρ o := .mk fun B F0 F H σ D S k => by
  obtain ⟨F', e, S'⟩ := S.freeze hρ
  exact h.run B F0 F' H σ D S' (k.go e)
theorem rs_nil : RS X [] ρ (.nx ρ) := .mk fun B F0 F H σ D S k => PSsw pss_nil (k F H σ (Ex.refl F) S)
theorem rs_cons (h1 : R1 X st ρ (.nx ρ1)) (h2 : RS X rest ρ1 o) : RS X (st :: rest) ρ o := .mk fun B F0 F H σ D S k =>
  PSsw (pss_cons ps_w pss_w) (h1.run B F0 F H σ { D with nx := wSs X rest D } S fun F' H' σ' e S' => h2.run B F0 F' H' σ' D S' (k.go e))
theorem rs_ret (h1 : R1 X st ρ (.rt s ρ1)) : RS X (st :: rest) ρ (.rt s ρ1) := .mk fun B F0 F H σ D S k => PSsw (pss_cons ps_w pss_w) (h1.run B F0 F H σ { D with nx := wSs X rest D } S k)
theorem rs_brk (h1 : R1 X st ρ (.bk ρ1)) : RS X (st :: rest) ρ (.bk ρ1) := .mk fun B F0 F H σ D S k => PSsw (pss_cons ps_w pss_w) (h1.run B F0 F H σ { D with nx := wSs X rest D } S k)
theorem rs_cont (h1 : R1 X st ρ (.ct ρ1)) : RS X (st :: rest) ρ (.ct ρ1) := .mk fun B F0 F H σ D S k => PSsw (pss_cons ps_w pss_w) (h1.run B F0 F H σ { D with nx := wSs X rest D } S k)
theorem r_if {b : Bool} (hc : ET X c ρ b) (h1 : b = true → RS X body ρ o) (h2 : b = false → RS X els ρ o) : R1 X (.If c body els pos) ρ o := .mk fun B F0 F H σ D S k =>
  PSw (ps_if pt_w pss_w pss_w) (hc.use S fun G H' g S' => by
    cases b with
    | true => simp only [if_true]; exact (h1 rfl).run B F0 G H' σ D S' (k.go g.ff)
    | false => simp only [Bool.false_eq_true, if_false]; exact (h2 rfl).run B F0 G H' σ D S' (k.go g.ff))
theorem r_pass : R1 X (.Pass pos) ρ (.nx ρ) := .mk fun B F0 F H σ D S k => PSw ps_pass (k F H σ (Ex.refl F) S)
theorem r_continue : R1 X (.Continue pos) ρ (.ct ρ) := .mk fun B F0 F H σ D S k => PSw ps_continue (k F H σ (Ex.refl F) S)
theorem r_break : R1 X (.Break pos) ρ (.bk ρ) := .mk fun B F0 F H σ D S k => PSw ps_break (k F H σ (Ex.refl F) S)
theorem r_return (h : EX X e ρ s) : R1 X (.Return (some e) pos) ρ (.rt s ρ) := .mk fun B F0 F H σ D S k =>
  PSw (ps_ret pe_w) (h.run B F0 F H σ D.rt S fun v G H' as g ok n => k G H' σ v g.ff (S.cons g ok n))
/-- return of a name whose list is one's own -/
theorem r_returnO {ds : List PyData} {pn : Pos} (i : Nat) (hρ : ρ[i]? = some (.ow ds)) (hN : X.N[i]? = some x := by rfl) (hv : nameOk X.env.scope x = true := by kernel_rfl) : R1 X (.Return (some (.Name x pn)) pos) ρ (.rt (.ow ds) (ρ.set i .un)) := .mk fun B F0 F H σ D S k => by
  obtain ⟨fp, f1, f2, f3⟩ := id S.fp
  obtain ⟨a, vs, h1, h2, h3, h4⟩ := f3 i _ hρ
  refine PSw (ps_ret (pv i hN (nameOk_vis hv) (nameOk_d hv) (nameOk_c hv))) ⟨.ref a, at_get h2, k F H σ (.ref a) (Ex.refl F) ?_⟩
  have S' := S.drop i
  refine ⟨S'.ex, S'.kb, S'.kf, by rw [List.length_cons, List.length_cons, S'.len], fun k => match k with | 0 => [a] | k + 1 => pick i [] fp k, fun j k b hj hk => ?_, fun j b hj => ?_, fun j t e => ?_⟩
  · have key : ∀ k, b ∈ ([a] : List Addr) → b ∈ pick i [] fp k → False := fun k h5 h6 => by
      have eb : b = a := by simpa using h5
      subst eb
      by_cases z : k = i
      · rw [z, pick_same] at h6; cases h6
      · rw [pick_ne z] at h6; exact z (f1 k i b h6 (by rw [h1]; simp))
    cases j with
    | zero => cases k with
      | zero => rfl
      | succ k => exact (key k hj hk).elim
    | succ j => cases k with
      | zero => exact (key j hk hj).elim
      | succ k =>
        have hj' : b ∈ pick i [] fp j := hj
        have hk' : b ∈ pick i [] fp k := hk
        by_cases z : j = i
        · rw [z, pick_same] at hj'; cases hj'
        · by_cases z2 : k = i
          · rw [z2, pick_same] at hk'; cases hk'
          · rw [pick_ne z] at hj'; rw [pick_ne z2] at hk'; exact congrArg (· + 1) (f1 j k b hj' hk')
  · cases j with
    | zero =>
      have eb : b = a := by simpa using hj
      subst eb
      exact f2 i b (by rw [h1]; simp)
    | succ j =>
      have hj' : b ∈ pick i [] fp j := hj
      by_cases z : j = i
      · rw [z, pick_same] at hj'; cases hj'
      · rw [pick_ne z] at hj'; exact f2 j b hj'
  · cases j with
    | zero =>
      have e' : Slot.ow ds = t := by simpa using e
      subst e'
      exact ⟨a, vs, rfl, rfl, h3, h4⟩
    | succ j =>
      have e' : (ρ.set i .un)[j]? = some t := by simpa using e
      show SlotOk X.K F H (at' σ j) t (pick i [] fp j)
      by_cases z : j = i
      · subst z
        have hl : j < ρ.length := (List.getElem?_eq_some_iff.mp hρ).1
        rw [List.getElem?_set_self hl] at e'
        cases e'
        rw [pick_same]
        rfl
      · rw [List.getElem?_set_ne (Ne.symm z)] at e'
        rw [pick_ne z]
        exact f3 j t e'
theorem r_set {p' : Pos} (i : Nat) (hN : X.N.Nodup) (he : EX X e ρ s) (hi : X.N[i]? = some x := by rfl) (hx : storeOk X.env.scope (X.fn x) x = true := by kernel_rfl) (hs : swapsWith e (some (.Name x p')) pos.line X.env = pure false := by exact swaps_no rfl) : R1 X (.Assign [.Name x p'] e pos) ρ (.nx (ρ.set i s)) := .mk fun B F0 F H σ D S k =>
  PSw (ps_set hN hi (storeOk_loc hx) pe_w hs (storeOk_fn hx)) (he.run B F0 F H σ _ S fun v G H' as g ok n => k G H' _ g.ff (S.setNew g i ok n))
/-- y = [e for x in xs ..] on one line -/
theorem r_setLc {α : Type} {elt : Expr} {ifs : List Expr} {scope : Scope} {lpos p' : Pos} (i : Nat) (own : List (Str × Nat)) (xs : List α) (enc : α → PyData) (p : α → Bool) (f : α → PyData) (hc : X.calm = true) (hN : X.N.Nodup) (ok : BlkOk X.N X.env.scope scope own) (hit : IT X tg iter ρ (xs.map enc))
    (bd : ∀ y ∈ xs, BlkAt X scope tg ifs elt (own.map (·.2)) ρ (enc y) (p y) (f y)) (hz : xs.length < 100000) (hi : X.N[i]? = some x := by rfl) (hyl : X.env.scope.names.lookup x = some .local := by rfl)
    (hsw : swapsWith (.ListComp elt [⟨tg, iter, ifs, 0⟩] scope lpos) (some (.Name x p')) pos.line X.env = pure true := by exact sw_true rfl rfl rfl (by decide +kernel)) (hs : ∀ x, foldedSetIterable iter X.env x = pure x := by intro _; rfl) :
    R1 X (.Assign [.Name x p'] (.ListComp elt [⟨tg, iter, ifs, 0⟩] scope lpos) pos) ρ (.nx (ρ.set i (.ow ((xs.filter p).map f)))) := .mk fun B F0 F H σ D S k =>
  PSw (ps_setLc (g := bG X scope tg) (tt := bT X scope ifs) (te := bE X scope elt) hc hN hi hyl hsw pi_w ok (fun s H C cl fp => ⟨fun pins s' σ H' v u Q I r h => h _ _ _ _ _ pins s' u I r⟩) (fun s H C cl fp => ⟨fun pins s' σ H' Q I h => h _ _ _ _ _ pins s' I⟩)
    (fun s H C cl fp => ⟨fun pins s' σ H' Q I h => h _ _ _ _ _ pins s' I⟩) hs) (lc_read hit bd hz S fun v G H' as g ok n => k G H' _ g.ff (S.setNew g i ok n))
theorem r_expr (he : EX X e ρ (.da d)) (hs : swapsWith e none pos.line X.env = pure false := by exact swaps_no rfl) : R1 X (.Expr e pos) ρ (.nx ρ) := .mk fun B F0 F H σ D S k =>
  PSw (ps_expr pe_w hs) (he.use S fun v G H' g _ S' => k G H' σ g.ff S')
theorem r_append {po pa' pc : Pos} (i : Nat) (hρ : ρ[i]? = some (.ow ds)) (he : EX X e ρ (.da d)) (hz : ds.length < 100000) (hN : X.N[i]? = some x := by rfl) (hv : nameOk X.env.scope x = true := by kernel_rfl)
    (hs : swapsWith (.Call (.Attribute (.Name x po) "append" pa') [e] [] pc) none pos.line X.env = pure false := by exact swaps_no rfl)
    (hbase : attributeBase (.Name x po) "append" X.env (eval (.Name x po) X.env) = eval (.Name x po) X.env := by exact abase rfl)
    (hfew : ((backTo pc (starEach [e] X.env)).all (fun x => !x.1) && (backToKw pc (keywordEach [] X.env)).all (fun x => x.1.isSome)
      && decide ([e].length + ([] : List Keyword).length + (if ([] : List Keyword).isEmpty then 0 else 1) < 30)) = true := by exact star_few rfl)
    (hline : (pa'.endLine == pc.line) = true := by rfl) (hst : starEach [e] X.env = (false, eval e X.env) :: starEach [] X.env := by exact star_cons rfl) (hplain : (backTo pc (starEach [] X.env)).any (·.1) = false := by exact star_none rfl) :
    R1 X (.Expr (.Call (.Attribute (.Name x po) "append" pa') [e] [] pc) pos) ρ (.nx (ρ.set i (.ow (ds ++ [d])))) := .mk fun B F0 F H σ D S k => by
  obtain ⟨a, vs, e1, e2, e3, e4⟩ := S.ow hρ
  refine PSw (ps_expr (pe_bm PySem.F.plainAttrs_list PySem.F.slot_list_append PySem.F.type_list_append mt_append (pv i hN (nameOk_vis hv) (nameOk_d hv) (nameOk_c hv)) (pa_cons pe_w pa_nil hst) hbase hfew hline hst hplain) hs) ⟨.ref a, e1, .inl ⟨rfl, vs, SqL.of e2⟩, ?_⟩
  refine he.use S fun v G H' g hv' S' => ⟨a, vs, v, rfl, rfl, g.hh _ _ e2, by rw [e3.length]; exact sz_lt hz, k G _ σ g.ff ?_⟩
  exact S'.owMut hρ e1 ((e3.mono g.ff).append (.cons hv' .nil))
theorem r_extend {po pa' pc : Pos} (i : Nat) (hρ : ρ[i]? = some (.ow ds)) (he : EX X e ρ (.da (.list es))) (hz : ds.length + es.length < 100000) (hN : X.N[i]? = some x := by rfl) (hv : nameOk X.env.scope x = true := by kernel_rfl)
    (hs : swapsWith (.Call (.Attribute (.Name x po) "extend" pa') [e] [] pc) none pos.line X.env = pure false := by exact swaps_no rfl)
    (hbase : attributeBase (.Name x po) "extend" X.env (eval (.Name x po) X.env) = eval (.Name x po) X.env := by exact abase rfl)
    (hfew : ((backTo pc (starEach [e] X.env)).all (fun x => !x.1) && (backToKw pc (keywordEach [] X.env)).all (fun x => x.1.isSome)
      && decide ([e].length + ([] : List Keyword).length + (if ([] : List Keyword).isEmpty then 0 else 1) < 30)) = true := by exact star_few rfl)
    (hline : (pa'.endLine == pc.line) = true := by rfl) (hst : starEach [e] X.env = (false, eval e X.env) :: starEach [] X.env := by exact star_cons rfl) (hplain : (backTo pc (starEach [] X.env)).any (·.1) = false := by exact star_none rfl) :
    R1 X (.Expr (.Call (.Attribute (.Name x po) "extend" pa') [e] [] pc) pos) ρ (.nx (ρ.set i (.ow (ds ++ es)))) := .mk fun B F0 F H σ D S k => by
  obtain ⟨a, vs, e1, e2, e3, e4⟩ := S.ow hρ
  refine PSw (ps_expr (pe_bm PySem.F.plainAttrs_list PySem.F.slot_list_extend PySem.F.type_list_extend mt_extend (pv i hN (nameOk_vis hv) (nameOk_d hv) (nameOk_c hv)) (pa_cons pe_w pa_nil hst) hbase hfew hline hst hplain) hs) ⟨.ref a, e1, .inl ⟨rfl, vs, SqL.of e2⟩, ?_⟩
  refine he.use S fun v G H' g hv' S' => ?_
  obtain ⟨b, ys, rfl, h1, h2⟩ := hv'.elst
  exact ⟨a, b, vs, ys, rfl, rfl, g.hh _ _ e2, g.fh _ _ h1, by rw [e3.length, h2.length]; exact Nat.le_of_lt (sz_lt hz), k G _ σ g.ff (S'.owMut hρ e1 ((e3.mono g.ff).append h2))⟩
/-- a, b, .. = e (or any target) by data -/
theorem r_tgt (he : EX X e ρ (.da d)) (hb : BT X tg is d ρ ρ1) (hs : swapsWithSole [tg] e pos.line X.env = pure false := by rfl) (hw : swappedStores [tg] e X.env = pure none := by rfl)
    (h1 : (assignEach [tg] X.env).map (·.2) = [assign tg X.env] := by exact asg_one rfl) : R1 X (.Assign [tg] e pos) ρ (.nx ρ1) := .mk fun B F0 F H σ D S k =>
  PSw (ps_asg pe_w pg_w hs hw h1) (he.use S fun v G H' g hv S' => hb.run B F0 G H' σ v _ S' hv fun σ' _ S2 => k G H' σ' g.ff S2)
/-- a, b = e1, e2 -/
theorem r_par {y : Str} {a b : Expr} {s1 s2 : Slot} {px py pt : Pos} {kt k2 pt2} (i j : Nat) (hc : X.calm = true) (hN : X.N.Nodup) (ha : EX X a ρ s1) (hb : EX X b ρ s2) (hi : X.N[i]? = some x := by rfl) (hj : X.N[j]? = some y := by rfl) (hij : i ≠ j := by decide)
    (hx : X.env.scope.names.lookup x = some .local := by kernel_rfl) (hy : X.env.scope.names.lookup y = some .local := by kernel_rfl) (hst : starEach [a, b] X.env = (false, eval a X.env) :: starEach [b] X.env := by exact star_cons rfl) (hst2 : starEach [b] X.env = (false, eval b X.env) :: starEach [] X.env := by exact star_cons rfl)
    (hw : swappedStores [.Tuple [.Name x px, .Name y py] kt pt] (.Tuple [a, b] k2 pt2) X.env = pure (some [x, y]) := by kernel_rfl)
    (hs : swapsWithSole [.Tuple [.Name x px, .Name y py] kt pt] (.Tuple [a, b] k2 pt2) pos.line X.env = pure false := by kernel_rfl) :
    R1 X (.Assign [.Tuple [.Name x px, .Name y py] kt pt] (.Tuple [a, b] k2 pt2) pos) ρ (.nx ((ρ.set i s1).set j s2)) := .mk fun B F0 F H σ D S k =>
  PSw (ps_par hc hN hi hj hij hx hy (pa_cons pe_w (pa_cons pe_w pa_nil hst2) hst) hw hs) (ha.run B F0 F H σ _ S fun v1 G1 H1 as1 g1 ok1 n1 => hb.run B F0 G1 H1 σ _ (S.grow g1) fun v2 G2 H2 as2 g2 ok2 n2 =>
    ⟨v1, v2, rfl, k G2 H2 _ (g1.ff.trans g2.ff) ((S.setNew g1 i ok1 n1).setNew g2 j ok2 n2)⟩)

/-- a, b, c = e1, e2, e3 -/
theorem r_par3 {y z : Str} {a b c : Expr} {s1 s2 s3 : Slot} {px py pz pt : Pos} {kt k2 pt2} (i j l : Nat) (hc : X.calm = true) (hN : X.N.Nodup) (ha : EX X a ρ s1) (hb : EX X b ρ s2) (hcc : EX X c ρ s3) (hi : X.N[i]? = some x := by rfl) (hj : X.N[j]? = some y := by rfl) (hl : X.N[l]? = some z := by rfl)
    (hij : i ≠ j := by decide) (hil : i ≠ l := by decide) (hjl : j ≠ l := by decide)
    (hx : X.env.scope.names.lookup x = some .local := by kernel_rfl) (hy : X.env.scope.names.lookup y = some .local := by kernel_rfl) (hz : X.env.scope.names.lookup z = some .local := by kernel_rfl)
    (hst : starEach [a, b, c] X.env = (false, eval a X.env) :: starEach [b, c] X.env := by exact star_cons rfl) (hst2 : starEach [b, c] X.env = (false, eval b X.env) :: starEach [c] X.env := by exact star_cons rfl) (hst3 : starEach [c] X.env = (false, eval c X.env) :: starEach [] X.env := by exact star_cons rfl)
    (hw : swappedStores [.Tuple [.Name x px, .Name y py, .Name z pz] kt pt] (.Tuple [a, b, c] k2 pt2) X.env = pure (some [x, y, z]) := by kernel_rfl)
    (hs : swapsWithSole [.Tuple [.Name x px, .Name y py, .Name z pz] kt pt] (.Tuple [a, b, c] k2 pt2) pos.line X.env = pure false := by kernel_rfl) :
    R1 X (.Assign [.Tuple [.Name x px, .Name y py, .Name z pz] kt pt] (.Tuple [a, b, c] k2 pt2) pos) ρ (.nx (((ρ.set i s1).set j s2).set l s3)) := .mk fun B F0 F H σ D S k =>
  PSw (ps_par3 hc hN hi hj hl hij hil hjl hx hy hz (pa_cons pe_w (pa_cons pe_w (pa_cons pe_w pa_nil hst3) hst2) hst) hw hs) (ha.run B F0 F H σ _ S fun v1 G1 H1 as1 g1 ok1 n1 => hb.run B F0 G1 H1 σ _ (S.grow g1) fun v2 G2 H2 as2 g2 ok2 n2 =>
    hcc.run B F0 G2 H2 σ _ ((S.grow g1).grow g2) fun v3 G3 H3 as3 g3 ok3 n3 => ⟨v1, v2, v3, rfl, k G3 H3 _ ((g1.ff.trans g2.ff).trans g3.ff) (((S.setNew g1 i ok1 n1).setNew g2 j ok2 n2).setNew g3 l ok3 n3)⟩)

/-! ### for -/
theorem r_for (hp : PassesOwn (model X.prog X.w) X.A X.env X.xe) (hc : X.calm = true) (hi : IT X tg iter ρ ds) (hf : ForR X tg body ds ρ o) (hs : ∀ x, foldedSetIterable iter X.env x = pure x := by intro _; rfl) : R1 X (.For tg iter body [] pos) ρ o := .mk fun B F0 F H σ D S k =>
  PSw (ps_for hp hc pi_w pg_w pss_w hs) (hi.run B F0 F H σ _ S fun J G H1 g Y => by
    have S1 := S.grow g
    refine ⟨fun i m σ' H' => m = ds.length - i ∧ i ≤ ds.length ∧ ∃ Fc ρ', Ex G Fc ∧ Sl X.K B F0 Fc H' σ' ρ' ∧ ForR X tg body (ds.drop i) ρ' o, ⟨ds.length, by omega, Nat.zero_le _, G, ρ, Ex.refl G, S1, by rw [List.drop_zero]; exact hf⟩, ?_⟩
    rintro i m σ' H' ⟨rfl, hil, Fc, ρ', ec, Sc, fr⟩
    have Yi := Y i Fc H' ec Sc.ex
    by_cases hlt : i < ds.length
    · refine .inr ⟨(Yi.1 hlt).1, fun σ' H' => i + 1 ≤ ds.length ∧ ∃ Fc ρ', Ex G Fc ∧ Sl X.K B F0 Fc H' σ' ρ' ∧ ForR X tg body (ds.drop (i + 1)) ρ' o, fun σ' H' hh => ⟨ds.length - (i + 1), by omega, rfl, hh.1, hh.2⟩, fun x H'' y => ?_⟩
      obtain ⟨G', d, ed, g', dv⟩ := (Yi.1 hlt).2 x H'' y
      have ed' : d = ds[i] := by rw [List.getElem?_eq_getElem hlt] at ed; exact (Option.some.inj ed).symm
      subst ed'
      rw [List.drop_eq_getElem_cons hlt] at fr
      have Sx := Sc.grow g'
      have eg : Ex G G' := ec.trans g'.ff
      generalize hds : ds[i] = d at fr dv
      generalize hdr : ds.drop (i + 1) = dr at fr ⊢
      cases fr with
      | next h1 h2 h3 => exact h1.run B F0 G' H'' σ' x _ Sx dv fun σ2 _ S2 => h2.run B F0 G' H'' σ2 _ S2 fun F3 H3 σ3 e3 S3 => ⟨hlt, F3, _, eg.trans e3, S3, h3⟩
      | cont h1 h2 h3 => exact h1.run B F0 G' H'' σ' x _ Sx dv fun σ2 _ S2 => h2.run B F0 G' H'' σ2 _ S2 fun F3 H3 σ3 e3 S3 => ⟨hlt, F3, _, eg.trans e3, S3, h3⟩
      | brk h1 h2 => exact h1.run B F0 G' H'' σ' x _ Sx dv fun σ2 _ S2 => h2.run B F0 G' H'' σ2 _ S2 fun F3 H3 σ3 e3 S3 => k F3 H3 σ3 ((g.ff.trans eg).trans e3) S3
      | ret h1 h2 => exact h1.run B F0 G' H'' σ' x _ Sx dv fun σ2 _ S2 => h2.run B F0 G' H'' σ2 _ S2 fun F3 H3 σ3 v e3 S3 => k F3 H3 σ3 v ((g.ff.trans eg).trans e3) S3
    · have ei : i = ds.length := by omega
      subst ei
      rw [List.drop_length] at fr
      cases fr
      exact .inl ⟨Yi.2 (Nat.le_refl _), k Fc H' σ' (g.ff.trans ec) Sc⟩)
/-- a loop that goes through all: a fold -/
theorem for_fold {α S : Type} (xs : List α) (encI : α → PyData) (enc : S → Env') (step : S → α → S) (P : List α → S → Prop) (s0 : S) (h0 : P [] s0)
    (turn : ∀ (pre : List α) (y : α) (post : List α) (s : S), xs = pre ++ y :: post → P pre s → ∃ is ρ1, BT X tg is (encI y) (enc s) ρ1 ∧ P (pre ++ [y]) (step s y) ∧ (RS X body ρ1 (.nx (enc (step s y))) ∨ RS X body ρ1 (.ct (enc (step s y))))) :
    ForR X tg body (xs.map encI) (enc s0) (.nx (enc (xs.foldl step s0))) ∧ P xs (xs.foldl step s0) := by
  have key : ∀ (post pre : List α) (s : S), xs = pre ++ post → P pre s → ForR X tg body (post.map encI) (enc s) (.nx (enc (post.foldl step s))) ∧ P xs (post.foldl step s) := by
    intro post
    induction post with
    | nil => intro pre s e h; exact ⟨.nil, by rw [e, List.append_nil]; exact h⟩
    | cons y r ih =>
      intro pre s e h
      obtain ⟨is, ρ1, hb, hp, hr⟩ := turn pre y r s e h
      obtain ⟨i1, i2⟩ := ih (pre ++ [y]) (step s y) (by rw [e, List.append_assoc]; rfl) hp
      refine ⟨?_, i2⟩
      rcases hr with hr | hr
      · exact .next hb hr i1
      · exact .cont hb hr i1
  exact key xs [] s0 rfl h0
/-- a loop that goes through all, told by what it has gone through -/
theorem for_pre {α : Type} (xs : List α) (encI : α → PyData) (enc : List α → Env')
    (turn : ∀ (pre : List α) (y : α) (post : List α), xs = pre ++ y :: post → ∃ is ρ1, BT X tg is (encI y) (enc pre) ρ1 ∧ (RS X body ρ1 (.nx (enc (pre ++ [y]))) ∨ RS X body ρ1 (.ct (enc (pre ++ [y]))))) :
    ForR X tg body (xs.map encI) (enc []) (.nx (enc xs)) := by
  have key : ∀ (post pre : List α), xs = pre ++ post → ForR X tg body (post.map encI) (enc pre) (.nx (enc xs)) := by
    intro post
    induction post with
    | nil => intro pre e; rw [e, List.append_nil]; exact .nil
    | cons y r ih =>
      intro pre e
      obtain ⟨is, ρ1, hb, hr⟩ := turn pre y r e
      have i1 := ih (pre ++ [y]) (by rw [e, List.append_assoc]; rfl)
      rcases hr with hr | hr
      · exact .next hb hr i1
      · exact .cont hb hr i1
  exact key xs [] rfl
theorem rs_is {ρ3 : Env'} (h : RS X rest ρ (.nx ρ1)) (e : ρ1 = ρ3) : RS X rest ρ (.nx ρ3) := e ▸ h
end
end Mx

set_option Elab.async false
set_option linter.all false
set_option maxRecDepth 100000
/-! Mx6: what a def promises, calls, the script, objects. -/
namespace Mx
open PySem PySem.Spec PyProof.Rows L2

/-- a slot without places of its own -/
def Shd (s : Slot) : Prop := ∀ K F H o as, SlotOk K F H o s as → as = []
theorem shd_da {d : PyData} : Shd (.da d) := fun _ _ _ _ _ h => h.1
theorem shd_scr {ns : List Int} : Shd (.scr ns) := fun _ _ _ _ _ h => h.1
abbrev ArgsOk (K : PySem.W.Frag) (F H : Hp) : List V → List Slot → Prop := Paired fun v s => SlotOk K F H (some v) s []
section
variable (X : Cx)
/-- arguments: things without places of their own -/
structure ES (es : List Expr) (ρ : Env') (ss : List Slot) : Prop where
  run : ∀ B F0 F H σ (Q : List V → Hp → Prop), Sl X.K B F0 F H σ ρ → (∀ vs G H', Grow F H G H' → ArgsOk X.K G H' vs ss → Q vs H') → wA X es σ H Q
end
/-- what a def promises: R between arguments and what is handed back -/
def spP (K : PySem.W.Frag) (R : List Slot → Slot → Prop) : Sp := fun vs H Q _ => ∃ F ss s, R ss s ∧ Ex F H ∧ ArgsOk K F H vs ss ∧ Kont K F H s Q
section
variable {X : Cx} {ρ : Env'} {e : Expr} {es : List Expr} {s : Slot} {ss : List Slot} {pos p : Pos} {x : Str} {d : PyData} {ds : List PyData}
theorem SlotOk.stay {K : PySem.W.Frag} {F F' H H' : Hp} {o : Option V} {s : Slot} (h : SlotOk K F H o s []) (e : Ex F F') : SlotOk K F' H' o s [] := h.mono e (fun _ h => nomatch h) fun _ h => nomatch h
theorem ArgsOk.stay {K : PySem.W.Frag} {F F' H H' : Hp} : ∀ {vs : List V} {ss : List Slot}, ArgsOk K F H vs ss → Ex F F' → ArgsOk K F' H' vs ss
  | _, _, .nil, _ => .nil
  | _, _, .cons a r, e => .cons (a.stay e) (ArgsOk.stay r e)
theorem EX.useS {B F0 F H : Hp} {σ : L2.St} {Q : VK} (h : EX X e ρ s) (sh : Shd s) (S : Sl X.K B F0 F H σ ρ) (k : ∀ v G H', Grow F H G H' → SlotOk X.K G H' (some v) s [] → Sl X.K B F0 G H' σ ρ → Q v H') : wE X e σ H Q :=
  h.run B F0 F H σ Q S fun v G H' as g ok _ => by
    have z := sh _ _ _ _ _ ok
    subst z
    exact k v G H' g ok (S.grow g)
theorem ES.use {B F0 F H : Hp} {σ : L2.St} {Q : List V → Hp → Prop} (h : ES X es ρ ss) (S : Sl X.K B F0 F H σ ρ) (k : ∀ vs G H', Grow F H G H' → ArgsOk X.K G H' vs ss → Sl X.K B F0 G H' σ ρ → Q vs H') : wA X es σ H Q :=
  h.run B F0 F H σ Q S fun vs G H' g hv => k vs G H' g hv (S.grow g)
theorem es_nil : ES X [] ρ [] := .mk fun B F0 F H σ Q S k => PAw pa_nil (k [] F H (Grow.refl S.ex) .nil)
theorem es_cons (ha : EX X e ρ s) (hr : ES X es ρ ss) (sh : Shd s := by exact shd_da) (hs : starEach (e :: es) X.env = (false, eval e X.env) :: starEach es X.env := by exact star_cons rfl) : ES X (e :: es) ρ (s :: ss) := .mk fun B F0 F H σ Q S k =>
  PAw (pa_cons pe_w pa_w hs) (ha.useS sh S fun v1 G1 H1 g1 h1 S1 => hr.use S1 fun vs G2 H2 g2 h2 S2 => k (v1 :: vs) G2 H2 (g1.trans g2) (.cons (h1.stay g2.ff) h2))
/-- a name whose thing has no places of its own -/
theorem ex_nameS (i : Nat) (h : ρ[i]? = some s) (sh : Shd s) (hun : s ≠ .un := by intro z; cases z) (hN : X.N[i]? = some x := by rfl) (hv : nameOk X.env.scope x = true := by kernel_rfl) : EX X (.Name x pos) ρ s := .mk fun B F0 F H σ Q S k => by
  obtain ⟨fp, f1, f2, f3⟩ := id S.fp
  have q := f3 i s h
  have z := sh _ _ _ _ _ q
  rw [z] at q
  obtain ⟨v, hv'⟩ : ∃ v, at' σ i = some v := by
    cases s with
    | un => exact absurd rfl hun
    | da d => obtain ⟨_, v, e, _⟩ := q; exact ⟨v, e⟩
    | ow ds => obtain ⟨a, _, z, _⟩ := q; cases z
    | scr ns => obtain ⟨_, a, e, _⟩ := q; exact ⟨_, e⟩
    | ext O => obtain ⟨v, e, _⟩ := q; exact ⟨v, e⟩
  rw [hv'] at q
  exact PEw (pv i hN (nameOk_vis hv) (nameOk_d hv) (nameOk_c hv)) ⟨v, at_get hv', k v F H [] (Grow.refl S.ex) q fun _ h => nomatch h⟩

/-- a def of the text, by its name -/
structure Cal (P : Program) (w : World) (K : PySem.W.Frag) (mg : Str → Option Value) (base : Heap) (x : Str) (k : Nat) (sp : Sp) : Prop where
  ex : ∃ f fd ps, FnOk P w K mg base CX0 k f fd ps sp ∧ mg x = some (.ref f) ∧ PySem.W.keepIn K (.ref f) = true ∧ Binds K fd ps []
theorem ex_call {k : Nat} {R : List Slot → Slot → Prop} (C : Cal X.prog X.w X.K X.mg X.base x k (spP X.K R)) (hr : Room k X.A) (ha : ES X (e :: es) ρ ss) (h : R ss s) (hg : Gl X x := by exact gl_of (by kernel_rfl)) (hdb : (x == ("__debug__" : Str)) = false := by kernel_rfl)
    (he : starEach (e :: es) X.env = (false, eval e X.env) :: starEach es X.env := by exact star_cons rfl) (hpl : (backTo pos (starEach es X.env)).any (·.1) = false := by exact star_none rfl) : EX X (.Call (.Name x p) (e :: es) [] pos) ρ s := .mk fun B F0 F H σ Q S q => by
  obtain ⟨f, fd, ps, G, gS, kp, bS⟩ := C.ex
  refine PEw (pe_call G hr hg gS kp bS .nil pass0 pa_w hdb he hpl) (ha.use S fun vs G1 H1 g1 h1 S1 => ?_)
  rw [List.append_nil]
  exact ⟨G1, ss, s, h, S1.ex, h1, q.go g1⟩
theorem ex_call0 {k : Nat} {R : List Slot → Slot → Prop} (C : Cal X.prog X.w X.K X.mg X.base x k (spP X.K R)) (hr : Room k X.A) (h : R [] s) (hg : Gl X x := by exact gl_of (by kernel_rfl)) (hdb : (x == ("__debug__" : Str)) = false := by kernel_rfl) : EX X (.Call (.Name x p) [] [] pos) ρ s := .mk fun B F0 F H σ Q S q => by
  obtain ⟨f, fd, ps, G, gS, kp, bS⟩ := C.ex
  refine PEw (pe_call0 G hr hg gS kp bS .nil pass0 hdb) ?_
  exact ⟨F, [], s, h, S.ex, .nil, q⟩

/-! ### the script -/
theorem Sl.scr {K : PySem.W.Frag} {B F0 F H : Hp} {σ : L2.St} {i : Nat} {ns : List Int} (S : Sl K B F0 F H σ ρ) (h : ρ[i]? = some (.scr ns)) : ∃ a, σ[i]? = some (some (.ref a)) ∧ SqL K F a (ns.map V.int) := by
  obtain ⟨fp, f1, f2, f3⟩ := S.fp
  obtain ⟨_, a, h2, h3⟩ := f3 i _ h
  exact ⟨a, at_get h2, h3⟩
theorem ex_lenScr {y : Str} {py : Pos} {ns : List Int} (i : Nat) (h : ρ[i]? = some (.scr ns)) (hm : X.mg "len" = none) (hg : Gl X "len" := by exact gl_of (by kernel_rfl)) (hN : X.N[i]? = some y := by rfl) (hv : nameOk X.env.scope y = true := by kernel_rfl) (he : starEach [.Name y py] X.env = (false, eval (.Name y py) X.env) :: starEach [] X.env := by exact star_cons rfl) (hpl : (backTo pos (starEach [] X.env)).any (·.1) = false := by exact star_none rfl) :
    EX X (.Call (.Name "len" p) [.Name y py] [] pos) ρ (.da (.int ns.length)) := .mk fun B F0 F H σ Q S k => by
  obtain ⟨a, e1, e2⟩ := S.scr h
  refine PEw (pe_callB call_len_seq hg hm PySem.boot_len (pa_cons (pv i hN (nameOk_vis hv) (nameOk_d hv) (nameOk_c hv)) pa_nil he) (by decide) (by decide) he hpl) ⟨.ref a, e1, a, ns.map V.int, rfl, .inl (sql_mono S.ex e2), ?_⟩
  rw [List.length_map]
  exact k.here S.ex (.int _)
theorem ex_ixScr {y : Str} {py : Pos} {ns : List Int} {b : Expr} {j n : Int} (i : Nat) (h : ρ[i]? = some (.scr ns)) (hb : EX X b ρ (.da (.int j))) (hj : atI ns j = some n) (hN : X.N[i]? = some y := by rfl) (hv : nameOk X.env.scope y = true := by kernel_rfl)
    (hs : PlainIx b := by exact fun _ _ => rfl) : EX X (.Subscript (.Name y py) b pos) ρ (.da (.int n)) := .mk fun B F0 F H σ Q S k => by
  obtain ⟨a, e1, e2⟩ := S.scr h
  refine PEw (pe_ix ix_list (pv i hN (nameOk_vis hv) (nameOk_d hv) (nameOk_c hv)) pe_w hs) ⟨.ref a, e1, hb.use S fun v G H' g hv' S' => ⟨a, ns.map V.int, j, .int n, rfl, hv'.eint, sql_mono (S.ex.trans g.hh) e2, ?_, k.da g (.int n)⟩⟩
  unfold atI at hj ⊢
  rw [List.length_map]
  cases q : ixN ns.length j with
  | none => rw [q] at hj; cases hj
  | some m =>
    rw [q] at hj
    have hj' : ns[m]? = some n := hj
    show (ns.map V.int)[m]? = some (V.int n)
    rw [List.getElem?_map, hj']
    rfl
end

/-! ### a def's body -/
section
variable {P : Program} {w : World} {K : PySem.W.Frag} {mg : Str → Option Value} {base : Heap}
def rho (N : List Str) (ss : List Slot) : Env' := ss ++ List.replicate (N.length - ss.length) .un
theorem Paired.len {α β : Type} {R : α → β → Prop} : ∀ {xs : List α} {ys : List β}, Paired R xs ys → xs.length = ys.length
  | _, _, .nil => rfl
  | _, _, .cons _ r => congrArg (· + 1) (Paired.len r)
theorem sl_start {K : PySem.W.Frag} {F H : Hp} {N : List Str} {vs : List V} {ss : List Slot} (e : Ex F H) (h : ArgsOk K F H vs ss) : Sl K H F F H (L2.start N vs) (rho N ss) := by
  have hl : vs.length = ss.length := Mx.Paired.len h
  refine ⟨e, Ex.refl H, fun _ _ => rfl, ?_, fun _ => [], (fun _ _ _ h _ => nomatch h), (fun _ _ h => nomatch h), ?_⟩
  · unfold L2.start rho
    rw [List.length_append, List.length_append, List.length_map, List.length_replicate, List.length_replicate, hl]
  · intro i s hs
    unfold L2.start rho at *
    rw [← hl] at hs
    clear hl
    generalize N.length - vs.length = n at hs ⊢
    induction h generalizing i with
    | nil =>
      rw [List.nil_append, List.getElem?_replicate] at hs
      split at hs
      · cases hs; rfl
      · cases hs
    | cons a r ih =>
      cases i with
      | zero => cases hs; exact a
      | succ i => exact ih i (by simpa using hs)
/-- THE RULE for a def that only reads and makes -/
theorem fun_pure {x qual : Str} {st : Stmt} {f : Addr} {fd : FuncData} {N ps : List Str} {k : Nat} {R : List Slot → Slot → Prop} (F : Fun K x qual st f fd) (S : FnScope N ps (defScope st)) (hl : ∀ ss s, R ss s → ss.length = ps.length)
    (hbody : ∀ (cdv : Value) (A : Around) (outer : List Env) (s : Shared) (H : Hp) (E : XK), Room k (A.deeper (envOfC qual (defScope st) s.heap.objs.size f cdv)) → ∀ ss sl, R ss sl →
      ∃ ρ', RS (cxOf CX0 P w K mg base N qual (defScope st) f cdv A outer s H E).nox (defBody st) (rho N ss) (.rt sl ρ') ∨ (sl = .da .none ∧ RS (cxOf CX0 P w K mg base N qual (defScope st) f cdv A outer s H E).nox (defBody st) (rho N ss) (.nx ρ'))) :
    FnOk P w K mg base CX0 (k + 1) f fd ps (spP K R) := by
  refine F.ok S (fun vs H Q E h => ?_) (fun cdv A outer s H vs Q E hr h => ?_)
  · obtain ⟨G, ss, sl, hR, _, hA, _⟩ := h
    rw [Mx.Paired.len hA]
    exact hl ss sl hR
  · obtain ⟨G, ss, sl, hR, eG, hA, q⟩ := h
    obtain ⟨ρ', hb⟩ := hbody cdv A outer s H E hr ss sl hR
    refine ⟨_, pss_w, ?_⟩
    have S0 := sl_start (N := N) eG hA
    have grow : ∀ {F' H' : Hp} {σ' : L2.St} {ρ' : Env'}, Ex G F' → Sl K H G F' H' σ' ρ' → Grow G H F' H' := fun e S' => ⟨e, S'.kb, S'.ex, S'.kf⟩
    rcases hb with hb | ⟨rfl, hb⟩
    · refine hb.run H G G H _ _ S0 fun F' H' σ' v e S' => ?_
      obtain ⟨fp, f1, f2, f3⟩ := id S'.fp
      exact q v F' H' (fp 0) (grow e S') (f3 0 sl rfl) fun a ha => ⟨(f2 0 a ha).2.1, (f2 0 a ha).1, (f2 0 a ha).2.2⟩
    · exact hb.run H G G H _ _ S0 fun F' H' σ' e S' => q .non F' H' [] (grow e S') ⟨rfl, .non, rfl, .non⟩ fun _ h => nomatch h
end

/-- it ends by handing back s -/
structure Rt (X : Cx) (st : List Stmt) (ρ : Env') (s : Slot) : Prop where
  out : ∃ ρ', RS X st ρ (.rt s ρ')
section
variable {X : Cx} {st : Stmt} {rest : List Stmt} {ρ ρ1 : Env'} {s : Slot} {ds : List PyData}
theorem rt_cons (h1 : R1 X st ρ (.nx ρ1)) (h2 : Rt X rest ρ1 s) : Rt X (st :: rest) ρ s := let ⟨ρ', h⟩ := h2.out; ⟨ρ', rs_cons h1 h⟩
theorem rt_ret (h1 : R1 X st ρ (.rt s ρ1)) : Rt X (st :: rest) ρ s := ⟨_, rs_ret h1⟩
theorem rt_freeze (i : Nat) (hρ : ρ[i]? = some (.ow ds)) (h : Rt X rest (ρ.set i (.da (.list ds))) s) : Rt X rest ρ s := let ⟨ρ', h⟩ := h.out; ⟨ρ', rs_freeze i hρ h⟩
theorem rt_pre (w : Weak ρ ρ1) (h : Rt X rest ρ1 s) : Rt X rest ρ s := let ⟨ρ', h⟩ := h.out; ⟨ρ', rs_pre w h⟩
theorem rt_is {s' : Slot} (h : Rt X rest ρ s) (e : s = s') : Rt X rest ρ s' := e ▸ h
/-- a branch ends the def, or what is behind it does -/
inductive Br (X : Cx) (body rest : List Stmt) (ρ : Env') (s : Slot) : Prop
  | ret : Rt X body ρ s → Br X body rest ρ s
  | nx {ρ1 : Env'} : RS X body ρ (.nx ρ1) → Rt X rest ρ1 s → Br X body rest ρ s
/-- an if -/
theorem rt_if {c : Expr} {body els : List Stmt} {pos : Pos} {b : Bool} (hc : ET X c ρ b) (h1 : b = true → Br X body rest ρ s) (h2 : b = false → Br X els rest ρ s) : Rt X (.If c body els pos :: rest) ρ s := by
  cases b with
  | true =>
    cases h1 rfl with
    | ret h => obtain ⟨ρ', h⟩ := h.out; exact ⟨ρ', rs_ret (r_if hc (fun _ => h) fun h => nomatch h)⟩
    | nx e1 h => obtain ⟨ρ', h⟩ := h.out; exact ⟨ρ', rs_cons (r_if hc (fun _ => e1) fun h => nomatch h) h⟩
  | false =>
    cases h2 rfl with
    | ret h => obtain ⟨ρ', h⟩ := h.out; exact ⟨ρ', rs_ret (r_if hc (fun h => nomatch h) fun _ => h)⟩
    | nx e1 h => obtain ⟨ρ', h⟩ := h.out; exact ⟨ρ', rs_cons (r_if hc (fun h => nomatch h) fun _ => e1) h⟩
/-- if c: return ..; the rest -/
theorem rt_if0 {c : Expr} {body : List Stmt} {pos : Pos} {b : Bool} (hc : ET X c ρ b) (h1 : b = true → Rt X body ρ s) (h2 : b = false → Rt X rest ρ s) : Rt X (.If c body [] pos :: rest) ρ s := rt_if hc (fun h => .ret (h1 h)) fun h => .nx rs_nil (h2 h)
end
section
variable {P : Program} {w : World} {K : PySem.W.Frag} {mg : Str → Option Value} {base : Heap}
theorem fun_rt {x qual : Str} {st : Stmt} {f : Addr} {fd : FuncData} {N ps : List Str} {k : Nat} {R : List Slot → Slot → Prop} (F : Fun K x qual st f fd) (S : FnScope N ps (defScope st)) (hl : ∀ ss s, R ss s → ss.length = ps.length)
    (hbody : ∀ (cdv : Value) (A : Around) (outer : List Env) (s : Shared) (H : Hp) (E : XK), Room k (A.deeper (envOfC qual (defScope st) s.heap.objs.size f cdv)) → (A.deeper (envOfC qual (defScope st) s.heap.objs.size f cdv)).units + 64 < cLine → ∀ ss sl, R ss sl →
      Rt (cxOf CX0 P w K mg base N qual (defScope st) f cdv A outer s H E).nox (defBody st) (rho N ss) sl) : FnOk P w K mg base CX0 (k + 1) f fd ps (spP K R) :=
  fun_pure F S hl fun cdv A outer s H E hr ss sl h => let ⟨ρ', q⟩ := (hbody cdv A outer s H E hr hr.units ss sl h).out; ⟨ρ', .inl q⟩
end

/-! ### objects that are only read -/
/-- an instance of the class at C with such fields, at v, frozen -/
def ObjAt (C : Addr) (fs : List (Str × PyData)) (F : Hp) (v : V) : Prop := ∃ a dx fv, v = .ref a ∧ F a = some (.ins C dx fv) ∧ F dx = some (.own a) ∧ Paired (fun (p : Str × V) (q : Str × PyData) => p.1 = q.1 ∧ Dv F p.2 q.2) fv fs
theorem paired_imp {α β : Type} {R R' : α → β → Prop} (h : ∀ a b, R a b → R' a b) : ∀ {xs : List α} {ys : List β}, Paired R xs ys → Paired R' xs ys
  | _, _, .nil => .nil
  | _, _, .cons a r => .cons (h _ _ a) (paired_imp h r)
theorem ObjAt.mono {C : Addr} {fs : List (Str × PyData)} {F G : Hp} {v : V} (h : ObjAt C fs F v) (e : Ex F G) : ObjAt C fs G v := by
  obtain ⟨a, dx, fv, h1, h2, h3, h4⟩ := h
  exact ⟨a, dx, fv, h1, e _ _ h2, e _ _ h3, paired_imp (fun p q z => ⟨z.1, z.2.mono e⟩) h4⟩
def OB (C : Addr) (fs : List (Str × PyData)) : Own := ⟨fun F _ v as => as = [] ∧ ObjAt C fs F v, fun h e _ _ => ⟨h.1, h.2.mono e⟩⟩
theorem shd_ob {C : Addr} {fs : List (Str × PyData)} : Shd (.ext (OB C fs)) := fun _ _ _ _ _ h => by obtain ⟨v, _, h, _⟩ := h; exact h
theorem lookup_pair {F : Hp} {f : Str} {d : PyData} : ∀ {fv : List (Str × V)} {fs : List (Str × PyData)}, Paired (fun (p : Str × V) (q : Str × PyData) => p.1 = q.1 ∧ Dv F p.2 q.2) fv fs → fs.lookup f = some d → ∃ v, fv.lookup f = some v ∧ Dv F v d
  | _, _, .nil, h => by cases h
  | (k, v) :: fv, (k', d') :: fs, .cons a r, h => by
    obtain ⟨rfl, hd⟩ := a
    by_cases e : (f == k) = true
    · simp only [List.lookup, e] at h ⊢
      cases h
      exact ⟨v, rfl, hd⟩
    · have e' : (f == k) = false := by simpa using e
      simp only [List.lookup, e'] at h ⊢
      exact lookup_pair r h
theorem lookup_none {F : Hp} {f : Str} : ∀ {fv : List (Str × V)} {fs : List (Str × PyData)}, Paired (fun (p : Str × V) (q : Str × PyData) => p.1 = q.1 ∧ Dv F p.2 q.2) fv fs → fs.lookup f = none → fv.lookup f = none
  | _, _, .nil, h => rfl
  | (k, v) :: fv, (k', d') :: fs, .cons a r, h => by
    obtain ⟨rfl, hd⟩ := a
    by_cases e : (f == k) = true
    · simp only [List.lookup, e] at h
      cases h
    · have e' : (f == k) = false := by simpa using e
      simp only [List.lookup, e'] at h ⊢
      exact lookup_none r h
section
variable {X : Cx} {ρ : Env'} {o e : Expr} {es : List Expr} {s : Slot} {ss : List Slot} {pos p apos : Pos} {x m f : Str} {d : PyData} {C : Addr} {fs : List (Str × PyData)}
/-- o.f -/
theorem ex_fld (ho : EX X o ρ (.ext (OB C fs))) (hf : fs.lookup f = some d) (hc : Cls X.K C) (hn : NoAttr X.K C f) (hb : attributeBase o f X.env (eval o X.env) = eval o X.env := by first | exact abase rfl | rfl) : EX X (.Attribute o f pos) ρ (.da d) := .mk fun B F0 F H σ Q S k =>
  PEw (pe_fld pe_w hb) (ho.useS shd_ob S fun v G H' g ok S' => by
    obtain ⟨v', ev, _, a, dx, fv, rfl, h2, h3, h4⟩ := ok
    cases ev
    obtain ⟨u, hu, hd⟩ := lookup_pair h4 hf
    exact ⟨a, C, dx, fv, u, rfl, S'.ex _ _ h2, hc, hn, hu, k.da g hd⟩)
/-- a method of the text -/
structure CalM (P : Program) (w : World) (K : PySem.W.Frag) (mg : Str → Option Value) (base : Heap) (C : Addr) (m : Str) (k : Nat) (sp : Sp) : Prop where
  cl : Cls K C
  ex : ∃ f fd ps, FnOk P w K mg base CX0 k f fd ps sp ∧ Meth K C m f ∧ Binds K fd ps []
/-- o.m(e, ..) -/
theorem ex_meth {k : Nat} {R : List Slot → Slot → Prop} {pl : Sem Bool} (M : CalM X.prog X.w X.K X.mg X.base C m k (spP X.K R)) (hr : Room k X.A) (ho : EX X o ρ (.ext (OB C fs))) (hm : fs.lookup m = none) (ha : ES X (e :: es) ρ ss) (h : R (.ext (OB C fs) :: ss) s)
    (hst : starEach (e :: es) X.env = (false, eval e X.env) :: starEach es X.env := by exact star_cons rfl) (hpl : (backTo pos (starEach es X.env)).any (·.1) = false := by exact star_none rfl)
    (ht : eval (.Call (.Attribute o m apos) (e :: es) [] pos) X.env = (do
      let ov ← eval o X.env
      standAt apos.atName
      let (f, first) ← holding [ov] (getMethod ov m pl)
      callWith pos f first (backTo pos (starEach (e :: es) X.env)) (backToKw pos (keywordEach [] X.env))) := by rfl) : EX X (.Call (.Attribute o m apos) (e :: es) [] pos) ρ s := .mk fun B F0 F H σ Q S q => by
  obtain ⟨f, fd, ps, G, mt, bS⟩ := M.ex
  refine PEw (pe_meth pe_w M.cl mt G hr bS .nil pass0 pa_w hst hpl ht) (ho.useS shd_ob S fun v G1 H1 g1 ok S1 => ?_)
  obtain ⟨v', ev, _, a, dx, fv, rfl, h2, h3, h4⟩ := id ok
  cases ev
  refine ⟨a, dx, fv, rfl, S1.ex _ _ h2, lookup_none h4 hm, ha.use S1 fun vs G2 H2 g2 h2 S2 => ?_⟩
  rw [List.append_nil]
  exact ⟨G2, _ :: ss, s, h, S2.ex, .cons (ok.stay g2.ff) h2, q.go (g1.trans g2)⟩

/-! ### instances made -/
theorem run_make0 {pins : List (Addr × Obj)} {σ : L2.St} {H : Hp} {s : Shared} {Q : VK} (hm : PySem.W.makesIn X.K C = true) (hi : PySem.W.findIn X.K (.ref C) "__init__" = some (some (.builtin "object.__init__"))) (I : Inv X pins σ H s)
    (h : ∀ x dx, H x = none → H dx = none → dx ≠ x → Q (.ref x) (upd (upd H dx (.own x)) x (.ins C dx []))) : wpAny (model X.prog X.w) X.A (call (.ref C) []) (EP X pins σ Q) X.xe s := by
  have hq := h (s.heap.objs.size + 1) s.heap.objs.size (I.hok.fresh (Nat.le_succ _)) (I.hok.fresh (Nat.le_refl _)) (Nat.ne_of_lt (Nat.lt_succ_self _))
  have I2 := Inv.made (C := C) I
  refine wpAny_call ?_
  have KX := I.kIn
  obtain ⟨hh, g, d, t, os⟩ := s
  have Y := PySem.W.makes_of (M := model X.prog X.w) KX hm
  have e2 : ((hh.push PySem.W.emptyDict).push (PySem.W.instObj C hh.objs.size)).get? (hh.objs.size + 1) = some (PySem.W.instObj C hh.objs.size) := by
    have := Heap.get?_push_size (hh.push PySem.W.emptyDict) (o := PySem.W.instObj C hh.objs.size) rfl
    rwa [Heap.size_push] at this
  refine PySem.W.make_core Y (PySem.W.looks_findIn KX hi) (fun self => PySem.W.Looks.of_pure (PySem.W.oi_bind self)) (.inr ⟨rfl, rfl⟩) ?_
  have t1 : PySem.W.Looks (model X.prog X.w) ((hh.push PySem.W.emptyDict).push (PySem.W.instObj C hh.objs.size)) (typeOf (.ref (hh.objs.size + 1))) (.ref C) := (PySem.W.Looks.ld e2).andThen .now
  have t2 : PySem.W.Looks (model X.prog X.w) ((hh.push PySem.W.emptyDict).push (PySem.W.instObj C hh.objs.size)) (isInstance (.ref (hh.objs.size + 1)) (.type "object")) true := t1.andThen (Y.top.keeps fun b o e => Heap.get?_push_of_some _ (Heap.get?_push_of_some _ e))
  refine codeAny_call_builtin PySem.W.oi_plain PySem.W.entry_oi (@PySem.W.check_slot (model X.prog X.w) _ _ _ "object.__init__" "object" "__init__" (.ref (hh.objs.size + 1)) [] [] _ PySem.W.oi_kind PySem.W.oi_split t2 (PySem.W.oi_args (.ref (hh.objs.size + 1))) ?_)
  rw [PySem.W.oi_run]
  exact wpAny_pure (And.intro rfl ⟨.ref (hh.objs.size + 1), _, I2, rfl, hq⟩)
/-- what a class without __init__ must have -/
structure Mk0 (K : PySem.W.Frag) (mg : Str → Option Value) (x : Str) (C : Addr) : Prop where
  makes : PySem.W.makesIn K C = true
  init : PySem.W.findIn K (.ref C) "__init__" = some (some (.builtin "object.__init__"))
  kp : PySem.W.keepIn K (.ref C) = true
  nm : mg x = some (.ref C)
theorem frozen_new {F H F1 H1 : Hp} {x dx : Addr} {fv : List (Str × V)} {u : HO} (g : Grow F H F1 H1) (nx : H x = none) (ndx : H dx = none) (ne : dx ≠ x) (n1 : F1 x = none) (n2 : F1 dx = none) (hx : H1 x = some (.ins C dx fv)) (hdx : H1 dx = some u) :
    Grow F H (upd (upd F1 dx u) x (.ins C dx fv)) H1 := by
  refine ⟨g.ff.trans fun b o q => ?_, g.hh, fun b o q => ?_, fun b hb => ?_⟩
  · have z1 : b ≠ x := fun z => by subst z; rw [n1] at q; cases q
    have z2 : b ≠ dx := fun z => by subst z; rw [n2] at q; cases q
    rw [upd_ne z1, upd_ne z2]
    exact q
  · by_cases z1 : b = x
    · subst z1; rw [upd_same] at q; rw [hx]; exact q
    · rw [upd_ne z1] at q
      by_cases z2 : b = dx
      · subst z2; rw [upd_same] at q; rw [hdx]; exact q
      · rw [upd_ne z2] at q; exact g.fh b o q
  · rw [upd_ne (fun z => by subst z; exact hb nx), upd_ne (fun z => by subst z; exact hb ndx)]
    exact g.fr b hb
theorem ex_make0 (M : Mk0 X.K X.mg x C) (hg : Gl X x := by exact gl_of (by kernel_rfl)) (hdb : (x == ("__debug__" : Str)) = false := by kernel_rfl) : EX X (.Call (.Name x p) [] [] pos) ρ (.ext (OB C [])) := .mk fun B F0 F H σ Q S k => by
  have pe : PE X (.Call (.Name x p) [] [] pos) (fun σ H Q => ∀ x dx, H x = none → H dx = none → dx ≠ x → Q (.ref x) (upd (upd H dx (.own x)) x (.ins C dx []))) := by
    refine ⟨fun pins s σ H Q I h => ?_⟩
    refine wpAny_Call_Name_kw (ld_glob I hg M.nm ?_ hdb)
    exact PySem.W.callWith_K0 I.kIn M.kp (run_make0 M.makes M.init I h)
  refine PEw pe fun y dx ny ndy ne => ?_
  have n1 : F y = none := Ex.noneOf S.ex ny
  have n2 : F dx = none := Ex.noneOf S.ex ndy
  have g1 : Grow F H F (upd (upd H dx (.own y)) y (.ins C dx [])) := by
    have a1 := (Grow.refl S.ex).loose (o := .own y) ndy
    exact a1.loose (by rw [upd_ne (Ne.symm ne)]; exact ny)
  refine k (.ref y) _ _ [] (frozen_new g1 ny ndy ne n1 n2 upd_same (by rw [upd_ne ne, upd_same])) ⟨.ref y, rfl, rfl, y, dx, [], rfl, upd_same, by rw [upd_ne ne, upd_same], .nil⟩ fun _ h => nomatch h
/-- what __init__ promises: the fields -/
def spInit (K : PySem.W.Frag) (C : Addr) (R : List Slot → List (Str × PyData) → Prop) : Sp := fun vs H Q _ => ∃ F ss fs x dx vs', vs = .ref x :: vs' ∧ R ss fs ∧ Ex F H ∧ ArgsOk K F H vs' ss ∧ F x = none ∧ F dx = none ∧ dx ≠ x ∧ H x = some (.ins C dx []) ∧ H dx = some (.own x) ∧
  ∀ G H' fv, Ex F G → Ex G H' → (∀ a o, a ≠ x → H a = some o → H' a = some o) → (∀ a, H a ≠ none → G a = F a) → H' x = some (.ins C dx fv) → Paired (fun (p : Str × V) (q : Str × PyData) => p.1 = q.1 ∧ Dv G p.2 q.2) fv fs → Q .non H'
structure CalI (P : Program) (w : World) (K : PySem.W.Frag) (mg : Str → Option Value) (base : Heap) (x : Str) (C : Addr) (k : Nat) (sp : Sp) : Prop where
  nm : mg x = some (.ref C)
  ex : ∃ f fd ps, FnOk P w K mg base CX0 k f fd ps sp ∧ Mk K C f ∧ Binds K fd ps []
theorem ex_make {k : Nat} {R : List Slot → List (Str × PyData) → Prop} (M : CalI X.prog X.w X.K X.mg X.base x C k (spInit X.K C R)) (hr : Room (k + 1) X.A) (ha : ES X (e :: es) ρ ss) (h : R ss fs) (hg : Gl X x := by exact gl_of (by kernel_rfl)) (hdb : (x == ("__debug__" : Str)) = false := by kernel_rfl)
    (he : starEach (e :: es) X.env = (false, eval e X.env) :: starEach es X.env := by exact star_cons rfl) (hpl : (backTo pos (starEach es X.env)).any (·.1) = false := by exact star_none rfl) : EX X (.Call (.Name x p) (e :: es) [] pos) ρ (.ext (OB C fs)) := .mk fun B F0 F H σ Q S q => by
  obtain ⟨f, fd, ps, G, mk, bS⟩ := M.ex
  refine PEw (pe_make mk G hr hg M.nm bS .nil pass0 pa_w hdb he hpl) (ha.use S fun vs G1 H1 g1 h1 S1 y dx ny ndy ne => ?_)
  rw [List.append_nil]
  have n1 : G1 y = none := Ex.noneOf S1.ex ny
  have n2 : G1 dx = none := Ex.noneOf S1.ex ndy
  have ex2 : Ex G1 (upd (upd H1 dx (.own y)) y (.ins C dx [])) := (S1.ex.trans (Ex.new ndy)).mut n1
  refine ⟨G1, ss, fs, y, dx, vs, rfl, h, ex2, h1.stay (Ex.refl _), n1, n2, ne, upd_same, by rw [upd_ne ne, upd_same], fun G2 H2 fv e1 e2 kp fr hx hp => ⟨rfl, ?_⟩⟩
  have nG : ∀ b, (upd (upd H1 dx (.own y)) y (.ins C dx [])) b ≠ none → G2 b = G1 b := fr
  have hy : G2 y = none := by rw [fr y (by rw [upd_same]; intro z; cases z)]; exact n1
  have hdx : G2 dx = none := by rw [fr dx (by rw [upd_ne ne, upd_same]; intro z; cases z)]; exact n2
  have hdH : H2 dx = some (.own y) := kp dx _ ne (by rw [upd_ne ne, upd_same])
  have gg : Grow F H G2 H2 := by
    refine ⟨g1.ff.trans e1, fun b o z => ?_, e2, fun b hb => ?_⟩
    · have z1 := g1.hh b o z
      have nb : b ≠ y := fun q => by subst q; rw [ny] at z1; cases z1
      have nb2 : b ≠ dx := fun q => by subst q; rw [ndy] at z1; cases z1
      exact kp b o nb (by rw [upd_ne nb, upd_ne nb2]; exact z1)
    · have z1 := Ex.someOf g1.hh hb
      have nb : b ≠ y := fun q => by subst q; exact z1 ny
      have nb2 : b ≠ dx := fun q => by subst q; exact z1 ndy
      rw [fr b (by rw [upd_ne nb, upd_ne nb2]; exact z1)]
      exact g1.fr b hb
  have ny' : H y = none := Ex.noneOf g1.hh ny
  have nd' : H dx = none := Ex.noneOf g1.hh ndy
  have e3 : Ex G2 (upd (upd G2 dx (.own y)) y (.ins C dx fv)) := fun b o z => by
    have z1 : b ≠ y := fun q => by subst q; rw [hy] at z; cases z
    have z2 : b ≠ dx := fun q => by subst q; rw [hdx] at z; cases z
    rw [upd_ne z1, upd_ne z2]
    exact z
  exact q (.ref y) _ H2 [] (frozen_new gg ny' nd' ne hy hdx hx hdH) ⟨.ref y, rfl, rfl, y, dx, fv, rfl, upd_same, by rw [upd_ne ne, upd_same], paired_imp (fun p q z => ⟨z.1, z.2.mono e3⟩) hp⟩ fun _ h => nomatch h
end
end Mx

set_option Elab.async false
set_option linter.all false
set_option maxRecDepth 100000
/-! Mx7: order of texts, sorted; equality of data; short words. -/
namespace Mx
open PySem PySem.Spec PyProof.Rows L2

/-! ### the order of texts -/
def ltS (a b : Str) : Bool := decide (a.cps.toList < b.cps.toList)
theorem str_ext {a b : Str} (h : a.cps.toList = b.cps.toList) : a = b := by
  cases a; cases b; simp only at h; congr 1; exact Array.toList_inj.mp h
theorem ltS_irrefl (a : Str) : ltS a a = false := decide_eq_false (List.lt_irrefl _)
theorem ltS_trans {a b c : Str} (h : ltS a b = true) (h' : ltS b c = true) : ltS a c = true := decide_eq_true (List.lt_trans (of_decide_eq_true h) (of_decide_eq_true h'))
theorem ltS_tri {a b : Str} (h : ltS a b = false) (h' : ltS b a = false) : a = b := by
  have h1 := of_decide_eq_false h
  have h2 := of_decide_eq_false h'
  exact str_ext (List.le_antisymm (List.not_lt.mp h2) (List.not_lt.mp h1))
theorem ltS_asymm {a b : Str} (h : ltS a b = true) : ltS b a = false := by
  cases e : ltS b a with
  | false => rfl
  | true => have := ltS_trans h e; rw [ltS_irrefl] at this; cases this
/-- a ≤ b -/
def leS (a b : Str) : Bool := !ltS b a
theorem leS_total (a b : Str) : leS a b = true ∨ leS b a = true := by
  unfold leS
  cases e : ltS b a with
  | false => exact .inl rfl
  | true => rw [ltS_asymm e]; exact .inr rfl
theorem leS_trans {a b c : Str} (h : leS a b = true) (h' : leS b c = true) : leS a c = true := by
  unfold leS at *
  cases e : ltS c a with
  | false => rfl
  | true =>
    simp only [Bool.not_eq_true'] at h h'
    cases e2 : ltS a b with
    | true => have := ltS_trans e e2; rw [this] at h'; cases h'
    | false =>
      have := ltS_tri e2 h
      subst this
      rw [e] at h'
      cases h'
theorem leS_anti {a b : Str} (h : leS a b = true) (h' : leS b a = true) : a = b := by
  unfold leS at h h'
  simp only [Bool.not_eq_true'] at h h'
  exact ltS_tri h' h
def insS (x : Str) : List Str → List Str
  | [] => [x]
  | y :: r => if leS x y = true then x :: y :: r else y :: insS x r
def sortS : List Str → List Str
  | [] => []
  | x :: r => insS x (sortS r)
theorem insS_perm (x : Str) : ∀ l : List Str, (insS x l).Perm (x :: l)
  | [] => List.Perm.refl _
  | y :: r => by
    unfold insS
    split
    · exact List.Perm.refl _
    · exact (List.Perm.cons y (insS_perm x r)).trans (List.Perm.swap x y r)
theorem sortS_perm : ∀ l : List Str, (sortS l).Perm l
  | [] => List.Perm.refl _
  | x :: r => (insS_perm x _).trans (List.Perm.cons x (sortS_perm r))
theorem sortS_len (l : List Str) : (sortS l).length = l.length := (sortS_perm l).length_eq
theorem insS_sorted (x : Str) : ∀ l : List Str, l.Pairwise (fun a b => leS a b = true) → (insS x l).Pairwise (fun a b => leS a b = true)
  | [], _ => by unfold insS; exact List.pairwise_singleton _ _
  | y :: r, h => by
    obtain ⟨h1, h2⟩ := List.pairwise_cons.mp h
    unfold insS
    split
    · rename_i hx
      exact List.pairwise_cons.mpr ⟨fun b hb => by
        rcases List.mem_cons.mp hb with rfl | hb
        · exact hx
        · exact leS_trans hx (h1 b hb), h⟩
    · rename_i hx
      have hyx : leS y x = true := (leS_total x y).resolve_left hx
      refine List.pairwise_cons.mpr ⟨fun b hb => ?_, insS_sorted x r h2⟩
      have hb' := (insS_perm x r).mem_iff.mp hb
      rcases List.mem_cons.mp hb' with rfl | hb'
      · exact hyx
      · exact h1 b hb'
theorem sortS_sorted : ∀ l : List Str, (sortS l).Pairwise (fun a b => leS a b = true)
  | [] => List.Pairwise.nil
  | x :: r => insS_sorted x _ (sortS_sorted r)
theorem pairwise_of_sortedS : ∀ l : List Str, sortedS l = true → l.Pairwise (fun a b => leS a b = true) := by
  have key : ∀ (l : List Str) (p : Str), risingS p l = true → (p :: l).Pairwise (fun a b => leS a b = true) := by
    intro l
    induction l with
    | nil => intro p _; exact List.pairwise_singleton _ _
    | cons x r ih =>
      intro p h
      have h' : (!ltCps x.cps.toList p.cps.toList && risingS x r) = true := h
      rw [Bool.and_eq_true, ltCps_eq] at h'
      have hx := ih x h'.2
      have hpx : leS p x = true := h'.1
      exact List.pairwise_cons.mpr ⟨fun b hb => by
        rcases List.mem_cons.mp hb with rfl | hb
        · exact hpx
        · exact leS_trans hpx ((List.pairwise_cons.mp hx).1 b hb), hx⟩
  intro l h
  cases l with
  | nil => exact List.Pairwise.nil
  | cons x r => exact key r x h
theorem sortS_uniq {xs ys : List Str} (p : ys.Perm xs) (s : sortedS ys = true) : ys = sortS xs :=
  List.Perm.eq_of_pairwise (fun a b _ _ => leS_anti) (pairwise_of_sortedS ys s) (sortS_sorted xs) (p.trans (sortS_perm xs).symm)
/-- a rising list of texts -/
def Rising (l : List Str) : Prop := l.Pairwise (fun a b => ltS a b = true)
theorem sortS_rising {l : List Str} (h : l.Nodup) : Rising (sortS l) := by
  have hn : (sortS l).Nodup := (sortS_perm l).nodup_iff.mpr h
  have hs := sortS_sorted l
  unfold Rising
  revert hn hs
  generalize sortS l = m
  intro hn hs
  induction m with
  | nil => exact List.Pairwise.nil
  | cons a r ih =>
    obtain ⟨n1, n2⟩ := List.nodup_cons.mp hn
    obtain ⟨s1, s2⟩ := List.pairwise_cons.mp hs
    refine List.pairwise_cons.mpr ⟨fun b hb => ?_, ih n2 s2⟩
    cases e : ltS a b with
    | true => rfl
    | false =>
      have h1 := s1 b hb
      unfold leS at h1
      simp only [Bool.not_eq_true'] at h1
      exact absurd (ltS_tri e h1) (fun z => n1 (z ▸ hb))

/-! ### what data is plain -/
def PlN (n : Nat) (d : PyData) : Prop := d.plain = true ∧ d.depth ≤ n
theorem PlN.pl {n : Nat} {d : PyData} (h : PlN n d) (hn : n ≤ 50 := by decide) : Pl d := ⟨h.1, Nat.le_trans h.2 hn⟩
theorem PlN.mono {n m : Nat} {d : PyData} (h : PlN n d) (hn : n ≤ m) : PlN m d := ⟨h.1, Nat.le_trans h.2 hn⟩
theorem pln_int {n : Nat} {i : Int} : PlN n (.int i) := ⟨by simp [PyData.plain], by simp [PyData.depth]⟩
theorem pln_str {n : Nat} {i : Str} : PlN n (.str i) := ⟨by simp [PyData.plain], by simp [PyData.depth]⟩
theorem pln_bool {n : Nat} {i : Bool} : PlN n (.bool i) := ⟨by simp [PyData.plain], by simp [PyData.depth]⟩
theorem pln_none {n : Nat} : PlN n .none := ⟨by simp [PyData.plain], by simp [PyData.depth]⟩
theorem pln_all {n : Nat} : ∀ {ds : List PyData}, (∀ d ∈ ds, PlN n d) → PyData.plainAll ds = true ∧ PyData.depthAll ds ≤ n
  | [], _ => ⟨by simp [PyData.plainAll], by simp [PyData.depthAll]⟩
  | d :: ds, h => by
    obtain ⟨h1, h2⟩ := pln_all (ds := ds) fun x hx => h x (List.mem_cons_of_mem _ hx)
    obtain ⟨h3, h4⟩ := h d List.mem_cons_self
    exact ⟨by simp [PyData.plainAll, h1, h3], by simp only [PyData.depthAll]; omega⟩
theorem pln_list {n : Nat} {ds : List PyData} (h : ∀ d ∈ ds, PlN n d) : PlN (n + 1) (.list ds) := by
  obtain ⟨h1, h2⟩ := pln_all h
  exact ⟨by simpa [PyData.plain] using h1, by simp only [PyData.depth]; omega⟩
theorem pln_tuple {n : Nat} {ds : List PyData} (h : ∀ d ∈ ds, PlN n d) : PlN (n + 1) (.tuple ds) := by
  obtain ⟨h1, h2⟩ := pln_all h
  exact ⟨by simpa [PyData.plain] using h1, by simp only [PyData.depth]; omega⟩
theorem pl_int {i : Int} : Pl (.int i) := (pln_int (n := 0)).pl
theorem pl_str {i : Str} : Pl (.str i) := (pln_str (n := 0)).pl
theorem pl_bool {i : Bool} : Pl (.bool i) := (pln_bool (n := 0)).pl
theorem pl_none : Pl .none := (pln_none (n := 0)).pl
/-! ### names and hearings -/
abbrev Names := List Str
def dN (xs : Names) : PyData := .list (xs.map .str)
abbrev Hear := List (Str × Names)
def dP (p : Str × Names) : PyData := .tuple [.str p.1, dN p.2]
def dH (h : Hear) : PyData := .list (h.map dP)
theorem pln_strs (xs : Names) : ∀ d ∈ xs.map PyData.str, PlN 0 d := fun d h => by
  obtain ⟨x, _, rfl⟩ := List.mem_map.mp h
  exact pln_str
theorem pln_dN (xs : Names) : PlN 1 (dN xs) := pln_list (pln_strs xs)
theorem pln_dP (p : Str × Names) : PlN 2 (dP p) := pln_tuple fun d h => by
  rcases List.mem_cons.mp h with rfl | h
  · exact pln_str
  · have e : d = dN p.2 := by simpa using h
    rw [e]; exact pln_dN _
theorem pln_dH (h : Hear) : PlN 3 (dH h) := pln_list fun d hd => by
  obtain ⟨x, _, rfl⟩ := List.mem_map.mp hd
  exact pln_dP x
theorem pl_dN {xs : Names} : Pl (dN xs) := (pln_dN xs).pl
theorem pl_dH {h : Hear} : Pl (dH h) := (pln_dH h).pl
theorem plainAll_strs {xs : Names} : PyData.plainAll (xs.map PyData.str) = true := (pln_all (pln_strs xs)).1
theorem eqv_int (i j : Int) : PyData.eqv (.int i) (.int j) = decide (i = j) := by simp only [PyData.eqv]; rw [Bool.beq_eq_decide_eq]
theorem eqv_str (i j : Str) : PyData.eqv (.str i) (.str j) = decide (i = j) := by simp only [PyData.eqv]; rw [Bool.beq_eq_decide_eq]
theorem eqv_bool (i j : Bool) : PyData.eqv (.bool i) (.bool j) = decide (i = j) := by simp only [PyData.eqv]; rw [Bool.beq_eq_decide_eq]
/-- a code into data whose equality is told by eqv -/
def Code {α : Type} (f : α → PyData) : Prop := ∀ a b, PyData.eqv (f a) (f b) = true ↔ a = b
theorem code_str : Code PyData.str := fun a b => by rw [eqv_str]; exact decide_eq_true_iff
theorem code_int : Code PyData.int := fun a b => by rw [eqv_int]; exact decide_eq_true_iff
theorem code_all {α : Type} {f : α → PyData} (c : Code f) : ∀ xs ys : List α, PyData.eqvAll (xs.map f) (ys.map f) = true ↔ xs = ys
  | [], [] => by simp [PyData.eqvAll]
  | [], _ :: _ => by simp [PyData.eqvAll]
  | _ :: _, [] => by simp [PyData.eqvAll]
  | x :: xs, y :: ys => by
    simp only [List.map_cons, PyData.eqvAll, Bool.and_eq_true, c x y, code_all c xs ys, List.cons.injEq]
theorem code_list {α : Type} {f : α → PyData} (c : Code f) : Code fun xs : List α => PyData.list (xs.map f) := fun xs ys => by
  simp only [PyData.eqv]
  exact code_all c xs ys
theorem code_dN : Code dN := code_list code_str
theorem code_dP : Code dP := fun p q => by
  obtain ⟨a, b⟩ := p
  obtain ⟨c, d⟩ := q
  simp only [dP, PyData.eqv, PyData.eqvAll, Bool.and_eq_true, and_true]
  rw [show PyData.eqv (dN b) (dN d) = true ↔ b = d from code_dN b d]
  simp
theorem code_dH : Code dH := code_list code_dP
theorem Code.eqv {α : Type} [DecidableEq α] {f : α → PyData} (c : Code f) (a b : α) : PyData.eqv (f a) (f b) = decide (a = b) := by
  by_cases h : a = b
  · rw [decide_eq_true h]; exact (c a b).mpr h
  · rw [decide_eq_false h]
    cases e : PyData.eqv (f a) (f b) with
    | false => rfl
    | true => exact absurd ((c a b).mp e) h
theorem eqv_dN (a b : Names) : PyData.eqv (dN a) (dN b) = decide (a = b) := code_dN.eqv a b
theorem any_str (xs : Names) (x : Str) : ((xs.map PyData.str).any fun z => PyData.eqv z (.str x)) = decide (x ∈ xs) := by
  rw [List.any_map]
  by_cases h : x ∈ xs
  · rw [decide_eq_true h]
    exact List.any_eq_true.mpr ⟨x, h, by simp [eqv_str]⟩
  · rw [decide_eq_false h]
    refine List.any_eq_false.mpr fun y hy => ?_
    simp only [Function.comp_apply, eqv_str, decide_eq_true_eq]
    exact fun e => h (e ▸ hy)

/-! ### more built-ins -/
section
variable {X : Cx} {i j : Int}
theorem od_mulW (h : CMulW i j) : BinD X .Mult (.int i) (.int j) (.da (.int (i * j))) := .mk ⟨_, op_mulW, fun F H x y Q e hx hy k => ⟨i, j, hx.eint, hy.eint, h, k.here e (.int _)⟩⟩
theorem cd_sortedS {xs : Names} (h : xs.length < 64) : CallD X (.builtin "sorted") [.list (xs.map .str)] (.ow ((sortS xs).map .str)) := .mk ⟨_, cr_sortedS, fun F H vs Q e hv k => by
  cases hv with
  | cons h1 r =>
    cases r
    obtain ⟨a, ys, rfl, e1, e2⟩ := h1.elst
    rw [e2.strs] at e1
    refine ⟨a, xs, rfl, .inl (.inl (e _ _ e1)), h, fun zs p hp hs hn => ?_⟩
    rw [sortS_uniq hp hs]
    exact k.ow (Grow.refl e) hn (DvAll.ofStrs _)⟩
variable {ρ : Env'} {a : Expr} {pos : Pos}
theorem ex_neg (ha : EX X a ρ (.da (.int i))) : EX X (.UnaryOp .USub a pos) ρ (.da (.int (-i))) := .mk fun B F0 F H σ Q S k =>
  PEw (pe_un un_neg pe_w) (ha.use S fun v G H' g hv _ => ⟨i, hv.eint, k.da g (.int _)⟩)
end
theorem atI_of {α : Type} {xs : List α} {i : Int} {v : α} (h0 : 0 ≤ i) (h : xs[i.toNat]? = some v) : atI xs i = some v := by
  have e : i = ((i.toNat : Nat) : Int) := by omega
  rw [e]
  exact atI_nat h

/-! ### comparisons told by what stands in the data -/
section
variable {X : Cx} {i j : Int} {x y : Str} {a b : Names} {g h : Hear} {t u : Bool}
theorem CmpD.is {op : CmpOp} {d1 d2 d d' : PyData} (o : CmpD X op d1 d2 (.da d)) (e : d = d') : CmpD X op d1 d2 (.da d') := e ▸ o
theorem oc_eqI (hu : X.A.units + 64 < cLine) : CmpD X .Eq (.int i) (.int j) (.da (.bool (decide (i = j)))) := (oc_eq hu pl_int pl_int).is (by rw [eqv_int])
theorem oc_eqS (hu : X.A.units + 64 < cLine) : CmpD X .Eq (.str x) (.str y) (.da (.bool (decide (x = y)))) := (oc_eq hu pl_str pl_str).is (by rw [eqv_str])
theorem oc_eqB (hu : X.A.units + 64 < cLine) : CmpD X .Eq (.bool t) (.bool u) (.da (.bool (decide (t = u)))) := (oc_eq hu pl_bool pl_bool).is (by rw [eqv_bool])
theorem oc_eqN (hu : X.A.units + 64 < cLine) : CmpD X .Eq (dN a) (dN b) (.da (.bool (decide (a = b)))) := (oc_eq hu pl_dN pl_dN).is (by rw [eqv_dN])
theorem oc_eqH (hu : X.A.units + 64 < cLine) : CmpD X .Eq (dH g) (dH h) (.da (.bool (decide (g = h)))) := (oc_eq hu pl_dH pl_dH).is (by rw [code_dH.eqv])
theorem oc_neI (hu : X.A.units + 64 < cLine) : CmpD X .NotEq (.int i) (.int j) (.da (.bool (!decide (i = j)))) := (oc_ne hu pl_int pl_int).is (by rw [eqv_int])
theorem oc_neS (hu : X.A.units + 64 < cLine) : CmpD X .NotEq (.str x) (.str y) (.da (.bool (!decide (x = y)))) := (oc_ne hu pl_str pl_str).is (by rw [eqv_str])
theorem oc_neB (hu : X.A.units + 64 < cLine) : CmpD X .NotEq (.bool t) (.bool u) (.da (.bool (!decide (t = u)))) := (oc_ne hu pl_bool pl_bool).is (by rw [eqv_bool])
theorem oc_neN (hu : X.A.units + 64 < cLine) : CmpD X .NotEq (dN a) (dN b) (.da (.bool (!decide (a = b)))) := (oc_ne hu pl_dN pl_dN).is (by rw [eqv_dN])
theorem oc_neH (hu : X.A.units + 64 < cLine) : CmpD X .NotEq (dH g) (dH h) (.da (.bool (!decide (g = h)))) := (oc_ne hu pl_dH pl_dH).is (by rw [code_dH.eqv])
theorem oc_neNil (hu : X.A.units + 64 < cLine) : CmpD X .NotEq (dN a) (.list []) (.da (.bool (!decide (a = [])))) := oc_neN (b := []) hu
theorem oc_eqNil (hu : X.A.units + 64 < cLine) : CmpD X .Eq (dN a) (.list []) (.da (.bool (decide (a = [])))) := oc_eqN (b := []) hu
theorem oc_inN (hu : X.A.units + 64 < cLine) : CmpD X .In (.str x) (dN a) (.da (.bool (decide (x ∈ a)))) := (oc_in hu pl_str plainAll_strs).is (by rw [any_str])
theorem oc_notinN (hu : X.A.units + 64 < cLine) : CmpD X .NotIn (.str x) (dN a) (.da (.bool (!decide (x ∈ a)))) := (oc_notin hu pl_str plainAll_strs).is (by rw [any_str])
end

/-! ### the text by places, without a recursion -/
def tlS : List Stmt → List Stmt
  | _ :: r => r
  | [] => []
def hdS : List Stmt → Stmt
  | s :: _ => s
  | [] => .Pass ⟨0, 0, 0, 0⟩
def clsB : Stmt → List Stmt
  | .ClassDef _ _ _ body _ _ _ _ _ _ _ => body
  | _ => []

/-! ### enumerate over names -/
def dI (q : Str × Nat) : PyData := .tuple [.int (q.2 : Nat), .str q.1]
theorem enum_names : ∀ (xs : Names) (n : Nat), enumD n (xs.map .str) = (xs.zipIdx n).map dI
  | [], _ => rfl
  | x :: xs, n => by
    rw [List.map_cons, List.zipIdx_cons, List.map_cons, ← enum_names xs (n + 1)]
    rfl
theorem zip_mem {xs : Names} {q : Str × Nat} (h : q ∈ xs.zipIdx) : q.2 < xs.length ∧ q.1 ∈ xs := by
  have := List.mem_zipIdx h
  refine ⟨by omega, ?_⟩
  rw [this.2.2]
  exact List.getElem_mem _
theorem it_enumN {X : Cx} {ρ : Env'} {e : Expr} {pos p tpos : Pos} {elts : List Expr} {kk : Nat} {xs : Names} (hm : X.mg "enumerate" = none) (h : EA X [e] ρ [dN xs]) (hg : Gl X "enumerate" := by exact gl_of (by kernel_rfl)) (hs : starEach [e] X.env = [(false, eval e X.env)] := by exact star_one rfl) :
    IT X (.Tuple elts kk tpos) (.Call (.Name "enumerate" p) [e] [] pos) ρ (xs.zipIdx.map dI) := by
  rw [← enum_names xs 0]
  exact it_enum hm h hg hs

/-! ### isinstance with a built-in type -/
def tyD : PyData → String
  | .none => "NoneType"
  | .bool _ => "bool"
  | .int _ => "int"
  | .str _ => "str"
  | .list _ => "list"
  | .tuple _ => "tuple"
  | .dict _ => "dict"
theorem ty_dv {K : PySem.W.Frag} {F H : Hp} {v : V} {d : PyData} (h : Dv F v d) (e : Ex F H) : TyX K H v (.type (tyD d)) := by
  cases h with
  | non => exact .base .non
  | bl b => exact .base (.bl b)
  | int i => exact .base (.int i)
  | str x => exact .base (.str x)
  | lst a r => exact .base (.lst (e _ _ a))
  | tup a r => exact .base (.tup (e _ _ a))
  | dct a => exact .base (.dK (e _ _ a))
section
variable {X : Cx} {ρ : Env'} {a : Expr} {pos p pT : Pos} {d : PyData} {T : Str} {n : String} {b : Bool}
theorem ex_isi (ha : EX X a ρ (.da d)) (hk : kitB (tyD d) n = some b) (hm : X.mg "isinstance" = none) (hT : X.mg T = none) (hv : bootBuiltins T = some (.type n) := by kernel_rfl) (hg : Gl X "isinstance" := by exact gl_of (by kernel_rfl)) (hgT : Gl X T := by exact gl_of (by kernel_rfl)) (hok : globOk T = true := by kernel_rfl)
    (he : starEach [a, .Name T pT] X.env = (false, eval a X.env) :: starEach [.Name T pT] X.env := by exact star_cons rfl) : EX X (.Call (.Name "isinstance" p) [a, .Name T pT] [] pos) ρ (.da (.bool b)) := .mk fun B F0 F H σ Q S k =>
  PEw (pe_callB call_isi hg hm (by kernel_rfl) (pa_cons pe_w (pa_cons (pe_bltn (v := .ty n) hgT hT hv rfl (globOk_n hok) (globOk_d hok)) pa_nil (star_cons rfl)) he) (by decide +kernel) (by decide +kernel) he (star_none rfl)) (ha.use S fun v G H' g hv' S' =>
    ⟨v, .ty n, .type (tyD d), .type n, b, rfl, .ty n, ty_dv hv' S'.ex, kit_ty hk, k.da g (.bl b)⟩)
end
theorem kitB_bool (d : PyData) : kitB (tyD d) "bool" = some (match d with | .bool _ => true | _ => false) := by cases d <;> first | rfl | kernel_rfl
theorem kitB_int (d : PyData) : kitB (tyD d) "int" = some (match d with | .bool _ => true | .int _ => true | _ => false) := by cases d <;> first | rfl | kernel_rfl
theorem kitB_str (d : PyData) : kitB (tyD d) "str" = some (match d with | .str _ => true | _ => false) := by cases d <;> first | rfl | kernel_rfl
theorem kitB_list (d : PyData) : kitB (tyD d) "list" = some (match d with | .list _ => true | _ => false) := by cases d <;> first | rfl | kernel_rfl
theorem kitB_tuple (d : PyData) : kitB (tyD d) "tuple" = some (match d with | .tuple _ => true | _ => false) := by cases d <;> first | rfl | kernel_rfl
/-! ### comprehensions that keep all -/
section
variable {X : Cx} {ρ : Env'} {elt tg iter : Expr} {scope : Scope} {pos : Pos} {x : Str}
theorem filt_all {α : Type} (xs : List α) : xs.filter (fun _ => true) = xs := List.filter_eq_self.mpr fun _ _ => rfl
theorem ex_lcA {α : Type} (own : List (Str × Nat)) (xs : List α) (enc : α → PyData) (f : α → PyData) (hc : X.calm = true) (hN : X.N.Nodup) (ok : BlkOk X.N X.env.scope scope own) (hi : IT X tg iter ρ (xs.map enc))
    (body : ∀ x ∈ xs, BlkAt X scope tg [] elt (own.map (·.2)) ρ (enc x) true (f x)) (hz : xs.length < 100000) (hs : ∀ x, foldedSetIterable iter X.env x = pure x := by intro _; rfl) : EX X (.ListComp elt [⟨tg, iter, [], 0⟩] scope pos) ρ (.ow (xs.map f)) := by
  have h := ex_lc (pos := pos) own xs enc (fun _ => true) f hc hN ok hi body hz hs
  rw [filt_all] at h
  exact h
theorem r_setLcA {α : Type} {lpos p' : Pos} (i : Nat) (own : List (Str × Nat)) (xs : List α) (enc : α → PyData) (f : α → PyData) (hc : X.calm = true) (hN : X.N.Nodup) (ok : BlkOk X.N X.env.scope scope own) (hit : IT X tg iter ρ (xs.map enc))
    (bd : ∀ y ∈ xs, BlkAt X scope tg [] elt (own.map (·.2)) ρ (enc y) true (f y)) (hz : xs.length < 100000) (hi : X.N[i]? = some x := by rfl) (hyl : X.env.scope.names.lookup x = some .local := by kernel_rfl)
    (hsw : swapsWith (.ListComp elt [⟨tg, iter, [], 0⟩] scope lpos) (some (.Name x p')) pos.line X.env = pure true := by exact sw_true rfl rfl rfl (by kernel_rfl)) (hs : ∀ x, foldedSetIterable iter X.env x = pure x := by intro _; rfl) :
    R1 X (.Assign [.Name x p'] (.ListComp elt [⟨tg, iter, [], 0⟩] scope lpos) pos) ρ (.nx (ρ.set i (.ow (xs.map f)))) := by
  have h := r_setLc (p' := p') (lpos := lpos) (pos := pos) i own xs enc (fun _ => true) f hc hN ok hit bd hz hi hyl hsw hs
  rw [filt_all] at h
  exact h
end
end Mx

set_option Elab.async false
set_option linter.all false
set_option maxRecDepth 100000
/-! Mx8: the head: what the top has written. -/
namespace Mx
open PySem PySem.Spec PyProof.Rows L2
theorem law_sp {K : PySem.W.Frag} {R : List Slot → Slot → Prop} {a : Addr} {ns : List Int} {H : Hp} {E : XK} (hS : SqL K H a (ns.map V.int)) (h : R [.scr ns] (.da (.bool true))) : spP K R [.ref a] H (fun v _ => v = .bl true) E :=
  ⟨H, [.scr ns], .da (.bool true), h, Ex.refl H, .cons ⟨rfl, a, rfl, hS⟩ .nil, fun v G H' as g ok n => by
    obtain ⟨_, v', e, hd⟩ := ok
    cases e
    cases hd
    rfl⟩
theorem walkS {l : PySem.W.OpenLaw} {q : Program} {loose : List Str} {XP : (Str → Option Value) → Heap → Prop} {YP : World → Heap → Prop} {d : DefRec} {K : Params → PySem.W.Frag} {x : Str} {R : List Slot → Slot → Prop} (k : Nat) (hn : l.most = some 63) (hdf : d.params.defaults = [])
    (hk : Room k callerA) (hY : ∀ (w : World) (h : Heap), YP w h → (K w.params).In h)
    (F : ∀ (w : World) (mg : Str → Option Value) (fa : Addr) (h : Heap), (K w.params).In h → h.Ns mainGlobals mg → mg d.name = some (.ref fa) →
      ∃ fd : FuncData, (∀ (s : Shared) (u : Value), BindsTo s fd ⟨[u], []⟩ [(x, u)]) ∧ ∀ base : Heap, (K w.params).In base → base.Ns mainGlobals mg → FnOk l.prog w (K w.params) mg base CX0 k fa fd [x] (spP (K w.params) R))
    (hR : ∀ ns : List Int, ns.length ≤ 63 → R [.scr ns] (.da (.bool true))) :
    PySem.W.WalkO q loose XP YP l.row.toRowW d [] (fun f vs => PySem.call f vs) :=
  L2.walk_of (n := 63) (k := k) (x := x) (CX := fun _ => CX0) (sp := fun w => spP (K w.params) R) hn (by decide) hdf hk hY F (fun _ _ a ns hl _ hS => law_sp hS (hR ns hl)) fun _ _ _ _ _ z => z
end Mx

set_option Elab.async false
set_option linter.all false
set_option maxRecDepth 100000
set_option maxHeartbeats 1000000
namespace My
open PySem PySem.Spec PyProof.Rows L2 Mx

/-! ### short words for the walk (all local) -/
local macro_rules | `(tactic| walk_at "pl") => `(tactic| first | exact pl_int | exact pl_str | exact pl_bool | exact pl_none | exact pl_dN | exact pl_dH | assumption)
local macro_rules | `(tactic| walk_at "od") => `(tactic| first
  | exact od_add | exact od_sub | exact od_mod (by omega) | exact od_fdiv (by omega) (by omega) | exact od_pow (by decide) | exact od_mulL (by omega) | exact od_mulR (by omega)
  | exact oc_lt | exact oc_le | exact oc_gt | exact oc_ge | exact oc_ltS | exact oc_isN | exact oc_notN
  | exact oc_eqI (by assumption) | exact oc_eqS (by assumption) | exact oc_eqB (by assumption) | exact oc_eqN (by assumption) | exact oc_eqH (by assumption) | exact oc_eqNil (by assumption)
  | exact oc_neI (by assumption) | exact oc_neS (by assumption) | exact oc_neB (by assumption) | exact oc_neN (by assumption) | exact oc_neH (by assumption) | exact oc_neNil (by assumption)
  | exact oc_inN (by assumption) | exact oc_notinN (by assumption)
  | exact oc_eq (by assumption) (by walk_at "pl") (by walk_at "pl") | exact oc_ne (by assumption) (by walk_at "pl") (by walk_at "pl"))
local macro_rules | `(tactic| walk_at "nm") => `(tactic| first
  | exact ex_name 0 rfl | exact ex_name 1 rfl | exact ex_name 2 rfl | exact ex_name 3 rfl | exact ex_name 4 rfl | exact ex_name 5 rfl | exact ex_name 6 rfl | exact ex_name 7 rfl
  | exact ex_name 8 rfl | exact ex_name 9 rfl | exact ex_name 10 rfl | exact ex_name 11 rfl | exact ex_name 12 rfl | exact ex_name 13 rfl | exact ex_name 14 rfl | exact ex_name 15 rfl | exact ex_name 16 rfl | exact ex_name 17 rfl)
local macro_rules | `(tactic| walk_at "call") => `(tactic| fail)
local macro_rules | `(tactic| walk_at "exs") => `(tactic| first
  | walk_at "nm" | exact ex_int | exact ex_str | exact ex_bl | exact ex_non
  | (refine' ex_bin ?a ?b ?o; (case a => walk_at "ex"); (case b => walk_at "ex"); (case o => walk_at "od"))
  | (refine' ex_cmp ?a ?b ?o; (case a => walk_at "ex"); (case b => walk_at "ex"); (case o => walk_at "od"))
  | (refine' ex_not ?a; (case a => walk_at "ex"))
  | (refine' ex_neg ?a; (case a => walk_at "ex"))
  | (refine' ex_one ?a; (case a => walk_at "ex"))
  | (refine' ex_and ?a ?b; (case a => walk_at "ex"); (case b => intro _; walk_at "ex"))
  | (refine' ex_or ?a ?b; (case a => walk_at "ex"); (case b => intro _; walk_at "ex"))
  | (refine' ex_tup ?a ?z; (case a => walk_at "ea"); (case z => simp))
  | (refine' ex_freeze (ex_lst ?a ?z); (case a => walk_at "ea"); (case z => simp))
  | (refine' ex_callB ?a cd_lenL (by assumption); (case a => walk_at "ea"))
  | (refine' ex_callB ?a cd_lenT (by assumption); (case a => walk_at "ea"))
  | walk_at "call")
local macro_rules | `(tactic| walk_at "ex") => `(tactic| first | walk_at "exs" | (refine' ex_star ?h ?f; (case h => walk_at "exs"); (case f => rfl)))
local macro_rules | `(tactic| walk_at "ea") => `(tactic| first | exact ea_nil | (refine' ea_cons ?a ?r; (case a => walk_at "ex"); (case r => walk_at "ea")))
local macro_rules | `(tactic| walk_at "ews") => `(tactic| first
  | (refine' ew_and1 ?a; (case a => walk_at "et"))
  | (refine' ew_or1 ?a; (case a => walk_at "et"))
  | (refine' ew_and ?a ?b; (case a => walk_at "et"); (case b => intro _; walk_at "ews"))
  | (refine' ew_or ?a ?b; (case a => walk_at "et"); (case b => intro _; walk_at "ews")))
local macro_rules | `(tactic| walk_at "ets") => `(tactic| first
  | (refine' et_W ?a; (case a => walk_at "ews"))
  | (refine' et_not ?a; (case a => walk_at "et"))
  | (refine' et_cmp ?a ?b ?o; (case a => walk_at "ex"); (case b => walk_at "ex"); (case o => walk_at "od"))
  | (refine' et_val ?a; (case a => walk_at "ex")))
local macro_rules | `(tactic| walk_at "et") => `(tactic| first | walk_at "ets" | (refine' et_star ?h; (case h => walk_at "ets")))
local macro_rules | `(tactic| walk_at "sh") => `(tactic| first | exact shd_da | exact shd_scr | exact shd_ob)
local macro_rules | `(tactic| walk_at "nmS") => `(tactic| first
  | exact ex_nameS 0 rfl (by walk_at "sh") | exact ex_nameS 1 rfl (by walk_at "sh") | exact ex_nameS 2 rfl (by walk_at "sh") | exact ex_nameS 3 rfl (by walk_at "sh") | exact ex_nameS 4 rfl (by walk_at "sh") | exact ex_nameS 5 rfl (by walk_at "sh")
  | exact ex_nameS 6 rfl (by walk_at "sh") | exact ex_nameS 7 rfl (by walk_at "sh") | exact ex_nameS 8 rfl (by walk_at "sh") | exact ex_nameS 9 rfl (by walk_at "sh") | exact ex_nameS 10 rfl (by walk_at "sh") | exact ex_nameS 11 rfl (by walk_at "sh"))
local macro_rules | `(tactic| walk_at "es") => `(tactic| first
  | exact es_nil
  | (refine' es_cons ?a ?r; (case a => (first | walk_at "ex" | walk_at "nmS")); (case r => walk_at "es"))
  | (refine' es_cons ?a ?r shd_scr; (case a => walk_at "nmS"); (case r => walk_at "es"))
  | (refine' es_cons ?a ?r shd_ob; (case a => (first | walk_at "ex" | walk_at "nmS")); (case r => walk_at "es")))
local macro_rules | `(tactic| walk_at "rm") => `(tactic| exact Room.mono (by assumption) (by decide))
def T1 := tlS PySem.Challenge.pw_mixminus_k06_compared_by_hand.main.body
def T2 := tlS T1
def T3 := tlS T2
def T4 := tlS T3
def T5 := tlS T4
def T6 := tlS T5
def T7 := tlS T6
def T8 := tlS T7
def T9 := tlS T8
def T10 := tlS T9
def T11 := tlS T10
def T12 := tlS T11
def T13 := tlS T12
def T14 := tlS T13
abbrev s_heard_by : Stmt := hdS T1
theorem c_heard_by : FnScope ["hearing", "name", "one", "others"] ["hearing", "name"] (defScope s_heard_by) := ⟨rfl, rfl, rfl, by decide +kernel, rfl, by decide +kernel, by decide +kernel⟩
-- slots heard_by: 0 hearing 1 name 2 one 3 others; comprehensions: ("one", 2),("others", 3)
abbrev s_Same_shows : Stmt := hdS ((clsB (hdS T4)))
theorem c_Same_shows : FnScope ["self", "hearing", "one", "other"] ["self", "hearing", "one", "other"] (defScope s_Same_shows) := ⟨rfl, rfl, rfl, by decide +kernel, rfl, by decide +kernel, by decide +kernel⟩
-- slots Same_shows: 0 self 1 hearing 2 one 3 other
abbrev s_Apart_init : Stmt := hdS ((clsB (hdS T5)))
theorem c_Apart_init : FnScope ["self", "name"] ["self", "name"] (defScope s_Apart_init) := ⟨rfl, rfl, rfl, by decide +kernel, rfl, by decide +kernel, by decide +kernel⟩
-- slots Apart_init: 0 self 1 name
abbrev s_Apart_shows : Stmt := hdS (tlS ((clsB (hdS T5))))
theorem c_Apart_shows : FnScope ["self", "hearing", "one", "other"] ["self", "hearing", "one", "other"] (defScope s_Apart_shows) := ⟨rfl, rfl, rfl, by decide +kernel, rfl, by decide +kernel, by decide +kernel⟩
-- slots Apart_shows: 0 self 1 hearing 2 one 3 other
abbrev s__law_cell_at : Stmt := hdS T7
theorem c__law_cell_at : FnScope ["_law_script", "_law_k"] ["_law_script", "_law_k"] (defScope s__law_cell_at) := ⟨rfl, rfl, rfl, by decide +kernel, rfl, by decide +kernel, by decide +kernel⟩
-- slots _law_cell_at: 0 _law_script 1 _law_k
abbrev s__law_draw : Stmt := hdS T8
theorem c__law_draw : FnScope ["_law_cell", "_law_k", "_law_most", "_law_primes"] ["_law_cell", "_law_k", "_law_most"] (defScope s__law_draw) := ⟨rfl, rfl, rfl, by decide +kernel, rfl, by decide +kernel, by decide +kernel⟩
-- slots _law_draw: 0 _law_cell 1 _law_k 2 _law_most 3 _law_primes
abbrev s__law_number : Stmt := hdS T9
theorem c__law_number : FnScope ["_law_cell", "_law_k", "_law_limit", "_law_d"] ["_law_cell", "_law_k", "_law_limit"] (defScope s__law_number) := ⟨rfl, rfl, rfl, by decide +kernel, rfl, by decide +kernel, by decide +kernel⟩
-- slots _law_number: 0 _law_cell 1 _law_k 2 _law_limit 3 _law_d
abbrev s__law_names : Stmt := hdS T10
theorem c__law_names : FnScope ["_law_script", "_law_by", "_law_many", "_law_turn", "_law_letters", "_law_found", "_law_at", "_law_behind"] ["_law_script", "_law_by", "_law_many"] (defScope s__law_names) := ⟨rfl, rfl, rfl, by decide +kernel, rfl, by decide +kernel, by decide +kernel⟩
-- slots _law_names: 0 _law_script 1 _law_by 2 _law_many 3 _law_turn 4 _law_letters 5 _law_found 6 _law_at 7 _law_behind
abbrev s__law_drawn : Stmt := hdS T11
theorem c__law_drawn : FnScope ["_law_script", "_law_by", "_law_names_here", "_law_kind", "_law_found", "_law_at", "_law_name", "_law_others", "_law_place", "_law_other", "_law_cell", "_law_hears"] ["_law_script", "_law_by"] (defScope s__law_drawn) := ⟨rfl, rfl, rfl, by decide +kernel, rfl, by decide +kernel, by decide +kernel⟩
-- slots _law_drawn: 0 _law_script 1 _law_by 2 _law_names_here 3 _law_kind 4 _law_found 5 _law_at 6 _law_name 7 _law_others 8 _law_place 9 _law_other 10 _law_cell 11 _law_hears
abbrev s__law_heard : Stmt := hdS T12
theorem c__law_heard : FnScope ["_law_hearing", "_law_name", "_law_one", "_law_others"] ["_law_hearing", "_law_name"] (defScope s__law_heard) := ⟨rfl, rfl, rfl, by decide +kernel, rfl, by decide +kernel, by decide +kernel⟩
-- slots _law_heard: 0 _law_hearing 1 _law_name 2 _law_one 3 _law_others; comprehensions: ("_law_one", 2),("_law_others", 3)
abbrev s__law_says : Stmt := hdS T13
theorem c__law_says : FnScope ["_law_said", "_law_due"] ["_law_said", "_law_due"] (defScope s__law_says) := ⟨rfl, rfl, rfl, by decide +kernel, rfl, by decide +kernel, by decide +kernel⟩
-- slots _law_says: 0 _law_said 1 _law_due
abbrev s_law : Stmt := hdS T14
theorem c_law : FnScope ["_law_script", "_law_by", "_law_hearing", "_law_names_here", "_law_one", "_law_other", "_law_mine", "_law_theirs", "_law_name", "_law_answer", "_law_due", "_law_others"] ["_law_script"] (defScope s_law) := ⟨rfl, rfl, rfl, by decide +kernel, rfl, by decide +kernel, by decide +kernel⟩
-- slots law: 0 _law_script 1 _law_by 2 _law_hearing 3 _law_names_here 4 _law_one 5 _law_other 6 _law_mine 7 _law_theirs 8 _law_name 9 _law_answer 10 _law_due 11 _law_others; comprehensions: ("_law_name", 8),("_law_others", 11)
section
variable {P : Program} {w : World} {K : PySem.W.Frag} {mg : Str → Option Value} {base : Heap}
def cellF (ns : List Int) (k : Int) : Int := if k < ns.length then ns.getD k.toNat 0 else 0
def R_cell : List Slot → Slot → Prop := fun ss s => ∃ ns k, ss = [.scr ns, .da (.int k)] ∧ 0 ≤ k ∧ s = .da (.int (cellF ns k))
theorem ok_cell_at {f : Addr} {fd : FuncData} (F : Fun K "_law_cell_at" "_law_cell_at" s__law_cell_at f fd) (zlen : mg "len" = none) : FnOk P w K mg base CX0 1 f fd ["_law_script", "_law_k"] (spP K R_cell) := by
  refine fun_rt F c__law_cell_at (fun ss s h => ?_) fun cdv A outer s H E hr hu ss sl h => ?_
  · obtain ⟨ns, k, rfl, _⟩ := h; rfl
  · obtain ⟨ns, k, rfl, hk, rfl⟩ := h
    refine' rt_if0 (et_cmp (ex_name 1 rfl) (ex_lenScr 0 rfl zlen) oc_lt) (fun hb => ?a) (fun hb => ?b)
    case a =>
      have hc := of_decide_eq_true hb
      refine' rt_ret (r_return (ex_ixScr 0 rfl (ex_name 1 rfl) (atI_of hk ?_)))
      unfold cellF
      rw [if_pos hc, List.getD_eq_getElem?_getD, List.getElem?_eq_getElem (by omega)]
      rfl
    case b =>
      refine' rt_is (rt_ret (r_return ex_int)) ?_
      unfold cellF
      rw [if_neg (of_decide_eq_false hb)]
def primesL : List Int := [1000003, 1000033, 1000037, 1000039, 1000081, 1000099, 1000117, 1000121, 1000133, 1000151, 1000159, 1000171, 1000183, 1000187, 1000193, 1000199]
def drawF (c k m : Int) : Int := (c * 48271 + k * 69621) % (primesL.getD (k % 16).toNat 1) % m
theorem primes_at (k : Int) : primesL[(k % 16).toNat]? = some (primesL.getD (k % 16).toNat 1) ∧ 0 < primesL.getD (k % 16).toNat 1 := by
  have h0 : 0 ≤ k % 16 := Int.emod_nonneg _ (by decide)
  have h1 : k % 16 < 16 := Int.emod_lt_of_pos _ (by decide)
  have h2 : (k % 16).toNat < 16 := by omega
  revert h2
  generalize (k % 16).toNat = n
  intro h2
  have key : ∀ n : Fin 16, primesL[n.1]? = some (primesL.getD n.1 1) ∧ 0 < primesL.getD n.1 1 := by decide
  exact key ⟨n, h2⟩
def R_draw : List Slot → Slot → Prop := fun ss s => ∃ c k m, ss = [.da (.int c), .da (.int k), .da (.int m)] ∧ 0 < m ∧ s = .da (.int (drawF c k m))
theorem ok_draw {f : Addr} {fd : FuncData} (F : Fun K "_law_draw" "_law_draw" s__law_draw f fd) : FnOk P w K mg base CX0 1 f fd ["_law_cell", "_law_k", "_law_most"] (spP K R_draw) := by
  refine fun_rt F c__law_draw (fun ss s h => ?_) fun cdv A outer s H E hr hu ss sl h => ?_
  · obtain ⟨c, k, m, rfl, _⟩ := h; rfl
  · obtain ⟨c, k, m, rfl, hm, rfl⟩ := h
    obtain ⟨p1, p2⟩ := primes_at k
    show Rt _ _ [.da (.int c), .da (.int k), .da (.int m), .un] _
    refine' rt_cons (r_set 3 c__law_draw.nd ?a1) (rt_ret (r_return (ex_bin ?a2 ?a3 (od_mod hm))))
    case a1 => walk_at "ex"
    case a3 => walk_at "ex"
    refine' ex_bin ?b1 (ex_ixT ?b2 ?b3 (atI_of ?b5 ?b4)) (od_mod p2)
    case b1 => walk_at "ex"
    case b2 => walk_at "ex"
    case b3 => walk_at "ex"
    case b5 => exact Int.emod_nonneg _ (by decide)
    show (primesL.map PyData.int)[(k % 16).toNat]? = _
    rw [List.getElem?_map, p1]
    rfl

/-! ### _law_number -/
def BIG : Int := 1000811284336359577647248616306026718125307353262274591
def divL : List Int := [1, 7, 49, 343, 2401]
def numF (c k l : Int) : Int :=
  if c ≥ 10 ^ 18 then (c - 10 ^ 18) % (divL.getD (k % 5).toNat 1 * l) / divL.getD (k % 5).toNat 1
  else drawF (((if c < -10 ^ 18 then c % BIG else c) + 977 * k) * ((if c < -10 ^ 18 then c % BIG else c) + 31 * k + 5)) (k % 9 + 1) 999983 % l
theorem div_at (k : Int) : divL[(k % 5).toNat]? = some (divL.getD (k % 5).toNat 1) ∧ 0 < divL.getD (k % 5).toNat 1 ∧ divL.getD (k % 5).toNat 1 ≤ 2401 := by
  have h0 : 0 ≤ k % 5 := Int.emod_nonneg _ (by decide)
  have h1 : k % 5 < 5 := Int.emod_lt_of_pos _ (by decide)
  have h2 : (k % 5).toNat < 5 := by omega
  revert h2
  generalize (k % 5).toNat = n
  intro h2
  have key : ∀ n : Fin 5, divL[n.1]? = some (divL.getD n.1 1) ∧ 0 < divL.getD n.1 1 ∧ divL.getD n.1 1 ≤ 2401 := by decide
  exact key ⟨n, h2⟩
theorem num_range {c k l : Int} (hl : 0 < l) : 0 ≤ numF c k l ∧ numF c k l < l := by
  unfold numF
  split
  · obtain ⟨_, d1, d2⟩ := div_at k
    generalize divL.getD (k % 5).toNat 1 = d at d1 d2
    have hm : 0 < d * l := Int.mul_pos d1 hl
    have h1 : 0 ≤ (c - 10 ^ 18) % (d * l) := Int.emod_nonneg _ (by omega)
    have h2 : (c - 10 ^ 18) % (d * l) < d * l := Int.emod_lt_of_pos _ hm
    exact ⟨Int.ediv_nonneg h1 (by omega), Int.ediv_lt_of_lt_mul d1 (by rw [Int.mul_comm l d]; exact h2)⟩
  · exact ⟨Int.emod_nonneg _ (by omega), Int.emod_lt_of_pos _ hl⟩
def R_number : List Slot → Slot → Prop := fun ss s => ∃ c k l, ss = [.da (.int c), .da (.int k), .da (.int l)] ∧ (0 ≤ k ∧ k ≤ 10000 ∧ 0 < l) ∧ s = .da (.int (numF c k l))
theorem mul_small {a b : Int} (ha : a.natAbs < 2 ^ 200) (hb : b.natAbs < 2 ^ 200) : CMulW a b := wide_mul ha hb (by decide) (by decide) (by decide)
local macro_rules | `(tactic| walk_at "call") => `(tactic| (refine' ex_call (x := "_law_draw") (R := R_draw) (by assumption) ?rm ?es ⟨_, _, _, rfl, ?cd, rfl⟩; (case rm => walk_at "rm"); (case es => walk_at "es"); (case cd => omega)))
theorem ok_number {f : Addr} {fd : FuncData} (F : Fun K "_law_number" "_law_number" s__law_number f fd) (CD : Cal P w K mg base "_law_draw" 1 (spP K R_draw)) : FnOk P w K mg base CX0 2 f fd ["_law_cell", "_law_k", "_law_limit"] (spP K R_number) := by
  refine fun_rt F c__law_number (fun ss s h => ?_) fun cdv A outer s H E hr hu ss sl h => ?_
  · obtain ⟨c, k, l, rfl, _⟩ := h; rfl
  · obtain ⟨c, k, l, rfl, ⟨h0, h1, h2⟩, rfl⟩ := h
    show Rt _ _ [.da (.int c), .da (.int k), .da (.int l), .un] _
    obtain ⟨p1, p2, p3⟩ := div_at k
    refine' rt_if0 (b := decide (c ≥ 10 ^ 18)) ?t1 (fun hb => ?a) (fun hb => ?b)
    case t1 => walk_at "et"
    case a =>
      have hc := of_decide_eq_true hb
      refine' rt_cons (r_set 3 c__law_number.nd (ex_ixT (d := .int (divL.getD (k % 5).toNat 1)) ?a1 ?a2 (atI_of ?a3 ?a4))) ?r
      case a1 => walk_at "ex"
      case a2 => walk_at "ex"
      case a3 => exact Int.emod_nonneg _ (by decide)
      case a4 =>
        show (divL.map PyData.int)[(k % 5).toNat]? = _
        rw [List.getElem?_map, p1]
        rfl
      refine' rt_is (rt_ret (r_return (ex_bin (ex_bin ?a1 (ex_bin ?a2 ?a3 (od_mulL ?a4)) (od_mod ?a5)) ?a6 (od_fdiv p2 ?a7)))) ?a8
      case a1 => walk_at "ex"
      case a2 => walk_at "ex"
      case a3 => walk_at "ex"
      case a6 => walk_at "ex"
      case a4 => omega
      case a5 => exact Int.mul_pos p2 h2
      case a7 => omega
      unfold numF
      rw [if_pos hc]
      rfl
    case b =>
      have hc := of_decide_eq_false hb
      have fin : ∀ c' : Int, c' = (if c < -10 ^ 18 then c % BIG else c) → Rt (cxOf CX0 P w K mg base ["_law_cell", "_law_k", "_law_limit", "_law_d"] "_law_number" (defScope s__law_number) f cdv A outer s H E).nox (tlS (tlS (defBody s__law_number))) [.da (.int c'), .da (.int k), .da (.int l), .un] (.da (.int (numF c k l))) := by
        intro c' hc'
        have hbd : c'.natAbs < 2 ^ 190 := by
          rw [hc']
          unfold BIG
          split <;> omega
        refine' rt_is (rt_ret (r_return (ex_bin (ex_call (x := "_law_draw") (R := R_draw) CD ?rm (es_cons (ex_bin ?u1 ?u2 (od_mulW (mul_small ?u3 ?u4))) (es_cons ?u5 (es_cons ?u6 es_nil))) ⟨_, _, _, rfl, ?u7, rfl⟩) ?u8 (od_mod h2)))) ?u9
        case rm => walk_at "rm"
        case u1 => walk_at "ex"
        case u2 => walk_at "ex"
        case u5 => walk_at "ex"
        case u6 => walk_at "ex"
        case u8 => walk_at "ex"
        case u3 => omega
        case u4 => omega
        case u7 => omega
        unfold numF
        rw [if_neg hc, ← hc']
      refine' rt_if (b := decide (c < -10 ^ 18)) ?t1 (fun hb => ?x) (fun hb => ?y)
      case t1 => walk_at "et"
      case x =>
        have hx := of_decide_eq_true hb
        refine' .nx (rs_cons (r_set 0 c__law_number.nd ?v1) rs_nil) (fin (c % BIG) ?v2)
        case v1 => walk_at "ex"
        case v2 => rw [if_pos hx]
      case y =>
        have hx := of_decide_eq_false hb
        exact .nx rs_nil (fin c (by rw [if_neg hx]))

/-! ### _law_names -/
def letter (i : Int) : Str := ⟨#[97 + i.toNat]⟩
def LETT : Str := Str.ofString "abcdefghijklmnopqrstuvwxyz"
theorem lett_at {k : Int} (h0 : 0 ≤ k) (h1 : k < 26) : atI LETT.cps.toList k = some (97 + k.toNat) := by
  refine atI_of h0 ?_
  have h2 : k.toNat < 26 := by omega
  generalize k.toNat = n at h2
  have e : LETT.cps.toList = [97, 98, 99, 100, 101, 102, 103, 104, 105, 106, 107, 108, 109, 110, 111, 112, 113, 114, 115, 116, 117, 118, 119, 120, 121, 122] := by decide +kernel
  rw [e]
  have key : ∀ n : Fin 26, ([97, 98, 99, 100, 101, 102, 103, 104, 105, 106, 107, 108, 109, 110, 111, 112, 113, 114, 115, 116, 117, 118, 119, 120, 121, 122] : List Nat)[n.1]? = some (97 + n.1) := by decide
  exact key ⟨n, h2⟩
theorem lett_len : LETT.length ≤ 100000 := by decide +kernel
def nameAt (t : Int) (at_ : Nat) : Str := letter ((t + 3 * (at_ : Int)) % 26) ++ (if (t + (at_ : Int)) % 3 = 0 then letter ((t / 26 + 5 * (at_ : Int)) % 26) else Str.ofString "")
def turnF (ns : List Int) (by_ : Int) : Int := numF (cellF ns by_) (by_ + 1) 676
def namesF (ns : List Int) (by_ : Int) (n : Nat) : Names := (List.range n).map (nameAt (turnF ns by_))
def R_names : List Slot → Slot → Prop := fun ss s => ∃ ns b n, ss = [.scr ns, .da (.int b), .da (.int n)] ∧ (0 ≤ b ∧ b ≤ 1000 ∧ 0 ≤ n ∧ n ≤ 100) ∧ s = .ow ((namesF ns b n.toNat).map .str)
local macro_rules | `(tactic| walk_at "call") => `(tactic| (refine' ex_call (x := "_law_cell_at") (R := R_cell) (by assumption) ?rm ?es ⟨_, _, rfl, ?cd, rfl⟩; (case rm => walk_at "rm"); (case es => walk_at "es"); (case cd => omega)))
local macro_rules | `(tactic| walk_at "call") => `(tactic| (refine' ex_call (x := "_law_number") (R := R_number) (by assumption) ?rm ?es ⟨_, _, _, rfl, ?cd, rfl⟩; (case rm => walk_at "rm"); (case es => walk_at "es"); (case cd => omega)))
theorem len_ab {x : Str} {t : Int} {b : Prop} [Decidable b] : (letter t).length + (if b then x else Str.ofString "").length ≤ 1 + (x.length + 0) := by
  have h1 : (letter t).length = 1 := rfl
  have h2 : (Str.ofString "").length = 0 := by decide +kernel
  split <;> omega
theorem ok_names {f : Addr} {fd : FuncData} (F : Fun K "_law_names" "_law_names" s__law_names f fd) (CC : Cal P w K mg base "_law_cell_at" 1 (spP K R_cell)) (CN : Cal P w K mg base "_law_number" 2 (spP K R_number)) (zr : mg "range" = none) :
    FnOk P w K mg base CX0 3 f fd ["_law_script", "_law_by", "_law_many"] (spP K R_names) := by
  refine fun_rt F c__law_names (fun ss s h => ?_) fun cdv A outer s H E hr hu ss sl h => ?_
  · obtain ⟨c, k, l, rfl, _⟩ := h; rfl
  · obtain ⟨ns, b, n, rfl, ⟨b0, b1, n0, n1⟩, rfl⟩ := h
    show Rt _ _ [.scr ns, .da (.int b), .da (.int n), .un, .un, .un, .un, .un] _
    refine' rt_cons (r_par3 3 4 5 rfl c__law_names.nd (s1 := .da (.int (turnF ns b))) (s2 := .da (.str LETT)) (s3 := .ow []) ?a1 ?a2 ?a3) ?r
    case a1 => walk_at "ex"
    case a2 => walk_at "ex"
    case a3 => exact ex_lst ea_nil (by decide)
    have ht := num_range (c := cellF ns b) (k := b + 1) (l := 676) (by decide)
    have ht' : 0 ≤ turnF ns b ∧ turnF ns b < 676 := ht
    generalize htt : turnF ns b = t at ht'
    show Rt _ _ [.scr ns, .da (.int b), .da (.int n), .da (.int t), .da (.str LETT), .ow [], .un, .un] _
    refine' rt_cons (r_for PassesOwn.never rfl (it_range1 zr ?b1 ?b2) (for_pre (List.range n.toNat) (fun i => .int (i : Int)) (fun pre => [.scr ns, .da (.int b), .da (.int n), .da (.int t), .da (.str LETT), .ow ((pre.map (nameAt t)).map .str), .un, .un]) (fun pre y post e => ⟨_, _, bt_name 6 c__law_names.nd, .inl ?b3⟩))) ?e
    case b1 => walk_at "ea"
    case b2 => omega
    case e =>
      refine' rt_is (rt_ret (r_returnO 5 rfl)) ?_
      unfold namesF
      rw [htt]
    case b3 =>
      have hy : y < 100 := by
        have hm : y ∈ List.range n.toNat := by rw [e]; simp
        have := List.mem_range.mp hm
        omega
      have hp : pre.length < 100 := by
        have := congrArg List.length e
        simp only [List.length_range, List.length_append, List.length_cons] at this
        omega
      refine' rs_is (rs_weak (.same (.same (.same (.same (.same (.same (.un (.un .nil)))))))) (rs_cons (r_set 7 c__law_names.nd (s := .da (.str (if (t + (y : Int)) % 3 = 0 then letter ((t / 26 + 5 * (y : Int)) % 26) else Str.ofString ""))) ?c1) (rs_cons (r_append 5 rfl (ex_bin (ex_ixS (c := 97 + ((t + 3 * (y : Int)) % 26).toNat) ?c2 ?c3 ?c4 lett_len) ?c5 (od_addS ?c6)) ?c7) rs_nil))) ?c8
      case c1 =>
        refine' ex_if (t := decide ((t + (y : Int)) % 3 = 0)) ?d1 (fun h => ?d2) (fun h => ?d3)
        case d1 => walk_at "et"
        case d2 =>
          rw [if_pos (of_decide_eq_true h)]
          refine' ex_ixS ?_ ?_ (lett_at ?_ ?_) lett_len
          walk_at "ex"
          walk_at "ex"
          omega
          omega
        case d3 =>
          rw [if_neg (of_decide_eq_false h)]
          exact ex_str
      case c2 => walk_at "ex"
      case c3 => walk_at "ex"
      case c4 => exact lett_at (by omega) (by omega)
      case c5 => exact ex_name 7 rfl
      case c6 => exact Nat.le_trans len_ab (Nat.le_trans (Nat.le_of_eq (show _ = 2 from rfl)) (by decide))
      case c7 => rw [List.length_map, List.length_map]; omega
      case c8 =>
        rw [List.map_append, List.map_append]
        rfl
end
end My

set_option Elab.async false
set_option linter.all false
set_option maxRecDepth 100000
set_option maxHeartbeats 1000000
namespace My
open PySem PySem.Spec PyProof.Rows L2 Mx

/-! ### short words for the walk (all local) -/
local macro_rules | `(tactic| walk_at "pl") => `(tactic| first | exact pl_int | exact pl_str | exact pl_bool | exact pl_none | exact pl_dN | exact pl_dH | assumption)
local macro_rules | `(tactic| walk_at "od") => `(tactic| first
  | exact od_add | exact od_sub | exact od_mod (by omega) | exact od_fdiv (by omega) (by omega) | exact od_pow (by decide) | exact od_mulL (by omega) | exact od_mulR (by omega)
  | exact oc_lt | exact oc_le | exact oc_gt | exact oc_ge | exact oc_ltS | exact oc_isN | exact oc_notN
  | exact oc_eqI (by assumption) | exact oc_eqS (by assumption) | exact oc_eqB (by assumption) | exact oc_eqN (by assumption) | exact oc_eqH (by assumption) | exact oc_eqNil (by assumption)
  | exact oc_neI (by assumption) | exact oc_neS (by assumption) | exact oc_neB (by assumption) | exact oc_neN (by assumption) | exact oc_neH (by assumption) | exact oc_neNil (by assumption)
  | exact oc_inN (by assumption) | exact oc_notinN (by assumption)
  | exact oc_eq (by assumption) (by walk_at "pl") (by walk_at "pl") | exact oc_ne (by assumption) (by walk_at "pl") (by walk_at "pl"))
local macro_rules | `(tactic| walk_at "nm") => `(tactic| first
  | exact ex_name 0 rfl | exact ex_name 1 rfl | exact ex_name 2 rfl | exact ex_name 3 rfl | exact ex_name 4 rfl | exact ex_name 5 rfl | exact ex_name 6 rfl | exact ex_name 7 rfl
  | exact ex_name 8 rfl | exact ex_name 9 rfl | exact ex_name 10 rfl | exact ex_name 11 rfl | exact ex_name 12 rfl | exact ex_name 13 rfl | exact ex_name 14 rfl | exact ex_name 15 rfl | exact ex_name 16 rfl | exact ex_name 17 rfl)
local macro_rules | `(tactic| walk_at "call") => `(tactic| fail)
local macro_rules | `(tactic| walk_at "exs") => `(tactic| first
  | walk_at "nm" | exact ex_int | exact ex_str | exact ex_bl | exact ex_non
  | (refine' ex_bin ?a ?b ?o; (case a => walk_at "ex"); (case b => walk_at "ex"); (case o => walk_at "od"))
  | (refine' ex_cmp ?a ?b ?o; (case a => walk_at "ex"); (case b => walk_at "ex"); (case o => walk_at "od"))
  | (refine' ex_not ?a; (case a => walk_at "ex"))
  | (refine' ex_neg ?a; (case a => walk_at "ex"))
  | (refine' ex_one ?a; (case a => walk_at "ex"))
  | (refine' ex_and ?a ?b; (case a => walk_at "ex"); (case b => intro _; walk_at "ex"))
  | (refine' ex_or ?a ?b; (case a => walk_at "ex"); (case b => intro _; walk_at "ex"))
  | (refine' ex_tup ?a ?z; (case a => walk_at "ea"); (case z => simp))
  | (refine' ex_freeze (ex_lst ?a ?z); (case a => walk_at "ea"); (case z => simp))
  | (refine' ex_callB ?a cd_lenL (by assumption); (case a => walk_at "ea"))
  | (refine' ex_callB ?a cd_lenT (by assumption); (case a => walk_at "ea"))
  | walk_at "call")
local macro_rules | `(tactic| walk_at "ex") => `(tactic| first | walk_at "exs" | (refine' ex_star ?h ?f; (case h => walk_at "exs"); (case f => rfl)))
local macro_rules | `(tactic| walk_at "ea") => `(tactic| first | exact ea_nil | (refine' ea_cons ?a ?r; (case a => walk_at "ex"); (case r => walk_at "ea")))
local macro_rules | `(tactic| walk_at "ews") => `(tactic| first
  | (refine' ew_and1 ?a; (case a => walk_at "et"))
  | (refine' ew_or1 ?a; (case a => walk_at "et"))
  | (refine' ew_and ?a ?b; (case a => walk_at "et"); (case b => intro _; walk_at "ews"))
  | (refine' ew_or ?a ?b; (case a => walk_at "et"); (case b => intro _; walk_at "ews")))
local macro_rules | `(tactic| walk_at "ets") => `(tactic| first
  | (refine' et_W ?a; (case a => walk_at "ews"))
  | (refine' et_not ?a; (case a => walk_at "et"))
  | (refine' et_cmp ?a ?b ?o; (case a => walk_at "ex"); (case b => walk_at "ex"); (case o => walk_at "od"))
  | (refine' et_val ?a; (case a => walk_at "ex")))
local macro_rules | `(tactic| walk_at "et") => `(tactic| first | walk_at "ets" | (refine' et_star ?h; (case h => walk_at "ets")))
local macro_rules | `(tactic| walk_at "sh") => `(tactic| first | exact shd_da | exact shd_scr | exact shd_ob)
local macro_rules | `(tactic| walk_at "nmS") => `(tactic| first
  | exact ex_nameS 0 rfl (by walk_at "sh") | exact ex_nameS 1 rfl (by walk_at "sh") | exact ex_nameS 2 rfl (by walk_at "sh") | exact ex_nameS 3 rfl (by walk_at "sh") | exact ex_nameS 4 rfl (by walk_at "sh") | exact ex_nameS 5 rfl (by walk_at "sh")
  | exact ex_nameS 6 rfl (by walk_at "sh") | exact ex_nameS 7 rfl (by walk_at "sh") | exact ex_nameS 8 rfl (by walk_at "sh") | exact ex_nameS 9 rfl (by walk_at "sh") | exact ex_nameS 10 rfl (by walk_at "sh") | exact ex_nameS 11 rfl (by walk_at "sh"))
local macro_rules | `(tactic| walk_at "es") => `(tactic| first
  | exact es_nil
  | (refine' es_cons ?a ?r; (case a => (first | walk_at "ex" | walk_at "nmS")); (case r => walk_at "es"))
  | (refine' es_cons ?a ?r shd_scr; (case a => walk_at "nmS"); (case r => walk_at "es"))
  | (refine' es_cons ?a ?r shd_ob; (case a => (first | walk_at "ex" | walk_at "nmS")); (case r => walk_at "es")))
local macro_rules | `(tactic| walk_at "rm") => `(tactic| exact Room.mono (by assumption) (by decide))
local macro_rules | `(tactic| walk_at "call") => `(tactic| (refine' ex_call (x := "_law_cell_at") (R := R_cell) (by assumption) ?rm ?es ⟨_, _, rfl, ?cd, rfl⟩; (case rm => walk_at "rm"); (case es => walk_at "es"); (case cd => omega)))
local macro_rules | `(tactic| walk_at "call") => `(tactic| (refine' ex_call (x := "_law_number") (R := R_number) (by assumption) ?rm ?es ⟨_, _, _, rfl, ?cd, rfl⟩; (case rm => walk_at "rm"); (case es => walk_at "es"); (case cd => omega)))
section
variable {P : Program} {w : World} {K : PySem.W.Frag} {mg : Str → Option Value} {base : Heap}
/-! ### _law_drawn -/
def hearsF (ns : List Int) (b kind : Int) (a p : Nat) : Bool :=
  decide (kind = 0) || (decide (kind % 3 < numF (cellF ns (b + (a : Int) % 5) + 7 * (p : Int)) ((a : Int) + (p : Int)) 3) || (decide (kind = 3) && decide (0 < (p : Int) % 3)))
def othersF (ns : List Int) (b kind : Int) (a : Nat) (x : Str) (l : List (Str × Nat)) : Names := (l.filter fun q => !decide (x = q.1) && hearsF ns b kind a q.2).map (·.1)
def cntF (ns : List Int) (b : Int) : Int := numF (cellF ns b) (b + 2) 8
def namF (ns : List Int) (b : Int) : Names := sortS (namesF ns b (cntF ns b).toNat)
def kindF (ns : List Int) (b : Int) : Int := numF (cellF ns b) (b + 3) 4
def drawnF (ns : List Int) (b : Int) : Hear := (namF ns b).zipIdx.map fun q => (q.1, othersF ns b (kindF ns b) q.2 q.1 (namF ns b).zipIdx)
theorem cnt_range (ns : List Int) (b : Int) : 0 ≤ cntF ns b ∧ cntF ns b < 8 := num_range (by decide)
theorem kind_range (ns : List Int) (b : Int) : 0 ≤ kindF ns b ∧ kindF ns b < 4 := num_range (by decide)
theorem namF_len (ns : List Int) (b : Int) : (namF ns b).length ≤ 7 := by
  unfold namF namesF
  rw [sortS_len, List.length_map, List.length_range]
  have := cnt_range ns b
  omega
def R_drawn : List Slot → Slot → Prop := fun ss s => ∃ ns b, ss = [.scr ns, .da (.int b)] ∧ (0 ≤ b ∧ b ≤ 100) ∧ s = .ow ((drawnF ns b).map dP)
theorem ok_drawn {f : Addr} {fd : FuncData} (F : Fun K "_law_drawn" "_law_drawn" s__law_drawn f fd) (CC : Cal P w K mg base "_law_cell_at" 1 (spP K R_cell)) (CN : Cal P w K mg base "_law_number" 2 (spP K R_number)) (CM : Cal P w K mg base "_law_names" 3 (spP K R_names))
    (ze : mg "enumerate" = none) (zs : mg "sorted" = none) : FnOk P w K mg base CX0 4 f fd ["_law_script", "_law_by"] (spP K R_drawn) := by
  refine fun_rt F c__law_drawn (fun ss s h => ?_) fun cdv A outer s H E hr hu ss sl h => ?_
  · obtain ⟨c, k, rfl, _⟩ := h; rfl
  · obtain ⟨ns, b, rfl, ⟨b0, b1⟩, rfl⟩ := h
    show Rt _ _ [.scr ns, .da (.int b), .un, .un, .un, .un, .un, .un, .un, .un, .un, .un] _
    have hcnt := cnt_range ns b
    have hnl : (namesF ns b (cntF ns b).toNat).length < 64 := by unfold namesF; rw [List.length_map, List.length_range]; omega
    refine' rt_cons (r_set 2 c__law_drawn.nd (ex_freeze (ex_callB (ea_cons (ex_freeze (ex_call CM ?rm (es_cons ?e1 (es_cons ?e2 (es_cons (s := .da (.int (cntF ns b))) ?e3 es_nil)) shd_scr) ⟨ns, b, cntF ns b, rfl, ?cd, rfl⟩)) ea_nil) (cd_sortedS hnl) zs))) ?r
    case rm => walk_at "rm"
    case e1 => walk_at "nmS"
    case e2 => walk_at "ex"
    case e3 => walk_at "ex"
    case cd => omega
    refine' rt_cons (r_par 3 4 rfl c__law_drawn.nd (s1 := .da (.int (kindF ns b))) (s2 := .ow []) ?a1 (ex_lst ea_nil (by decide))) ?rr
    case a1 => walk_at "ex"
    have hkind := kind_range ns b
    have hlen := namF_len ns b
    have hdr : drawnF ns b = (namF ns b).zipIdx.map fun q => (q.1, othersF ns b (kindF ns b) q.2 q.1 (namF ns b).zipIdx) := rfl
    rw [hdr]
    show Rt _ _ [.scr ns, .da (.int b), .da (dN (namF ns b)), .da (.int (kindF ns b)), .ow [], .un, .un, .un, .un, .un, .un, .un] _
    generalize kindF ns b = kd at hkind
    generalize namF ns b = xs at hlen
    have hzl : xs.zipIdx.length = xs.length := List.length_zipIdx
    refine' rt_cons (r_for PassesOwn.never rfl (it_enumN ze ?b1) (for_pre xs.zipIdx dI (fun pre => [.scr ns, .da (.int b), .da (dN xs), .da (.int kd), .ow ((pre.map fun q => (q.1, othersF ns b kd q.2 q.1 xs.zipIdx)).map dP), .un, .un, .un, .un, .un, .un, .un]) (fun pre q post e => ⟨_, _, bt_tup rfl (bts_cons (bt_name 5 c__law_drawn.nd) (bts_cons (bt_name 6 c__law_drawn.nd) bts_nil)), .inl (by
        obtain ⟨x, a⟩ := q
        have hq := zip_mem (xs := xs) (q := (x, a)) (by rw [e]; simp)
        have hpl : pre.length < 10 := by have := congrArg List.length e; simp at this; omega
        simp only at hq
        refine' rs_cons (r_set 7 c__law_drawn.nd (ex_lst ea_nil (by decide))) ?r1
        refine' rs_cons (r_for PassesOwn.never rfl (it_enumN ze ?c1) (for_pre xs.zipIdx dI (fun pr => [.scr ns, .da (.int b), .da (dN xs), .da (.int kd), .ow ((pre.map fun q => (q.1, othersF ns b kd q.2 q.1 xs.zipIdx)).map dP), .da (.int (a : Nat)), .da (.str x), .ow ((othersF ns b kd a x pr).map .str), .un, .un, .un, .un]) (fun pr q post e => ⟨_, _, bt_tup rfl (bts_cons (bt_name 8 c__law_drawn.nd) (bts_cons (bt_name 9 c__law_drawn.nd) bts_nil)), .inl (by
            obtain ⟨y, p⟩ := q
            have hq2 := zip_mem (xs := xs) (q := (y, p)) (by rw [e]; simp)
            simp only at hq2
            have hpl2 : pr.length < 10 := by have := congrArg List.length e; simp at this; omega
            have hol : (othersF ns b kd a x pr).length < 10 := by
              unfold othersF
              rw [List.length_map]
              have := List.length_filter_le (fun q : Str × Nat => !decide (x = q.1) && hearsF ns b kd a q.2) pr
              omega
            have hadd : othersF ns b kd a x (pr ++ [(y, p)]) = if (!decide (x = y) && hearsF ns b kd a p) = true then othersF ns b kd a x pr ++ [y] else othersF ns b kd a x pr := by
              unfold othersF
              rw [List.filter_append, List.map_append, List.filter_cons]
              split <;> simp
            refine' rs_weak (.same (.same (.same (.same (.same (.same (.same (.same (.un (.un (.un (.un .nil)))))))))))) (rs_cons (r_set 10 c__law_drawn.nd ?d1) (rs_cons (r_set 11 c__law_drawn.nd (s := .da (.bool (hearsF ns b kd a p))) ?d2) (rs_cons (r_if (b := !decide (x = y) && hearsF ns b kd a p) ?d3 (fun h => ?d4) (fun h => ?d5)) rs_nil)))
            case d1 => walk_at "ex"
            case d2 => walk_at "ex"
            case d3 => walk_at "et"
            case d4 =>
              rw [hadd, if_pos h]
              refine' rs_is (rs_cons (r_append 7 rfl (ex_name 9 rfl) ?f1) rs_nil) ?f2
              case f1 => rw [List.length_map]; omega
              case f2 => rw [List.map_append]; rfl
            case d5 =>
              rw [hadd, if_neg (by rw [h]; decide)]
              exact rs_nil)⟩))) ?r2
        case c1 => walk_at "ea"
        refine' rs_freeze 7 rfl (rs_is (rs_weak (.same (.same (.same (.same (.same (.un (.un (.un (.un (.un (.un (.un .nil)))))))))))) (rs_cons (r_append 4 rfl ?g1 ?g2) rs_nil)) ?g3)
        case g1 => walk_at "ex"
        case g2 => rw [List.length_map, List.length_map]; omega
        case g3 => rw [List.map_append, List.map_append]; rfl)⟩))) ?e
    case b1 => walk_at "ea"
    case e => exact rt_ret (r_returnO 4 rfl)
end
end My

set_option Elab.async false
set_option linter.all false
set_option maxRecDepth 100000
set_option maxHeartbeats 1000000
namespace My
open PySem PySem.Spec PyProof.Rows L2 Mx

/-! ### short words for the walk (all local) -/
local macro_rules | `(tactic| walk_at "pl") => `(tactic| first | exact pl_int | exact pl_str | exact pl_bool | exact pl_none | exact pl_dN | exact pl_dH | assumption)
local macro_rules | `(tactic| walk_at "od") => `(tactic| first
  | exact od_add | exact od_sub | exact od_mod (by omega) | exact od_fdiv (by omega) (by omega) | exact od_pow (by decide) | exact od_mulL (by omega) | exact od_mulR (by omega)
  | exact oc_lt | exact oc_le | exact oc_gt | exact oc_ge | exact oc_ltS | exact oc_isN | exact oc_notN
  | exact oc_eqI (by assumption) | exact oc_eqS (by assumption) | exact oc_eqB (by assumption) | exact oc_eqN (by assumption) | exact oc_eqH (by assumption) | exact oc_eqNil (by assumption)
  | exact oc_neI (by assumption) | exact oc_neS (by assumption) | exact oc_neB (by assumption) | exact oc_neN (by assumption) | exact oc_neH (by assumption) | exact oc_neNil (by assumption)
  | exact oc_inN (by assumption) | exact oc_notinN (by assumption)
  | exact oc_eq (by assumption) (by walk_at "pl") (by walk_at "pl") | exact oc_ne (by assumption) (by walk_at "pl") (by walk_at "pl"))
local macro_rules | `(tactic| walk_at "nm") => `(tactic| first
  | exact ex_name 0 rfl | exact ex_name 1 rfl | exact ex_name 2 rfl | exact ex_name 3 rfl | exact ex_name 4 rfl | exact ex_name 5 rfl | exact ex_name 6 rfl | exact ex_name 7 rfl
  | exact ex_name 8 rfl | exact ex_name 9 rfl | exact ex_name 10 rfl | exact ex_name 11 rfl | exact ex_name 12 rfl | exact ex_name 13 rfl | exact ex_name 14 rfl | exact ex_name 15 rfl | exact ex_name 16 rfl | exact ex_name 17 rfl)
local macro_rules | `(tactic| walk_at "call") => `(tactic| fail)
local macro_rules | `(tactic| walk_at "exs") => `(tactic| first
  | walk_at "nm" | exact ex_int | exact ex_str | exact ex_bl | exact ex_non
  | (refine' ex_bin ?a ?b ?o; (case a => walk_at "ex"); (case b => walk_at "ex"); (case o => walk_at "od"))
  | (refine' ex_cmp ?a ?b ?o; (case a => walk_at "ex"); (case b => walk_at "ex"); (case o => walk_at "od"))
  | (refine' ex_not ?a; (case a => walk_at "ex"))
  | (refine' ex_neg ?a; (case a => walk_at "ex"))
  | (refine' ex_one ?a; (case a => walk_at "ex"))
  | (refine' ex_and ?a ?b; (case a => walk_at "ex"); (case b => intro _; walk_at "ex"))
  | (refine' ex_or ?a ?b; (case a => walk_at "ex"); (case b => intro _; walk_at "ex"))
  | (refine' ex_tup ?a ?z; (case a => walk_at "ea"); (case z => simp))
  | (refine' ex_freeze (ex_lst ?a ?z); (case a => walk_at "ea"); (case z => simp))
  | (refine' ex_callB ?a cd_lenL (by assumption); (case a => walk_at "ea"))
  | (refine' ex_callB ?a cd_lenT (by assumption); (case a => walk_at "ea"))
  | walk_at "call")
local macro_rules | `(tactic| walk_at "ex") => `(tactic| first | walk_at "exs" | (refine' ex_star ?h ?f; (case h => walk_at "exs"); (case f => rfl)))
local macro_rules | `(tactic| walk_at "ea") => `(tactic| first | exact ea_nil | (refine' ea_cons ?a ?r; (case a => walk_at "ex"); (case r => walk_at "ea")))
local macro_rules | `(tactic| walk_at "ews") => `(tactic| first
  | (refine' ew_and1 ?a; (case a => walk_at "et"))
  | (refine' ew_or1 ?a; (case a => walk_at "et"))
  | (refine' ew_and ?a ?b; (case a => walk_at "et"); (case b => intro _; walk_at "ews"))
  | (refine' ew_or ?a ?b; (case a => walk_at "et"); (case b => intro _; walk_at "ews")))
local macro_rules | `(tactic| walk_at "ets") => `(tactic| first
  | (refine' et_W ?a; (case a => walk_at "ews"))
  | (refine' et_not ?a; (case a => walk_at "et"))
  | (refine' et_cmp ?a ?b ?o; (case a => walk_at "ex"); (case b => walk_at "ex"); (case o => walk_at "od"))
  | (refine' et_val ?a; (case a => walk_at "ex")))
local macro_rules | `(tactic| walk_at "et") => `(tactic| first | walk_at "ets" | (refine' et_star ?h; (case h => walk_at "ets")))
local macro_rules | `(tactic| walk_at "sh") => `(tactic| first | exact shd_da | exact shd_scr | exact shd_ob)
local macro_rules | `(tactic| walk_at "nmS") => `(tactic| first
  | exact ex_nameS 0 rfl (by walk_at "sh") | exact ex_nameS 1 rfl (by walk_at "sh") | exact ex_nameS 2 rfl (by walk_at "sh") | exact ex_nameS 3 rfl (by walk_at "sh") | exact ex_nameS 4 rfl (by walk_at "sh") | exact ex_nameS 5 rfl (by walk_at "sh")
  | exact ex_nameS 6 rfl (by walk_at "sh") | exact ex_nameS 7 rfl (by walk_at "sh") | exact ex_nameS 8 rfl (by walk_at "sh") | exact ex_nameS 9 rfl (by walk_at "sh") | exact ex_nameS 10 rfl (by walk_at "sh") | exact ex_nameS 11 rfl (by walk_at "sh"))
local macro_rules | `(tactic| walk_at "es") => `(tactic| first
  | exact es_nil
  | (refine' es_cons ?a ?r; (case a => (first | walk_at "ex" | walk_at "nmS")); (case r => walk_at "es"))
  | (refine' es_cons ?a ?r shd_scr; (case a => walk_at "nmS"); (case r => walk_at "es"))
  | (refine' es_cons ?a ?r shd_ob; (case a => (first | walk_at "ex" | walk_at "nmS")); (case r => walk_at "es")))
local macro_rules | `(tactic| walk_at "rm") => `(tactic| exact Room.mono (by assumption) (by decide))
section
variable {P : Program} {w : World} {K : PySem.W.Frag} {mg : Str → Option Value} {base : Heap}
theorem oc_isB {X : Cx} {t u : Bool} : CmpD X .Is (.bool t) (.bool u) (.da (.bool (decide (t = u)))) := .mk ⟨_, op_isBl, fun F H x y Q e hx hy k => by
  cases hx; cases hy
  exact ⟨t, u, rfl, rfl, k.here e (.bl _)⟩⟩
/-! ### what one hears -/
def heard (h : Hear) (n : Str) : Names := ((h.filter fun y => decide (y.1 = n)).map (·.2)).headD []
theorem heard_get {h : Hear} {n : Str} (hn : n ∈ h.map (·.1)) : ((h.filter fun y => decide (y.1 = n)).map (·.2))[0]? = some (heard h n) := by
  unfold heard
  have : n ∈ (h.filter fun y => decide (y.1 = n)).map (·.1) := by
    obtain ⟨y, hy, e⟩ := List.mem_map.mp hn
    exact List.mem_map.mpr ⟨y, List.mem_filter.mpr ⟨hy, by simpa using e⟩, e⟩
  revert this
  generalize h.filter (fun y => decide (y.1 = n)) = g
  cases g with
  | nil => intro z; cases z
  | cons a r => intro _; rfl
def R_heard : List Slot → Slot → Prop := fun ss s => ∃ h n, ss = [.da (dH h), .da (.str n)] ∧ h.length ≤ 1000 ∧ n ∈ h.map (·.1) ∧ s = .da (dN (heard h n))
theorem ok_heard_by {f : Addr} {fd : FuncData} (F : Fun K "heard_by" "heard_by" s_heard_by f fd) : FnOk P w K mg base CX0 1 f fd ["hearing", "name"] (spP K R_heard) := by
  refine fun_rt F c_heard_by (fun ss s h => ?_) fun cdv A outer s H E hr hu ss sl h => ?_
  · obtain ⟨h, n, rfl, _⟩ := h; rfl
  · obtain ⟨h, n, rfl, hl, hg, rfl⟩ := h
    show Rt _ _ [.da (dH h), .da (.str n), .un, .un] _
    refine rt_ret (r_return (ex_ixL (ds := ((h.filter fun y => decide (y.1 = n)).map fun y => dN y.2)) (ex_freeze (ex_lc [("one", 2), ("others", 3)] h dP _ _ rfl c_heard_by.nd (blkOk_by (by kernel_rfl)) (it_list (ex_name 0 rfl)) (fun y _ => ?_) (by omega))) ex_int ?_))
    · refine ⟨_, _, ?_, fun s0 H0 C cl fp => ⟨bt_tup rfl (bts_cons (bt_name 2 c_heard_by.nd) (bts_cons (bt_name 3 c_heard_by.nd) bts_nil)), ets_one (et_cmp (ex_name 2 rfl) (ex_name 1 rfl) (oc_eqS hu)), fun _ => ex_name 3 rfl⟩⟩
      decide
    · have e : (h.filter fun y => decide (y.1 = n)).map (fun y => dN y.2) = ((h.filter fun y => decide (y.1 = n)).map (·.2)).map dN := by rw [List.map_map]; rfl
      rw [e]
      exact atI_of (by decide) (by show (List.map dN _)[0]? = _; rw [List.getElem?_map, heard_get hg]; rfl)
theorem ok_law_heard {f : Addr} {fd : FuncData} (F : Fun K "_law_heard" "_law_heard" s__law_heard f fd) : FnOk P w K mg base CX0 1 f fd ["_law_hearing", "_law_name"] (spP K R_heard) := by
  refine fun_rt F c__law_heard (fun ss s h => ?_) fun cdv A outer s H E hr hu ss sl h => ?_
  · obtain ⟨h, n, rfl, _⟩ := h; rfl
  · obtain ⟨h, n, rfl, hl, hg, rfl⟩ := h
    show Rt _ _ [.da (dH h), .da (.str n), .un, .un] _
    refine rt_ret (r_return (ex_ixL (ds := ((h.filter fun y => decide (y.1 = n)).map fun y => dN y.2)) (ex_freeze (ex_lc [("_law_one", 2), ("_law_others", 3)] h dP _ _ rfl c__law_heard.nd (blkOk_by (by kernel_rfl)) (it_list (ex_name 0 rfl)) (fun y _ => ?_) (by omega))) ex_int ?_))
    · refine ⟨_, _, ?_, fun s0 H0 C cl fp => ⟨bt_tup rfl (bts_cons (bt_name 2 c__law_heard.nd) (bts_cons (bt_name 3 c__law_heard.nd) bts_nil)), ets_one (et_cmp (ex_name 2 rfl) (ex_name 1 rfl) (oc_eqS hu)), fun _ => ex_name 3 rfl⟩⟩
      decide
    · have e : (h.filter fun y => decide (y.1 = n)).map (fun y => dN y.2) = ((h.filter fun y => decide (y.1 = n)).map (·.2)).map dN := by rw [List.map_map]; rfl
      rw [e]
      exact atI_of (by decide) (by show (List.map dN _)[0]? = _; rw [List.getElem?_map, heard_get hg]; rfl)
/-! ### _law_says -/
def R_says : List Slot → Slot → Prop := fun ss s => ∃ t u, ss = [.da (.bool t), .da (.bool u)] ∧ s = .da (.bool (decide (t = u)))
theorem ok_says {f : Addr} {fd : FuncData} (F : Fun K "_law_says" "_law_says" s__law_says f fd) (zi : mg "isinstance" = none) (zb : mg "bool" = none) : FnOk P w K mg base CX0 1 f fd ["_law_said", "_law_due"] (spP K R_says) := by
  refine fun_rt F c__law_says (fun ss s h => ?_) fun cdv A outer s H E hr hu ss sl h => ?_
  · obtain ⟨t, u, rfl, _⟩ := h; rfl
  · obtain ⟨t, u, rfl, rfl⟩ := h
    show Rt _ _ [.da (.bool t), .da (.bool u)] _
    refine rt_ret (r_return (EX.is (ex_and (ex_isi (ex_name 0 rfl) (kitB_bool _) zi zb) fun _ => ex_one (ex_cmp (ex_name 0 rfl) (ex_name 1 rfl) (oc_eqB hu))) ?_))
    simp
/-! ### the answers -/
abbrev fN (n : Str) : List (Str × PyData) := [(("name" : Str), PyData.str n)]
def R_sameS (C : Addr) : List Slot → Slot → Prop := fun ss s => ∃ h a b, ss = [.ext (OB C []), .da (dH h), .da (.str a), .da (.str b)] ∧ h.length ≤ 1000 ∧ a ∈ h.map (·.1) ∧ b ∈ h.map (·.1) ∧ s = .da (.bool (decide (heard h a = heard h b)))
theorem ok_same {C f : Addr} {fd : FuncData} (F : Fun K "shows" "Same.shows" s_Same_shows f fd) (CH : Cal P w K mg base "heard_by" 1 (spP K R_heard)) : FnOk P w K mg base CX0 2 f fd ["self", "hearing", "one", "other"] (spP K (R_sameS C)) := by
  refine fun_rt F c_Same_shows (fun ss s h => ?_) fun cdv A outer s H E hr hu ss sl h => ?_
  · obtain ⟨h, a, b, rfl, _⟩ := h; rfl
  · obtain ⟨h, a, b, rfl, hl, ha, hb, rfl⟩ := h
    show Rt _ _ [.ext (OB C []), .da (dH h), .da (.str a), .da (.str b)] _
    exact rt_ret (r_return (ex_cmp (ex_call CH (by walk_at "rm") (es_cons (ex_name 1 rfl) (es_cons (ex_name 2 rfl) es_nil)) ⟨h, a, rfl, hl, ha, rfl⟩) (ex_call CH (by walk_at "rm") (es_cons (ex_name 1 rfl) (es_cons (ex_name 3 rfl) es_nil)) ⟨h, b, rfl, hl, hb, rfl⟩) (oc_eqN hu)))
def R_apI : List Slot → List (Str × PyData) → Prop := fun ss fs => ∃ n, ss = [.da (.str n)] ∧ fs = (fN n)
theorem ok_apI {C f : Addr} {fd : FuncData} (F : Fun K "__init__" "Apart.__init__" s_Apart_init f fd) (cl : Cls K C) (nn : NoAttr K C "name") : FnOk P w K mg base CX0 1 f fd ["self", "name"] (spInit K C R_apI) := by
  refine F.ok c_Apart_init (fun vs H Q E h => ?_) (fun cdv A outer s H vs Q E hr h => ?_)
  · obtain ⟨G, ss, fs, x, dx, vs', rfl, ⟨n, rfl, _⟩, _, hA, _⟩ := h
    cases hA with
    | cons a r => cases r; rfl
  · obtain ⟨G, ss, fs, x, dx, vs', rfl, ⟨n, rfl, rfl⟩, eG, hA, n1, n2, ne, hx, hdx, k⟩ := h
    cases hA with
    | cons a r =>
      cases r
      obtain ⟨_, v, ev, dv⟩ := a
      cases ev
      refine ⟨_, pss_one (ps_fld (pv 0) (pv 1) rfl), ?_⟩
      refine ⟨_, rfl, _, rfl, x, C, dx, [], rfl, hx, cl, nn, (by show 0 < 1000; decide), ?_⟩
      exact k G _ _ (Ex.refl G) (eG.mut n1) (fun b o nb e => by rw [upd_ne nb]; exact e) (fun _ _ => rfl) upd_same (.cons ⟨rfl, dv⟩ .nil)
def R_apS (C : Addr) : List Slot → Slot → Prop := fun ss s => ∃ h n a b, ss = [.ext (OB C (fN n)), .da (dH h), .da (.str a), .da (.str b)] ∧ h.length ≤ 1000 ∧ a ∈ h.map (·.1) ∧ b ∈ h.map (·.1) ∧ s = .da (.bool (!decide (decide (n ∈ heard h a) = decide (n ∈ heard h b))))
theorem ok_apart {C f : Addr} {fd : FuncData} (F : Fun K "shows" "Apart.shows" s_Apart_shows f fd) (cl : Cls K C) (nn : NoAttr K C "name") (CH : Cal P w K mg base "heard_by" 1 (spP K R_heard)) : FnOk P w K mg base CX0 2 f fd ["self", "hearing", "one", "other"] (spP K (R_apS C)) := by
  refine fun_rt F c_Apart_shows (fun ss s h => ?_) fun cdv A outer s H E hr hu ss sl h => ?_
  · obtain ⟨h, n, a, b, rfl, _⟩ := h; rfl
  · obtain ⟨h, n, a, b, rfl, hl, ha, hb, rfl⟩ := h
    show Rt _ _ [.ext (OB C (fN n)), .da (dH h), .da (.str a), .da (.str b)] _
    exact rt_ret (r_return (ex_cmp
      (ex_cmp (ex_fld (ex_nameS 0 rfl shd_ob) rfl cl nn) (ex_call CH (by walk_at "rm") (es_cons (ex_name 1 rfl) (es_cons (ex_name 2 rfl) es_nil)) ⟨h, a, rfl, hl, ha, rfl⟩) (oc_inN hu))
      (ex_cmp (ex_fld (ex_nameS 0 rfl shd_ob) rfl cl nn) (ex_call CH (by walk_at "rm") (es_cons (ex_name 1 rfl) (es_cons (ex_name 3 rfl) es_nil)) ⟨h, b, rfl, hl, hb, rfl⟩) (oc_inN hu)) (oc_neB hu)))
end
end My

set_option Elab.async false
set_option linter.all false
set_option maxRecDepth 100000
set_option maxHeartbeats 1000000
namespace My
open PySem PySem.Spec PyProof.Rows L2 Mx

/-! ### short words for the walk (all local) -/
local macro_rules | `(tactic| walk_at "pl") => `(tactic| first | exact pl_int | exact pl_str | exact pl_bool | exact pl_none | exact pl_dN | exact pl_dH | assumption)
local macro_rules | `(tactic| walk_at "od") => `(tactic| first
  | exact od_add | exact od_sub | exact od_mod (by omega) | exact od_fdiv (by omega) (by omega) | exact od_pow (by decide) | exact od_mulL (by omega) | exact od_mulR (by omega)
  | exact oc_lt | exact oc_le | exact oc_gt | exact oc_ge | exact oc_ltS | exact oc_isN | exact oc_notN
  | exact oc_eqI (by assumption) | exact oc_eqS (by assumption) | exact oc_eqB (by assumption) | exact oc_eqN (by assumption) | exact oc_eqH (by assumption) | exact oc_eqNil (by assumption)
  | exact oc_neI (by assumption) | exact oc_neS (by assumption) | exact oc_neB (by assumption) | exact oc_neN (by assumption) | exact oc_neH (by assumption) | exact oc_neNil (by assumption)
  | exact oc_inN (by assumption) | exact oc_notinN (by assumption)
  | exact oc_eq (by assumption) (by walk_at "pl") (by walk_at "pl") | exact oc_ne (by assumption) (by walk_at "pl") (by walk_at "pl"))
local macro_rules | `(tactic| walk_at "nm") => `(tactic| first
  | exact ex_name 0 rfl | exact ex_name 1 rfl | exact ex_name 2 rfl | exact ex_name 3 rfl | exact ex_name 4 rfl | exact ex_name 5 rfl | exact ex_name 6 rfl | exact ex_name 7 rfl
  | exact ex_name 8 rfl | exact ex_name 9 rfl | exact ex_name 10 rfl | exact ex_name 11 rfl | exact ex_name 12 rfl | exact ex_name 13 rfl | exact ex_name 14 rfl | exact ex_name 15 rfl | exact ex_name 16 rfl | exact ex_name 17 rfl)
local macro_rules | `(tactic| walk_at "call") => `(tactic| fail)
local macro_rules | `(tactic| walk_at "exs") => `(tactic| first
  | walk_at "nm" | exact ex_int | exact ex_str | exact ex_bl | exact ex_non
  | (refine' ex_bin ?a ?b ?o; (case a => walk_at "ex"); (case b => walk_at "ex"); (case o => walk_at "od"))
  | (refine' ex_cmp ?a ?b ?o; (case a => walk_at "ex"); (case b => walk_at "ex"); (case o => walk_at "od"))
  | (refine' ex_not ?a; (case a => walk_at "ex"))
  | (refine' ex_neg ?a; (case a => walk_at "ex"))
  | (refine' ex_one ?a; (case a => walk_at "ex"))
  | (refine' ex_and ?a ?b; (case a => walk_at "ex"); (case b => intro _; walk_at "ex"))
  | (refine' ex_or ?a ?b; (case a => walk_at "ex"); (case b => intro _; walk_at "ex"))
  | (refine' ex_tup ?a ?z; (case a => walk_at "ea"); (case z => simp))
  | (refine' ex_freeze (ex_lst ?a ?z); (case a => walk_at "ea"); (case z => simp))
  | (refine' ex_callB ?a cd_lenL (by assumption); (case a => walk_at "ea"))
  | (refine' ex_callB ?a cd_lenT (by assumption); (case a => walk_at "ea"))
  | walk_at "call")
local macro_rules | `(tactic| walk_at "ex") => `(tactic| first | walk_at "exs" | (refine' ex_star ?h ?f; (case h => walk_at "exs"); (case f => rfl)))
local macro_rules | `(tactic| walk_at "ea") => `(tactic| first | exact ea_nil | (refine' ea_cons ?a ?r; (case a => walk_at "ex"); (case r => walk_at "ea")))
local macro_rules | `(tactic| walk_at "ews") => `(tactic| first
  | (refine' ew_and1 ?a; (case a => walk_at "et"))
  | (refine' ew_or1 ?a; (case a => walk_at "et"))
  | (refine' ew_and ?a ?b; (case a => walk_at "et"); (case b => intro _; walk_at "ews"))
  | (refine' ew_or ?a ?b; (case a => walk_at "et"); (case b => intro _; walk_at "ews")))
local macro_rules | `(tactic| walk_at "ets") => `(tactic| first
  | (refine' et_W ?a; (case a => walk_at "ews"))
  | (refine' et_not ?a; (case a => walk_at "et"))
  | (refine' et_cmp ?a ?b ?o; (case a => walk_at "ex"); (case b => walk_at "ex"); (case o => walk_at "od"))
  | (refine' et_val ?a; (case a => walk_at "ex")))
local macro_rules | `(tactic| walk_at "et") => `(tactic| first | walk_at "ets" | (refine' et_star ?h; (case h => walk_at "ets")))
local macro_rules | `(tactic| walk_at "sh") => `(tactic| first | exact shd_da | exact shd_scr | exact shd_ob)
local macro_rules | `(tactic| walk_at "nmS") => `(tactic| first
  | exact ex_nameS 0 rfl (by walk_at "sh") | exact ex_nameS 1 rfl (by walk_at "sh") | exact ex_nameS 2 rfl (by walk_at "sh") | exact ex_nameS 3 rfl (by walk_at "sh") | exact ex_nameS 4 rfl (by walk_at "sh") | exact ex_nameS 5 rfl (by walk_at "sh")
  | exact ex_nameS 6 rfl (by walk_at "sh") | exact ex_nameS 7 rfl (by walk_at "sh") | exact ex_nameS 8 rfl (by walk_at "sh") | exact ex_nameS 9 rfl (by walk_at "sh") | exact ex_nameS 10 rfl (by walk_at "sh") | exact ex_nameS 11 rfl (by walk_at "sh"))
local macro_rules | `(tactic| walk_at "es") => `(tactic| first
  | exact es_nil
  | (refine' es_cons ?a ?r; (case a => (first | walk_at "ex" | walk_at "nmS")); (case r => walk_at "es"))
  | (refine' es_cons ?a ?r shd_scr; (case a => walk_at "nmS"); (case r => walk_at "es"))
  | (refine' es_cons ?a ?r shd_ob; (case a => (first | walk_at "ex" | walk_at "nmS")); (case r => walk_at "es")))
local macro_rules | `(tactic| walk_at "rm") => `(tactic| exact Room.mono (by assumption) (by decide))
section
variable {P : Program} {w : World} {K : PySem.W.Frag} {mg : Str → Option Value} {base : Heap}
theorem drawn_names {ns : List Int} {b : Int} : (drawnF ns b).map (·.1) = namF ns b := by
  unfold drawnF
  rw [List.map_map]
  have : ((fun q : Str × Names => q.1) ∘ fun q : Str × Nat => (q.1, othersF ns b (kindF ns b) q.2 q.1 (namF ns b).zipIdx)) = Prod.fst := rfl
  rw [this, List.zipIdx_map_fst]
theorem drawn_len {ns : List Int} {b : Int} : (drawnF ns b).length ≤ 7 := by
  have := congrArg List.length (drawn_names (ns := ns) (b := b))
  rw [List.length_map] at this
  rw [this]
  exact namF_len ns b
theorem cut_take (k : Nat) (xs : Names) : Mx.cutD (xs.map .str) none (some (k : Int)) = (xs.take k).map .str := by
  have h0 : HT.sIx (xs.map PyData.str).length 0 none = 0 := rfl
  have h1 : HT.sIx (xs.map PyData.str).length (xs.map PyData.str).length (some (k : Int)) = min k xs.length := by
    rw [List.length_map]
    show (if (k : Int) < 0 then ((k : Int) + (xs.length : Int)).toNat else min (k : Int).toNat xs.length) = _
    rw [if_neg (by omega)]
    rfl
  unfold Mx.cutD
  rw [h0, h1, List.drop_zero, Nat.sub_zero, ← List.map_take]
  congr 1
  apply List.ext_getElem?
  intro i
  rw [List.getElem?_take, List.getElem?_take]
  split <;> split
  · rfl
  · omega
  · have : xs.length ≤ i := by omega
    rw [List.getElem?_eq_none this]
  · rfl
def R_law : List Slot → Slot → Prop := fun ss s => ∃ ns, ss = [.scr ns] ∧ s = .da (.bool true)
theorem ok_law {C : Addr} {f : Addr} {fd : FuncData} {S : Addr} (F : Fun K "law" "law" s_law f fd) (CD : Cal P w K mg base "_law_drawn" 4 (spP K R_drawn)) (CL : Cal P w K mg base "_law_heard" 1 (spP K R_heard)) (CS : Cal P w K mg base "_law_says" 1 (spP K R_says))
    (MS : Mk0 K mg "Same" S) (SS : CalM P w K mg base S "shows" 2 (spP K (R_sameS S))) (MA : CalI P w K mg base "Apart" C 1 (spInit K C R_apI)) (SA : CalM P w K mg base C "shows" 2 (spP K (R_apS C))) (cl : Cls K C) (nn : NoAttr K C "name")
    (zr : mg "range" = none) : FnOk P w K mg base CX0 5 f fd ["_law_script"] (spP K R_law) := by
  refine fun_rt F c_law (fun ss s h => ?_) fun cdv A outer s H E hr hu ss sl h => ?_
  · obtain ⟨ns, rfl, _⟩ := h; rfl
  · obtain ⟨ns, rfl, rfl⟩ := h
    show Rt _ _ [.scr ns, .un, .un, .un, .un, .un, .un, .un, .un, .un, .un, .un] _
    refine' rt_cons (r_for PassesOwn.never rfl (it_range1 (n := 3) zr ?b1 (by decide)) (for_pre (List.range (3 : Int).toNat) (fun i => .int (i : Int)) (fun _ => [.scr ns, .un, .un, .un, .un, .un, .un, .un, .un, .un, .un, .un]) (fun pre b post e => ⟨_, _, bt_name 1 c_law.nd, .inl (by
      have hb : b < 3 := List.mem_range.mp (e ▸ by simp)
      refine rs_weak (ρ1 := [.scr ns, .da (.int (b : Nat)), .da (dH (drawnF ns b)), .da (dN (namF ns b)), .un, .un, .un, .un, .un, .un, .un, .un]) (.same (.un (.un (.un (.same (.same (.same (.same (.same (.same (.same (.same .nil)))))))))))) ?_
      refine' rs_cons (r_set 2 c_law.nd (ex_freeze (ex_call CD ?rm (es_cons ?e1 (es_cons ?e2 es_nil) shd_scr) ⟨ns, b, rfl, by omega, rfl⟩))) ?r1
      case rm => walk_at "rm"
      case e1 => walk_at "nmS"
      case e2 => walk_at "ex"
      refine' rs_cons (r_setLcA 3 [("_law_name", 8), ("_law_others", 11)] (drawnF ns b) dP (fun y => .str y.1) rfl c_law.nd (blkOk_by (by kernel_rfl)) (it_list (ex_name 2 rfl)) (fun y _ => ?lc) ?ln) ?r2
      case lc =>
        refine ⟨_, _, ?_, fun s0 H0 C cl fp => ⟨bt_tup rfl (bts_cons (bt_name 8 c_law.nd) (bts_cons (bt_name 11 c_law.nd) bts_nil)), ets_nil, fun _ => ex_name 8 rfl⟩⟩
        decide
      case ln => have := drawn_len (ns := ns) (b := b); omega
      have en : (drawnF ns b).map (fun y => PyData.str y.1) = (namF ns b).map .str := by rw [← drawn_names, List.map_map]; rfl
      rw [en]
      refine rs_freeze 3 rfl ?_
      have hn : ∀ n, n ∈ namF ns b → n ∈ (drawnF ns b).map (·.1) := fun n h => by rw [drawn_names]; exact h
      have hdl : (drawnF ns b).length ≤ 1000 := Nat.le_trans drawn_len (by decide)
      have hnl := namF_len ns b
      show RS _ _ [.scr ns, .da (.int (b : Nat)), .da (dH (drawnF ns b)), .da (dN (namF ns b)), .un, .un, .un, .un, .un, .un, .un, .un] _
      generalize drawnF ns b = h at hn hdl
      generalize namF ns b = xs at hn hnl
      refine' rs_cons (r_for PassesOwn.never rfl (it_list (ex_name 3 rfl)) (for_pre xs .str (fun _ => [.scr ns, .da (.int (b : Nat)), .da (dH h), .da (dN xs), .un, .un, .un, .un, .un, .un, .un, .un]) (fun pre o post e => ⟨_, _, bt_name 4 c_law.nd, .inl (by
        have ho := hn o (e ▸ by simp)
        refine rs_weak (ρ1 := [.scr ns, .da (.int (b : Nat)), .da (dH h), .da (dN xs), .da (.str o), .un, .un, .un, .un, .un, .un, .un]) (.same (.same (.same (.same (.un (.same (.same (.same (.same (.same (.same (.same .nil)))))))))))) ?_
        have ec : Mx.cutD (xs.map .str) none (some 4) = (xs.take 4).map .str := cut_take 4 xs
        refine' rs_cons (r_for PassesOwn.never rfl (it_list (ds := (xs.take 4).map .str) (EX.is (ex_freeze (ex_slL (ex_name 3 rfl) eo_none (eo_some ex_int))) (congrArg PyData.list ec))) (for_pre (xs.take 4) .str (fun _ => [.scr ns, .da (.int (b : Nat)), .da (dH h), .da (dN xs), .da (.str o), .un, .un, .un, .un, .un, .un, .un]) (fun pre t post e => ⟨_, _, bt_name 5 c_law.nd, .inl (by
          have ht : t ∈ h.map (·.1) := by
            have q : t ∈ xs.take 4 := by rw [e]; simp
            exact hn t (List.mem_of_mem_take q)
          refine rs_weak (ρ1 := [.scr ns, .da (.int (b : Nat)), .da (dH h), .da (dN xs), .da (.str o), .da (.str t), .da (dN (heard h o)), .da (dN (heard h t)), .un, .un, .un, .un]) (.same (.same (.same (.same (.same (.un (.un (.un (.same (.same (.same (.same .nil)))))))))))) ?_
          refine' rs_cons (r_par 6 7 rfl c_law.nd (s1 := .da (dN (heard h o))) (s2 := .da (dN (heard h t))) (ex_call CL ?m1 (es_cons (ex_name 2 rfl) (es_cons (ex_name 4 rfl) es_nil)) ⟨h, o, rfl, hdl, ho, rfl⟩) (ex_call CL ?m2 (es_cons (ex_name 2 rfl) (es_cons (ex_name 5 rfl) es_nil)) ⟨h, t, rfl, hdl, ht, rfl⟩)) ?r4
          case m1 => walk_at "rm"
          case m2 => walk_at "rm"
          refine' rs_cons (r_if (b := false) (ET.is (et_not (et_val (ex_call CS ?m3 (es_cons (ex_meth SS ?m4 (ex_make0 MS) rfl (es_cons (ex_name 2 rfl) (es_cons (ex_name 4 rfl) (es_cons (ex_name 5 rfl) es_nil))) ⟨h, o, t, rfl, hdl, ho, ht, rfl⟩) (es_cons (ex_cmp (ex_name 6 rfl) (ex_name 7 rfl) (oc_eqN hu)) es_nil)) ⟨_, _, rfl, rfl⟩))) ?i1) (fun z => nomatch z) fun _ => rs_nil) ?r5
          case m3 => walk_at "rm"
          case m4 => walk_at "rm"
          case i1 => simp
          refine' rs_cons (r_for PassesOwn.never rfl (it_list (ds := (xs ++ ([("" : Str), "qqq"] : Names)).map .str) (EX.is (ex_freeze (ex_bin (ex_name 3 rfl) (ex_freeze (ex_lst (ea_cons ex_str (ea_cons ex_str ea_nil)) (by decide))) (od_cat ?z1))) ?z2)) (for_pre (xs ++ ([("" : Str), "qqq"] : Names)) .str (fun _ => [.scr ns, .da (.int (b : Nat)), .da (dH h), .da (dN xs), .da (.str o), .da (.str t), .da (dN (heard h o)), .da (dN (heard h t)), .un, .un, .un, .un]) (fun pre n post e => ⟨_, _, bt_name 8 c_law.nd, .inl (by
            refine rs_weak (ρ1 := [.scr ns, .da (.int (b : Nat)), .da (dH h), .da (dN xs), .da (.str o), .da (.str t), .da (dN (heard h o)), .da (dN (heard h t)), .da (.str n), .ext (OB C (fN n)), .da (.bool (!decide (decide (n ∈ heard h o) = decide (n ∈ heard h t)))), .un]) (.same (.same (.same (.same (.same (.same (.same (.same (.un (.un (.un (.same .nil)))))))))))) ?_
            refine' rs_cons (r_par 9 10 rfl c_law.nd (s1 := .ext (OB C (fN n))) (s2 := .da (.bool (!decide (decide (n ∈ heard h o) = decide (n ∈ heard h t))))) (ex_make MA ?m5 (es_cons (ex_name 8 rfl) es_nil) ⟨n, rfl, rfl⟩) ?p2) ?r6
            case m5 => walk_at "rm"
            case p2 => walk_at "ex"
            refine' rs_cons (r_if (b := false) (ET.is (et_W (ew_or (et_cmp (ex_fld (ex_nameS 9 rfl shd_ob) rfl cl nn) (ex_name 8 rfl) (oc_neS hu)) fun _ => ew_or1 (et_not (et_val (ex_call CS ?m6 (es_cons (ex_meth SA ?m7 (ex_nameS 9 rfl shd_ob) rfl (es_cons (ex_name 2 rfl) (es_cons (ex_name 4 rfl) (es_cons (ex_name 5 rfl) es_nil))) ⟨h, n, o, t, rfl, hdl, ho, ht, rfl⟩) (es_cons (ex_name 10 rfl) es_nil)) ⟨_, _, rfl, rfl⟩))))) ?i2) (fun z => nomatch z) fun _ => rs_nil) rs_nil
            case m6 => walk_at "rm"
            case m7 => walk_at "rm"
            case i2 => simp)⟩))) rs_nil
          case z1 => rw [List.length_map]; show xs.length + 2 ≤ _; omega
          case z2 => rw [List.map_append]; rfl)⟩))) rs_nil)⟩))) rs_nil)⟩))) ?e
    case b1 => walk_at "ea"
    case e =>
      refine' rt_ret (r_return (EX.is (ex_cmp (ex_meth SA ?m8 (ex_make MA ?m9 (es_cons ex_str es_nil) ⟨"a", rfl, rfl⟩) rfl (es_cons (ex_freeze (ex_lst (ea_cons (ex_tup (ea_cons ex_str (ea_cons (ex_freeze (ex_lst ea_nil (by decide))) ea_nil)) (by decide)) (ea_cons (ex_tup (ea_cons ex_str (ea_cons (ex_freeze (ex_lst (ea_cons ex_str ea_nil) (by decide))) ea_nil)) (by decide)) ea_nil)) (by decide))) (es_cons ex_str (es_cons ex_str es_nil)))
        ⟨[("a", []), ("b", ["a"])], "a", "a", "b", rfl, by decide, by decide +kernel, by decide +kernel, rfl⟩) ex_bl oc_isB) ?q))
      case m8 => walk_at "rm"
      case m9 => walk_at "rm"
      case q => kernel_rfl
end
end My

set_option Elab.async false
set_option maxRecDepth 100000
namespace My
open PySem PySem.Spec PyProof.Rows L2 Mx
theorem all_mk {l : PySem.W.OpenLaw} {w : World} {K : PySem.W.Frag} {h : Heap} {mg : Str → Option Value} {fa : Addr} (X : K.In h) (G : h.Ns mainGlobals mg) (hfa : mg "law" = some (.ref fa))
    {ASame : Addr}
    {f1 : Addr} {od1 an1 : Option Addr} {sl1 : Array (Option Value)} {oc1 kV1 dc1 pm1 cd1 ct1 : Value}
    {AApart : Addr}
    {f2 : Addr} {od2 an2 : Option Addr} {sl2 : Array (Option Value)} {oc2 kV2 dc2 pm2 cd2 ct2 : Value}
    {f3 : Addr} {od3 an3 : Option Addr} {sl3 : Array (Option Value)} {oc3 kV3 dc3 pm3 cd3 ct3 : Value}
    {f4 : Addr} {od4 an4 : Option Addr} {sl4 : Array (Option Value)} {oc4 kV4 dc4 pm4 cd4 ct4 : Value}
    {f5 : Addr} {od5 an5 : Option Addr} {sl5 : Array (Option Value)} {oc5 kV5 dc5 pm5 cd5 ct5 : Value}
    {f6 : Addr} {od6 an6 : Option Addr} {sl6 : Array (Option Value)} {oc6 kV6 dc6 pm6 cd6 ct6 : Value}
    {f7 : Addr} {od7 an7 : Option Addr} {sl7 : Array (Option Value)} {oc7 kV7 dc7 pm7 cd7 ct7 : Value}
    {f8 : Addr} {od8 an8 : Option Addr} {sl8 : Array (Option Value)} {oc8 kV8 dc8 pm8 cd8 ct8 : Value}
    {f9 : Addr} {od9 an9 : Option Addr} {sl9 : Array (Option Value)} {oc9 kV9 dc9 pm9 cd9 ct9 : Value}
    {f10 : Addr} {od10 an10 : Option Addr} {sl10 : Array (Option Value)} {oc10 kV10 dc10 pm10 cd10 ct10 : Value}
    {f11 : Addr} {od11 an11 : Option Addr} {sl11 : Array (Option Value)} {oc11 kV11 dc11 pm11 cd11 ct11 : Value}
    {f12 : Addr} {od12 an12 : Option Addr} {sl12 : Array (Option Value)} {oc12 kV12 dc12 pm12 cd12 ct12 : Value}
    (ylen : PySem.W.nsIn K mainGlobals "len" = some none)
    (yrange : PySem.W.nsIn K mainGlobals "range" = some none)
    (yenumerate : PySem.W.nsIn K mainGlobals "enumerate" = some none)
    (ysorted : PySem.W.nsIn K mainGlobals "sorted" = some none)
    (yisinstance : PySem.W.nsIn K mainGlobals "isinstance" = some none)
    (ybool : PySem.W.nsIn K mainGlobals "bool" = some none)
    (aSame : PySem.W.nsIn K mainGlobals "Same" = some (some (.ref ASame)))
    (pgSame : PySem.W.plainGet K ASame Str.empty = true)
    (hdSame : PySem.W.hasDictIn K ASame = true)
    (poSame : PySem.W.plainOver K ASame = true)
    (saSame : PySem.W.findIn K (.ref ASame) "__setattr__" = some (some (.builtin "object.__setattr__")))
    (mkSame : PySem.W.makesIn K ASame = true)
    (kcSame : PySem.W.keepIn K (.ref ASame) = true)
    (inSame : PySem.W.findIn K (.ref ASame) "__init__" = some (some (.builtin "object.__init__")))
    (a1 : PySem.W.findIn K (.ref ASame) "shows" = some (some (.ref f1)))
    (i1 : PySem.W.isFn K (.ref f1) = true)
    (l1 : K.lookup f1 = some ⟨oc1, od1, .func (PySem.W.fnOf "shows" "Same.shows" (defArgs s_Same_shows) (defBody s_Same_shows) (defScope s_Same_shows) .none kV1 dc1 pm1 an1 cd1 ct1), sl1⟩)
    (c1 : PySem.W.codeIn K cd1 "Same.shows" = true)
    (k1 : PySem.W.keepIn K (.ref f1) = true)
    (aApart : PySem.W.nsIn K mainGlobals "Apart" = some (some (.ref AApart)))
    (pgApart : PySem.W.plainGet K AApart Str.empty = true)
    (hdApart : PySem.W.hasDictIn K AApart = true)
    (poApart : PySem.W.plainOver K AApart = true)
    (saApart : PySem.W.findIn K (.ref AApart) "__setattr__" = some (some (.builtin "object.__setattr__")))
    (mkApart : PySem.W.makesIn K AApart = true)
    (kcApart : PySem.W.keepIn K (.ref AApart) = true)
    (nApart_name : PySem.W.findIn K (.ref AApart) "name" = some none)
    (a2 : PySem.W.findIn K (.ref AApart) "__init__" = some (some (.ref f2)))
    (i2 : PySem.W.isFn K (.ref f2) = true)
    (l2 : K.lookup f2 = some ⟨oc2, od2, .func (PySem.W.fnOf "__init__" "Apart.__init__" (defArgs s_Apart_init) (defBody s_Apart_init) (defScope s_Apart_init) .none kV2 dc2 pm2 an2 cd2 ct2), sl2⟩)
    (c2 : PySem.W.codeIn K cd2 "Apart.__init__" = true)
    (k2 : PySem.W.keepIn K (.ref f2) = true)
    (a3 : PySem.W.findIn K (.ref AApart) "shows" = some (some (.ref f3)))
    (i3 : PySem.W.isFn K (.ref f3) = true)
    (l3 : K.lookup f3 = some ⟨oc3, od3, .func (PySem.W.fnOf "shows" "Apart.shows" (defArgs s_Apart_shows) (defBody s_Apart_shows) (defScope s_Apart_shows) .none kV3 dc3 pm3 an3 cd3 ct3), sl3⟩)
    (c3 : PySem.W.codeIn K cd3 "Apart.shows" = true)
    (k3 : PySem.W.keepIn K (.ref f3) = true)
    (a4 : PySem.W.nsIn K mainGlobals "heard_by" = some (some (.ref f4)))
    (l4 : K.lookup f4 = some ⟨oc4, od4, .func (PySem.W.fnOf "heard_by" "heard_by" (defArgs s_heard_by) (defBody s_heard_by) (defScope s_heard_by) .none kV4 dc4 pm4 an4 cd4 ct4), sl4⟩)
    (c4 : PySem.W.codeIn K cd4 "heard_by" = true)
    (k4 : PySem.W.keepIn K (.ref f4) = true)
    (a5 : PySem.W.nsIn K mainGlobals "_law_cell_at" = some (some (.ref f5)))
    (l5 : K.lookup f5 = some ⟨oc5, od5, .func (PySem.W.fnOf "_law_cell_at" "_law_cell_at" (defArgs s__law_cell_at) (defBody s__law_cell_at) (defScope s__law_cell_at) .none kV5 dc5 pm5 an5 cd5 ct5), sl5⟩)
    (c5 : PySem.W.codeIn K cd5 "_law_cell_at" = true)
    (k5 : PySem.W.keepIn K (.ref f5) = true)
    (a6 : PySem.W.nsIn K mainGlobals "_law_draw" = some (some (.ref f6)))
    (l6 : K.lookup f6 = some ⟨oc6, od6, .func (PySem.W.fnOf "_law_draw" "_law_draw" (defArgs s__law_draw) (defBody s__law_draw) (defScope s__law_draw) .none kV6 dc6 pm6 an6 cd6 ct6), sl6⟩)
    (c6 : PySem.W.codeIn K cd6 "_law_draw" = true)
    (k6 : PySem.W.keepIn K (.ref f6) = true)
    (a7 : PySem.W.nsIn K mainGlobals "_law_number" = some (some (.ref f7)))
    (l7 : K.lookup f7 = some ⟨oc7, od7, .func (PySem.W.fnOf "_law_number" "_law_number" (defArgs s__law_number) (defBody s__law_number) (defScope s__law_number) .none kV7 dc7 pm7 an7 cd7 ct7), sl7⟩)
    (c7 : PySem.W.codeIn K cd7 "_law_number" = true)
    (k7 : PySem.W.keepIn K (.ref f7) = true)
    (a8 : PySem.W.nsIn K mainGlobals "_law_names" = some (some (.ref f8)))
    (l8 : K.lookup f8 = some ⟨oc8, od8, .func (PySem.W.fnOf "_law_names" "_law_names" (defArgs s__law_names) (defBody s__law_names) (defScope s__law_names) .none kV8 dc8 pm8 an8 cd8 ct8), sl8⟩)
    (c8 : PySem.W.codeIn K cd8 "_law_names" = true)
    (k8 : PySem.W.keepIn K (.ref f8) = true)
    (a9 : PySem.W.nsIn K mainGlobals "_law_drawn" = some (some (.ref f9)))
    (l9 : K.lookup f9 = some ⟨oc9, od9, .func (PySem.W.fnOf "_law_drawn" "_law_drawn" (defArgs s__law_drawn) (defBody s__law_drawn) (defScope s__law_drawn) .none kV9 dc9 pm9 an9 cd9 ct9), sl9⟩)
    (c9 : PySem.W.codeIn K cd9 "_law_drawn" = true)
    (k9 : PySem.W.keepIn K (.ref f9) = true)
    (a10 : PySem.W.nsIn K mainGlobals "_law_heard" = some (some (.ref f10)))
    (l10 : K.lookup f10 = some ⟨oc10, od10, .func (PySem.W.fnOf "_law_heard" "_law_heard" (defArgs s__law_heard) (defBody s__law_heard) (defScope s__law_heard) .none kV10 dc10 pm10 an10 cd10 ct10), sl10⟩)
    (c10 : PySem.W.codeIn K cd10 "_law_heard" = true)
    (k10 : PySem.W.keepIn K (.ref f10) = true)
    (a11 : PySem.W.nsIn K mainGlobals "_law_says" = some (some (.ref f11)))
    (l11 : K.lookup f11 = some ⟨oc11, od11, .func (PySem.W.fnOf "_law_says" "_law_says" (defArgs s__law_says) (defBody s__law_says) (defScope s__law_says) .none kV11 dc11 pm11 an11 cd11 ct11), sl11⟩)
    (c11 : PySem.W.codeIn K cd11 "_law_says" = true)
    (k11 : PySem.W.keepIn K (.ref f11) = true)
    (a12 : PySem.W.nsIn K mainGlobals "law" = some (some (.ref f12)))
    (l12 : K.lookup f12 = some ⟨oc12, od12, .func (PySem.W.fnOf "law" "law" (defArgs s_law) (defBody s_law) (defScope s_law) .none kV12 dc12 pm12 an12 cd12 ct12), sl12⟩)
    (c12 : PySem.W.codeIn K cd12 "law" = true)
    (k12 : PySem.W.keepIn K (.ref f12) = true)
    : ∃ fd : FuncData, (∀ (s : Shared) (v : Value), BindsTo s fd ⟨[v], []⟩ [("_law_script", v)]) ∧ ∀ base : Heap, K.In base → base.Ns mainGlobals mg → FnOk l.prog w K mg base CX0 5 fa fd ["_law_script"] (spP K R_law) := by
  have e := hfa.symm.trans (PySem.W.mg_of X G a12)
  cases e
  have zlen : mg "len" = none := PySem.W.mg_none_of X G ylen
  have zrange : mg "range" = none := PySem.W.mg_none_of X G yrange
  have zenumerate : mg "enumerate" = none := PySem.W.mg_none_of X G yenumerate
  have zsorted : mg "sorted" = none := PySem.W.mg_none_of X G ysorted
  have zisinstance : mg "isinstance" = none := PySem.W.mg_none_of X G yisinstance
  have zbool : mg "bool" = none := PySem.W.mg_none_of X G ybool
  have clSame : Cls K ASame := ⟨pgSame, hdSame, poSame, saSame⟩
  have MSame : Mk0 K mg "Same" ASame := ⟨mkSame, inSame, kcSame, PySem.W.mg_of X G aSame⟩
  have F1 := fun_mk (st := s_Same_shows) l1 c1 k1
  have b1 := F1.binds (ps := ["self", "hearing", "one", "other"]) fun _ _ _ _ _ _ us hl => match us, hl with | [_, _, _, _], _ => rfl
  have clApart : Cls K AApart := ⟨pgApart, hdApart, poApart, saApart⟩
  have F2 := fun_mk (st := s_Apart_init) l2 c2 k2
  have b2 := F2.binds (ps := ["self", "name"]) fun _ _ _ _ _ _ us hl => match us, hl with | [_, _], _ => rfl
  have F3 := fun_mk (st := s_Apart_shows) l3 c3 k3
  have b3 := F3.binds (ps := ["self", "hearing", "one", "other"]) fun _ _ _ _ _ _ us hl => match us, hl with | [_, _, _, _], _ => rfl
  have F4 := fun_mk (st := s_heard_by) l4 c4 k4
  have b4 := F4.binds (ps := ["hearing", "name"]) fun _ _ _ _ _ _ us hl => match us, hl with | [_, _], _ => rfl
  have F5 := fun_mk (st := s__law_cell_at) l5 c5 k5
  have b5 := F5.binds (ps := ["_law_script", "_law_k"]) fun _ _ _ _ _ _ us hl => match us, hl with | [_, _], _ => rfl
  have F6 := fun_mk (st := s__law_draw) l6 c6 k6
  have b6 := F6.binds (ps := ["_law_cell", "_law_k", "_law_most"]) fun _ _ _ _ _ _ us hl => match us, hl with | [_, _, _], _ => rfl
  have F7 := fun_mk (st := s__law_number) l7 c7 k7
  have b7 := F7.binds (ps := ["_law_cell", "_law_k", "_law_limit"]) fun _ _ _ _ _ _ us hl => match us, hl with | [_, _, _], _ => rfl
  have F8 := fun_mk (st := s__law_names) l8 c8 k8
  have b8 := F8.binds (ps := ["_law_script", "_law_by", "_law_many"]) fun _ _ _ _ _ _ us hl => match us, hl with | [_, _, _], _ => rfl
  have F9 := fun_mk (st := s__law_drawn) l9 c9 k9
  have b9 := F9.binds (ps := ["_law_script", "_law_by"]) fun _ _ _ _ _ _ us hl => match us, hl with | [_, _], _ => rfl
  have F10 := fun_mk (st := s__law_heard) l10 c10 k10
  have b10 := F10.binds (ps := ["_law_hearing", "_law_name"]) fun _ _ _ _ _ _ us hl => match us, hl with | [_, _], _ => rfl
  have F11 := fun_mk (st := s__law_says) l11 c11 k11
  have b11 := F11.binds (ps := ["_law_said", "_law_due"]) fun _ _ _ _ _ _ us hl => match us, hl with | [_, _], _ => rfl
  refine ⟨PySem.W.fnOf "law" "law" (defArgs s_law) (defBody s_law) (defScope s_law) .none kV12 dc12 pm12 an12 cd12 ct12, fun s v => .of_eq rfl, fun base _ _ => ?_⟩
  have Cheard_by : Cal l.prog w K mg base "heard_by" 1 (spP K R_heard) := ⟨_, _, _, ok_heard_by F4, PySem.W.mg_of X G a4, k4, b4⟩
  have C_law_cell_at : Cal l.prog w K mg base "_law_cell_at" 1 (spP K R_cell) := ⟨_, _, _, ok_cell_at F5 zlen, PySem.W.mg_of X G a5, k5, b5⟩
  have C_law_draw : Cal l.prog w K mg base "_law_draw" 1 (spP K R_draw) := ⟨_, _, _, ok_draw F6, PySem.W.mg_of X G a6, k6, b6⟩
  have C_law_number : Cal l.prog w K mg base "_law_number" 2 (spP K R_number) := ⟨_, _, _, ok_number F7 C_law_draw, PySem.W.mg_of X G a7, k7, b7⟩
  have C_law_names : Cal l.prog w K mg base "_law_names" 3 (spP K R_names) := ⟨_, _, _, ok_names F8 C_law_cell_at C_law_number zrange, PySem.W.mg_of X G a8, k8, b8⟩
  have C_law_drawn : Cal l.prog w K mg base "_law_drawn" 4 (spP K R_drawn) := ⟨_, _, _, ok_drawn F9 C_law_cell_at C_law_number C_law_names zenumerate zsorted, PySem.W.mg_of X G a9, k9, b9⟩
  have C_law_heard : Cal l.prog w K mg base "_law_heard" 1 (spP K R_heard) := ⟨_, _, _, ok_law_heard F10, PySem.W.mg_of X G a10, k10, b10⟩
  have C_law_says : Cal l.prog w K mg base "_law_says" 1 (spP K R_says) := ⟨_, _, _, ok_says F11 zisinstance zbool, PySem.W.mg_of X G a11, k11, b11⟩
  have MSame_shows : CalM l.prog w K mg base ASame "shows" 2 (spP K (R_sameS ASame)) := ⟨clSame, _, _, _, ok_same F1 Cheard_by, ⟨a1, i1, k1⟩, b1⟩
  have IApart : CalI l.prog w K mg base "Apart" AApart 1 (spInit K AApart R_apI) := ⟨PySem.W.mg_of X G aApart, _, _, _, ok_apI F2 clApart nApart_name, ⟨mkApart, a2, i2, kcApart⟩, b2⟩
  have MApart_shows : CalM l.prog w K mg base AApart "shows" 2 (spP K (R_apS AApart)) := ⟨clApart, _, _, _, ok_apart F3 clApart nApart_name Cheard_by, ⟨a3, i3, k3⟩, b3⟩
  exact ok_law (fun_mk (st := s_law) l12 c12 k12) C_law_drawn C_law_heard C_law_says MSame MSame_shows IApart MApart_shows clApart nApart_name zrange
end My
set_option maxHeartbeats 0 in
theorem PySem.Challenge.cw_mixminus_k06_compared_by_hand_holds : PySem.Challenge.rw_mixminus_k06_compared_by_hand.Holds := by
  w_on; o_law; k_head; (case hw => w_witness2)
  k_fill
  refine Mx.walkS (l := PySem.Challenge.rw_mixminus_k06_compared_by_hand) (x := "_law_script") (R := My.R_law) 5 rfl rfl ⟨rfl, by decide, by decide⟩ (fun w h Y => PySem.W.kIn_of Y) ?F (fun ns _ => ⟨ns, rfl, rfl⟩)
  case F =>
    intro w mg fa h KX G hmg
    refine' My.all_mk KX G hmg ?ylen ?yrange ?yenumerate ?ysorted ?yisinstance ?ybool ?aSame ?pgSame ?hdSame ?poSame ?saSame ?mkSame ?kcSame ?inSame ?a1 ?i1 ?l1 ?c1 ?k1 ?aApart ?pgApart ?hdApart ?poApart ?saApart ?mkApart ?kcApart ?nApart_name ?a2 ?i2 ?l2 ?c2 ?k2 ?a3 ?i3 ?l3 ?c3 ?k3 ?a4 ?l4 ?c4 ?k4 ?a5 ?l5 ?c5 ?k5 ?a6 ?l6 ?c6 ?k6 ?a7 ?l7 ?c7 ?k7 ?a8 ?l8 ?c8 ?k8 ?a9 ?l9 ?c9 ?k9 ?a10 ?l10 ?c10 ?k10 ?a11 ?l11 ?c11 ?k11 ?a12 ?l12 ?c12 ?k12
    (case ylen => k_is)
    (case yrange => k_is)
    (case yenumerate => k_is)
    (case ysorted => k_is)
    (case yisinstance => k_is)
    (case ybool => k_is)
    (case aSame => k_is)
    (case pgSame => k_is)
    (case hdSame => k_is)
    (case poSame => k_is)
    (case saSame => k_is)
    (case mkSame => k_is)
    (case kcSame => k_is)
    (case inSame => k_is)
    (case a1 => k_is)
    (case i1 => k_is)
    (case l1 => k_is)
    (case c1 => k_is)
    (case k1 => k_is)
    (case aApart => k_is)
    (case pgApart => k_is)
    (case hdApart => k_is)
    (case poApart => k_is)
    (case saApart => k_is)
    (case mkApart => k_is)
    (case kcApart => k_is)
    (case nApart_name => k_is)
    (case a2 => k_is)
    (case i2 => k_is)
    (case l2 => k_is)
    (case c2 => k_is)
    (case k2 => k_is)
    (case a3 => k_is)
    (case i3 => k_is)
    (case l3 => k_is)
    (case c3 => k_is)
    (case k3 => k_is)
    (case a4 => k_is)
    (case l4 => k_is)
    (case c4 => k_is)
    (case k4 => k_is)
    (case a5 => k_is)
    (case l5 => k_is)
    (case c5 => k_is)
    (case k5 => k_is)
    (case a6 => k_is)
    (case l6 => k_is)
    (case c6 => k_is)
    (case k6 => k_is)
    (case a7 => k_is)
    (case l7 => k_is)
    (case c7 => k_is)
    (case k7 => k_is)
    (case a8 => k_is)
    (case l8 => k_is)
    (case c8 => k_is)
    (case k8 => k_is)
    (case a9 => k_is)
    (case l9 => k_is)
    (case c9 => k_is)
    (case k9 => k_is)
    (case a10 => k_is)
    (case l10 => k_is)
    (case c10 => k_is)
    (case k10 => k_is)
    (case a11 => k_is)
    (case l11 => k_is)
    (case c11 => k_is)
    (case k11 => k_is)
    (case a12 => k_is)
    (case l12 => k_is)
    (case c12 => k_is)
    (case k12 => k_is)

