import PyProof.Rows.All
import Wide.All
import OpenK.AllK
import Wide.FinOn
import HandS.ForExc
import HandS.Comp
import HandS.Dict
import HandS.IsInst
import HandS.TupAny
import HandS.TupMul
import HandS.CallLocal
import HandS.Deep
import HandS.Strs
import HandS.More
import HandS.Defaults
import KE.KDictDisplayH
import PyProof.FString5
import PySem.Challenge.RW_wokenlives_k55_whole_book_replay
import KE.SortUse
import HandS.SortKw
import HandS.HotCalls
import HandS.ExcInit
import HandS.ExcField
import HandS.FStr
import KE.KExcSuper
import KE.KExcIs
import HandS.ExcIs
import KE.KStateDown
import PyProof.Reaches
import HandS.Head0
import HandS.Head1
import HandS.Head2
import HandS.HeadHook3
import HandS.HeadEnd
set_option Elab.async false
set_option linter.all false
section PartDL1
set_option maxRecDepth 100000
set_option maxHeartbeats 4000000
/-! The data layer: values that stand for data (PyData), judgements over an environment of data. -/
namespace K5
open PySem PySem.Spec PyProof.Rows L2

abbrev PD := PyData

/-! ### heaps that grow -/
theorem same_new {H : Hp} {p : Addr} {o : HO} (h : H p = none) : Same H (upd H p o) := fun a u e => by
  rw [upd_ne (ne_of_none e h)]
  exact e
theorem same_up {B H : Hp} {p : Addr} {o : HO} (s : Same B H) (h : B p = none) : Same B (upd H p o) := fun a u e => by
  rw [upd_ne (ne_of_none e h)]
  exact s a u e
theorem same_both {B H : Hp} {p : Addr} {o : HO} (s : Same B H) : Same (upd B p o) (upd H p o) := fun a u e => by
  by_cases h : a = p
  · subst h
    rw [upd_same] at e ⊢
    exact e
  · rw [upd_ne h] at e ⊢
    exact s a u e
/-- B: what the data leans on; H: all that is tracked. Both grow; what is held apart from B stays apart -/
structure Gr (B H B' H' : Hp) : Prop where
  b : Same B B'
  h : Same H H'
  bh : Same B' H'
  ap : ∀ a, B a = none → H a ≠ none → B' a = none
theorem Gr.refl {B H : Hp} (s : Same B H) : Gr B H B H := ⟨Same.refl B, Same.refl H, s, fun _ e _ => e⟩
theorem Gr.trans {B H B1 H1 B2 H2 : Hp} (x : Gr B H B1 H1) (y : Gr B1 H1 B2 H2) : Gr B H B2 H2 :=
  ⟨x.b.trans y.b, x.h.trans y.h, y.bh, fun a e n => y.ap a (x.ap a e n) fun z => by
    cases q : H a with
    | none => exact n q
    | some o =>
      rw [x.h a o q] at z
      cases z⟩
/-- a new object that data leans on -/
theorem Gr.new {B H : Hp} {p : Addr} {o : HO} (s : Same B H) (h : H p = none) : Gr B H (upd B p o) (upd H p o) :=
  ⟨same_new (s.free h), same_new h, same_both s, fun a e n => by
    have z : a ≠ p := fun q => by
      subst q
      exact n h
    rw [upd_ne z]
    exact e⟩
/-- a new object that nothing leans on -/
theorem Gr.own {B H : Hp} {p : Addr} {o : HO} (s : Same B H) (h : H p = none) : Gr B H B (upd H p o) :=
  ⟨Same.refl B, same_new h, same_up s (s.free h), fun a e _ => e⟩

/-! ### data -/
mutual
/-- the value stands for the data. A list is one that is tracked; a list that is locked (the script) is told as a dict of its ints -/
inductive Dv (K : PySem.W.Frag) (H : Hp) : V → PD → Prop
  | non : Dv K H .non .none
  | bl (b : Bool) : Dv K H (.bl b) (.bool b)
  | int (i : Int) : Dv K H (.int i) (.int i)
  | str (x : Str) : Dv K H (.str x) (.str x)
  | lst {a : Addr} {xs : List V} {ds : List PD} : H a = some (.lst xs) → DvA K H xs ds → Dv K H (.ref a) (.list ds)
  | tup {a : Addr} {xs : List V} {ds : List PD} : SqT K H a xs → DvA K H xs ds → Dv K H (.ref a) (.tuple ds)
  | scr {a : Addr} {ns : List Int} : SqL K H a (ns.map V.int) → Dv K H (.ref a) (.dict (ns.map fun n => (.int n, .none)))
inductive DvA (K : PySem.W.Frag) (H : Hp) : List V → List PD → Prop
  | nil : DvA K H [] []
  | cons {v : V} {vs : List V} {d : PD} {ds : List PD} : Dv K H v d → DvA K H vs ds → DvA K H (v :: vs) (d :: ds)
end
section
variable {K : PySem.W.Frag} {H H' : Hp}
theorem same_tup {a : Addr} {xs : List V} (e : Same H H') (h : SqT K H a xs) : SqT K H' a xs := by
  rcases h with (h | ⟨o, h⟩) | h
  · exact .inl (.inl (e _ _ h))
  · exact .inl (.inr ⟨o, e _ _ h⟩)
  · exact .inr h
mutual
theorem Dv.mono (e : Same H H') : ∀ {v : V} {d : PD}, Dv K H v d → Dv K H' v d
  | _, _, .non => .non
  | _, _, .bl b => .bl b
  | _, _, .int i => .int i
  | _, _, .str x => .str x
  | _, _, .lst h a => .lst (e _ _ h) (DvA.mono e a)
  | _, _, .tup h a => .tup (same_tup e h) (DvA.mono e a)
  | _, _, .scr h => .scr (e.seq h)
theorem DvA.mono (e : Same H H') : ∀ {vs : List V} {ds : List PD}, DvA K H vs ds → DvA K H' vs ds
  | _, _, .nil => .nil
  | _, _, .cons h t => .cons (Dv.mono e h) (DvA.mono e t)
end
theorem DvA.length : ∀ {vs : List V} {ds : List PD}, DvA K H vs ds → vs.length = ds.length
  | _, _, .nil => rfl
  | _, _, .cons _ t => congrArg (· + 1) (DvA.length t)
theorem DvA.get : ∀ {vs : List V} {ds : List PD} {i : Nat} {d : PD}, DvA K H vs ds → ds[i]? = some d → ∃ v, vs[i]? = some v ∧ Dv K H v d
  | _, _, _, _, .nil, e => by simp at e
  | _, _, 0, _, .cons h _, e => by
    simp at e
    subst e
    exact ⟨_, rfl, h⟩
  | _, _, i + 1, d, .cons _ t, e => by
    obtain ⟨v, h1, h2⟩ := DvA.get (i := i) (d := d) t (by simpa using e)
    exact ⟨v, by simpa using h1, h2⟩
theorem DvA.got : ∀ {vs : List V} {ds : List PD} {i : Nat} {v : V}, DvA K H vs ds → vs[i]? = some v → ∃ d, ds[i]? = some d ∧ Dv K H v d
  | _, _, _, _, .nil, e => by simp at e
  | _, _, 0, _, .cons h _, e => by
    simp at e
    subst e
    exact ⟨_, rfl, h⟩
  | _, _, i + 1, d, .cons _ t, e => by
    obtain ⟨v, h1, h2⟩ := DvA.got (i := i) (v := d) t (by simpa using e)
    exact ⟨v, by simpa using h1, h2⟩
theorem DvA.app : ∀ {vs ws : List V} {ds es : List PD}, DvA K H vs ds → DvA K H ws es → DvA K H (vs ++ ws) (ds ++ es)
  | _, _, _, _, .nil, s => s
  | _, _, _, _, .cons h t, s => .cons h (DvA.app t s)
theorem DvA.take : ∀ {vs : List V} {ds : List PD} (n : Nat), DvA K H vs ds → DvA K H (vs.take n) (ds.take n)
  | _, _, 0, _ => .nil
  | _, _, _ + 1, .nil => .nil
  | _, _, n + 1, .cons h t => .cons h (DvA.take n t)
theorem DvA.drop : ∀ {vs : List V} {ds : List PD} (n : Nat), DvA K H vs ds → DvA K H (vs.drop n) (ds.drop n)
  | _, _, 0, h => h
  | _, _, _ + 1, .nil => .nil
  | _, _, n + 1, .cons _ t => DvA.drop n t
theorem DvA.set {d : PD} {v : V} (r : Dv K H v d) : ∀ {vs : List V} {ds : List PD} (i : Nat), DvA K H vs ds → DvA K H (vs.set i v) (ds.set i d)
  | _, _, _, .nil => .nil
  | _, _, 0, .cons _ t => .cons r t
  | _, _, i + 1, .cons q t => .cons q (DvA.set r i t)
theorem DvA.one {v : V} {d : PD} (h : Dv K H v d) : DvA K H [v] [d] := .cons h .nil
theorem DvA.rep {vs : List V} {ds : List PD} (h : DvA K H vs ds) : ∀ k : Nat, DvA K H (List.replicate k vs).flatten (List.replicate k ds).flatten
  | 0 => .nil
  | k + 1 => by
    rw [List.replicate_succ, List.replicate_succ, List.flatten_cons, List.flatten_cons]
    exact h.app (DvA.rep h k)
mutual
/-- plain data: no dict -/
theorem Dv.dp : ∀ {v : V} {d : PD}, Dv K H v d → d.canLay0 = true → Dp K H v d
  | _, _, .non, _ => .non
  | _, _, .bl b, _ => .bl b
  | _, _, .int i, _ => .int i
  | _, _, .str x, _ => .str x
  | _, _, .lst h a, c => .lst (SqL.of h) (DvA.dp a (by simpa only [PyData.canLay0] using c))
  | _, _, .tup h a, c => .tup h (DvA.dp a (by simpa only [PyData.canLay0] using c))
  | _, _, .scr h, c => by simp [PyData.canLay0] at c
theorem DvA.dp : ∀ {vs : List V} {ds : List PD}, DvA K H vs ds → PyData.canLayAll0 ds = true → DpAll K H vs ds
  | _, _, .nil, _ => .nil
  | _, _, .cons h t, c => by
    simp only [PyData.canLayAll0, Bool.and_eq_true] at c
    exact .cons (Dv.dp h c.1) (DvA.dp t c.2)
end
/-- the value of a scalar -/
theorem Dv.int_ {v : V} {i : Int} (h : Dv K H v (.int i)) : v = .int i := by cases h; rfl
theorem Dv.str_ {v : V} {x : Str} (h : Dv K H v (.str x)) : v = .str x := by cases h; rfl
theorem Dv.bl_ {v : V} {b : Bool} (h : Dv K H v (.bool b)) : v = .bl b := by cases h; rfl
theorem Dv.non_ {v : V} (h : Dv K H v .none) : v = .non := by cases h; rfl
theorem Dv.tup_ {v : V} {ds : List PD} (h : Dv K H v (.tuple ds)) : ∃ a xs, v = .ref a ∧ SqT K H a xs ∧ DvA K H xs ds := by
  cases h with
  | tup s a => exact ⟨_, _, rfl, s, a⟩
theorem Dv.lst_ {v : V} {ds : List PD} (h : Dv K H v (.list ds)) : ∃ a xs, v = .ref a ∧ H a = some (.lst xs) ∧ DvA K H xs ds := by
  cases h with
  | lst s a => exact ⟨_, _, rfl, s, a⟩
theorem DvA.one_ {vs : List V} {d : PD} (h : DvA K H vs [d]) : ∃ v, vs = [v] ∧ Dv K H v d := by
  cases h with
  | cons h t => cases t; exact ⟨_, rfl, h⟩
theorem DvA.two_ {vs : List V} {d e : PD} (h : DvA K H vs [d, e]) : ∃ v u, vs = [v, u] ∧ Dv K H v d ∧ Dv K H u e := by
  cases h with
  | cons h t =>
    cases t with
    | cons h2 t2 => cases t2; exact ⟨_, _, rfl, h, h2⟩
end

/-! ### the environment -/
/-- a slot of data, or none -/
abbrev Rho := List (Option PD)
/-- the one list that the def may change: its slot and its items -/
abbrev Own := Option (Nat × List PD)
/-- H0: the heap at the def's entry -/
structure Sl (K : PySem.W.Frag) (H0 B H : Hp) (σ : L2.St) (ρ : Rho) (O : Own) : Prop where
  bh : Same B H
  len : σ.length = ρ.length
  dat : ∀ (i : Nat) (d : PD), ρ[i]? = some (some d) → ∃ v, σ[i]? = some (some v) ∧ Dv K B v d
  own : ∀ (i : Nat) (ds : List PD), O = some (i, ds) → ∃ p xs, σ[i]? = some (some (.ref p)) ∧ H0 p = none ∧ B p = none ∧ H p = some (.lst xs) ∧ DvA K B xs ds
theorem Sl.gr {K : PySem.W.Frag} {H0 B H B' H' : Hp} {σ : L2.St} {ρ : Rho} {O : Own} (S : Sl K H0 B H σ ρ O) (g : Gr B H B' H') : Sl K H0 B' H' σ ρ O :=
  ⟨g.bh, S.len, fun i d e => by
    obtain ⟨v, h1, h2⟩ := S.dat i d e
    exact ⟨v, h1, h2.mono g.b⟩, fun i ds e => by
    obtain ⟨p, xs, h1, h0, h2, h3, h4⟩ := S.own i ds e
    exact ⟨p, xs, h1, h0, g.ap p h2 (by rw [h3]; exact fun z => nomatch z), g.h p _ h3, h4.mono g.b⟩⟩

/-! ### readings by meaning -/
structure RE (X : Cx) (e : Expr) (σ : L2.St) (H : Hp) (Q : VK) : Prop where
  run : ∀ pins s, Inv X pins σ H s → wpAny (model X.prog X.w) X.A (eval e X.env) (EP X pins σ Q) X.xe s
structure RT (X : Cx) (e : Expr) (σ : L2.St) (H : Hp) (Q : Bool → Hp → Prop) : Prop where
  run : ∀ pins s, Inv X pins σ H s → wpAny (model X.prog X.w) X.A (isTrue e X.env (eval e X.env)) (TP X pins σ Q) X.xe s
structure RW (X : Cx) (e : Expr) (σ : L2.St) (H : Hp) (Q : Bool → Hp → Prop) : Prop where
  run : ∀ whole pins s, Inv X pins σ H s → wpAny (model X.prog X.w) X.A (isTrue e X.env whole) (TP X pins σ Q) X.xe s
structure RA (X : Cx) (es : List Expr) (σ : L2.St) (H : Hp) (Q : List V → Hp → Prop) : Prop where
  run : ∀ pos pins s, Inv X pins σ H s → wpAny (model X.prog X.w) X.A (spliced (backTo pos (starEach es X.env))) (AP X pins σ Q) X.xe s
structure RS (X : Cx) (st : Stmt) (D : Ends) (σ : L2.St) (H : Hp) : Prop where
  run : ∀ pins s, Inv X pins σ H s → wpAny (model X.prog X.w) X.A (exec st X.env) (SP X pins D) X.xe s
structure RB (X : Cx) (st : List Stmt) (D : Ends) (σ : L2.St) (H : Hp) : Prop where
  run : ∀ pins s, Inv X pins σ H s → wpAny (model X.prog X.w) X.A (execs st X.env) (SP X pins D) X.xe s
def wE (X : Cx) (e : Expr) : TE := RE X e
def wT (X : Cx) (e : Expr) : TT := RT X e
def wW (X : Cx) (e : Expr) : TT := RW X e
def wA (X : Cx) (es : List Expr) : TA := RA X es
def wS (X : Cx) (st : Stmt) : TS := RS X st
def wB (X : Cx) (st : List Stmt) : TS := RB X st
section
variable {X : Cx}
theorem pwE (e : Expr) : PE X e (wE X e) := ⟨fun pins s _ _ _ I h => h.run pins s I⟩
theorem pwT (e : Expr) : PT X e (wT X e) := ⟨fun pins s _ _ _ I h => h.run pins s I⟩
theorem pwW (e : Expr) : PW X e (wW X e) := ⟨fun wh pins s _ _ _ I h => h.run wh pins s I⟩
theorem pwA (es : List Expr) : PA X es (wA X es) := ⟨fun pos pins s _ _ _ I h => h.run pos pins s I⟩
theorem pwS (st : Stmt) : PS X st (wS X st) := ⟨fun pins s _ _ _ I h => h.run pins s I⟩
theorem pwB (st : List Stmt) : PSs X st (wB X st) := ⟨fun pins s _ _ _ I h => h.run pins s I⟩
theorem wE_of {e : Expr} {t : TE} (p : PE X e t) {σ : L2.St} {H : Hp} {Q : VK} (h : t σ H Q) : wE X e σ H Q := ⟨fun pins s I => p.run pins s σ H Q I h⟩
theorem wT_of {e : Expr} {t : TT} (p : PT X e t) {σ : L2.St} {H : Hp} {Q : Bool → Hp → Prop} (h : t σ H Q) : wT X e σ H Q := ⟨fun pins s I => p.run pins s σ H Q I h⟩
theorem wW_of {e : Expr} {t : TT} (p : PW X e t) {σ : L2.St} {H : Hp} {Q : Bool → Hp → Prop} (h : t σ H Q) : wW X e σ H Q := ⟨fun wh pins s I => p.run wh pins s σ H Q I h⟩
theorem wA_of {es : List Expr} {t : TA} (p : PA X es t) {σ : L2.St} {H : Hp} {Q : List V → Hp → Prop} (h : t σ H Q) : wA X es σ H Q := ⟨fun pos pins s I => p.run pos pins s σ H Q I h⟩
theorem wS_of {st : Stmt} {t : TS} (p : PS X st t) {σ : L2.St} {H : Hp} {D : Ends} (h : t D σ H) : wS X st D σ H := ⟨fun pins s I => p.run pins s σ H D I h⟩
theorem wB_of {st : List Stmt} {t : TS} (p : PSs X st t) {σ : L2.St} {H : Hp} {D : Ends} (h : t D σ H) : wB X st D σ H := ⟨fun pins s I => p.run pins s σ H D I h⟩
end

/-! ### judgements -/
/-- the expression gives the data d -/
def DE (X : Cx) (e : Expr) (ρ : Rho) (O : Own) (d : PD) : Prop :=
  ∀ H0 B H σ (Q : VK), Sl X.K H0 B H σ ρ O → (∀ v B' H', Gr B H B' H' → Dv X.K B' v d → Q v H') → wE X e σ H Q
def DA (X : Cx) (es : List Expr) (ρ : Rho) (O : Own) (ds : List PD) : Prop :=
  ∀ H0 B H σ (Q : List V → Hp → Prop), Sl X.K H0 B H σ ρ O → (∀ vs B' H', Gr B H B' H' → DvA X.K B' vs ds → Q vs H') → wA X es σ H Q
/-- the test says b -/
def DT (X : Cx) (e : Expr) (ρ : Rho) (O : Own) (b : Bool) : Prop :=
  ∀ H0 B H σ (Q : Bool → Hp → Prop), Sl X.K H0 B H σ ρ O → (∀ B' H', Gr B H B' H' → Q b H') → wT X e σ H Q
def DW (X : Cx) (e : Expr) (ρ : Rho) (O : Own) (b : Bool) : Prop :=
  ∀ H0 B H σ (Q : Bool → Hp → Prop), Sl X.K H0 B H σ ρ O → (∀ B' H', Gr B H B' H' → Q b H') → wW X e σ H Q
/-- what is wanted behind statements; ex: a BadBook that bears this number leaves -/
structure DP where
  nx : Rho → Own → Prop
  rt : PD → Prop
  bk : Rho → Own → Prop := fun _ _ => False
  ct : Rho → Own → Prop := fun _ _ => False
  ex : Int → Prop := fun _ => False
/-- what the data-level wishes ask of the ends (C: BadBook's class; B0, H0: the def's entry; B1: data that must stay) -/
structure Post (K : PySem.W.Frag) (C : Addr) (W : WX) (B0 H0 B1 : Hp) (P : DP) (D : Ends) : Prop where
  nx : ∀ σ B H ρ O, P.nx ρ O → Sl K H0 B H σ ρ O → Gr B0 H0 B H → Same B1 B → D.nx σ H
  rt : ∀ d v B H, P.rt d → Dv K B v d → Gr B0 H0 B H → D.rt v H
  bk : ∀ σ B H ρ O, P.bk ρ O → Sl K H0 B H σ ρ O → Gr B0 H0 B H → Same B1 B → D.bk σ H
  ct : ∀ σ B H ρ O, P.ct ρ O → Sl K H0 B H σ ρ O → Gr B0 H0 B H → Same B1 B → D.ct σ H
  ex : ∀ n a σ B H, P.ex n → H a = some (.xd [("number", .int n)]) → Gr B0 H0 B H → W (.ref C) (some a) σ H
def DS (X : Cx) (C : Addr) (W : WX) (st : Stmt) (ρ : Rho) (O : Own) (P : DP) : Prop :=
  ∀ B0 H0 B1 σ B H D, Sl X.K H0 B H σ ρ O → Gr B0 H0 B H → Same B1 B → Post X.K C W B0 H0 B1 P D → wS X st D σ H
def DB (X : Cx) (C : Addr) (W : WX) (st : List Stmt) (ρ : Rho) (O : Own) (P : DP) : Prop :=
  ∀ B0 H0 B1 σ B H D, Sl X.K H0 B H σ ρ O → Gr B0 H0 B H → Same B1 B → Post X.K C W B0 H0 B1 P D → wB X st D σ H
end K5
end PartDL1
section PartDL2
set_option maxRecDepth 100000
set_option maxHeartbeats 4000000
/-! The data layer: expressions. -/
namespace K5
open PySem PySem.Spec PyProof.Rows L2
section
variable {X : Cx} {ρ : Rho} {O : Own} {d d1 d2 d3 : PD} {a b c e : Expr} {es : List Expr} {pos : Pos}

theorem DE.mk {t : TE} (p : PE X e t) (h : ∀ {H0 B H : Hp} {σ : L2.St} (S : Sl X.K H0 B H σ ρ O) (Q : VK), (∀ v B' H', Gr B H B' H' → Dv X.K B' v d → Q v H') → t σ H Q) : DE X e ρ O d :=
  fun H0 B H σ Q S q => wE_of p (h S Q q)
theorem DT.mk {t : TT} {k : Bool} (p : PT X e t) (h : ∀ {H0 B H : Hp} {σ : L2.St} (S : Sl X.K H0 B H σ ρ O) (Q : Bool → Hp → Prop), (∀ B' H', Gr B H B' H' → Q k H') → t σ H Q) : DT X e ρ O k :=
  fun H0 B H σ Q S q => wT_of p (h S Q q)
theorem DW.mk {t : TT} {k : Bool} (p : PW X e t) (h : ∀ {H0 B H : Hp} {σ : L2.St} (S : Sl X.K H0 B H σ ρ O) (Q : Bool → Hp → Prop), (∀ B' H', Gr B H B' H' → Q k H') → t σ H Q) : DW X e ρ O k :=
  fun H0 B H σ Q S q => wW_of p (h S Q q)
/-! ### names, constants -/
theorem de_var (i : Nat) {x : Str} (hN : X.N[i]? = some x := by rfl) (hv : Vis X.env.scope x := by first | exact .inl rfl | exact .inr (.inl rfl) | exact .inr (.inr rfl)) (hρ : ρ[i]? = some (some d) := by rfl) (hd : (x == ("__debug__" : Str)) = false := by decide) (hcd : (x == ("__classdict__" : Str)) = false := by decide) : DE X (.Name x pos) ρ O d :=
  .mk (pe_var hN hv hd hcd) fun S Q q => by
    obtain ⟨v, e1, e2⟩ := S.dat i d hρ
    exact ⟨v, e1, q v _ _ (Gr.refl S.bh) e2⟩
theorem de_int {i : Int} {k} : DE X (.Constant (.int i) k pos) ρ O (.int i) := .mk pe_int fun S Q q => q _ _ _ (Gr.refl S.bh) (.int i)
theorem de_str {x : Str} {k} : DE X (.Constant (.str x) k pos) ρ O (.str x) := .mk pe_str fun S Q q => q _ _ _ (Gr.refl S.bh) (.str x)
theorem de_bl {x : Bool} {k} : DE X (.Constant (.bool x) k pos) ρ O (.bool x) := .mk pe_bl fun S Q q => q _ _ _ (Gr.refl S.bh) (.bl x)
theorem de_non {k} : DE X (.Constant .none k pos) ρ O .none := .mk pe_non fun S Q q => q _ _ _ (Gr.refl S.bh) .non
/-- a value that leans on the module's part alone -/
def DvK (K : PySem.W.Frag) (v : V) (d : PD) : Prop := ∀ B : Hp, Dv K B v d
theorem DvK.int {K : PySem.W.Frag} (i : Int) : DvK K (.int i) (.int i) := fun B => .int i
theorem de_glob {x : Str} {v : V} {u : Value} (hm : X.mg x = some u) (r : RelV v u) (hv : DvK X.K v d) (hg : Gl X x := by rfl) (hd : (x == ("__debug__" : Str)) = false := by decide) : DE X (.Name x pos) ρ O d :=
  .mk (pe_glob hg hm r hd) fun S Q q => q _ _ _ (Gr.refl S.bh) (hv _)
/-! ### displays -/
theorem da_nil : DA X [] ρ O [] := fun H0 B H σ Q S q => wA_of pa_nil (q [] B H (Gr.refl S.bh) .nil)
theorem da_cons {ds : List PD} (ha : DE X e ρ O d) (hr : DA X es ρ O ds) (hs : starEach (e :: es) X.env = (false, eval e X.env) :: starEach es X.env := by rfl) : DA X (e :: es) ρ O (d :: ds) := fun H0 B H σ Q S q =>
  wA_of (pa_cons (pwE e) (pwA es) hs) (ha H0 B H σ _ S fun v B1 H1 g dv => hr H0 B1 H1 σ _ (S.gr g) fun vs B2 H2 g2 dvs => q _ _ _ (g.trans g2) (.cons (dv.mono g2.b) dvs))
theorem sz_ok {n : Nat} (h : n ≤ 1000000) : n ≤ sizeLine := by rw [sizeLine_eq]; omega
theorem de_tup {ds : List PD} {k} (ha : DA X es ρ O ds) (hl : ds.length ≤ 1000000 := by exact Nat.le_of_ble_eq_true rfl) : DE X (.Tuple es k pos) ρ O (.tuple ds) := .mk (pe_tup (pwA es)) fun S Q q =>
  ha _ _ _ _ _ S fun vs B1 H1 g dvs => ⟨by rw [dvs.length]; exact sz_ok hl, fun p hp => q _ _ _ (g.trans (Gr.new g.bh hp)) (.tup (SqT.of upd_same) (dvs.mono (same_new (g.bh.free hp))))⟩
theorem de_lst {ds : List PD} (ha : DA X es ρ O ds) (hl : ds.length ≤ 1000000 := by exact Nat.le_of_ble_eq_true rfl) : DE X (.List es pos) ρ O (.list ds) := .mk (pe_lst (pwA es)) fun S Q q =>
  ha _ _ _ _ _ S fun vs B1 H1 g dvs => ⟨by rw [dvs.length]; exact sz_ok hl, fun p hp => q _ _ _ (g.trans (Gr.new g.bh hp)) (.lst upd_same (dvs.mono (same_new (g.bh.free hp))))⟩

/-! ### two-place operations -/
/-- the reading r of values makes d of data d1, d2 -/
def OpD (K : PySem.W.Frag) (r : R2) (d1 d2 d : PD) : Prop := ∀ (B H : Hp) (x y : V) (Q : VK), Same B H → Dv K B x d1 → Dv K B y d2 → (∀ v B' H', Gr B H B' H' → Dv K B' v d → Q v H') → r x y H Q
theorem op_use {r : R2} {B H : Hp} {σ : L2.St} {H0 : Hp} {Q : VK} (ha : DE X a ρ O d1) (hb : DE X b ρ O d2) (hr : OpD X.K r d1 d2 d) (S : Sl X.K H0 B H σ ρ O) (q : ∀ v B' H', Gr B H B' H' → Dv X.K B' v d → Q v H') : tOp r (wE X a) (wE X b) σ H Q :=
  ha _ _ _ _ _ S fun x B1 H1 g1 dx => hb _ _ _ _ _ (S.gr g1) fun y B2 H2 g2 dy => hr B2 H2 x y Q g2.bh (dx.mono g2.b) dy fun v B3 H3 g3 dv => q v B3 H3 (g1.trans (g2.trans g3)) dv
theorem de_op {op : Operator} {r : R2} (ho : OpR X (binaryOp op) r) (ha : DE X a ρ O d1) (hb : DE X b ρ O d2) (hr : OpD X.K r d1 d2 d) : DE X (.BinOp a op b pos) ρ O d :=
  .mk (pe_op ho (pwE a) (pwE b)) fun S Q q => op_use ha hb hr S q
theorem de_cmp {op : CmpOp} {r : R2} (ho : OpR X (compareOp op) r) (ha : DE X a ρ O d1) (hb : DE X b ρ O d2) (hr : OpD X.K r d1 d2 d) (hm : behindInMarks op b = false := by first | exact nomark _ | rfl) : DE X (.Compare a [op] [b] pos) ρ O d :=
  .mk (pe_cmpR ho (pwE a) (pwE b) hm) fun S Q q => op_use ha hb hr S q
theorem dt_cmp {op : CmpOp} {r : R2} {k : Bool} (ho : OpR X (compareOp op) r) (ha : DE X a ρ O d1) (hb : DE X b ρ O d2) (hr : OpD X.K r d1 d2 (.bool k)) (hm : behindInMarks op b = false := by first | exact nomark _ | rfl) : DT X (.Compare a [op] [b] pos) ρ O k :=
  .mk (pt_cmpR ho (pwE a) (pwE b) hm) fun S Q q => op_use ha hb hr S fun v B' H' g dv => ⟨k, dv.bl_, q _ _ g⟩
theorem de_ix {r : R2} (hr : IxR X r) (ha : DE X a ρ O d1) (hb : DE X b ρ O d2) (h : OpD X.K r d1 d2 d) (hs : PlainIx b := by intro _ _; rfl) : DE X (.Subscript a b pos) ρ O d :=
  .mk (pe_ix hr (pwE a) (pwE b) hs) fun S Q q => op_use ha hb h S q
theorem OpD.keep {K : PySem.W.Frag} {r : R2} (h : ∀ (B H : Hp) (x y : V) (Q : VK), Same B H → Dv K B x d1 → Dv K B y d2 → (∀ v, Dv K B v d → Q v H) → r x y H Q) : OpD K r d1 d2 d := fun B H x y Q s dx dy q => h B H x y Q s dx dy fun v dv => q v B H (Gr.refl s) dv
theorem od_int {K : PySem.W.Frag} {g : Int → Int → V} {i j : Int} (h : DvK K (g i j) d) : OpD K (rI0 g) (.int i) (.int j) d := .keep fun B H x y Q s dx dy q => ⟨i, j, dx.int_, dy.int_, q _ (h B)⟩
theorem od_intC {K : PySem.W.Frag} {C : Int → Int → Prop} {g : Int → Int → V} {i j : Int} (hc : C i j) (h : DvK K (g i j) d) : OpD K (rI C g) (.int i) (.int j) d := .keep fun B H x y Q s dx dy q => ⟨i, j, dx.int_, dy.int_, hc, q _ (h B)⟩
theorem DvK.bl {K : PySem.W.Frag} (k : Bool) : DvK K (.bl k) (.bool k) := fun B => .bl k
theorem DvK.str {K : PySem.W.Frag} (x : Str) : DvK K (.str x) (.str x) := fun B => .str x
theorem de_add {i j : Int} (ha : DE X a ρ O (.int i)) (hb : DE X b ρ O (.int j)) : DE X (.BinOp a .Add b pos) ρ O (.int (i + j)) := de_op op_add ha hb (od_int (.int _))
theorem de_sub {i j : Int} (ha : DE X a ρ O (.int i)) (hb : DE X b ρ O (.int j)) : DE X (.BinOp a .Sub b pos) ρ O (.int (i - j)) := de_op op_sub ha hb (od_int (.int _))
theorem de_mul {i j : Int} (ha : DE X a ρ O (.int i)) (hb : DE X b ρ O (.int j)) (hc : CMul i j) : DE X (.BinOp a .Mult b pos) ρ O (.int (i * j)) := de_op op_mul ha hb (od_intC hc (.int _))
theorem de_div {i j : Int} (ha : DE X a ρ O (.int i)) (hb : DE X b ρ O (.int j)) (hc : CDiv i j) : DE X (.BinOp a .FloorDiv b pos) ρ O (.int (i / j)) := de_op op_fdiv ha hb (od_intC hc (.int _))
theorem de_mod {i j : Int} (ha : DE X a ρ O (.int i)) (hb : DE X b ρ O (.int j)) (hc : 0 < j) : DE X (.BinOp a .Mod b pos) ρ O (.int (i % j)) := de_op op_mod ha hb (od_intC hc (.int _))
theorem de_pow {i j : Int} (ha : DE X a ρ O (.int i)) (hb : DE X b ρ O (.int j)) (hc : CPow i j) : DE X (.BinOp a .Pow b pos) ρ O (.int (i ^ j.toNat)) := de_op op_pow ha hb (od_intC hc (.int _))
theorem de_addS {x y : Str} (ha : DE X a ρ O (.str x)) (hb : DE X b ρ O (.str y)) (hl : x.length + y.length ≤ 1000000) : DE X (.BinOp a .Add b pos) ρ O (.str (x ++ y)) :=
  de_op op_add_str ha hb (.keep fun B H u v Q s dx dy q => ⟨x, y, dx.str_, dy.str_, sz_ok hl, q _ (.str _)⟩)
theorem de_addT {xs ys : List PD} (ha : DE X a ρ O (.tuple xs)) (hb : DE X b ρ O (.tuple ys)) (hl : xs.length + ys.length ≤ 1000000) : DE X (.BinOp a .Add b pos) ρ O (.tuple (xs ++ ys)) :=
  de_op op_catA ha hb fun B H u v Q s dx dy q => by
    obtain ⟨p1, us, rfl, s1, a1⟩ := dx.tup_
    obtain ⟨p2, vs, rfl, s2, a2⟩ := dy.tup_
    refine ⟨p1, p2, us, vs, rfl, rfl, same_tup s s1, same_tup s s2, by rw [a1.length, a2.length]; exact sz_ok hl, fun e1 => ?_, fun e1 e2 => ?_, fun e1 e2 p hp => ?_⟩
    · subst e1
      cases a1
      exact q _ _ _ (Gr.refl s) (.tup s2 a2)
    · subst e2
      cases a2
      rw [List.append_nil] at q
      exact q _ _ _ (Gr.refl s) (.tup s1 a1)
    · exact q _ _ _ (Gr.new s hp) (.tup (SqT.of upd_same) ((a1.app a2).mono (same_new (s.free hp))))
theorem de_addL {xs ys : List PD} (ha : DE X a ρ O (.list xs)) (hb : DE X b ρ O (.list ys)) (hl : xs.length + ys.length ≤ 1000000) : DE X (.BinOp a .Add b pos) ρ O (.list (xs ++ ys)) :=
  de_op op_cat ha hb fun B H u v Q s dx dy q => by
    obtain ⟨p1, us, rfl, s1, a1⟩ := dx.lst_
    obtain ⟨p2, vs, rfl, s2, a2⟩ := dy.lst_
    exact ⟨p1, p2, us, vs, rfl, rfl, s _ _ s1, s _ _ s2, by rw [a1.length, a2.length]; exact sz_ok hl, fun p hp => q _ _ _ (Gr.new s hp) (.lst upd_same ((a1.app a2).mono (same_new (s.free hp))))⟩
theorem de_neg {i : Int} (ha : DE X a ρ O (.int i)) : DE X (.UnaryOp .USub a pos) ρ O (.int (-i)) := .mk (pe_un un_neg (pwE a)) fun S Q q => ha _ _ _ _ _ S fun x B1 H1 g dx => ⟨i, dx.int_, q _ _ _ g (.int _)⟩
/-! ### comparisons -/
theorem od_lt {K : PySem.W.Frag} {i j : Int} : OpD K (rI0 fun i j => .bl (decide (i < j))) (.int i) (.int j) (.bool (decide (i < j))) := od_int (.bl _)
theorem od_le {K : PySem.W.Frag} {i j : Int} : OpD K (rI0 fun i j => .bl (decide (i ≤ j))) (.int i) (.int j) (.bool (decide (i ≤ j))) := od_int (.bl _)
theorem od_gt {K : PySem.W.Frag} {i j : Int} : OpD K (rI0 fun i j => .bl (decide (j < i))) (.int i) (.int j) (.bool (decide (j < i))) := od_int (.bl _)
theorem od_ge {K : PySem.W.Frag} {i j : Int} : OpD K (rI0 fun i j => .bl (decide (j ≤ i))) (.int i) (.int j) (.bool (decide (j ≤ i))) := od_int (.bl _)
/-- x < y of texts -/
def sLt (x y : Str) : Bool := decide (x.cps.toList < y.cps.toList)
theorem od_ltS {K : PySem.W.Frag} {x y : Str} : OpD K (fun x y H Q => ∃ i j, x = .str i ∧ y = .str j ∧ Q (.bl (decide (i.cps.toList < j.cps.toList))) H) (.str x) (.str y) (.bool (sLt x y)) := .keep fun B H u v Q s dx dy q => ⟨x, y, dx.str_, dy.str_, q _ (.bl _)⟩
/-- data that == tells apart without a look into the heap -/
def isSc : PD → PD → Bool
  | .none, .none => true | .none, .int _ => true | .int _, .none => true | .none, .str _ => true | .str _, .none => true | .int _, .int _ => true | .str _, .str _ => true | .int _, .str _ => true | .str _, .int _ => true
  | .bool _, .bool _ => true
  | _, _ => false
def eqOk (d e : PD) : Bool := isSc d e || (SeqAt.shaped d && SeqAt.shaped e)
theorem sc_eq {K : PySem.W.Frag} {B : Hp} {x y : V} (h : isSc d1 d2 = true) (dx : Dv K B x d1) (dy : Dv K B y d2) : scal x y = true ∧ decide (x = y) = PyData.eqv d1 d2 := by
  cases dx <;> cases dy <;> first | (refine ⟨rfl, ?_⟩; first | (rw [dec_bl]; rfl) | (rw [dec_int]; rfl) | (rw [dec_str]; rfl) | rfl) | cases h
/-- == of data -/
def rEqA (K : PySem.W.Frag) : R2 := fun x y H Q => rEq x y H Q ∨ rEqD K x y H Q
def rNeA (K : PySem.W.Frag) : R2 := fun x y H Q => rNe x y H Q ∨ rNeD K x y H Q
theorem op_eqA (hu : X.A.units + 64 < cLine) : OpR X (compareOp .Eq) (rEqA X.K) := op_eq.or (op_eqD hu)
theorem op_neA (hu : X.A.units + 64 < cLine) : OpR X (compareOp .NotEq) (rNeA X.K) := op_ne.or (op_neD hu)
theorem od_eq {K : PySem.W.Frag} (h : eqOk d1 d2 = true) : OpD K (rEqA K) d1 d2 (.bool (PyData.eqv d1 d2)) := .keep fun B H x y Q s dx dy q => by
  rcases Bool.or_eq_true_iff.mp h with h | h
  · obtain ⟨e1, e2⟩ := sc_eq h dx dy
    exact .inl ⟨e1, by rw [e2]; exact q _ (.bl _)⟩
  · obtain ⟨h1, h2⟩ := Bool.and_eq_true_iff.mp h
    exact .inr ⟨d1, d2, (dx.mono s).dp (SeqAt.canLay_of_shaped h1), (dy.mono s).dp (SeqAt.canLay_of_shaped h2), h1, h2, q _ (.bl _)⟩
theorem od_ne {K : PySem.W.Frag} (h : eqOk d1 d2 = true) : OpD K (rNeA K) d1 d2 (.bool (!PyData.eqv d1 d2)) := .keep fun B H x y Q s dx dy q => by
  rcases Bool.or_eq_true_iff.mp h with h | h
  · obtain ⟨e1, e2⟩ := sc_eq h dx dy
    exact .inl ⟨e1, by rw [e2]; exact q _ (.bl _)⟩
  · obtain ⟨h1, h2⟩ := Bool.and_eq_true_iff.mp h
    exact .inr ⟨d1, d2, (dx.mono s).dp (SeqAt.canLay_of_shaped h1), (dy.mono s).dp (SeqAt.canLay_of_shaped h2), h1, h2, q _ (.bl _)⟩
def isNonD : PD → Bool
  | .none => true
  | _ => false
theorem od_isN {K : PySem.W.Frag} : OpD K (fun x y H Q => y = .non ∧ Q (.bl (decide (x = .non))) H) d1 .none (.bool (isNonD d1)) := .keep fun B H x y Q s dx dy q => by
  refine ⟨dy.non_, ?_⟩
  have e : decide (x = V.non) = isNonD d1 := by cases dx <;> rfl
  rw [e]
  exact q _ (.bl _)
theorem od_notN {K : PySem.W.Frag} : OpD K (fun x y H Q => y = .non ∧ Q (.bl (!decide (x = .non))) H) d1 .none (.bool (!isNonD d1)) := .keep fun B H x y Q s dx dy q => by
  refine ⟨dy.non_, ?_⟩
  have e : decide (x = V.non) = isNonD d1 := by cases dx <;> rfl
  rw [e]
  exact q _ (.bl _)
/-- x in xs, of texts -/
theorem inV_strs (x : Str) : ∀ ys : List Str, inV (.str x) (ys.map V.str) = ys.any fun y => y == x
  | [] => rfl
  | y :: r => by
    have ih := inV_strs x r
    unfold inV at ih ⊢
    rw [List.map_cons, List.any_cons, List.any_cons, ih]
    simp [eqV]
theorem DvA.strs {K : PySem.W.Frag} {H : Hp} : ∀ {vs : List V} {ys : List Str}, DvA K H vs (ys.map PyData.str) → vs = ys.map V.str
  | [], [], _ => rfl
  | [], _ :: _, h => by cases h
  | _ :: _, [], h => by cases h
  | v :: vs, y :: ys, h => by
    cases h with
    | cons h1 h2 =>
      rw [h1.str_, h2.strs]
      rfl
theorem od_inT {K : PySem.W.Frag} {x : Str} {ys : List Str} : OpD K (rIn K false) (.str x) (.tuple (ys.map PyData.str)) (.bool (ys.any fun y => y == x)) := .keep fun B H u v Q s dx dy q => by
  obtain ⟨p, us, rfl, s1, a1⟩ := dy.tup_
  have e := a1.strs
  subst e
  refine ⟨p, _, rfl, .inr (same_tup s s1), by rw [dx.str_]; rfl, flat_strs ys, ?_⟩
  rw [dx.str_]
  simp only [Bool.false_eq_true, if_false, inV_strs]
  exact q _ (.bl _)
theorem od_inL {K : PySem.W.Frag} {x : Str} {ys : List Str} : OpD K (rIn K false) (.str x) (.list (ys.map PyData.str)) (.bool (ys.any fun y => y == x)) := .keep fun B H u v Q s dx dy q => by
  obtain ⟨p, us, rfl, s1, a1⟩ := dy.lst_
  have e := a1.strs
  subst e
  refine ⟨p, _, rfl, .inl (SqL.of (s _ _ s1)), by rw [dx.str_]; rfl, flat_strs ys, ?_⟩
  rw [dx.str_]
  simp only [Bool.false_eq_true, if_false, inV_strs]
  exact q _ (.bl _)
end
end K5
end PartDL2
section PartDL3
set_option maxRecDepth 100000
set_option maxHeartbeats 4000000
/-! The data layer: subscripts, slices, built-in calls, calls of own defs, and/or/not. -/
namespace K5
open PySem PySem.Spec PyProof.Rows L2
section
variable {X : Cx} {ρ : Rho} {O : Own} {d d1 d2 d3 : PD} {a b c e : Expr} {es : List Expr} {pos p : Pos}
/-! ### subscripts -/
theorem DvA.atI {K : PySem.W.Frag} {H : Hp} {vs : List V} {ds : List PD} {i : Int} (h : DvA K H vs ds) (e : L2.atI ds i = some d) : ∃ v, L2.atI vs i = some v ∧ Dv K H v d := by
  unfold L2.atI at e ⊢
  rw [h.length]
  cases q : ixN ds.length i with
  | none =>
    rw [q] at e
    cases e
  | some j =>
    rw [q] at e
    exact h.get e
theorem od_ixT {K : PySem.W.Frag} {ds : List PD} {i : Int} (h : L2.atI ds i = some d) : OpD K (rIx K) (.tuple ds) (.int i) d := .keep fun B H x y Q s dx dy q => by
  obtain ⟨p, us, rfl, s1, a1⟩ := dx.tup_
  obtain ⟨v, e1, e2⟩ := a1.atI h
  exact .inr (.inl ⟨p, us, i, v, rfl, dy.int_, same_tup s s1, e1, q v e2⟩)
theorem od_ixL {K : PySem.W.Frag} {ds : List PD} {i : Int} (h : L2.atI ds i = some d) : OpD K (rIx K) (.list ds) (.int i) d := .keep fun B H x y Q s dx dy q => by
  obtain ⟨p, us, rfl, s1, a1⟩ := dx.lst_
  obtain ⟨v, e1, e2⟩ := a1.atI h
  exact .inl ⟨p, us, i, v, rfl, dy.int_, SqL.of (s _ _ s1), e1, q v e2⟩
/-- the script, locked -/
def scrD (ns : List Int) : PD := .dict (ns.map fun n => (.int n, .none))
theorem Dv.scr_ {K : PySem.W.Frag} {H : Hp} {v : V} {ns : List Int} (h : Dv K H v (scrD ns)) : ∃ a, v = .ref a ∧ SqL K H a (ns.map V.int) := by
  unfold scrD at h
  generalize e : ns.map (fun n => ((PyData.int n, PyData.none) : PyData × PyData)) = l at h
  cases h with
  | scr s =>
    rename_i a ns'
    have z : ns = ns' := by
      clear s
      induction ns generalizing ns' with
      | nil => cases ns' with
        | nil => rfl
        | cons _ _ => cases e
      | cons x r ih => cases ns' with
        | nil => cases e
        | cons y r' =>
          simp only [List.map_cons, List.cons.injEq, Prod.mk.injEq, PyData.int.injEq, and_true] at e
          rw [e.1, ih e.2]
    subst z
    exact ⟨a, rfl, s⟩
theorem od_ixS {K : PySem.W.Frag} {ns : List Int} {i n : Int} (h : L2.atI ns i = some n) : OpD K (rIx K) (scrD ns) (.int i) (.int n) := .keep fun B H x y Q s dx dy q => by
  obtain ⟨p, rfl, s1⟩ := dx.scr_
  refine .inl ⟨p, ns.map V.int, i, .int n, rfl, dy.int_, s.seq s1, ?_, q _ (.int n)⟩
  unfold L2.atI at h ⊢
  rw [List.length_map]
  cases e : ixN ns.length i with
  | none =>
    rw [e] at h
    cases h
  | some j =>
    rw [e] at h
    have h' : ns[j]? = some n := h
    show (ns.map V.int)[j]? = some (.int n)
    rw [List.getElem?_map, h']
    rfl
theorem de_ixT {ds : List PD} {i : Int} (ha : DE X a ρ O (.tuple ds)) (hb : DE X b ρ O (.int i)) (h : L2.atI ds i = some d) (hs : PlainIx b := by intro _ _; rfl) : DE X (.Subscript a b pos) ρ O d := de_ix ix_seq ha hb (od_ixT h) hs
theorem de_ixL {ds : List PD} {i : Int} (ha : DE X a ρ O (.list ds)) (hb : DE X b ρ O (.int i)) (h : L2.atI ds i = some d) (hs : PlainIx b := by intro _ _; rfl) : DE X (.Subscript a b pos) ρ O d := de_ix ix_seq ha hb (od_ixL h) hs
theorem de_ixS {ns : List Int} {i n : Int} (ha : DE X a ρ O (scrD ns)) (hb : DE X b ρ O (.int i)) (h : L2.atI ns i = some n) (hs : PlainIx b := by intro _ _; rfl) : DE X (.Subscript a b pos) ρ O (.int n) := de_ix ix_seq ha hb (od_ixS h) hs
/-! ### slices -/
def PoD (X : Cx) (lo : Option Expr) (ρ : Rho) (O : Own) (o : Option Int) : Prop := ∃ tl, PO X lo tl ∧ ∀ (H0 B H : Hp) (σ : L2.St) (Q : Option Int → Hp → Prop), Sl X.K H0 B H σ ρ O → (∀ B' H', Gr B H B' H' → Q o H') → tl σ H Q
theorem po_n : PoD X none ρ O none := ⟨_, po_none, fun H0 B H σ Q S q => q B H (Gr.refl S.bh)⟩
theorem po_s {i : Int} (h : DE X e ρ O (.int i)) : PoD X (some e) ρ O (some i) := ⟨_, po_some (pwE e), fun H0 B H σ Q S q => h _ _ _ _ _ S fun v B1 H1 g dv => ⟨i, dv.int_, q B1 H1 g⟩⟩
/-- the items between two places -/
def cutD (ds : List PD) (lo hi : Option Int) : List PD := (ds.drop (HT.sIx ds.length 0 lo)).take (HT.sIx ds.length ds.length hi - HT.sIx ds.length 0 lo)
theorem DvA.cut {K : PySem.W.Frag} {H : Hp} {vs : List V} {ds : List PD} (lo hi : Option Int) (h : DvA K H vs ds) : DvA K H (cutV vs lo hi) (cutD ds lo hi) := by
  unfold cutV cutD
  rw [h.length]
  exact (h.drop _).take _
theorem cut_whole {ds : List PD} {lo hi : Option Int} (h : HT.sIx ds.length 0 lo = 0 ∧ HT.sIx ds.length ds.length hi = ds.length) : cutD ds lo hi = ds := by
  unfold cutD
  rw [h.1, h.2, List.drop_zero, Nat.sub_zero, List.take_length]
theorem de_slT {ds : List PD} {lo hi : Option Expr} {l u : Option Int} {p2 : Pos} (ha : DE X a ρ O (.tuple ds)) (hl : PoD X lo ρ O l) (hu : PoD X hi ρ O u) : DE X (.Subscript a (.Slice lo hi none p2) pos) ρ O (.tuple (cutD ds l u)) := by
  obtain ⟨tl, pl, ql⟩ := hl
  obtain ⟨tu, pu, qu⟩ := hu
  refine .mk (pe_slice sl_tupA (pwE a) pl pu) fun S Q q => ha _ _ _ _ _ S fun x B1 H1 g1 dx => ql _ _ _ _ _ (S.gr g1) fun B2 H2 g2 => qu _ _ _ _ _ ((S.gr g1).gr g2) fun B3 H3 g3 => ?_
  obtain ⟨a', us, rfl, s1, a1⟩ := dx.tup_
  have g23 := g2.trans g3
  have a3 := a1.mono g23.b
  have gg := g1.trans g23
  refine ⟨a', us, rfl, same_tup g23.bh (same_tup g23.b s1), fun w => ?_, fun w p hp => ?_⟩
  · rw [a1.length] at w
    rw [cut_whole w] at q
    exact q _ _ _ gg (.tup (same_tup g23.b s1) a3)
  · exact q _ _ _ (gg.trans (Gr.new gg.bh hp)) (.tup (SqT.of upd_same) ((a3.cut l u).mono (same_new (gg.bh.free hp))))
theorem de_slL {ds : List PD} {lo hi : Option Expr} {l u : Option Int} {p2 : Pos} (ha : DE X a ρ O (.list ds)) (hl : PoD X lo ρ O l) (hu : PoD X hi ρ O u) : DE X (.Subscript a (.Slice lo hi none p2) pos) ρ O (.list (cutD ds l u)) := by
  obtain ⟨tl, pl, ql⟩ := hl
  obtain ⟨tu, pu, qu⟩ := hu
  refine .mk (pe_slice sl_list (pwE a) pl pu) fun S Q q => ha _ _ _ _ _ S fun x B1 H1 g1 dx => ql _ _ _ _ _ (S.gr g1) fun B2 H2 g2 => qu _ _ _ _ _ ((S.gr g1).gr g2) fun B3 H3 g3 => ?_
  obtain ⟨a', us, rfl, s1, a1⟩ := dx.lst_
  have g23 := g2.trans g3
  have a3 := a1.mono g23.b
  have gg := g1.trans g23
  exact ⟨a', us, rfl, SqL.of (g23.bh _ _ (g23.b _ _ s1)), fun p hp => q _ _ _ (gg.trans (Gr.new gg.bh hp)) (.lst upd_same ((a3.cut l u).mono (same_new (gg.bh.free hp))))⟩
/-! ### calls of built-ins -/
def CallD (K : PySem.W.Frag) (r : List V → Hp → VK → Prop) (ds : List PD) (d : PD) : Prop := ∀ (B H : Hp) (xs : List V) (Q : VK), Same B H → DvA K B xs ds → (∀ v B' H', Gr B H B' H' → Dv K B' v d → Q v H') → r xs H Q
theorem de_callB {ds : List PD} {x : Str} {id : String} {r : List V → Hp → VK → Prop} (hc : CallR X (.builtin id) r) (hm : X.mg x = none) (hv : bootBuiltins x = some (.builtin id)) (ha : DA X (e :: es) ρ O ds) (hr : CallD X.K r ds d) (hg : Gl X x := by rfl) (hn : x ≠ "__name__" := by decide) (hdb : (x == ("__debug__" : Str)) = false := by decide)
    (he : starEach (e :: es) X.env = (false, eval e X.env) :: starEach es X.env := by rfl) (hpl : (backTo pos (starEach es X.env)).any (·.1) = false := by rfl) : DE X (.Call (.Name x p) (e :: es) [] pos) ρ O d :=
  .mk (pe_callB hc hg hm hv (pwA _) hn hdb he hpl) fun S Q q => ha _ _ _ _ _ S fun vs B1 H1 g1 dvs => hr _ _ _ _ g1.bh dvs fun v B2 H2 g2 dv => q v _ _ (g1.trans g2) dv
theorem de_callTy {ds : List PD} {x : Str} {id : String} {r : List V → Hp → VK → Prop} (hc : CallR X (.type id) r) (hm : X.mg x = none) (hv : bootBuiltins x = some (.type id)) (ha : DA X (e :: es) ρ O ds) (hr : CallD X.K r ds d) (hg : Gl X x := by rfl) (hn : x ≠ "__name__" := by decide) (hdb : (x == ("__debug__" : Str)) = false := by decide)
    (he : starEach (e :: es) X.env = (false, eval e X.env) :: starEach es X.env := by rfl) (hpl : (backTo pos (starEach es X.env)).any (·.1) = false := by rfl) : DE X (.Call (.Name x p) (e :: es) [] pos) ρ O d :=
  .mk (pe_callTy hc hg hm hv (pwA _) hn hdb he hpl) fun S Q q => ha _ _ _ _ _ S fun vs B1 H1 g1 dvs => hr _ _ _ _ g1.bh dvs fun v B2 H2 g2 dv => q v _ _ (g1.trans g2) dv
/-- the built-ins that the program does not bind -/
structure Blt (mg : Str → Option Value) : Prop where
  len : mg "len" = none
  int : mg "int" = none
  abs : mg "abs" = none
  isi : mg "isinstance" = none
  tuple : mg "tuple" = none
  list : mg "list" = none
  all : mg "all" = none
  sorted : mg "sorted" = none
  range : mg "range" = none
  bool : mg "bool" = none
  str : mg "str" = none
theorem boot_int : bootBuiltins "int" = some (.type "int") := by decide +kernel
theorem boot_tuple : bootBuiltins "tuple" = some (.type "tuple") := by decide +kernel
theorem boot_list : bootBuiltins "list" = some (.type "list") := by decide +kernel
theorem boot_bool : bootBuiltins "bool" = some (.type "bool") := by decide +kernel
theorem boot_str : bootBuiltins "str" = some (.type "str") := by decide +kernel
theorem boot_len : bootBuiltins "len" = some (.builtin "len") := by decide +kernel
theorem boot_abs : bootBuiltins "abs" = some (.builtin "abs") := by decide +kernel
theorem boot_isi : bootBuiltins "isinstance" = some (.builtin "isinstance") := by decide +kernel
theorem boot_all : bootBuiltins "all" = some (.builtin "all") := by decide +kernel
theorem boot_sorted : bootBuiltins "sorted" = some (.builtin "sorted") := by decide +kernel
theorem de_lenT {ds : List PD} (M : Blt X.mg) (ha : DE X a ρ O (.tuple ds)) (hg : Gl X "len" := by rfl) (he : starEach [a] X.env = [(false, eval a X.env)] := by rfl) : DE X (.Call (.Name "len" p) [a] [] pos) ρ O (.int (ds.length : Int)) :=
  de_callB call_len M.len boot_len (da_cons ha da_nil he) (fun B H xs Q s dvs q => by
    obtain ⟨v, rfl, dv⟩ := dvs.one_
    obtain ⟨a', us, rfl, s1, a1⟩ := dv.tup_
    exact ⟨_, ds.length, rfl, .inr ⟨us, same_tup s s1, a1.length.symm⟩, q _ _ _ (Gr.refl s) (.int _)⟩) hg (by decide) (by decide) he rfl
theorem de_lenL {ds : List PD} (M : Blt X.mg) (ha : DE X a ρ O (.list ds)) (hg : Gl X "len" := by rfl) (he : starEach [a] X.env = [(false, eval a X.env)] := by rfl) : DE X (.Call (.Name "len" p) [a] [] pos) ρ O (.int (ds.length : Int)) :=
  de_callB call_len M.len boot_len (da_cons ha da_nil he) (fun B H xs Q s dvs q => by
    obtain ⟨v, rfl, dv⟩ := dvs.one_
    obtain ⟨a', us, rfl, s1, a1⟩ := dv.lst_
    exact ⟨_, ds.length, rfl, .inl ⟨us, SqL.of (s _ _ s1), a1.length.symm⟩, q _ _ _ (Gr.refl s) (.int _)⟩) hg (by decide) (by decide) he rfl
theorem de_lenS {ns : List Int} (M : Blt X.mg) (ha : DE X a ρ O (scrD ns)) (hg : Gl X "len" := by rfl) (he : starEach [a] X.env = [(false, eval a X.env)] := by rfl) : DE X (.Call (.Name "len" p) [a] [] pos) ρ O (.int (ns.length : Int)) :=
  de_callB call_len M.len boot_len (da_cons ha da_nil he) (fun B H xs Q s dvs q => by
    obtain ⟨v, rfl, dv⟩ := dvs.one_
    obtain ⟨a', rfl, s1⟩ := dv.scr_
    exact ⟨_, ns.length, rfl, .inl ⟨_, s.seq s1, by rw [List.length_map]⟩, q _ _ _ (Gr.refl s) (.int _)⟩) hg (by decide) (by decide) he rfl
theorem de_intI {i : Int} (M : Blt X.mg) (ha : DE X a ρ O (.int i)) (hg : Gl X "int" := by rfl) (he : starEach [a] X.env = [(false, eval a X.env)] := by rfl) : DE X (.Call (.Name "int" p) [a] [] pos) ρ O (.int i) :=
  de_callTy call_int1 M.int boot_int (da_cons ha da_nil he) (fun B H xs Q s dvs q => by
    obtain ⟨v, rfl, dv⟩ := dvs.one_
    rw [dv.int_]
    exact .inl ⟨i, rfl, q _ _ _ (Gr.refl s) (.int _)⟩) hg (by decide) (by decide) he rfl
theorem de_intB {k : Bool} (M : Blt X.mg) (ha : DE X a ρ O (.bool k)) (hg : Gl X "int" := by rfl) (he : starEach [a] X.env = [(false, eval a X.env)] := by rfl) : DE X (.Call (.Name "int" p) [a] [] pos) ρ O (.int (if k then 1 else 0)) :=
  de_callTy call_int1 M.int boot_int (da_cons ha da_nil he) (fun B H xs Q s dvs q => by
    obtain ⟨v, rfl, dv⟩ := dvs.one_
    rw [dv.bl_]
    exact .inr ⟨k, rfl, q _ _ _ (Gr.refl s) (.int _)⟩) hg (by decide) (by decide) he rfl
theorem de_abs {i : Int} (M : Blt X.mg) (ha : DE X a ρ O (.int i)) (hg : Gl X "abs" := by rfl) (he : starEach [a] X.env = [(false, eval a X.env)] := by rfl) : DE X (.Call (.Name "abs" p) [a] [] pos) ρ O (.int (if i < 0 then -i else i)) :=
  de_callB call_abs M.abs boot_abs (da_cons ha da_nil he) (fun B H xs Q s dvs q => by
    obtain ⟨v, rfl, dv⟩ := dvs.one_
    rw [dv.int_]
    exact ⟨i, rfl, q _ _ _ (Gr.refl s) (.int _)⟩) hg (by decide) (by decide) he rfl
theorem de_tupleL {ds : List PD} (M : Blt X.mg) (ha : DE X a ρ O (.list ds)) (hg : Gl X "tuple" := by rfl) (he : starEach [a] X.env = [(false, eval a X.env)] := by rfl) : DE X (.Call (.Name "tuple" p) [a] [] pos) ρ O (.tuple ds) :=
  de_callTy call_tuple_of M.tuple boot_tuple (da_cons ha da_nil he) (fun B H xs Q s dvs q => by
    obtain ⟨v, rfl, dv⟩ := dvs.one_
    obtain ⟨a', us, rfl, s1, a1⟩ := dv.lst_
    exact ⟨a', us, rfl, .inl ⟨SqL.of (s _ _ s1), fun l hl => q _ _ _ (Gr.new s hl) (.tup (SqT.of upd_same) (a1.mono (same_new (s.free hl))))⟩⟩) hg (by decide) (by decide) he rfl
theorem de_listL {ds : List PD} (M : Blt X.mg) (ha : DE X a ρ O (.list ds)) (hg : Gl X "list" := by rfl) (he : starEach [a] X.env = [(false, eval a X.env)] := by rfl) : DE X (.Call (.Name "list" p) [a] [] pos) ρ O (.list ds) :=
  de_callTy call_list_of M.list boot_list (da_cons ha da_nil he) (fun B H xs Q s dvs q => by
    obtain ⟨v, rfl, dv⟩ := dvs.one_
    obtain ⟨a', us, rfl, s1, a1⟩ := dv.lst_
    exact ⟨a', us, rfl, .inl (SqL.of (s _ _ s1)), fun l hl => q _ _ _ (Gr.new s hl) (.lst upd_same (a1.mono (same_new (s.free hl))))⟩) hg (by decide) (by decide) he rfl
theorem DvA.bls {K : PySem.W.Frag} {H : Hp} : ∀ {vs : List V} {ks : List Bool}, DvA K H vs (ks.map PyData.bool) → vs = ks.map V.bl
  | [], [], _ => rfl
  | [], _ :: _, h => by cases h
  | _ :: _, [], h => by cases h
  | v :: vs, y :: ys, h => by
    cases h with
    | cons h1 h2 =>
      rw [h1.bl_, h2.bls]
      rfl
theorem de_all {ks : List Bool} (hc : X.calm = true) (M : Blt X.mg) (ha : DE X a ρ O (.list (ks.map PyData.bool))) (hg : Gl X "all" := by rfl) (he : starEach [a] X.env = [(false, eval a X.env)] := by rfl) : DE X (.Call (.Name "all" p) [a] [] pos) ρ O (.bool (ks.all id)) :=
  de_callB (cr_all hc) M.all boot_all (da_cons ha da_nil he) (fun B H xs Q s dvs q => by
    obtain ⟨v, rfl, dv⟩ := dvs.one_
    obtain ⟨a', us, rfl, s1, a1⟩ := dv.lst_
    have e := a1.bls
    subst e
    exact ⟨a', ks, rfl, SqL.of (s _ _ s1), q _ _ _ (Gr.refl s) (.bl _)⟩) hg (by decide) (by decide) he rfl
/-! ### isinstance -/
def tyName : PD → String
  | .none => "NoneType" | .bool _ => "bool" | .int _ => "int" | .str _ => "str" | .tuple _ => "tuple" | .list _ => "list" | .dict _ => "list"
theorem ty_of {K : PySem.W.Frag} {B H : Hp} {v : V} (s : Same B H) (h : Dv K B v d) : TyX K H v (.type (tyName d)) := by
  cases h with
  | non => exact .base .non
  | bl k => exact .base (.bl k)
  | int i => exact .base (.int i)
  | str x => exact .base (.str x)
  | lst e _ => exact .base (.lst (s _ _ e))
  | tup e _ =>
    rcases same_tup s e with (e | ⟨o, e⟩) | ⟨o, its, n, e, c, _⟩
    · exact .base (.tup e)
    · exact .fTuple e
    · exact .kTuple e c
  | scr e =>
    rcases s.seq e with (e | ⟨o, e⟩) | ⟨o, its, n, e, c, _⟩
    · exact .base (.lst e)
    · exact .base (.frz e)
    · exact .kList e c
theorem de_isi {T : String} {x : Str} {k : Bool} {p2 : Pos} (M : Blt X.mg) (hx : X.mg x = none) (hb : bootBuiltins x = some (.type T)) (hk : kitB (tyName d) T = some k) (ha : DE X a ρ O d) (hg : Gl X "isinstance" := by rfl) (hgx : Gl X x := by rfl) (hn : x ≠ "__name__" := by decide) (hd : (x == ("__debug__" : Str)) = false := by decide)
    (he : starEach [a, .Name x p2] X.env = [(false, eval a X.env), (false, eval (.Name x p2) X.env)] := by rfl) : DE X (.Call (.Name "isinstance" p) [a, .Name x p2] [] pos) ρ O (.bool k) :=
  .mk (pe_callB call_isi hg M.isi boot_isi (pa_cons (pwE a) (pa_cons (pe_bltn (v := .ty T) hgx hx hb rfl hn hd) pa_nil (by rfl)) he) (by decide) (by decide) he rfl) fun S Q q => ha _ _ _ _ _ S fun v B1 H1 g1 dv =>
    ⟨v, .ty T, _, _, k, rfl, .ty T, ty_of g1.bh dv, kit_ty hk, q _ _ _ g1 (.bl k)⟩
/-! ### and, or, not -/
theorem dt_val {k : Bool} (ha : DE X e ρ O (.bool k)) (he : ∀ whole, isTrue e X.env whole = (do let v ← whole; standAt e.pos; holding [v] (truthy v)) := by intro _; rfl) : DT X e ρ O k :=
  .mk (pt_val (pwE e) he) fun S Q q => ha _ _ _ _ _ S fun v B1 H1 g1 dv => ⟨k, dv.bl_, q _ _ g1⟩
theorem dt_not {k : Bool} (ha : DT X e ρ O k) : DT X (.UnaryOp .Not e pos) ρ O (!k) := .mk (pt_not (pwT e)) fun S Q q => ha _ _ _ _ _ S fun B1 H1 g1 => q _ _ g1
theorem de_not {k : Bool} (ha : DE X e ρ O (.bool k)) : DE X (.UnaryOp .Not e pos) ρ O (.bool (!k)) := .mk (pe_not (pwE e)) fun S Q q => ha _ _ _ _ _ S fun v B1 H1 g1 dv => ⟨k, dv.bl_, q _ _ _ g1 (.bl _)⟩
theorem DW.dt {k : Bool} (h : DW X e ρ O k) : DT X e ρ O k := .mk (pwW e).pt fun S Q q => h _ _ _ _ _ S q
theorem dw_and1 {k : Bool} (ha : DT X a ρ O k) : DW X (.BoolOp .And [a] pos) ρ O k := .mk (pw_and1 (pwT a)) fun S Q q => ha _ _ _ _ _ S q
theorem dw_or1 {k : Bool} (ha : DT X a ρ O k) : DW X (.BoolOp .Or [a] pos) ρ O k := .mk (pw_or1 (pwT a)) fun S Q q => ha _ _ _ _ _ S q
theorem dw_and {k l : Bool} {rest : List Expr} (ha : DT X a ρ O k) (hb : k = true → DW X (.BoolOp .And (b :: rest) pos) ρ O l) : DW X (.BoolOp .And (a :: b :: rest) pos) ρ O (k && l) :=
  .mk (pw_and (pwT a) (pwW _)) fun S Q q => ha _ _ _ _ _ S fun B1 H1 g1 => by
    cases k with
    | false => exact q _ _ g1
    | true => exact hb rfl _ _ _ _ _ (S.gr g1) fun B2 H2 g2 => q _ _ (g1.trans g2)
theorem dw_or {k l : Bool} {rest : List Expr} (ha : DT X a ρ O k) (hb : k = false → DW X (.BoolOp .Or (b :: rest) pos) ρ O l) : DW X (.BoolOp .Or (a :: b :: rest) pos) ρ O (k || l) :=
  .mk (pw_or (pwT a) (pwW _)) fun S Q q => ha _ _ _ _ _ S fun B1 H1 g1 => by
    cases k with
    | true => exact q _ _ g1
    | false => exact hb rfl _ _ _ _ _ (S.gr g1) fun B2 H2 g2 => q _ _ (g1.trans g2)
theorem de_one {op} (ha : DE X a ρ O d) : DE X (.BoolOp op [a] pos) ρ O d := .mk (pe_one (pwE a)) fun S Q q => ha _ _ _ _ _ S q
theorem de_and {k l : Bool} {rest : List Expr} (ha : DE X a ρ O (.bool k)) (hb : k = true → DE X (.BoolOp .And (b :: rest) pos) ρ O (.bool l)) : DE X (.BoolOp .And (a :: b :: rest) pos) ρ O (.bool (k && l)) :=
  .mk (pe_and (pwE a) (pwE _)) fun S Q q => ha _ _ _ _ _ S fun v B1 H1 g1 dv => ⟨k, dv.bl_, by
    cases k with
    | false => exact q _ _ _ g1 (.bl _)
    | true => exact hb rfl _ _ _ _ _ (S.gr g1) fun v2 B2 H2 g2 dv2 => q _ _ _ (g1.trans g2) dv2⟩
theorem de_or {k l : Bool} {rest : List Expr} (ha : DE X a ρ O (.bool k)) (hb : k = false → DE X (.BoolOp .Or (b :: rest) pos) ρ O (.bool l)) : DE X (.BoolOp .Or (a :: b :: rest) pos) ρ O (.bool (k || l)) :=
  .mk (pe_or (pwE a) (pwE _)) fun S Q q => ha _ _ _ _ _ S fun v B1 H1 g1 dv => ⟨k, dv.bl_, by
    cases k with
    | true => exact q _ _ _ g1 (.bl _)
    | false => exact hb rfl _ _ _ _ _ (S.gr g1) fun v2 B2 H2 g2 dv2 => q _ _ _ (g1.trans g2) dv2⟩
/-- a <= b <= c of whole numbers -/
theorem de_le2 {i j k : Int} (ha : DE X a ρ O (.int i)) (hb : DE X b ρ O (.int j)) (hc : DE X c ρ O (.int k)) (hm : lastMarks [.LtE, .LtE] [b, c] = false := by with_unfolding_all rfl) : DE X (.Compare a [.LtE, .LtE] [b, c] pos) ρ O (.bool (decide (i ≤ j) && decide (j ≤ k))) :=
  .mk (pe_chain op_le op_le (pwE a) (pwE b) (pwE c) hm) fun S Q q => ha _ _ _ _ _ S fun v B1 H1 g1 dv => hb _ _ _ _ _ (S.gr g1) fun v2 B2 H2 g2 dv2 => ⟨i, j, dv.int_, dv2.int_, _, rfl, by
    cases e : decide (i ≤ j) with
    | false => exact q _ _ _ (g1.trans g2) (by rw [e]; exact .bl _)
    | true => exact hc _ _ _ _ _ ((S.gr g1).gr g2) fun v3 B3 H3 g3 dv3 => ⟨j, k, dv2.int_, dv3.int_, q _ _ _ (g1.trans (g2.trans g3)) (by rw [e]; exact .bl _)⟩⟩
end
/-! ### own defs -/
/-- what such a def promises: F of its arguments, on F's domain -/
def spF (K : PySem.W.Frag) (F : List PD → PD → Prop) : Sp := fun vs H Q _ => ∃ B ds d, Same B H ∧ DvA K B vs ds ∧ F ds d ∧ ∀ v B' H', Gr B H B' H' → Dv K B' v d → Q v H'
/-- it lets no exception out unless one is wanted -/
def NoX (CX : CXT) : Prop := ∀ outer H s e s', CX outer H s (fun _ _ _ => False) e s' → False
structure FnD (P : Program) (w : World) (K : PySem.W.Frag) (mg : Str → Option Value) (base : Heap) (CX : CXT) (k : Nat) (x : Str) (ps : List Str) (F : List PD → PD → Prop) : Prop where
  ok : ∃ f fd, FnOk P w K mg base CX k f fd ps (spF K F) ∧ mg x = some (.ref f) ∧ PySem.W.keepIn K (.ref f) = true ∧ Binds K fd ps []
theorem FnD.mono {P : Program} {w : World} {K : PySem.W.Frag} {mg : Str → Option Value} {base : Heap} {CX : CXT} {j k : Nat} {x : Str} {ps : List Str} {F : List PD → PD → Prop} (h : FnD P w K mg base CX j x ps F) (l : j ≤ k) : FnD P w K mg base CX k x ps F := by
  obtain ⟨f, fd, a, b⟩ := h.ok
  exact ⟨f, fd, a.mono l, b⟩
theorem de_call {X : Cx} {ρ : Rho} {O : Own} {d : PD} {e : Expr} {es : List Expr} {pos p : Pos} {CX : CXT} {k : Nat} {x : Str} {ps : List Str} {F : List PD → PD → Prop} {ds : List PD} (G : FnD X.prog X.w X.K X.mg X.base CX k x ps F) (hr : Room k X.A) (hx : NoX CX) (ha : DA X (e :: es) ρ O ds) (hF : F ds d)
    (hg : Gl X x := by rfl) (hdb : (x == ("__debug__" : Str)) = false := by decide) (he : starEach (e :: es) X.env = (false, eval e X.env) :: starEach es X.env := by rfl) (hpl : (backTo pos (starEach es X.env)).any (·.1) = false := by rfl) : DE X (.Call (.Name x p) (e :: es) [] pos) ρ O d := by
  obtain ⟨f, fd, ok, hm, kp, bn⟩ := G.ok
  refine .mk (pe_call (E := fun _ _ _ => False) ok hr hg hm kp bn .nil (fun pins σ H s e' s' _ z => (hx _ _ _ _ _ z).elim) (pwA _) hdb he hpl) fun S Q q => ha _ _ _ _ _ S fun vs B1 H1 g1 dvs => ?_
  rw [List.append_nil]
  exact ⟨B1, ds, d, g1.bh, dvs, hF, fun v B2 H2 g2 dv => q v _ _ (g1.trans g2) dv⟩
end K5
end PartDL3
section PartDL4
set_option maxRecDepth 100000
set_option maxHeartbeats 4000000
/-! The data layer: statements. -/
namespace K5
open PySem PySem.Spec PyProof.Rows L2
/-- the mutable list is let go when its name is written over -/
def ownBut (i : Nat) : Own → Own
  | some (j, ds) => if j = i then none else some (j, ds)
  | none => none
section
variable {K : PySem.W.Frag} {H0 B H : Hp} {σ : L2.St} {ρ : Rho} {O : Own} {d : PD} {v : V} {i : Nat}
theorem ownBut_some {j : Nat} {ds : List PD} (h : ownBut i O = some (j, ds)) : j ≠ i ∧ O = some (j, ds) := by
  cases O with
  | none => cases h
  | some q =>
    obtain ⟨j', ds'⟩ := q
    have h' : (if j' = i then none else some (j', ds')) = some (j, ds) := h
    by_cases e : j' = i
    · rw [if_pos e] at h'
      cases h'
    · rw [if_neg e] at h'
      cases h'
      exact ⟨e, rfl⟩
theorem Sl.set (S : Sl K H0 B H σ ρ O) (dv : Dv K B v d) : Sl K H0 B H (σ.set i (some v)) (ρ.set i (some d)) (ownBut i O) := by
  refine ⟨S.bh, by rw [List.length_set, List.length_set]; exact S.len, fun j e hj => ?_, fun j ds hj => ?_⟩
  · by_cases h : i = j
    · subst h
      rw [List.getElem?_set] at hj
      rw [List.getElem?_set]
      rw [if_pos rfl] at hj ⊢
      by_cases l : i < ρ.length
      · rw [if_pos l] at hj
        cases hj
        rw [if_pos (by rw [S.len]; exact l)]
        exact ⟨v, rfl, dv⟩
      · rw [if_neg l] at hj
        cases hj
    · rw [List.getElem?_set_ne h] at hj ⊢
      exact S.dat j e hj
  · obtain ⟨h1, h2⟩ := ownBut_some hj
    rw [List.getElem?_set_ne (Ne.symm h1)]
    exact S.own j ds h2
/-- a slot forgotten -/
theorem Sl.wipe (S : Sl K H0 B H σ ρ O) : Sl K H0 B H (σ.set i none) (ρ.set i none) (ownBut i O) := by
  refine ⟨S.bh, by rw [List.length_set, List.length_set]; exact S.len, fun j e hj => ?_, fun j ds hj => ?_⟩
  · by_cases h : i = j
    · subst h
      rw [List.getElem?_set, if_pos rfl] at hj
      by_cases l : i < ρ.length
      · rw [if_pos l] at hj
        cases hj
      · rw [if_neg l] at hj
        cases hj
    · rw [List.getElem?_set_ne h] at hj ⊢
      exact S.dat j e hj
  · obtain ⟨h1, h2⟩ := ownBut_some hj
    rw [List.getElem?_set_ne (Ne.symm h1)]
    exact S.own j ds h2
theorem Sl.fresh0 {B0 : Hp} {p : Addr} (g : Gr B0 H0 B H) (hp : H p = none) : H0 p = none := g.h.free hp
end
section
variable {X : Cx} {C : Addr} {W : WX} {ρ : Rho} {O : Own} {P : DP} {d : PD} {a b c e : Expr} {es : List Expr} {pos p : Pos} {st : Stmt} {rest body : List Stmt}
theorem DS.mk {t : TS} (p : PS X st t) (h : ∀ {B0 H0 B1 : Hp} {σ : L2.St} {B H : Hp} {D : Ends}, Sl X.K H0 B H σ ρ O → Gr B0 H0 B H → Same B1 B → Post X.K C W B0 H0 B1 P D → t D σ H) : DS X C W st ρ O P := fun B0 H0 B1 σ B H D S g r po => wS_of p (h S g r po)
theorem db_nil (h : P.nx ρ O) : DB X C W [] ρ O P := fun B0 H0 B1 σ B H D S g r po => wB_of pss_nil (po.nx _ _ _ _ _ h S g r)
theorem db_cons (h : DS X C W st ρ O { P with nx := fun ρ' O' => DB X C W rest ρ' O' P }) : DB X C W (st :: rest) ρ O P := fun B0 H0 B1 σ B H D S g r po =>
  wB_of (pss_cons (pwS st) (pwB rest)) (h B0 H0 B1 σ B H { D with nx := wB X rest D } S g r ⟨fun σ' B' H' ρ' O' db S' g' r' => db B0 H0 B1 σ' B' H' D S' g' r' po, po.rt, po.bk, po.ct, po.ex⟩)
theorem db_one (h : DS X C W st ρ O P) : DB X C W [st] ρ O P := fun B0 H0 B1 σ B H D S g r po => wB_of (pss_one (pwS st)) (h B0 H0 B1 σ B H D S g r po)
/-! ### names written -/
theorem ds_set (i : Nat) {x : Str} {px : Pos} (he : DE X e ρ O d) (hN : X.N.Nodup) (h : P.nx (ρ.set i (some d)) (ownBut i O)) (hi : X.N[i]? = some x := by rfl) (hx : Loc X.env.scope x := by first | exact .inl rfl | exact .inr rfl)
    (hs : swapsWith e (some (.Name x px)) pos.line X.env = pure false := by rfl) (hf : X.fn x = true ∨ X.env.scope.names.lookup x = some .local := by first | exact .inl rfl | exact .inr rfl) : DS X C W (.Assign [.Name x px] e pos) ρ O P :=
  .mk (ps_set hN hi hx (pwE e) hs hf) fun S g r po => he _ _ _ _ _ S fun v B1 H1 g1 dv => po.nx _ _ _ _ _ h ((S.gr g1).set dv) (g.trans g1) (r.trans g1.b)
/-- x = []: a list that the def may change -/
theorem ds_own (i : Nat) {x : Str} {px : Pos} {pl : Pos} (hO : O = none) (hN : X.N.Nodup) (hl : i < ρ.length) (h : P.nx (ρ.set i none) (some (i, []))) (hi : X.N[i]? = some x := by rfl) (hx : Loc X.env.scope x := by first | exact .inl rfl | exact .inr rfl)
    (hs : swapsWith (.List [] pl) (some (.Name x px)) pos.line X.env = pure false := by rfl) (hf : X.fn x = true ∨ X.env.scope.names.lookup x = some .local := by first | exact .inl rfl | exact .inr rfl) : DS X C W (.Assign [.Name x px] (.List [] pl) pos) ρ O P :=
  .mk (ps_set hN hi hx (pe_lst pa_nil) hs hf) fun {B0 H0 B0' σ B H D} S g r po => ⟨by rw [sizeLine_eq]; decide, fun q hq => by
    have S' : Sl X.K H0 B (upd H q (.lst [])) (σ.set i (some (.ref q))) (ρ.set i none) (some (i, [])) := by
      have S1 := (S.gr (Gr.own (o := .lst []) S.bh hq)).wipe (i := i)
      refine ⟨S1.bh, by rw [List.length_set, List.length_set]; exact S.len, fun j d hj => ?_, fun j ds hj => ?_⟩
      · by_cases hh : i = j
        · subst hh
          rw [List.getElem?_set, if_pos rfl] at hj
          by_cases l : i < ρ.length
          · rw [if_pos l] at hj
            cases hj
          · rw [if_neg l] at hj
            cases hj
        · rw [List.getElem?_set_ne hh] at hj ⊢
          exact S.dat j d hj
      · cases hj
        refine ⟨q, [], ?_, Sl.fresh0 g hq, S.bh.free hq, upd_same, .nil⟩
        rw [List.getElem?_set, if_pos rfl, if_pos (by rw [S.len]; exact hl)]
    exact po.nx _ _ _ _ _ h S' (g.trans (Gr.own S.bh hq)) r⟩
/-- x = list(e): such a list -/
theorem ds_ownList (i : Nat) {x : Str} {px : Pos} {ds : List PD} (hO : O = none) (hN : X.N.Nodup) (hl : i < ρ.length) (M : Blt X.mg) (he : DE X e ρ O (.list ds)) (h : P.nx (ρ.set i none) (some (i, ds))) (hi : X.N[i]? = some x := by rfl) (hx : Loc X.env.scope x := by first | exact .inl rfl | exact .inr rfl)
    (hg : Gl X "list" := by rfl) (hse : starEach [e] X.env = [(false, eval e X.env)] := by rfl)
    (hf : X.fn x = true ∨ X.env.scope.names.lookup x = some .local := by first | exact .inl rfl | exact .inr rfl) {pos2 : Pos}
    (hs2 : swapsWith (.Call (.Name "list" p) [e] [] pos) (some (.Name x px)) pos2.line X.env = pure false := by rfl) : DS X C W (.Assign [.Name x px] (.Call (.Name "list" p) [e] [] pos) pos2) ρ O P :=
  .mk (ps_set hN hi hx (pe_callTy call_list_of hg M.list boot_list (pa_cons (pwE e) pa_nil hse) (by decide) (by decide) hse rfl) hs2 hf) fun {B0 H0 B0' σ B H D} S g r po => he _ _ _ _ _ S fun v B1 H1 g1 dv => by
    obtain ⟨a', us, rfl, s1, a1⟩ := dv.lst_
    refine ⟨a', us, rfl, .inl (SqL.of (g1.bh _ _ s1)), fun q hq => ?_⟩
    have g2 := g.trans g1
    have S' : Sl X.K H0 B1 (upd H1 q (.lst us)) (σ.set i (some (.ref q))) (ρ.set i none) (some (i, ds)) := by
      have S1 := ((S.gr g1).gr (Gr.own (o := .lst us) g1.bh hq)).wipe (i := i)
      refine ⟨S1.bh, by rw [List.length_set, List.length_set]; exact S.len, fun j d hj => ?_, fun j ds hj => ?_⟩
      · by_cases hh : i = j
        · subst hh
          rw [List.getElem?_set, if_pos rfl] at hj
          by_cases l : i < ρ.length
          · rw [if_pos l] at hj
            cases hj
          · rw [if_neg l] at hj
            cases hj
        · rw [List.getElem?_set_ne hh] at hj ⊢
          exact (S.gr g1).dat j d hj
      · cases hj
        refine ⟨q, us, ?_, Sl.fresh0 g2 hq, g1.bh.free hq, upd_same, a1⟩
        rw [List.getElem?_set, if_pos rfl, if_pos (by rw [S.len]; exact hl)]
    exact po.nx _ _ _ _ _ h S' (g2.trans (Gr.own g1.bh hq)) (r.trans g1.b)
/-! ### targets -/
/-- what a target does with data -/
def TgD (X : Cx) (tg : Expr) (f : PD → Rho → Own → (Rho → Own → Prop) → Prop) : Prop := ∃ g : TG, PG X tg g ∧ ∀ (d : PD) (v : V) (H0 B H : Hp) (σ : L2.St) (ρ : Rho) (O : Own) (N : Rho → Own → Prop) (Q : L2.St → Hp → Prop), Sl X.K H0 B H σ ρ O → Dv X.K B v d → f d ρ O N →
  (∀ σ' B' H' ρ' O', N ρ' O' → Sl X.K H0 B' H' σ' ρ' O' → Gr B H B' H' → Q σ' H') → g v σ H Q
def fName (i : Nat) : PD → Rho → Own → (Rho → Own → Prop) → Prop := fun d ρ O N => N (ρ.set i (some d)) (ownBut i O)
theorem td_name (i : Nat) {x : Str} {px : Pos} (hN : X.N.Nodup) (hi : X.N[i]? = some x := by rfl) (hx : Loc X.env.scope x := by first | exact .inl rfl | exact .inr rfl) (hf : X.fn x = true ∨ X.env.scope.names.lookup x = some .local := by first | exact .inl rfl | exact .inr rfl) : TgD X (.Name x px) (fName i) :=
  ⟨_, pg_name hN hi hx hf, fun d v H0 B H σ ρ O N Q S dv n q => q _ _ _ _ _ n (S.set dv) (Gr.refl S.bh)⟩
def TgDs (X : Cx) (tgs : List Expr) (f : List PD → Rho → Own → (Rho → Own → Prop) → Prop) : Prop := ∃ g : TGs, PGs X tgs g ∧ ∀ (ds : List PD) (vs : List V) (H0 B H : Hp) (σ : L2.St) (ρ : Rho) (O : Own) (N : Rho → Own → Prop) (Q : L2.St → Hp → Prop), Sl X.K H0 B H σ ρ O → DvA X.K B vs ds → f ds ρ O N →
  (∀ σ' B' H' ρ' O', N ρ' O' → Sl X.K H0 B' H' σ' ρ' O' → Gr B H B' H' → Q σ' H') → g vs σ H Q
def fNil : List PD → Rho → Own → (Rho → Own → Prop) → Prop := fun ds ρ O N => ds = [] ∧ N ρ O
def fCons (f : PD → Rho → Own → (Rho → Own → Prop) → Prop) (fs : List PD → Rho → Own → (Rho → Own → Prop) → Prop) : List PD → Rho → Own → (Rho → Own → Prop) → Prop := fun ds ρ O N => ∃ d r, ds = d :: r ∧ f d ρ O fun ρ' O' => fs r ρ' O' N
theorem tds_nil : TgDs X [] fNil := ⟨_, pgs_nil, fun ds vs H0 B H σ ρ O N Q S dvs n q => by
  obtain ⟨rfl, n⟩ := n
  cases dvs
  exact ⟨rfl, q _ _ _ _ _ n S (Gr.refl S.bh)⟩⟩
theorem tds_cons {tg : Expr} {tgs : List Expr} {f : PD → Rho → Own → (Rho → Own → Prop) → Prop} {fs : List PD → Rho → Own → (Rho → Own → Prop) → Prop} (h1 : TgD X tg f) (h2 : TgDs X tgs fs) (h3 : ∀ {t : TG} {u : TGs}, PG X tg t → PGs X tgs u → PGs X (tg :: tgs) (gCons t u)) : TgDs X (tg :: tgs) (fCons f fs) := by
  obtain ⟨g1, p1, q1⟩ := h1
  obtain ⟨g2, p2, q2⟩ := h2
  refine ⟨_, h3 p1 p2, fun ds vs H0 B H σ ρ O N Q S dvs n q => ?_⟩
  obtain ⟨d, r, rfl, n⟩ := n
  cases dvs with
  | cons dv dvr => exact ⟨_, _, rfl, q1 d _ H0 B H σ ρ O _ _ S dv n fun σ' B' H' ρ' O' n' S' g' => q2 r _ H0 B' H' σ' ρ' O' N Q S' (dvr.mono g'.b) n' fun σ2 B2 H2 ρ2 O2 n2 S2 gg => q σ2 B2 H2 ρ2 O2 n2 S2 (g'.trans gg)⟩
def fTup (n : Nat) (fs : List PD → Rho → Own → (Rho → Own → Prop) → Prop) : PD → Rho → Own → (Rho → Own → Prop) → Prop := fun d ρ O N => ∃ ds, d = .tuple ds ∧ ds.length = n ∧ fs ds ρ O N
theorem td_tup {k : Nat} {n : Nat} {fs : List PD → Rho → Own → (Rho → Own → Prop) → Prop} (hc : X.calm = true) (h : TgDs X es fs) (hn : (assignEach es X.env).length = n := by rfl) (hst : (assignEach es X.env).findIdx? (·.1) = none := by rfl) : TgD X (.Tuple es k pos) (fTup n fs) := by
  obtain ⟨g1, p1, q1⟩ := h
  refine ⟨_, pg_tup hc p1 hn hst, fun d v H0 B H σ ρ O N Q S dv m q => ?_⟩
  obtain ⟨ds, rfl, hl, m⟩ := m
  obtain ⟨a', us, rfl, s1, a1⟩ := dv.tup_
  exact ⟨a', us, rfl, same_tup S.bh s1, by rw [a1.length]; exact hl, q1 ds us H0 B H σ ρ O N Q S a1 m q⟩
theorem ds_asg {tg : Expr} {f : PD → Rho → Own → (Rho → Own → Prop) → Prop} (he : DE X e ρ O d) (ht : TgD X tg f) (h : f d ρ O P.nx) (hs : swapsWithSole [tg] e pos.line X.env = pure false := by rfl) (hw : swappedStores [tg] e X.env = pure none := by rfl)
    (h1 : (assignEach [tg] X.env).map (·.2) = [assign tg X.env] := by rfl) : DS X C W (.Assign [tg] e pos) ρ O P := by
  obtain ⟨g, pg, q⟩ := ht
  exact .mk (ps_asg (pwE e) pg hs hw h1) fun S gr r po => he _ _ _ _ _ S fun v B1 H1 g1 dv => q d v _ _ _ _ _ _ _ _ (S.gr g1) dv h fun σ' B' H' ρ' O' n S' g' => po.nx _ _ _ _ _ n S' (gr.trans (g1.trans g')) (r.trans (g1.b.trans g'.b))
/-! ### if, return -/
theorem ds_if {k : Bool} {s1 s2 : List Stmt} (hc : DT X c ρ O k) (h1 : k = true → DB X C W s1 ρ O P) (h2 : k = false → DB X C W s2 ρ O P) : DS X C W (.If c s1 s2 pos) ρ O P :=
  .mk (ps_if (pwT c) (pwB s1) (pwB s2)) fun S g r po => hc _ _ _ _ _ S fun B1 H1 g1 => by
    cases k with
    | true => exact h1 rfl _ _ _ _ _ _ _ (S.gr g1) (g.trans g1) (r.trans g1.b) po
    | false => exact h2 rfl _ _ _ _ _ _ _ (S.gr g1) (g.trans g1) (r.trans g1.b) po
theorem ds_ret (he : DE X e ρ O d) (h : P.rt d) : DS X C W (.Return (some e) pos) ρ O P := .mk (ps_ret (pwE e)) fun S g r po => he _ _ _ _ _ S fun v B1 H1 g1 dv => po.rt _ _ _ _ h dv (g.trans g1)
/-- the data grows by the def's own list -/
theorem adopt {K : PySem.W.Frag} {B0 H0 B H : Hp} {q : Addr} {us : List V} (g : Gr B0 H0 B H) (h0 : H0 q = none) (hB : B q = none) (hH : H q = some (.lst us)) : Gr B0 H0 (upd B q (.lst us)) H := by
  refine ⟨fun a u e => ?_, g.h, fun a u e => ?_, fun a e n => ?_⟩
  · by_cases h : a = q
    · subst h
      have z := g.b _ _ e
      rw [hB] at z
      cases z
    · rw [upd_ne h]
      exact g.b _ _ e
  · by_cases h : a = q
    · subst h
      rw [upd_same] at e
      cases e
      exact hH
    · rw [upd_ne h] at e
      exact g.bh _ _ e
  · have z : a ≠ q := fun z => by
      subst z
      exact n h0
    rw [upd_ne z]
    exact g.ap a e n
theorem ds_retOwn (i : Nat) {x : Str} {px : Pos} {ds : List PD} (hO : O = some (i, ds) := by rfl) (h : P.rt (.list ds)) (hN : X.N[i]? = some x := by rfl) (hv : Vis X.env.scope x := by first | exact .inl rfl | exact .inr (.inl rfl) | exact .inr (.inr rfl)) (hd : (x == ("__debug__" : Str)) = false := by decide) (hcd : (x == ("__classdict__" : Str)) = false := by decide) :
    DS X C W (.Return (some (.Name x px)) pos) ρ O P := .mk (ps_ret (pe_var hN hv hd hcd)) fun S g r po => by
  obtain ⟨q, us, e1, h0, hB, hH, a1⟩ := S.own i ds hO
  exact ⟨_, e1, po.rt _ _ _ _ h (.lst upd_same (a1.mono (same_new hB))) (adopt (K := X.K) g h0 hB hH)⟩
/-- return (own, e) -/
theorem ds_retOwn2 (i : Nat) {x : Str} {px : Pos} {k : Nat} {ds : List PD} (hO : O = some (i, ds) := by rfl) (he : DE X e ρ O d) (h : P.rt (.tuple [.list ds, d])) (hN : X.N[i]? = some x := by rfl) (hv : Vis X.env.scope x := by first | exact .inl rfl | exact .inr (.inl rfl) | exact .inr (.inr rfl)) (hd : (x == ("__debug__" : Str)) = false := by decide) (hcd : (x == ("__classdict__" : Str)) = false := by decide)
    (hs : starEach [.Name x px, e] X.env = (false, eval (.Name x px) X.env) :: starEach [e] X.env := by rfl) (hs2 : starEach [e] X.env = (false, eval e X.env) :: starEach [] X.env := by rfl) {p2 : Pos} :
    DS X C W (.Return (some (.Tuple [.Name x px, e] k p2)) pos) ρ O P := .mk (ps_ret (pe_tup (pa_cons (pe_var hN hv hd hcd) (pa_cons (pwE e) pa_nil hs2) hs))) fun {B0 H0 B0' σ B H D} S g r po => by
  obtain ⟨q, us, e1, h0, hB, hH, a1⟩ := S.own i ds hO
  refine ⟨_, e1, he _ _ _ _ _ S fun v B1 H1 g1 dv => ⟨by rw [sizeLine_eq]; exact Nat.le_of_ble_eq_true rfl, fun t ht => ?_⟩⟩
  have g2 := g.trans g1
  have hB1 : B1 q = none := g1.ap q hB (by rw [hH]; exact fun z => nomatch z)
  have hH1 := g1.h q _ hH
  have g3 := adopt (K := X.K) g2 h0 hB1 hH1
  have g4 := g3.trans (Gr.new (o := .tup [.ref q, v]) g3.bh ht)
  refine po.rt _ _ _ _ h (.tup (SqT.of upd_same) (.cons (.lst ?_ ((a1.mono g1.b).mono ?_)) (.cons (dv.mono ?_) .nil))) g4
  · rw [upd_ne (ne_of_none hH1 ht)]
    exact upd_same
  · exact (same_new hB1).trans (same_new (g3.bh.free ht))
  · exact (same_new hB1).trans (same_new (g3.bh.free ht))
/-! ### the own list -/
theorem ds_append (i : Nat) {x : Str} {px pa pc : Pos} {ds : List PD} (hO : O = some (i, ds) := by rfl) (he : DE X e ρ O d) (hl : ds.length ≤ 1000000) (h : P.nx ρ (some (i, ds ++ [d]))) (hN : X.N[i]? = some x := by rfl) (hv : Vis X.env.scope x := by first | exact .inl rfl | exact .inr (.inl rfl) | exact .inr (.inr rfl)) (hd : (x == ("__debug__" : Str)) = false := by decide) (hcd : (x == ("__classdict__" : Str)) = false := by decide)
    (hpe : PE X (.Call (.Attribute (.Name x px) "append" pa) [e] [] pc) (tBM X.K "list" rAppend (tVar i) (tCons (wE X e) tNil))) (hs : swapsWith (.Call (.Attribute (.Name x px) "append" pa) [e] [] pc) none pos.line X.env = pure false := by rfl) :
    DS X C W (.Expr (.Call (.Attribute (.Name x px) "append" pa) [e] [] pc) pos) ρ O P :=
  .mk (ps_expr hpe hs) fun {B0 H0 B0' σ B H D} S g r po => by
    obtain ⟨q, us, e1, h0, hB, hH, a1⟩ := S.own i ds hO
    refine ⟨_, e1, (?_ : tyV X.K "list" (.ref q) H), he _ _ _ _ _ S fun v B1 H1 g1 dv => ?_⟩
    · exact .inl ⟨rfl, us, SqL.of hH⟩
    have hB1 : B1 q = none := g1.ap q hB (by rw [hH]; exact fun z => nomatch z)
    have hH1 := g1.h q _ hH
    have g2 := g.trans g1
    refine ⟨q, us, v, rfl, rfl, hH1, ?_, ?_⟩
    · rw [a1.length, sizeLine_eq]
      omega
    refine po.nx _ B1 _ _ _ h ?_ ?_ (r.trans g1.b)
    · refine ⟨same_up g1.bh hB1, S.len, fun j d' hj => (S.gr g1).dat j d' hj, fun j ds' hj => ?_⟩
      cases hj
      exact ⟨q, us ++ [v], e1, h0, hB1, upd_same, (a1.mono g1.b).app (.one dv)⟩
    · refine ⟨g2.b, fun a u e => ?_, same_up g1.bh hB1, g2.ap⟩
      have ne : a ≠ q := fun z => by
        subst z
        rw [h0] at e
        cases e
      rw [upd_ne ne]
      exact g2.h _ _ e
/-- own[i] as data, when what is read bears no trace of the list -/
theorem de_ixOwn (i : Nat) {x : Str} {px : Pos} {ds : List PD} {j : Int} (hO : O = some (i, ds) := by rfl) (hb : DE X b ρ O (.int j)) (hj : L2.atI ds j = some d) (hN : X.N[i]? = some x := by rfl) (hv : Vis X.env.scope x := by first | exact .inl rfl | exact .inr (.inl rfl) | exact .inr (.inr rfl)) (hd : (x == ("__debug__" : Str)) = false := by decide) (hcd : (x == ("__classdict__" : Str)) = false := by decide)
    (hs : PlainIx b := by intro _ _; rfl) : DE X (.Subscript (.Name x px) b pos) ρ O d := .mk (pe_ix ix_seq (pe_var hN hv hd hcd) (pwE b) hs) fun S Q q => by
  obtain ⟨l, us, e1, h0, hB, hH, a1⟩ := S.own i ds hO
  refine ⟨_, e1, hb _ _ _ _ _ S fun v B1 H1 g1 dv => ?_⟩
  obtain ⟨u, z1, z2⟩ := (a1.mono g1.b).atI hj
  exact .inl ⟨l, us, j, u, rfl, dv.int_, SqL.of (g1.h _ _ hH), z1, q u _ _ g1 z2⟩
theorem de_lenOwn (i : Nat) {x : Str} {px : Pos} {ds : List PD} (M : Blt X.mg) (hO : O = some (i, ds) := by rfl) (hN : X.N[i]? = some x := by rfl) (hv : Vis X.env.scope x := by first | exact .inl rfl | exact .inr (.inl rfl) | exact .inr (.inr rfl)) (hd : (x == ("__debug__" : Str)) = false := by decide) (hcd : (x == ("__classdict__" : Str)) = false := by decide)
    (hg : Gl X "len" := by rfl) (hse : starEach [.Name x px] X.env = [(false, eval (.Name x px) X.env)] := by rfl) : DE X (.Call (.Name "len" p) [.Name x px] [] pos) ρ O (.int (ds.length : Int)) :=
  .mk (pe_callB call_len hg M.len boot_len (pa_cons (pe_var hN hv hd hcd) pa_nil hse) (by decide) (by decide) hse rfl) fun S Q q => by
    obtain ⟨l, us, e1, h0, hB, hH, a1⟩ := S.own i ds hO
    exact ⟨_, e1, _, ds.length, rfl, .inl ⟨us, SqL.of hH, a1.length.symm⟩, q _ _ _ (Gr.refl S.bh) (.int _)⟩
theorem de_tupleOwn (i : Nat) {x : Str} {px : Pos} {ds : List PD} (M : Blt X.mg) (hO : O = some (i, ds) := by rfl) (hN : X.N[i]? = some x := by rfl) (hv : Vis X.env.scope x := by first | exact .inl rfl | exact .inr (.inl rfl) | exact .inr (.inr rfl)) (hd : (x == ("__debug__" : Str)) = false := by decide) (hcd : (x == ("__classdict__" : Str)) = false := by decide)
    (hg : Gl X "tuple" := by rfl) (hse : starEach [.Name x px] X.env = [(false, eval (.Name x px) X.env)] := by rfl) : DE X (.Call (.Name "tuple" p) [.Name x px] [] pos) ρ O (.tuple ds) :=
  .mk (pe_callTy call_tuple_of hg M.tuple boot_tuple (pa_cons (pe_var hN hv hd hcd) pa_nil hse) (by decide) (by decide) hse rfl) fun S Q q => by
    obtain ⟨l, us, e1, h0, hB, hH, a1⟩ := S.own i ds hO
    exact ⟨_, e1, l, us, rfl, .inl ⟨SqL.of hH, fun t ht => q _ _ _ (Gr.new S.bh ht) (.tup (SqT.of upd_same) (a1.mono (same_new (S.bh.free ht))))⟩⟩
/-- own[i] = e -/
theorem ds_setItem (i : Nat) {x : Str} {px ps : Pos} {ds : List PD} {j : Int} {m : Nat} (hO : O = some (i, ds) := by rfl) (he : DE X e ρ O d) (hb : DE X b ρ O (.int j)) (hj : ixN ds.length j = some m) (h : P.nx ρ (some (i, ds.set m d))) (hN : X.N[i]? = some x := by rfl) (hv : Vis X.env.scope x := by first | exact .inl rfl | exact .inr (.inl rfl) | exact .inr (.inr rfl)) (hd : (x == ("__debug__" : Str)) = false := by decide) (hcd : (x == ("__classdict__" : Str)) = false := by decide)
    (hpg : PG X (.Subscript (.Name x px) b ps) (gSub (tVar i) (wE X b) rSetL)) (hs : swapsWithSole [.Subscript (.Name x px) b ps] e pos.line X.env = pure false := by rfl) (hw : swappedStores [.Subscript (.Name x px) b ps] e X.env = pure none := by rfl)
    (h1 : (assignEach [.Subscript (.Name x px) b ps] X.env).map (·.2) = [assign (.Subscript (.Name x px) b ps) X.env] := by rfl) : DS X C W (.Assign [.Subscript (.Name x px) b ps] e pos) ρ O P :=
  .mk (ps_asg (pwE e) hpg hs hw h1) fun {B0 H0 B0' σ B H D} S g r po => he _ _ _ _ _ S fun v B1 H1 g1 dv => by
    obtain ⟨q, us, e1, h0, hB, hH, a1⟩ := (S.gr g1).own i ds hO
    refine ⟨_, e1, hb _ _ _ _ _ (S.gr g1) fun v2 B2 H2 g2 dv2 => ?_⟩
    have hB2 : B2 q = none := g2.ap q hB (by rw [hH]; exact fun z => nomatch z)
    have hH2 := g2.h q _ hH
    have g3 := g.trans (g1.trans g2)
    refine ⟨q, us, j, m, rfl, dv2.int_, hH2, by rw [a1.length]; exact hj, ?_⟩
    refine po.nx _ B2 _ _ _ h ?_ ?_ (r.trans (g1.b.trans g2.b))
    · refine ⟨same_up g2.bh hB2, S.len, fun t d' ht => ((S.gr g1).gr g2).dat t d' ht, fun t ds' ht => ?_⟩
      cases ht
      exact ⟨q, _, e1, h0, hB2, upd_same, (a1.mono g2.b).set (dv.mono g2.b) m⟩
    · refine ⟨g3.b, fun a u e => ?_, same_up g2.bh hB2, g3.ap⟩
      have ne : a ≠ q := fun z => by
        subst z
        rw [h0] at e
        cases e
      rw [upd_ne ne]
      exact g3.h _ _ e
end
end K5
end PartDL4
section PartDL5
set_option maxRecDepth 100000
set_option maxHeartbeats 4000000
/-! The data layer: loops, comprehensions, defs. -/
namespace K5
open PySem PySem.Spec PyProof.Rows L2
/-- the iterator J walks these data -/
structure JD (K : PySem.W.Frag) (J : It) (B : Hp) (items : List PD) : Prop where
  go : ∀ i H, Same B H → i < items.length → J.go i H
  yld : ∀ i H x H', Same B H → i < items.length → J.yld i H x H' → H' = H ∧ ∃ d, items[i]? = some d ∧ Dv K B x d
  stop : ∀ H, Same B H → J.stop items.length H
section
variable {K : PySem.W.Frag} {B B' H : Hp} {items : List PD} {a : Addr} {xs : List V}
theorem JD.mono {J : It} (j : JD K J B items) (s : Same B B') : JD K J B' items := ⟨fun i H h l => j.go i H (s.trans h) l, fun i H x H' h l y => by
  obtain ⟨e, d, e1, e2⟩ := j.yld i H x H' (s.trans h) l y
  exact ⟨e, d, e1, e2.mono s⟩, fun H h => j.stop H (s.trans h)⟩
theorem jd_list (h : B a = some (.lst xs)) (dv : DvA K B xs items) : JD K (Itl K a) B items := ⟨fun i H s l => by
    obtain ⟨v, e, _⟩ := dv.get (List.getElem?_eq_getElem l)
    exact ⟨xs, v, SqL.of (s _ _ h), e⟩, fun i H x H' s l y => by
    obtain ⟨e, y⟩ := y
    obtain ⟨d, e1, e2⟩ := dv.got (y xs (SqL.of (s _ _ h)))
    exact ⟨e, d, e1, e2⟩, fun H s => ⟨xs, SqL.of (s _ _ h), by rw [dv.length]; exact Nat.le_refl _⟩⟩
theorem jd_tup (h : SqT K B a xs) (dv : DvA K B xs items) : JD K (Itt K a) B items := ⟨fun i H s l => by
    obtain ⟨v, e, _⟩ := dv.get (List.getElem?_eq_getElem l)
    exact ⟨xs, v, same_tup s h, e⟩, fun i H x H' s l y => by
    obtain ⟨e, y⟩ := y
    obtain ⟨d, e1, e2⟩ := dv.got (y xs (same_tup s h))
    exact ⟨e, d, e1, e2⟩, fun H s => ⟨xs, same_tup s h, by rw [dv.length]; exact Nat.le_refl _⟩⟩
def rngD (lo : Int) (n : Nat) : List PD := (List.range n).map fun k => .int (lo + (k : Nat))
theorem rngD_get {lo : Int} {n i : Nat} (h : i < n) : (rngD lo n)[i]? = some (.int (lo + (i : Nat))) := by simp [rngD, h]
theorem rngD_len {lo : Int} {n : Nat} : (rngD lo n).length = n := by simp [rngD]
theorem jd_rng {lo : Int} {n : Nat} : JD K (Itr lo n) B (rngD lo n) := ⟨fun i H s l => by rw [rngD_len] at l; exact l, fun i H x H' s l y => by
    rw [rngD_len] at l
    exact ⟨y.1, _, rngD_get l, by rw [y.2]; exact .int _⟩, fun H s => by
    show n ≤ (rngD lo n).length
    rw [rngD_len]
    exact Nat.le_refl _⟩
end
section
variable {X : Cx} {C : Addr} {W : WX} {ρ : Rho} {O : Own} {P : DP} {d : PD} {a b c e tg iter elt : Expr} {es : List Expr} {pos p : Pos} {st : Stmt} {rest body : List Stmt} {items : List PD}
/-- what is walked -/
def ItD (X : Cx) (tg iter : Expr) (ρ : Rho) (O : Own) (items : List PD) : Prop := ∃ wi, PI X tg iter wi ∧ ∀ (H0 B H : Hp) (σ : L2.St) (R : It → Hp → Prop), Sl X.K H0 B H σ ρ O → (∀ J B' H', Gr B H B' H' → JD X.K J B' items → R J H') → wi σ H R
theorem it_list (he : DE X iter ρ O (.list items)) : ItD X tg iter ρ O items := ⟨_, pi_list (pwE iter), fun H0 B H σ R S q => he _ _ _ _ _ S fun v B1 H1 g1 dv => by
  obtain ⟨a', us, rfl, s1, a1⟩ := dv.lst_
  exact ⟨a', rfl, ⟨us, SqL.of (g1.bh _ _ s1)⟩, q _ _ _ g1 (jd_list s1 a1)⟩⟩
theorem it_tup (he : DE X iter ρ O (.tuple items)) : ItD X tg iter ρ O items := ⟨_, pi_tup (pwE iter), fun H0 B H σ R S q => he _ _ _ _ _ S fun v B1 H1 g1 dv => by
  obtain ⟨a', us, rfl, s1, a1⟩ := dv.tup_
  exact ⟨a', rfl, ⟨us, same_tup g1.bh s1⟩, q _ _ _ g1 (jd_tup s1 a1)⟩⟩
theorem it_rng {n : Int} (M : Blt X.mg) (he : DE X e ρ O (.int n)) (h1 : -(2 ^ 62) ≤ n) (h2 : n < 2 ^ 62) (hg : Gl X "range" := by rfl) (hs : starEach [e] X.env = [(false, eval e X.env)] := by rfl) : ItD X tg (.Call (.Name "range" p) [e] [] pos) ρ O (rngD 0 n.toNat) :=
  ⟨_, pi_range1 hg M.range (pwA [e]) hs, fun H0 B H σ R S q => da_cons he da_nil hs _ _ _ _ _ S fun vs B1 H1 g1 dvs => by
    obtain ⟨v, rfl, dv⟩ := dvs.one_
    exact ⟨n, by rw [dv.int_], h1, h2, q _ _ _ g1 jd_rng⟩⟩
theorem it_rng2 {i j : Int} (M : Blt X.mg) (ha : DE X a ρ O (.int i)) (hb : DE X b ρ O (.int j)) (h1 : -(2 ^ 62) ≤ i) (h2 : i < 2 ^ 62) (h3 : -(2 ^ 62) ≤ j) (h4 : j < 2 ^ 62) (hg : Gl X "range" := by rfl) (hs : starEach [a, b] X.env = [(false, eval a X.env), (false, eval b X.env)] := by rfl) (hs2 : starEach [b] X.env = [(false, eval b X.env)] := by rfl) :
    ItD X tg (.Call (.Name "range" p) [a, b] [] pos) ρ O (rngD i (j - i).toNat) :=
  ⟨_, pi_range2 hg M.range (pwA [a, b]) hs hs2, fun H0 B H σ R S q => da_cons ha (da_cons hb da_nil hs2) (by rw [hs, hs2]) _ _ _ _ _ S fun vs B1 H1 g1 dvs => by
    obtain ⟨v, u, rfl, dv, du⟩ := dvs.two_
    exact ⟨i, j, by rw [dv.int_, du.int_], ⟨h1, h2, h3, h4⟩, q _ _ _ g1 jd_rng⟩⟩
theorem ds_for {f : PD → Rho → Own → (Rho → Own → Prop) → Prop} (I : Nat → Rho → Own → Prop) (hc : X.calm = true) (hp : PassesOwn (model X.prog X.w) X.A X.env X.xe) (hit : ItD X tg iter ρ O items) (ht : TgD X tg f) (h0 : I 0 ρ O)
    (hs : ∀ i d ρ' O', items[i]? = some d → I i ρ' O' → f d ρ' O' fun ρ2 O2 => DB X C W body ρ2 O2 { nx := I (i + 1), rt := P.rt, bk := P.nx, ct := I (i + 1), ex := P.ex }) (hd : ∀ ρ' O', I items.length ρ' O' → P.nx ρ' O')
    (hfold : ∀ x, foldedSetIterable iter X.env x = pure x := by intro _; rfl) : DS X C W (.For tg iter body [] pos) ρ O P := by
  obtain ⟨wi, pi, qi⟩ := hit
  obtain ⟨g, pg, qg⟩ := ht
  refine .mk (ps_for hp hc pi pg (pwB body) hfold) fun {B0 H0 Br σ B H D} S g0 r po => qi _ _ _ _ _ S fun J B1 H1 g1 jd => ?_
  refine ⟨fun i m σ H => m = items.length - i ∧ i ≤ items.length ∧ ∃ B ρ O, I i ρ O ∧ Sl X.K H0 B H σ ρ O ∧ Gr B0 H0 B H ∧ Same B1 B, ⟨_, rfl, Nat.zero_le _, B1, ρ, O, h0, S.gr g1, g0.trans g1, Same.refl B1⟩, ?_⟩
  rintro i m σ2 H2 ⟨rfl, hi, B2, ρ2, O2, I2, S2, g2, r2⟩
  have j2 := jd.mono r2
  by_cases hlt : i < items.length
  · refine .inr ⟨j2.go i H2 g2.bh hlt, fun σ' H' => ∃ B ρ O, I (i + 1) ρ O ∧ Sl X.K H0 B H' σ' ρ O ∧ Gr B0 H0 B H' ∧ Same B1 B, fun σ' H' z => ⟨items.length - (i + 1), by omega, rfl, hlt, z⟩, fun x H' y => ?_⟩
    obtain ⟨e', d, e1, dv⟩ := j2.yld i H2 x H' g2.bh hlt y
    subst e'
    refine qg d x _ _ _ _ _ _ _ _ S2 dv (hs i d ρ2 O2 e1 I2) fun σ3 B3 H3 ρ3 O3 db S3 g3 => ?_
    exact db B0 H0 B1 σ3 B3 H3 _ S3 (g2.trans g3) (r2.trans g3.b) ⟨fun σ' B' H' ρ' O' z S' g' r' => ⟨B', ρ', O', z, S', g', r'⟩, po.rt, fun σ' B' H' ρ' O' z S' g' r' => po.nx _ _ _ _ _ z S' g' (r.trans (g1.b.trans r')), fun σ' B' H' ρ' O' z S' g' r' => ⟨B', ρ', O', z, S', g', r'⟩, po.ex⟩
  · have e' : i = items.length := by omega
    subst e'
    exact .inl ⟨j2.stop H2 g2.bh, po.nx _ _ _ _ _ (hd _ _ I2) S2 g2 (r.trans (g1.b.trans r2))⟩
/-- while, by a measure -/
theorem ds_while (I : Nat → Rho → Own → Prop) (m : Nat) (hp : PassesOwn (model X.prog X.w) X.A X.env X.xe) (h0 : I m ρ O)
    (hs : ∀ m ρ' O', I m ρ' O' → ∃ k, DT X c ρ' O' k ∧ (k = false → P.nx ρ' O') ∧ (k = true → ∃ m', m = m' + 1 ∧ DB X C W body ρ' O' { nx := I m', rt := P.rt, bk := P.nx, ct := I m', ex := P.ex })) : DS X C W (.While c body [] pos) ρ O P := by
  refine .mk (ps_while hp (pwT c) (pwB body)) fun {B0 H0 Br σ B H D} S g0 r po => ?_
  refine ⟨fun m σ H => ∃ B ρ O, I m ρ O ∧ Sl X.K H0 B H σ ρ O ∧ Gr B0 H0 B H ∧ Same Br B, ⟨m, B, ρ, O, h0, S, g0, r⟩, ?_⟩
  rintro m σ2 H2 ⟨B2, ρ2, O2, I2, S2, g2, r2⟩
  obtain ⟨k, hk, h1, h2⟩ := hs m ρ2 O2 I2
  refine hk _ _ _ _ _ S2 fun B3 H3 g3 => ?_
  cases k with
  | false => exact po.nx _ _ _ _ _ (h1 rfl) (S2.gr g3) (g2.trans g3) (r2.trans g3.b)
  | true =>
    obtain ⟨m', e, db⟩ := h2 rfl
    refine ⟨fun σ' H' => ∃ B ρ O, I m' ρ O ∧ Sl X.K H0 B H' σ' ρ O ∧ Gr B0 H0 B H' ∧ Same Br B, fun σ' H' z => ⟨m', by omega, z⟩, ?_⟩
    exact db B0 H0 Br _ B3 H3 _ (S2.gr g3) (g2.trans g3) (r2.trans g3.b) ⟨fun σ' B' H' ρ' O' z S' g' r' => ⟨B', ρ', O', z, S', g', r'⟩, po.rt, po.nx, fun σ' B' H' ρ' O' z S' g' r' => ⟨B', ρ', O', z, S', g', r'⟩, po.ex⟩
/-! ### comprehensions -/
/-- a block's context -/
abbrev blkX (X : Cx) (scope : Scope) (s : Shared) (H : Hp) (C : Addr) (cl : List (Str × Addr)) (fp : List Addr) : Cx := X.blk s H scope (compEnvC scope cl C X.env) fp
theorem lc_main {i : Nat} {x : Str} {px : Pos} {ifs : List Expr} {scope : Scope} {t : PD → Bool} {f : PD → PD} {tt : TT} (hc : X.calm = true) (hN : X.N.Nodup) (hit : ItD X (.Name x px) iter ρ O items) (ok : BlkOk X.N X.env.scope scope [(x, i)]) (hi : X.N[i]? = some x) (hx : ∀ C cl, (compEnvC scope cl C X.env).scope.names.lookup x = some .local)
    (hsz : items.length ≤ 1000000) (pt : ∀ s H C cl fp, PTs (blkX X scope s H C cl fp) ifs tt)
    (ht : ∀ d ∈ items, ∀ (H0 B H : Hp) (σ : L2.St) (Q : Bool → Hp → Prop), Sl X.K H0 B H σ ((ρ.set i none).set i (some d)) (ownBut i (ownBut i O)) → (∀ B' H', Gr B H B' H' → Q (t d) H') → tt σ H Q)
    (he : ∀ d ∈ items, t d = true → ∀ s H C cl fp, DE (blkX X scope s H C cl fp) elt ((ρ.set i none).set i (some d)) (ownBut i (ownBut i O)) (f d)) (hs : ∀ x, foldedSetIterable iter X.env x = pure x) :
    DE X (.ListComp elt [⟨.Name x px, iter, ifs, 0⟩] scope pos) ρ O (.list ((items.filter t).map f)) := by
  obtain ⟨wi, pi, qi⟩ := hit
  refine .mk (pe_lc (g := gName i) (te := fun σ H Q => ∀ s h C cl fp, wE (blkX X scope s h C cl fp) elt σ H Q) hc hN pi ok (fun s H C cl fp => pg_name hN hi (.inl (hx C cl)) (.inr (hx C cl))) pt
    (fun s H C cl fp => ⟨fun pins s' σ H' Q I hq => (hq s H C cl fp).run pins s' I⟩) hs) fun {H0 B H σ} S Q q => ?_
  refine qi _ _ _ _ _ S fun J B1 H1 g1 jd D hD => ?_
  refine ⟨fun k m H => m = items.length - k ∧ k ≤ items.length ∧ ∃ B acc, Gr B1 H1 B H ∧ B D = none ∧ H D = some (.lst acc) ∧ DvA X.K B acc (((items.take k).filter t).map f) ∧ acc.length ≤ k, ⟨_, rfl, Nat.zero_le _, B1, [], Gr.own g1.bh hD, g1.bh.free hD, upd_same, .nil, Nat.le_refl _⟩, ?_⟩
  rintro k m H2 ⟨rfl, hk, B2, acc, g2, d2, h2, a2, l2⟩
  have j2 := jd.mono g2.b
  by_cases hlt : k < items.length
  · refine .inr ⟨j2.go k H2 g2.bh hlt, fun H' => ∃ B acc, Gr B1 H1 B H' ∧ B D = none ∧ H' D = some (.lst acc) ∧ DvA X.K B acc (((items.take (k + 1)).filter t).map f) ∧ acc.length ≤ k + 1, fun H' z => ⟨items.length - (k + 1), by omega, rfl, hlt, z⟩, fun y H' yl => ?_⟩
    obtain ⟨e', d, e1, dv⟩ := j2.yld k H2 y H' g2.bh hlt yl
    subst e'
    have hmem : d ∈ items := List.mem_of_getElem? e1
    have tk : items.take (k + 1) = items.take k ++ [d] := by rw [List.take_add_one, e1]; rfl
    have S2 : Sl X.K H0 B2 H' ((σ.set i none).set i (some y)) ((ρ.set i none).set i (some d)) (ownBut i (ownBut i O)) := ((S.gr (g1.trans g2)).wipe (i := i)).set dv
    refine ⟨?_, ht d hmem _ _ _ _ _ S2 fun B3 H3 g3 => ?_⟩
    · show ((σ.set i none).set i (some y)).set i none = σ.set i none
      rw [List.set_set, List.set_set]
    have d3 : B3 D = none := g3.ap D d2 (by rw [h2]; exact fun z => nomatch z)
    have h3 := g3.h D _ h2
    cases et : t d with
    | false =>
      rw [if_neg Bool.false_ne_true]
      refine ⟨B3, acc, g2.trans g3, d3, h3, ?_, Nat.le_succ_of_le l2⟩
      rw [tk, List.filter_append]
      simp only [List.filter_cons, et, List.filter_nil, List.append_nil, Bool.false_eq_true, if_false]
      exact a2.mono g3.b
    | true =>
      rw [if_pos rfl]
      intro s h C cl fp
      refine he d hmem et s h C cl fp H0 B3 H3 _ _ (S2.gr g3) fun v B4 H4 g4 dv4 => ?_
      have d4 : B4 D = none := g4.ap D d3 (by rw [h3]; exact fun z => nomatch z)
      have h4 := g4.h D _ h3
      have gg := g2.trans (g3.trans g4)
      refine ⟨acc, h4, ?_, B4, acc ++ [v], ⟨gg.b, fun a u e => ?_, same_up g4.bh d4, gg.ap⟩, d4, upd_same, ?_, ?_⟩
      · rw [sizeLine_eq]
        omega
      · have ne : a ≠ D := fun z => by
          subst z
          rw [hD] at e
          cases e
        rw [upd_ne ne]
        exact gg.h _ _ e
      · rw [tk, List.filter_append, List.map_append]
        simp only [List.filter_cons, et, List.filter_nil, if_true, List.map_cons, List.map_nil]
        exact (a2.mono (g3.b.trans g4.b)).app (.one dv4)
      · rw [List.length_append]
        simp only [List.length_cons, List.length_nil]
        omega
  · have e' : k = items.length := by omega
    subst e'
    rw [List.take_length] at a2
    refine .inl ⟨j2.stop H2 g2.bh, ?_⟩
    have g3 : Gr B1 H1 (upd B2 D (.lst acc)) H2 := adopt (K := X.K) g2 hD d2 h2
    exact q _ _ _ (g1.trans g3) (.lst upd_same (a2.mono (same_new d2)))
/-- [elt for x in iter] -/
theorem de_lc {i : Nat} {x : Str} {px : Pos} {scope : Scope} {f : PD → PD} (hc : X.calm = true) (hN : X.N.Nodup) (hit : ItD X (.Name x px) iter ρ O items) (ok : blkC X.N X.env.scope scope [(x, i)] = true)
    (hsz : items.length ≤ 1000000) (he : ∀ d ∈ items, ∀ s H C cl fp, DE (blkX X scope s H C cl fp) elt ((ρ.set i none).set i (some d)) (ownBut i (ownBut i O)) (f d))
    (hi : X.N[i]? = some x := by rfl) (hx : ∀ C cl, (compEnvC scope cl C X.env).scope.names.lookup x = some .local := by intro _ _; rfl) (hs : ∀ x, foldedSetIterable iter X.env x = pure x := by intro _; rfl) :
    DE X (.ListComp elt [⟨.Name x px, iter, [], 0⟩] scope pos) ρ O (.list (items.map f)) := by
  have z := lc_main (elt := elt) (px := px) (pos := pos) (ifs := []) (t := fun _ => true) (f := f) (tt := tYes) hc hN hit (blkOk_by ok) hi hx hsz (fun _ _ _ _ _ => pts_nil) (fun d _ H0 B H σ Q S q => q B H (Gr.refl S.bh)) (fun d hd _ => he d hd) hs
  rw [List.filter_eq_self.mpr (fun _ _ => rfl)] at z
  exact z
/-- [elt for x in iter if c] -/
theorem de_lcIf {i : Nat} {x : Str} {px : Pos} {scope : Scope} {t : PD → Bool} {f : PD → PD} (hc : X.calm = true) (hN : X.N.Nodup) (hit : ItD X (.Name x px) iter ρ O items) (ok : blkC X.N X.env.scope scope [(x, i)] = true)
    (hsz : items.length ≤ 1000000) (ht : ∀ d ∈ items, ∀ s H C cl fp, DT (blkX X scope s H C cl fp) c ((ρ.set i none).set i (some d)) (ownBut i (ownBut i O)) (t d)) (he : ∀ d ∈ items, ∀ s H C cl fp, DE (blkX X scope s H C cl fp) elt ((ρ.set i none).set i (some d)) (ownBut i (ownBut i O)) (f d))
    (hi : X.N[i]? = some x := by rfl) (hx : ∀ C cl, (compEnvC scope cl C X.env).scope.names.lookup x = some .local := by intro _ _; rfl) (hs : ∀ x, foldedSetIterable iter X.env x = pure x := by intro _; rfl) :
    DE X (.ListComp elt [⟨.Name x px, iter, [c], 0⟩] scope pos) ρ O (.list ((items.filter t).map f)) :=
  lc_main (elt := elt) (px := px) (pos := pos) (ifs := [c]) (t := t) (f := f) (tt := fun σ H Q => ∀ s h C cl fp, wT (blkX X scope s h C cl fp) c σ H Q) hc hN hit (blkOk_by ok) hi hx hsz (fun s H C cl fp => pts_one ⟨fun pins s' σ H' Q I hq => (hq s H C cl fp).run pins s' I⟩)
    (fun d hd H0 B H σ Q S q s h C cl fp => ht d hd s h C cl fp H0 B H σ Q S q) (fun d hd _ => he d hd) hs
end
/-! ### defs -/
def rho0 (N : List Str) (ds : List PD) : Rho := ds.map some ++ List.replicate (N.length - ds.length) none
theorem sl_start {K : PySem.W.Frag} {B H : Hp} {N : List Str} {vs : List V} {ds : List PD} (s : Same B H) (dv : DvA K B vs ds) : Sl K H B H (L2.start N vs) (rho0 N ds) none := by
  refine ⟨s, by simp [L2.start, rho0, dv.length], fun i d hi => ?_, fun i ds hi => by cases hi⟩
  unfold rho0 at hi
  unfold L2.start
  by_cases hl : i < ds.length
  · rw [List.getElem?_append_left (by simpa using hl), List.getElem?_map] at hi
    obtain ⟨d', e1, e2⟩ := Option.map_eq_some_iff.mp hi
    have e3 : d' = d := Option.some.inj e2
    subst e3
    obtain ⟨v, e4, e5⟩ := dv.get e1
    refine ⟨v, ?_, e5⟩
    rw [List.getElem?_append_left (by rw [List.length_map, dv.length]; exact hl), List.getElem?_map, e4]
    rfl
  · rw [List.getElem?_append_right (by simpa using Nat.le_of_not_lt hl)] at hi
    have z := List.mem_of_getElem? hi
    have z2 := (List.mem_replicate.mp z).2
    cases z2
theorem fn_spF {P : Program} {w : World} {K : PySem.W.Frag} {mg : Str → Option Value} {base : Heap} {CX : CXT} {x qual : Str} {params : Arguments} {body : List Stmt} {scope : Scope} {f : Addr} {fd : FuncData} {N ps : List Str} {k : Nat} {F : List PD → PD → Prop}
    (D : FunD K x qual params body scope [] [] f fd) (S : FnScope N ps scope) (hlen : ∀ ds d, F ds d → ds.length = ps.length)
    (hb : ∀ (ds : List PD) (d : PD) (cdv : Value) (A : Around) (outer : List Env) (s : Shared) (H : Hp) (E : XK), Room k (A.deeper (envOfC qual scope s.heap.objs.size f cdv)) → F ds d →
      DB (cxOf CX P w K mg base N qual scope f cdv A outer s H E) 0 (fun _ _ _ _ => False) body (rho0 N ds) none { nx := fun _ _ => d = .none, rt := fun e => e = d }) : FnOk P w K mg base CX (k + 1) f fd ps (spF K F) := by
  refine D.ok S (fun vs H Q E h => ?_) fun cdv A outer s H vs Q E hr h => ?_
  · obtain ⟨B, ds, d, _, dv, e, _⟩ := h
    rw [dv.length]
    exact hlen _ _ e
  · obtain ⟨B, ds, d, sm, dv, e, q⟩ := h
    refine ⟨_, pwB body, hb ds d cdv A outer s H E hr e B H B _ B H _ (sl_start sm dv) (Gr.refl sm) (Same.refl B) ?_⟩
    refine ⟨fun σ B' H' ρ O z S' g r => ?_, fun d' v B' H' z dv' g => ?_, fun _ _ _ _ _ z => z.elim, fun _ _ _ _ _ z => z.elim, fun _ _ _ _ _ z => z.elim⟩
    · have z' : d = .none := z
      subst z'
      exact q _ _ _ g .non
    · have z' : d' = d := z
      subst z'
      exact q _ _ _ g dv'
end K5
end PartDL5
section PartDL6
set_option maxRecDepth 100000
set_option maxHeartbeats 4000000
/-! The data layer: special readings. -/
namespace K5
open PySem PySem.Spec PyProof.Rows L2
section
variable {X : Cx} {ρ : Rho} {O : Own} {d d1 d2 : PD} {a b c e : Expr} {es : List Expr} {pos p : Pos}
/-! ### x > y of texts -/
theorem op_gt_str : OpR X (compareOp .Gt) (fun x y H Q => ∃ i j, x = .str i ∧ y = .str j ∧ Q (.bl (decide (j.cps.toList < i.cps.toList))) H) := by
  intro pins s σ H x y v u Q I rx ry h
  obtain ⟨i, j, rfl, rfl, q⟩ := h
  obtain ⟨t, rfl⟩ := rx
  obtain ⟨t', rfl⟩ := ry
  exact PySem.P.gt_str (fin_bl I q rfl)
theorem od_gtS {K : PySem.W.Frag} {x y : Str} : OpD K (fun x y H Q => ∃ i j, x = .str i ∧ y = .str j ∧ Q (.bl (decide (j.cps.toList < i.cps.toList))) H) (.str x) (.str y) (.bool (sLt y x)) := .keep fun B H u v Q s dx dy q => ⟨x, y, dx.str_, dy.str_, q _ (.bl _)⟩
/-! ### tuple * k, k = 1 or less -/
theorem tuple_mul1 (l : Addr) (items : Array Value) (n : Nat) (dd : Option Addr) (sl : Array (Option Value)) (u : Tok) :
    Meets (Builtin.«tuple.__mul__» ⟨[.ref l, .int 1 u], []⟩) (fun _ R s => s.heap.get? l = some { cls := .type "tuple", dict := dd, data := .seq items n, slots := sl } ∧ R (.ok (.ret (Value.ref l))) s) :=
  .of_wp fun prog w A R s h => by
    obtain ⟨hp, g, d, tk, os⟩ := s
    obtain ⟨hl, h⟩ := h
    have f1 := AutoSeq1.idx_int
    wp_walk using wpAny_loadPart' hl
    exact ⟨_, rfl, h⟩
theorem tuple_mul0 (l : Addr) (items : Array Value) (n : Nat) (dd : Option Addr) (sl : Array (Option Value)) (x : Int) (u : Tok) (c0 : (decide (x < -(2 ^ 63)) || decide (x ≥ 2 ^ 63)) = false) (c1 : (items.isEmpty || x == 1) = false) (c2 : (decide (x ≤ 0) || items.isEmpty) = true) :
    Meets (Builtin.«tuple.__mul__» ⟨[.ref l, .int x u], []⟩) (fun _ R s => s.heap.get? l = some { cls := .type "tuple", dict := dd, data := .seq items n, slots := sl } ∧
      R (.ok (.ret (Value.ref s.heap.objs.size))) { s with heap := s.heap.push { cls := Value.type "tuple", data := Data.seq #[] }, toks := s.toks }) :=
  .of_wp fun prog w A R s h => by
    obtain ⟨hp, g, d, tk, os⟩ := s
    obtain ⟨hl, h⟩ := h
    have f1 := AutoSeq1.idx_int
    wp_walk using wpAny_loadPart' hl
    repeat (first
      | (refine wpAny_ite_false (decide_eq_false (by rw [c0]; exact Bool.false_ne_true)) ?_; wp_walk using wpAny_loadPart' hl)
      | (refine wpAny_ite_false (decide_eq_false (by rw [c1]; exact Bool.false_ne_true)) ?_; wp_walk using wpAny_loadPart' hl)
      | (refine wpAny_ite_true (decide_eq_true c2) ?_; wp_walk using wpAny_loadPart' hl))
    exact ⟨_, rfl, h⟩

/-- a tuple repeated once, or not at all -/
def rRepS (K : PySem.W.Frag) : R2 := fun x y H Q => ∃ l k xs, x = .ref l ∧ y = .int k ∧ SqT K H l xs ∧ xs ≠ [] ∧ ((k = 1 ∧ Q (.ref l) H) ∨ (k ≤ 0 ∧ -1000 ≤ k ∧ ∀ p, H p = none → Q (.ref p) (upd H p (.tup []))))
theorem op_repS : OpR X (binaryOp .Mult) (rRepS X.K) := by
  intro pins s σ H x y v u Q I rx ry h
  obtain ⟨l, k, xs, rfl, rfl, hT, hne, q⟩ := h
  cases rx
  obtain ⟨t, rfl⟩ := ry
  obtain ⟨its, r, ⟨⟨cls, dd, data, sl⟩, ho, hc, n, hd⟩, hs⟩ := I.tuple hT
  simp only at hc hd
  subst hc hd
  have hn : its ≠ [] := fun e => hne (by
    have z := r.length
    rw [e] at z
    exact List.eq_nil_of_length_eq_zero z)
  have hi : its.toArray.isEmpty = false := by
    cases its with
    | nil => exact absurd rfl hn
    | cons a b => rfl
  rcases q with ⟨rfl, q⟩ | ⟨h0, h1, q⟩
  · refine wpAny_binaryOp_repeat_ref (T := "tuple") (U := "int") (by decide) ⟨_, ho, rfl⟩ (fun s' => typeIs_int s' 1 t) noFill_tuple_mul F.fills_int_mul F.slot_int_rmul repeat_tuple F.slot_int_index.lookup
      (call_meets F.slot_int_rmul (typeIs_int s 1 t) F.entry_int_rmul (F.args_int_rmul_2 _ _) (int_rmul_tuple 1 t l its.toArray n dd sl)
        ⟨ho, rfl, ⟨_, ho, rfl⟩, call_meets F.slot_tuple_mul ⟨_, ho, rfl⟩ F.entry_tuple_mul (F.args_tuple_mul_2 _ _) (tuple_mul1 l its.toArray n dd sl t) ⟨ho, ?_⟩⟩)
    exact ⟨.ref l, H, I, rfl, q⟩
  · have c0 : (decide (k < -(2 ^ 63)) || decide (k ≥ 2 ^ 63)) = false := by
      rw [decide_eq_false (by omega), decide_eq_false (by omega)] <;> rfl
    have c1 : (its.toArray.isEmpty || k == 1) = false := by
      rw [hi, Bool.false_or]
      exact beq_eq_false_iff_ne.mpr (by omega)
    have c2 : (decide (k ≤ 0) || its.toArray.isEmpty) = true := by
      rw [decide_eq_true h0, Bool.true_or]
    refine wpAny_binaryOp_repeat_ref (T := "tuple") (U := "int") (by decide) ⟨_, ho, rfl⟩ (fun s' => typeIs_int s' k t) noFill_tuple_mul F.fills_int_mul F.slot_int_rmul repeat_tuple F.slot_int_index.lookup
      (call_meets F.slot_int_rmul (typeIs_int s k t) F.entry_int_rmul (F.args_int_rmul_2 _ _) (int_rmul_tuple k t l its.toArray n dd sl)
        ⟨ho, rfl, ⟨_, ho, rfl⟩, call_meets F.slot_tuple_mul ⟨_, ho, rfl⟩ F.entry_tuple_mul (F.args_tuple_mul_2 _ _) (tuple_mul0 l its.toArray n dd sl k t c0 c1 c2) ⟨ho, ?_⟩⟩)
    refine ⟨.ref s.heap.objs.size, _, I.laid (t' := s.toks) (o := .tup []) (fun b ob q => Heap.get?_push_of_some _ q) (Nat.le_refl _) ?_, rfl, q _ (I.hok.fresh (Nat.le_refl _))⟩
    exact ⟨by rw [sizeLine_eq]; exact Nat.zero_le _, [], .nil, IsTup.new _ _⟩
theorem op_repA : OpR X (binaryOp .Mult) (fun x y H Q => rRepT X.K x y H Q ∨ rRepS X.K x y H Q) := op_repT.or op_repS
theorem de_rep {xs : List PD} {k : Int} (ha : DE X a ρ O (.tuple xs)) (hb : DE X b ρ O (.int k)) (hx : xs ≠ []) (h1 : -1000 ≤ k) (h2 : k ≤ 1000) (h3 : xs.length ≤ 1000) : DE X (.BinOp a .Mult b pos) ρ O (.tuple (List.replicate k.toNat xs).flatten) :=
  de_op op_repA ha hb fun B H u v Q s dx dy q => by
    obtain ⟨p1, us, rfl, s1, a1⟩ := dx.tup_
    have hu : us ≠ [] := fun z => by
      subst z
      cases a1
      exact hx rfl
    by_cases hk : 2 ≤ k
    · exact .inl ⟨p1, k, us, rfl, dy.int_, same_tup s s1, hu, hk, h2, by rw [a1.length]; exact h3, fun p hp => q _ _ _ (Gr.new s hp) (.tup (SqT.of upd_same) ((a1.rep _).mono (same_new (s.free hp))))⟩
    · refine .inr ⟨p1, k, us, rfl, dy.int_, same_tup s s1, hu, ?_⟩
      by_cases h0 : k = 1
      · subst h0
        refine .inl ⟨rfl, q _ _ _ (Gr.refl s) ?_⟩
        have e : (List.replicate (1 : Int).toNat xs).flatten = xs := by simp
        rw [e]
        exact .tup s1 a1
      · refine .inr ⟨by omega, h1, fun p hp => q _ _ _ (Gr.new s hp) ?_⟩
        have e : (List.replicate k.toNat xs).flatten = [] := by
          rw [show k.toNat = 0 by omega]
          rfl
        rw [e]
        exact .tup (SqT.of upd_same) .nil
/-! ### a dict of the module with text keys -/
theorem de_kd {x : Str} {d0 : Addr} {es : Array DictEntry} {n : Nat} {z : Str} {u0 : Value} {v0 : V} {p2 : Pos} (D : KDict X.K X.w d0 es n) (hm : X.mg x = some (.ref d0)) (hu : PySem.W.nsIn X.K d0 z = some (some u0)) (hr : RelV v0 u0) (hv : DvK X.K v0 d) (hi : DE X e ρ O (.str z)) (hg : Gl X x := by rfl)
    (hs : NoSl e := by intro _ _; rfl) (hd : (x == ("__debug__" : Str)) = false := by decide) : DE X (.Subscript (.Name x p2) e pos) ρ O d := by
  refine .mk (t := fun σ H Q => wE X e σ H fun y H2 => y = .str z ∧ Q v0 H2) ?_ fun S Q q => hi _ _ _ _ _ S fun y B1 H1 g1 dy => ⟨dy.str_, q _ _ _ g1 (hv _)⟩
  refine ⟨fun pins s σ H Q I h => ?_⟩
  refine subD_of PySem.F.slot_dict_getitem.lookup hs (thn ((pe_glob (v := .ref d0) hg hm rfl hd).run pins s σ H (fun x H1 => x = .ref d0 ∧ H1 = H) I ⟨rfl, rfl⟩) fun u s1 ⟨x1, H1, I1, rx, ex, eh⟩ => ?_)
  subst ex eh
  refine thn ((pwE e).run pins s1 σ H1 _ I1 h) fun iv s2 ⟨y, H2, I2, ry, ey, q2⟩ => ?_
  obtain rfl : u = Value.ref d0 := rx
  exact ⟨kd_type D I2, op_item_kd D pins s2 σ H2 (.ref d0) y _ _ Q I2 rfl ry ⟨z, u0, v0, rfl, ey, hu, hr, q2⟩⟩
/-- the same, a function found there: no data -/
theorem pe_kdF {x : Str} {d0 : Addr} {es : Array DictEntry} {n : Nat} {z : Str} {f : Addr} {p2 : Pos} (D : KDict X.K X.w d0 es n) (hm : X.mg x = some (.ref d0)) (hu : PySem.W.nsIn X.K d0 z = some (some (.ref f))) (hg : Gl X x := by rfl)
    (hs : NoSl e := by intro _ _; rfl) (hd : (x == ("__debug__" : Str)) = false := by decide) : PE X (.Subscript (.Name x p2) e pos) (fun σ H Q => wE X e σ H fun y H2 => y = .str z ∧ Q (.ref f) H2) := by
  refine ⟨fun pins s σ H Q I h => ?_⟩
  refine subD_of PySem.F.slot_dict_getitem.lookup hs (thn ((pe_glob (v := .ref d0) hg hm rfl hd).run pins s σ H (fun x H1 => x = .ref d0 ∧ H1 = H) I ⟨rfl, rfl⟩) fun u s1 ⟨x1, H1, I1, rx, ex, eh⟩ => ?_)
  subst ex eh
  refine thn ((pwE e).run pins s1 σ H1 _ I1 h) fun iv s2 ⟨y, H2, I2, ry, ey, q2⟩ => ?_
  obtain rfl : u = Value.ref d0 := rx
  exact ⟨kd_type D I2, op_item_kd D pins s2 σ H2 (.ref d0) y _ _ Q I2 rfl ry ⟨z, .ref f, .ref f, rfl, ey, hu, rfl, q2⟩⟩
/-! ### a dict of the module whose keys are tuples of texts -/
structure TDict (P : Program) (w : World) (K : PySem.W.Frag) (d0 : Addr) (kvs : List (List Str × List Str)) : Prop where
  low : (d0 == sysModules) = false
  at_ : ∃ xs : List (List Str × Addr × Value), (∀ h, K.In h → h.DictOfH (tupleKind (strKind P w)) d0 xs) ∧ Paired (fun x kv => x.1 = kv.1 ∧ ∃ b, x.2.2 = .ref b ∧ ∀ H, SqT K H b (kv.2.map V.str)) xs kvs
def shapeOf (kvs : List (List Str × List Str)) (k : List Str) : PD := match (kvs.find? fun kv => decide (kv.1 = k)).map (·.2) with
  | some v => .tuple (v.map PyData.str)
  | none => .none
theorem find_paired {K : PySem.W.Frag} {k : List Str} : ∀ {xs : List (List Str × Addr × Value)} {kvs : List (List Str × List Str)}, Paired (fun x kv => x.1 = kv.1 ∧ ∃ b, x.2.2 = .ref b ∧ ∀ H, SqT K H b (kv.2.map V.str)) xs kvs →
    (atKey xs k = none ∧ (kvs.find? fun kv => decide (kv.1 = k)) = none) ∨ ∃ a b v, atKey xs k = some (a, .ref b) ∧ (kvs.find? fun kv => decide (kv.1 = k)).map (·.2) = some v ∧ ∀ H, SqT K H b (v.map V.str)
  | _, _, .nil => .inl ⟨rfl, rfl⟩
  | x :: xs, kv :: kvs, .cons h t => by
    obtain ⟨e1, b, e2, h2⟩ := h
    unfold atKey
    by_cases e : kv.1 = k
    · refine .inr ⟨x.2.1, b, kv.2, ?_, ?_, h2⟩
      · rw [List.find?_cons, decide_eq_true (e1.trans e)]
        show some x.2 = _
        rw [← e2]
      · rw [List.find?_cons, decide_eq_true e]
        rfl
    · rw [List.find?_cons, decide_eq_false (fun z => e (e1.symm.trans z)), List.find?_cons, decide_eq_false e]
      exact find_paired t
theorem DvK.strs {K : PySem.W.Frag} {b : Addr} {v : List Str} (h : ∀ H, SqT K H b (v.map V.str)) : DvK K (.ref b) (.tuple (v.map PyData.str)) := fun B => .tup (h B) (by
  clear h
  induction v with
  | nil => exact .nil
  | cons x r ih => exact .cons (.str x) ih)
theorem strs_items {P : Program} {w : World} : ∀ (ks : List Str) (its : List Value), Vals (ks.map V.str) its → ItemsAre (strKind P w) ks its
  | [], _, .nil => .nil
  | k :: r, _, .cons h t => by
    obtain ⟨tk, rfl⟩ := h
    exact .cons (by show Value.isStrOf k (.str k tk) = true; simp [Value.isStrOf]) (strs_items r _ t)
theorem de_tget {x : Str} {d0 : Addr} {kvs : List (List Str × List Str)} {ks : List Str} {p2 apos cpos : Pos} (D : TDict X.prog X.w X.K d0 kvs) (hc : X.A.units + 64 < cLine) (hm : X.mg x = some (.ref d0)) (hi : DE X e ρ O (.tuple (ks.map PyData.str))) (hg : Gl X x := by rfl)
    (hd : (x == ("__debug__" : Str)) = false := by decide) (hbase : attributeBase (.Name x p2) "get" X.env (eval (.Name x p2) X.env) = eval (.Name x p2) X.env := by rfl)
    (hfew : ((backTo cpos (starEach [e] X.env)).all (fun x => !x.1) && (backToKw cpos (keywordEach [] X.env)).all (fun x => x.1.isSome)
      && decide ([e].length + ([] : List Keyword).length + (if ([] : List Keyword).isEmpty then 0 else 1) < 30)) = true := by rfl)
    (hline : (apos.endLine == cpos.line) = true := by rfl) (hs : starEach [e] X.env = (false, eval e X.env) :: starEach [] X.env := by rfl) : DE X (.Call (.Attribute (.Name x p2) "get" apos) [e] [] cpos) ρ O (shapeOf kvs ks) := by
  obtain ⟨xs, hat, hpr⟩ := D.at_
  refine .mk (t := fun σ H Q => wA X [e] σ H fun vs H2 => ∃ a, vs = [.ref a] ∧ SqT X.K H2 a (ks.map V.str) ∧ ∀ v, DvK X.K v (shapeOf kvs ks) → Q v H2) ?_ fun S Q q => da_cons hi da_nil hs _ _ _ _ _ S fun vs B1 H1 g1 dvs => ?_
  · refine ⟨fun pins s σ H Q I h => ?_⟩
    refine wpAny_Call_method_late hbase hfew hline rfl (thn ((pe_glob (v := .ref d0) hg hm rfl hd).run pins s σ H (fun x H1 => x = .ref d0 ∧ H1 = H) I ⟨rfl, rfl⟩) fun u s1 ⟨x1, H1, I1, rx, ex, eh⟩ => ?_)
    subst ex eh
    obtain rfl : u = Value.ref d0 := rx
    obtain ⟨o, es', ep, ho, hex, hdat, _⟩ := hat _ I1.kIn
    refine ⟨"dict", "dict.get", PySem.F.plainAttrs_dict, PySem.F.slot_dict_get, PySem.F.type_dict_get, ⟨o, ho, hex.1⟩, fun a ea => ?_, ?_⟩
    · cases ea
      exact ⟨o, ho, hex.2.1⟩
    have hA := (pwA [e]).run cpos pins s1 σ H1 _ I1 h
    rw [hs] at hA ⊢
    refine Calls.callWith_builtin rfl (Calls.evalArgs_plain ?_)
    refine thn hA fun us s2 ⟨vs, H2, I2, r2, a, evs, hT, q2⟩ => ?_
    subst evs
    obtain ⟨u, rfl, ru⟩ := vals1 r2
    obtain rfl : u = Value.ref a := ru
    obtain ⟨its, rv, ⟨o2, ho2, hc2, n2, hd2⟩, hz⟩ := I2.tuple hT
    have key : IsTupleKey (strKind X.prog X.w) s2.heap ks a := by
      refine ⟨o2, _, n2, ho2, hc2, hd2, ?_⟩
      rw [List.toList_toArray]
      exact strs_items ks its rv
    refine get_keyed (knd := tupleKind (strKind X.prog X.w)) (kvs := pairsH xs) (show X.A.in1.units < cLine by show X.A.units + 1 < cLine; omega) key D.low ⟨xs, hat _ I2.kIn, rfl⟩ ?_
    rw [valueAt_pairsH]
    rcases find_paired (k := ks) hpr with ⟨e1, e2⟩ | ⟨a', b', v', e1, e2, h2⟩
    · have z : shapeOf kvs ks = .none := by
        unfold shapeOf
        rw [e2]
        rfl
      rw [e1]
      rw [z] at q2
      exact ⟨.non, H2, I2.tok _, rfl, q2 .non fun B => .non⟩
    · have z : shapeOf kvs ks = .tuple (v'.map PyData.str) := by
        unfold shapeOf
        rw [e2]
      rw [e1]
      rw [z] at q2
      exact ⟨.ref b', H2, I2.tok _, rfl, q2 (.ref b') (DvK.strs h2)⟩
  · obtain ⟨v, rfl, dv⟩ := dvs.one_
    obtain ⟨a', us, rfl, s1, a1⟩ := dv.tup_
    have eu := a1.strs
    subst eu
    exact ⟨a', rfl, same_tup g1.bh s1, fun v hv => q v _ _ g1 (hv _)⟩
end
end K5
end PartDL6
section PartPR
set_option maxRecDepth 100000
set_option maxHeartbeats 4000000
/-! The program's statements; facts that its defs lean on. -/
namespace K5
open PySem PySem.Spec PyProof.Rows L2
abbrev prg : Program := PySem.Challenge.pw_wokenlives_k55_whole_book_replay
abbrev topS (i : Nat) : Stmt := prg.main.body.getD i (.Pass ⟨0, 0, 0, 0⟩)
def fArgs : Stmt → Arguments
  | .FunctionDef _ a _ _ _ _ _ _ _ _ => a
  | _ => ⟨[], [], none, [], [], none, []⟩
def fBody : Stmt → List Stmt
  | .FunctionDef _ _ b _ _ _ _ _ _ _ => b
  | _ => []
def fScope : Stmt → Scope
  | .FunctionDef _ _ _ _ _ _ s _ _ _ => s
  | _ => ⟨.function, [], false, false, []⟩
/-- a def as it stands behind the top -/
abbrev FnP (K : PySem.W.Frag) (x : Str) (i : Nat) (f : Addr) (fd : FuncData) : Prop := FunD K x x (fArgs (topS i)) (fBody (topS i)) (fScope (topS i)) [] [] f fd
theorem fnD_of {P : Program} {w : World} {K : PySem.W.Frag} {mg : Str → Option Value} {base : Heap} {CX : CXT} {k : Nat} {x : Str} {i : Nat} {f : Addr} {fd : FuncData} {ps : List Str} {F : List PD → PD → Prop} (D : FnP K x i f fd) (hm : mg x = some (.ref f)) (h : FnOk P w K mg base CX k f fd ps (spF K F))
    (hb : Binds K fd ps []) : FnD P w K mg base CX k x ps F := ⟨f, fd, h, hm, D.kp, hb⟩
end K5
end PartPR
section PartDL7
set_option maxRecDepth 100000
set_option maxHeartbeats 4000000
/-! Kinds of data; plain data; equal data. -/
namespace K5
open PySem PySem.Spec PyProof.Rows L2
def isIntD : PD → Bool | .int _ => true | .bool _ => true | _ => false
def isBoolD : PD → Bool | .bool _ => true | _ => false
def isStrD : PD → Bool | .str _ => true | _ => false
def isTupD : PD → Bool | .tuple _ => true | _ => false
def isLstD : PD → Bool | .list _ => true | .dict _ => true | _ => false
theorem kit_int_NoneType : kitB "NoneType" "int" = some false := by decide +kernel
theorem kit_int_bool : kitB "bool" "int" = some true := by decide +kernel
theorem kit_int_int : kitB "int" "int" = some true := by decide +kernel
theorem kit_int_str : kitB "str" "int" = some false := by decide +kernel
theorem kit_int_list : kitB "list" "int" = some false := by decide +kernel
theorem kit_int_tuple : kitB "tuple" "int" = some false := by decide +kernel
theorem kit_int (d : PD) : kitB (tyName d) "int" = some (isIntD d) := by cases d <;> first | exact kit_int_NoneType | exact kit_int_bool | exact kit_int_int | exact kit_int_str | exact kit_int_list | exact kit_int_tuple
theorem kit_bool_NoneType : kitB "NoneType" "bool" = some false := by decide +kernel
theorem kit_bool_bool : kitB "bool" "bool" = some true := by decide +kernel
theorem kit_bool_int : kitB "int" "bool" = some false := by decide +kernel
theorem kit_bool_str : kitB "str" "bool" = some false := by decide +kernel
theorem kit_bool_list : kitB "list" "bool" = some false := by decide +kernel
theorem kit_bool_tuple : kitB "tuple" "bool" = some false := by decide +kernel
theorem kit_bool (d : PD) : kitB (tyName d) "bool" = some (isBoolD d) := by cases d <;> first | exact kit_bool_NoneType | exact kit_bool_bool | exact kit_bool_int | exact kit_bool_str | exact kit_bool_list | exact kit_bool_tuple
theorem kit_str_NoneType : kitB "NoneType" "str" = some false := by decide +kernel
theorem kit_str_bool : kitB "bool" "str" = some false := by decide +kernel
theorem kit_str_int : kitB "int" "str" = some false := by decide +kernel
theorem kit_str_str : kitB "str" "str" = some true := by decide +kernel
theorem kit_str_list : kitB "list" "str" = some false := by decide +kernel
theorem kit_str_tuple : kitB "tuple" "str" = some false := by decide +kernel
theorem kit_str (d : PD) : kitB (tyName d) "str" = some (isStrD d) := by cases d <;> first | exact kit_str_NoneType | exact kit_str_bool | exact kit_str_int | exact kit_str_str | exact kit_str_list | exact kit_str_tuple
theorem kit_tuple_NoneType : kitB "NoneType" "tuple" = some false := by decide +kernel
theorem kit_tuple_bool : kitB "bool" "tuple" = some false := by decide +kernel
theorem kit_tuple_int : kitB "int" "tuple" = some false := by decide +kernel
theorem kit_tuple_str : kitB "str" "tuple" = some false := by decide +kernel
theorem kit_tuple_list : kitB "list" "tuple" = some false := by decide +kernel
theorem kit_tuple_tuple : kitB "tuple" "tuple" = some true := by decide +kernel
theorem kit_tuple (d : PD) : kitB (tyName d) "tuple" = some (isTupD d) := by cases d <;> first | exact kit_tuple_NoneType | exact kit_tuple_bool | exact kit_tuple_int | exact kit_tuple_str | exact kit_tuple_list | exact kit_tuple_tuple
theorem kit_list_NoneType : kitB "NoneType" "list" = some false := by decide +kernel
theorem kit_list_bool : kitB "bool" "list" = some false := by decide +kernel
theorem kit_list_int : kitB "int" "list" = some false := by decide +kernel
theorem kit_list_str : kitB "str" "list" = some false := by decide +kernel
theorem kit_list_list : kitB "list" "list" = some true := by decide +kernel
theorem kit_list_tuple : kitB "tuple" "list" = some false := by decide +kernel
theorem kit_list (d : PD) : kitB (tyName d) "list" = some (isLstD d) := by cases d <;> first | exact kit_list_NoneType | exact kit_list_bool | exact kit_list_int | exact kit_list_str | exact kit_list_list | exact kit_list_tuple
/-- plain, without bools -/
def okD (L : Nat) : Nat → PD → Bool
  | _, .none => true
  | _, .int _ => true
  | _, .str x => PyData.strOk x && decide (x.length ≤ L)
  | n + 1, .tuple ds => ds.all (okD L n)
  | n + 1, .list ds => ds.all (okD L n)
  | _, _ => false
theorem okD_mono {L : Nat} : ∀ {n m : Nat} {d : PD}, n ≤ m → okD L n d = true → okD L m d = true
  | _, _, .none, _, _ => by unfold okD; rfl
  | _, _, .int _, _, _ => by unfold okD; rfl
  | _, _, .str _, _, h => by unfold okD at h ⊢; exact h
  | 0, _, .tuple ds, _, h => by simp [okD] at h
  | n + 1, 0, .tuple ds, l, _ => by omega
  | n + 1, m + 1, .tuple ds, l, h => by
    simp only [okD, List.all_eq_true] at h ⊢
    exact fun d hd => okD_mono (by omega) (h d hd)
  | 0, _, .list ds, _, h => by simp [okD] at h
  | n + 1, 0, .list ds, l, _ => by omega
  | n + 1, m + 1, .list ds, l, h => by
    simp only [okD, List.all_eq_true] at h ⊢
    exact fun d hd => okD_mono (by omega) (h d hd)
  | 0, _, .bool _, _, h => by simp [okD] at h
  | n + 1, _, .bool _, _, h => by simp [okD] at h
  | 0, _, .dict _, _, h => by simp [okD] at h
  | n + 1, _, .dict _, _, h => by simp [okD] at h
theorem lay_all : ∀ {ds : List PD}, (∀ d ∈ ds, d.canLay0 = true) → PyData.canLayAll0 ds = true
  | [], _ => by unfold PyData.canLayAll0; rfl
  | d :: r, h => by
    unfold PyData.canLayAll0
    rw [h d (List.mem_cons_self ..), lay_all fun x hx => h x (List.mem_cons_of_mem _ hx)]
    rfl
theorem depth_all {n : Nat} : ∀ {ds : List PD}, (∀ d ∈ ds, d.depth ≤ n) → PyData.depthAll ds ≤ n
  | [], _ => by unfold PyData.depthAll; exact Nat.zero_le _
  | d :: r, h => by
    unfold PyData.depthAll
    exact Nat.max_le.mpr ⟨h d (List.mem_cons_self ..), depth_all fun x hx => h x (List.mem_cons_of_mem _ hx)⟩
theorem okD_lay {L : Nat} : ∀ {n : Nat} {d : PD}, okD L n d = true → d.canLay0 = true ∧ d.depth ≤ n + 1
  | _, .none, _ => ⟨rfl, by simp [PyData.depth]⟩
  | _, .int _, _ => ⟨rfl, by simp [PyData.depth]⟩
  | _, .str _, h => ⟨by unfold okD at h; unfold PyData.canLay0; exact (Bool.and_eq_true_iff.mp h).1, by simp [PyData.depth]⟩
  | n + 1, .tuple ds, h => by
    simp only [okD, List.all_eq_true] at h
    refine ⟨?_, ?_⟩
    · unfold PyData.canLay0
      exact lay_all fun d hd => (okD_lay (h d hd)).1
    · have z := depth_all (n := n + 1) (ds := ds) fun d hd => (okD_lay (h d hd)).2
      unfold PyData.depth
      omega
  | n + 1, .list ds, h => by
    simp only [okD, List.all_eq_true] at h
    refine ⟨?_, ?_⟩
    · unfold PyData.canLay0
      exact lay_all fun d hd => (okD_lay (h d hd)).1
    · have z := depth_all (n := n + 1) (ds := ds) fun d hd => (okD_lay (h d hd)).2
      unfold PyData.depth
      omega
  | 0, .tuple ds, h => by simp [okD] at h
  | 0, .list ds, h => by simp [okD] at h
  | 0, .bool _, h => by simp [okD] at h
  | n + 1, .bool _, h => by simp [okD] at h
  | 0, .dict _, h => by simp [okD] at h
  | n + 1, .dict _, h => by simp [okD] at h
theorem okD_sh {L n : Nat} {d : PD} (hn : n ≤ 63) (h : okD L n d = true) : SeqAt.shaped d = true := by
  obtain ⟨h1, h2⟩ := okD_lay h
  unfold SeqAt.shaped
  rw [h1, decide_eq_true (by omega)]
  rfl
theorem eq_ok {L : Nat} {d e : PD} (h : okD L 63 d = true) (g : okD L 63 e = true) : eqOk d e = true := by
  unfold eqOk
  rw [okD_sh (Nat.le_refl _) h, okD_sh (Nat.le_refl _) g]
  exact Bool.or_true _
mutual
theorem eqv_ok (L : Nat) : ∀ (n : Nat) (d e : PD), okD L n d = true → okD L n e = true → PyData.eqv d e = true → d = e
  | n, .none, e, _, h, q => by cases e <;> first | rfl | (simp [PyData.eqv] at q) | (cases n <;> simp [okD] at h)
  | n, .int i, e, _, h, q => by
    cases e <;> first | (simp [PyData.eqv] at q; rw [q]) | (simp [PyData.eqv] at q) | (cases n <;> simp [okD] at h)
    cases n <;> simp [okD] at h
  | n, .str i, e, _, h, q => by cases e <;> first | (simp [PyData.eqv] at q; rw [q]) | (simp [PyData.eqv] at q)
  | n + 1, .tuple ds, e, h, h2, q => by
    cases e <;> first | (simp [PyData.eqv] at q; done) | skip
    rename_i es
    simp only [okD, List.all_eq_true] at h h2
    unfold PyData.eqv at q
    rw [eqv_oks L n ds es h h2 q]
  | n + 1, .list ds, e, h, h2, q => by
    cases e <;> first | (simp [PyData.eqv] at q; done) | skip
    rename_i es
    simp only [okD, List.all_eq_true] at h h2
    unfold PyData.eqv at q
    rw [eqv_oks L n ds es h h2 q]
  | 0, .tuple ds, _, h, _, _ => by simp [okD] at h
  | 0, .list ds, _, h, _, _ => by simp [okD] at h
  | 0, .bool _, _, h, _, _ => by simp [okD] at h
  | n + 1, .bool _, _, h, _, _ => by simp [okD] at h
  | 0, .dict _, _, h, _, _ => by simp [okD] at h
  | n + 1, .dict _, _, h, _, _ => by simp [okD] at h
theorem eqv_oks (L : Nat) : ∀ (n : Nat) (ds es : List PD), (∀ d ∈ ds, okD L n d = true) → (∀ d ∈ es, okD L n d = true) → PyData.eqvAll ds es = true → ds = es
  | _, [], [], _, _, _ => rfl
  | _, [], _ :: _, _, _, q => by simp [PyData.eqvAll] at q
  | _, _ :: _, [], _, _, q => by simp [PyData.eqvAll] at q
  | n, d :: ds, e :: es, h, g, q => by
    simp only [PyData.eqvAll, Bool.and_eq_true] at q
    rw [eqv_ok L n d e (h d (List.mem_cons_self ..)) (g e (List.mem_cons_self ..)) q.1, eqv_oks L n ds es (fun x hx => h x (List.mem_cons_of_mem _ hx)) (fun x hx => g x (List.mem_cons_of_mem _ hx)) q.2]
end
theorem eqv_self {L n : Nat} {d : PD} (h : okD L n d = true) : PyData.eqv d d = true := SeqAt.eqv_refl d (okD_lay h).1
theorem eqv_dec {L n : Nat} {d e : PD} (h : okD L n d = true) (g : okD L n e = true) : PyData.eqv d e = true ↔ d = e :=
  ⟨eqv_ok L n d e h g, fun z => by rw [z]; exact eqv_self g⟩
theorem eqv_ne {L n : Nat} {d e : PD} (h : okD L n d = true) (g : okD L n e = true) : PyData.eqv d e = false ↔ d ≠ e := by
  rw [← Bool.not_eq_true, eqv_dec h g]
theorem eqv_str (x y : Str) : PyData.eqv (.str x) (.str y) = decide (x = y) := by
  unfold PyData.eqv
  rfl
theorem eqv_int (x y : Int) : PyData.eqv (.int x) (.int y) = decide (x = y) := by
  unfold PyData.eqv
  rfl
section
variable {ρ : Rho} {O : Own} {N : Rho → Own → Prop} {d : PD} {r : List PD} {f : PD → Rho → Own → (Rho → Own → Prop) → Prop} {fs : List PD → Rho → Own → (Rho → Own → Prop) → Prop}
theorem f_tup {n : Nat} (h : fs r ρ O N) (hl : r.length = n := by rfl) : fTup n fs (.tuple r) ρ O N := ⟨r, rfl, hl, h⟩
theorem f_cons (h : f d ρ O fun ρ' O' => fs r ρ' O' N) : fCons f fs (d :: r) ρ O N := ⟨d, r, rfl, h⟩
theorem f_nil (h : N ρ O) : fNil [] ρ O N := ⟨rfl, h⟩
theorem f_name {i : Nat} (h : N (ρ.set i (some d)) (ownBut i O)) : fName i d ρ O N := h
end
end K5
end PartDL7
section PartDL8
set_option maxRecDepth 100000
set_option maxHeartbeats 4000000
/-! More rules of the data layer. -/
namespace K5
open PySem PySem.Spec PyProof.Rows L2
theorem DE.cast {X : Cx} {e : Expr} {ρ : Rho} {O : Own} {d d' : PD} (h : DE X e ρ O d) (q : d = d') : DE X e ρ O d' := q ▸ h
theorem DT.cast {X : Cx} {e : Expr} {ρ : Rho} {O : Own} {d d' : Bool} (h : DT X e ρ O d) (q : d = d') : DT X e ρ O d' := q ▸ h
section
variable {X : Cx} {C : Addr} {W : WX} {ρ : Rho} {O : Own} {P : DP} {d : PD} {a b c e : Expr} {es : List Expr} {pos p : Pos} {st : Stmt} {rest body : List Stmt}
theorem ds_app (i : Nat) {x : Str} {px pa pc : Pos} {ds : List PD} (hO : O = some (i, ds)) (he : DE X e ρ O d) (hl : ds.length ≤ 1000000) (h : P.nx ρ (some (i, ds ++ [d]))) (hN : X.N[i]? = some x := by rfl) (hv : Vis X.env.scope x := by first | exact .inl rfl | exact .inr (.inl rfl)) (hd : (x == ("__debug__" : Str)) = false := by decide) (hcd : (x == ("__classdict__" : Str)) = false := by decide)
    (hbase : attributeBase (.Name x px) "append" X.env (eval (.Name x px) X.env) = eval (.Name x px) X.env := by rfl)
    (hfew : ((backTo pc (starEach [e] X.env)).all (fun x => !x.1) && (backToKw pc (keywordEach [] X.env)).all (fun x => x.1.isSome)
      && decide ([e].length + ([] : List Keyword).length + (if ([] : List Keyword).isEmpty then 0 else 1) < 30)) = true := by rfl)
    (hline : (pa.endLine == pc.line) = true := by rfl) (hs : starEach [e] X.env = (false, eval e X.env) :: starEach [] X.env := by rfl)
    (hsw : swapsWith (.Call (.Attribute (.Name x px) "append" pa) [e] [] pc) none pos.line X.env = pure false := by rfl) :
    DS X C W (.Expr (.Call (.Attribute (.Name x px) "append" pa) [e] [] pc) pos) ρ O P :=
  ds_append i hO he hl h hN hv hd hcd (pe_bm PySem.F.plainAttrs_list PySem.F.slot_list_append PySem.F.type_list_append mt_append (pe_var hN hv hd hcd) (pa_cons (pwE e) pa_nil hs) hbase hfew hline hs rfl) hsw
theorem ds_setI (i : Nat) {x : Str} {px ps : Pos} {ds : List PD} {j : Int} {m : Nat} (hO : O = some (i, ds)) (he : DE X e ρ O d) (hb : DE X b ρ O (.int j)) (hj : ixN ds.length j = some m) (h : P.nx ρ (some (i, ds.set m d))) (hN : X.N[i]? = some x := by rfl) (hv : Vis X.env.scope x := by first | exact .inl rfl | exact .inr (.inl rfl)) (hd : (x == ("__debug__" : Str)) = false := by decide) (hcd : (x == ("__classdict__" : Str)) = false := by decide)
    (ha : ∀ v, assign (.Subscript (.Name x px) b ps) X.env v = (do
      let ov ← holding [v] (eval (.Name x px) X.env)
      let iv ← holding [v, ov] (eval b X.env)
      standAt ps
      holding [v, ov, iv] (setItem ov iv v)
      release [v, ov, iv] []) := by intro _; rfl) (hs : swapsWithSole [.Subscript (.Name x px) b ps] e pos.line X.env = pure false := by rfl) (hw : swappedStores [.Subscript (.Name x px) b ps] e X.env = pure none := by rfl)
    (h1 : (assignEach [.Subscript (.Name x px) b ps] X.env).map (·.2) = [assign (.Subscript (.Name x px) b ps) X.env] := by rfl) : DS X C W (.Assign [.Subscript (.Name x px) b ps] e pos) ρ O P :=
  ds_setItem i hO he hb hj h hN hv hd hcd (pg_sub (pe_var hN hv hd hcd) (pwE b) set_list ha) hs hw h1
/-- ys.index(z), ys a tuple of texts of the module -/
theorem de_index {x : Str} {q : Addr} {ys : List Str} {z : Str} {j : Nat} {px pa pc : Pos} (hm : X.mg x = some (.ref q)) (hq : ∀ H, SqT X.K H q (ys.map V.str)) (ht : ∃ o, X.K.lookup q = some o ∧ o.cls = .type "tuple" ∧ o.dict = none) (he : DE X e ρ O (.str z)) (hj : ys[j]? = some z) (hno : ∀ m, m < j → ys[m]? ≠ some z)
    (hg : Gl X x := by rfl) (hd : (x == ("__debug__" : Str)) = false := by decide) (hbase : attributeBase (.Name x px) "index" X.env (eval (.Name x px) X.env) = eval (.Name x px) X.env := by rfl)
    (hfew : ((backTo pc (starEach [e] X.env)).all (fun x => !x.1) && (backToKw pc (keywordEach [] X.env)).all (fun x => x.1.isSome)
      && decide ([e].length + ([] : List Keyword).length + (if ([] : List Keyword).isEmpty then 0 else 1) < 30)) = true := by rfl)
    (hline : (pa.endLine == pc.line) = true := by rfl) (hs : starEach [e] X.env = (false, eval e X.env) :: starEach [] X.env := by rfl) :
    DE X (.Call (.Attribute (.Name x px) "index" pa) [e] [] pc) ρ O (.int (j : Nat)) :=
  .mk (pe_bm PySem.F.plainAttrs_tuple PySem.F.slot_tuple_index PySem.F.type_tuple_index mt_tup_index (pe_glob (v := .ref q) hg hm rfl hd) (pa_cons (pwE e) pa_nil hs) hbase hfew hline hs rfl) fun S Q k => by
    refine ⟨.inr (.inl ⟨rfl, ht⟩), he _ _ _ _ _ S fun v B1 H1 g1 dv => ?_⟩
    rw [dv.str_]
    exact ⟨q, ys, z, j, rfl, rfl, hq _, hj, hno, k _ _ _ g1 (.int _)⟩
theorem Sl.put {K : PySem.W.Frag} {H0 B H : Hp} {σ : L2.St} {ρ : Rho} {O : Own} {i : Nat} (S : Sl K H0 B H σ ρ O) (x : Option V) : Sl K H0 B H (σ.set i x) (ρ.set i none) (ownBut i O) := by
  refine ⟨S.bh, by rw [List.length_set, List.length_set]; exact S.len, fun j d hj => ?_, fun j ds hj => ?_⟩
  · by_cases hh : i = j
    · subst hh
      rw [List.getElem?_set, if_pos rfl] at hj
      by_cases l : i < ρ.length
      · rw [if_pos l] at hj
        cases hj
      · rw [if_neg l] at hj
        cases hj
    · rw [List.getElem?_set_ne hh] at hj ⊢
      exact S.dat j d hj
  · obtain ⟨h1, h2⟩ := ownBut_some hj
    rw [List.getElem?_set_ne (Ne.symm h1)]
    exact S.own j ds h2
/-- x = TABLE[z]; return x(..), of a table of defs -/
theorem db_act (i : Nat) {CX : CXT} {k : Nat} {x y z : Str} {px pr pc p3 p4 p5 : Pos} {ez : Expr} {d0 f : Addr} {fd : FuncData} {ents : Array DictEntry} {n : Nat} {ps : List Str} {F : List PD → PD → Prop} {ds : List PD}
    (D : KDict X.K X.w d0 ents n) (hm : X.mg y = some (.ref d0)) (hu : PySem.W.nsIn X.K d0 z = some (some (.ref f))) (ok : FnOk X.prog X.w X.K X.mg X.base CX k f fd ps (spF X.K F)) (kp : PySem.W.keepIn X.K (.ref f) = true) (bn : Binds X.K fd ps []) (hr : Room k X.A) (hx : NoX CX)
    (hl : i < ρ.length) (hN : X.N.Nodup) (hz : DE X ez ρ O (.str z)) (ha : DA X (e :: es) (ρ.set i none) (ownBut i O) ds) (hF : F ds d) (h : P.rt d)
    (hi : X.N[i]? = some x := by rfl) (hlx : Loc X.env.scope x := by first | exact .inl rfl | exact .inr rfl) (hv : Vis X.env.scope x := by first | exact .inl rfl | exact .inr (.inl rfl))
    (hg : Gl X y := by rfl) (hnz : NoSl ez := by intro _ _; rfl) (hdy : (y == ("__debug__" : Str)) = false := by decide)
    (hs : swapsWith (.Subscript (.Name y p3) ez p4) (some (.Name x px)) p5.line X.env = pure false := by rfl) (hf : X.fn x = true ∨ X.env.scope.names.lookup x = some .local := by first | exact .inl rfl | exact .inr rfl)
    (hdb : (x == ("__debug__" : Str)) = false := by decide) (hcd : (x == ("__classdict__" : Str)) = false := by decide)
    (he : starEach (e :: es) X.env = (false, eval e X.env) :: starEach es X.env := by rfl) (hpl : (backTo pc (starEach es X.env)).any (·.1) = false := by rfl) :
    DB X C W [.Assign [.Name x px] (.Subscript (.Name y p3) ez p4) p5, .Return (some (.Call (.Name x p) (e :: es) [] pc)) pr] ρ O P := fun B0 H0 B1 σ B H D' S g r po => by
  refine wB_of (pss_cons (ps_set hN hi hlx (pe_kdF D hm hu hg hnz hdy) hs hf) (pss_one (ps_ret (pe_callL (E := fun _ _ _ => False) ok hr hi hv kp bn .nil (fun pins σ H s e' s' _ q => (hx _ _ _ _ _ q).elim) (pwA _) hdb hcd he hpl)))) ?_
  refine hz _ _ _ _ _ S fun v B2 H2 g2 dv => ⟨dv.str_, ?_, ha _ _ _ _ _ ((S.gr g2).put _) fun vs B3 H3 g3 dvs => ?_⟩
  · rw [List.getElem?_set, if_pos rfl, if_pos (by rw [S.len]; exact hl)]
  rw [List.append_nil]
  exact ⟨B3, ds, d, g3.bh, dvs, hF, fun v B4 H4 g4 dv => po.rt _ _ _ _ h dv (g.trans (g2.trans (g3.trans g4)))⟩
end
end K5
end PartDL8
section PartF1
set_option maxRecDepth 100000
set_option maxHeartbeats 4000000
/-! The things' defs. -/
namespace K5
open PySem PySem.Spec PyProof.Rows L2
theorem eqs {x y : Str} (h : PyData.eqv (.str x) (.str y) = true) : x = y := of_decide_eq_true ((eqv_str x y).symm.trans h)
theorem nes {x y : Str} (h : PyData.eqv (.str x) (.str y) = false) : x ≠ y := of_decide_eq_false ((eqv_str x y).symm.trans h)
theorem eqi {x y : Int} (h : PyData.eqv (.int x) (.int y) = true) : x = y := of_decide_eq_true ((eqv_int x y).symm.trans h)
theorem nei {x y : Int} (h : PyData.eqv (.int x) (.int y) = false) : x ≠ y := of_decide_eq_false ((eqv_int x y).symm.trans h)
theorem at0 {α : Type} {xs : List α} {a : α} (h : xs ≠ []) : L2.atI xs 0 = some (xs.headD a) := by
  cases xs with
  | nil => exact absurd rfl h
  | cons x r =>
    show (L2.ixN (r.length + 1) 0).bind _ = _
    unfold L2.ixN
    rw [if_pos (Int.le_refl 0), if_pos (by omega)]
    rfl
theorem at_h {α : Type} (x : α) (r : List α) : L2.atI (x :: r) 0 = some x := at0 (a := x) (fun z => nomatch z)
section
variable {P : Program} {w : World} {K : PySem.W.Frag} {mg : Str → Option Value} {base : Heap} {CX : CXT} {f : Addr} {fd : FuncData}

def numR (ds : List PD) (d : PD) : Prop := ∃ x, ds = [x] ∧ d = .bool (isIntD x && !isBoolD x)

def N_num : List Str := ["value"]
theorem sc_num : FnScope N_num ["value"] (fScope (topS 19)) := ⟨rfl, rfl, rfl, by decide +kernel, rfl, by decide +kernel, by decide +kernel⟩
theorem nd_num : N_num.Nodup := by decide +kernel
theorem ok_num (M : Blt mg) (D : FnP K "is_number" 19 f fd) : FnOk P w K mg base CX (0 + 1) f fd ["value"] (spF K numR) := by
  refine fn_spF (N := N_num) D sc_num (fun ds d h => ?_) fun ds d cdv A outer s H E hr h => ?_
  · obtain ⟨x, rfl, rfl⟩ := h
    rfl
  · have hu := hr.units
    have nd := nd_num
    obtain ⟨x, rfl, rfl⟩ := h
    refine (db_one (ds_ret (de_and (de_isi M M.int boot_int (kit_int _) (de_var 0)) fun kb => (de_one (de_not (de_isi M M.bool boot_bool (kit_bool _) (de_var 0))))) ?_))
    rfl

def cellF (st : PD) (deed : Str) (args : List PD) : PD × PD := if deed = "look" then (st, st) else (args.headD .none, .none)
def outD (x : PD × PD) : PD := .tuple [x.1, x.2]
def cellR (ds : List PD) (d : PD) : Prop := ∃ st life deed args, ds = [st, life, .str deed, .tuple args] ∧ (deed ≠ "look" → args ≠ []) ∧ d = outD (cellF st deed args)

def N_cell : List Str := ["state", "life", "deed", "arguments"]
theorem sc_cell : FnScope N_cell ["state", "life", "deed", "arguments"] (fScope (topS 21)) := ⟨rfl, rfl, rfl, by decide +kernel, rfl, by decide +kernel, by decide +kernel⟩
theorem nd_cell : N_cell.Nodup := by decide +kernel
theorem ok_cell (D : FnP K "cell_deed" 21 f fd) : FnOk P w K mg base CX (0 + 1) f fd ["state", "life", "deed", "arguments"] (spF K cellR) := by
  refine fn_spF (N := N_cell) D sc_cell (fun ds d h => ?_) fun ds d cdv A outer s H E hr h => ?_
  · obtain ⟨st, life, deed, args, rfl, ha, rfl⟩ := h
    rfl
  · have hu := hr.units
    have nd := nd_cell
    obtain ⟨st, life, deed, args, rfl, ha, rfl⟩ := h
    refine (db_cons (ds_if (dt_cmp (op_eqA hu) (de_var 2) de_str (od_eq (by first | rfl | assumption | omega | decide))) (fun k91 => (db_one (ds_ret (de_tup (da_cons (de_var 0) (da_cons (de_var 0) da_nil))) ?_))) (fun k91 => (db_nil (db_one (ds_ret (de_tup (da_cons (de_ixT (de_var 3) de_int (at0 (a := PyData.none) (ha (nes k91)))) (da_cons de_non da_nil))) ?_))))))
    · rw [cellF, if_pos (eqs k91)]
      rfl
    · rw [cellF, if_neg (nes k91)]
      rfl

def lineF (vs : List PD) (deed : Str) (args : List PD) : List PD × PD := if deed = "put" then (if 20 ≤ vs.length then (vs, .int 0) else (vs ++ [args.headD .none], .int 1)) else if deed = "length" then (vs, .int vs.length) else if vs = [] then (vs, .none) else if deed = "first" then (vs, vs.headD .none) else (vs.tail, vs.headD .none)
def lineR (ds : List PD) (d : PD) : Prop := ∃ vs life deed args, ds = [.tuple vs, life, .str deed, .tuple args] ∧ okD 1000 63 (.tuple vs) = true ∧ vs.length ≤ 1000 ∧ (deed = "put" → args ≠ []) ∧ d = outD (.tuple (lineF vs deed args).1, (lineF vs deed args).2)
theorem okN {L n : Nat} : okD L (n + 1) (.tuple []) = true := rfl
theorem eqv_nil {vs : List PD} : PyData.eqv (.tuple vs) (.tuple []) = decide (vs = []) := by
  cases vs with
  | nil => rfl
  | cons a b => rfl
theorem eqn {vs : List PD} (h : PyData.eqv (.tuple vs) (.tuple []) = true) : vs = [] := of_decide_eq_true (eqv_nil.symm.trans h)
theorem nen {vs : List PD} (h : PyData.eqv (.tuple vs) (.tuple []) = false) : vs ≠ [] := of_decide_eq_false (eqv_nil.symm.trans h)
theorem cut_lo {ds : List PD} (k : Nat) : cutD ds (some (k : Int)) none = ds.drop k := by
  unfold cutD
  rw [HT.sIx_nat, HT.sIx_none]
  by_cases h : k ≤ ds.length
  · rw [Nat.min_eq_left h]
    exact List.take_of_length_le (by rw [List.length_drop]; exact Nat.le_refl _)
  · rw [Nat.min_eq_right (by omega), List.drop_length, List.drop_of_length_le (by omega)]
    simp
theorem cut_hi {ds : List PD} (k : Nat) : cutD ds none (some (k : Int)) = ds.take k := by
  unfold cutD
  rw [HT.sIx_nat, HT.sIx_none, List.drop_zero, Nat.sub_zero]
  by_cases h : k ≤ ds.length
  · rw [Nat.min_eq_left h]
  · rw [Nat.min_eq_right (by omega), List.take_length, List.take_of_length_le (by omega)]
theorem cut1 (vs : List PD) : cutD vs (some 1) none = vs.tail := by
  rw [show (1 : Int) = ((1 : Nat) : Int) from rfl, cut_lo, List.drop_one]

def N_line : List Str := ["state", "life", "deed", "arguments"]
theorem sc_line : FnScope N_line ["state", "life", "deed", "arguments"] (fScope (topS 24)) := ⟨rfl, rfl, rfl, by decide +kernel, rfl, by decide +kernel, by decide +kernel⟩
theorem nd_line : N_line.Nodup := by decide +kernel
theorem ok_line (M : Blt mg) {uMOST : Value} (hMOST : mg "MOST_VALUES" = some uMOST) (rMOST : RelV (.int 20) uMOST) (D : FnP K "line_deed" 24 f fd) : FnOk P w K mg base CX (0 + 1) f fd ["state", "life", "deed", "arguments"] (spF K lineR) := by
  refine fn_spF (N := N_line) D sc_line (fun ds d h => ?_) fun ds d cdv A outer s H E hr h => ?_
  · obtain ⟨vs, life, deed, args, rfl, ho, hl, ha, rfl⟩ := h
    rfl
  · have hu := hr.units
    have nd := nd_line
    obtain ⟨vs, life, deed, args, rfl, ho, hl, ha, rfl⟩ := h
    refine (db_cons (ds_if (dt_cmp (op_eqA hu) (de_var 2) de_str (od_eq (by first | rfl | assumption | omega | decide))) (fun k97 => (db_cons (ds_if (dt_cmp op_ge (de_lenT M (de_var 0)) (de_glob hMOST rMOST (DvK.int 20)) od_ge) (fun k98 => (db_one (ds_ret (de_tup (da_cons (de_var 0) (da_cons de_int da_nil))) ?_))) (fun k98 => (db_nil (db_one (ds_ret (de_tup (da_cons (de_addT (de_var 0) (de_tup (da_cons (de_ixT (de_var 3) de_int (at0 (a := PyData.none) (ha (eqs k97)))) da_nil)) (by show vs.length + 1 ≤ _; omega)) (da_cons de_int da_nil))) ?_))))))) (fun k97 => (db_nil (db_cons (ds_if (dt_cmp (op_eqA hu) (de_var 2) de_str (od_eq (by first | rfl | assumption | omega | decide))) (fun k101 => (db_one (ds_ret (de_tup (da_cons (de_var 0) (da_cons (de_lenT M (de_var 0)) da_nil))) ?_))) (fun k101 => (db_nil (db_cons (ds_if (dt_cmp (op_eqA hu) (de_var 0) (de_tup da_nil) (od_eq (eq_ok ho okN))) (fun k103 => (db_one (ds_ret (de_tup (da_cons (de_var 0) (da_cons de_non da_nil))) ?_))) (fun k103 => (db_nil (db_cons (ds_if (dt_cmp (op_eqA hu) (de_var 2) de_str (od_eq (by first | rfl | assumption | omega | decide))) (fun k105 => (db_one (ds_ret (de_tup (da_cons (de_var 0) (da_cons (de_ixT (de_var 0) de_int (at0 (a := PyData.none) (nen k103))) da_nil))) ?_))) (fun k105 => (db_nil (db_one (ds_ret (de_tup (da_cons (de_slT (de_var 0) (po_s de_int) po_n) (da_cons (de_ixT (de_var 0) de_int (at0 (a := PyData.none) (nen k103))) da_nil))) ?_))))))))))))))))))
    · rw [lineF, if_pos (eqs k97), if_pos (by have := of_decide_eq_true k98; omega)]
      rfl
    · rw [lineF, if_pos (eqs k97), if_neg (by have := of_decide_eq_false k98; omega)]
      rfl
    · rw [lineF, if_neg (nes k97), if_pos (eqs k101)]
      rfl
    · rw [lineF, if_neg (nes k97), if_neg (nes k101), if_pos (eqn k103)]
      rfl
    · rw [lineF, if_neg (nes k97), if_neg (nes k101), if_neg (nen k103), if_pos (eqs k105)]
      rfl
    · rw [lineF, if_neg (nes k97), if_neg (nes k101), if_neg (nen k103), if_neg (nes k105), cut1]
      rfl

end
end K5
end PartF1
section PartF2
set_option maxRecDepth 100000
set_option maxHeartbeats 4000000
/-! The store's defs. -/
namespace K5
open PySem PySem.Spec PyProof.Rows L2
section
variable {P : Program} {w : World} {K : PySem.W.Frag} {mg : Str → Option Value} {base : Heap} {CX : CXT} {f : Addr} {fd : FuncData}
abbrev HL := List (Str × Int)
def pairD (h : Str × Int) : PD := .tuple [.str h.1, .int h.2]
def pairsD (hs : HL) : PD := .tuple (hs.map pairD)
def strsD (ws : List Str) : PD := .tuple (ws.map PyData.str)
def unitsF : HL → Str → Int
  | [], _ => 0
  | h :: r, l => if h.1 = l then h.2 else unitsF r l
def wuF (hs : HL) (l : Str) (u : Int) : HL := if u = 0 then hs.filter (fun h => sLt h.1 l) ++ hs.filter (fun h => sLt l h.1) else hs.filter (fun h => sLt h.1 l) ++ [(l, u)] ++ hs.filter (fun h => sLt l h.1)
def tP (p : Str → Bool) : PD → Bool
  | .tuple [.str h, _] => p h
  | _ => false
theorem filt_pairs (p : Str → Bool) : ∀ hs : HL, ((hs.map pairD).filter (tP p)).map (fun d => d) = (hs.filter fun h => p h.1).map pairD
  | [] => rfl
  | h :: r => by
    have ih := filt_pairs p r
    rw [List.map_cons, List.filter_cons, List.filter_cons]
    have e : tP p (pairD h) = p h.1 := rfl
    rw [e]
    cases p h.1 with
    | false => exact ih
    | true =>
      show pairD h :: _ = pairD h :: _
      rw [ih]
theorem mapAt {α : Type} {g : α → PD} {xs : List α} {i : Nat} {d : PD} (h : (xs.map g)[i]? = some d) : ∃ a, d = g a ∧ xs.drop i = a :: xs.drop (i + 1) := by
  rw [List.getElem?_map] at h
  obtain ⟨a, e1, e2⟩ := Option.map_eq_some_iff.mp h
  have l : i < xs.length := by
    rcases Nat.lt_or_ge i xs.length with z | z
    · exact z
    · rw [List.getElem?_eq_none z] at e1
      cases e1
  refine ⟨a, e2.symm, ?_⟩
  rw [List.drop_eq_getElem_cons l]
  rw [List.getElem?_eq_getElem l] at e1
  rw [Option.some.inj e1]

def unitsR (ds : List PD) (d : PD) : Prop := ∃ hs l, ds = [pairsD hs, .str l] ∧ d = .int (unitsF hs l)

def N_units : List Str := ["holders", "life", "holder", "units"]
theorem sc_units : FnScope N_units ["holders", "life"] (fScope (topS 26)) := ⟨rfl, rfl, rfl, by decide +kernel, rfl, by decide +kernel, by decide +kernel⟩
theorem nd_units : N_units.Nodup := by decide +kernel
theorem ok_units (D : FnP K "units_of" 26 f fd) : FnOk P w K mg base CX (0 + 1) f fd ["holders", "life"] (spF K unitsR) := by
  refine fn_spF (N := N_units) D sc_units (fun ds d h => ?_) fun ds d cdv A outer s H E hr h => ?_
  · obtain ⟨hs, l, rfl, rfl⟩ := h
    rfl
  · have hu := hr.units
    have nd := nd_units
    obtain ⟨hs, l, rfl, rfl⟩ := h
    refine (db_cons (ds_for (fun i ρ O => ∃ a b, ρ = [some (pairsD hs), some (.str l), a, b] ∧ O = none ∧ unitsF (hs.drop i) l = unitsF hs l) rfl (passes_of rfl) (it_tup (de_var 0)) (td_tup rfl (tds_cons (td_name 2 nd) (tds_cons (td_name 3 nd) tds_nil fun h1 h2 => pgs_cons h1 h2) fun h1 h2 => pgs_cons h1 h2)) ⟨none, none, rfl, rfl, rfl⟩ (fun i d ρ' O' hi hI => ?_) fun ρ' O' hI => ?_))
    · obtain ⟨a, b, rfl, rfl, e⟩ := hI
      obtain ⟨h, rfl, e2⟩ := mapAt hi
      rw [e2] at e
      refine (f_tup (f_cons (f_name (f_cons (f_name (f_nil (db_one (ds_if (dt_cmp (op_eqA hu) (de_var 2) (de_var 1) (od_eq (by first | rfl | assumption | omega | decide))) (fun k111 => (db_one (ds_ret (de_var 3) ?_))) (fun k111 => (db_nil ?_))))))))) rfl)
      · show PyData.int h.2 = .int (unitsF hs l)
        rw [← e, unitsF, if_pos (eqs k111)]
      · refine ⟨some (.str h.1), some (.int h.2), rfl, rfl, ?_⟩
        rw [← e, unitsF, if_neg (nes k111)]
    · obtain ⟨a, b, rfl, rfl, e⟩ := hI
      refine (db_one (ds_ret de_int ?_))
      show PyData.int 0 = .int (unitsF hs l)
      rw [← e, List.length_map, List.drop_length]
      rfl

def wuR (ds : List PD) (d : PD) : Prop := ∃ hs l u, ds = [pairsD hs, .str l, .int u] ∧ hs.length ≤ 5000 ∧ d = pairsD (wuF hs l u)

def N_wu : List Str := ["holders", "life", "units", "before", "after", "row"]
theorem sc_wu : FnScope N_wu ["holders", "life", "units"] (fScope (topS 27)) := ⟨rfl, rfl, rfl, by decide +kernel, rfl, by decide +kernel, by decide +kernel⟩
theorem nd_wu : N_wu.Nodup := by decide +kernel
theorem ok_wu (M : Blt mg) (D : FnP K "with_units" 27 f fd) : FnOk P w K mg base CX (0 + 1) f fd ["holders", "life", "units"] (spF K wuR) := by
  refine fn_spF (N := N_wu) D sc_wu (fun ds d h => ?_) fun ds d cdv A outer s H E hr h => ?_
  · obtain ⟨hs, l, u, rfl, hl, rfl⟩ := h
    rfl
  · have hu := hr.units
    have nd := nd_wu
    obtain ⟨hs, l, u, rfl, hl, rfl⟩ := h
    refine (db_cons (ds_set 3 (de_tupleL M (DE.cast (d' := .list ((hs.filter fun h => sLt h.1 l).map pairD)) (de_lcIf (i := 5) (t := tP fun h => sLt h l) (f := fun d => d) rfl nd (it_tup (de_var 0)) (by rfl) (by rw [List.length_map]; omega) (fun d hd s H C cl fp => by
          obtain ⟨h, _, rfl⟩ := List.mem_map.mp hd
          exact (dt_cmp op_lt_str (de_ixT (de_var 5) de_int (by rfl)) (de_var 1) od_ltS)) (fun d hd s H C cl fp => de_var 5)) (by rw [filt_pairs fun h => sLt h l]))) nd (db_cons (ds_set 4 (de_tupleL M (DE.cast (d' := .list ((hs.filter fun h => sLt l h.1).map pairD)) (de_lcIf (i := 5) (t := tP fun h => sLt l h) (f := fun d => d) rfl nd (it_tup (de_var 0)) (by rfl) (by rw [List.length_map]; omega) (fun d hd s H C cl fp => by
          obtain ⟨h, _, rfl⟩ := List.mem_map.mp hd
          exact (dt_cmp op_gt_str (de_ixT (de_var 5) de_int (by rfl)) (de_var 1) od_gtS)) (fun d hd s H C cl fp => de_var 5)) (by rw [filt_pairs fun h => sLt l h]))) nd (db_cons (ds_if (dt_cmp (op_eqA hu) (de_var 2) de_int (od_eq (by first | rfl | assumption | omega | decide))) (fun k117 => (db_one (ds_ret (de_addT (de_var 3) (de_var 4) (by rw [List.length_map, List.length_map]; have := List.length_filter_le (fun h : Str × Int => sLt h.1 l) hs; have := List.length_filter_le (fun h : Str × Int => sLt l h.1) hs; omega)) ?_))) (fun k117 => (db_nil (db_one (ds_ret (de_addT (de_addT (de_var 3) (de_tup (da_cons (de_tup (da_cons (de_var 1) (da_cons (de_var 2) da_nil))) da_nil)) (by rw [List.length_map]; have := List.length_filter_le (fun h : Str × Int => sLt h.1 l) hs; show _ + 1 ≤ _; omega)) (de_var 4) (by rw [List.length_append, List.length_map, List.length_map]; have := List.length_filter_le (fun h : Str × Int => sLt h.1 l) hs; have := List.length_filter_le (fun h : Str × Int => sLt l h.1) hs; show _ + 1 + _ ≤ _; omega)) ?_))))))))))
    · show _ = pairsD (wuF hs l u)
      rw [wuF, if_pos (eqi k117), pairsD, List.map_append]
    · show _ = pairsD (wuF hs l u)
      rw [wuF, if_neg (nei k117), pairsD, List.map_append, List.map_append]
      rfl

end
end K5
end PartF2
section PartF3
set_option maxRecDepth 100000
set_option maxHeartbeats 4000000
/-! The store's defs, the gate, the wheel. -/
namespace K5
open PySem PySem.Spec PyProof.Rows L2
section
variable {P : Program} {w : World} {K : PySem.W.Frag} {mg : Str → Option Value} {base : Heap} {CX : CXT} {f : Addr} {fd : FuncData}
theorem pairsD_nil {ws : HL} (h : pairsD ws = .tuple []) : ws = [] := by
  cases ws with
  | nil => rfl
  | cons a r => cases h
theorem eqp {ws : HL} (h : PyData.eqv (pairsD ws) (.tuple []) = true) : ws = [] := by
  cases ws with
  | nil => rfl
  | cons a r => cases h
theorem nep {ws : HL} (h : PyData.eqv (pairsD ws) (.tuple []) = false) : ws ≠ [] := fun z => by
  subst z
  cases h
def storeD (size free : Int) (hs ws : HL) : PD := .tuple [.int size, .int free, pairsD hs, pairsD ws]
structure Sto where
  size : Int
  free : Int
  hs : HL
  ws : HL
def Sto.pd (s : Sto) : PD := storeD s.size s.free s.hs s.ws
/-- the store may be worked on -/
structure Sto.Ok (s : Sto) (n : Nat) : Prop where
  len : s.hs.length + s.ws.length ≤ n
  ok : okD 1000 63 (pairsD s.ws) = true
def seizeF (s : Sto) (l : Str) (u : Int) : Sto × PD := if s.ws = [] ∧ u ≤ s.free then (⟨s.size, s.free - u, wuF s.hs l (unitsF s.hs l + u), []⟩, .int 1) else (⟨s.size, s.free, s.hs, s.ws ++ [(l, u)]⟩, .int 0)

def seizeR (ds : List PD) (d : PD) : Prop := ∃ s l u, ds = [s.pd, .str l, .int u] ∧ s.Ok 1000 ∧ d = outD ((seizeF s l u).1.pd, (seizeF s l u).2)

def N_seize : List Str := ["state", "life", "units", "size", "free", "holders", "waiting", "held"]
theorem sc_seize : FnScope N_seize ["state", "life", "units"] (fScope (topS 28)) := ⟨rfl, rfl, rfl, by decide +kernel, rfl, by decide +kernel, by decide +kernel⟩
theorem nd_seize : N_seize.Nodup := by decide +kernel
theorem ok_seize {k : Nat} (M : Blt mg) (hU : FnD P w K mg base CX k "units_of" ["holders", "life"] unitsR) (hW : FnD P w K mg base CX k "with_units" ["holders", "life", "units"] wuR) (hx : NoX CX) (D : FnP K "seize_units" 28 f fd) : FnOk P w K mg base CX (k + 1) f fd ["state", "life", "units"] (spF K seizeR) := by
  refine fn_spF (N := N_seize) D sc_seize (fun ds d h => ?_) fun ds d cdv A outer s H E hr h => ?_
  · obtain ⟨s, l, u, rfl, hok, rfl⟩ := h
    rfl
  · have hu := hr.units
    have nd := nd_seize
    obtain ⟨s, l, u, rfl, hok, rfl⟩ := h
    refine (db_cons (ds_asg (de_var 0) (td_tup rfl (tds_cons (td_name 3 nd) (tds_cons (td_name 4 nd) (tds_cons (td_name 5 nd) (tds_cons (td_name 6 nd) tds_nil fun h1 h2 => pgs_cons h1 h2) fun h1 h2 => pgs_cons h1 h2) fun h1 h2 => pgs_cons h1 h2) fun h1 h2 => pgs_cons h1 h2)) (f_tup (f_cons (f_name (f_cons (f_name (f_cons (f_name (f_cons (f_name (f_nil (db_cons (ds_if (DW.dt (dw_and (dt_cmp (op_eqA hu) (de_var 6) (de_tup da_nil) (od_eq (eq_ok hok.ok okN))) fun kb => (dw_and1 (dt_cmp op_le (de_var 2) (de_var 4) od_le)))) (fun k122 => (db_cons (ds_set 7 (de_add (de_call hU hr hx (da_cons (de_var 5) (da_cons (de_var 1) da_nil)) (by exact ⟨_, _, rfl, rfl⟩)) (de_var 2)) nd (db_one (ds_ret (de_tup (da_cons (de_tup (da_cons (de_var 3) (da_cons (de_sub (de_var 4) (de_var 2)) (da_cons (de_call hW hr hx (da_cons (de_var 5) (da_cons (de_var 1) (da_cons (de_var 7) da_nil))) (by exact ⟨_, _, _, rfl, by have := hok.len; omega, rfl⟩)) (da_cons (de_tup da_nil) da_nil))))) (da_cons de_int da_nil))) ?_))))) (fun k122 => (db_nil (db_one (ds_ret (de_tup (da_cons (de_tup (da_cons (de_var 3) (da_cons (de_var 4) (da_cons (de_var 5) (da_cons (de_addT (de_var 6) (de_tup (da_cons (de_tup (da_cons (de_var 1) (da_cons (de_var 2) da_nil))) da_nil)) (by rw [List.length_map]; have := hok.len; show _ + 1 ≤ _; omega)) da_nil))))) (da_cons de_int da_nil))) ?_))))))))))))))) rfl)))
    · have z := Bool.and_eq_true_iff.mp k122
      show _ = outD ((seizeF s l u).1.pd, (seizeF s l u).2)
      rw [seizeF, if_pos ⟨eqp z.1, of_decide_eq_true z.2⟩]
      rfl
    · have z : ¬ (s.ws = [] ∧ u ≤ s.free) := fun z => by
        have e : PyData.eqv (pairsD s.ws) (.tuple []) = true := by
          rw [z.1]
          rfl
        rw [show PyData.eqv (pairsD s.ws) (.tuple []) = true from e, decide_eq_true z.2] at k122
        cases k122
      show _ = outD ((seizeF s l u).1.pd, (seizeF s l u).2)
      rw [seizeF, if_neg z, Sto.pd, storeD, outD]
      show _ = PyData.tuple [.tuple [_, _, _, pairsD (s.ws ++ [(l, u)])], _]
      rw [pairsD, pairsD, List.map_append]
      rfl

theorem sLt_asymm {a b : Str} (h : sLt a b = true) : sLt b a = false := decide_eq_false fun z => List.lt_asymm (of_decide_eq_true h) z
theorem filt2 {α : Type} {p q : α → Bool} : ∀ xs : List α, (∀ x ∈ xs, p x = true → q x = false) → (xs.filter p).length + (xs.filter q).length ≤ xs.length
  | [], _ => Nat.le_refl _
  | x :: r, h => by
    have ih := filt2 (p := p) (q := q) r fun y hy => h y (List.mem_cons_of_mem _ hy)
    rw [List.filter_cons, List.filter_cons]
    cases e : p x with
    | true =>
      rw [h x (List.mem_cons_self ..) e]
      simp only [List.length_cons, if_true, Bool.false_eq_true, if_false]
      omega
    | false =>
      cases q x <;> simp only [List.length_cons, if_true, Bool.false_eq_true, if_false] <;> omega
theorem wuF_len (hs : HL) (l : Str) (u : Int) : (wuF hs l u).length ≤ hs.length + 1 := by
  have z := filt2 (p := fun h : Str × Int => sLt h.1 l) (q := fun h : Str × Int => sLt l h.1) hs fun x _ h => sLt_asymm h
  unfold wuF
  split
  · rw [List.length_append]
    omega
  · rw [List.length_append, List.length_append]
    simp only [List.length_cons, List.length_nil]
    omega
def serveF : Int → HL → HL → List Str → Int × HL × HL × List Str
  | free, hs, [], sv => (free, hs, [], sv)
  | free, hs, w :: r, sv => if w.2 ≤ free then serveF (free - w.2) (wuF hs w.1 (unitsF hs w.1 + w.2)) r (sv ++ [w.1]) else (free, hs, w :: r, sv)
def freeF (s : Sto) (l : Str) (u : Int) : Sto × PD := if unitsF s.hs l < u then (s, .none) else
  (⟨s.size, (serveF (s.free + u) (wuF s.hs l (unitsF s.hs l - u)) s.ws []).1, (serveF (s.free + u) (wuF s.hs l (unitsF s.hs l - u)) s.ws []).2.1, (serveF (s.free + u) (wuF s.hs l (unitsF s.hs l - u)) s.ws []).2.2.1⟩, strsD (serveF (s.free + u) (wuF s.hs l (unitsF s.hs l - u)) s.ws []).2.2.2)
def freeR (ds : List PD) (d : PD) : Prop := ∃ s l u, ds = [s.pd, .str l, .int u] ∧ s.Ok 1000 ∧ d = outD ((freeF s l u).1.pd, (freeF s l u).2)
theorem ok_tail {L n : Nat} {w : Str × Int} {r : HL} (h : okD L n (pairsD (w :: r)) = true) : okD L n (pairsD r) = true := by
  cases n with
  | zero => cases h
  | succ n =>
    unfold pairsD okD at h ⊢
    rw [List.map_cons, List.all_cons] at h
    exact (Bool.and_eq_true_iff.mp h).2

def N_free : List Str := ["state", "life", "units", "size", "free", "holders", "waiting", "held", "served", "first", "wanted"]
theorem sc_free : FnScope N_free ["state", "life", "units"] (fScope (topS 29)) := ⟨rfl, rfl, rfl, by decide +kernel, rfl, by decide +kernel, by decide +kernel⟩
theorem nd_free : N_free.Nodup := by decide +kernel
theorem ok_free {k : Nat} (M : Blt mg) (hU : FnD P w K mg base CX k "units_of" ["holders", "life"] unitsR) (hW : FnD P w K mg base CX k "with_units" ["holders", "life", "units"] wuR) (hx : NoX CX) (D : FnP K "free_units" 29 f fd) : FnOk P w K mg base CX (k + 1) f fd ["state", "life", "units"] (spF K freeR) := by
  refine fn_spF (N := N_free) D sc_free (fun ds d h => ?_) fun ds d cdv A outer s H E hr h => ?_
  · obtain ⟨s, l, u, rfl, hok, rfl⟩ := h
    rfl
  · have hu := hr.units
    have nd := nd_free
    obtain ⟨s, l, u, rfl, hok, rfl⟩ := h
    refine (db_cons (ds_asg (de_var 0) (td_tup rfl (tds_cons (td_name 3 nd) (tds_cons (td_name 4 nd) (tds_cons (td_name 5 nd) (tds_cons (td_name 6 nd) tds_nil fun h1 h2 => pgs_cons h1 h2) fun h1 h2 => pgs_cons h1 h2) fun h1 h2 => pgs_cons h1 h2) fun h1 h2 => pgs_cons h1 h2)) (f_tup (f_cons (f_name (f_cons (f_name (f_cons (f_name (f_cons (f_name (f_nil (db_cons (ds_set 7 (de_call hU hr hx (da_cons (de_var 5) (da_cons (de_var 1) da_nil)) (by exact ⟨_, _, rfl, rfl⟩)) nd (db_cons (ds_if (dt_cmp op_lt (de_var 7) (de_var 2) od_lt) (fun k129 => (db_one (ds_ret (de_tup (da_cons (de_var 0) (da_cons de_non da_nil))) ?_))) (fun k129 => (db_nil (db_cons (ds_set 4 (de_add (de_var 4) (de_var 2)) nd (db_cons (ds_set 5 (de_call hW hr hx (da_cons (de_var 5) (da_cons (de_var 1) (da_cons (de_sub (de_var 7) (de_var 2)) da_nil))) (by exact ⟨_, _, _, rfl, by have := hok.len; omega, rfl⟩)) nd (db_cons (ds_own 8 rfl nd (Nat.le_of_ble_eq_true rfl) (db_cons ?_)))))))))))))))))))))) rfl)))
    · show outD (s.pd, .none) = outD ((freeF s l u).1.pd, (freeF s l u).2)
      rw [freeF, if_pos (of_decide_eq_true k129)]
    · refine ds_while (fun m ρ O => ∃ fr hs ws sv a b, ρ = [some s.pd, some (.str l), some (.int u), some (.int s.size), some (.int fr), some (pairsD hs), some (pairsD ws), some (.int (unitsF s.hs l)), none, a, b] ∧ O = some (8, (sv : List Str).map PyData.str) ∧ m = ws.length ∧ serveF fr hs ws sv = serveF (s.free + u) (wuF s.hs l (unitsF s.hs l - u)) s.ws [] ∧ hs.length + ws.length ≤ 1001 ∧ okD 1000 63 (pairsD ws) = true ∧ sv.length + ws.length ≤ 1000) s.ws.length (passes_of rfl) ⟨_, _, _, [], _, _, rfl, rfl, rfl, rfl, by have := hok.len; have := wuF_len s.hs l (unitsF s.hs l - u); omega, hok.ok, by have := hok.len; show 0 + _ ≤ _; omega⟩ fun m ρ' O' hI => ?_
      obtain ⟨fr, hs, ws, sv, a, b, rfl, rfl, rfl, e, l1, ok3, l2⟩ := hI
      cases ws with
      | nil =>
        refine ⟨false, DW.dt (dw_and (l := false) (DT.cast (d' := false) (dt_cmp (op_neA hu) (de_var 6) (de_tup da_nil) (od_ne (eq_ok ok3 okN))) rfl) fun kb => Bool.noConfusion kb), fun _ => ?_, fun z => Bool.noConfusion z⟩
        refine (db_one (ds_ret (de_tup (da_cons (de_tup (da_cons (de_var 3) (da_cons (de_var 4) (da_cons (de_var 5) (da_cons (de_var 6) da_nil))))) (da_cons (de_tupleOwn 8 M) da_nil))) ?_))
        show _ = outD ((freeF s l u).1.pd, (freeF s l u).2)
        rw [freeF, if_neg (of_decide_eq_false k129), ← e]
        rfl
      | cons w r =>
        refine ⟨_, (DW.dt (dw_and (dt_cmp (op_neA hu) (de_var 6) (de_tup da_nil) (od_ne (eq_ok ok3 okN))) fun kb => (dw_and1 (dt_cmp op_le (de_ixT (d := .int w.2) (de_ixT (d := .tuple [.str w.1, .int w.2]) (de_var 6) de_int (at_h (pairD w) (r.map pairD))) de_int (by rfl)) (de_var 4) od_le)))), fun z => ?_, fun z => ⟨_, rfl, ?_⟩⟩
        · refine (db_one (ds_ret (de_tup (da_cons (de_tup (da_cons (de_var 3) (da_cons (de_var 4) (da_cons (de_var 5) (da_cons (de_var 6) da_nil))))) (da_cons (de_tupleOwn 8 M) da_nil))) ?_))
          have z2 : ¬ w.2 ≤ fr := of_decide_eq_false z
          show _ = outD ((freeF s l u).1.pd, (freeF s l u).2)
          rw [freeF, if_neg (of_decide_eq_false k129), ← e, serveF, if_neg z2]
          rfl
        · have z2 : w.2 ≤ fr := of_decide_eq_true z
          rw [serveF, if_pos z2] at e
          have l3 := wuF_len hs w.1 (unitsF hs w.1 + w.2)
          have l4 : (w :: r : HL).length = r.length + 1 := rfl
          refine (db_cons (ds_asg (de_ixT (d := .tuple [.str w.1, .int w.2]) (de_var 6) de_int (at_h (pairD w) (r.map pairD))) (td_tup rfl (tds_cons (td_name 9 nd) (tds_cons (td_name 10 nd) tds_nil fun h1 h2 => pgs_cons h1 h2) fun h1 h2 => pgs_cons h1 h2)) (f_tup (f_cons (f_name (f_cons (f_name (f_nil (db_cons (ds_set 4 (de_sub (de_var 4) (de_var 10)) nd (db_cons (ds_set 5 (de_call hW hr hx (da_cons (de_var 5) (da_cons (de_var 9) (da_cons (de_add (de_call hU hr hx (da_cons (de_var 5) (da_cons (de_var 9) da_nil)) (by exact ⟨_, _, rfl, rfl⟩)) (de_var 10)) da_nil))) (by exact ⟨_, _, _, rfl, by omega, rfl⟩)) nd (db_cons (ds_set 6 (de_slT (de_var 6) (po_s de_int) po_n) nd (db_one (ds_app 8 rfl (de_var 9) (by rw [List.length_map]; omega) ?_))))))))))))) rfl)))
          refine ⟨_, _, _, sv ++ [w.1], _, _, by rw [cut1]; rfl, by rw [List.map_append]; rfl, rfl, e, by omega, ok_tail ok3, by rw [List.length_append]; show _ + 1 + _ ≤ _; omega⟩

end
end K5
end PartF3
section PartF4
set_option maxRecDepth 100000
set_option maxHeartbeats 4000000
/-! The deeds of store, gate, wheel, stand. -/
namespace K5
open PySem PySem.Spec PyProof.Rows L2
section
variable {P : Program} {w : World} {K : PySem.W.Frag} {mg : Str → Option Value} {base : Heap} {CX : CXT} {f : Addr} {fd : FuncData}
theorem bnf {b : Bool} (h : (!b) = false) : b = true := by
  cases b
  · cases h
  · rfl
theorem bnt {b : Bool} (h : (!b) = true) : b = false := by
  cases b
  · rfl
  · cases h
def headI : List PD → Int
  | .int u :: _ => u
  | _ => 0
/-- the first argument is a whole number -/
def isI : List PD → Bool
  | .int _ :: _ => true
  | _ => false
theorem at0I {args : List PD} (h : isI args = true) : L2.atI args 0 = some (.int (headI args)) := by
  cases args with
  | nil => cases h
  | cons a r => cases a <;> first | exact Bool.noConfusion h | exact at_h _ _
def storeF (s : Sto) (l deed : Str) (args : List PD) : Sto × PD := if deed = "seize" then seizeF s l (headI args) else if deed = "free" then freeF s l (headI args) else if deed = "spare" then (s, .int s.free) else (s, .int s.ws.length)
def storeR (ds : List PD) (d : PD) : Prop := ∃ s l deed args, ds = [s.pd, .str l, .str deed, .tuple args] ∧ s.Ok 1000 ∧ (deed = "seize" ∨ deed = "free" → isI args = true) ∧ d = outD ((storeF s l deed args).1.pd, (storeF s l deed args).2)
def gateD (p : Int) (ws : List Str) : PD := .tuple [.int p, strsD ws]
def gateF (p : Int) (ws : List Str) (l deed : Str) : Int × List Str × PD := if deed = "wait" then (if p = 1 then (p, ws, .int 1) else (p, ws ++ [l], .int 0)) else if deed = "open" then (1, [], strsD ws) else if deed = "shut" then (0, ws, .none) else if deed = "isopen" then (p, ws, .int p) else (p, ws, .int ws.length)
def gateR (ds : List PD) (d : PD) : Prop := ∃ p ws l deed args, ds = [gateD p ws, .str l, .str deed, .tuple args] ∧ ws.length ≤ 1000 ∧ d = outD (gateD (gateF p ws l deed).1 (gateF p ws l deed).2.1, (gateF p ws l deed).2.2)
def wheelD (size place : Int) : PD := .tuple [.int size, .int place]
def wheelF (size place : Int) : Int × Int := if size ≤ place + 1 then (size, 0) else (size, place + 1)
def wheelR (ds : List PD) (d : PD) : Prop := ∃ size place l deed args, ds = [wheelD size place, .str l, .str deed, .tuple args] ∧ d = outD (wheelD (wheelF size place).1 (wheelF size place).2, .int place)
def wordsL : List Str := ["unborn", "asleep", "due", "running", "waits", "ended", "fallen"]
def askedL : List (Str × Str) := [("born", "unborn"), ("run", "due"), ("tell", "running"), ("sleep", "running"), ("hold", "running"), ("waits", "running"), ("end", "running"), ("fall", "running"), ("wake", "asleep"), ("stop", "due"), ("grant", "waits")]
def leftL : List (Str × Str) := [("born", "asleep"), ("run", "running"), ("tell", "running"), ("sleep", "asleep"), ("hold", "due"), ("waits", "waits"), ("end", "ended"), ("fall", "fallen"), ("wake", "due"), ("stop", "asleep"), ("grant", "due")]
def withL : List Str := ["due", "waits", "fallen"]
/-- a table of texts by texts -/
structure STab (P : Program) (w : World) (K : PySem.W.Frag) (mg : Str → Option Value) (x : Str) (tbl : List (Str × Str)) : Prop where
  ex : ∃ d0 es n, KDict K w d0 es n ∧ mg x = some (.ref d0) ∧ ∀ z y, tbl.lookup z = some y → ∃ t, PySem.W.nsIn K d0 z = some (some (.str y t))
theorem de_stab {X : Cx} {ρ : Rho} {O : Own} {e : Expr} {x z y : Str} {tbl : List (Str × Str)} {pos p2 : Pos} (T : STab X.prog X.w X.K X.mg x tbl) (hi : DE X e ρ O (.str z)) (hz : tbl.lookup z = some y) (hg : Gl X x := by rfl)
    (hs : NoSl e := by intro _ _; rfl) (hd : (x == ("__debug__" : Str)) = false := by decide) : DE X (.Subscript (.Name x p2) e pos) ρ O (.str y) := by
  obtain ⟨d0, es, n, D, hm, ht⟩ := T.ex
  obtain ⟨t, hu⟩ := ht z y hz
  exact de_kd D hm hu (v0 := .str y) ⟨t, rfl⟩ (.str y) hi hg hs hd
/-- a tuple of texts of the module -/
structure STup (K : PySem.W.Frag) (mg : Str → Option Value) (x : Str) (ys : List Str) : Prop where
  ex : ∃ q, mg x = some (.ref q) ∧ (∀ H, SqT K H q (ys.map V.str)) ∧ ∃ o, K.lookup q = some o ∧ o.cls = .type "tuple" ∧ o.dict = none
theorem de_stup {X : Cx} {ρ : Rho} {O : Own} {x : Str} {ys : List Str} {p2 : Pos} (T : STup X.K X.mg x ys) (hg : Gl X x := by rfl) (hd : (x == ("__debug__" : Str)) = false := by decide) : DE X (.Name x p2) ρ O (.tuple (ys.map PyData.str)) := by
  obtain ⟨q, hm, hq, _⟩ := T.ex
  exact de_glob hm (v := .ref q) rfl (DvK.strs hq) hg hd
def idxS : List Str → Str → Nat
  | [], _ => 0
  | y :: r, z => if y = z then 0 else idxS r z + 1
theorem idx_at : ∀ {ys : List Str} {z : Str}, z ∈ ys → ys[idxS ys z]? = some z
  | y :: r, z, h => by
    unfold idxS
    by_cases e : y = z
    · rw [if_pos e]
      exact congrArg some e
    · rw [if_neg e]
      exact idx_at (List.mem_of_ne_of_mem (Ne.symm e) h)
theorem idx_no : ∀ {ys : List Str} {z : Str} (m : Nat), m < idxS ys z → ys[m]? ≠ some z
  | [], _, m, h => by
    intro e
    cases e
  | y :: r, z, m, h => by
    unfold idxS at h
    by_cases e : y = z
    · rw [if_pos e] at h
      omega
    · rw [if_neg e] at h
      cases m with
      | zero => exact fun q => e (Option.some.inj q)
      | succ m => exact idx_no m (by omega)
def standF (wd : Str) (rest : List PD) (deed : Str) (args : List PD) : Str × List PD × PD :=
  if deed = "stand" then (wd, rest, .int (idxS wordsL wd)) else if some wd ≠ askedL.lookup deed then (wd, rest, .int 0) else if deed = "run" ∧ PyData.eqv (.tuple rest) (.tuple args) = false then (wd, rest, .int 0) else
  if (withL.any fun y => y == (leftL.lookup deed).getD "") = true then ((leftL.lookup deed).getD "", args, .int 1) else ((leftL.lookup deed).getD "", [], .int 1)
def standD (wd : Str) (rest : List PD) : PD := .tuple (.str wd :: rest)
def standR (ds : List PD) (d : PD) : Prop := ∃ wd rest l deed args, ds = [standD wd rest, l, .str deed, .tuple args] ∧ wd ∈ wordsL ∧ okD 1000 63 (.tuple rest) = true ∧ okD 1000 63 (.tuple args) = true ∧ args.length ≤ 1000 ∧ (deed ≠ "stand" → (askedL.lookup deed).isSome = true ∧ (leftL.lookup deed).isSome = true) ∧
  d = outD (standD (standF wd rest deed args).1 (standF wd rest deed args).2.1, (standF wd rest deed args).2.2)

def N_store : List Str := ["state", "life", "deed", "arguments"]
theorem sc_store : FnScope N_store ["state", "life", "deed", "arguments"] (fScope (topS 30)) := ⟨rfl, rfl, rfl, by decide +kernel, rfl, by decide +kernel, by decide +kernel⟩
theorem nd_store : N_store.Nodup := by decide +kernel
theorem ok_store {k : Nat} (M : Blt mg) (hS : FnD P w K mg base CX k "seize_units" ["state", "life", "units"] seizeR) (hF : FnD P w K mg base CX k "free_units" ["state", "life", "units"] freeR) (hx : NoX CX) (D : FnP K "store_deed" 30 f fd) : FnOk P w K mg base CX (k + 1) f fd ["state", "life", "deed", "arguments"] (spF K storeR) := by
  refine fn_spF (N := N_store) D sc_store (fun ds d h => ?_) fun ds d cdv A outer s H E hr h => ?_
  · obtain ⟨s, l, deed, args, rfl, hok, ha, rfl⟩ := h
    rfl
  · have hu := hr.units
    have nd := nd_store
    obtain ⟨s, l, deed, args, rfl, hok, ha, rfl⟩ := h
    refine (db_cons (ds_if (dt_cmp (op_eqA hu) (de_var 2) de_str (od_eq (by first | rfl | assumption | omega | decide))) (fun k142 => (db_one (ds_ret (de_call hS hr hx (da_cons (de_var 0) (da_cons (de_var 1) (da_cons (de_ixT (de_var 3) de_int (at0I (ha (.inl (eqs k142))))) da_nil))) (by exact ⟨s, _, _, rfl, hok, rfl⟩)) ?_))) (fun k142 => (db_nil (db_cons (ds_if (dt_cmp (op_eqA hu) (de_var 2) de_str (od_eq (by first | rfl | assumption | omega | decide))) (fun k144 => (db_one (ds_ret (de_call hF hr hx (da_cons (de_var 0) (da_cons (de_var 1) (da_cons (de_ixT (de_var 3) de_int (at0I (ha (.inr (eqs k144))))) da_nil))) (by exact ⟨s, _, _, rfl, hok, rfl⟩)) ?_))) (fun k144 => (db_nil (db_cons (ds_if (dt_cmp (op_eqA hu) (de_var 2) de_str (od_eq (by first | rfl | assumption | omega | decide))) (fun k146 => (db_one (ds_ret (de_tup (da_cons (de_var 0) (da_cons (de_ixT (de_var 0) de_int (by first | rfl | assumption | omega | decide)) da_nil))) ?_))) (fun k146 => (db_nil (db_one (ds_ret (de_tup (da_cons (de_var 0) (da_cons (de_lenT M (de_ixT (de_var 0) de_int (by first | rfl | assumption | omega | decide))) da_nil))) ?_))))))))))))))
    · show _ = outD ((storeF s l deed args).1.pd, (storeF s l deed args).2)
      rw [storeF, if_pos (eqs k142)]
    · show _ = outD ((storeF s l deed args).1.pd, (storeF s l deed args).2)
      rw [storeF, if_neg (nes k142), if_pos (eqs k144)]
    · show _ = outD ((storeF s l deed args).1.pd, (storeF s l deed args).2)
      rw [storeF, if_neg (nes k142), if_neg (nes k144), if_pos (eqs k146)]
      rfl
    · show _ = outD ((storeF s l deed args).1.pd, (storeF s l deed args).2)
      rw [storeF, if_neg (nes k142), if_neg (nes k144), if_neg (nes k146)]
      show _ = outD (s.pd, .int (s.ws.length : Int))
      rw [outD, ← List.length_map (as := s.ws) pairD]

def N_gate : List Str := ["state", "life", "deed", "arguments", "passable", "waiting"]
theorem sc_gate : FnScope N_gate ["state", "life", "deed", "arguments"] (fScope (topS 32)) := ⟨rfl, rfl, rfl, by decide +kernel, rfl, by decide +kernel, by decide +kernel⟩
theorem nd_gate : N_gate.Nodup := by decide +kernel
theorem ok_gate (M : Blt mg) (D : FnP K "gate_deed" 32 f fd) : FnOk P w K mg base CX (0 + 1) f fd ["state", "life", "deed", "arguments"] (spF K gateR) := by
  refine fn_spF (N := N_gate) D sc_gate (fun ds d h => ?_) fun ds d cdv A outer s H E hr h => ?_
  · obtain ⟨p, ws, l, deed, args, rfl, hl, rfl⟩ := h
    rfl
  · have hu := hr.units
    have nd := nd_gate
    obtain ⟨p, ws, l, deed, args, rfl, hl, rfl⟩ := h
    refine (db_cons (ds_asg (de_var 0) (td_tup rfl (tds_cons (td_name 4 nd) (tds_cons (td_name 5 nd) tds_nil fun h1 h2 => pgs_cons h1 h2) fun h1 h2 => pgs_cons h1 h2)) (f_tup (f_cons (f_name (f_cons (f_name (f_nil (db_cons (ds_if (dt_cmp (op_eqA hu) (de_var 2) de_str (od_eq (by first | rfl | assumption | omega | decide))) (fun k152 => (db_cons (ds_if (dt_cmp (op_eqA hu) (de_var 4) de_int (od_eq (by first | rfl | assumption | omega | decide))) (fun k153 => (db_one (ds_ret (de_tup (da_cons (de_var 0) (da_cons de_int da_nil))) ?_))) (fun k153 => (db_nil (db_one (ds_ret (de_tup (da_cons (de_tup (da_cons (de_var 4) (da_cons (de_addT (de_var 5) (de_tup (da_cons (de_var 1) da_nil)) (by rw [List.length_map]; show _ + 1 ≤ _; omega)) da_nil))) (da_cons de_int da_nil))) ?_))))))) (fun k152 => (db_nil (db_cons (ds_if (dt_cmp (op_eqA hu) (de_var 2) de_str (od_eq (by first | rfl | assumption | omega | decide))) (fun k156 => (db_one (ds_ret (de_tup (da_cons (de_tup (da_cons de_int (da_cons (de_tup da_nil) da_nil))) (da_cons (de_var 5) da_nil))) ?_))) (fun k156 => (db_nil (db_cons (ds_if (dt_cmp (op_eqA hu) (de_var 2) de_str (od_eq (by first | rfl | assumption | omega | decide))) (fun k158 => (db_one (ds_ret (de_tup (da_cons (de_tup (da_cons de_int (da_cons (de_var 5) da_nil))) (da_cons de_non da_nil))) ?_))) (fun k158 => (db_nil (db_cons (ds_if (dt_cmp (op_eqA hu) (de_var 2) de_str (od_eq (by first | rfl | assumption | omega | decide))) (fun k160 => (db_one (ds_ret (de_tup (da_cons (de_var 0) (da_cons (de_var 4) da_nil))) ?_))) (fun k160 => (db_nil (db_one (ds_ret (de_tup (da_cons (de_var 0) (da_cons (de_lenT M (de_var 5)) da_nil))) ?_))))))))))))))))))))))) rfl)))
    · show _ = outD (gateD (gateF p ws l deed).1 (gateF p ws l deed).2.1, (gateF p ws l deed).2.2)
      rw [gateF, if_pos (eqs k152), if_pos (eqi k153)]
      rfl
    · show _ = outD (gateD (gateF p ws l deed).1 (gateF p ws l deed).2.1, (gateF p ws l deed).2.2)
      rw [gateF, if_pos (eqs k152), if_neg (nei k153)]
      show _ = PyData.tuple [.tuple [_, strsD (ws ++ [l])], _]
      rw [strsD, List.map_append]
      rfl
    · show _ = outD (gateD (gateF p ws l deed).1 (gateF p ws l deed).2.1, (gateF p ws l deed).2.2)
      rw [gateF, if_neg (nes k152), if_pos (eqs k156)]
      rfl
    · show _ = outD (gateD (gateF p ws l deed).1 (gateF p ws l deed).2.1, (gateF p ws l deed).2.2)
      rw [gateF, if_neg (nes k152), if_neg (nes k156), if_pos (eqs k158)]
      rfl
    · show _ = outD (gateD (gateF p ws l deed).1 (gateF p ws l deed).2.1, (gateF p ws l deed).2.2)
      rw [gateF, if_neg (nes k152), if_neg (nes k156), if_neg (nes k158), if_pos (eqs k160)]
      rfl
    · show _ = outD (gateD (gateF p ws l deed).1 (gateF p ws l deed).2.1, (gateF p ws l deed).2.2)
      rw [gateF, if_neg (nes k152), if_neg (nes k156), if_neg (nes k158), if_neg (nes k160)]
      show _ = outD (gateD p ws, .int (ws.length : Int))
      rw [outD, ← List.length_map (as := ws) PyData.str]

def N_wheel : List Str := ["state", "life", "deed", "arguments", "size", "place"]
theorem sc_wheel : FnScope N_wheel ["state", "life", "deed", "arguments"] (fScope (topS 34)) := ⟨rfl, rfl, rfl, by decide +kernel, rfl, by decide +kernel, by decide +kernel⟩
theorem nd_wheel : N_wheel.Nodup := by decide +kernel
theorem ok_wheel (D : FnP K "wheel_deed" 34 f fd) : FnOk P w K mg base CX (0 + 1) f fd ["state", "life", "deed", "arguments"] (spF K wheelR) := by
  refine fn_spF (N := N_wheel) D sc_wheel (fun ds d h => ?_) fun ds d cdv A outer s H E hr h => ?_
  · obtain ⟨size, place, l, deed, args, rfl, rfl⟩ := h
    rfl
  · have hu := hr.units
    have nd := nd_wheel
    obtain ⟨size, place, l, deed, args, rfl, rfl⟩ := h
    refine (db_cons (ds_asg (de_var 0) (td_tup rfl (tds_cons (td_name 4 nd) (tds_cons (td_name 5 nd) tds_nil fun h1 h2 => pgs_cons h1 h2) fun h1 h2 => pgs_cons h1 h2)) (f_tup (f_cons (f_name (f_cons (f_name (f_nil (db_cons (ds_if (dt_cmp op_ge (de_add (de_var 5) de_int) (de_var 4) od_ge) (fun k166 => (db_one (ds_ret (de_tup (da_cons (de_tup (da_cons (de_var 4) (da_cons de_int da_nil))) (da_cons (de_var 5) da_nil))) ?_))) (fun k166 => (db_nil (db_one (ds_ret (de_tup (da_cons (de_tup (da_cons (de_var 4) (da_cons (de_add (de_var 5) de_int) da_nil))) (da_cons (de_var 5) da_nil))) ?_))))))))))) rfl)))
    · show _ = outD (wheelD (wheelF size place).1 (wheelF size place).2, .int place)
      rw [wheelF, if_pos (of_decide_eq_true k166)]
      rfl
    · show _ = outD (wheelD (wheelF size place).1 (wheelF size place).2, .int place)
      rw [wheelF, if_neg (of_decide_eq_false k166)]
      rfl

def N_stand : List Str := ["state", "life", "deed", "arguments", "word"]
theorem sc_stand : FnScope N_stand ["state", "life", "deed", "arguments"] (fScope (topS 40)) := ⟨rfl, rfl, rfl, by decide +kernel, rfl, by decide +kernel, by decide +kernel⟩
theorem nd_stand : N_stand.Nodup := by decide +kernel
theorem ok_stand (M : Blt mg) (hWORDS : STup K mg "WORDS" wordsL) (hWITH : STup K mg "WITH_ARGUMENTS" withL) (hASKED : STab P w K mg "ASKED" askedL) (hLEFT : STab P w K mg "LEFT" leftL) (D : FnP K "stand_deed" 40 f fd) : FnOk P w K mg base CX (0 + 1) f fd ["state", "life", "deed", "arguments"] (spF K standR) := by
  refine fn_spF (N := N_stand) D sc_stand (fun ds d h => ?_) fun ds d cdv A outer s H E hr h => ?_
  · obtain ⟨wd, rest, l, deed, args, rfl, hw, hr1, ha1, hl, hd, rfl⟩ := h
    rfl
  · have hu := hr.units
    have nd := nd_stand
    obtain ⟨wd, rest, l, deed, args, rfl, hw, hr1, ha1, hl, hd, rfl⟩ := h
    obtain ⟨qW, hWORDS, qWORDS, tWORDS⟩ := hWORDS.ex
    have ask : deed ≠ "stand" → ∃ y, askedL.lookup deed = some y := fun z => Option.isSome_iff_exists.mp (hd z).1
    have lef : deed ≠ "stand" → ∃ y, leftL.lookup deed = some y := fun z => Option.isSome_iff_exists.mp (hd z).2
    refine (db_cons (ds_if (dt_cmp (op_eqA hu) (de_var 2) de_str (od_eq (by first | rfl | assumption | omega | decide))) (fun k175 => (db_one (ds_ret (de_tup (da_cons (de_var 0) (da_cons (de_index hWORDS qWORDS tWORDS (de_ixT (de_var 0) de_int (at_h (PyData.str wd) rest)) (idx_at hw) idx_no) da_nil))) ?_))) (fun k175 => (db_nil (db_cons (ds_if (dt_cmp (op_neA hu) (de_ixT (d := .str wd) (de_var 0) de_int (at_h (PyData.str wd) rest)) (de_stab hASKED (de_var 2) (ask (nes k175)).choose_spec) (od_ne (by first | rfl | assumption | omega | decide))) (fun k177 => (db_one (ds_ret (de_tup (da_cons (de_var 0) (da_cons de_int da_nil))) ?_))) (fun k177 => (db_nil (db_cons (ds_if (DW.dt (dw_and (dt_cmp (op_eqA hu) (de_var 2) de_str (od_eq (by first | rfl | assumption | omega | decide))) fun kb => (dw_and1 (dt_cmp (op_neA hu) (de_slT (de_var 0) (po_s de_int) po_n) (de_var 3) (od_ne (by rw [cut1]; exact eq_ok hr1 ha1)))))) (fun k179 => (db_one (ds_ret (de_tup (da_cons (de_var 0) (da_cons de_int da_nil))) ?_))) (fun k179 => (db_nil (db_cons (ds_set 4 (de_stab hLEFT (de_var 2) (lef (nes k175)).choose_spec) nd (db_cons (ds_if (dt_cmp op_in_seq (de_var 4) (de_stup hWITH) od_inT) (fun k182 => (db_one (ds_ret (de_tup (da_cons (de_addT (de_tup (da_cons (de_var 4) da_nil)) (de_var 3) (by show 1 + args.length ≤ _; omega)) (da_cons de_int da_nil))) ?_))) (fun k182 => (db_nil (db_one (ds_ret (de_tup (da_cons (de_tup (da_cons (de_var 4) da_nil)) (da_cons de_int da_nil))) ?_))))))))))))))))))))
    all_goals show _ = outD (standD (standF wd rest deed args).1 (standF wd rest deed args).2.1, (standF wd rest deed args).2.2)
    · rw [standF, if_pos (eqs k175)]
      rfl
    · have z := (ask (nes k175)).choose_spec
      rw [standF, if_neg (nes k175), if_pos (fun e => ?_)]
      · rfl
      · rw [z] at e
        rw [Option.some.inj e, eqv_str, decide_eq_true rfl] at k177
        cases k177
    · have z := (ask (nes k175)).choose_spec
      have e1 : some wd = askedL.lookup deed := by
        rw [z]
        rw [eqv_str] at k177
        exact congrArg some (of_decide_eq_true (bnf k177))
      have e2 := Bool.and_eq_true_iff.mp k179
      rw [standF, if_neg (nes k175), if_neg (fun q => q e1), if_pos ⟨eqs e2.1, by have q := bnt e2.2; rw [cut1] at q; exact q⟩]
      rfl
    all_goals
      have z := (ask (nes k175)).choose_spec
      have y := (lef (nes k175)).choose_spec
      have e1 : some wd = askedL.lookup deed := by
        rw [z]
        rw [eqv_str] at k177
        exact congrArg some (of_decide_eq_true (bnf k177))
      have e2 : ¬ (deed = "run" ∧ PyData.eqv (.tuple rest) (.tuple args) = false) := fun q => by
        rw [cut1, eqv_str, decide_eq_true q.1, show PyData.eqv (.tuple (PyData.str wd :: rest).tail) (.tuple args) = false from q.2] at k179
        cases k179
      have e3 : (leftL.lookup deed).getD "" = (lef (nes k175)).choose := (congrArg (fun o : Option Str => o.getD "") y).trans rfl
      rw [standF, if_neg (nes k175), if_neg (fun q => q e1), if_neg e2, e3]
    · rw [if_pos k182]
      rfl
    · rw [if_neg (by rw [k182]; exact Bool.false_ne_true)]
      rfl

end
end K5
end PartF4
section PartF5
set_option maxRecDepth 100000
set_option maxHeartbeats 4000000
/-! Arguments that fit. -/
namespace K5
open PySem PySem.Spec PyProof.Rows L2
section
variable {P : Program} {w : World} {K : PySem.W.Frag} {mg : Str → Option Value} {base : Heap} {CX : CXT} {f : Addr} {fd : FuncData}
def argF (part : Str) (v : PD) : Bool := if part = "word" then isStrD v else if (decide (part = "value") && (isNonD v || isStrD v)) = true then true else
  match v with
  | .int i => if part = "value" then decide (-999999999 ≤ i) && decide (i ≤ 999999999) else if part = "units" then decide (1 ≤ i) && decide (i ≤ 999999999) else if part = "time" then decide (0 ≤ i) && decide (i ≤ 999999999) else decide (0 ≤ i)
  | _ => false
def argR (ds : List PD) (d : PD) : Prop := ∃ part v, ds = [.str part, v] ∧ d = .bool (argF part v)
theorem num_cases (v : PD) : (∃ i, v = .int i) ∨ ((isIntD v && !isBoolD v) = false ∧ ∀ part : Str, part ≠ "word" → (decide (part = "value") && (isNonD v || isStrD v)) = false → argF part v = false) := by
  cases v with
  | int i => exact .inl ⟨i, rfl⟩
  | none => exact .inr ⟨rfl, fun part h1 h2 => by unfold argF; rw [if_neg h1, if_neg (by rw [h2]; exact Bool.false_ne_true)]⟩
  | bool b => exact .inr ⟨rfl, fun part h1 h2 => by unfold argF; rw [if_neg h1, if_neg (by rw [h2]; exact Bool.false_ne_true)]⟩
  | str b => exact .inr ⟨rfl, fun part h1 h2 => by unfold argF; rw [if_neg h1, if_neg (by rw [h2]; exact Bool.false_ne_true)]⟩
  | list b => exact .inr ⟨rfl, fun part h1 h2 => by unfold argF; rw [if_neg h1, if_neg (by rw [h2]; exact Bool.false_ne_true)]⟩
  | tuple b => exact .inr ⟨rfl, fun part h1 h2 => by unfold argF; rw [if_neg h1, if_neg (by rw [h2]; exact Bool.false_ne_true)]⟩
  | dict b => exact .inr ⟨rfl, fun part h1 h2 => by unfold argF; rw [if_neg h1, if_neg (by rw [h2]; exact Bool.false_ne_true)]⟩

def N_isarg : List Str := ["part", "value"]
theorem sc_isarg : FnScope N_isarg ["part", "value"] (fScope (topS 45)) := ⟨rfl, rfl, rfl, by decide +kernel, rfl, by decide +kernel, by decide +kernel⟩
theorem nd_isarg : N_isarg.Nodup := by decide +kernel
theorem ok_isarg {k : Nat} (M : Blt mg) (hN : FnD P w K mg base CX k "is_number" ["value"] numR) {uG : Value} (hGREATEST : mg "GREATEST" = some uG) (rGREATEST : RelV (.int 999999999) uG) (hx : NoX CX) (D : FnP K "is_argument" 45 f fd) : FnOk P w K mg base CX (k + 1) f fd ["part", "value"] (spF K argR) := by
  refine fn_spF (N := N_isarg) D sc_isarg (fun ds d h => ?_) fun ds d cdv A outer s H E hr h => ?_
  · obtain ⟨part, v, rfl, rfl⟩ := h
    rfl
  · have hu := hr.units
    have nd := nd_isarg
    obtain ⟨part, v, rfl, rfl⟩ := h
    refine (db_cons (ds_if (dt_cmp (op_eqA hu) (de_var 0) de_str (od_eq (by first | rfl | assumption | omega | decide))) (fun k190 => (db_one (ds_ret (de_isi M M.str boot_str (kit_str _) (de_var 1)) ?_))) (fun k190 => (db_nil (db_cons (ds_if (DW.dt (dw_and (dt_cmp (op_eqA hu) (de_var 0) de_str (od_eq (by first | rfl | assumption | omega | decide))) fun kb => (dw_and1 (DW.dt (dw_or (dt_cmp op_isN (de_var 1) de_non od_isN) fun kb => (dw_or1 (dt_val (de_isi M M.str boot_str (kit_str _) (de_var 1))))))))) (fun k192 => (db_one (ds_ret de_bl ?_))) (fun k192 => (db_nil (db_cons (ds_if (dt_not (dt_val (de_call hN hr hx (da_cons (de_var 1) da_nil) (by exact ⟨_, rfl, rfl⟩)))) (fun k194 => (db_one (ds_ret de_bl ?_))) (fun k194 => (db_nil ?_))))))))))))
    · show _ = PyData.bool (argF part v)
      unfold argF
      rw [if_pos (eqs k190)]
    · show _ = PyData.bool (argF part v)
      unfold argF
      rw [if_neg (nes k190), if_pos (by rw [eqv_str] at k192; exact k192)]
    · show _ = PyData.bool (argF part v)
      rcases num_cases v with ⟨i, rfl⟩ | ⟨z1, z2⟩
      · cases k194
      · rw [z2 part (nes k190) (by rw [eqv_str] at k192; exact k192)]
    · rcases num_cases v with ⟨i, rfl⟩ | ⟨z1, z2⟩
      · have e : ∀ b, argF part (.int i) = b ↔ (if part = "value" then decide (-999999999 ≤ i) && decide (i ≤ 999999999) else if part = "units" then decide (1 ≤ i) && decide (i ≤ 999999999) else if part = "time" then decide (0 ≤ i) && decide (i ≤ 999999999) else decide (0 ≤ i)) = b := fun b => by
          rw [argF, if_neg (nes k190), if_neg (by rw [eqv_str] at k192; intro q; rw [q] at k192; cases k192)]
        have e' := (e _).mp rfl
        refine (db_cons (ds_if (dt_cmp (op_eqA hu) (de_var 0) de_str (od_eq (by first | rfl | assumption | omega | decide))) (fun k196 => (db_one (ds_ret (de_le2 (de_neg (de_glob hGREATEST rGREATEST (DvK.int 999999999))) (de_var 1) (de_glob hGREATEST rGREATEST (DvK.int 999999999))) ?_))) (fun k196 => (db_nil (db_cons (ds_if (dt_cmp (op_eqA hu) (de_var 0) de_str (od_eq (by first | rfl | assumption | omega | decide))) (fun k198 => (db_one (ds_ret (de_le2 de_int (de_var 1) (de_glob hGREATEST rGREATEST (DvK.int 999999999))) ?_))) (fun k198 => (db_nil (db_cons (ds_if (dt_cmp (op_eqA hu) (de_var 0) de_str (od_eq (by first | rfl | assumption | omega | decide))) (fun k200 => (db_one (ds_ret (de_le2 de_int (de_var 1) (de_glob hGREATEST rGREATEST (DvK.int 999999999))) ?_))) (fun k200 => (db_nil (db_one (ds_ret (de_cmp op_ge (de_var 1) de_int od_ge) ?_))))))))))))))
        · show PyData.bool _ = PyData.bool (argF part (.int i))
          rw [← e', if_pos (eqs k196)]
        · show PyData.bool _ = PyData.bool (argF part (.int i))
          rw [← e', if_neg (nes k196), if_pos (eqs k198)]
        · show PyData.bool _ = PyData.bool (argF part (.int i))
          rw [← e', if_neg (nes k196), if_neg (nes k198), if_pos (eqs k200)]
        · show PyData.bool _ = PyData.bool (argF part (.int i))
          rw [← e', if_neg (nes k196), if_neg (nes k198), if_neg (nes k200)]
      · rw [z1] at k194
        cases k194

def shapesL : List (List Str × List Str) := [(["cell", "look"], []), (["cell", "set"], ["value"]), (["mark", "look"], []), (["mark", "set"], ["value"]), (["line", "put"], ["value"]), (["line", "take"], []), (["line", "length"], []), (["line", "first"], []), (["store", "seize"], ["units"]), (["store", "free"], ["units"]), (["store", "spare"], []), (["store", "waiting"], []), (["gate", "wait"], []), (["gate", "open"], []), (["gate", "shut"], []), (["gate", "isopen"], []), (["gate", "waiting"], []), (["wheel", "take"], []), (["stand", "born"], ["word", "more"]), (["stand", "run"], ["time", "stage"]), (["stand", "tell"], ["word", "more"]), (["stand", "sleep"], []), (["stand", "hold"], ["time", "stage"]), (["stand", "waits"], ["word"]), (["stand", "end"], []), (["stand", "fall"], ["word"]), (["stand", "wake"], ["time", "stage"]), (["stand", "stop"], []), (["stand", "grant"], ["time", "stage"]), (["stand", "stand"], [])]
def cutG {α : Type} (ds : List α) (lo hi : Option Int) : List α := (ds.drop (HT.sIx ds.length 0 lo)).take (HT.sIx ds.length ds.length hi - HT.sIx ds.length 0 lo)
theorem cutD_map {α : Type} (g : α → PD) (xs : List α) (lo hi : Option Int) : cutD (xs.map g) lo hi = (cutG xs lo hi).map g := by
  unfold cutD cutG
  rw [List.length_map, List.map_take, List.map_drop]
def shape2 (sh : List Str) (n : Nat) : List Str := if PyData.eqv (.tuple (cutD (sh.map PyData.str) (some (-1)) none)) (.tuple [.str "more"]) = true then cutG sh none (some (-1)) ++ List.replicate ((n : Int) - (sh.length : Int) + 1).toNat ("value" : Str) else sh
def shOf (kind deed : Str) : Option (List Str) := (shapesL.find? fun kv => decide (kv.1 = [kind, deed])).map (·.2)
def fitS (sh : List Str) (args : List PD) : Bool := if sh.length ≠ args.length then false else (List.range sh.length).all fun k => argF (sh.getD k "") (args.getD k .none)
def fitsF (kind deed : Str) (args : List PD) : Bool := match shOf kind deed with
  | some sh => fitS (shape2 sh args.length) args
  | none => false
def fitsR (ds : List PD) (d : PD) : Prop := ∃ kind deed args, ds = [.str kind, .str deed, .tuple args] ∧ args.length ≤ 900 ∧ d = .bool (fitsF kind deed args)
theorem shapeOf_sh (kind deed : Str) : shapeOf shapesL [kind, deed] = match shOf kind deed with | some v => .tuple (v.map PyData.str) | none => .none := rfl
theorem sh_small {kind deed : Str} {sh : List Str} (h : shOf kind deed = some sh) : sh.length ≤ 2 ∧ okD 1000 63 (.tuple (sh.map PyData.str)) = true ∧ okD 1000 63 (.tuple (cutD (sh.map PyData.str) (some (-1)) none)) = true := by
  unfold shOf at h
  obtain ⟨kv, h1, h2⟩ := Option.map_eq_some_iff.mp h
  have z := List.mem_of_find?_eq_some h1
  have all : ∀ kv ∈ shapesL, kv.2.length ≤ 2 ∧ okD 1000 63 (.tuple (kv.2.map PyData.str)) = true ∧ okD 1000 63 (.tuple (cutD (kv.2.map PyData.str) (some (-1)) none)) = true := by decide +kernel
  rw [← h2]
  exact all kv z

theorem rng_map {g : PD → PD} {h : Nat → Bool} {n : Nat} (e : ∀ k, g (.int ((k : Nat) : Int)) = .bool (h k)) : (rngD 0 n).map g = ((List.range n).map h).map PyData.bool := by
  unfold rngD
  rw [List.map_map, List.map_map]
  refine List.map_congr_left fun k _ => ?_
  show g (.int (0 + (k : Int))) = _
  rw [Int.zero_add]
  exact e k
theorem atI_nat {α : Type} {xs : List α} {k : Nat} {a : α} (h : k < xs.length) : L2.atI xs (k : Int) = some (xs.getD k a) := by
  unfold L2.atI L2.ixN
  rw [if_pos (by omega), if_pos (by omega)]
  show xs[(k : Int).toNat]? = _
  rw [Int.toNat_natCast, List.getD_eq_getElem?_getD, List.getElem?_eq_getElem h]
  rfl
theorem more_ok : okD 1000 63 (.tuple [.str "more"]) = true := by decide +kernel
theorem repl1 {α : Type} (x : α) : ∀ k : Nat, (List.replicate k [x]).flatten = List.replicate k x
  | 0 => rfl
  | k + 1 => by rw [List.replicate_succ, List.replicate_succ, List.flatten_cons, repl1 x k]; rfl
theorem cutG_len {α : Type} (xs : List α) (lo hi : Option Int) : (cutG xs lo hi).length ≤ xs.length := by
  unfold cutG
  rw [List.length_take, List.length_drop]
  omega
def natOf : PD → Nat
  | .int i => i.toNat
  | _ => 0
theorem rngD_mem {n : Nat} {d : PD} (h : d ∈ rngD 0 n) : ∃ k : Nat, k < n ∧ d = .int (k : Int) := by
  unfold rngD at h
  obtain ⟨k, h1, h2⟩ := List.mem_map.mp h
  exact ⟨k, List.mem_range.mp h1, by rw [← h2, Int.zero_add]⟩

theorem getD_map {α β : Type} (g : α → β) (xs : List α) (k : Nat) (a : α) : (xs.map g).getD k (g a) = g (xs.getD k a) := by
  rw [List.getD_eq_getElem?_getD, List.getD_eq_getElem?_getD, List.getElem?_map]
  cases xs[k]? <;> rfl

def N_fits : List Str := ["kind", "deed", "arguments", "shape", "k"]
theorem sc_fits : FnScope N_fits ["kind", "deed", "arguments"] (fScope (topS 46)) := ⟨rfl, rfl, rfl, by decide +kernel, rfl, by decide +kernel, by decide +kernel⟩
theorem nd_fits : N_fits.Nodup := by decide +kernel
theorem ok_fits {k : Nat} (M : Blt mg) (hA : FnD P w K mg base CX k "is_argument" ["part", "value"] argR) {aS : Addr} (hSHAPES : TDict P w K aS shapesL) (mSHAPES : mg "SHAPES" = some (.ref aS)) (hx : NoX CX) (D : FnP K "fits" 46 f fd) : FnOk P w K mg base CX (k + 1) f fd ["kind", "deed", "arguments"] (spF K fitsR) := by
  refine fn_spF (N := N_fits) D sc_fits (fun ds d h => ?_) fun ds d cdv A outer s H E hr h => ?_
  · obtain ⟨kind, deed, args, rfl, hl, rfl⟩ := h
    rfl
  · have hu := hr.units
    have nd := nd_fits
    obtain ⟨kind, deed, args, rfl, hl, rfl⟩ := h
    refine (db_cons (ds_set 3 (de_tget (ks := [kind, deed]) hSHAPES hu mSHAPES (de_tup (da_cons (de_var 0) (da_cons (de_var 1) da_nil)))) nd (db_cons (ds_if (dt_cmp op_isN (de_var 3) de_non od_isN) (fun k205 => (db_one (ds_ret de_bl ?_))) (fun k205 => (db_nil ?_))))))
    · show _ = PyData.bool (fitsF kind deed args)
      cases hs : shOf kind deed with
      | none =>
        unfold fitsF
        rw [hs]
      | some sh =>
        rw [shapeOf_sh, hs] at k205
        cases k205
    cases hs : shOf kind deed with
    | none =>
      rw [shapeOf_sh, hs] at k205
      cases k205
    | some sh =>
      rw [shapeOf_sh, hs]
      have hln := (sh_small hs).1
      have fin : ∀ (s2 : List Str) (t : List PD), shape2 sh args.length = s2 → t = s2.map PyData.str → s2.length ≤ 2000 → DB (cxOf CX P w K mg base N_fits "fits" (fScope (topS 46)) f cdv A outer s H E) 0 (fun _ _ _ _ => False) ((fBody (topS 46)).drop 3) [some (.str kind), some (.str deed), some (.tuple args), some (.tuple t), none] none { nx := fun _ _ => PyData.bool (fitsF kind deed args) = .none, rt := fun e => e = PyData.bool (fitsF kind deed args) } := fun s2 t e2 et l2 => by
        subst et
        have e3 : fitsF kind deed args = fitS s2 args := by
          unfold fitsF
          rw [hs]
          show fitS (shape2 sh args.length) args = _
          rw [e2]
        refine (db_cons (ds_if (dt_cmp (op_neA hu) (de_lenT M (de_var 3)) (de_lenT M (de_var 2)) (od_ne (by first | rfl | assumption | omega | decide))) (fun k209 => (db_one (ds_ret de_bl ?_))) (fun k209 => (db_nil (db_one (ds_ret (de_all rfl M (DE.cast (d' := .list (((List.range s2.length).map fun k => argF (s2.getD k "") (args.getD k .none)).map PyData.bool)) (de_lc (i := 4) (f := fun d => .bool (argF (s2.getD (natOf d) "") (args.getD (natOf d) .none))) rfl nd (it_rng M (de_lenT M (de_var 3)) (by omega) (by rw [List.length_map]; omega)) (by rfl) (by rw [rngD_len, List.length_map]; omega) (fun d hd s H C cl fp => by
          obtain ⟨j, hj, rfl⟩ := rngD_mem hd
          rw [List.length_map] at hj
          exact (de_call hA hr hx (da_cons (de_ixT (de_var 3) (de_var 4) (by rw [atI_nat (a := PyData.str "") (by rw [List.length_map]; omega)])) (da_cons (de_ixT (de_var 2) (de_var 4) (atI_nat (a := PyData.none) (by have z := eqi (bnf k209); rw [List.length_map] at z; omega))) da_nil)) ⟨s2.getD j "", args.getD j .none, by rw [getD_map], rfl⟩))) (by rw [List.length_map]; exact congrArg PyData.list (rng_map (g := fun d => .bool (argF (s2.getD (natOf d) "") (args.getD (natOf d) .none))) (h := fun k => argF (s2.getD k "") (args.getD k .none)) fun k => rfl)))) ?_))))))
        · show PyData.bool false = PyData.bool (fitsF kind deed args)
          have z := nei (bnt k209)
          rw [List.length_map] at z
          rw [e3, fitS, if_pos (fun q => z (by rw [q]))]
        · show _ = PyData.bool (fitsF kind deed args)
          have z := eqi (bnf k209)
          rw [List.length_map] at z
          have z2 : s2.length = args.length := by omega
          rw [e3, fitS, if_neg (fun q => q z2), List.all_map]
          rfl
      refine (db_cons (ds_if (dt_cmp (op_eqA hu) (de_slT (de_var 3) (po_s (de_neg de_int)) po_n) (de_tup (da_cons de_str da_nil)) (od_eq (eq_ok (sh_small hs).2.2 more_ok))) (fun k207 => (db_one (ds_set 3 (de_addT (de_slT (de_var 3) po_n (po_s (de_neg de_int))) (de_rep (de_tup (da_cons de_str da_nil)) (de_add (de_sub (de_lenT M (de_var 2)) (de_lenT M (de_var 3))) de_int) (by first | exact List.cons_ne_nil _ _ | (rw [List.length_map]; omega) | exact (by decide : (1 : Nat) ≤ 1000)) (by first | exact List.cons_ne_nil _ _ | (rw [List.length_map]; omega) | exact (by decide : (1 : Nat) ≤ 1000)) (by first | exact List.cons_ne_nil _ _ | (rw [List.length_map]; omega) | exact (by decide : (1 : Nat) ≤ 1000)) (by first | exact List.cons_ne_nil _ _ | (rw [List.length_map]; omega) | exact (by decide : (1 : Nat) ≤ 1000))) (by rw [cutD_map, List.length_map, repl1, List.length_replicate]; have := cutG_len sh none (some (-1)); rw [List.length_map]; omega)) nd ?_))) (fun k207 => (db_nil ?_))))
      · refine fin _ _ (by rw [shape2, if_pos k207]) ?_ ?_
        · rw [cutD_map, List.length_map, repl1, List.map_append, List.map_replicate]
        · have := cutG_len sh none (some (-1))
          rw [List.length_append, List.length_replicate]
          omega
      · exact fin _ _ (by rw [shape2, if_neg (by rw [k207]; exact Bool.false_ne_true)]) rfl (by omega)

end
end K5
end PartF5
section PartM1
set_option maxRecDepth 100000
set_option maxHeartbeats 4000000
/-! States of things; what a deed leaves is such a state. -/
namespace K5
open PySem PySem.Spec PyProof.Rows L2
inductive St where
  | cell (v : PD)
  | line (vs : List PD)
  | store (s : Sto)
  | gate (p : Int) (ws : List Str)
  | wheel (size place : Int)
  | stand (wd : Str) (rest : List PD)
def St.pd : St → PD
  | .cell v => v
  | .line vs => .tuple vs
  | .store s => s.pd
  | .gate p ws => gateD p ws
  | .wheel a b => wheelD a b
  | .stand wd r => standD wd r
def St.kd : St → Str → Prop
  | .cell _, k => k = "cell" ∨ k = "mark"
  | .line _, k => k = "line"
  | .store _, k => k = "store"
  | .gate _ _, k => k = "gate"
  | .wheel _ _, k => k = "wheel"
  | .stand _ _, k => k = "stand"
def deedF : St → Str → Str → List PD → St × PD
  | .cell v, _, d, a => (.cell (cellF v d a).1, (cellF v d a).2)
  | .line vs, _, d, a => (.line (lineF vs d a).1, (lineF vs d a).2)
  | .store s, l, d, a => (.store (storeF s l d a).1, (storeF s l d a).2)
  | .gate p ws, l, d, _ => (.gate (gateF p ws l d).1 (gateF p ws l d).2.1, (gateF p ws l d).2.2)
  | .wheel s p, _, _, _ => (.wheel (wheelF s p).1 (wheelF s p).2, .int p)
  | .stand wd r, _, d, a => (.stand (standF wd r d a).1 (standF wd r d a).2.1, (standF wd r d a).2.2)
abbrev scOk (v : PD) : Prop := okD 100 0 v = true
abbrev nmOk (x : Str) : Prop := okD 100 0 (.str x) = true ∧ x ≠ ("zz" : Str)
def St.Ok (n : Nat) : St → Prop
  | .cell v => scOk v
  | .line vs => vs.length ≤ 20 ∧ ∀ v ∈ vs, scOk v
  | .store s => s.hs.length + s.ws.length ≤ n ∧ (∀ h ∈ s.hs, nmOk h.1) ∧ ∀ h ∈ s.ws, nmOk h.1
  | .gate _ ws => ws.length ≤ n ∧ ∀ x ∈ ws, nmOk x
  | .wheel _ _ => True
  | .stand wd r => wd ∈ wordsL ∧ ∀ v ∈ r, scOk v
structure AOk (args : List PD) : Prop where
  len : args.length ≤ 900
  ok : ∀ v ∈ args, scOk v
theorem ok_tup {L n : Nat} {ds : List PD} (h : ∀ d ∈ ds, okD L n d = true) : okD L (n + 1) (.tuple ds) = true := by
  unfold okD
  exact List.all_eq_true.mpr h
theorem ok_up {L n m : Nat} {d : PD} (h : okD L n d = true) (l : n ≤ m) : okD L m d = true := okD_mono l h
theorem okD_len {L L' : Nat} (hl : L ≤ L') : ∀ {n : Nat} {d : PD}, okD L n d = true → okD L' n d = true
  | _, .none, _ => by unfold okD; rfl
  | _, .int _, _ => by unfold okD; rfl
  | _, .str x, h => by
    unfold okD at h ⊢
    have z := Bool.and_eq_true_iff.mp h
    rw [z.1, decide_eq_true (Nat.le_trans (of_decide_eq_true z.2) hl)]
    rfl
  | n + 1, .tuple ds, h => by
    simp only [okD, List.all_eq_true] at h ⊢
    exact fun d hd => okD_len hl (h d hd)
  | n + 1, .list ds, h => by
    simp only [okD, List.all_eq_true] at h ⊢
    exact fun d hd => okD_len hl (h d hd)
  | 0, .tuple ds, h => by simp [okD] at h
  | 0, .list ds, h => by simp [okD] at h
  | 0, .bool _, h => by simp [okD] at h
  | n + 1, .bool _, h => by simp [okD] at h
  | 0, .dict _, h => by simp [okD] at h
  | n + 1, .dict _, h => by simp [okD] at h
theorem ok_pairs {n : Nat} {hs : HL} (h : ∀ x ∈ hs, nmOk x.1) : okD 100 (n + 2) (pairsD hs) = true := ok_tup fun d hd => by
  obtain ⟨x, hx, rfl⟩ := List.mem_map.mp hd
  refine ok_tup fun e he => ?_
  rcases List.mem_cons.mp he with rfl | he
  · exact ok_up (h x hx).1 (Nat.zero_le _)
  · rcases List.mem_cons.mp he with rfl | he
    · cases n <;> rfl
    · cases he
theorem ok_strs {n : Nat} {ws : List Str} (h : ∀ x ∈ ws, nmOk x) : okD 100 (n + 1) (strsD ws) = true := ok_tup fun d hd => by
  obtain ⟨x, hx, rfl⟩ := List.mem_map.mp hd
  exact ok_up (h x hx).1 (Nat.zero_le _)
theorem ok_int {L n : Nat} {i : Int} : okD L n (.int i) = true := by cases n <;> rfl
theorem ok_non {L n : Nat} : okD L n .none = true := by cases n <;> rfl
theorem words_ok : ∀ x ∈ wordsL, nmOk x := by decide +kernel
theorem ok_mem {L n : Nat} {a b c d : PD} (h1 : okD L n a = true) (h2 : okD L n b = true) (h3 : okD L n c = true) (h4 : okD L n d = true) : okD L (n + 1) (.tuple [a, b, c, d]) = true := by
  unfold okD
  simp only [List.all_cons, h1, h2, h3, h4, List.all_nil, Bool.and_true]
theorem St.pd_ok {n : Nat} {st : St} (h : st.Ok n) : okD 100 3 st.pd = true := by
  cases st with
  | cell v => exact ok_up (show okD 100 0 v = true from h) (by omega)
  | line vs => exact ok_up (ok_tup (n := 0) h.2) (by omega)
  | store s => exact ok_mem ok_int ok_int (ok_pairs h.2.1) (ok_pairs h.2.2)
  | gate p ws =>
    refine ok_tup fun d hd => ?_
    · rcases List.mem_cons.mp hd with rfl | hd
      · exact ok_int
      · rcases List.mem_cons.mp hd with rfl | hd
        · exact ok_strs h.2
        · cases hd
  | wheel a b =>
    refine ok_tup fun d hd => ?_
    · rcases List.mem_cons.mp hd with rfl | hd
      · exact ok_int
      · rcases List.mem_cons.mp hd with rfl | hd
        · exact ok_int
        · cases hd
  | stand wd r =>
    refine ok_tup fun d hd => ?_
    · rcases List.mem_cons.mp hd with rfl | hd
      · exact ok_up (words_ok wd h.1).1 (Nat.zero_le _)
      · exact ok_up (h.2 d hd) (Nat.zero_le _)
theorem ok63 {d : PD} (h : okD 100 3 d = true) : okD 1000 63 d = true := ok_up (okD_len (by omega) h) (by omega)
/-! ### what fits -/
theorem fit_inv {kind deed : Str} {args : List PD} (h : fitsF kind deed args = true) : ∃ sh, ([kind, deed], sh) ∈ shapesL ∧ fitS (shape2 sh args.length) args = true := by
  unfold fitsF at h
  cases e : shOf kind deed with
  | none =>
    rw [e] at h
    cases h
  | some sh =>
    rw [e] at h
    unfold shOf at e
    obtain ⟨kv, h1, h2⟩ := Option.map_eq_some_iff.mp e
    have z := List.mem_of_find?_eq_some h1
    have z2 := List.find?_some h1
    have z3 : kv.1 = [kind, deed] := of_decide_eq_true z2
    refine ⟨sh, ?_, h⟩
    rw [← z3, ← h2]
    exact z
theorem fit_value : ∀ e ∈ shapesL, (e.1.getD 0 "" = "cell" ∨ e.1.getD 0 "" = "mark") → e.1.getD 1 "" ≠ "look" → e.2 = (["value"] : List Str) := by decide +kernel
theorem fit_put : ∀ e ∈ shapesL, e.1.getD 0 "" = "line" → e.1.getD 1 "" = "put" → e.2 = (["value"] : List Str) := by decide +kernel
theorem fit_units : ∀ e ∈ shapesL, e.1.getD 0 "" = "store" → (e.1.getD 1 "" = "seize" ∨ e.1.getD 1 "" = "free") → e.2 = (["units"] : List Str) := by decide +kernel
theorem fit_stand : ∀ e ∈ shapesL, e.1.getD 0 "" = "stand" → e.1.getD 1 "" ≠ "stand" → (askedL.lookup (e.1.getD 1 "")).isSome = true ∧ (leftL.lookup (e.1.getD 1 "")).isSome = true := by decide +kernel
theorem left_words : ∀ e ∈ leftL, e.2 ∈ wordsL := by decide +kernel
theorem shape2_value (n : Nat) : shape2 ["value"] n = (["value"] : List Str) := by
  unfold shape2
  rw [if_neg (by decide +kernel)]
theorem shape2_units (n : Nat) : shape2 ["units"] n = (["units"] : List Str) := by
  unfold shape2
  rw [if_neg (by decide +kernel)]
theorem fitS_one {p : Str} {args : List PD} (h : fitS [p] args = true) : ∃ a, args = [a] ∧ argF p a = true := by
  unfold fitS at h
  by_cases e : [p].length ≠ args.length
  · rw [if_pos e] at h
    cases h
  · rw [if_neg e] at h
    match args, e, h with
    | [], e, _ => exact absurd (fun z => nomatch z) e
    | [a], _, h =>
      refine ⟨a, rfl, ?_⟩
      have z := List.all_eq_true.mp h 0 (List.mem_range.mpr (Nat.zero_lt_one))
      exact z
    | _ :: _ :: _, e, _ => exact absurd (by simp) e
theorem argF_units {a : PD} (h : argF "units" a = true) : ∃ i, a = .int i := by
  rcases num_cases a with z | ⟨_, z⟩
  · exact z
  · rw [z "units" (by decide +kernel) (by rw [decide_eq_false (by decide +kernel)]; rfl)] at h
    cases h
structure Fit (st : St) (deed : Str) (args : List PD) : Prop where
  cell : ∀ v, st = .cell v → deed ≠ "look" → args ≠ []
  line : ∀ v, st = .line v → deed = "put" → args ≠ []
  store : ∀ s, st = .store s → deed = "seize" ∨ deed = "free" → isI args = true
  stand : ∀ w r, st = .stand w r → deed ≠ "stand" → (askedL.lookup deed).isSome = true ∧ (leftL.lookup deed).isSome = true
theorem fit_of {st : St} {kind deed : Str} {args : List PD} (hk : st.kd kind) (h : fitsF kind deed args = true) : Fit st deed args := by
  obtain ⟨sh, h1, h2⟩ := fit_inv h
  refine ⟨fun v e hd => ?_, fun v e hd => ?_, fun v e hd => ?_, fun w r e hd => ?_⟩
  · subst e
    have z : sh = (["value"] : List Str) := fit_value _ h1 hk hd
    rw [z, shape2_value] at h2
    obtain ⟨a, e, _⟩ := fitS_one h2
    rw [e]
    exact fun z => nomatch z
  · subst e
    have z : sh = (["value"] : List Str) := fit_put _ h1 hk hd
    rw [z, shape2_value] at h2
    obtain ⟨a, e, _⟩ := fitS_one h2
    rw [e]
    exact fun z => nomatch z
  · subst e
    have z : sh = (["units"] : List Str) := fit_units _ h1 hk hd
    rw [z, shape2_units] at h2
    obtain ⟨a, e, h3⟩ := fitS_one h2
    obtain ⟨i, rfl⟩ := argF_units h3
    rw [e]
    rfl
  · subst e
    exact fit_stand _ h1 hk hd
/-! ### what deeds leave -/
theorem headD_ok {vs : List PD} (h : ∀ v ∈ vs, scOk v) : scOk (vs.headD .none) := by
  cases vs with
  | nil => exact ok_non
  | cons a r => exact h a (List.mem_cons_self ..)
theorem wuF_mem {hs : HL} {l : Str} {u : Int} {x : Str × Int} (h : x ∈ wuF hs l u) : x ∈ hs ∨ x.1 = l := by
  unfold wuF at h
  split at h
  · rcases List.mem_append.mp h with h | h
    · exact .inl (List.mem_filter.mp h).1
    · exact .inl (List.mem_filter.mp h).1
  · rcases List.mem_append.mp h with h | h
    · rcases List.mem_append.mp h with h | h
      · exact .inl (List.mem_filter.mp h).1
      · rw [List.mem_singleton] at h
        exact .inr (by rw [h])
    · exact .inl (List.mem_filter.mp h).1
theorem wuF_ok {hs : HL} {l : Str} {u : Int} (h : ∀ x ∈ hs, nmOk x.1) (hl : nmOk l) : ∀ x ∈ wuF hs l u, nmOk x.1 := fun x hx => by
  rcases wuF_mem hx with z | z
  · exact h x z
  · rw [z]
    exact hl
theorem serveF_ok : ∀ (ws : HL) (fr : Int) (hs : HL) (sv : List Str) (n : Nat), (∀ x ∈ hs, nmOk x.1) → (∀ x ∈ ws, nmOk x.1) → (∀ x ∈ sv, nmOk x) → hs.length + ws.length ≤ n →
    (∀ x ∈ (serveF fr hs ws sv).2.1, nmOk x.1) ∧ (∀ x ∈ (serveF fr hs ws sv).2.2.1, nmOk x.1) ∧ (∀ x ∈ (serveF fr hs ws sv).2.2.2, nmOk x) ∧ (serveF fr hs ws sv).2.1.length + (serveF fr hs ws sv).2.2.1.length ≤ n
  | [], fr, hs, sv, n, h1, h2, h3, h4 => ⟨h1, h2, h3, h4⟩
  | w :: r, fr, hs, sv, n, h1, h2, h3, h4 => by
    unfold serveF
    by_cases e : w.2 ≤ fr
    · rw [if_pos e]
      refine serveF_ok r _ _ _ n (wuF_ok h1 (h2 w (List.mem_cons_self ..))) (fun x hx => h2 x (List.mem_cons_of_mem _ hx)) (fun x hx => ?_) ?_
      · rcases List.mem_append.mp hx with z | z
        · exact h3 x z
        · rw [List.mem_singleton] at z
          rw [z]
          exact h2 w (List.mem_cons_self ..)
      · have := wuF_len hs w.1 (unitsF hs w.1 + w.2)
        rw [List.length_cons] at h4
        omega
    · rw [if_neg e]
      exact ⟨h1, h2, h3, h4⟩
theorem seizeF_ok {s : Sto} {l : Str} {u : Int} {n : Nat} (h : (St.store s).Ok n) (hl : nmOk l) : (St.store (seizeF s l u).1).Ok (n + 1) ∧ okD 100 1 (seizeF s l u).2 = true := by
  obtain ⟨h1, h2, h3⟩ := h
  unfold seizeF
  split
  · refine ⟨⟨?_, wuF_ok h2 hl, fun x hx => nomatch hx⟩, rfl⟩
    have := wuF_len s.hs l (unitsF s.hs l + u)
    show (wuF _ _ _).length + 0 ≤ _
    omega
  · refine ⟨⟨?_, h2, fun x hx => ?_⟩, rfl⟩
    · show s.hs.length + (s.ws ++ [(l, u)]).length ≤ _
      rw [List.length_append]
      show s.hs.length + (s.ws.length + 1) ≤ _
      omega
    · rcases List.mem_append.mp hx with z | z
      · exact h3 x z
      · rw [List.mem_singleton] at z
        rw [z]
        exact hl
theorem freeF_ok {s : Sto} {l : Str} {u : Int} {n : Nat} (h : (St.store s).Ok n) (hl : nmOk l) : (St.store (freeF s l u).1).Ok (n + 1) ∧ okD 100 1 (freeF s l u).2 = true := by
  obtain ⟨h1, h2, h3⟩ := h
  unfold freeF
  split
  · exact ⟨⟨by show s.hs.length + s.ws.length ≤ _; omega, h2, h3⟩, rfl⟩
  · have z := serveF_ok s.ws (s.free + u) (wuF s.hs l (unitsF s.hs l - u)) [] (n + 1) (wuF_ok h2 hl) h3 (fun x hx => nomatch hx) (by have := wuF_len s.hs l (unitsF s.hs l - u); omega)
    exact ⟨⟨z.2.2.2, z.1, z.2.1⟩, ok_strs z.2.2.1⟩
theorem St.Ok.mono {n m : Nat} (hl : n ≤ m) {st : St} (h : st.Ok n) : st.Ok m := by
  cases st with
  | cell v => exact h
  | line vs => exact h
  | store s => exact ⟨Nat.le_trans h.1 hl, h.2⟩
  | gate p ws => exact ⟨Nat.le_trans h.1 hl, h.2⟩
  | wheel a b => exact h
  | stand wd r => exact h
theorem storeF_ok {s : Sto} {l deed : Str} {args : List PD} {n : Nat} (h : (St.store s).Ok n) (hl : nmOk l) : (St.store (storeF s l deed args).1).Ok (n + 1) ∧ okD 100 1 (storeF s l deed args).2 = true := by
  unfold storeF
  split
  · exact seizeF_ok h hl
  · split
    · exact freeF_ok h hl
    · split
      · exact ⟨h.mono (by omega), rfl⟩
      · exact ⟨h.mono (by omega), rfl⟩
theorem lookup_mem {α : Type} {k : Str} {v : α} : ∀ {l : List (Str × α)}, l.lookup k = some v → (k, v) ∈ l
  | [], h => by cases h
  | e :: r, h => by
    rw [List.lookup_cons] at h
    cases q : k == e.1 with
    | true =>
      rw [q] at h
      have z : k = e.1 := eq_of_beq q
      have z2 : e.2 = v := Option.some.inj h
      rw [z, ← z2]
      exact List.mem_cons_self ..
    | false =>
      rw [q] at h
      exact List.mem_cons_of_mem _ (lookup_mem h)
theorem asked_left : ∀ e ∈ askedL, (leftL.lookup e.1).getD "" ∈ wordsL := by decide +kernel
theorem deedF_ok {st : St} {l deed : Str} {args : List PD} {n : Nat} (h : st.Ok n) (hl : nmOk l) (ha : AOk args) : (deedF st l deed args).1.Ok (n + 1) ∧ okD 100 1 (deedF st l deed args).2 = true := by
  cases st with
  | cell v =>
    show scOk (cellF v deed args).1 ∧ okD 100 1 (cellF v deed args).2 = true
    unfold cellF
    split
    · exact ⟨h, ok_up (show okD 100 0 v = true from h) (by omega)⟩
    · exact ⟨headD_ok ha.ok, rfl⟩
  | line vs =>
    show (_ ∧ ∀ v ∈ _, scOk v) ∧ okD 100 1 (lineF vs deed args).2 = true
    have hv : scOk (vs.headD .none) := headD_ok h.2
    unfold lineF
    split
    · split
      · exact ⟨h, rfl⟩
      · refine ⟨⟨?_, fun v hv => ?_⟩, rfl⟩
        · rw [List.length_append]
          show vs.length + 1 ≤ 20
          omega
        · rcases List.mem_append.mp hv with z | z
          · exact h.2 v z
          · rw [List.mem_singleton] at z
            rw [z]
            exact headD_ok ha.ok
    · split
      · exact ⟨h, rfl⟩
      · split
        · exact ⟨h, rfl⟩
        · split
          · exact ⟨h, ok_up hv (by omega)⟩
          · refine ⟨⟨?_, fun v hv => h.2 v (List.mem_of_mem_tail hv)⟩, ok_up hv (by omega)⟩
            have := h.1
            rw [List.length_tail]
            omega
  | store s => exact storeF_ok h hl
  | gate p ws =>
    show (_ ∧ ∀ x ∈ (gateF p ws l deed).2.1, nmOk x) ∧ okD 100 1 (gateF p ws l deed).2.2 = true
    have h1 : ws.length ≤ n := h.1
    unfold gateF
    split
    · split
      · exact ⟨⟨by show ws.length ≤ _; omega, h.2⟩, rfl⟩
      · refine ⟨⟨?_, fun x hx => ?_⟩, rfl⟩
        · show (ws ++ [l]).length ≤ _
          rw [List.length_append]
          show ws.length + 1 ≤ _
          omega
        · rcases List.mem_append.mp hx with z | z
          · exact h.2 x z
          · rw [List.mem_singleton] at z
            rw [z]
            exact hl
    · split
      · exact ⟨⟨Nat.zero_le _, fun x hx => nomatch hx⟩, ok_strs h.2⟩
      · split
        · exact ⟨⟨by show ws.length ≤ _; omega, h.2⟩, rfl⟩
        · split
          · exact ⟨⟨by show ws.length ≤ _; omega, h.2⟩, rfl⟩
          · exact ⟨⟨by show ws.length ≤ _; omega, h.2⟩, rfl⟩
  | wheel a b => exact ⟨trivial, rfl⟩
  | stand wd r =>
    show ((standF wd r deed args).1 ∈ wordsL ∧ ∀ v ∈ (standF wd r deed args).2.1, scOk v) ∧ okD 100 1 (standF wd r deed args).2.2 = true
    unfold standF
    split
    · exact ⟨h, by exact rfl⟩
    · split
      · exact ⟨h, rfl⟩
      · rename_i z
        have z2 : askedL.lookup deed = some wd := Eq.symm (Decidable.of_not_not z)
        have z3 : (leftL.lookup deed).getD "" ∈ wordsL := asked_left _ (lookup_mem z2)
        split
        · exact ⟨h, rfl⟩
        · split
          · exact ⟨⟨z3, ha.ok⟩, rfl⟩
          · exact ⟨⟨z3, fun v hv => nomatch hv⟩, rfl⟩
theorem deedF_kd {st : St} {l deed kind : Str} {args : List PD} (h : st.kd kind) : (deedF st l deed args).1.kd kind := by
  cases st <;> exact h
end K5
end PartM1
section PartF6
set_option maxRecDepth 100000
set_option maxHeartbeats 4000000
/-! A deed done, a thing touched. -/
namespace K5
open PySem PySem.Spec PyProof.Rows L2
section
variable {P : Program} {w : World} {K : PySem.W.Frag} {mg : Str → Option Value} {base : Heap} {CX : CXT} {f : Addr} {fd : FuncData}
def Act (P : Program) (w : World) (K : PySem.W.Frag) (mg : Str → Option Value) (base : Heap) (CX : CXT) (k : Nat) (d0 : Addr) (z : Str) (F : List PD → PD → Prop) : Prop :=
  ∃ f fd, PySem.W.nsIn K d0 z = some (some (.ref f)) ∧ FnOk P w K mg base CX k f fd ["state", "life", "deed", "arguments"] (spF K F) ∧ PySem.W.keepIn K (.ref f) = true ∧ Binds K fd ["state", "life", "deed", "arguments"] []
structure ATab (P : Program) (w : World) (K : PySem.W.Frag) (mg : Str → Option Value) (base : Heap) (CX : CXT) (k : Nat) (d0 : Addr) : Prop where
  kd : ∃ es n, KDict K w d0 es n
  mgA : mg "ACTIONS" = some (.ref d0)
  cell : Act P w K mg base CX k d0 "cell" cellR
  mark : Act P w K mg base CX k d0 "mark" cellR
  line : Act P w K mg base CX k d0 "line" lineR
  store : Act P w K mg base CX k d0 "store" storeR
  gate : Act P w K mg base CX k d0 "gate" gateR
  wheel : Act P w K mg base CX k d0 "wheel" wheelR
  stand : Act P w K mg base CX k d0 "stand" standR
theorem ATab.get {k : Nat} {d0 : Addr} (T : ATab P w K mg base CX k d0) {st : St} {kind l deed : Str} {args : List PD} (hk : st.kd kind) (h : st.Ok 900) (ha : AOk args) (hf : fitsF kind deed args = true) :
    ∃ F, Act P w K mg base CX k d0 kind F ∧ F [st.pd, .str l, .str deed, .tuple args] (outD ((deedF st l deed args).1.pd, (deedF st l deed args).2)) := by
  have q := fit_of hk hf
  have a63 : okD 1000 63 (.tuple args) = true := ok63 (ok_up (ok_tup (n := 0) ha.ok) (by omega))
  have o63 := ok63 (St.pd_ok h)
  cases st with
  | cell v =>
    refine ⟨cellR, ?_, v, _, deed, args, rfl, q.cell v rfl, rfl⟩
    rcases hk with rfl | rfl
    · exact T.cell
    · exact T.mark
  | line vs =>
    obtain rfl : kind = "line" := hk
    exact ⟨lineR, T.line, vs, _, deed, args, rfl, o63, by have := h.1; omega, q.line vs rfl, rfl⟩
  | store s =>
    obtain rfl : kind = "store" := hk
    exact ⟨storeR, T.store, s, l, deed, args, rfl, ⟨by have := h.1; omega, ok63 (ok_up (ok_pairs (n := 0) h.2.2) (by omega))⟩, q.store s rfl, rfl⟩
  | gate p ws =>
    obtain rfl : kind = "gate" := hk
    exact ⟨gateR, T.gate, p, ws, l, deed, args, rfl, by have := h.1; omega, rfl⟩
  | wheel a b =>
    obtain rfl : kind = "wheel" := hk
    exact ⟨wheelR, T.wheel, a, b, _, deed, args, rfl, rfl⟩
  | stand wd r =>
    obtain rfl : kind = "stand" := hk
    exact ⟨standR, T.stand, wd, r, _, deed, args, rfl, h.1, ok63 (ok_up (ok_tup (n := 0) h.2) (by omega)), a63, by have := ha.len; omega, q.stand wd r rfl, rfl⟩
structure DOk (st : St) (kind l deed : Str) (args : List PD) : Prop where
  kd : st.kd kind
  ok : st.Ok 900
  nm : nmOk l
  aok : AOk args
  fit : fitsF kind deed args = true
def doR (ds : List PD) (d : PD) : Prop := ∃ st kind l deed args, ds = [.str kind, st.pd, .str l, .str deed, .tuple args] ∧ DOk st kind l deed args ∧ d = outD ((deedF st l deed args).1.pd, (deedF st l deed args).2)
def touF (st : St) (number : Int) (l deed : Str) (args : List PD) : Int × Str := if PyData.eqv (deedF st l deed args).1.pd st.pd = true then (number, "look") else (number + 1, "change")
def touD (thing deed : Str) (args : List PD) (x : Int × Str) (ans : PD) : PD := .tuple [.str thing, .int x.1, .str x.2, .str deed, .tuple args, ans]
def touR (ds : List PD) (d : PD) : Prop := ∃ thing kind st number l deed args, ds = [.str thing, .str kind, st.pd, .int number, .str l, .str deed, .tuple args] ∧ DOk st kind l deed args ∧
  d = .tuple [touD thing deed args (touF st number l deed args) (deedF st l deed args).2, (deedF st l deed args).1.pd]

def N_dodeed : List Str := ["kind", "state", "life", "deed", "arguments", "action"]
theorem sc_dodeed : FnScope N_dodeed ["kind", "state", "life", "deed", "arguments"] (fScope (topS 47)) := ⟨rfl, rfl, rfl, by decide +kernel, rfl, by decide +kernel, by decide +kernel⟩
theorem nd_dodeed : N_dodeed.Nodup := by decide +kernel
theorem ok_dodeed {k : Nat} (M : Blt mg) (hFit : FnD P w K mg base CX k "fits" ["kind", "deed", "arguments"] fitsR) {d0 : Addr} (hT : ATab P w K mg base CX k d0) (hx : NoX CX) (D : FnP K "do_deed" 47 f fd) : FnOk P w K mg base CX (k + 1) f fd ["kind", "state", "life", "deed", "arguments"] (spF K doR) := by
  refine fn_spF (N := N_dodeed) D sc_dodeed (fun ds d h => ?_) fun ds d cdv A outer s H E hr h => ?_
  · obtain ⟨st, kind, l, deed, args, rfl, ok, rfl⟩ := h
    rfl
  · have hu := hr.units
    have nd := nd_dodeed
    obtain ⟨st, kind, l, deed, args, rfl, ok, rfl⟩ := h
    obtain ⟨F, ⟨g, gd, e1, e2, e3, e4⟩, e5⟩ := hT.get (l := l) ok.kd ok.ok ok.aok ok.fit
    obtain ⟨es, n, hD⟩ := hT.kd
    have hfit := ok.fit
    refine (db_cons (ds_if (dt_not (dt_val (de_call hFit hr hx (da_cons (de_var 0) (da_cons (de_var 3) (da_cons (de_var 4) da_nil))) (by exact ⟨_, _, _, rfl, ok.aok.len, rfl⟩)))) (fun k213 => ?_) (fun k213 => (db_nil ?_))))
    · rw [ok.fit] at k213
      cases k213
    · exact db_act 5 hD hT.mgA e1 e2 e3 e4 hr hx (Nat.le_of_ble_eq_true rfl) nd (de_var 0) (da_cons (de_var 1) (da_cons (de_var 2) (da_cons (de_var 3) (da_cons (de_var 4) da_nil)))) e5 rfl

def N_touch : List Str := ["thing", "kind", "state", "number", "life", "deed", "arguments", "after", "answer"]
theorem sc_touch : FnScope N_touch ["thing", "kind", "state", "number", "life", "deed", "arguments"] (fScope (topS 48)) := ⟨rfl, rfl, rfl, by decide +kernel, rfl, by decide +kernel, by decide +kernel⟩
theorem nd_touch : N_touch.Nodup := by decide +kernel
theorem ok_touch {k : Nat} (hDo : FnD P w K mg base CX k "do_deed" ["kind", "state", "life", "deed", "arguments"] doR) (hx : NoX CX) (D : FnP K "touch" 48 f fd) : FnOk P w K mg base CX (k + 1) f fd ["thing", "kind", "state", "number", "life", "deed", "arguments"] (spF K touR) := by
  refine fn_spF (N := N_touch) D sc_touch (fun ds d h => ?_) fun ds d cdv A outer s H E hr h => ?_
  · obtain ⟨thing, kind, st, number, l, deed, args, rfl, ok, rfl⟩ := h
    rfl
  · have hu := hr.units
    have nd := nd_touch
    obtain ⟨thing, kind, st, number, l, deed, args, rfl, ok, rfl⟩ := h
    refine (db_cons (ds_asg (de_call hDo hr hx (da_cons (de_var 1) (da_cons (de_var 2) (da_cons (de_var 4) (da_cons (de_var 5) (da_cons (de_var 6) da_nil))))) (by exact ⟨st, _, _, _, _, rfl, ok, rfl⟩)) (td_tup rfl (tds_cons (td_name 7 nd) (tds_cons (td_name 8 nd) tds_nil fun h1 h2 => pgs_cons h1 h2) fun h1 h2 => pgs_cons h1 h2)) (f_tup (f_cons (f_name (f_cons (f_name (f_nil (db_cons (ds_if (dt_cmp (op_eqA hu) (de_var 7) (de_var 2) (od_eq (eq_ok (ok63 (St.pd_ok (deedF_ok ok.ok ok.nm ok.aok).1)) (ok63 (St.pd_ok ok.ok))))) (fun k219 => (db_one (ds_ret (de_tup (da_cons (de_tup (da_cons (de_var 0) (da_cons (de_var 3) (da_cons de_str (da_cons (de_var 5) (da_cons (de_var 6) (da_cons (de_var 8) da_nil))))))) (da_cons (de_var 7) da_nil))) ?_))) (fun k219 => (db_nil (db_one (ds_ret (de_tup (da_cons (de_tup (da_cons (de_var 0) (da_cons (de_add (de_var 3) de_int) (da_cons de_str (da_cons (de_var 5) (da_cons (de_var 6) (da_cons (de_var 8) da_nil))))))) (da_cons (de_var 7) da_nil))) ?_))))))))))) rfl)))
    · show _ = PyData.tuple [touD thing deed args (touF st number l deed args) (deedF st l deed args).2, (deedF st l deed args).1.pd]
      rw [touF, if_pos k219]
      rfl
    · show _ = PyData.tuple [touD thing deed args (touF st number l deed args) (deedF st l deed args).2, (deedF st l deed args).1.pd]
      rw [touF, if_neg (by rw [k219]; exact Bool.false_ne_true)]
      rfl

end
end K5
end PartF6
section PartSK
set_option maxRecDepth 100000
set_option maxHeartbeats 4000000
/-! row_place's call, on the machine itself; sorted by it. -/
namespace K5
open PySem PySem.Spec PyProof.Rows L2
section
variable {P : Program} {w : World} {A : Around} {env : Env} {E : Value → Shared → Prop} {s0 : Shared} {L : Addr} {m : Str → Option Value}
def XR (P : Program) (w : World) (A : Around) (env : Env) (E : Value → Shared → Prop) (s0 : Shared) (L : Addr) (m : Str → Option Value) (e : Expr) (V : Value → Prop) : Prop :=
  ∀ s, InCall s0 L m s → wpAny (model P w) A (eval e env) (fun v s' => InCall s0 L m s' ∧ V v) E s
theorem xr_name {x : Str} {v : Value} {pos : Pos} (hL : env.locals = L) (hk : env.scope.kind = .function) (hl : env.kindOf x = some .local) (hm : m x = some v) (hd : (x == ("__debug__" : Str)) = false := by decide) : XR P w A env E s0 L m (.Name x pos) (· = v) := fun s I => by
  subst hL
  exact wpAny_Name (wpAny_loadName_local hk hl I.ns hm ⟨I, rfl⟩) hd
theorem xr_ix {a : Expr} {t : Addr} {its : Array Value} {j : Nat} {u : Value} {k : Nat} {p1 p2 : Pos} (h : XR P w A env E s0 L m a (· = .ref t)) (ht : IsTup s0.heap t its) (hj : its[j]? = some u) (hz : its.size < 1000) : XR P w A env E s0 L m (.Subscript a (.Constant (.int (j : Nat)) k p1) p2) (· = u) := fun s I => by
  have hlt : j < its.size := by
    rcases Nat.lt_or_ge j its.size with z | z
    · exact z
    · rw [Array.getElem?_eq_none z] at hj
      cases hj
  refine Subscript_ (wpAny_mono (h s I) (fun o s1 ⟨I1, e1⟩ => ?_) fun _ _ x => x)
  subst e1
  refine wpAny_Constant_int ?_
  have I2 := I1.tok (s1.toks + 1)
  have pl := ht.keeps I2.keep
  exact subscriptTail_builtinR (x := u) pl.typeIs slot_tuple_getitem.lookup
    (getItem_tuple (j := j) (Q := fun r s' => r = u ∧ (InCall s0 L m s' ∧ r = u)) pl (by omega) (by omega) (L2.ixN_seq (by unfold L2.ixN; rw [if_pos (by omega), if_pos (by omega), Int.toNat_natCast])).1 hj ⟨rfl, I2, rfl⟩) (by with_unfolding_all rfl)
theorem xr_eqS {a : Expr} {x y : Str} {t : Tok} {k : Nat} {p1 p2 : Pos} (h : XR P w A env E s0 L m a (· = .str x t)) (hm : behindInMarks .Eq (.Constant (.str y) k p1) = false := by with_unfolding_all rfl) : XR P w A env E s0 L m (.Compare a [.Eq] [.Constant (.str y) k p1] p2) (· = .bool (x == y)) := fun s I => by
  refine wpAny_Compare1 (wpAny_mono (h s I) (fun o s1 ⟨I1, e1⟩ => ?_) fun _ _ x => x) hm
  subst e1
  refine Calls.Constant_str ?_
  exact PyProof.Rows.eq_str ⟨I1.tok _, rfl⟩
theorem xr_intB {a : Expr} {b : Bool} {mg mb : Str → Option Value} {p1 p2 : Pos} (h : XR P w A env E s0 L m a (· = .bool b)) (hk : env.scope.kind = .function) (hx : env.kindOf "int" = some .globalImplicit) (hg : s0.heap.Ns env.globals mg) (hmiss : mg "int" = none) (hb : s0.heap.Ns env.builtins mb) (hv : mb "int" = some (.type "int"))
    (he : starEach [a] env = [(false, eval a env)] := by rfl) : XR P w A env E s0 L m (.Call (.Name "int" p1) [a] [] p2) (fun v => ∃ t, v = .int (if b then 1 else 0) t) := fun s I => by
  refine wpAny_Call_Name_kw (Calls.Name_function_global hk hx (Calls.loadGlobal_builtin (hg.keeps I.keep) hmiss (hb.keeps I.keep) hv ?_))
  refine PyProof.Rows.callWith_type1 ?_ he rfl
  rw [he]
  refine Calls.spliced_cons (wpAny_mono (h s I) (fun o s1 ⟨I1, e1⟩ => ?_) fun _ _ x => x)
  subst e1
  refine Calls.spliced_nil ?_
  exact call_int_bool ⟨I1.tok _, _, rfl⟩
theorem xr_tup3 {a b c : Expr} {V1 V2 V3 : Value → Prop} {k : Nat} {p : Pos} {s : Shared} (I : InCall s0 L m s) (h1 : XR P w A env E s0 L m a V1) (h2 : XR P w A env E s0 L m b V2) (h3 : XR P w A env E s0 L m c V3) (he : starEach [a, b, c] env = [(false, eval a env), (false, eval b env), (false, eval c env)]) {Q : Value → Shared → Prop}
    (q : ∀ v1 v2 v3 s', V1 v1 → V2 v2 → V3 v3 → InCall s0 L m s' → Q (.ref s'.heap.objs.size) { s' with heap := s'.heap.push { cls := .type "tuple", data := .seq #[v1, v2, v3] } }) : wpAny (model P w) A (eval (.Tuple [a, b, c] k p) env) Q E s := by
  refine wpAny_Tuple_spliced ?_
  rw [he]
  refine Calls.spliced_cons (wpAny_mono (h1 s I) (fun v1 s1 ⟨I1, e1⟩ => ?_) fun _ _ x => x)
  refine Calls.spliced_cons (wpAny_mono (h2 s1 I1) (fun v2 s2 ⟨I2, e2⟩ => ?_) fun _ _ x => x)
  refine Calls.spliced_cons (wpAny_mono (h3 s2 I2) (fun v3 s3 ⟨I3, e3⟩ => ?_) fun _ _ x => x)
  refine Calls.spliced_nil ⟨by rw [sizeLine_eq]; exact Nat.le_of_ble_eq_true rfl, q v1 v2 v3 s3 e1 e2 e3 I3⟩
end
section
variable {P : Program} {w : World} {K : PySem.W.Frag} {mg : Str → Option Value} {base : Heap} {f : Addr} {fd : FuncData} {A : Around} {s : Shared}
/-- row_place(row) -/
theorem key_call (D : FnP K "row_place" 50 f fd) (Bn : Binds K fd ["row"] []) (kin : K.In s.heap) (lim : s.heap.NoLimit) (hg : s.heap.Ns mainGlobals mg) (hmiss : mg "int" = none) {mb : Str → Option Value} (hb : s.heap.Ns builtinsNs mb) (hv : mb "int" = some (.type "int")) (hd : A.depth < recursionLimit)
    {t : Addr} {its : Array Value} {n0 : Int} {mode life : Str} {t0 t1 t2 : Tok} (ht : IsTup s.heap t its) (hz : its.size < 1000) (e0 : its[0]? = some (.int n0 t0)) (e1 : its[1]? = some (.str mode t1)) (e2 : its[2]? = some (.str life t2)) :
    wpAny (model P w) A (call (.ref f) [.ref t]) (PySem.W.KeyPure (.tuple [.int n0, .int (if mode = "look" then 1 else 0), .str life]) s) (fun _ _ => False) s := by
  obtain ⟨oc, od, dV, kV, doc, pm, an, cdv, ct, osl, rfl, lk, hcd, hdv, hkv⟩ := D.ex
  refine wpAny_call ?_
  refine codeAny_call_function hd (kin _ _ lk) rfl rfl rfl rfl (PySem.W.codeRec_of kin hcd) (Bn s [.ref t] kin rfl _ _ _ _ ?_)
  refine wpAny_newFunctionEnv_cells rfl (fun y hy => ?_) fun env he s1 x => ?_
  · obtain rfl := List.mem_singleton.mp hy
    exact .inl rfl
  subst he
  refine ⟨lim.keeps x.toInCall.keep, codeAny_func ?_⟩
  refine wpAny_execs_cons (wpAny_Return_some (xr_tup3 x.toInCall (xr_ix (j := 0) (xr_name rfl rfl rfl rfl) ht e0 hz) (xr_intB (xr_eqS (xr_ix (j := 1) (xr_name rfl rfl rfl rfl) ht e1 hz)) rfl rfl hg hmiss hb hv) (xr_ix (j := 2) (xr_name rfl rfl rfl rfl) ht e2 hz) rfl fun v1 v2 v3 s' q1 q2 q3 I' => ?_))
  obtain ⟨h1, tk, rfl, keep⟩ := I'.done
  obtain ⟨t5, rfl⟩ := q2
  subst q1 q3
  refine ⟨_, _, rfl, fun b o e => Heap.get?_push_of_some _ (keep b o e), ?_⟩
  have eb : (if (mode == "look") = true then (1 : Int) else 0) = if mode = "look" then 1 else 0 := by
    by_cases h : mode = "look"
    · rw [h, if_pos rfl, if_pos (by decide +kernel)]
    · rw [if_neg h, if_neg (fun z => h (eq_of_beq z))]
  refine .tuple (as := []) (Heap.get?_push_size _ rfl) rfl rfl ?_
  refine .cons (as := []) (bs := []) (.int _ _) (.cons (as := []) (bs := []) ?_ (.cons (as := []) (bs := []) (.str _ _) .nil))
  rw [← eb]
  exact .int _ _
end
end K5
end PartSK
section PartSK2
set_option maxRecDepth 100000
set_option maxHeartbeats 4000000
/-! sorted(rows, key=row_place). -/
namespace K5
open PySem PySem.Spec PyProof.Rows L2
structure Row where
  num : Int
  mode : Str
  life : Str
  time : Int
  stage : Int
  deed : Str
  args : List PD
  ans : PD
def rowD (r : Row) : PD := .tuple [.int r.num, .str r.mode, .str r.life, .int r.time, .int r.stage, .str r.deed, .tuple r.args, r.ans]
def rowK (r : Row) : PD := .tuple [.int r.num, .int (if r.mode = "look" then 1 else 0), .str r.life]
def sortR (rs : List Row) : List Row := rs.mergeSort (PySem.W.dataLe false rowK)
theorem dvA_all {K : PySem.W.Frag} {H : Hp} : ∀ {bs : List (V × Row)}, (∀ b ∈ bs, Dv K H b.1 (rowD b.2)) → DvA K H (bs.map (·.1)) ((bs.map (·.2)).map rowD)
  | [], _ => .nil
  | b :: r, h => .cons (h b (List.mem_cons_self ..)) (dvA_all fun x hx => h x (List.mem_cons_of_mem _ hx))
theorem each_of {K : PySem.W.Frag} {H : Hp} : ∀ {vs : List V} {us : List Value} {rs : List Row}, Vals vs us → DvA K H vs (rs.map rowD) → PySem.W.EachIs (fun v (b : V × Row) => RelV b.1 v ∧ Dv K H b.1 (rowD b.2)) us (vs.zip rs)
  | [], _, [], .nil, _ => .nil
  | [], _, _ :: _, _, h => by cases h
  | _ :: _, _, [], _, h => by cases h
  | v :: vs, _, r :: rs, .cons h t, d => by
    cases d with
    | cons d1 d2 => exact .cons ⟨h, d1⟩ (each_of t d2)
theorem dv_zip {K : PySem.W.Frag} {H : Hp} : ∀ {vs : List V} {rs : List Row}, DvA K H vs (rs.map rowD) → ∀ b ∈ vs.zip rs, Dv K H b.1 (rowD b.2)
  | [], _, _, b, hb => by simp at hb
  | _ :: _, [], h, _, _ => by cases h
  | v :: vs, r :: rs, .cons h t, b, hb => by
    rw [List.zip_cons_cons] at hb
    rcases List.mem_cons.mp hb with rfl | hb
    · exact h
    · exact dv_zip t b hb
theorem each_vals {R : Value → V × Row → Prop} (hR : ∀ v b, R v b → RelV b.1 v) : ∀ {us : List Value} {bs : List (V × Row)}, PySem.W.EachIs R us bs → Vals (bs.map (·.1)) us
  | _, _, .nil => .nil
  | _, _, .cons h t => .cons (hR _ _ h) (each_vals hR t)
def rSK (K : PySem.W.Frag) (f : Addr) : List V → List V → Hp → VK → Prop := fun xs zs H Q => ∃ B a vs rs, Same B H ∧ xs = [.ref a] ∧ zs = [.ref f] ∧ H a = some (.lst vs) ∧ DvA K B vs (rs.map rowD) ∧ rs.length ≤ 1000 ∧
  ∀ p ws, H p = none → DvA K B ws ((sortR rs).map rowD) → Q (.ref p) (upd H p (.lst ws))
theorem cr_sortedK {X : Cx} {f : Addr} {fd : FuncData} {k : Nat} (D : FnP X.K "row_place" 50 f fd) (Bn : Binds X.K fd ["row"] []) (hr : Room k X.A) (hmiss : X.mg "int" = none) : CallRK X (.builtin "sorted") ["key"] (rSK X.K f) := by
  intro pins s σ H xs zs us ws Q I rx rz h
  obtain ⟨B, a, vs, rs, sB, rfl, rfl, hH, hd, hn, q⟩ := h
  obtain ⟨u, rfl, ru⟩ := vals1 rx
  obtain rfl : u = Value.ref a := ru
  obtain ⟨u, rfl, ru⟩ := vals1 rz
  obtain rfl : u = Value.ref f := ru
  obtain ⟨its, r, pl, hz⟩ := I.list (SqL.of hH)
  obtain ⟨mb, hb1, hb2⟩ := I.mod.blt
  have hl0 : vs.length = rs.length := by rw [hd.length, List.length_map]
  have e := each_of r hd
  have hzl : (vs.zip rs).length ≤ 1000 := by rw [List.length_zip]; omega
  refine PySem.W.sorted_key_data (b := false) (fun b : V × Row => rowK b.2) pl.isList e (PySem.W.AllAlike.of fun _ _ => by simp [rowK, PySem.W.alike, PySem.W.alikeAll]) (PySem.W.Sortable.tuples fun _ => ⟨_, _, rfl⟩) (by rw [sizeLine_eq]; omega) (fun b _ => ?_) (ksk_s1 _ _) (fun _ => ksk_l1 _ _) (fun _ => ksk_t1 _ _) ?_ ?_
  · have hd : (rowK b.2).depth = 1 := by simp [rowK, PyData.depth, PyData.depthAll]
    have := hr.un
    omega
  · intro v b hR hb h tk kp
    obtain ⟨hv, dv⟩ := hR
    obtain ⟨t, xs, e1, hT, da⟩ := (dv.mono sB).tup_
    rw [e1] at hv
    obtain rfl : v = Value.ref t := hv
    obtain ⟨its2, r2, pl2, hz2⟩ := I.tuple hT
    obtain ⟨v0, g0, d0⟩ := da.get (i := 0) rfl
    obtain ⟨v1, g1, d1⟩ := da.get (i := 1) rfl
    obtain ⟨v2, g2, d2⟩ := da.get (i := 2) rfl
    obtain ⟨u0, f0, c0⟩ := r2.get g0
    obtain ⟨u1, f1, c1⟩ := r2.get g1
    obtain ⟨u2, f2, c2⟩ := r2.get g2
    rw [d0.int_] at c0
    rw [d1.str_] at c1
    rw [d2.str_] at c2
    obtain ⟨t0, rfl⟩ := c0
    obtain ⟨t1, rfl⟩ := c1
    obtain ⟨t2, rfl⟩ := c2
    have h8 : its2.length = 8 := by rw [← r2.length, da.length]; rfl
    have kb : ∀ b o, X.base.get? b = some o → h.get? b = some o := fun b o e => kp b o (I.bk b o e)
    exact key_call (A := X.A.in1.in1) D Bn (s := { s with heap := h, toks := tk }) (I.ok.mod.kin.keeps kb) (I.ok.mod.nolimit.keeps kb) (I.mod.glob.keeps kb) hmiss (hb1.keeps kb) ((hb2 "int" (by decide)).trans boot_int) (show X.A.in1.in1.depth < _ from hr.depth)
      (pl2.keeps kp) (by rw [List.size_toArray, h8]; decide) (by simpa using f0) (by simpa using f1) (by simpa using f2)
  · intro out c h' tk kp hf hD hlen eo
    have hv := each_vals (fun _ _ h => h.1) eo
    have perm : ∀ b ∈ (vs.zip rs).mergeSort (PySem.W.dataLe false fun b : V × Row => rowK b.2), Dv X.K B b.1 (rowD b.2) := fun b hb => by
      have hb' := (List.mergeSort_perm _ _).mem_iff.mp hb
      exact dv_zip hd b hb'
    have hs : ((vs.zip rs).mergeSort (PySem.W.dataLe false fun b : V × Row => rowK b.2)).map (·.2) = sortR rs := by
      unfold sortR
      refine (List.map_mergeSort (f := fun b : V × Row => b.2) (r := PySem.W.dataLe false fun b : V × Row => rowK b.2) (s := PySem.W.dataLe false rowK) fun a _ b _ => rfl).trans ?_
      rw [show (vs.zip rs).map (fun b => b.2) = rs from List.map_snd_zip (by omega)]
    have dA := dvA_all perm
    rw [hs] at dA
    refine ⟨.ref (s.heap.objs.size + 1), upd H (s.heap.objs.size + 1) (.lst _), I.laid (t' := tk) kp (Nat.le_succ _) ⟨?_, out, c, hv, hD⟩, rfl, q _ _ (I.hok.fresh (Nat.le_succ _)) dA⟩
    rw [hv.length, hlen, sizeLine_eq]
    omega
theorem de_sortedK {X : Cx} {ρ : Rho} {O : Own} {a : Expr} {pos p pk pn : Pos} {f : Addr} {fd : FuncData} {k : Nat} {rs : List Row} (M : Blt X.mg) (D : FnP X.K "row_place" 50 f fd) (Bn : Binds X.K fd ["row"] []) (hr : Room k X.A) (hm : X.mg "row_place" = some (.ref f)) (ha : DE X a ρ O (.list (rs.map rowD))) (hn : rs.length ≤ 1000)
    (hg : Gl X "sorted" := by rfl) (hgk : Gl X "row_place" := by rfl) (he0 : starEach [a] X.env = [(false, eval a X.env)] := by rfl) (he : backTo pos (starEach [a] X.env) = (false, eval a X.env) :: backTo pos (starEach [] X.env) := by rfl) (hpl : (backTo pos (starEach [a] X.env)).any (·.1) = false := by rfl)
    (hall : (backToKw pos (keywordEach [⟨some "key", .Name "row_place" pn, pk⟩] X.env)).all (·.1.isSome) = true := by rfl) (hnone : (backToKw pos (keywordEach [⟨some "key", .Name "row_place" pn, pk⟩] X.env)).any (·.1.isNone) = false := by rfl) (hks : (backToKw pos (keywordEach [⟨some "key", .Name "row_place" pn, pk⟩] X.env)).filterMap (·.1) = [("key" : Str)] := by rfl) :
    DE X (.Call (.Name "sorted" p) [a] [⟨some "key", .Name "row_place" pn, pk⟩] pos) ρ O (.list ((sortR rs).map rowD)) :=
  .mk (pe_callBK (cr_sortedK D Bn hr M.int) hg M.sorted boot_sorted (pa_cons (pwE a) pa_nil he0) (pk_cons (pe_glob (v := .ref f) hgk hm rfl) pk_nil) (by decide) (by decide) he hpl hall hnone hks) fun S Q q => ha _ _ _ _ _ S fun v B1 H1 g1 dv => by
    obtain ⟨l, us, rfl, s1, a1⟩ := dv.lst_
    exact ⟨B1, l, us, rs, g1.bh, rfl, rfl, g1.bh _ _ s1, a1, hn, fun t ws ht dw => q _ _ _ (g1.trans (Gr.new g1.bh ht)) (.lst upd_same (dw.mono (same_new (g1.bh.free ht))))⟩
end K5
end PartSK2
section PartSK3
set_option maxRecDepth 100000
set_option maxHeartbeats 4000000
/-! sorted(xs) of tuples. -/
namespace K5
open PySem PySem.Spec PyProof.Rows L2
def sortP (ds : List PD) : List PD := ds.mergeSort (PySem.W.dataLe false fun d => d)
theorem dvP_all {K : PySem.W.Frag} {H : Hp} : ∀ {bs : List (V × PD)}, (∀ b ∈ bs, Dv K H b.1 b.2) → DvA K H (bs.map (·.1)) (bs.map (·.2))
  | [], _ => .nil
  | b :: r, h => .cons (h b (List.mem_cons_self ..)) (dvP_all fun x hx => h x (List.mem_cons_of_mem _ hx))
theorem dvP_zip {K : PySem.W.Frag} {H : Hp} : ∀ {vs : List V} {ds : List PD}, DvA K H vs ds → ∀ b ∈ vs.zip ds, Dv K H b.1 b.2
  | [], _, _, b, hb => by simp at hb
  | _ :: _, _, .cons h t, b, hb => by
    rw [List.zip_cons_cons] at hb
    rcases List.mem_cons.mp hb with rfl | hb
    · exact h
    · exact dvP_zip t b hb
theorem eachP_of {X : Cx} {pins : List (Addr × Obj)} {σ : L2.St} {H : Hp} {s : Shared} (I : Inv X pins σ H s) : ∀ {vs : List V} {us : List Value} {ds : List PD}, Vals vs us → DvA X.K H vs ds → (∀ d ∈ ds, d.canLay0 = true) →
    PySem.W.EachIs (fun v (b : V × PD) => RelV b.1 v) us (vs.zip ds) ∧ PySem.W.EachIs (fun v (b : V × PD) => ∃ as, Reads s.heap v b.2 as) us (vs.zip ds)
  | [], _, [], .nil, _, _ => ⟨.nil, .nil⟩
  | [], _, _ :: _, _, h, _ => by cases h
  | _ :: _, _, [], _, h, _ => by cases h
  | v :: vs, _, d :: ds, .cons h t, q, c => by
    cases q with
    | cons d1 d2 =>
      obtain ⟨a, b⟩ := eachP_of I t d2 fun x hx => c x (List.mem_cons_of_mem _ hx)
      exact ⟨.cons h a, .cons (Dp.reads I d v _ (d1.dp (c d (List.mem_cons_self ..))) h) b⟩
theorem eachP_vals : ∀ {us : List Value} {bs : List (V × PD)}, PySem.W.EachIs (fun v (b : V × PD) => RelV b.1 v) us bs → Vals (bs.map (·.1)) us
  | _, _, .nil => .nil
  | _, _, .cons h t => .cons h (eachP_vals t)
def rST (K : PySem.W.Frag) : List V → Hp → VK → Prop := fun xs H Q => ∃ B a vs ds, Same B H ∧ xs = [.ref a] ∧ H a = some (.lst vs) ∧ DvA K B vs ds ∧ ds.length ≤ 1000 ∧ (∀ d ∈ ds, SeqAt.shaped d = true) ∧ (∀ d ∈ ds, ∃ x r, d = .tuple (x :: r)) ∧ PySem.W.AllAlike ds ∧
  ∀ p ws, H p = none → DvA K B ws (sortP ds) → Q (.ref p) (upd H p (.lst ws))
theorem cr_sortedT {X : Cx} {k : Nat} (hr : Room k X.A) : CallR X (.builtin "sorted") (rST X.K) := by
  intro pins s σ H xs us Q I rx h
  obtain ⟨B, a, vs, ds, sB, rfl, hH, hd, hn, hsh, htu, hal, q⟩ := h
  obtain ⟨u, rfl, ru⟩ := vals1 rx
  obtain rfl : u = Value.ref a := ru
  obtain ⟨its, r, pl, hz⟩ := I.list (SqL.of hH)
  have hl0 : vs.length = ds.length := hd.length
  obtain ⟨e1, e2⟩ := eachP_of I r (hd.mono sB) fun d hx => SeqAt.canLay_of_shaped (hsh d hx)
  have hzl : (vs.zip ds).length ≤ 1000 := by rw [List.length_zip]; omega
  have hm : (vs.zip ds).map (fun b => b.2) = ds := List.map_snd_zip (by omega)
  refine PySem.W.sorted_data (enc := fun b : V × PD => b.2) pl.isList e1 e2 (by rw [hm]; exact hal) (.inl (by rw [hm]; exact htu)) (by rw [sizeLine_eq]; omega) (fun b hb => ?_) fun out hlen eo => ?_
  · have hb' : b.2 ∈ ds := by
      rw [← hm]
      exact List.mem_map.mpr ⟨b, hb, rfl⟩
    have := SeqAt.depth_of_shaped (hsh _ hb')
    have := hr.un
    show X.A.units + 2 + b.2.depth < _
    omega
  · have hv := eachP_vals eo
    have hs : ((vs.zip ds).mergeSort (PySem.W.dataLe false fun b : V × PD => b.2)).map (·.2) = sortP ds := by
      unfold sortP
      refine (List.map_mergeSort (f := fun b : V × PD => b.2) (r := PySem.W.dataLe false fun b : V × PD => b.2) (s := PySem.W.dataLe false fun d => d) fun a _ b _ => rfl).trans ?_
      rw [hm]
    have dA := dvP_all (K := X.K) (H := B) (bs := (vs.zip ds).mergeSort (PySem.W.dataLe false fun b : V × PD => b.2)) fun b hb => dvP_zip hd b ((List.mergeSort_perm _ _).mem_iff.mp hb)
    rw [hs] at dA
    obtain ⟨c, hD⟩ := PyProof.Rows.sortedAll_at s.heap its (List.toArray out)
    refine ⟨.ref (s.heap.objs.size + 1), upd H (s.heap.objs.size + 1) (.lst _), I.laid (t' := s.toks) (fun _ _ => PyProof.Rows.sortedAll_old) (Nat.le_succ _) ⟨?_, out, c, hv, hD⟩, rfl, q _ _ (I.hok.fresh (Nat.le_succ _)) dA⟩
    rw [hv.length, hlen, sizeLine_eq]
    omega
theorem de_sortedT {X : Cx} {ρ : Rho} {O : Own} {a : Expr} {pos p : Pos} {k : Nat} {ds : List PD} (M : Blt X.mg) (hr : Room k X.A) (ha : DE X a ρ O (.list ds)) (hn : ds.length ≤ 1000) (hsh : ∀ d ∈ ds, SeqAt.shaped d = true) (htu : ∀ d ∈ ds, ∃ x r, d = .tuple (x :: r)) (hal : PySem.W.AllAlike ds)
    (hg : Gl X "sorted" := by rfl) (he : starEach [a] X.env = [(false, eval a X.env)] := by rfl) : DE X (.Call (.Name "sorted" p) [a] [] pos) ρ O (.list (sortP ds)) :=
  .mk (pe_callB (cr_sortedT hr) hg M.sorted boot_sorted (pa_cons (pwE a) pa_nil he) (by decide) (by decide) he rfl) fun S Q q => ha _ _ _ _ _ S fun v B1 H1 g1 dv => by
    obtain ⟨l, us, rfl, s1, a1⟩ := dv.lst_
    exact ⟨B1, l, us, ds, g1.bh, rfl, g1.bh _ _ s1, a1, hn, hsh, htu, hal, fun t ws ht dw => q _ _ _ (g1.trans (Gr.new g1.bh ht)) (.lst upd_same (dw.mono (same_new (g1.bh.free ht))))⟩
end K5
end PartSK3
section PartF7
set_option maxRecDepth 100000
set_option maxHeartbeats 4000000
/-! The law's own defs: cell, draws, integer, names, value, shapes. -/
namespace K5
open PySem PySem.Spec PyProof.Rows L2
section
variable {P : Program} {w : World} {K : PySem.W.Frag} {mg : Str → Option Value} {base : Heap} {CX : CXT} {f : Addr} {fd : FuncData}
def cellR' (ds : List PD) (d : PD) : Prop := ∃ (ns : List Int) (k : Nat), ds = [scrD ns, .int k] ∧ d = .int (ns.getD k 0)

def N_lcell : List Str := ["_law_script", "_law_k"]
theorem sc_lcell : FnScope N_lcell ["_law_script", "_law_k"] (fScope (topS 54)) := ⟨rfl, rfl, rfl, by decide +kernel, rfl, by decide +kernel, by decide +kernel⟩
theorem nd_lcell : N_lcell.Nodup := by decide +kernel
theorem ok_lcell (M : Blt mg) (D : FnP K "_law_cell" 54 f fd) : FnOk P w K mg base CX (0 + 1) f fd ["_law_script", "_law_k"] (spF K cellR') := by
  refine fn_spF (N := N_lcell) D sc_lcell (fun ds d h => ?_) fun ds d cdv A outer s H E hr h => ?_
  · obtain ⟨ns, k, rfl, rfl⟩ := h
    rfl
  · have hu := hr.units
    have nd := nd_lcell
    obtain ⟨ns, k, rfl, rfl⟩ := h
    refine (db_cons (ds_if (dt_cmp op_lt (de_var 1) (de_lenS (ns := ns) M (de_var 0)) od_lt) (fun k239 => (db_one (ds_ret (de_ixS (ns := ns) (de_var 0) (de_var 1) (atI_nat (a := 0) (by have := of_decide_eq_true k239; omega))) ?_))) (fun k239 => (db_nil (db_one (ds_ret de_int ?_))))))
    · rfl
    · show PyData.int 0 = .int (ns.getD k 0)
      have z := of_decide_eq_false k239
      rw [List.getD_eq_getElem?_getD, List.getElem?_eq_none (by omega)]
      rfl

def absI (i : Int) : Int := if i < 0 then -i else i
def mix1 (c : Int) (k : Int) : Int := (absI c + 7919 * k + 13) % 2147483647
def mix2 (m : Int) : Int := (m * (m + 48271)) % 2147483629
def mix3 (m k : Int) : Int := (m * (m + 69621) + 31 * k) % 2147483647
def mixF (c : Int) (k : Int) : Int := (mix3 (mix2 (mix1 c k)) k / 9) % 1000
def drawsF (c : Int) (dg : Bool) : Nat → Nat → Int → List Int
  | 0, _, _ => []
  | n + 1, k, rest => if (dg && decide (0 < rest)) = true then rest % 1000 :: drawsF c dg n (k + 1) (rest / 1000) else mixF c k :: drawsF c dg n (k + 1) rest
def draws (c : Int) (n : Nat) : List Int := drawsF c (decide (10 ^ 18 ≤ absI c)) n 0 (absI c)
theorem drawsF_range (c : Int) (dg : Bool) : ∀ (n k : Nat) (rest : Int), ∀ x ∈ drawsF c dg n k rest, 0 ≤ x ∧ x < 1000
  | 0, _, _, x, h => by cases h
  | n + 1, k, rest, x, h => by
    unfold drawsF at h
    split at h
    · rcases List.mem_cons.mp h with rfl | h
      · exact ⟨Int.emod_nonneg _ (by decide), Int.emod_lt_of_pos _ (by decide)⟩
      · exact drawsF_range c dg n _ _ x h
    · rcases List.mem_cons.mp h with rfl | h
      · exact ⟨Int.emod_nonneg _ (by decide), Int.emod_lt_of_pos _ (by decide)⟩
      · exact drawsF_range c dg n _ _ x h
theorem drawsF_len (c : Int) (dg : Bool) : ∀ (n k : Nat) (rest : Int), (drawsF c dg n k rest).length = n
  | 0, _, _ => rfl
  | n + 1, k, rest => by
    unfold drawsF
    split <;> rw [List.length_cons, drawsF_len c dg n]
def drawsR (ds : List PD) (d : PD) : Prop := ∃ (c : Int) (n : Nat), ds = [.int c, .int n] ∧ n ≤ 1000 ∧ d = .list ((draws c n).map PyData.int)
theorem mix1_r (c k : Int) : 0 ≤ mix1 c k ∧ mix1 c k < 2147483647 := ⟨Int.emod_nonneg _ (by decide), Int.emod_lt_of_pos _ (by decide)⟩
theorem mix2_r (c : Int) : 0 ≤ mix2 c ∧ mix2 c < 2147483629 := ⟨Int.emod_nonneg _ (by decide), Int.emod_lt_of_pos _ (by decide)⟩

def N_ldraws : List Str := ["_law_cell_here", "_law_many", "_law_drawn", "_law_rest", "_law_digits", "_law_k", "_law_mixed"]
theorem sc_ldraws : FnScope N_ldraws ["_law_cell_here", "_law_many"] (fScope (topS 55)) := ⟨rfl, rfl, rfl, by decide +kernel, rfl, by decide +kernel, by decide +kernel⟩
theorem nd_ldraws : N_ldraws.Nodup := by decide +kernel
theorem ok_ldraws (M : Blt mg) (D : FnP K "_law_draws" 55 f fd) : FnOk P w K mg base CX (0 + 1) f fd ["_law_cell_here", "_law_many"] (spF K drawsR) := by
  refine fn_spF (N := N_ldraws) D sc_ldraws (fun ds d h => ?_) fun ds d cdv A outer s H E hr h => ?_
  · obtain ⟨c, n, rfl, hn, rfl⟩ := h
    rfl
  · have hu := hr.units
    have nd := nd_ldraws
    obtain ⟨c, n, rfl, hn, rfl⟩ := h
    refine (db_cons (ds_own 2 rfl nd (Nat.le_of_ble_eq_true rfl) (db_cons (ds_set 3 (de_abs M (de_var 0)) nd (db_cons (ds_set 4 (de_cmp op_ge (de_var 3) (de_pow de_int de_int (by refine ⟨by decide, by decide, by decide⟩)) od_ge) nd (db_cons ?_)))))))
    refine ds_for (items := rngD 0 ((n : Nat) : Int).toNat) (fun i ρ O => ∃ rest acc a b, ρ = [some (.int c), some (.int (n : Nat)), none, some (.int rest), some (.bool (decide (10 ^ 18 ≤ absI c))), a, b] ∧ O = some (2, (acc : List Int).map PyData.int) ∧ acc ++ drawsF c (decide (10 ^ 18 ≤ absI c)) (n - i) i rest = draws c n ∧ acc.length = i) rfl (passes_of rfl) (it_rng M (de_var 1) (by omega) (by omega)) (td_name 5 nd) ⟨_, [], none, none, rfl, rfl, rfl, rfl⟩ (fun i d ρ' O' hi hI => ?_) fun ρ' O' hI => ?_
    · obtain ⟨rest, acc, a, b, rfl, rfl, e, l⟩ := hI
      have hlt : i < n := by
        rcases Nat.lt_or_ge i n with z | z
        · exact z
        · rw [List.getElem?_eq_none (by rw [rngD_len]; omega)] at hi
          cases hi
      rw [rngD_get (by omega)] at hi
      obtain rfl := Option.some.inj hi
      rw [show n - i = (n - (i + 1)) + 1 by omega, drawsF] at e
      refine f_name (db_one (ds_if (DW.dt (dw_and (dt_val (de_var 4)) fun kb => (dw_and1 (dt_cmp op_gt (de_var 3) de_int od_gt)))) (fun k247 => (db_cons (ds_app 2 rfl (de_mod (de_intI M (de_var 3)) de_int (by decide)) (by rw [List.length_map]; omega) (db_one (ds_set 3 (de_div (de_var 3) de_int (by refine ⟨by decide, by decide⟩)) nd ?_))))) (fun k247 => (db_cons (ds_set 6 (de_mod (de_intI M (de_add (de_add (de_abs M (de_var 0)) (de_mul de_int (de_var 5) (.inl ⟨by decide, by decide⟩))) de_int)) de_int (by decide)) nd (db_cons (ds_set 6 (de_mod (de_intI M (de_mul (de_var 6) (de_add (de_var 6) de_int) (.inl (by have := mix1_r c i; rw [Int.zero_add]; exact ⟨by show -(2 ^ 64) < mix1 c i; omega, by show mix1 c i < 2 ^ 64; omega⟩)))) de_int (by decide)) nd (db_cons (ds_set 6 (de_mod (de_intI M (de_add (de_mul (de_var 6) (de_add (de_var 6) de_int) (.inl (by have := mix2_r (mix1 c i); rw [Int.zero_add]; exact ⟨by show -(2 ^ 64) < mix2 (mix1 c i); omega, by show mix2 (mix1 c i) < 2 ^ 64; omega⟩))) (de_mul de_int (de_var 5) (.inl ⟨by decide, by decide⟩)))) de_int (by decide)) nd (db_one (ds_app 2 rfl (de_mod (de_intI M (de_div (de_var 6) de_int (by refine ⟨by decide, by decide⟩))) de_int (by decide)) (by rw [List.length_map]; omega) ?_)))))))))))
      · rw [if_pos k247] at e
        refine ⟨_, acc ++ [rest % 1000], _, _, rfl, by rw [List.map_append]; rfl, by rw [List.append_assoc]; exact e, by rw [List.length_append, l]; rfl⟩
      · rw [if_neg (by rw [k247]; exact Bool.false_ne_true)] at e
        refine ⟨_, acc ++ [mixF c i], _, _, rfl, by rw [List.map_append]; simp only [Int.zero_add]; rfl, by rw [List.append_assoc]; exact e, by rw [List.length_append, l]; rfl⟩
    · obtain ⟨rest, acc, a, b, rfl, rfl, e, l⟩ := hI
      refine (db_one (ds_retOwn 2 rfl ?_))
      rw [rngD_len, Int.toNat_natCast] at e
      rw [show n - n = 0 by omega] at e
      show PyData.list (acc.map PyData.int) = _
      rw [← e]
      show _ = PyData.list ((acc ++ []).map PyData.int)
      rw [List.append_nil]

def N_lint : List Str := ["_law_value_here"]
theorem sc_lint : FnScope N_lint ["_law_value_here"] (fScope (topS 56)) := ⟨rfl, rfl, rfl, by decide +kernel, rfl, by decide +kernel, by decide +kernel⟩
theorem nd_lint : N_lint.Nodup := by decide +kernel
theorem ok_lint (M : Blt mg) (D : FnP K "_law_is_integer" 56 f fd) : FnOk P w K mg base CX (0 + 1) f fd ["_law_value_here"] (spF K numR) := by
  refine fn_spF (N := N_lint) D sc_lint (fun ds d h => ?_) fun ds d cdv A outer s H E hr h => ?_
  · obtain ⟨x, rfl, rfl⟩ := h
    rfl
  · have hu := hr.units
    have nd := nd_lint
    obtain ⟨x, rfl, rfl⟩ := h
    refine (db_one (ds_ret (de_and (de_isi M M.int boot_int (kit_int _) (de_var 0)) fun kb => (de_one (de_not (de_isi M M.bool boot_bool (kit_bool _) (de_var 0))))) ?_))
    rfl

end
end K5
end PartF7
section PartF8
set_option maxRecDepth 100000
set_option maxHeartbeats 4000000
/-! The law's own defs: names, value, shapes. -/
namespace K5
open PySem PySem.Spec PyProof.Rows L2
section
variable {P : Program} {w : World} {K : PySem.W.Frag} {mg : Str → Option Value} {base : Heap} {CX : CXT} {f : Addr} {fd : FuncData}
def poolL : List Str := ["a", "a1", "b2", "bob", "a10", "a9", "door", "e", "fox", "g7", "hill", "ivy", "jam", "key", "lake", "moon", "nut", "oak", "pear", "quay", "rose", "sun", "tree", "urn", "vine", "well", "x", "yew", "zoe", "twelvesigns1"]
def stepsL : List Int := [1, 7, 11, 13, 17, 19, 23, 29]
def namesF (draw other : Int) : List Str := (List.range 30).map fun k => poolL.getD ((draw + stepsL.getD (other % 8).toNat 0 * (k : Nat)) % 30).toNat ""
theorem atI_emod {α β : Type} {g : α → β} {xs : List α} {i m : Int} {a : α} (h : (xs.length : Int) = m) (hp : 0 < m) : L2.atI (xs.map g) (i % m) = some (g (xs.getD (i % m).toNat a)) := by
  have h0 := Int.emod_nonneg i (Int.ne_of_gt hp)
  have h1 := Int.emod_lt_of_pos i hp
  obtain ⟨n, hn⟩ := Int.eq_ofNat_of_zero_le h0
  rw [hn] at h1 ⊢
  rw [Int.toNat_natCast, atI_nat (a := g a) (by rw [List.length_map]; omega), getD_map]
theorem rng_mapS {g : PD → PD} {h : Nat → Str} {n : Nat} (e : ∀ k, g (.int ((k : Nat) : Int)) = .str (h k)) : (rngD 0 n).map g = ((List.range n).map h).map PyData.str := by
  unfold rngD
  rw [List.map_map, List.map_map]
  refine List.map_congr_left fun k _ => ?_
  show g (.int (0 + (k : Int))) = _
  rw [Int.zero_add]
  exact e k
def intOf : PD → Int
  | .int i => i
  | _ => 0
theorem rngD_memI {n : Nat} {d : PD} (h : d ∈ rngD 0 n) : ∃ k : Nat, k < n ∧ d = .int (k : Int) := rngD_mem h
def namesR (ds : List PD) (d : PD) : Prop := ∃ draw other, ds = [.int draw, .int other] ∧ d = .list ((namesF draw other).map PyData.str)

def valueF (names : List Str) (draw cell : Int) : PD := if draw % 5 = 0 then .none else if draw % 5 = 1 then .str (names.getD (draw / 5 % 30).toNat "") else if draw % 5 = 2 then .int ((cell + 7919 * draw) % 1999999999 - 999999999) else .int (draw / 5 - 12)
def valueR (ds : List PD) (d : PD) : Prop := ∃ names draw cell, ds = [.list (names.map PyData.str), .int draw, .int cell] ∧ names.length = 30 ∧ d = valueF names draw cell

def N_lvalue : List Str := ["_law_names_here", "_law_draw", "_law_cell_here", "_law_pick"]
theorem sc_lvalue : FnScope N_lvalue ["_law_names_here", "_law_draw", "_law_cell_here"] (fScope (topS 59)) := ⟨rfl, rfl, rfl, by decide +kernel, rfl, by decide +kernel, by decide +kernel⟩
theorem nd_lvalue : N_lvalue.Nodup := by decide +kernel
theorem ok_lvalue (M : Blt mg) (D : FnP K "_law_value" 59 f fd) : FnOk P w K mg base CX (0 + 1) f fd ["_law_names_here", "_law_draw", "_law_cell_here"] (spF K valueR) := by
  refine fn_spF (N := N_lvalue) D sc_lvalue (fun ds d h => ?_) fun ds d cdv A outer s H E hr h => ?_
  · obtain ⟨names, draw, cell, rfl, hn, rfl⟩ := h
    rfl
  · have hu := hr.units
    have nd := nd_lvalue
    obtain ⟨names, draw, cell, rfl, hn, rfl⟩ := h
    refine (db_cons (ds_set 3 (de_mod (de_intI M (de_var 1)) de_int (by decide)) nd (db_cons (ds_if (dt_cmp (op_eqA hu) (de_var 3) de_int (od_eq (by first | rfl | assumption | omega | decide))) (fun k277 => (db_one (ds_ret de_non ?_))) (fun k277 => (db_nil (db_cons (ds_if (dt_cmp (op_eqA hu) (de_var 3) de_int (od_eq (by first | rfl | assumption | omega | decide))) (fun k279 => (db_one (ds_ret (de_ixL (de_var 0) (de_mod (de_intI M (de_div (de_var 1) de_int (by refine ⟨by decide, by decide⟩))) de_int (by decide)) (atI_emod (g := PyData.str) (xs := names) (a := "") (by omega) (by decide))) ?_))) (fun k279 => (db_nil (db_cons (ds_if (dt_cmp (op_eqA hu) (de_var 3) de_int (od_eq (by first | rfl | assumption | omega | decide))) (fun k281 => (db_one (ds_ret (de_sub (de_mod (de_intI M (de_add (de_var 2) (de_mul de_int (de_var 1) (.inl ⟨by decide, by decide⟩)))) de_int (by decide)) de_int) ?_))) (fun k281 => (db_nil (db_one (ds_ret (de_sub (de_div (de_var 1) de_int (by refine ⟨by decide, by decide⟩)) de_int) ?_))))))))))))))))
    · show _ = valueF names draw cell
      rw [valueF, if_pos (eqi k277)]
    · show _ = valueF names draw cell
      rw [valueF, if_neg (nei k277), if_pos (eqi k279)]
    · show _ = valueF names draw cell
      rw [valueF, if_neg (nei k277), if_neg (nei k279), if_pos (eqi k281)]
    · show _ = valueF names draw cell
      rw [valueF, if_neg (nei k277), if_neg (nei k279), if_neg (nei k281)]


end
end K5
end PartF8
section PartF9
set_option maxRecDepth 100000
set_option maxHeartbeats 4000000
/-! The law's own def shapes. -/
namespace K5
open PySem PySem.Spec PyProof.Rows L2
section
variable {P : Program} {w : World} {K : PySem.W.Frag} {mg : Str → Option Value} {base : Heap} {CX : CXT} {f : Addr} {fd : FuncData}
def lshapesF (kind : Str) : List (Str × List Str) := if kind = "cell" ∨ kind = "mark" then [("look", []), ("set", ["value"])] else if kind = "line" then [("put", ["value"]), ("take", []), ("length", []), ("first", [])] else if kind = "store" then [("seize", ["units"]), ("free", ["units"]), ("spare", []), ("waiting", [])] else if kind = "gate" then [("wait", []), ("open", []), ("shut", []), ("isopen", []), ("waiting", [])] else if kind = "wheel" then [("take", [])] else [("born", ["word", "more"]), ("run", ["time", "stage"]), ("tell", ["word", "more"]), ("sleep", []), ("hold", ["time", "stage"]), ("waits", ["word"]), ("end", []), ("fall", ["word"]), ("wake", ["time", "stage"]), ("stop", []), ("grant", ["time", "stage"]), ("stand", [])]
def lshD (p : Str × List Str) : PD := .tuple [.str p.1, .list (p.2.map PyData.str)]
def lshapesR (ds : List PD) (d : PD) : Prop := ∃ kind, ds = [.str kind] ∧ d = .list ((lshapesF kind).map lshD)
theorem or_eq {x a b : Str} (h : (PyData.eqv (.str x) (.str a) || PyData.eqv (.str x) (.str b)) = true) : x = a ∨ x = b := (Bool.or_eq_true_iff.mp h).imp eqs eqs
theorem or_ne {x a b : Str} (h : (PyData.eqv (.str x) (.str a) || PyData.eqv (.str x) (.str b)) = false) : ¬ (x = a ∨ x = b) := fun z => by
  have q := Bool.or_eq_false_iff.mp h
  exact z.elim (nes q.1) (nes q.2)

def N_lshapes : List Str := ["_law_kind"]
theorem sc_lshapes : FnScope N_lshapes ["_law_kind"] (fScope (topS 60)) := ⟨rfl, rfl, rfl, by decide +kernel, rfl, by decide +kernel, by decide +kernel⟩
theorem nd_lshapes : N_lshapes.Nodup := by decide +kernel
theorem ok_lshapes (D : FnP K "_law_shapes" 60 f fd) : FnOk P w K mg base CX (0 + 1) f fd ["_law_kind"] (spF K lshapesR) := by
  refine fn_spF (N := N_lshapes) D sc_lshapes (fun ds d h => ?_) fun ds d cdv A outer s H E hr h => ?_
  · obtain ⟨kind, rfl, hd⟩ := h
    rfl
  · have hu := hr.units
    have nd := nd_lshapes
    obtain ⟨kind, rfl, hd⟩ := h
    refine (db_cons (ds_if (DW.dt (dw_or (dt_cmp (op_eqA hu) (de_var 0) de_str (od_eq (by first | rfl | assumption | omega | decide))) fun kb => (dw_or1 (dt_cmp (op_eqA hu) (de_var 0) de_str (od_eq (by first | rfl | assumption | omega | decide)))))) (fun k285 => (db_one (ds_ret (de_lst (da_cons (de_tup (da_cons de_str (da_cons (de_lst da_nil) da_nil))) (da_cons (de_tup (da_cons de_str (da_cons (de_lst (da_cons de_str da_nil)) da_nil))) da_nil))) ?_))) (fun k285 => (db_nil (db_cons (ds_if (dt_cmp (op_eqA hu) (de_var 0) de_str (od_eq (by first | rfl | assumption | omega | decide))) (fun k287 => (db_one (ds_ret (de_lst (da_cons (de_tup (da_cons de_str (da_cons (de_lst (da_cons de_str da_nil)) da_nil))) (da_cons (de_tup (da_cons de_str (da_cons (de_lst da_nil) da_nil))) (da_cons (de_tup (da_cons de_str (da_cons (de_lst da_nil) da_nil))) (da_cons (de_tup (da_cons de_str (da_cons (de_lst da_nil) da_nil))) da_nil))))) ?_))) (fun k287 => (db_nil (db_cons (ds_if (dt_cmp (op_eqA hu) (de_var 0) de_str (od_eq (by first | rfl | assumption | omega | decide))) (fun k289 => (db_one (ds_ret (de_lst (da_cons (de_tup (da_cons de_str (da_cons (de_lst (da_cons de_str da_nil)) da_nil))) (da_cons (de_tup (da_cons de_str (da_cons (de_lst (da_cons de_str da_nil)) da_nil))) (da_cons (de_tup (da_cons de_str (da_cons (de_lst da_nil) da_nil))) (da_cons (de_tup (da_cons de_str (da_cons (de_lst da_nil) da_nil))) da_nil))))) ?_))) (fun k289 => (db_nil (db_cons (ds_if (dt_cmp (op_eqA hu) (de_var 0) de_str (od_eq (by first | rfl | assumption | omega | decide))) (fun k291 => (db_one (ds_ret (de_lst (da_cons (de_tup (da_cons de_str (da_cons (de_lst da_nil) da_nil))) (da_cons (de_tup (da_cons de_str (da_cons (de_lst da_nil) da_nil))) (da_cons (de_tup (da_cons de_str (da_cons (de_lst da_nil) da_nil))) (da_cons (de_tup (da_cons de_str (da_cons (de_lst da_nil) da_nil))) (da_cons (de_tup (da_cons de_str (da_cons (de_lst da_nil) da_nil))) da_nil)))))) ?_))) (fun k291 => (db_nil (db_cons (ds_if (dt_cmp (op_eqA hu) (de_var 0) de_str (od_eq (by first | rfl | assumption | omega | decide))) (fun k293 => (db_one (ds_ret (de_lst (da_cons (de_tup (da_cons de_str (da_cons (de_lst da_nil) da_nil))) da_nil)) ?_))) (fun k293 => (db_nil (db_one (ds_ret (de_lst (da_cons (de_tup (da_cons de_str (da_cons (de_lst (da_cons de_str (da_cons de_str da_nil))) da_nil))) (da_cons (de_tup (da_cons de_str (da_cons (de_lst (da_cons de_str (da_cons de_str da_nil))) da_nil))) (da_cons (de_tup (da_cons de_str (da_cons (de_lst (da_cons de_str (da_cons de_str da_nil))) da_nil))) (da_cons (de_tup (da_cons de_str (da_cons (de_lst da_nil) da_nil))) (da_cons (de_tup (da_cons de_str (da_cons (de_lst (da_cons de_str (da_cons de_str da_nil))) da_nil))) (da_cons (de_tup (da_cons de_str (da_cons (de_lst (da_cons de_str da_nil)) da_nil))) (da_cons (de_tup (da_cons de_str (da_cons (de_lst da_nil) da_nil))) (da_cons (de_tup (da_cons de_str (da_cons (de_lst (da_cons de_str da_nil)) da_nil))) (da_cons (de_tup (da_cons de_str (da_cons (de_lst (da_cons de_str (da_cons de_str da_nil))) da_nil))) (da_cons (de_tup (da_cons de_str (da_cons (de_lst da_nil) da_nil))) (da_cons (de_tup (da_cons de_str (da_cons (de_lst (da_cons de_str (da_cons de_str da_nil))) da_nil))) (da_cons (de_tup (da_cons de_str (da_cons (de_lst da_nil) da_nil))) da_nil))))))))))))) ?_))))))))))))))))))))))
    · show _ = d
      rw [hd, lshapesF, if_pos (or_eq k285)]
      rfl
    · show _ = d
      rw [hd, lshapesF, if_neg (or_ne k285), if_pos (eqs k287)]
      rfl
    · show _ = d
      rw [hd, lshapesF, if_neg (or_ne k285), if_neg (nes k287), if_pos (eqs k289)]
      rfl
    · show _ = d
      rw [hd, lshapesF, if_neg (or_ne k285), if_neg (nes k287), if_neg (nes k289), if_pos (eqs k291)]
      rfl
    · show _ = d
      rw [hd, lshapesF, if_neg (or_ne k285), if_neg (nes k287), if_neg (nes k289), if_neg (nes k291), if_pos (eqs k293)]
      rfl
    · show _ = d
      rw [hd, lshapesF, if_neg (or_ne k285), if_neg (nes k287), if_neg (nes k289), if_neg (nes k291), if_neg (nes k293)]
      rfl

end
end K5
end PartF9
section PartF10
set_option maxRecDepth 100000
set_option maxHeartbeats 4000000
/-! The law's own def made. -/
namespace K5
open PySem PySem.Spec PyProof.Rows L2
section
variable {P : Program} {w : World} {K : PySem.W.Frag} {mg : Str → Option Value} {base : Heap} {CX : CXT} {f : Addr} {fd : FuncData}
theorem eqv_strs : ∀ xs ys : List Str, PyData.eqvAll (xs.map PyData.str) (ys.map PyData.str) = decide (xs = ys)
  | [], [] => rfl
  | [], _ :: _ => rfl
  | _ :: _, [] => rfl
  | x :: xs, y :: ys => by
    show (PyData.eqv (.str x) (.str y) && PyData.eqvAll (xs.map PyData.str) (ys.map PyData.str)) = _
    rw [eqv_str, eqv_strs xs ys]
    by_cases h : x = y <;> by_cases h2 : xs = ys <;> simp [h, h2]
theorem eqL {xs : List Str} (ys : List Str) (h : PyData.eqv (.list (xs.map PyData.str)) (.list (ys.map PyData.str)) = true) : xs = ys := of_decide_eq_true ((eqv_strs xs ys).symm.trans h)
theorem neL {xs : List Str} (ys : List Str) (h : PyData.eqv (.list (xs.map PyData.str)) (.list (ys.map PyData.str)) = false) : xs ≠ ys := of_decide_eq_false ((eqv_strs xs ys).symm.trans h)
def lenD : PD → Nat
  | .tuple ds => ds.length
  | _ => 0
def tailD : PD → List PD
  | .tuple ds => ds.tail
  | _ => []
def moreL (v : PD) (wd : Str) : List PD := [v, .none, .int 7, .str wd, .int 0, v, .int (-1), .none, .int 12]
def madeF (parts names : List Str) (draw : Int) (st : PD) (cell : Int) : List PD :=
  if parts = (["value"] : List Str) then (if draw % 3 = 0 ∧ isTupD st = false then [st] else [valueF names (draw / 3) cell])
  else if parts = (["units"] : List Str) then [.int (1 + draw % 4)]
  else if parts = (["word"] : List Str) then [.str (names.getD (draw % 30).toNat "")]
  else if parts = (["word", "more"] : List Str) then .str (names.getD (draw % 30).toNat "") :: cutD (moreL (valueF names (draw / 3) cell) (names.getD (draw % 30).toNat "")) none (some (draw / 30 % 10))
  else if parts = (["time", "stage"] : List Str) then (if draw % 2 = 0 ∧ lenD st = 3 then tailD st else [.int (draw / 2 % 4 * 333333333), .int (draw / 8 % 3)])
  else []
def madeR (ds : List PD) (d : PD) : Prop := ∃ parts names draw st cell, ds = [.list (parts.map PyData.str), .list (names.map PyData.str), .int draw, st, .int cell] ∧ names.length = 30 ∧ okD 1000 63 (.list (parts.map PyData.str)) = true ∧
  (parts = (["time", "stage"] : List Str) → ∃ ss, st = .tuple ss) ∧ d = .tuple (madeF parts names draw st cell)

theorem cutD_len (xs : List PD) (lo hi : Option Int) : (cutD xs lo hi).length ≤ xs.length := by
  unfold cutD
  rw [List.length_take, List.length_drop]
  omega

def N_lmade : List Str := ["_law_parts", "_law_names_here", "_law_draw", "_law_state", "_law_cell_here", "_law_value_here", "_law_word"]
theorem sc_lmade : FnScope N_lmade ["_law_parts", "_law_names_here", "_law_draw", "_law_state", "_law_cell_here"] (fScope (topS 61)) := ⟨rfl, rfl, rfl, by decide +kernel, rfl, by decide +kernel, by decide +kernel⟩
theorem nd_lmade : N_lmade.Nodup := by decide +kernel
theorem ok_lmade {k : Nat} (M : Blt mg) (hV : FnD P w K mg base CX k "_law_value" ["_law_names_here", "_law_draw", "_law_cell_here"] valueR) (hx : NoX CX) (D : FnP K "_law_made" 61 f fd) : FnOk P w K mg base CX (k + 1) f fd ["_law_parts", "_law_names_here", "_law_draw", "_law_state", "_law_cell_here"] (spF K madeR) := by
  refine fn_spF (N := N_lmade) D sc_lmade (fun ds d h => ?_) fun ds d cdv A outer s H E hr h => ?_
  · obtain ⟨parts, names, draw, st, cell, rfl, hn, hp, ht, hd⟩ := h
    rfl
  · have hu := hr.units
    have nd := nd_lmade
    obtain ⟨parts, names, draw, st, cell, rfl, hn, hp, ht, hd⟩ := h
    refine (db_cons (ds_set 5 (de_call hV hr hx (da_cons (de_var 1) (da_cons (de_div (de_var 2) de_int (by refine ⟨by decide, by decide⟩)) (da_cons (de_var 4) da_nil))) (by exact ⟨_, _, _, rfl, hn, rfl⟩)) nd (db_cons (ds_set 6 (de_ixL (de_var 1) (de_mod (de_intI M (de_var 2)) de_int (by decide)) (atI_emod (g := PyData.str) (xs := names) (a := "") (by omega) (by decide))) nd (db_cons (ds_if (dt_cmp (op_eqA hu) (de_var 0) (de_lst (da_cons de_str da_nil)) (od_eq (eq_ok hp (by decide +kernel)))) (fun k299 => (db_cons (ds_if (DW.dt (dw_and (dt_cmp (op_eqA hu) (de_mod (de_intI M (de_var 2)) de_int (by decide)) de_int (od_eq (by first | rfl | assumption | omega | decide))) fun kb => (dw_and1 (dt_not (dt_val (de_isi M M.tuple boot_tuple (kit_tuple _) (de_var 3))))))) (fun k300 => (db_one (ds_ret (de_tup (da_cons (de_var 3) da_nil)) ?_))) (fun k300 => (db_nil (db_one (ds_ret (de_tup (da_cons (de_var 5) da_nil)) ?_))))))) (fun k299 => (db_nil (db_cons (ds_if (dt_cmp (op_eqA hu) (de_var 0) (de_lst (da_cons de_str da_nil)) (od_eq (eq_ok hp (by decide +kernel)))) (fun k303 => (db_one (ds_ret (de_tup (da_cons (de_add de_int (de_mod (de_intI M (de_var 2)) de_int (by decide))) da_nil)) ?_))) (fun k303 => (db_nil (db_cons (ds_if (dt_cmp (op_eqA hu) (de_var 0) (de_lst (da_cons de_str da_nil)) (od_eq (eq_ok hp (by decide +kernel)))) (fun k305 => (db_one (ds_ret (de_tup (da_cons (de_var 6) da_nil)) ?_))) (fun k305 => (db_nil (db_cons (ds_if (dt_cmp (op_eqA hu) (de_var 0) (de_lst (da_cons de_str (da_cons de_str da_nil))) (od_eq (eq_ok hp (by decide +kernel)))) (fun k307 => (db_one (ds_ret (de_addT (de_tup (da_cons (de_var 6) da_nil)) (de_slT (de_tup (da_cons (de_var 5) (da_cons de_non (da_cons de_int (da_cons (de_var 6) (da_cons de_int (da_cons (de_var 5) (da_cons (de_neg de_int) (da_cons de_non (da_cons de_int da_nil)))))))))) po_n (po_s (de_mod (de_intI M (de_div (de_var 2) de_int (by refine ⟨by decide, by decide⟩))) de_int (by decide)))) (by have := cutD_len (moreL (valueF names (draw / 3) cell) (names.getD (draw % 30).toNat "")) none (some (draw / 30 % 10)); show 1 + _ ≤ _; exact Nat.le_trans (Nat.add_le_add_left this 1) (Nat.le_of_ble_eq_true rfl))) ?_))) (fun k307 => (db_nil (db_cons (ds_if (dt_cmp (op_eqA hu) (de_var 0) (de_lst (da_cons de_str (da_cons de_str da_nil))) (od_eq (eq_ok hp (by decide +kernel)))) (fun k309 => ?_) (fun k309 => (db_nil (db_one (ds_ret (de_tup da_nil) ?_))))))))))))))))))))))))))
    · have z := Bool.and_eq_true_iff.mp k300
      show _ = d
      rw [hd, madeF, if_pos (eqL ["value"] k299), if_pos ⟨eqi z.1, bnt z.2⟩]
    · have z : ¬ (draw % 3 = 0 ∧ isTupD st = false) := fun z => by
        rw [eqv_int, decide_eq_true z.1, z.2] at k300
        cases k300
      show _ = d
      rw [hd, madeF, if_pos (eqL ["value"] k299), if_neg z]
    · show _ = d
      rw [hd, madeF, if_neg (neL ["value"] k299), if_pos (eqL ["units"] k303)]
    · show _ = d
      rw [hd, madeF, if_neg (neL ["value"] k299), if_neg (neL ["units"] k303), if_pos (eqL ["word"] k305)]
    · show _ = d
      rw [hd, madeF, if_neg (neL ["value"] k299), if_neg (neL ["units"] k303), if_neg (neL ["word"] k305), if_pos (eqL ["word", "more"] k307)]
      rfl
    · obtain ⟨ss, rfl⟩ := ht (eqL ["time", "stage"] k309)
      refine (db_cons (ds_if (DW.dt (dw_and (dt_cmp (op_eqA hu) (de_mod (de_intI M (de_var 2)) de_int (by decide)) de_int (od_eq (by first | rfl | assumption | omega | decide))) fun kb => (dw_and1 (dt_cmp (op_eqA hu) (de_lenT M (de_var 3)) de_int (od_eq (by first | rfl | assumption | omega | decide)))))) (fun k310 => (db_one (ds_ret (de_slT (de_var 3) (po_s de_int) po_n) ?_))) (fun k310 => (db_nil (db_one (ds_ret (de_tup (da_cons (de_mul (de_mod (de_intI M (de_div (de_var 2) de_int (by refine ⟨by decide, by decide⟩))) de_int (by decide)) de_int (.inr ⟨by decide, by decide⟩)) (da_cons (de_mod (de_intI M (de_div (de_var 2) de_int (by refine ⟨by decide, by decide⟩))) de_int (by decide)) da_nil))) ?_))))))
      · have z := Bool.and_eq_true_iff.mp k310
        show _ = d
        rw [hd, madeF, if_neg (neL ["value"] k299), if_neg (neL ["units"] k303), if_neg (neL ["word"] k305), if_neg (neL ["word", "more"] k307), if_pos (eqL ["time", "stage"] k309), if_pos ⟨eqi z.1, by have := eqi z.2; show ss.length = 3; omega⟩, cut1]
        rfl
      · have z : ¬ (draw % 2 = 0 ∧ lenD (.tuple ss) = 3) := fun z => by
          rw [eqv_int, eqv_int, decide_eq_true z.1, decide_eq_true (show ((ss.length : Nat) : Int) = 3 by have := z.2; show ((ss.length : Nat) : Int) = 3; have e : ss.length = 3 := this; omega)] at k310
          cases k310
        show _ = d
        rw [hd, madeF, if_neg (neL ["value"] k299), if_neg (neL ["units"] k303), if_neg (neL ["word"] k305), if_neg (neL ["word", "more"] k307), if_pos (eqL ["time", "stage"] k309), if_neg z]
    · show _ = d
      rw [hd, madeF, if_neg (neL ["value"] k299), if_neg (neL ["units"] k303), if_neg (neL ["word"] k305), if_neg (neL ["word", "more"] k307), if_neg (neL ["time", "stage"] k309)]
end
end K5
end PartF10
section PartM2
set_option maxRecDepth 100000
set_option maxHeartbeats 4000000
/-! Sorting by (number, is look, life) and by (number, is look, life, place). -/
namespace K5
open PySem PySem.Spec PyProof.Rows L2
def isl (r : Row) : Int := if r.mode = "look" then 1 else 0
def pk (x : Row × Nat) : PD := .tuple [.int x.1.num, .int (isl x.1), .str x.1.life, .int (x.2 : Nat)]
theorem ev_int (x y : Int) : (PyData.eqv (.int x) (.int y) = true) = (x = y) := by rw [eqv_int]; exact propext decide_eq_true_iff
theorem ev_str (x y : Str) : (PyData.eqv (.str x) (.str y) = true) = (x = y) := by rw [eqv_str]; exact propext decide_eq_true_iff
theorem lex0 : PyProof.Rows.lexLt itemOrd (PySem.W.keyToksAll []) (PySem.W.keyToksAll []) = false := lex_irrefl _
theorem lt_pk (a b : Row × Nat) : PySem.W.dataLt (pk a) (pk b) = if a.1.num = b.1.num then (if isl a.1 = isl b.1 then (if a.1.life = b.1.life then decide ((a.2 : Int) < b.2) else sLt a.1.life b.1.life) else decide (isl a.1 < isl b.1)) else decide (a.1.num < b.1.num) := by
  unfold pk
  rw [PySem.W.dataLt_tuple, PySem.W.dataLt_cons (by simp [PySem.W.alike]), PySem.W.dataLt_cons (by simp [PySem.W.alike]), PySem.W.dataLt_cons (by simp [PySem.W.alike]), PySem.W.dataLt_cons (by simp [PySem.W.alike])]
  simp only [ev_int, ev_str, PySem.W.dataLt_int, PySem.W.dataLt_str]
  by_cases h1 : a.1.num = b.1.num <;> by_cases h2 : isl a.1 = isl b.1 <;> by_cases h3 : a.1.life = b.1.life <;> by_cases h4 : (a.2 : Int) = b.2 <;> simp [h1, h2, h3, h4, sLt, lex0]
theorem lt_rowK (a b : Row) : PySem.W.dataLt (rowK a) (rowK b) = if a.num = b.num then (if isl a = isl b then (if a.life = b.life then false else sLt a.life b.life) else decide (isl a < isl b)) else decide (a.num < b.num) := by
  show PySem.W.dataLt (.tuple [.int a.num, .int (isl a), .str a.life]) (.tuple [.int b.num, .int (isl b), .str b.life]) = _
  rw [PySem.W.dataLt_tuple, PySem.W.dataLt_cons (by simp [PySem.W.alike]), PySem.W.dataLt_cons (by simp [PySem.W.alike]), PySem.W.dataLt_cons (by simp [PySem.W.alike])]
  simp only [ev_int, ev_str, PySem.W.dataLt_int, PySem.W.dataLt_str]
  by_cases h1 : a.num = b.num <;> by_cases h2 : isl a = isl b <;> by_cases h3 : a.life = b.life <;> simp [h1, h2, h3, sLt, lex0]
theorem sLt_tri {x y : Str} (h : x ≠ y) (h2 : sLt x y = false) : sLt y x = true := by
  unfold sLt at h2 ⊢
  rcases Decidable.em (y.cps.toList < x.cps.toList) with z | z
  · exact decide_eq_true z
  · have z2 : ¬ x.cps.toList < y.cps.toList := of_decide_eq_false h2
    exact absurd (PySem.W.str_of_cps (List.le_antisymm (List.not_lt.mp z) (List.not_lt.mp z2))) h
theorem le_pk (a b : Row × Nat) : PySem.W.dataLe false (fun d : PD => d) (pk a) (pk b) = List.zipIdxLE (PySem.W.dataLe false rowK) a b := by
  show (!PySem.W.dataLt (pk b) (pk a)) = if (!PySem.W.dataLt (rowK b.1) (rowK a.1)) = true then if (!PySem.W.dataLt (rowK a.1) (rowK b.1)) = true then decide (a.2 ≤ b.2) else true else false
  rw [lt_pk, lt_rowK, lt_rowK]
  by_cases h1 : b.1.num = a.1.num
  · rw [if_pos h1, if_pos h1, if_pos h1.symm]
    by_cases h2 : isl b.1 = isl a.1
    · rw [if_pos h2, if_pos h2, if_pos h2.symm]
      by_cases h3 : b.1.life = a.1.life
      · rw [if_pos h3, if_pos h3, if_pos h3.symm]
        simp only [Bool.not_false, if_true]
        by_cases h4 : a.2 ≤ b.2
        · rw [decide_eq_true h4, decide_eq_false (by omega)]
          rfl
        · rw [decide_eq_false h4, decide_eq_true (by omega)]
          rfl
      · have h3' : ¬ a.1.life = b.1.life := fun z => h3 z.symm
        rw [if_neg h3, if_neg h3, if_neg h3']
        cases e : sLt b.1.life a.1.life with
        | true => rfl
        | false =>
          rw [sLt_tri h3 e]
          rfl
    · have h2' : ¬ isl a.1 = isl b.1 := fun z => h2 z.symm
      rw [if_neg h2, if_neg h2, if_neg h2']
      by_cases h4 : isl b.1 < isl a.1
      · rw [decide_eq_true h4]
        rfl
      · rw [decide_eq_false h4, decide_eq_true (show isl a.1 < isl b.1 by omega)]
        rfl
  · have h1' : ¬ a.1.num = b.1.num := fun z => h1 z.symm
    rw [if_neg h1, if_neg h1, if_neg h1']
    by_cases h4 : b.1.num < a.1.num
    · rw [decide_eq_true h4]
      rfl
    · rw [decide_eq_false h4, decide_eq_true (show a.1.num < b.1.num by omega)]
      rfl
def sortZ (rs : List Row) : List (Row × Nat) := rs.zipIdx.mergeSort (List.zipIdxLE (PySem.W.dataLe false rowK))
theorem sort_pk (rs : List Row) : sortP (rs.zipIdx.map pk) = (sortZ rs).map pk := by
  unfold sortP sortZ
  exact (List.map_mergeSort (f := pk) (r := List.zipIdxLE (PySem.W.dataLe false rowK)) (s := PySem.W.dataLe false fun d => d) fun a _ b _ => (le_pk a b).symm).symm
theorem sortZ_fst (rs : List Row) : (sortZ rs).map (·.1) = sortR rs := List.mergeSort_zipIdx
theorem sortZ_mem {rs : List Row} {x : Row × Nat} (h : x ∈ sortZ rs) : rs[x.2]? = some x.1 := by
  have z : x ∈ rs.zipIdx := (List.mergeSort_perm _ _).mem_iff.mp h
  exact List.mem_zipIdx_iff_getElem?.mp z
end K5
end PartM2
section PartF11
set_option maxRecDepth 100000
set_option maxHeartbeats 4000000
/-! The law's own def ordered; ordered_rows. -/
namespace K5
open PySem PySem.Spec PyProof.Rows L2
section
variable {P : Program} {w : World} {K : PySem.W.Frag} {mg : Str → Option Value} {base : Heap} {CX : CXT} {f : Addr} {fd : FuncData}
def rowsD (rs : List Row) : PD := .list (rs.map rowD)
def orderedR (ds : List PD) (d : PD) : Prop := ∃ rs, ds = [rowsD rs] ∧ rs.length ≤ 900 ∧ (∀ r ∈ rs, PyData.strOk r.life = true) ∧ d = rowsD (sortR rs)
instance : Inhabited Row := ⟨⟨0, "", "", 0, 0, "", [], .none⟩⟩
theorem zip_rng (rs : List Row) : (rngD 0 rs.length).map (fun d => pk (rs.getD (natOf d) default, natOf d)) = rs.zipIdx.map pk := by
  unfold rngD
  rw [List.map_map]
  refine List.ext_getElem (by simp) fun i h1 h2 => ?_
  have hi : i < rs.length := by simpa using h1
  simp [natOf, hi]

def N_ordrows : List Str := ["rows"]
theorem sc_ordrows : FnScope N_ordrows ["rows"] (fScope (topS 51)) := ⟨rfl, rfl, rfl, by decide +kernel, rfl, by decide +kernel, by decide +kernel⟩
theorem nd_ordrows : N_ordrows.Nodup := by decide +kernel
theorem ok_ordrows {k : Nat} (M : Blt mg) {g : Addr} {gd : FuncData} (hKey : FnP K "row_place" 50 g gd) (hKb : Binds K gd ["row"] []) (hKm : mg "row_place" = some (.ref g)) (D : FnP K "ordered_rows" 51 f fd) : FnOk P w K mg base CX (k + 1) f fd ["rows"] (spF K orderedR) := by
  refine fn_spF (N := N_ordrows) D sc_ordrows (fun ds d h => ?_) fun ds d cdv A outer s H E hr h => ?_
  · obtain ⟨rs, rfl, hl, ho, hd⟩ := h
    rfl
  · have hu := hr.units
    have nd := nd_ordrows
    obtain ⟨rs, rfl, hl, ho, hd⟩ := h
    refine (db_one (ds_ret (de_sortedK M hKey hKb hr hKm (de_var 0) (by omega)) ?_))
    exact hd.symm

theorem pk_alike (xs : List (Row × Nat)) : PySem.W.AllAlike (xs.map pk) := PySem.W.AllAlike.of fun _ _ => by simp [pk, PySem.W.alike, PySem.W.alikeAll]
theorem pk_shaped {r : Row} {k : Nat} (h : PyData.strOk r.life = true) : SeqAt.shaped (pk (r, k)) = true := by
  simp [pk, SeqAt.shaped, PyData.canLay0, PyData.canLayAll0, PyData.depth, PyData.depthAll, h]
theorem rowsAt {rs : List Row} {k : Nat} (h : k < rs.length) : L2.atI (rs.map rowD) (k : Int) = some (rowD (rs.getD k default)) := by
  rw [atI_nat (a := rowD default) (by rw [List.length_map]; exact h), getD_map]
def idxOf : PD → Nat
  | .tuple [_, _, _, .int i] => i.toNat
  | _ => 0
theorem isl_eq (r : Row) : PyData.int (if PyData.eqv (.str r.mode) (.str "look") = true then 1 else 0) = .int (isl r) := by
  unfold isl
  rw [eqv_str]
  by_cases h : r.mode = "look" <;> simp [h]

def N_lordered : List Str := ["_law_rows", "_law_places", "_law_k", "_law_place"]
theorem sc_lordered : FnScope N_lordered ["_law_rows"] (fScope (topS 64)) := ⟨rfl, rfl, rfl, by decide +kernel, rfl, by decide +kernel, by decide +kernel⟩
theorem nd_lordered : N_lordered.Nodup := by decide +kernel
theorem ok_lordered {k : Nat} (M : Blt mg) (D : FnP K "_law_ordered" 64 f fd) : FnOk P w K mg base CX (k + 1) f fd ["_law_rows"] (spF K orderedR) := by
  refine fn_spF (N := N_lordered) D sc_lordered (fun ds d h => ?_) fun ds d cdv A outer s H E hr h => ?_
  · obtain ⟨rs, rfl, hl, ho, hd⟩ := h
    rfl
  · have hu := hr.units
    have nd := nd_lordered
    obtain ⟨rs, rfl, hl, ho, hd⟩ := h
    have sc : ∀ ρ : Rho, True := fun _ => trivial
    refine (db_cons (ds_set 1 (DE.cast (d' := .list ((sortZ rs).map pk)) (de_sortedT M hr (DE.cast (d' := .list (rs.zipIdx.map pk)) (de_lc (i := 2) (f := fun d => pk (rs.getD (natOf d) default, natOf d)) rfl nd (it_rng M (de_lenL M (de_var 0)) (by omega) (by rw [List.length_map]; omega)) (by rfl) (by rw [rngD_len, List.length_map]; omega) (fun d hd s H C cl fp => by
          obtain ⟨j, hj, rfl⟩ := rngD_mem hd
          rw [List.length_map] at hj
          exact DE.cast (de_tup (da_cons (de_ixT (de_ixL (d := rowD (rs.getD j default)) (de_var 0) (de_var 2) (rowsAt hj)) de_int (by rfl)) (da_cons (de_intB M (de_cmp (op_eqA hu) (de_ixT (de_ixL (d := rowD (rs.getD j default)) (de_var 0) (de_var 2) (rowsAt hj)) de_int (by rfl)) de_str (od_eq (by rfl)))) (da_cons (de_ixT (de_ixL (d := rowD (rs.getD j default)) (de_var 0) (de_var 2) (rowsAt hj)) de_int (by rfl)) (da_cons (de_var 2) da_nil))))) (by show PyData.tuple [_, PyData.int _, _, _] = pk _; rw [isl_eq]; rfl))) (by rw [List.length_map]; exact congrArg PyData.list (zip_rng rs))) (by rw [List.length_map, List.length_zipIdx]; omega) (fun d hx => ?_) (fun d hx => ?_) (pk_alike _)) (by rw [sort_pk])) nd (db_one (ds_ret (DE.cast (d' := rowsD (sortR rs)) (de_lc (i := 3) (f := fun d => rowD (rs.getD (idxOf d) default)) rfl nd (it_list (de_var 1)) (by rfl) (by rw [List.length_map]; unfold sortZ; rw [List.length_mergeSort, List.length_zipIdx]; omega) (fun d hd s H C cl fp => by
          obtain ⟨x, hx, rfl⟩ := List.mem_map.mp hd
          have e := sortZ_mem hx
          have hj : x.2 < rs.length := by
            rcases Nat.lt_or_ge x.2 rs.length with z | z
            · exact z
            · rw [List.getElem?_eq_none z] at e
              cases e
          exact de_ixL (de_var 0) (de_ixT (d := .int (x.2 : Nat)) (de_var 3) de_int (by rfl)) (by rw [rowsAt hj]; rfl))) ?_) ?_))))
    · obtain ⟨x, hx2, rfl⟩ := List.mem_map.mp hx
      exact pk_shaped (ho _ (List.mem_of_getElem? (List.mem_zipIdx_iff_getElem?.mp hx2)))
    · obtain ⟨x, hx, rfl⟩ := List.mem_map.mp hx
      exact ⟨_, _, rfl⟩
    · rw [List.map_map]
      show PyData.list _ = PyData.list _
      rw [← sortZ_fst, List.map_map]
      refine congrArg PyData.list (List.map_congr_left fun x hx => ?_)
      have e := sortZ_mem hx
      show rowD (rs.getD x.2 default) = rowD x.1
      rw [List.getD_eq_getElem?_getD, e]
      rfl
    · exact hd.symm

end
end K5
end PartF11
section PartEX1
set_option maxRecDepth 100000
set_option maxHeartbeats 4000000
/-! BadBook made: its __init__ (super().__init__(text), self.number) on the machine. -/
namespace K5
open PySem PySem.Spec PyProof.Rows L2
abbrev initB : Stmt := match topS 5 with
  | .ClassDef _ _ _ b _ _ _ _ _ _ _ => b.getD 0 (.Pass ⟨0, 0, 0, 0⟩)
  | _ => .Pass ⟨0, 0, 0, 0⟩
/-- the class BadBook as it stands behind the top -/
structure BBk (K : PySem.W.Frag) (C fI : Addr) : Prop where
  oex : OexC K C
  xf : XfC K C
  hno : PySem.W.findIn K (.ref C) "number" = some none
  iC : PySem.W.findIn K (.ref C) "__init__" = some (some (.ref fI))
  tI : PySem.W.typeIn K (.ref fI) = some (.type "function")
  fn : ∃ (oc : Value) (od : Option Addr) (dV kV doc pm : Value) (an : Option Addr) (cda : Addr) (ct : Value) (osl : Array (Option Value)) (cc : Addr),
    K.lookup fI = some ⟨oc, od, .func (PySem.W.ksFn "__init__" "BadBook.__init__" (fArgs initB) (fBody initB) (fScope initB) dV kV doc pm an (.ref cda) ct cc), osl⟩ ∧ PySem.W.codeIn K (.ref cda) "BadBook.__init__" = true ∧
    (∃ (cl : Value) (cd : Option Addr) (vs : Array Value) (sl : Array (Option Value)) (file : Str) (tf : Tok), K.lookup cda = some ⟨cl, cd, .fields vs, sl⟩ ∧ vs[2]? = some (.str file tf) ∧ ((prg.main.file : Str) == file) = true) ∧
    (∃ (cl : Value) (cd : Option Addr) (sl : Array (Option Value)), K.lookup cc = some ⟨cl, cd, .cell (some (.ref C)), sl⟩) ∧
    Binds K (PySem.W.ksFn "__init__" "BadBook.__init__" (fArgs initB) (fBody initB) (fScope initB) dV kV doc pm an (.ref cda) ct cc) ["self", "number"] []
  sub : PySem.W.mroIn K C (.ref C) = some true
  any_ : PySem.W.nsIn K cStatics "thirdparty.any" = some none
  along : PySem.W.ks_superIn K C C "__init__" = some (some (.builtin "ValueError.__init__"))
  subVE : PySem.W.subIn K (.ref C) (.type "ValueError") = some true
  exI : PySem.W.excInitIn K C [.type "ValueError", .type "Exception", .type "BaseException", .type "object"] "ValueError.__new__" = true
theorem txt_fits (n : Int) (hn : n.natAbs.log2 < 1920) : (Str.empty ++ Str.ofString "book refused at number " ++ Str.ofString (toString n)).length ≤ sizeLine := by
  have z := int_text_length_le (k := 1920) (by decide) hn
  have z2 : (Str.ofString (toString n)).length = (toString n).length := PySem.ofString_length _
  have z3 : (Str.empty ++ Str.ofString "book refused at number ").length = 23 := by decide +kernel
  rw [Str.length_append, z3, z2, sizeLine_eq]
  omega
section
variable {w : World} {K : PySem.W.Frag} {mg mb : Str → Option Value} {base : Heap} {C fI : Addr} {A : Around} {s : Shared}
theorem init_call (T : BBk K C fI) {e t0 : Addr} {n : Int} {tn : Tok} (kb : K.In base) (kp : ∀ b o, base.get? b = some o → s.heap.get? b = some o) (ku : ∀ b o, b ≠ e → s.heap.get? b = some o → base.get? b = some o) (hz : base.objs.size ≤ s.heap.objs.size) (hbe : base.get? e = none) (lim : base.NoLimit)
    (hg : base.Ns mainGlobals mg) (hS : mg "super" = none) (hb : base.Ns builtinsNs mb) (hbS : mb "super" = some (.type "super")) (room : A.depth < recursionLimit) (he : s.heap.get? e = some (PySem.W.excObj C t0 none .none)) (hn : n.natAbs.log2 < 1920)
    {R : Result → Shared → Prop}
    (q : ∀ h' tk d t1, (∀ b o, b ≠ e → s.heap.get? b = some o → h'.get? b = some o) → s.heap.objs.size ≤ d → h'.get? e = some (PySem.W.excObj C t1 (some d) .none) → h'.Ns1 d (fun y => if y = "number" then some (.int n tn) else none) → R (.ok (.ret .none)) ⟨h', s.gens, s.drawn, tk, s.os⟩) :
    codeAny (model prg w) A (.call (.ref fI) ⟨[.ref e, .int n tn], []⟩) R s := by
  have kin := kb.keeps kp
  obtain ⟨oc, od, dV, kV, doc, pm, an, cda, ct, osl, cc, lk, hcd, ⟨cl, cd, vs, sl, file, tf, lkc, hvs, hfile⟩, ⟨cl2, cd2, sl2, lkcc⟩, bn⟩ := T.fn
  refine PySem.ks_codeAny_call_defAt (fd := PySem.W.ksFn "__init__" "BadBook.__init__" (fArgs initB) (fBody initB) (fScope initB) dV kV doc pm an (.ref cda) ct cc) (body := fBody initB) room (kin _ _ lk) rfl (lim.keeps kp) (PySem.W.codeRec_of kin hcd) rfl (bn s [.ref e, .int n tn] kin rfl) (show ∀ x ∈ (fScope initB).names, x.2 ≠ .cell by decide +kernel) (fun x hx => ?_) (fun h0 hns hk => ?_) rfl rfl rfl
  · have hx' : x ∈ [(("self" : Str), (Value.ref e : Value)), ("number", .int n tn)] := hx
    rcases List.mem_cons.mp hx' with rfl | hx'
    · rfl
    · rcases List.mem_cons.mp hx' with rfl | hx'
      · rfl
      · cases hx'
  have F0 : Fr base s.heap.objs.size h0 _ := ⟨hns, fun b o z => hk b o (kp b o z), hz⟩
  have N0 : News base s.heap.objs.size h0 [(e, PySem.W.excObj C t0 none .none)] := fun p hp => by
    obtain rfl := List.mem_singleton.mp hp
    exact ⟨hk _ _ he, Nat.ne_of_lt (Heap.lt_size he), hbe⟩
  have X0 : K.In h0 := kin.keeps hk
  obtain ⟨cdD, hcls, _⟩ := PySem.W.any_some T.xf.hdC
  obtain ⟨oD, hD1, hD2⟩ : ∃ oD, h0.get? C = some oD ∧ oD.data = .cls cdD := by
    unfold PySem.W.clsIn at hcls
    split at hcls
    · rename_i ho
      cases hcls
      exact ⟨_, X0 _ _ ho, rfl⟩
    · cases hcls
  refine ks_wpAt_execs_cons (ks_wpAt_Expr_any (ks_wpAt_MethodCall (pl := _) ?_ (by rfl)) (by rfl) (by rfl))
  refine ks_wpAt_super_base (by rfl) (by rfl) (by rfl) rfl (X0 _ _ lk) rfl rfl rfl (X0 _ _ lkc) rfl hvs hfile (by rfl) ?_
  refine PySem.W.ks_loadName_global rfl (by rfl) (PySem.Calls.loadGlobal_builtin (hg.keeps F0.keep) hS (hb.keeps F0.keep) hbS ⟨rfl, ?_⟩)
  refine wpAny_loadName_free rfl (by rfl) rfl ⟨_, X0 _ _ lkcc, rfl⟩ ?_
  refine wpAny_loadName_local rfl (by rfl) hns (by rfl) ?_
  refine ks_wpAny_isType_cls hD1 hD2 ⟨rfl, ?_⟩
  refine ks_wpAny_call_super hD1 hD2 (hk _ _ he) rfl (fun c z => nomatch z) (PySem.W.looks_mroIn X0 T.sub) fun h1 e1 k1 => ?_
  obtain ⟨F1, N1, l1⟩ := PySem.W.ks_newsPush (s := { s with heap := h0 }) (o := PySem.W.ks_superObj C e C) F0 N0 rfl e1 k1
  have I1 : PySem.W.InstAt h1 e (PySem.W.excObj C t0 none .none) C none := PySem.W.InstAt.of_exc0 N1 (List.mem_cons_of_mem _ List.mem_cons_self)
  refine PySem.W.kxs_method (s := ⟨h1, _, _, _, _⟩) PySem.W.kxs_ValueError F1 kb N1 List.mem_cons_self I1 T.any_ T.along T.subVE (by decide) fun u h2 F2 N2 l2 => ?_
  refine PySem.W.kxs_callWith1 N2 List.mem_cons_self ?_ (by rfl) (by rfl)
  refine PySem.Calls.spliced_cons (wpAny_JoinedStr (pos := ⟨26, 25, 26, 59⟩) ?_)
  refine PySem.Calls.Constant_str ⟨_, _, rfl, by rw [sizeLine_eq]; decide +kernel, ?_⟩
  refine wpAny_FormattedValue_plain (wpAny_Name (wpAny_loadName_local rfl (by rfl) F2.ns (by rfl) (wpAny_formatField_int hn ⟨_, _, rfl, ?_, ?_⟩)) (by decide))
  · have z := int_text_length_le (k := 1920) (by decide) hn
    have z2 : (Str.ofString (toString n)).length = (toString n).length := PySem.ofString_length _
    exact txt_fits n hn
  refine ⟨?_, PySem.Calls.spliced_nil ⟨PySem.W.kxs_at N2 List.mem_cons_self, ?_⟩⟩
  · exact txt_fits n hn
  have U : PySem.W.UpdF e (PySem.W.excObj C t0 none .none) ((u, PySem.W.kxs_mw "ValueError.__init__" e) :: (h0.objs.size, PySem.W.ks_superObj C e C) :: [(e, PySem.W.excObj C t0 none .none)]) (fun o' => (u, PySem.W.kxs_mw "ValueError.__init__" e) :: (h0.objs.size, PySem.W.ks_superObj C e C) :: [(e, o')]) :=
    .tail (Nat.ne_of_gt (l2 _ (List.mem_cons_of_mem _ List.mem_cons_self))) (.tail (Nat.ne_of_gt (l1 _ List.mem_cons_self)) (.head fun _ z => nomatch z))
  refine PySem.W.kxs_call F2 kb N2 PySem.F.excBase_ValueError T.exI List.mem_cons_self U (by rw [sizeLine_eq]; exact Nat.le_of_ble_eq_true rfl) fun t2 h3 F3 N3 _ => ?_
  have hx3 := (N3 (e, PySem.W.excObj C t2 none .none) (List.mem_cons_of_mem _ (List.mem_cons_of_mem _ (List.mem_cons_of_mem _ List.mem_cons_self)))).1
  have I3 : PySem.W.InstAt h3 e (PySem.W.excObj C t2 none .none) C none := ⟨hx3, rfl, rfl, trivial⟩
  obtain ⟨nm, qn, NN, bs, bm, sn, sub, ab, col, dd, k0, k2, k3, k4, k5, hC, hbm⟩ := T.oex.cls
  have hcl : PySem.W.clsIn K C = some { name := nm, bases := bs, mro := .ref C :: bm, ns := NN, qualname := qn, hasDict := true, slotNames := sn, subclasses := sub, abstract := ab, collection := col, hasDel := false } := by unfold PySem.W.clsIn; rw [hC] <;> rfl
  refine ks_wpAt_execs_cons (ks_wpAt_Assign_Attr (wpAt_of_wpAny (wpAny_Name (wpAny_loadName_local rfl (by rfl) F3.ns (by rfl) (wpAny_Name (wpAny_loadName_local rfl (by rfl) F3.ns (by rfl) ?_) (by decide))) (by decide))) (by rfl))
  refine PySem.W.set_plain (kb.keeps F3.keep) I3 T.oex.sa (PySem.HandSPX.exc_osa (kb.keeps F3.keep) hx3 hcl (show PySem.HandSPX.refsVE (.ref C :: bm) = true from hbm) rfl T.hno (fun h' tk' dx k dn dne hx' hn' => ?_))
  obtain ⟨oL, _, _, hL, _⟩ := F3.ns
  exact wpAt_of_wpAny (wpAny_execs_nil (q h' tk' dx t2 (fun b o ne ho => k b o ne (F3.keep b o (ku b o ne ho))) (Nat.le_trans (Nat.le_of_lt (Heap.lt_size hL)) dn) hx' hn'))
end
end K5
end PartEX1
section PartEX2
set_option maxRecDepth 100000
set_option maxHeartbeats 4000000
/-! BadBook(n): made, read, raised. -/
namespace K5
open PySem PySem.Spec PyProof.Rows L2
theorem boot_super : bootBuiltins "super" = some (.type "super") := by decide +kernel
section
variable {X : Cx} {C fI : Addr} {k : Nat} {pins : List (Addr × Obj)} {σ : L2.St} {H : Hp} {s : Shared}
theorem bad_call {n : Int} {tn : Tok} {Q : Value → Shared → Prop} {E : Value → Shared → Prop} (T : BBk X.K C fI) (hr : Room (k + 1) X.A) (hS : X.mg "super" = none) (hn : n.natAbs.log2 < 1920) (I : Inv X pins σ H s)
    (q : ∀ h' tk d t1, (∀ b o, s.heap.get? b = some o → h'.get? b = some o) → s.heap.objs.size ≤ d → d ≠ s.heap.objs.size + 1 → h'.get? (s.heap.objs.size + 1) = some (PySem.W.excObj C t1 (some d) .none) → h'.Ns1 d (fun y => if y = "number" then some (.int n tn) else none) →
      Q (.ref (s.heap.objs.size + 1)) ⟨h', s.gens, s.drawn, tk, s.os⟩) : wpAny (model prg X.w) X.A (call (.ref C) [.int n tn]) Q E s := by
  obtain ⟨nm, qn, NN, bs, bm, sn, sub, ab, col, dd, k0, k2, k3, k4, k5, hC, hbm⟩ := T.oex.cls
  obtain ⟨hp, g, dr, tk, os⟩ := s
  have kk : ∀ b o, hp.get? b = some o → ((hp.push (PySem.W.kdv_tup [.int n tn])).push (PySem.HandSPX.excO C hp.objs.size)).get? b = some o := fun b o e => Heap.get?_push_of_some _ (Heap.get?_push_of_some _ e)
  have hget : ((hp.push (PySem.W.kdv_tup [.int n tn])).push (PySem.HandSPX.excO C hp.objs.size)).get? (hp.objs.size + 1) = some (PySem.HandSPX.excO C hp.objs.size) := by heap_get
  have hsz : ((hp.push (PySem.W.kdv_tup [.int n tn])).push (PySem.HandSPX.excO C hp.objs.size)).objs.size = hp.objs.size + 2 := by rw [Heap.size_push, Heap.size_push]
  have ne : ∀ {b : Addr} {o : Obj}, hp.get? b = some o → b ≠ hp.objs.size + 1 := fun {b o} e => Nat.ne_of_lt (Nat.lt_succ_of_lt (Heap.lt_size e))
  obtain ⟨mb, hb1, hb2⟩ := I.mod.blt
  have kbb : ∀ b o, X.base.get? b = some o → (PySem.W.hideAll ((hp.push (PySem.W.kdv_tup [.int n tn])).push (PySem.HandSPX.excO C hp.objs.size)) [hp.objs.size + 1]).get? b = some o := fun b o z =>
    PySem.W.hideAll_get _ (kk b o (I.bk b o z)) fun m => ne (I.bk b o z) (List.mem_singleton.mp m)
  refine wpAny_call (PySem.HandSPX.call_own PySem.F.excBase_ValueError (fun Y => PySem.HandSPX.refsVE_contains Y bm hbm) (I.kIn _ _ hC) (PySem.W.looks_findIn I.kIn T.iC) (fun self => PySem.W.bind_fn I.kIn self T.tI) (by rw [sizeLine_eq]; exact Nat.le_of_ble_eq_true rfl) ?_)
  refine init_call (mg := X.mg) (mb := mb) (base := PySem.W.hideAll ((hp.push (PySem.W.kdv_tup [.int n tn])).push (PySem.HandSPX.excO C hp.objs.size)) [hp.objs.size + 1]) T (I.mod.kin.keeps kbb) (fun b o z => PySem.W.of_hideAll _ z)
    (fun b o nb z => PySem.W.hideAll_get _ z fun m => nb (List.mem_singleton.mp m)) (by rw [PySem.W.hideAll_size]; exact Nat.le_refl _) (PySem.W.hideAll_none _ List.mem_cons_self) (I.mod.nolimit.keeps kbb) (I.mod.glob.keeps kbb) hS (hb1.keeps kbb) ((hb2 "super" (by decide)).trans boot_super)
    (hr.make C _ _).depth hget hn fun h' tk' d t1 k1 dn he hn' => ⟨rfl, ?_⟩
  have dn' : hp.objs.size + 2 ≤ d := by
    have z : ((hp.push (PySem.W.kdv_tup [.int n tn])).push (PySem.HandSPX.excO C hp.objs.size)).objs.size ≤ d := dn
    rw [hsz] at z
    exact z
  exact q h' tk' d t1 (fun b o z => k1 b o (ne z) (kk b o z)) (Nat.le_trans (Nat.le_add_right _ 2) dn') (Nat.ne_of_gt (Nat.lt_of_succ_le dn')) he hn'
theorem rel_number {n : Int} {tn : Tok} : ∀ f, RelO (([("number", V.int n)] : List (Str × V)).lookup f) ((fun y : Str => if y = "number" then some (Value.int n tn) else none) f) := fun f => by
  rw [lookup_put]
  by_cases h : f = "number"
  · rw [if_pos h]
    simp only [h, if_pos]
    exact ⟨tn, rfl⟩
  · rw [if_neg h]
    simp only [h, if_neg]
    exact True.intro
abbrev nmF (n : Int) : List (Str × V) := [("number", .int n)]
/-- BadBook(e), to be raised -/
theorem pmk_bad {x : Str} {e : Expr} {ta : TA} {p pos : Pos} (hP : X.prog = prg) (T : BBk X.K C fI) (hr : Room (k + 1) X.A) (hS : X.mg "super" = none) (hg : Gl X x) (hm : X.mg x = some (.ref C)) (ha : PA X [e] ta)
    (hdb : (x == ("__debug__" : Str)) = false := by decide) (hs : starEach [e] X.env = [(false, eval e X.env)] := by rfl) :
    L2N.PMk X (.Call (.Name x p) [e] [] pos) (fun σ H Q => ta σ H fun vs H1 => ∃ n : Int, vs = [.int n] ∧ n.natAbs.log2 < 1920 ∧ ∀ d, H1 d = none → Q (.ref C) (some d) (upd H1 d (.xd (nmF n)))) := by
  intro pins s σ H Q I h
  refine wpAny_Call_Name_kw (ld_glob I hg hm ?_ hdb)
  refine PySem.W.callWith_K (h₀ := X.base) I.ok.mod.kin T.oex.kC (thn (ha.run pos pins s σ H _ I h) fun us s1 hh => ?_) hs rfl
  obtain ⟨vs, H1, I1, r1, n, rfl, hn, q⟩ := hh
  obtain ⟨u, rfl, ru⟩ := vals1 r1
  obtain ⟨tn, rfl⟩ := ru
  refine ⟨I1.kIn, ?_⟩
  rw [hP]
  refine bad_call T hr hS hn I1 fun h' tk d t1 k1 dn dne he' hn' => ?_
  have hd : H1 d = none := I1.hok.fresh dn
  have ha : H1 (s1.heap.objs.size + 1) = none := I1.hok.fresh (Nat.le_succ _)
  obtain ⟨hp, g, dr, tk0, os⟩ := s1
  have kG : ∀ b o, hp.get? b = some o → (PySem.W.hideAll h' [hp.objs.size + 1]).get? b = some o := fun b o z => PySem.W.hideAll_get _ (k1 b o z) fun m => Nat.ne_of_lt (Nat.lt_succ_of_lt (Heap.lt_size z)) (List.mem_singleton.mp m)
  have hnG : (PySem.W.hideAll h' [hp.objs.size + 1]).Ns1 d (fun y => if y = "number" then some (.int n tn) else none) := hn'.at fun o z => PySem.W.hideAll_get _ z fun m => dne (List.mem_singleton.mp m)
  refine ⟨hp.objs.size + 1, _, _, ⟨PySem.W.hideAll h' [hp.objs.size + 1], g, dr, tk, os⟩, upd H1 d (.xd (nmF n)), .ref C, some d, rfl, I1.laid (t' := tk) kG dn ⟨_, hnG, rel_number⟩, fun b o z => PySem.W.of_hideAll _ z, PySem.W.hideAll_none _ List.mem_cons_self, he', ⟨rfl, rfl, fun vs z => by cases z; rfl⟩, rfl, rfl, ?_, rfl, I1.bare, raises_own T.oex.exC T.oex.tyC, q d hd⟩
  rw [upd_ne dne.symm]
  exact ha
/-- BadBook(e), a value -/
theorem pe_bad {x : Str} {e : Expr} {ta : TA} {p pos : Pos} (hP : X.prog = prg) (T : BBk X.K C fI) (hr : Room (k + 1) X.A) (hS : X.mg "super" = none) (hg : Gl X x) (hm : X.mg x = some (.ref C)) (ha : PA X [e] ta)
    (hdb : (x == ("__debug__" : Str)) = false := by decide) (hs : starEach [e] X.env = [(false, eval e X.env)] := by rfl) :
    PE X (.Call (.Name x p) [e] [] pos) (fun σ H Q => ta σ H fun vs H1 => ∃ n : Int, vs = [.int n] ∧ n.natAbs.log2 < 1920 ∧ ∀ a d, H1 a = none → H1 d = none → d ≠ a → Q (.ref a) (upd (upd H1 d (.xd (nmF n))) a (exo a C (some d)))) := by
  refine ⟨fun pins s σ H Q I h => ?_⟩
  refine wpAny_Call_Name_kw (ld_glob I hg hm ?_ hdb)
  refine PySem.W.callWith_K (h₀ := X.base) I.ok.mod.kin T.oex.kC (thn (ha.run pos pins s σ H _ I h) fun us s1 hh => ?_) hs rfl
  obtain ⟨vs, H1, I1, r1, n, rfl, hn, q⟩ := hh
  obtain ⟨u, rfl, ru⟩ := vals1 r1
  obtain ⟨tn, rfl⟩ := ru
  refine ⟨I1.kIn, ?_⟩
  rw [hP]
  refine bad_call T hr hS hn I1 fun h' tk d t1 k1 dn dne he' hn' => ?_
  have hd : H1 d = none := I1.hok.fresh dn
  have ha : H1 (s1.heap.objs.size + 1) = none := I1.hok.fresh (Nat.le_succ _)
  obtain ⟨hp, g, dr, tk0, os⟩ := s1
  have neA : ∀ {b : Addr} {o : Obj}, hp.get? b = some o → b ≠ hp.objs.size + 1 := fun {b o} z => Nat.ne_of_lt (Nat.lt_succ_of_lt (Heap.lt_size z))
  have neD : ∀ {b : Addr} {o : Obj}, hp.get? b = some o → b ≠ d := fun {b o} z => Nat.ne_of_lt (Nat.lt_of_lt_of_le (Heap.lt_size z) dn)
  have up : ∀ {b : Addr} {o : HO}, H1 b = some o → (upd (upd H1 d (.xd (nmF n))) (hp.objs.size + 1) (exo (hp.objs.size + 1) C (some d))) b = some o := fun {b o} z => by
    rw [upd_ne (ne_of_none z ha), upd_ne (ne_of_none z hd)]
    exact z
  have U : Un X.fs [] H1 (upd (upd H1 d (.xd (nmF n))) (hp.objs.size + 1) (exo (hp.objs.size + 1) C (some d))) hp h' := {
    keep := fun b o z _ _ _ => k1 b o z
    slot := fun b o z _ _ _ => ⟨o.slots, k1 b o z⟩
    free := fun b o z m _ => by rw [upd_ne (neA z), upd_ne (neD z)]; exact m
    there := fun b o z _ => ⟨o, k1 b o z⟩
    tups := fun b xs z => up z
    frzs := fun b o v z => up z
    tbls := fun b ps z => ⟨#[], by rw [up z]; simp⟩ }
  refine ⟨.ref (hp.objs.size + 1), _, I1.un (t' := tk) U fun b o z => ?_, rfl, q _ _ ha hd dne⟩
  by_cases hb : b = hp.objs.size + 1
  · subst hb
    rw [upd_same] at z
    cases z
    exact exo_ok he'
  · rw [upd_ne hb] at z
    by_cases hb2 : b = d
    · subst hb2
      rw [upd_same] at z
      cases z
      exact ⟨_, hn', rel_number⟩
    · rw [upd_ne hb2] at z
      exact (I1.hok b o z).stay (fun c v _ y => k1 c v y) (fun c y => up y) fun c xs y => up y
/-- a field of such a value -/
theorem pe_badN {o : Expr} {to : TE} {pos : Pos} (T : BBk X.K C fI) (he : PE X o to) (hb : attributeBase o "number" X.env (eval o X.env) = eval o X.env := by rfl) :
    PE X (.Attribute o "number" pos) (fun σ H Q => to σ H fun x H1 => ∃ (a d : Addr) (n : Int), x = .ref a ∧ H1 a = some (exo a C (some d)) ∧ H1 d = some (.xd (nmF n)) ∧ Q (.int n) H1) := by
  refine ⟨fun pins s σ H Q I h => ?_⟩
  refine attr_of hb (thn (he.run pins s σ H _ I h) fun u s1 hh => ?_)
  obtain ⟨x, H1, I1, rx, a, d, n, rfl, ea, ed, q⟩ := hh
  obtain rfl : u = Value.ref a := rx
  obtain ⟨t1, hoe⟩ := exo_at I1.hok ea
  have hx : ObjOk X.prog X.w H1 s1.heap d (.xd (nmF n)) := I1.hok d _ ed
  obtain ⟨mA, hns, hr⟩ := hx
  obtain ⟨od, ho, hl⟩ := lookIn_ns hns
  obtain ⟨u, hu, ru⟩ := RelO.some_of (v := .int n) (o := mA "number") (hr "number")
  have J : PySem.W.InstAt s1.heap a { cls := .ref C, dict := some d, data := .fields #[.ref t1, .none, .none, .none, .bool false, .none] } C (some od) := ⟨hoe, rfl, rfl, ho⟩
  exact HandSPX.exc_get I1.kIn J T.xf.ga T.xf.gg T.xf.exC (PySem.W.findObj_own T.xf.hdC T.hno rfl (by rw [hl, hu])) (handed_of ru) ⟨.int n, H1, I1.tok _, ru, q⟩
end
end K5
end PartEX2
section PartEX3
set_option maxRecDepth 100000
set_option maxHeartbeats 4000000
/-! The data layer: defs that may let a BadBook out. -/
namespace K5
open PySem PySem.Spec PyProof.Rows L2
/-- F: what it gives; G: the number of the BadBook that it lets out -/
def spX (K : PySem.W.Frag) (C : Addr) (F : List PD → PD → Prop) (G : List PD → Int → Prop) : Sp := fun vs H Q E => ∃ B ds, Same B H ∧ DvA K B vs ds ∧
  ((∃ d, F ds d ∧ ∀ v B' H', Gr B H B' H' → Dv K B' v d → Q v H') ∨ ∃ n, G ds n ∧ ∀ a B' H', Gr B H B' H' → H' a = some (.xd (nmF n)) → E (.ref C) (some a) H')
theorem noX_N {P : Program} {w : World} : NoX (L2N.CX P w) := fun outer H s e s' h => by
  obtain ⟨_, _, _, _, _, _, _, _, _, _, _, _, z⟩ := h
  exact z
theorem fnX_F {P : Program} {w : World} {K : PySem.W.Frag} {mg : Str → Option Value} {base : Heap} {CX : CXT} {k : Nat} {f C : Addr} {fd : FuncData} {ps : List Str} {F : List PD → PD → Prop} {G : List PD → Int → Prop} (h : FnOk P w K mg base CX k f fd ps (spX K C F G)) : FnOk P w K mg base CX k f fd ps (spF K F) :=
  h.imp fun vs H Q E ⟨B, ds, d, s, dv, e, q⟩ => ⟨B, ds, s, dv, .inl ⟨d, e, q⟩⟩
theorem fn_spX {P : Program} {w : World} {K : PySem.W.Frag} {mg : Str → Option Value} {base : Heap} {x qual : Str} {params : Arguments} {body : List Stmt} {scope : Scope} {f C : Addr} {fd : FuncData} {N ps : List Str} {k : Nat} {F : List PD → PD → Prop} {G : List PD → Int → Prop}
    (D : FunD K x qual params body scope [] [] f fd) (S : FnScope N ps scope) (hlen : ∀ ds d, F ds d → ds.length = ps.length) (hlen2 : ∀ ds n, G ds n → ds.length = ps.length)
    (hb : ∀ (ds : List PD) (cdv : Value) (A : Around) (outer : List Env) (s : Shared) (H : Hp) (E : XK) (R : PD → Prop) (Y : Int → Prop), Room k (A.deeper (envOfC qual scope s.heap.objs.size f cdv)) → ((∃ d, F ds d ∧ R = (· = d) ∧ Y = fun _ => False) ∨ ∃ n, G ds n ∧ R = (fun _ => False) ∧ Y = (· = n)) →
      L2N.Takes (cxOf (L2N.CX P w) P w K mg base N qual scope f cdv A outer s H E) (fun cls d _ H => E cls d H) →
      DB (cxOf (L2N.CX P w) P w K mg base N qual scope f cdv A outer s H E) C (fun cls d _ H => E cls d H) body (rho0 N ds) none { nx := fun _ _ => R .none, rt := R, ex := Y }) : FnOk P w K mg base (L2N.CX P w) (k + 1) f fd ps (spX K C F G) := by
  refine D.ok S (fun vs H Q E h => ?_) fun cdv A outer s H vs Q E hr h => ?_
  · obtain ⟨B, ds, _, dv, ⟨d, e, _⟩ | ⟨n, e, _⟩⟩ := h
    · rw [dv.length]
      exact hlen _ _ e
    · rw [dv.length]
      exact hlen2 _ _ e
  · obtain ⟨B, ds, sm, dv, h⟩ := h
    have tk : L2N.Takes (cxOf (L2N.CX P w) P w K mg base N qual scope f cdv A outer s H E) (fun cls d _ H => E cls d H) := L2N.takes_of rfl rfl rfl rfl
    rcases h with ⟨d, e, q⟩ | ⟨n, e, q⟩
    · refine ⟨_, pwB body, hb ds cdv A outer s H E _ _ hr (.inl ⟨d, e, rfl, rfl⟩) tk B H B _ B H _ (sl_start sm dv) (Gr.refl sm) (Same.refl B) ?_⟩
      refine ⟨fun σ B' H' ρ O z S' g r => ?_, fun d' v B' H' z dv' g => ?_, fun _ _ _ _ _ z => z.elim, fun _ _ _ _ _ z => z.elim, fun _ _ _ _ _ z => z.elim⟩
      · have z' : PyData.none = d := z
        subst z'
        exact q _ _ _ g .non
      · have z' : d' = d := z
        subst z'
        exact q _ _ _ g dv'
    · refine ⟨_, pwB body, hb ds cdv A outer s H E _ _ hr (.inr ⟨n, e, rfl, rfl⟩) tk B H B _ B H _ (sl_start sm dv) (Gr.refl sm) (Same.refl B) ?_⟩
      refine ⟨fun σ B' H' ρ O z S' g r => z.elim, fun d' v B' H' z dv' g => z.elim, fun _ _ _ _ _ z => z.elim, fun _ _ _ _ _ z => z.elim, fun m a σ B' H' z ea g => ?_⟩
      have z' : m = n := z
      subst z'
      exact q a B' H' g ea
section
variable {X : Cx} {C fI : Addr} {W : WX} {ρ : Rho} {O : Own} {P : DP} {k : Nat} {pos p : Pos} {e : Expr}
/-- raise BadBook(e) -/
theorem ds_raise {n : Int} {x : Str} {p2 : Pos} (hP : X.prog = prg) (T : BBk X.K C fI) (hr : Room (k + 1) X.A) (hS : X.mg "super" = none) (hm : X.mg x = some (.ref C)) (hc : X.calm = true) (tk : L2N.Takes X W) (he : DE X e ρ O (.int n)) (hn : n.natAbs.log2 < 1920) (h : P.ex n)
    (hg : Gl X x := by rfl) (hdb : (x == ("__debug__" : Str)) = false := by decide) (hs : starEach [e] X.env = [(false, eval e X.env)] := by rfl) : DS X C W (.Raise (some (.Call (.Name x p) [e] [] p2)) none pos) ρ O P :=
  .mk (L2N.ps_raise hc tk (pmk_bad hP T hr hS hg hm (pwA [e]) hdb hs)) fun S g r po => da_cons he da_nil hs _ _ _ _ _ S fun vs B1 H1 g1 dvs => by
    obtain ⟨v, rfl, dv⟩ := dvs.one_
    exact ⟨n, by rw [dv.int_], hn, fun d hd => po.ex n d _ _ _ h upd_same (g.trans (g1.trans (Gr.own g1.bh hd)))⟩
/-- x = BadBook(e1); if not alike(x.number, e2): s1 -/
theorem db_made {C0 : Addr} {n : Int} {i : Nat} {x y f : Str} {px p1 p2 p3 p4 p5 p6 p7 p8 pn : Pos} {e1 e2 : Expr} {s1 : List Stmt} {rest : List Stmt} {CX : CXT} {F : List PD → PD → Prop} {ps : List Str} (hP : X.prog = prg) (T : BBk X.K C fI) (hr : Room (k + 1) X.A) (hS : X.mg "super" = none) (hm : X.mg y = some (.ref C)) (hN : X.N.Nodup)
    (A : FnD X.prog X.w X.K X.mg X.base CX (k + 1) f ps F) (hx : NoX CX) (hF : F [.int n, .int n] (.bool true)) (hl : i < ρ.length) (h1 : DE X e1 ρ O (.int n)) (hn : n.natAbs.log2 < 1920) (h2 : DE X e2 (ρ.set i none) (ownBut i O) (.int n)) (h : DB X C0 W rest (ρ.set i none) (ownBut i O) P)
    (hg : Gl X y := by rfl) (hgf : Gl X f := by rfl) (hi : X.N[i]? = some x := by rfl) (hlx : Loc X.env.scope x := by first | exact .inl rfl | exact .inr rfl) (hv : Vis X.env.scope x := by first | exact .inl rfl | exact .inr (.inl rfl))
    (hs1 : starEach [e1] X.env = [(false, eval e1 X.env)] := by rfl) (hs : swapsWith (.Call (.Name y p1) [e1] [] p2) (some (.Name x px)) p3.line X.env = pure false := by rfl) (hf : X.fn x = true ∨ X.env.scope.names.lookup x = some .local := by first | exact .inl rfl | exact .inr rfl)
    (hdy : (y == ("__debug__" : Str)) = false := by decide) (hdx : (x == ("__debug__" : Str)) = false := by decide) (hcx : (x == ("__classdict__" : Str)) = false := by decide) (hdf : (f == ("__debug__" : Str)) = false := by decide)
    (hb : attributeBase (.Name x p4) "number" X.env (eval (.Name x p4) X.env) = eval (.Name x p4) X.env := by rfl)
    (hs2 : starEach [e2] X.env = [(false, eval e2 X.env)] := by rfl) (hs3 : starEach [.Attribute (.Name x p4) "number" p5, e2] X.env = (false, eval (.Attribute (.Name x p4) "number" p5) X.env) :: starEach [e2] X.env := by rfl)
    (hpl : (backTo p7 (starEach [e2] X.env)).any (·.1) = false := by rfl)
    (ht : ∀ whole, isTrue (.Call (.Name f p6) [.Attribute (.Name x p4) "number" p5, e2] [] p7) X.env whole = (do let v ← whole; standAt (Expr.Call (.Name f p6) [.Attribute (.Name x p4) "number" p5, e2] [] p7).pos; holding [v] (truthy v)) := by intro _; rfl) :
    DB X C0 W (.Assign [.Name x px] (.Call (.Name y p1) [e1] [] p2) p3 :: .If (.UnaryOp .Not (.Call (.Name f p6) [.Attribute (.Name x p4) "number" p5, e2] [] p7) p8) s1 [] pn :: rest) ρ O P := fun B0 H0 B1 σ B H D S g r po => by
  obtain ⟨fa, fd, ok, hmf, kp, bn⟩ := A.ok
  refine wB_of (pss_cons (ps_set hN hi hlx (pe_bad hP T hr hS hg hm (pwA [e1]) hdy hs1) hs hf) (pss_cons (ps_if (pt_not (pt_val (pe_call (E := fun _ _ _ => False) ok hr hgf hmf kp bn .nil (fun pins σ H s e' s' _ z => (hx _ _ _ _ _ z).elim)
    (pa_cons (pe_badN T (pe_var hi hv hdx hcx) hb) (pwA [e2]) hs3) hdf hs3 hpl) ht)) (pwB s1) pss_nil) (pwB rest))) ?_
  refine da_cons h1 da_nil hs1 _ _ _ _ _ S fun vs B2 H2 g2 dvs => ?_
  obtain ⟨v, rfl, dv⟩ := dvs.one_
  refine ⟨n, by rw [dv.int_], hn, fun a d ha hd hda => ?_⟩
  have ha' : upd H2 d (.xd (nmF n)) a = none := by rw [upd_ne (Ne.symm hda)]; exact ha
  have g3 : Gr B2 H2 B2 (upd (upd H2 d (.xd (nmF n))) a (exo a C (some d))) := (Gr.own g2.bh hd).trans (Gr.own (Gr.own g2.bh hd).bh ha')
  have S3 := ((S.gr (g2.trans g3)).put (i := i) (some (.ref a)))
  refine ⟨.ref a, ?_, a, d, n, rfl, upd_same, by rw [upd_ne hda]; exact upd_same, da_cons h2 da_nil hs2 _ _ _ _ _ S3 fun vs B4 H4 g4 dvs => ?_⟩
  · rw [List.getElem?_set, if_pos rfl, if_pos (by rw [S.len]; exact hl)]
  show spF X.K F ((.int n :: vs) ++ []) H4 _ _
  rw [List.append_nil]
  refine ⟨B4, [.int n, .int n], .bool true, g4.bh, .cons (.int n) dvs, hF, fun v5 B5 H5 g5 dv5 => ⟨true, dv5.bl_, ?_⟩⟩
  have gg := g2.trans (g3.trans (g4.trans g5))
  exact h _ _ _ _ _ _ _ ((S3.gr g4).gr g5) (g.trans gg) (r.trans gg.b) po
end
end K5
end PartEX3
section PartF12
set_option maxRecDepth 100000
set_option maxHeartbeats 4000000
/-! The law's own def alike, of equal data. -/
namespace K5
open PySem PySem.Spec PyProof.Rows L2
section
variable {P : Program} {w : World} {K : PySem.W.Frag} {mg : Str → Option Value} {base : Heap} {CX : CXT} {f : Addr} {fd : FuncData}
/-- data of such a depth, without bools and dicts, its tuples and lists not long -/
def alk : Nat → PD → Bool
  | _, .none => true
  | _, .int _ => true
  | _, .str _ => true
  | n + 1, .tuple ds => decide (ds.length ≤ 5000) && ds.all (alk n)
  | n + 1, .list ds => decide (ds.length ≤ 5000) && ds.all (alk n)
  | _, _ => false
def alikeR (n : Nat) (ds : List PD) (d : PD) : Prop := ∃ x, ds = [x, x] ∧ alk n x = true ∧ d = .bool true
theorem eqv_bools (b : Bool) : PyData.eqv (.bool b) (.bool b) = true := by cases b <;> simp [PyData.eqv]
theorem rng_true {n : Nat} : (rngD 0 n).map (fun _ => PyData.bool true) = (List.replicate n true).map PyData.bool := by
  unfold rngD
  rw [List.map_map]
  refine List.ext_getElem (by simp) fun i h1 h2 => ?_
  simp
theorem alk_items {n : Nat} {ds : List PD} (h : (decide (ds.length ≤ 5000) && ds.all (alk n)) = true) : ds.length ≤ 5000 ∧ ∀ j, j < ds.length → alk n (ds.getD j .none) = true := by
  obtain ⟨h1, h2⟩ := Bool.and_eq_true_iff.mp h
  refine ⟨of_decide_eq_true h1, fun j hj => ?_⟩
  rw [List.getD_eq_getElem?_getD, List.getElem?_eq_getElem hj]
  exact List.all_eq_true.mp h2 _ (List.getElem_mem hj)

def N_alikeS : List Str := ["_law_told", "_law_due", "_law_k"]
theorem sc_alikeS : FnScope N_alikeS ["_law_told", "_law_due"] (fScope (topS 57)) := ⟨rfl, rfl, rfl, by decide +kernel, rfl, by decide +kernel, by decide +kernel⟩
theorem nd_alikeS : N_alikeS.Nodup := by decide +kernel
theorem ok_alikeS {k n : Nat} (M : Blt mg) (hI : FnD P w K mg base CX k "_law_is_integer" ["_law_value_here"] numR) (hA : ∀ m, n = m + 1 → FnD P w K mg base CX k "_law_alike" ["_law_told", "_law_due"] (alikeR m)) (hx : NoX CX) (D : FnP K "_law_alike" 57 f fd) : FnOk P w K mg base CX (k + 1) f fd ["_law_told", "_law_due"] (spF K (alikeR n)) := by
  refine fn_spF (N := N_alikeS) D sc_alikeS (fun ds d h => ?_) fun ds d cdv A outer s H E hr h => ?_
  · obtain ⟨x, rfl, ho, rfl⟩ := h
    rfl
  · have hu := hr.units
    have nd := nd_alikeS
    obtain ⟨x, rfl, ho, rfl⟩ := h
    cases x with
    | none => exact (db_cons (ds_if (DW.dt (dw_or (dt_val (de_isi M M.tuple boot_tuple (kit_tuple _) (de_var 1))) fun kb => (dw_or1 (dt_val (de_isi M M.list boot_list (kit_list _) (de_var 1)))))) (fun k1 => absurd k1 (by simp [isTupD, isLstD, isNonD, isStrD])) (fun k1 => (db_nil (db_cons (ds_if (dt_cmp op_isN (de_var 1) de_non od_isN) (fun k2 => (db_one (ds_ret (de_cmp op_isN (de_var 0) de_non od_isN) (by rfl)))) (fun k2 => absurd k2 (by simp [isTupD, isLstD, isNonD, isStrD]))))))))
    | int i => exact (db_cons (ds_if (DW.dt (dw_or (dt_val (de_isi M M.tuple boot_tuple (kit_tuple _) (de_var 1))) fun kb => (dw_or1 (dt_val (de_isi M M.list boot_list (kit_list _) (de_var 1)))))) (fun k1 => absurd k1 (by simp [isTupD, isLstD, isNonD, isStrD])) (fun k1 => (db_nil (db_cons (ds_if (dt_cmp op_isN (de_var 1) de_non od_isN) (fun k2 => absurd k2 (by simp [isTupD, isLstD, isNonD, isStrD])) (fun k2 => (db_nil (db_cons (ds_if (dt_val (de_isi M M.str boot_str (kit_str _) (de_var 1))) (fun k3 => absurd k3 (by simp [isTupD, isLstD, isNonD, isStrD])) (fun k3 => (db_nil (db_one (ds_ret (de_and (de_call hI hr hx (da_cons (de_var 0) da_nil) ⟨_, rfl, rfl⟩) fun kb => (de_one (de_cmp (op_eqA hu) (de_var 0) (de_var 1) (od_eq (by rfl))))) (by simp [isIntD, isBoolD, eqv_int])))))))))))))))
    | str z => exact (db_cons (ds_if (DW.dt (dw_or (dt_val (de_isi M M.tuple boot_tuple (kit_tuple _) (de_var 1))) fun kb => (dw_or1 (dt_val (de_isi M M.list boot_list (kit_list _) (de_var 1)))))) (fun k1 => absurd k1 (by simp [isTupD, isLstD, isNonD, isStrD])) (fun k1 => (db_nil (db_cons (ds_if (dt_cmp op_isN (de_var 1) de_non od_isN) (fun k2 => absurd k2 (by simp [isTupD, isLstD, isNonD, isStrD])) (fun k2 => (db_nil (db_cons (ds_if (dt_val (de_isi M M.str boot_str (kit_str _) (de_var 1))) (fun k3 => (db_one (ds_ret (de_and (de_isi M M.str boot_str (kit_str _) (de_var 0)) fun kb => (de_one (de_cmp (op_eqA hu) (de_var 0) (de_var 1) (od_eq (by rfl))))) (by simp [isStrD, eqv_str])))) (fun k3 => absurd k3 (by simp [isTupD, isLstD, isNonD, isStrD]))))))))))))
    | bool b => cases n <;> cases ho
    | dict b => cases n <;> cases ho
    | tuple ds =>
      cases n with
      | zero => cases ho
      | succ n =>
        obtain ⟨hl, hi⟩ := alk_items ho
        exact (db_cons (ds_if (DW.dt (dw_or (dt_val (de_isi M M.tuple boot_tuple (kit_tuple _) (de_var 1))) fun kb => (dw_or1 (dt_val (de_isi M M.list boot_list (kit_list _) (de_var 1)))))) (fun k1 => (db_cons (ds_if (DW.dt (dw_or (dt_cmp (op_neA hu) (de_isi M M.tuple boot_tuple (kit_tuple _) (de_var 1)) (de_isi M M.tuple boot_tuple (kit_tuple _) (de_var 0)) (od_ne (by rfl))) fun kb => (dw_or1 (dt_cmp (op_neA hu) (de_isi M M.list boot_list (kit_list _) (de_var 1)) (de_isi M M.list boot_list (kit_list _) (de_var 0)) (od_ne (by rfl)))))) (fun k1 => absurd k1 (by simp [eqv_bools])) (fun k1 => (db_nil (db_cons (ds_if (dt_cmp (op_neA hu) (de_lenT M (de_var 0)) (de_lenT M (de_var 1)) (od_ne (by rfl))) (fun k2 => absurd k2 (by simp [eqv_int])) (fun k2 => (db_nil (db_one (ds_ret (de_all rfl M (DE.cast (d' := .list ((List.replicate ds.length true).map PyData.bool)) (de_lc (i := 2) (f := fun _ => .bool true) rfl nd (it_rng M (de_lenT M (de_var 1)) (by omega) (by omega)) (by rfl) (by rw [rngD_len]; omega) (fun d hd s H C cl fp => by
          obtain ⟨j, hj, rfl⟩ := rngD_mem hd
          have hj' : j < ds.length := by omega
          exact de_call (hA _ rfl) hr hx (da_cons (de_ixT (de_var 0) (de_var 2) (atI_nat (a := PyData.none) hj')) (da_cons (de_ixT (de_var 1) (de_var 2) (atI_nat (a := PyData.none) hj')) da_nil)) ⟨ds.getD j .none, rfl, hi j hj', rfl⟩)) (by rw [Int.toNat_natCast]; exact congrArg PyData.list rng_true))) (by simp)))))))))))) (fun k1 => absurd k1 (by simp [isTupD, isLstD, isNonD, isStrD]))))
    | list ds =>
      cases n with
      | zero => cases ho
      | succ n =>
        obtain ⟨hl, hi⟩ := alk_items ho
        exact (db_cons (ds_if (DW.dt (dw_or (dt_val (de_isi M M.tuple boot_tuple (kit_tuple _) (de_var 1))) fun kb => (dw_or1 (dt_val (de_isi M M.list boot_list (kit_list _) (de_var 1)))))) (fun k1 => (db_cons (ds_if (DW.dt (dw_or (dt_cmp (op_neA hu) (de_isi M M.tuple boot_tuple (kit_tuple _) (de_var 1)) (de_isi M M.tuple boot_tuple (kit_tuple _) (de_var 0)) (od_ne (by rfl))) fun kb => (dw_or1 (dt_cmp (op_neA hu) (de_isi M M.list boot_list (kit_list _) (de_var 1)) (de_isi M M.list boot_list (kit_list _) (de_var 0)) (od_ne (by rfl)))))) (fun k1 => absurd k1 (by simp [eqv_bools])) (fun k1 => (db_nil (db_cons (ds_if (dt_cmp (op_neA hu) (de_lenL M (de_var 0)) (de_lenL M (de_var 1)) (od_ne (by rfl))) (fun k2 => absurd k2 (by simp [eqv_int])) (fun k2 => (db_nil (db_one (ds_ret (de_all rfl M (DE.cast (d' := .list ((List.replicate ds.length true).map PyData.bool)) (de_lc (i := 2) (f := fun _ => .bool true) rfl nd (it_rng M (de_lenL M (de_var 1)) (by omega) (by omega)) (by rfl) (by rw [rngD_len]; omega) (fun d hd s H C cl fp => by
          obtain ⟨j, hj, rfl⟩ := rngD_mem hd
          have hj' : j < ds.length := by omega
          exact de_call (hA _ rfl) hr hx (da_cons (de_ixL (de_var 0) (de_var 2) (atI_nat (a := PyData.none) hj')) (da_cons (de_ixL (de_var 1) (de_var 2) (atI_nat (a := PyData.none) hj')) da_nil)) ⟨ds.getD j .none, rfl, hi j hj', rfl⟩)) (by rw [Int.toNat_natCast]; exact congrArg PyData.list rng_true))) (by simp)))))))))))) (fun k1 => absurd k1 (by simp [isTupD, isLstD, isNonD, isStrD]))))

theorem ok_alike (M : Blt mg) (hI : FnD P w K mg base CX 1 "_law_is_integer" ["_law_value_here"] numR) (hx : NoX CX) (D : FnP K "_law_alike" 57 f fd) (hm : mg "_law_alike" = some (.ref f)) (hb : Binds K fd ["_law_told", "_law_due"] []) :
    ∀ n, FnD P w K mg base CX (n + 2) "_law_alike" ["_law_told", "_law_due"] (alikeR n)
  | 0 => fnD_of D hm (ok_alikeS (n := 0) M hI (fun _ z => nomatch z) hx D) hb
  | n + 1 => fnD_of D hm (ok_alikeS (n := n + 1) M (hI.mono (by omega)) (fun m z => by
      have e : m = n := by omega
      subst e
      exact ok_alike M hI hx D hm hb m) hx D) hb

end
end K5
end PartF12
section PartEX4
set_option maxRecDepth 100000
set_option maxHeartbeats 4000000
/-! Within an except suite: isinstance of the caught error, its number, calls. -/
namespace K5
open PySem PySem.Spec PyProof.Rows L2
section
variable {X : Cx} {a C dd : Addr} {oe : Obj} {pn : List (Addr × Obj)}
theorem refs_of : ∀ {as : List Addr} {its : List Value}, Vals (as.map V.ref) its → its = as.map Value.ref
  | [], _, .nil => rfl
  | _ :: _, _, .cons h t => by
    cases h
    rw [refs_of t]
    rfl
/-- isinstance(e, c) | isinstance(e, (c, ..)), e the caught error -/
def rIsX (K : PySem.W.Frag) (C a dd : Addr) : List V → Hp → VK → Prop := fun xs H Q => ∃ (c : V) (b : Bool) (fs : List (Str × V)), xs = [.ref a, c] ∧ H dd = some (.xd fs) ∧
  ((∃ cv : Value, (∀ u, RelV c u → u = cv) ∧ PySem.W.kitOne K (.ref C) cv = some b) ∨ ∃ (tp : Addr) (as : List Addr), c = .ref tp ∧ SqT K H tp (as.map V.ref) ∧ PySem.W.kitAny K (.ref C) (as.map Value.ref) = some b) ∧ Q (.bl b) H
theorem call_isX (T : ExcC X.K C) (hz : L2N.Zn (.ref C) (some dd) oe) (hf : ∃ vs, oe.data = .fields vs) : CallR (X.suite a ((a, oe) :: pn)) (.builtin "isinstance") (rIsX X.K C a dd) := by
  intro pins s σ H xs us Q I r h
  obtain ⟨c, b, fs, rfl, hdd, hc, q⟩ := h
  obtain ⟨u1, u2, rfl, r1, r2⟩ := vals2 r
  obtain rfl : u1 = Value.ref a := r1
  obtain ⟨hget, _⟩ := I.pin (a, oe) (List.mem_append.mpr (.inl List.mem_cons_self))
  have hx : ObjOk X.prog X.w H s.heap dd (.xd fs) := I.hok dd _ hdd
  obtain ⟨mA, ⟨od, es, ep, ho, _⟩, _⟩ := hx
  obtain ⟨vs, hv⟩ := hf
  have J : PySem.W.InstAt s.heap a oe C (some od) := ⟨hget, hz.1, by unfold PySem.W.notCls; rw [hv] <;> rfl, by rw [hz.2.1]; exact ho⟩
  obtain ⟨cd, hcl, _⟩ := PySem.W.any_some T.hd
  have Z : PySem.W.KitX X.K (.ref a) (.ref C) (fun h => PySem.W.InstAt h a oe C (some od)) := PySem.W.kitx_exc (by rw [hcl]; rfl) T.hg T.hk T.hs T.ha T.hn T.ht T.hm
  rcases hc with ⟨cv, hcv, e⟩ | ⟨tp, as, rfl, hT, e⟩
  · have ec := hcv _ r2
    subst ec
    exact PySem.W.kia_one Z I.kIn J e (fun z => nomatch z) fun tk => ⟨.bl b, H, I.kept (t' := tk) fun _ _ z => z, rfl, q⟩
  · obtain rfl : u2 = Value.ref tp := r2
    obtain ⟨its, rv, ⟨⟨cls, d2, data, sl⟩, ho2, hc2, n2, hd2⟩, hs⟩ := I.tuple hT
    simp only at hc2 hd2
    subst hc2 hd2
    have ei := refs_of rv
    subst ei
    exact PySem.W.kia_tup Z I.kIn J ho2 e (fun z => nomatch z) fun tk => ⟨.bl b, H, I.kept (t' := tk) fun _ _ z => z, rfl, q⟩
end
/-! ### calls there -/
section
variable {X : Cx} {ρ : Rho} {O : Own} {d : PD} {e : Expr} {es : List Expr} {pos p : Pos}
structure FnDH (P : Program) (w : World) (K : PySem.W.Frag) (mg : Str → Option Value) (base : Heap) (CX : CXT) (k : Nat) (x : Str) (ps : List Str) (F : List PD → PD → Prop) : Prop where
  ok : ∃ f fd, L2H.FnH P w K mg base CX k f fd ps (spF K F) ∧ mg x = some (.ref f) ∧ PySem.W.keepIn K (.ref f) = true ∧ Binds K fd ps []
theorem fnDH_of {P : Program} {w : World} {K : PySem.W.Frag} {mg : Str → Option Value} {base : Heap} {CX : CXT} {k : Nat} {x : Str} {i : Nat} {f : Addr} {fd : FuncData} {ps : List Str} {F : List PD → PD → Prop} (D : FnP K x i f fd) (hm : mg x = some (.ref f)) (h : L2H.FnH P w K mg base CX k f fd ps (spF K F))
    (hb : Binds K fd ps []) : FnDH P w K mg base CX k x ps F := ⟨f, fd, h, hm, D.kp, hb⟩
theorem de_callH {CX : CXT} {k : Nat} {x : Str} {ps : List Str} {F : List PD → PD → Prop} {ds : List PD} (G : FnDH X.prog X.w X.K X.mg X.base CX k x ps F) (hr : L2H.RoomH k X.A) (hh : L2H.HotC X) (hx : NoX CX) (ha : DA X (e :: es) ρ O ds) (hF : F ds d)
    (hg : Gl X x := by rfl) (hdb : (x == ("__debug__" : Str)) = false := by decide) (he : starEach (e :: es) X.env = (false, eval e X.env) :: starEach es X.env := by rfl) (hpl : (backTo pos (starEach es X.env)).any (·.1) = false := by rfl) : DE X (.Call (.Name x p) (e :: es) [] pos) ρ O d := by
  obtain ⟨f, fd, ok, hm, kp, bn⟩ := G.ok
  refine .mk (L2H.pe_callH (E := fun _ _ _ _ => False) ok hr hh hg hm kp bn (fun σ pins H s e' s' _ z => (hx _ _ _ _ _ z).elim) (pwA _) hdb he hpl) fun S Q q => ha _ _ _ _ _ S fun vs B1 H1 g1 dvs => ?_
  exact ⟨B1, ds, d, g1.bh, dvs, hF, fun v B2 H2 g2 dv => q v _ _ (g1.trans g2) dv⟩
theorem fn_spFH {P : Program} {w : World} {K : PySem.W.Frag} {mg : Str → Option Value} {base : Heap} {CX : CXT} {x qual : Str} {params : Arguments} {body : List Stmt} {scope : Scope} {f : Addr} {fd : FuncData} {N ps : List Str} {k : Nat} {F : List PD → PD → Prop}
    (D : FunD K x qual params body scope [] [] f fd) (S : FnScope N ps scope) (hlen : ∀ ds d, F ds d → ds.length = ps.length)
    (hb : ∀ (ds : List PD) (d : PD) (cdv : Value) (A : Around) (outer : List Env) (s : Shared) (H : Hp) (E : XK) (q : Addr × Obj), L2H.RoomH k (A.deeper (envOfC qual scope s.heap.objs.size f cdv)) → L2H.HotC (L2H.cxH CX P w K mg base N qual scope f cdv A outer s H E q) → F ds d →
      DB (L2H.cxH CX P w K mg base N qual scope f cdv A outer s H E q) 0 (fun _ _ _ _ => False) body (rho0 N ds) none { nx := fun _ _ => d = .none, rt := fun e => e = d }) : L2H.FnH P w K mg base CX (k + 1) f fd ps (spF K F) := by
  obtain ⟨oc, od, dV, kV, doc, pm, an, cdv, ct, osl, rfl, lk, hcd, _, _⟩ := D.ex
  refine L2H.fn_ofH lk hcd S (fun vs H Q E h => ?_) fun A outer s H vs Q E q hot hr h => ?_
  · obtain ⟨B, ds, d, _, dv, e, _⟩ := h
    rw [dv.length]
    exact hlen _ _ e
  · obtain ⟨B, ds, d, sm, dv, e, k⟩ := h
    refine ⟨_, pwB body, hb ds d cdv A outer s H E q hr ⟨q, hot, List.mem_cons_self⟩ e B H B _ B H _ (sl_start sm dv) (Gr.refl sm) (Same.refl B) ?_⟩
    refine ⟨fun σ B' H' ρ O z S' g r => ?_, fun d' v B' H' z dv' g => ?_, fun _ _ _ _ _ z => z.elim, fun _ _ _ _ _ z => z.elim, fun _ _ _ _ _ z => z.elim⟩
    · have z' : d = .none := z
      subst z'
      exact k _ _ _ g .non
    · have z' : d' = d := z
      subst z'
      exact k _ _ _ g dv'
end
/-! ### what is known of the caught error -/
section
variable {Y : Cx} {i : Nat} {a dd : Addr} {n : Int} {ρ : Rho} {O : Own} {d : PD} {e b c : Expr} {es : List Expr} {pos p : Pos}
def JE (Y : Cx) (i : Nat) (a dd : Addr) (n : Int) (e : Expr) (ρ : Rho) (O : Own) (d : PD) : Prop :=
  ∀ H0 B H σ (Q : VK), Sl Y.K H0 B H σ ρ O → σ[i]? = some (some (.ref a)) → H dd = some (.xd (nmF n)) → (∀ v B' H', Gr B H B' H' → Dv Y.K B' v d → Q v H') → wE Y e σ H Q
def JT (Y : Cx) (i : Nat) (a dd : Addr) (n : Int) (e : Expr) (ρ : Rho) (O : Own) (k : Bool) : Prop :=
  ∀ H0 B H σ (Q : Bool → Hp → Prop), Sl Y.K H0 B H σ ρ O → σ[i]? = some (some (.ref a)) → H dd = some (.xd (nmF n)) → (∀ B' H', Gr B H B' H' → Q k H') → wT Y e σ H Q
def JW (Y : Cx) (i : Nat) (a dd : Addr) (n : Int) (e : Expr) (ρ : Rho) (O : Own) (k : Bool) : Prop :=
  ∀ H0 B H σ (Q : Bool → Hp → Prop), Sl Y.K H0 B H σ ρ O → σ[i]? = some (some (.ref a)) → H dd = some (.xd (nmF n)) → (∀ B' H', Gr B H B' H' → Q k H') → wW Y e σ H Q
theorem DE.j (h : DE Y e ρ O d) : JE Y i a dd n e ρ O d := fun H0 B H σ Q S _ _ q => h H0 B H σ Q S q
theorem jt_val {k : Bool} (h : JE Y i a dd n e ρ O (.bool k)) (he : ∀ whole, isTrue e Y.env whole = (do let v ← whole; standAt e.pos; holding [v] (truthy v)) := by intro _; rfl) : JT Y i a dd n e ρ O k := fun H0 B H σ Q S h1 h2 q =>
  wT_of (pt_val (pwE e) he) (h H0 B H σ _ S h1 h2 fun v B1 H1 g1 dv => ⟨k, dv.bl_, q _ _ g1⟩)
theorem jt_not {k : Bool} (h : JT Y i a dd n e ρ O k) : JT Y i a dd n (.UnaryOp .Not e pos) ρ O (!k) := fun H0 B H σ Q S h1 h2 q => wT_of (pt_not (pwT e)) (h H0 B H σ _ S h1 h2 fun B1 H1 g1 => q _ _ g1)
theorem je_not {k : Bool} (h : JE Y i a dd n e ρ O (.bool k)) : JE Y i a dd n (.UnaryOp .Not e pos) ρ O (.bool (!k)) := fun H0 B H σ Q S h1 h2 q => wE_of (pe_not (pwE e)) (h H0 B H σ _ S h1 h2 fun v B1 H1 g1 dv => ⟨k, dv.bl_, q _ _ _ g1 (.bl _)⟩)
theorem JW.jt {k : Bool} (h : JW Y i a dd n e ρ O k) : JT Y i a dd n e ρ O k := fun H0 B H σ Q S h1 h2 q => wT_of (pwW e).pt (h H0 B H σ Q S h1 h2 q)
theorem jw_or1 {k : Bool} (h : JT Y i a dd n e ρ O k) : JW Y i a dd n (.BoolOp .Or [e] pos) ρ O k := fun H0 B H σ Q S h1 h2 q => wW_of (pw_or1 (pwT e)) (h H0 B H σ Q S h1 h2 q)
theorem jw_orF {k : Bool} {rest : List Expr} (ha : JT Y i a dd n e ρ O false) (hb : JW Y i a dd n (.BoolOp .Or (b :: rest) pos) ρ O k) : JW Y i a dd n (.BoolOp .Or (e :: b :: rest) pos) ρ O k := fun H0 B H σ Q S h1 h2 q =>
  wW_of (pw_or (pwT e) (pwW _)) (ha H0 B H σ _ S h1 h2 fun B1 H1 g1 => hb H0 B1 H1 σ Q (S.gr g1) h1 (g1.h _ _ h2) fun B2 H2 g2 => q _ _ (g1.trans g2))
theorem je_one {op} (h : JE Y i a dd n e ρ O d) : JE Y i a dd n (.BoolOp op [e] pos) ρ O d := fun H0 B H σ Q S h1 h2 q => wE_of (pe_one (pwE e)) (h H0 B H σ Q S h1 h2 q)
theorem je_andT {rest : List Expr} (ha : JE Y i a dd n e ρ O (.bool true)) (hb : JE Y i a dd n (.BoolOp .And (b :: rest) pos) ρ O d) : JE Y i a dd n (.BoolOp .And (e :: b :: rest) pos) ρ O d := fun H0 B H σ Q S h1 h2 q =>
  wE_of (pe_and (pwE e) (pwE _)) (ha H0 B H σ _ S h1 h2 fun v B1 H1 g1 dv => ⟨true, dv.bl_, hb H0 B1 H1 σ Q (S.gr g1) h1 (g1.h _ _ h2) fun v2 B2 H2 g2 dv2 => q _ _ _ (g1.trans g2) dv2⟩)
end
section
variable {X : Cx} {i : Nat} {a C fI dd : Addr} {oe : Obj} {pn : List (Addr × Obj)} {n : Int} {ρ : Rho} {O : Own} {d : PD} {es : List Expr} {pos p p1 p2 : Pos} {x y : Str}
/-- isinstance(e, D) -/
theorem je_is {b : Bool} {D : Addr} (M : Blt X.mg) (T : ExcC X.K C) (hz : L2N.Zn (.ref C) (some dd) oe) (hf : ∃ vs, oe.data = .fields vs) (hD : X.mg y = some (.ref D)) (hk : PySem.W.kitOne X.K (.ref C) (.ref D) = some b) (hi : X.N[i]? = some x) (hv : Vis X.env.scope x := by first | exact .inl rfl | exact .inr (.inl rfl))
    (hdx : (x == ("__debug__" : Str)) = false := by decide) (hcx : (x == ("__classdict__" : Str)) = false := by decide) (hg : Gl X "isinstance" := by rfl) (hgy : Gl X y := by rfl) (hdy : (y == ("__debug__" : Str)) = false := by decide)
    (he : starEach [.Name x p1, .Name y p2] X.env = [(false, eval (.Name x p1) X.env), (false, eval (.Name y p2) X.env)] := by rfl) :
    JE (X.suite a ((a, oe) :: pn)) i a dd n (.Call (.Name "isinstance" p) [.Name x p1, .Name y p2] [] pos) ρ O (.bool b) := fun H0 B H σ Q S h1 h2 q =>
  wE_of (pe_callB (X := X.suite a ((a, oe) :: pn)) (call_isX T hz hf) hg M.isi boot_isi (pa_cons (pe_var (X := X.suite a ((a, oe) :: pn)) hi hv hdx hcx) (pa_cons (pe_glob (X := X.suite a ((a, oe) :: pn)) (v := .ref D) hgy hD rfl hdy) pa_nil (by rfl)) he) (by decide) (by decide) he rfl)
    ⟨.ref a, h1, .ref D, b, nmF n, rfl, h2, .inl ⟨.ref D, fun u z => z, hk⟩, q _ _ _ (Gr.refl S.bh) (.bl b)⟩
/-- isinstance(e, T), T built in -/
theorem je_isT {b : Bool} {t : String} (M : Blt X.mg) (T : ExcC X.K C) (hz : L2N.Zn (.ref C) (some dd) oe) (hf : ∃ vs, oe.data = .fields vs) (hD : X.mg y = none) (hbt : bootBuiltins y = some (.type t)) (hk : PySem.W.kitOne X.K (.ref C) (.type t) = some b) (hi : X.N[i]? = some x) (hv : Vis X.env.scope x := by first | exact .inl rfl | exact .inr (.inl rfl))
    (hdx : (x == ("__debug__" : Str)) = false := by decide) (hcx : (x == ("__classdict__" : Str)) = false := by decide) (hg : Gl X "isinstance" := by rfl) (hgy : Gl X y := by rfl) (hdy : (y == ("__debug__" : Str)) = false := by decide) (hny : y ≠ "__name__" := by decide)
    (he : starEach [.Name x p1, .Name y p2] X.env = [(false, eval (.Name x p1) X.env), (false, eval (.Name y p2) X.env)] := by rfl) :
    JE (X.suite a ((a, oe) :: pn)) i a dd n (.Call (.Name "isinstance" p) [.Name x p1, .Name y p2] [] pos) ρ O (.bool b) := fun H0 B H σ Q S h1 h2 q =>
  wE_of (pe_callB (X := X.suite a ((a, oe) :: pn)) (call_isX T hz hf) hg M.isi boot_isi (pa_cons (pe_var (X := X.suite a ((a, oe) :: pn)) hi hv hdx hcx) (pa_cons (pe_bltn (X := X.suite a ((a, oe) :: pn)) (v := .ty t) hgy hD hbt rfl hny hdy) pa_nil (by rfl)) he) (by decide) (by decide) he rfl)
    ⟨.ref a, h1, .ty t, b, nmF n, rfl, h2, .inl ⟨.type t, fun u z => z, hk⟩, q _ _ _ (Gr.refl S.bh) (.bl b)⟩
/-- the classes of a written tuple -/
inductive ClsArgs (X : Cx) : List Expr → List Addr → Prop where
  | nil : ClsArgs X [] []
  | cons {y : Str} {q : Pos} {D : Addr} {es : List Expr} {as : List Addr} (hg : Gl X y) (hm : X.mg y = some (.ref D)) (hd : (y == ("__debug__" : Str)) = false) (hs : starEach (.Name y q :: es) X.env = (false, eval (.Name y q) X.env) :: starEach es X.env) (t : ClsArgs X es as) : ClsArgs X (.Name y q :: es) (D :: as)
theorem cls_args : ∀ {es : List Expr} {as : List Addr}, ClsArgs X es as → PA X es (fun σ H Q => Q (as.map V.ref) H)
  | _, _, .nil => pa_nil
  | _, _, .cons hg hm hd hs t => pa_cons (pe_glob (v := .ref _) hg hm rfl hd) (cls_args t) hs
theorem je_isTup {b : Bool} {as : List Addr} {k : Nat} {p3 : Pos} (M : Blt X.mg) (T : ExcC X.K C) (hz : L2N.Zn (.ref C) (some dd) oe) (hf : ∃ vs, oe.data = .fields vs) (hA : ClsArgs (X.suite a ((a, oe) :: pn)) es as) (hl : as.length ≤ 1000) (hk : PySem.W.kitAny X.K (.ref C) (as.map Value.ref) = some b) (hi : X.N[i]? = some x) (hv : Vis X.env.scope x := by first | exact .inl rfl | exact .inr (.inl rfl))
    (hdx : (x == ("__debug__" : Str)) = false := by decide) (hcx : (x == ("__classdict__" : Str)) = false := by decide) (hg : Gl X "isinstance" := by rfl)
    (he : starEach [.Name x p1, .Tuple es k p3] X.env = [(false, eval (.Name x p1) X.env), (false, eval (.Tuple es k p3) X.env)] := by rfl) :
    JE (X.suite a ((a, oe) :: pn)) i a dd n (.Call (.Name "isinstance" p) [.Name x p1, .Tuple es k p3] [] pos) ρ O (.bool b) := fun H0 B H σ Q S h1 h2 q =>
  wE_of (pe_callB (X := X.suite a ((a, oe) :: pn)) (call_isX T hz hf) hg M.isi boot_isi (pa_cons (pe_var (X := X.suite a ((a, oe) :: pn)) hi hv hdx hcx) (pa_cons (pe_tup (X := X.suite a ((a, oe) :: pn)) (cls_args hA)) pa_nil (by rfl)) he) (by decide) (by decide) he rfl)
    ⟨.ref a, h1, by rw [List.length_map]; exact sz_ok (by omega), fun tp ht => ⟨.ref tp, b, nmF n, rfl, by rw [upd_ne (ne_of_none h2 ht)]; exact h2, .inr ⟨tp, as, rfl, SqT.of upd_same, hk⟩, q _ _ _ (Gr.new (o := .tup (as.map V.ref)) S.bh ht) (.bl b)⟩⟩
/-- e.number -/
theorem je_num (T : BBk X.K C fI) (hz : L2N.Zn (.ref C) (some dd) oe) (hf : ∃ vs, oe.data = .fields vs) (hi : X.N[i]? = some x) (hv : Vis X.env.scope x := by first | exact .inl rfl | exact .inr (.inl rfl))
    (hdx : (x == ("__debug__" : Str)) = false := by decide) (hcx : (x == ("__classdict__" : Str)) = false := by decide) (hb : attributeBase (.Name x p1) "number" X.env (eval (.Name x p1) X.env) = eval (.Name x p1) X.env := by rfl) :
    JE (X.suite a ((a, oe) :: pn)) i a dd n (.Attribute (.Name x p1) "number" pos) ρ O (.int n) := fun H0 B H σ Q S h1 h2 q =>
  wE_of (pe_xf T.xf T.hno hz.zc hf (pe_var (X := X.suite a ((a, oe) :: pn)) hi hv hdx hcx) hb) ⟨.ref a, h1, rfl, rfl, dd, nmF n, .int n, rfl, h2, rfl, q _ _ _ (Gr.refl S.bh) (.int n)⟩
theorem hot_suite (hz : L2N.Zn (.ref C) (some dd) oe) (hf : ∃ vs, oe.data = .fields vs) : L2H.HotC (X.suite a ((a, oe) :: pn)) := by
  obtain ⟨vs, hv⟩ := hf
  exact ⟨(a, oe), ⟨rfl, vs, hv, hz.2.2 vs hv⟩, List.mem_cons_self⟩
/-- f(e1, e2) there -/
theorem je_call2 {e1 e2 : Expr} {d1 d2 : PD} {f : Str} {CX : CXT} {k : Nat} {ps : List Str} {F : List PD → PD → Prop} (G : FnDH X.prog X.w X.K X.mg X.base CX k f ps F) (hr : L2H.RoomH k X.A) (hx : NoX CX) (hz : L2N.Zn (.ref C) (some dd) oe) (hf : ∃ vs, oe.data = .fields vs)
    (h1 : JE (X.suite a ((a, oe) :: pn)) i a dd n e1 ρ O d1) (h2 : DE (X.suite a ((a, oe) :: pn)) e2 ρ O d2) (hF : F [d1, d2] d) (hg : Gl X f := by rfl) (hdb : (f == ("__debug__" : Str)) = false := by decide) (he : starEach [e1, e2] X.env = (false, eval e1 X.env) :: starEach [e2] X.env := by rfl)
    (he2 : starEach [e2] X.env = [(false, eval e2 X.env)] := by rfl) (hpl : (backTo pos (starEach [e2] X.env)).any (·.1) = false := by rfl) :
    JE (X.suite a ((a, oe) :: pn)) i a dd n (.Call (.Name f p) [e1, e2] [] pos) ρ O d := by
  obtain ⟨fa, fd, ok, hm, kp, bn⟩ := G.ok
  refine fun H0 B H σ Q S z1 z2 q => wE_of (L2H.pe_callH (X := X.suite a ((a, oe) :: pn)) (E := fun _ _ _ _ => False) ok ⟨hr.dp, hr.un⟩ (hot_suite hz hf) hg hm kp bn (fun σ pins H s e' s' _ z => (hx _ _ _ _ _ z).elim) (pa_cons (pwE e1) (pwA [e2]) he) hdb he hpl) ?_
  refine h1 H0 B H σ _ S z1 z2 fun v B1 H1 g1 dv => da_cons h2 da_nil he2 _ _ _ _ _ (S.gr g1) fun vs B2 H2 g2 dvs => ?_
  exact ⟨B2, [d1, d2], d, g2.bh, .cons (dv.mono g2.b) dvs, hF, fun v B3 H3 g3 dv3 => q v _ _ (g1.trans (g2.trans g3)) dv3⟩
end
end K5
end PartEX4
section PartEX5
set_option maxRecDepth 100000
set_option maxHeartbeats 4000000
/-! try: f(..) except BadBook as e: two ifs, a return. -/
namespace K5
open PySem PySem.Spec PyProof.Rows L2
section
variable {Y : Cx} {i : Nat} {a dd : Addr} {n : Int} {ρ : Rho} {O : Own} {d : PD}
theorem suite_ok {t1 t2 e3 r1 r2 : Expr} {p1 p2 p3 q1 q2 : Pos} {H0 B H : Hp} {σ : L2.St} {D : Ends} (h1 : JT Y i a dd n t1 ρ O false) (h2 : JT Y i a dd n t2 ρ O false) (h3 : JE Y i a dd n e3 ρ O d) (S : Sl Y.K H0 B H σ ρ O) (hs : σ[i]? = some (some (.ref a))) (hd : H dd = some (.xd (nmF n)))
    (q : ∀ v B' H', Gr B H B' H' → Dv Y.K B' v d → D.rt v H') : wB Y [.If t1 [.Return (some r1) q1] [] p1, .If t2 [.Return (some r2) q2] [] p2, .Return (some e3) p3] D σ H := by
  refine wB_of (pss_cons (ps_if (pwT t1) (pwB _) pss_nil) (pss_cons (ps_if (pwT t2) (pwB _) pss_nil) (pss_one (ps_ret (pwE e3))))) ?_
  refine h1 H0 B H σ _ S hs hd fun B1 H1 g1 => h2 H0 B1 H1 σ _ (S.gr g1) hs (g1.h _ _ hd) fun B2 H2 g2 => ?_
  exact h3 H0 B2 H2 σ _ ((S.gr g1).gr g2) hs (g2.h _ _ (g1.h _ _ hd)) fun v B3 H3 g3 dv => q v B3 H3 (g1.trans (g2.trans g3)) dv
end
section
variable {X : Cx} {C C0 : Addr} {W : WX} {ρ : Rho} {O : Own} {P : DP} {k : Nat} {pos p : Pos}
theorem takesN {X : Cx} : L2N.Takes X (fun _ _ _ _ => False) := fun _ _ ⟨_, _, _, _, _, _, _, _, _, _, _, _, _, _, _, _, w⟩ => w.elim
/-- try: f(x, y, z) / except BadBook as e: .., where f lets such an error out -/
theorem ds_try (i i1 i2 i3 : Nat) {n : Int} {d d1 d2 d3 : PD} {fa : Addr} {fd : FuncData} {F : List PD → PD → Prop} {G : List PD → Int → Prop} {ps : List Str} {f xb xe x1 x2 x3 : Str} {t1 t2 e3 r1 r2 : Expr} {p1 p2 p3 q1 q2 pf pa1 pa2 pa3 pc px np ph : Pos}
    (ok : FnOk X.prog X.w X.K X.mg X.base (L2N.CX X.prog X.w) k fa fd ps (spX X.K C F G)) (hm : X.mg f = some (.ref fa)) (kp : PySem.W.keepIn X.K (.ref fa) = true) (bn : Binds X.K fd ps []) (hr : Room k X.A) (hN : X.N.Nodup) (hC : X.mg xb = some (.ref C)) (hexm : PySem.W.exmOne X.K (.ref C) (.ref C) = some true)
    (hst : X.stack = X.env :: X.outer) (hfr : X.env.frame = some X.env.locals) (hG : G [d1, d2, d3] n) (hl : i < ρ.length)
    (h1 : ρ[i1]? = some (some d1)) (h2 : ρ[i2]? = some (some d2)) (h3 : ρ[i3]? = some (some d3))
    (hsu : ∀ a dd oe pn, L2N.Zn (.ref C) (some dd) oe → (∃ vs, oe.data = .fields vs) → JT (X.suite a ((a, oe) :: pn)) i a dd n t1 (ρ.set i none) (ownBut i O) false ∧ JT (X.suite a ((a, oe) :: pn)) i a dd n t2 (ρ.set i none) (ownBut i O) false ∧ JE (X.suite a ((a, oe) :: pn)) i a dd n e3 (ρ.set i none) (ownBut i O) d) (h : P.rt d)
    (hi : X.N[i]? = some xe := by rfl) (hln : X.env.kindOf xe = some .local := by rfl) (hgb : Gl X xb := by rfl) (hdb : (xb == ("__debug__" : Str)) = false := by decide) (hgf : Gl X f := by rfl) (hdf : (f == ("__debug__" : Str)) = false := by decide)
    (hn1 : X.N[i1]? = some x1 := by rfl) (hn2 : X.N[i2]? = some x2 := by rfl) (hn3 : X.N[i3]? = some x3 := by rfl) (hv1 : Vis X.env.scope x1 := by first | exact .inl rfl | exact .inr (.inl rfl)) (hv2 : Vis X.env.scope x2 := by first | exact .inl rfl | exact .inr (.inl rfl)) (hv3 : Vis X.env.scope x3 := by first | exact .inl rfl | exact .inr (.inl rfl))
    (hd1 : (x1 == ("__debug__" : Str)) = false := by decide) (hd2 : (x2 == ("__debug__" : Str)) = false := by decide) (hd3 : (x3 == ("__debug__" : Str)) = false := by decide) (hc1 : (x1 == ("__classdict__" : Str)) = false := by decide) (hc2 : (x2 == ("__classdict__" : Str)) = false := by decide) (hc3 : (x3 == ("__classdict__" : Str)) = false := by decide)
    (he : starEach [.Name x1 pa1, .Name x2 pa2, .Name x3 pa3] X.env = (false, eval (.Name x1 pa1) X.env) :: starEach [.Name x2 pa2, .Name x3 pa3] X.env := by rfl) (he2 : starEach [.Name x2 pa2, .Name x3 pa3] X.env = (false, eval (.Name x2 pa2) X.env) :: starEach [.Name x3 pa3] X.env := by rfl)
    (he3 : starEach [.Name x3 pa3] X.env = (false, eval (.Name x3 pa3) X.env) :: starEach [] X.env := by rfl) (hpl : (backTo pc (starEach [.Name x2 pa2, .Name x3 pa3] X.env)).any (·.1) = false := by rfl)
    (hs : swapsWith (.Call (.Name f pf) [.Name x1 pa1, .Name x2 pa2, .Name x3 pa3] [] pc) none px.line X.env = pure false := by rfl) :
    DS X C0 W (.Try [.Expr (.Call (.Name f pf) [.Name x1 pa1, .Name x2 pa2, .Name x3 pa3] [] pc) px] [.ExceptHandler (some (.Name xb np)) (some xe) [.If t1 [.Return (some r1) q1] [] p1, .If t2 [.Return (some r2) q2] [] p2, .Return (some e3) p3] ph] [] [] pos) ρ O P := by
  refine .mk (L2N.ps_try_as (i := i) (Wout := fun _ _ _ _ => False) (c := .ref C) (tb := fun W' D σ H => tCallS (spX X.K C F G) (WE W') (tCons (tVar i1) (tCons (tVar i2) (tCons (tVar i3) tNil))) σ H fun _ H1 => D.nx σ H1)
    (ts := fun a cls d' D σ H => ∀ oe pn, L2N.Zn cls d' oe → (∃ vs, oe.data = .fields vs) → wB (X.suite a ((a, oe) :: pn)) [.If t1 [.Return (some r1) q1] [] p1, .If t2 [.Return (some r2) q2] [] p2, .Return (some e3) p3] D σ H)
    hst hfr hN hi hln ⟨hgb, hdb, .inl hC⟩ takesN (fun W' pn xe' tk pw => ?_) (fun a oe cls d' pn hz hf => ⟨fun pins s σ H D I q => (q oe pn hz hf).run pins s I⟩)) fun {B0 H0 B1 σ B H D} S g r po => ?_
  · exact pss_one (ps_expr (pe_callS (X := X.tr pn xe') ok hr hgf hm kp bn (fun σ => L2N.passAt tk σ) (pa_cons (pe_var (X := X.tr pn xe') hn1 hv1 hd1 hc1) (pa_cons (pe_var (X := X.tr pn xe') hn2 hv2 hd2 hc2) (pa_cons (pe_var (X := X.tr pn xe') hn3 hv3 hd3 hc3) pa_nil he3) he2) he) hdf he hpl) hs)
  · obtain ⟨v1, z1, y1⟩ := S.dat i1 d1 h1
    obtain ⟨v2, z2, y2⟩ := S.dat i2 d2 h2
    obtain ⟨v3, z3, y3⟩ := S.dat i3 d3 h3
    refine ⟨v1, z1, v2, z2, v3, z3, B, [d1, d2, d3], S.bh, .cons y1 (.cons y2 (.cons y3 .nil)), .inr ⟨n, hG, fun dd B2 H2 g2 edd => ⟨true, hexm, fun _ a ha oe pn hz hf => ?_, fun z => nomatch z⟩⟩⟩
    obtain ⟨j1, j2, j3⟩ := hsu a dd oe pn hz hf
    have S2 : Sl X.K H0 B2 H2 (σ.set i (some (.ref a))) (ρ.set i none) (ownBut i O) := (S.gr g2).put _
    refine suite_ok (Y := X.suite a ((a, oe) :: pn)) j1 j2 j3 S2 ?_ edd fun v B3 H3 g3 dv => po.rt _ _ _ _ h dv (g.trans (g2.trans g3))
    rw [List.getElem?_set, if_pos rfl, if_pos (by rw [S.len]; exact hl)]
end
end K5
end PartEX5
section PartF13
set_option maxRecDepth 100000
set_option maxHeartbeats 4000000
/-! The law's own defs states, exchanged, changed. -/
namespace K5
open PySem PySem.Spec PyProof.Rows L2
section
variable {P : Program} {w : World} {K : PySem.W.Frag} {mg : Str → Option Value} {base : Heap} {CX : CXT} {f : Addr} {fd : FuncData}
theorem atS {names : List Str} {k : Nat} (h : k < names.length) : L2.atI (names.map PyData.str) (k : Int) = some (.str (names.getD k "")) := by
  rw [atI_nat (a := PyData.str "") (by rw [List.length_map]; exact h), getD_map]
theorem atN {xs : List Int} {k : Nat} (h : k < xs.length) : L2.atI (xs.map PyData.int) (k : Int) = some (.int (xs.getD k 0)) := by
  rw [atI_nat (a := PyData.int 0) (by rw [List.length_map]; exact h), getD_map]
theorem atI_mod {xs : List PD} {i m : Int} (h : (xs.length : Int) = m) (hp : 0 < m) : L2.atI xs (i % m) = some (xs.getD (i % m).toNat .none) := by
  have h0 := Int.emod_nonneg i (Int.ne_of_gt hp)
  have h1 := Int.emod_lt_of_pos i hp
  obtain ⟨n, hn⟩ := Int.eq_ofNat_of_zero_le h0
  rw [hn] at h1 ⊢
  rw [Int.toNat_natCast, atI_nat (a := PyData.none) (by omega)]
theorem pair_shaped {x : Str} {n : Int} (h : PyData.strOk x = true) : SeqAt.shaped (.tuple [.str x, .int n]) = true := by
  simp [SeqAt.shaped, PyData.canLay0, PyData.canLayAll0, PyData.depth, PyData.depthAll, h]
def linesL (v : PD) : List PD := [.tuple [], .tuple [v], .tuple [v, .int 4, .none], .tuple (List.replicate 20 [PyData.int 7]).flatten]
def bothL (ns : List Str) : List PD := sortP [.tuple [.str (ns.getD 17 ""), .int 1], .tuple [.str (ns.getD 18 ""), .int 2]]
def storesL (ns : List Str) : List PD := [.tuple [.int 3, .int 3, .tuple [], .tuple []], .tuple [.int 3, .int 1, .tuple [.tuple [.str (ns.getD 17 ""), .int 2]], .tuple []], .tuple [.int 3, .int 0, .tuple (bothL ns), .tuple [.tuple [.str (ns.getD 19 ""), .int 1]]],
  .tuple [.int 5, .int 1, .tuple [.tuple [.str (ns.getD 18 ""), .int 4]], .tuple [.tuple [.str (ns.getD 17 ""), .int 2], .tuple [.str (ns.getD 19 ""), .int 3]]]]
def gatesL (ns : List Str) : List PD := [.tuple [.int 0, .tuple []], .tuple [.int 1, .tuple []], .tuple [.int 0, .tuple [.str (ns.getD 17 "")]], .tuple [.int 0, .tuple [.str (ns.getD 18 ""), .str (ns.getD 17 "")]]]
def wheelsL : List PD := [.tuple [.int 1, .int 0], .tuple [.int 2, .int 1], .tuple [.int 3, .int 0], .tuple [.int 999999999, .int 999999998]]
def standsL (ns : List Str) : List PD := [.tuple [.str "unborn"], .tuple [.str "asleep"], .tuple [.str "due", .int 5, .int 2], .tuple [.str "running"], .tuple [.str "waits", .str (ns.getD 3 "")], .tuple [.str "ended"], .tuple [.str "fallen", .str "big"]]
def statesF (ns : List Str) (ds : List Int) (cell : Int) : List PD := [valueF ns (ds.getD 2 0) cell, valueF ns (ds.getD 8 0) cell, (linesL (valueF ns (ds.getD 2 0) cell)).getD (ds.getD 3 0 % 4).toNat .none, (storesL ns).getD (ds.getD 4 0 % 4).toNat .none,
  (gatesL ns).getD (ds.getD 5 0 % 4).toNat .none, wheelsL.getD (ds.getD 6 0 % 4).toNat .none, (standsL ns).getD (ds.getD 7 0 % 7).toNat .none]
def statesR (ds : List PD) (d : PD) : Prop := ∃ names draws cell, ds = [.list (names.map PyData.str), .list (draws.map PyData.int), .int cell] ∧ names.length = 30 ∧ draws.length = 10 ∧ (∀ x ∈ names, PyData.strOk x = true) ∧ d = .list (statesF names draws cell)

theorem getD_mem {α : Type} {xs : List α} {k : Nat} {a : α} (h : k < xs.length) : xs.getD k a ∈ xs := by
  rw [List.getD_eq_getElem?_getD, List.getElem?_eq_getElem h]
  exact List.getElem_mem h

def N_lstates : List Str := ["_law_names_here", "_law_draws_here", "_law_cell_here", "_law_value_here", "_law_line", "_law_both", "_law_store", "_law_gate", "_law_wheel", "_law_stand"]
theorem sc_lstates : FnScope N_lstates ["_law_names_here", "_law_draws_here", "_law_cell_here"] (fScope (topS 62)) := ⟨rfl, rfl, rfl, by decide +kernel, rfl, by decide +kernel, by decide +kernel⟩
theorem nd_lstates : N_lstates.Nodup := by decide +kernel
theorem ok_lstates {k : Nat} (M : Blt mg) (hV : FnD P w K mg base CX k "_law_value" ["_law_names_here", "_law_draw", "_law_cell_here"] valueR) (hx : NoX CX) (D : FnP K "_law_states" 62 f fd) : FnOk P w K mg base CX (k + 1) f fd ["_law_names_here", "_law_draws_here", "_law_cell_here"] (spF K statesR) := by
  refine fn_spF (N := N_lstates) D sc_lstates (fun ds d h => ?_) fun ds d cdv A outer s H E hr h => ?_
  · obtain ⟨names, draws, cell, rfl, hn, hd, hok, he⟩ := h
    rfl
  · have hu := hr.units
    have nd := nd_lstates
    obtain ⟨names, draws, cell, rfl, hn, hd, hok, he⟩ := h
    refine (db_cons (ds_set 3 (de_call hV hr hx (da_cons (de_var 0) (da_cons (de_ixL (de_var 1) de_int (atN (k := 2) (by omega))) (da_cons (de_var 2) da_nil))) (by exact ⟨_, _, _, rfl, hn, rfl⟩)) nd (db_cons (ds_set 4 (de_ixL (de_lst (da_cons (de_tup da_nil) (da_cons (de_tup (da_cons (de_var 3) da_nil)) (da_cons (de_tup (da_cons (de_var 3) (da_cons de_int (da_cons de_non da_nil)))) (da_cons (de_rep (de_tup (da_cons de_int da_nil)) de_int (by first | exact List.cons_ne_nil _ _ | decide) (by first | exact List.cons_ne_nil _ _ | decide) (by first | exact List.cons_ne_nil _ _ | decide) (by first | exact List.cons_ne_nil _ _ | decide)) da_nil))))) (de_mod (de_intI M (de_ixL (de_var 1) de_int (atN (k := 3) (by omega)))) de_int (by decide)) (atI_mod (by rfl) (by decide))) nd (db_cons (ds_set 5 (de_tupleL M (de_sortedT M hr (de_lst (da_cons (de_tup (da_cons (de_ixL (de_var 0) de_int (atS (k := 17) (by omega))) (da_cons de_int da_nil))) (da_cons (de_tup (da_cons (de_ixL (de_var 0) de_int (atS (k := 18) (by omega))) (da_cons de_int da_nil))) da_nil))) (Nat.le_of_ble_eq_true rfl) (fun d hd => by
          rcases List.mem_cons.mp hd with rfl | hd
          · exact pair_shaped (hok _ (getD_mem (by omega)))
          · rcases List.mem_cons.mp hd with rfl | hd
            · exact pair_shaped (hok _ (getD_mem (by omega)))
            · cases hd) (fun d hd => by
          rcases List.mem_cons.mp hd with rfl | hd
          · exact ⟨_, _, rfl⟩
          · rcases List.mem_cons.mp hd with rfl | hd
            · exact ⟨_, _, rfl⟩
            · cases hd) (fun x hx y hy => by
          simp only [List.mem_cons, List.not_mem_nil, or_false] at hx hy
          rcases hx with rfl | rfl <;> rcases hy with rfl | rfl <;> simp [PySem.W.alike, PySem.W.alikeAll]))) nd (db_cons (ds_set 6 (de_ixL (de_lst (da_cons (de_tup (da_cons de_int (da_cons de_int (da_cons (de_tup da_nil) (da_cons (de_tup da_nil) da_nil))))) (da_cons (de_tup (da_cons de_int (da_cons de_int (da_cons (de_tup (da_cons (de_tup (da_cons (de_ixL (de_var 0) de_int (atS (k := 17) (by omega))) (da_cons de_int da_nil))) da_nil)) (da_cons (de_tup da_nil) da_nil))))) (da_cons (de_tup (da_cons de_int (da_cons de_int (da_cons (de_var 5) (da_cons (de_tup (da_cons (de_tup (da_cons (de_ixL (de_var 0) de_int (atS (k := 19) (by omega))) (da_cons de_int da_nil))) da_nil)) da_nil))))) (da_cons (de_tup (da_cons de_int (da_cons de_int (da_cons (de_tup (da_cons (de_tup (da_cons (de_ixL (de_var 0) de_int (atS (k := 18) (by omega))) (da_cons de_int da_nil))) da_nil)) (da_cons (de_tup (da_cons (de_tup (da_cons (de_ixL (de_var 0) de_int (atS (k := 17) (by omega))) (da_cons de_int da_nil))) (da_cons (de_tup (da_cons (de_ixL (de_var 0) de_int (atS (k := 19) (by omega))) (da_cons de_int da_nil))) da_nil))) da_nil))))) da_nil))))) (de_mod (de_intI M (de_ixL (de_var 1) de_int (atN (k := 4) (by omega)))) de_int (by decide)) (atI_mod (by rfl) (by decide))) nd (db_cons (ds_set 7 (de_ixL (de_lst (da_cons (de_tup (da_cons de_int (da_cons (de_tup da_nil) da_nil))) (da_cons (de_tup (da_cons de_int (da_cons (de_tup da_nil) da_nil))) (da_cons (de_tup (da_cons de_int (da_cons (de_tup (da_cons (de_ixL (de_var 0) de_int (atS (k := 17) (by omega))) da_nil)) da_nil))) (da_cons (de_tup (da_cons de_int (da_cons (de_tup (da_cons (de_ixL (de_var 0) de_int (atS (k := 18) (by omega))) (da_cons (de_ixL (de_var 0) de_int (atS (k := 17) (by omega))) da_nil))) da_nil))) da_nil))))) (de_mod (de_intI M (de_ixL (de_var 1) de_int (atN (k := 5) (by omega)))) de_int (by decide)) (atI_mod (by rfl) (by decide))) nd (db_cons (ds_set 8 (de_ixL (de_lst (da_cons (de_tup (da_cons de_int (da_cons de_int da_nil))) (da_cons (de_tup (da_cons de_int (da_cons de_int da_nil))) (da_cons (de_tup (da_cons de_int (da_cons de_int da_nil))) (da_cons (de_tup (da_cons de_int (da_cons de_int da_nil))) da_nil))))) (de_mod (de_intI M (de_ixL (de_var 1) de_int (atN (k := 6) (by omega)))) de_int (by decide)) (atI_mod (by rfl) (by decide))) nd (db_cons (ds_set 9 (de_ixL (de_lst (da_cons (de_tup (da_cons de_str da_nil)) (da_cons (de_tup (da_cons de_str da_nil)) (da_cons (de_tup (da_cons de_str (da_cons de_int (da_cons de_int da_nil)))) (da_cons (de_tup (da_cons de_str da_nil)) (da_cons (de_tup (da_cons de_str (da_cons (de_ixL (de_var 0) de_int (atS (k := 3) (by omega))) da_nil))) (da_cons (de_tup (da_cons de_str da_nil)) (da_cons (de_tup (da_cons de_str (da_cons de_str da_nil))) da_nil)))))))) (de_mod (de_intI M (de_ixL (de_var 1) de_int (atN (k := 7) (by omega)))) de_int (by decide)) (atI_mod (by rfl) (by decide))) nd (db_one (ds_ret (de_lst (da_cons (de_var 3) (da_cons (de_call hV hr hx (da_cons (de_var 0) (da_cons (de_ixL (de_var 1) de_int (atN (k := 8) (by omega))) (da_cons (de_var 2) da_nil))) (by exact ⟨_, _, _, rfl, hn, rfl⟩)) (da_cons (de_var 4) (da_cons (de_var 6) (da_cons (de_var 7) (da_cons (de_var 8) (da_cons (de_var 9) da_nil)))))))) ?_))))))))))))))))
    rw [he]
    rfl
end
end K5
end PartF13
section PartF14
set_option maxRecDepth 100000
set_option maxHeartbeats 4000000
/-! The law's own defs exchanged, changed. -/
namespace K5
open PySem PySem.Spec PyProof.Rows L2
section
variable {P : Program} {w : World} {K : PySem.W.Frag} {mg : Str → Option Value} {base : Heap} {CX : CXT} {f : Addr} {fd : FuncData}
def exC (draw : Int) (k : Nat) (a b : Row) : Bool := PyData.eqv (.int a.num) (.int b.num) && (PyData.eqv (.str a.mode) (.str "look") && (PyData.eqv (.str b.mode) (.str "look") && ((!PyData.eqv (.str a.life) (.str b.life)) && decide (0 < (draw + (1 + (k : Int))) % 3))))
/-- the k-th and the next exchanged, if they may be -/
def exS (draw : Int) (rs : List Row) (k : Nat) : List Row := if exC draw k (rs.getD k default) (rs.getD (k + 1) default) = true then (rs.set k (rs.getD (k + 1) default)).set (k + 1) (rs.getD k default) else rs
def exF (draw : Int) (rs : List Row) : List Row := (List.range (rs.length - 1)).foldl (exS draw) rs
def exchR (ds : List PD) (d : PD) : Prop := ∃ rs draw, ds = [rowsD rs, .int draw] ∧ rs.length ≤ 900 ∧ d = rowsD (exF draw rs)
theorem exS_len (draw : Int) (rs : List Row) (k : Nat) : (exS draw rs k).length = rs.length := by
  unfold exS
  split
  · rw [List.length_set, List.length_set]
  · rfl
theorem ex_len (draw : Int) (rs : List Row) : ∀ i, ((List.range i).foldl (exS draw) rs).length = rs.length
  | 0 => rfl
  | i + 1 => by rw [List.range_succ, List.foldl_append]; show (exS draw _ i).length = _; rw [exS_len, ex_len draw rs i]
theorem atRow {rs : List Row} {k : Nat} {j : Int} (e : j = (k : Int)) (h : k < rs.length) : L2.atI (rs.map rowD) j = some (rowD (rs.getD k default)) := by
  subst e
  exact rowsAt h
theorem ixRow {rs : List Row} {k : Nat} {j : Int} (e : j = (k : Int)) (h : k < rs.length) : L2.ixN (rs.map rowD).length j = some k := by
  subst e
  unfold L2.ixN
  rw [List.length_map, if_pos (by omega), if_pos (by omega), Int.toNat_natCast]
theorem set_rows (rs : List Row) (k : Nat) (r : Row) : (rs.map rowD).set k (rowD r) = (rs.set k r).map rowD := List.map_set.symm

def N_lexch : List Str := ["_law_rows", "_law_draw", "_law_other", "_law_k", "_law_one", "_law_two"]
theorem sc_lexch : FnScope N_lexch ["_law_rows", "_law_draw"] (fScope (topS 63)) := ⟨rfl, rfl, rfl, by decide +kernel, rfl, by decide +kernel, by decide +kernel⟩
theorem nd_lexch : N_lexch.Nodup := by decide +kernel
theorem ok_lexch {k : Nat} (M : Blt mg) (D : FnP K "_law_exchanged" 63 f fd) : FnOk P w K mg base CX (k + 1) f fd ["_law_rows", "_law_draw"] (spF K exchR) := by
  refine fn_spF (N := N_lexch) D sc_lexch (fun ds d h => ?_) fun ds d cdv A outer s H E hr h => ?_
  · obtain ⟨rs, draw, rfl, hl, hd⟩ := h
    rfl
  · have hu := hr.units
    have nd := nd_lexch
    obtain ⟨rs, draw, rfl, hl, hd⟩ := h
    refine (db_cons (ds_ownList 2 rfl nd (Nat.le_of_ble_eq_true rfl) M (de_var 0) (db_cons ?_)))
    refine ds_for (items := rngD 1 (((rs.length : Nat) : Int) - 1).toNat) (fun i ρ O => ∃ a b c, ρ = [some (rowsD rs), some (.int draw), none, a, b, c] ∧ O = some (2, ((List.range i).foldl (exS draw) rs).map rowD)) rfl (passes_of rfl) (it_rng2 M de_int (DE.cast (de_lenOwn 2 M (ds := rs.map rowD) rfl) (by rw [List.length_map])) (by omega) (by omega) (by omega) (by omega)) (td_name 3 nd) ⟨none, none, none, rfl, rfl⟩ (fun i d ρ' O' hi hI => ?_) fun ρ' O' hI => ?_
    · obtain ⟨a, b, c, rfl, rfl⟩ := hI
      have hlt : i < (((rs.length : Nat) : Int) - 1).toNat := by
        rcases Nat.lt_or_ge i (((rs.length : Nat) : Int) - 1).toNat with z | z
        · exact z
        · rw [List.getElem?_eq_none (by rw [rngD_len]; omega)] at hi
          cases hi
      rw [rngD_get hlt] at hi
      obtain rfl := Option.some.inj hi
      obtain ⟨rsI, eI⟩ : ∃ rsI, (List.range i).foldl (exS draw) rs = rsI := ⟨_, rfl⟩
      have lI : rsI.length = rs.length := by rw [← eI]; exact ex_len draw rs i
      have eS : (List.range (i + 1)).foldl (exS draw) rs = exS draw rsI i := by rw [List.range_succ, List.foldl_append, eI]; rfl
      rw [eI, eS]
      refine f_name (db_cons (ds_set 4 (de_ixOwn 2 (ds := rsI.map rowD) (d := rowD (rsI.getD i default)) rfl (de_sub (de_var 3) de_int) (atRow (k := i) (by omega) (by omega))) nd (db_cons (ds_set 5 (de_ixOwn 2 (ds := rsI.map rowD) (d := rowD (rsI.getD (i + 1) default)) rfl (de_var 3) (atRow (k := i + 1) (by omega) (by omega))) nd (db_one (ds_if (DW.dt (dw_and (dt_cmp (op_eqA hu) (de_ixT (de_var 4) de_int (by rfl)) (de_ixT (de_var 5) de_int (by rfl)) (od_eq (by first | rfl | assumption | omega | decide))) fun kb => (dw_and (dt_cmp (op_eqA hu) (de_ixT (de_var 4) de_int (by rfl)) de_str (od_eq (by first | rfl | assumption | omega | decide))) fun kb => (dw_and (dt_cmp (op_eqA hu) (de_ixT (de_var 5) de_int (by rfl)) de_str (od_eq (by first | rfl | assumption | omega | decide))) fun kb => (dw_and (dt_cmp (op_neA hu) (de_ixT (de_var 4) de_int (by rfl)) (de_ixT (de_var 5) de_int (by rfl)) (od_ne (by first | rfl | assumption | omega | decide))) fun kb => (dw_and1 (dt_cmp op_gt (de_mod (de_intI M (de_add (de_var 1) (de_var 3))) de_int (by decide)) de_int od_gt))))))) (fun kC => ?_) (fun kC => db_nil ?_)))))))
      · refine (db_cons (ds_setI 2 (ds := rsI.map rowD) (m := i) (d := rowD (rsI.getD (i + 1) default)) rfl (de_var 5) (de_sub (de_var 3) de_int) (ixRow (by omega) (by omega)) ?_))
        rw [set_rows]
        refine (db_one (ds_setI 2 (ds := (rsI.set i (rsI.getD (i + 1) default)).map rowD) (m := i + 1) (d := rowD (rsI.getD i default)) rfl (de_var 4) (de_var 3) (ixRow (by omega) (by rw [List.length_set]; omega)) ?_))
        rw [set_rows]
        refine ⟨_, _, _, rfl, ?_⟩
        have kC2 : exC draw i (rsI.getD i default) (rsI.getD (i + 1) default) = true := kC
        rw [exS, if_pos kC2]
      · refine ⟨_, _, _, rfl, ?_⟩
        have kC2 : exC draw i (rsI.getD i default) (rsI.getD (i + 1) default) = false := kC
        rw [exS, if_neg (by rw [kC2]; exact Bool.false_ne_true)]
        rfl
    · obtain ⟨a, b, c, rfl, rfl⟩ := hI
      refine (db_one (ds_retOwn 2 rfl ?_))
      rw [rngD_len, hd, show (((rs.length : Nat) : Int) - 1).toNat = rs.length - 1 by omega]
      rfl
end
end K5
end PartF14
section PartF15
set_option maxRecDepth 100000
set_option maxHeartbeats 4000000
/-! The law's own def changed. -/
namespace K5
open PySem PySem.Spec PyProof.Rows L2
section
variable {P : Program} {w : World} {K : PySem.W.Frag} {mg : Str → Option Value} {base : Heap} {CX : CXT} {f : Addr} {fd : FuncData}


def turB (draw : Int) : Bool := PyData.eqv (.int (draw / 4 % 2)) (.int 1)
def chA (r : Row) (draw : Int) : PD := match r.ans with
  | .tuple ds => .tuple (if (turB draw && decide (0 < (ds.length : Int))) = true then cutD ds (some 1) none ++ [.str "zz"] else ds ++ [.str r.life])
  | .none => .int 1
  | .str x => if turB draw = true then .str (x ++ "x") else .none
  | .int i => if 0 < i then .int (i - 1) else .int (i + 1)
  | a => a
def bornL : List Str := ["born", "tell"]
def chF (r : Row) (draw : Int) : Row :=
  if draw % 4 = 0 then { r with num := r.num + (if (turB draw && decide (0 < r.num)) = true then -1 else 1) }
  else if draw % 4 = 1 then { r with mode := if PyData.eqv (.str r.mode) (.str "look") = true then "change" else "look" }
  else if draw % 4 = 2 then (if turB draw = true then { r with args := if (bornL.any fun y => y == r.deed) = true then [] else r.args ++ [.none] } else { r with deed := "fly" })
  else { r with ans := chA r draw }
structure ansOk (a : PD) : Prop where
  ok : okD 1000 63 a = true
  tl : ∀ ds, a = .tuple ds → ds.length ≤ 5000
  nl : ∀ ds, a ≠ .list ds
def chR (ds : List PD) (d : PD) : Prop := ∃ r draw, ds = [rowD r, .int draw] ∧ r.args.length ≤ 900 ∧ ansOk r.ans ∧ d = rowD (chF r draw)
theorem at2i {x y : Int} {b : Bool} : L2.atI [PyData.int x, .int y] (if b = true then 1 else 0) = some (.int (if b = true then y else x)) := by cases b <;> rfl
theorem at2s {x y : Str} {b : Bool} : L2.atI [PyData.str x, .str y] (if b = true then 1 else 0) = some (.str (if b = true then y else x)) := by cases b <;> rfl
theorem at2t {x y : List PD} {b : Bool} : L2.atI [PyData.tuple x, .tuple y] (if b = true then 1 else 0) = some (.tuple (if b = true then y else x)) := by cases b <;> rfl
theorem at2 {x y : PD} {b : Bool} : L2.atI [x, y] (if b = true then 1 else 0) = some (if b = true then y else x) := by cases b <;> rfl

theorem pick4 (draw : Int) : draw % 4 = 0 ∨ draw % 4 = 1 ∨ draw % 4 = 2 ∨ draw % 4 = 3 := by omega
theorem and_l {a b : Bool} (h : (a && b) = true) : a = true := (Bool.and_eq_true_iff.mp h).1
theorem and_r {a b : Bool} (h : (a && b) = true) : b = true := (Bool.and_eq_true_iff.mp h).2
theorem str_len {L n : Nat} {x : Str} (h : okD L n (.str x) = true) : x.length ≤ L := by
  have z : (PyData.strOk x && decide (x.length ≤ L)) = true := by
    cases n <;> exact h
  exact of_decide_eq_true (and_r z)

def N_lchg : List Str := ["_law_row", "_law_draw", "_law_number", "_law_mode", "_law_life", "_law_time", "_law_stage", "_law_deed", "_law_arguments", "_law_answer", "_law_pick", "_law_turned"]
theorem sc_lchg : FnScope N_lchg ["_law_row", "_law_draw"] (fScope (topS 65)) := ⟨rfl, rfl, rfl, by decide +kernel, rfl, by decide +kernel, by decide +kernel⟩
theorem nd_lchg : N_lchg.Nodup := by decide +kernel
theorem ok_lchg {k : Nat} (M : Blt mg) (D : FnP K "_law_changed" 65 f fd) : FnOk P w K mg base CX (k + 1) f fd ["_law_row", "_law_draw"] (spF K chR) := by
  refine fn_spF (N := N_lchg) D sc_lchg (fun ds d h => ?_) fun ds d cdv A outer s H E hr h => ?_
  · obtain ⟨r, draw, rfl, ha, hA, he⟩ := h
    rfl
  · have hu := hr.units
    have nd := nd_lchg
    obtain ⟨r, draw, rfl, ha, hA, he⟩ := h
    obtain ⟨num, mode, life, time, stage, deed, args, ans⟩ := r
    refine (db_cons (ds_asg (de_var 0) (td_tup rfl (tds_cons (td_name 2 nd) (tds_cons (td_name 3 nd) (tds_cons (td_name 4 nd) (tds_cons (td_name 5 nd) (tds_cons (td_name 6 nd) (tds_cons (td_name 7 nd) (tds_cons (td_name 8 nd) (tds_cons (td_name 9 nd) tds_nil fun h1 h2 => pgs_cons h1 h2) fun h1 h2 => pgs_cons h1 h2) fun h1 h2 => pgs_cons h1 h2) fun h1 h2 => pgs_cons h1 h2) fun h1 h2 => pgs_cons h1 h2) fun h1 h2 => pgs_cons h1 h2) fun h1 h2 => pgs_cons h1 h2) fun h1 h2 => pgs_cons h1 h2)) (f_tup (f_cons (f_name (f_cons (f_name (f_cons (f_name (f_cons (f_name (f_cons (f_name (f_cons (f_name (f_cons (f_name (f_cons (f_name (f_nil ?_))))))))))))))))) rfl)))
    refine (db_cons (ds_set 10 (de_mod (de_intI M (de_var 1)) de_int (by decide)) nd (db_cons (ds_set 11 (d := .bool (turB draw)) (de_cmp (op_eqA hu) (de_mod (de_intI M (de_div (de_var 1) de_int (by refine ⟨by decide, by decide⟩))) de_int (by decide)) de_int (od_eq (by first | rfl | assumption | omega | decide))) nd ?_))))
    show DB _ _ _ _ [some (rowD ⟨num, mode, life, time, stage, deed, args, ans⟩), some (.int draw), some (.int num), some (.str mode), some (.str life), some (.int time), some (.int stage), some (.str deed), some (.tuple args), some ans, some (.int (draw % 4)), some (.bool (turB draw))] none _
    rcases pick4 draw with hp | hp | hp | hp
    · refine (db_cons (ds_if (dt_cmp (op_eqA hu) (de_var 10) de_int (od_eq (by first | rfl | assumption | omega | decide))) (fun k1 => (db_one (ds_set 2 (de_add (de_var 2) (de_ixL (de_lst (da_cons de_int (da_cons (de_neg de_int) da_nil))) (de_intB M (de_and (de_var 11) fun kb => (de_one (de_cmp op_gt (de_var 2) de_int od_gt)))) at2i)) nd (db_cons (ds_if (dt_cmp (op_eqA hu) (de_var 10) de_int (od_eq (by first | rfl | assumption | omega | decide))) (fun k2 => absurd (eqi k2) (by omega)) (fun k2 => (db_nil (db_cons (ds_if (DW.dt (dw_and (dt_cmp (op_eqA hu) (de_var 10) de_int (od_eq (by first | rfl | assumption | omega | decide))) fun kb => (dw_and1 (dt_val (de_var 11))))) (fun k3 => absurd (eqi (and_l k3)) (by omega)) (fun k3 => (db_one (ds_if (dt_cmp (op_eqA hu) (de_var 10) de_int (od_eq (by first | rfl | assumption | omega | decide))) (fun k4 => absurd (eqi k4) (by omega)) (fun k4 => (db_nil (db_cons (ds_if (dt_cmp (op_eqA hu) (de_var 10) de_int (od_eq (by first | rfl | assumption | omega | decide))) (fun k5 => absurd (eqi k5) (by omega)) (fun k5 => (db_nil (db_one (ds_ret (de_tup (da_cons (de_var 2) (da_cons (de_var 3) (da_cons (de_var 4) (da_cons (de_var 5) (da_cons (de_var 6) (da_cons (de_var 7) (da_cons (de_var 8) (da_cons (de_var 9) da_nil))))))))) ?_)))))))))))))))))))) (fun k1 => absurd (nei k1) (fun z => z hp))))
      rw [he, chF, if_pos hp]
      rfl
    · refine (db_cons (ds_if (dt_cmp (op_eqA hu) (de_var 10) de_int (od_eq (by first | rfl | assumption | omega | decide))) (fun k1 => absurd (eqi k1) (by omega)) (fun k1 => (db_nil (db_cons (ds_if (dt_cmp (op_eqA hu) (de_var 10) de_int (od_eq (by first | rfl | assumption | omega | decide))) (fun k2 => (db_one (ds_set 3 (de_ixL (de_lst (da_cons de_str (da_cons de_str da_nil))) (de_intB M (de_cmp (op_eqA hu) (de_var 3) de_str (od_eq (by first | rfl | assumption | omega | decide)))) at2s) nd (db_cons (ds_if (DW.dt (dw_and (dt_cmp (op_eqA hu) (de_var 10) de_int (od_eq (by first | rfl | assumption | omega | decide))) fun kb => (dw_and1 (dt_val (de_var 11))))) (fun k3 => absurd (eqi (and_l k3)) (by omega)) (fun k3 => (db_one (ds_if (dt_cmp (op_eqA hu) (de_var 10) de_int (od_eq (by first | rfl | assumption | omega | decide))) (fun k4 => absurd (eqi k4) (by omega)) (fun k4 => (db_nil (db_cons (ds_if (dt_cmp (op_eqA hu) (de_var 10) de_int (od_eq (by first | rfl | assumption | omega | decide))) (fun k5 => absurd (eqi k5) (by omega)) (fun k5 => (db_nil (db_one (ds_ret (de_tup (da_cons (de_var 2) (da_cons (de_var 3) (da_cons (de_var 4) (da_cons (de_var 5) (da_cons (de_var 6) (da_cons (de_var 7) (da_cons (de_var 8) (da_cons (de_var 9) da_nil))))))))) ?_)))))))))))))))) (fun k2 => absurd (nei k2) (fun z => z hp))))))))
      rw [he, chF, if_neg (by omega), if_pos hp]
      rfl
    · refine (db_cons (ds_if (dt_cmp (op_eqA hu) (de_var 10) de_int (od_eq (by first | rfl | assumption | omega | decide))) (fun k1 => absurd (eqi k1) (by omega)) (fun k1 => (db_nil (db_cons (ds_if (dt_cmp (op_eqA hu) (de_var 10) de_int (od_eq (by first | rfl | assumption | omega | decide))) (fun k2 => absurd (eqi k2) (by omega)) (fun k2 => (db_nil (db_cons (ds_if (DW.dt (dw_and (dt_cmp (op_eqA hu) (de_var 10) de_int (od_eq (by first | rfl | assumption | omega | decide))) fun kb => (dw_and1 (dt_val (de_var 11))))) (fun k3 => (db_one (ds_set 8 (de_ixL (de_lst (da_cons (de_addT (de_var 8) (de_tup (da_cons de_non da_nil)) (by show args.length + 1 ≤ _; have : args.length ≤ 900 := ha; omega)) (da_cons (de_tup da_nil) da_nil))) (de_intB M (de_cmp op_in_seq (de_var 7) (de_lst (da_cons de_str (da_cons de_str da_nil))) (od_inL (ys := bornL)))) at2t) nd (db_cons (ds_if (dt_cmp (op_eqA hu) (de_var 10) de_int (od_eq (by first | rfl | assumption | omega | decide))) (fun k5 => absurd (eqi k5) (by omega)) (fun k5 => (db_nil (db_one (ds_ret (de_tup (da_cons (de_var 2) (da_cons (de_var 3) (da_cons (de_var 4) (da_cons (de_var 5) (da_cons (de_var 6) (da_cons (de_var 7) (da_cons (de_var 8) (da_cons (de_var 9) da_nil))))))))) ?_))))))))) (fun k3 => (db_one (ds_if (dt_cmp (op_eqA hu) (de_var 10) de_int (od_eq (by first | rfl | assumption | omega | decide))) (fun k4 => (db_one (ds_set 7 de_str nd (db_cons (ds_if (dt_cmp (op_eqA hu) (de_var 10) de_int (od_eq (by first | rfl | assumption | omega | decide))) (fun k5 => absurd (eqi k5) (by omega)) (fun k5 => (db_nil (db_one (ds_ret (de_tup (da_cons (de_var 2) (da_cons (de_var 3) (da_cons (de_var 4) (da_cons (de_var 5) (da_cons (de_var 6) (da_cons (de_var 7) (da_cons (de_var 8) (da_cons (de_var 9) da_nil))))))))) ?_))))))))) (fun k4 => absurd (nei k4) (fun z => z hp)))))))))))))))
      · rw [he, chF, if_neg (by omega), if_neg (by omega), if_pos hp, if_pos (and_r k3)]
        rfl
      · have hT : turB draw = false := by
          rw [hp] at k3
          cases z : turB draw with
          | false => rfl
          | true => rw [z] at k3; cases (show true = false from k3)
        rw [he, chF, if_neg (by omega), if_neg (by omega), if_pos hp, if_neg (by rw [hT]; exact Bool.false_ne_true)]
        rfl
    · have e3 : chF ⟨num, mode, life, time, stage, deed, args, ans⟩ draw = ⟨num, mode, life, time, stage, deed, args, chA ⟨num, mode, life, time, stage, deed, args, ans⟩ draw⟩ := by
        rw [chF, if_neg (by omega), if_neg (by omega), if_neg (by omega)]
      rw [e3] at he
      cases ans with
      | tuple ds =>
        refine (db_cons (ds_if (dt_cmp (op_eqA hu) (de_var 10) de_int (od_eq (by first | rfl | assumption | omega | decide))) (fun k1 => absurd (eqi k1) (by omega)) (fun k1 => (db_nil (db_cons (ds_if (dt_cmp (op_eqA hu) (de_var 10) de_int (od_eq (by first | rfl | assumption | omega | decide))) (fun k2 => absurd (eqi k2) (by omega)) (fun k2 => (db_nil (db_cons (ds_if (DW.dt (dw_and (dt_cmp (op_eqA hu) (de_var 10) de_int (od_eq (by first | rfl | assumption | omega | decide))) fun kb => (dw_and1 (dt_val (de_var 11))))) (fun k3 => absurd (eqi (and_l k3)) (by omega)) (fun k3 => (db_one (ds_if (dt_cmp (op_eqA hu) (de_var 10) de_int (od_eq (by first | rfl | assumption | omega | decide))) (fun k4 => absurd (eqi k4) (by omega)) (fun k4 => (db_nil (db_cons (ds_if (dt_cmp (op_eqA hu) (de_var 10) de_int (od_eq (by first | rfl | assumption | omega | decide))) (fun k5 => (db_one (ds_if (dt_val (de_isi M M.tuple boot_tuple (kit_tuple _) (de_var 9))) (fun k6 => (db_one (ds_set 9 (de_ixL (de_lst (da_cons (de_addT (de_var 9) (de_tup (da_cons (de_var 4) da_nil)) (by have := hA.tl _ rfl; show ds.length + 1 ≤ _; omega)) (da_cons (de_addT (de_slT (de_var 9) (po_s de_int) po_n) (de_tup (da_cons de_str da_nil)) (by have := hA.tl _ rfl; have := cutD_len ds (some 1) none; show _ + 1 ≤ _; omega)) da_nil))) (de_intB M (de_and (de_var 11) fun kb => (de_one (de_cmp op_gt (de_lenT M (de_var 9)) de_int od_gt)))) at2t) nd (db_one (ds_ret (de_tup (da_cons (de_var 2) (da_cons (de_var 3) (da_cons (de_var 4) (da_cons (de_var 5) (da_cons (de_var 6) (da_cons (de_var 7) (da_cons (de_var 8) (da_cons (de_var 9) da_nil))))))))) ?_))))) (fun k6 => absurd k6 (by simp [isTupD, isNonD, isStrD]))))) (fun k5 => absurd (nei k5) (fun z => z hp)))))))))))))))))))
        rw [he]
        rfl
      | none =>
        refine (db_cons (ds_if (dt_cmp (op_eqA hu) (de_var 10) de_int (od_eq (by first | rfl | assumption | omega | decide))) (fun k1 => absurd (eqi k1) (by omega)) (fun k1 => (db_nil (db_cons (ds_if (dt_cmp (op_eqA hu) (de_var 10) de_int (od_eq (by first | rfl | assumption | omega | decide))) (fun k2 => absurd (eqi k2) (by omega)) (fun k2 => (db_nil (db_cons (ds_if (DW.dt (dw_and (dt_cmp (op_eqA hu) (de_var 10) de_int (od_eq (by first | rfl | assumption | omega | decide))) fun kb => (dw_and1 (dt_val (de_var 11))))) (fun k3 => absurd (eqi (and_l k3)) (by omega)) (fun k3 => (db_one (ds_if (dt_cmp (op_eqA hu) (de_var 10) de_int (od_eq (by first | rfl | assumption | omega | decide))) (fun k4 => absurd (eqi k4) (by omega)) (fun k4 => (db_nil (db_cons (ds_if (dt_cmp (op_eqA hu) (de_var 10) de_int (od_eq (by first | rfl | assumption | omega | decide))) (fun k5 => (db_one (ds_if (dt_val (de_isi M M.tuple boot_tuple (kit_tuple _) (de_var 9))) (fun k6 => absurd k6 (by simp [isTupD, isNonD, isStrD])) (fun k6 => (db_one (ds_if (dt_cmp op_isN (de_var 9) de_non od_isN) (fun k7 => (db_one (ds_set 9 de_int nd (db_one (ds_ret (de_tup (da_cons (de_var 2) (da_cons (de_var 3) (da_cons (de_var 4) (da_cons (de_var 5) (da_cons (de_var 6) (da_cons (de_var 7) (da_cons (de_var 8) (da_cons (de_var 9) da_nil))))))))) ?_))))) (fun k7 => absurd k7 (by simp [isTupD, isNonD, isStrD])))))))) (fun k5 => absurd (nei k5) (fun z => z hp)))))))))))))))))))
        rw [he]
        rfl
      | str x =>
        refine (db_cons (ds_if (dt_cmp (op_eqA hu) (de_var 10) de_int (od_eq (by first | rfl | assumption | omega | decide))) (fun k1 => absurd (eqi k1) (by omega)) (fun k1 => (db_nil (db_cons (ds_if (dt_cmp (op_eqA hu) (de_var 10) de_int (od_eq (by first | rfl | assumption | omega | decide))) (fun k2 => absurd (eqi k2) (by omega)) (fun k2 => (db_nil (db_cons (ds_if (DW.dt (dw_and (dt_cmp (op_eqA hu) (de_var 10) de_int (od_eq (by first | rfl | assumption | omega | decide))) fun kb => (dw_and1 (dt_val (de_var 11))))) (fun k3 => absurd (eqi (and_l k3)) (by omega)) (fun k3 => (db_one (ds_if (dt_cmp (op_eqA hu) (de_var 10) de_int (od_eq (by first | rfl | assumption | omega | decide))) (fun k4 => absurd (eqi k4) (by omega)) (fun k4 => (db_nil (db_cons (ds_if (dt_cmp (op_eqA hu) (de_var 10) de_int (od_eq (by first | rfl | assumption | omega | decide))) (fun k5 => (db_one (ds_if (dt_val (de_isi M M.tuple boot_tuple (kit_tuple _) (de_var 9))) (fun k6 => absurd k6 (by simp [isTupD, isNonD, isStrD])) (fun k6 => (db_one (ds_if (dt_cmp op_isN (de_var 9) de_non od_isN) (fun k7 => absurd k7 (by simp [isTupD, isNonD, isStrD])) (fun k7 => (db_one (ds_if (dt_val (de_isi M M.str boot_str (kit_str _) (de_var 9))) (fun k8 => (db_one (ds_set 9 (de_ixL (de_lst (da_cons de_non (da_cons (de_addS (de_var 9) de_str (by have := str_len hA.ok; show _ + 1 ≤ _; omega)) da_nil))) (de_intB M (de_var 11)) at2) nd (db_one (ds_ret (de_tup (da_cons (de_var 2) (da_cons (de_var 3) (da_cons (de_var 4) (da_cons (de_var 5) (da_cons (de_var 6) (da_cons (de_var 7) (da_cons (de_var 8) (da_cons (de_var 9) da_nil))))))))) ?_))))) (fun k8 => absurd k8 (by simp [isTupD, isNonD, isStrD]))))))))))) (fun k5 => absurd (nei k5) (fun z => z hp)))))))))))))))))))
        rw [he]
        show rowD ⟨_, _, _, _, _, _, _, (if turB draw = true then PyData.str (x ++ "x") else .none)⟩ = _
        rfl
      | int i =>
        refine (db_cons (ds_if (dt_cmp (op_eqA hu) (de_var 10) de_int (od_eq (by first | rfl | assumption | omega | decide))) (fun k1 => absurd (eqi k1) (by omega)) (fun k1 => (db_nil (db_cons (ds_if (dt_cmp (op_eqA hu) (de_var 10) de_int (od_eq (by first | rfl | assumption | omega | decide))) (fun k2 => absurd (eqi k2) (by omega)) (fun k2 => (db_nil (db_cons (ds_if (DW.dt (dw_and (dt_cmp (op_eqA hu) (de_var 10) de_int (od_eq (by first | rfl | assumption | omega | decide))) fun kb => (dw_and1 (dt_val (de_var 11))))) (fun k3 => absurd (eqi (and_l k3)) (by omega)) (fun k3 => (db_one (ds_if (dt_cmp (op_eqA hu) (de_var 10) de_int (od_eq (by first | rfl | assumption | omega | decide))) (fun k4 => absurd (eqi k4) (by omega)) (fun k4 => (db_nil (db_cons (ds_if (dt_cmp (op_eqA hu) (de_var 10) de_int (od_eq (by first | rfl | assumption | omega | decide))) (fun k5 => (db_one (ds_if (dt_val (de_isi M M.tuple boot_tuple (kit_tuple _) (de_var 9))) (fun k6 => absurd k6 (by simp [isTupD, isNonD, isStrD])) (fun k6 => (db_one (ds_if (dt_cmp op_isN (de_var 9) de_non od_isN) (fun k7 => absurd k7 (by simp [isTupD, isNonD, isStrD])) (fun k7 => (db_one (ds_if (dt_val (de_isi M M.str boot_str (kit_str _) (de_var 9))) (fun k8 => absurd k8 (by simp [isTupD, isNonD, isStrD])) (fun k8 => (db_one (ds_if (dt_cmp op_gt (de_var 9) de_int od_gt) (fun k9 => (db_one (ds_set 9 (de_sub (de_var 9) de_int) nd (db_one (ds_ret (de_tup (da_cons (de_var 2) (da_cons (de_var 3) (da_cons (de_var 4) (da_cons (de_var 5) (da_cons (de_var 6) (da_cons (de_var 7) (da_cons (de_var 8) (da_cons (de_var 9) da_nil))))))))) ?_))))) (fun k9 => (db_one (ds_set 9 (de_add (de_var 9) de_int) nd (db_one (ds_ret (de_tup (da_cons (de_var 2) (da_cons (de_var 3) (da_cons (de_var 4) (da_cons (de_var 5) (da_cons (de_var 6) (da_cons (de_var 7) (da_cons (de_var 8) (da_cons (de_var 9) da_nil))))))))) ?_))))))))))))))))) (fun k5 => absurd (nei k5) (fun z => z hp)))))))))))))))))))
        · rw [he]
          show _ = rowD ⟨_, _, _, _, _, _, _, (if 0 < i then .int (i - 1) else .int (i + 1))⟩
          rw [if_pos (of_decide_eq_true k9)]
          rfl
        · rw [he]
          show _ = rowD ⟨_, _, _, _, _, _, _, (if 0 < i then .int (i - 1) else .int (i + 1))⟩
          rw [if_neg (of_decide_eq_false k9)]
          rfl
      | list ds => exact absurd rfl (hA.nl ds)
      | bool z => cases (show false = true from hA.ok)
      | dict z => cases (show false = true from hA.ok)
end
end K5
end PartF15
section PartF16
set_option maxRecDepth 100000
set_option maxHeartbeats 4000000
/-! replay_rows; the law's own def refused. -/
namespace K5
open PySem PySem.Spec PyProof.Rows L2
section
variable {w : World} {K : PySem.W.Frag} {mg : Str → Option Value} {base : Heap} {f : Addr} {fd : FuncData}
structure RowOk (r : Row) : Prop where
  nm : nmOk r.life
  aok : AOk r.args
  ans : okD 1000 60 r.ans = true
  mode : okD 1000 0 (.str r.mode) = true
  deed : okD 1000 0 (.str r.deed) = true
  num : r.num.natAbs.log2 < 1920
/-- the row is what its deed leads to -/
def okB (kind : Str) (st : St) (m : Int) (r : Row) : Bool := fitsF kind r.deed r.args && !((!PyData.eqv (.int (touF st m r.life r.deed r.args).1) (.int r.num)) || ((!PyData.eqv (.str (touF st m r.life r.deed r.args).2) (.str r.mode)) || !PyData.eqv (deedF st r.life r.deed r.args).2 r.ans))
def replF (kind : Str) : St → Int → List Row → St ⊕ Int
  | st, _, [] => .inl st
  | st, m, r :: rs => if okB kind st m r = true then replF kind (deedF st r.life r.deed r.args).1 r.num rs else .inr r.num
structure ReplD (kind : Str) (st : St) (rs : List Row) : Prop where
  kd : st.kd kind
  ok : st.Ok (900 - rs.length)
  len : rs.length ≤ 800
  rows : ∀ r ∈ rs, RowOk r
def replR (ds : List PD) (d : PD) : Prop := ∃ kind st rs st', ds = [.str kind, st.pd, rowsD rs] ∧ ReplD kind st rs ∧ replF kind st 0 rs = .inl st' ∧ d = st'.pd
def replX (ds : List PD) (n : Int) : Prop := ∃ kind st rs, ds = [.str kind, st.pd, rowsD rs] ∧ ReplD kind st rs ∧ replF kind st 0 rs = .inr n
theorem row_ok {r : Row} (h : RowOk r) : okD 1000 61 (rowD r) = true := ok_tup fun d hd => by
  simp only [List.mem_cons, List.not_mem_nil, or_false] at hd
  rcases hd with rfl | rfl | rfl | rfl | rfl | rfl | rfl | rfl
  · exact ok_int
  · exact ok_up h.mode (Nat.zero_le _)
  · exact ok_up (okD_len (by omega) h.nm.1) (Nat.zero_le _)
  · exact ok_int
  · exact ok_int
  · exact ok_up h.deed (Nat.zero_le _)
  · exact ok_up (okD_len (by omega) (ok_tup (n := 0) h.aok.ok)) (by omega)
  · exact h.ans
theorem ok_list {L n : Nat} {ds : List PD} (h : ∀ d ∈ ds, okD L n d = true) : okD L (n + 1) (.list ds) = true := by
  unfold okD
  exact List.all_eq_true.mpr h
theorem rows_ok {rs : List Row} (h : ∀ r ∈ rs, RowOk r) : okD 1000 62 (rowsD rs) = true := ok_list fun d hd => by
  obtain ⟨r, hr, rfl⟩ := List.mem_map.mp hd
  exact row_ok (h r hr)

def N_repl : List Str := ["kind", "state", "rows", "number", "row", "told"]
theorem sc_repl : FnScope N_repl ["kind", "state", "rows"] (fScope (topS 52)) := ⟨rfl, rfl, rfl, by decide +kernel, rfl, by decide +kernel, by decide +kernel⟩
theorem nd_repl : N_repl.Nodup := by decide +kernel
theorem ok_repl {k : Nat} {C fI : Addr} (M : Blt mg) (T : BBk K C fI) (hS : mg "super" = none) (hC : mg "BadBook" = some (.ref C)) (hFit : FnD prg w K mg base (L2N.CX prg w) (k + 1) "fits" ["kind", "deed", "arguments"] fitsR) (hTou : FnD prg w K mg base (L2N.CX prg w) (k + 1) "touch" ["thing", "kind", "state", "number", "life", "deed", "arguments"] touR)
    (D : FnP K "replay_rows" 52 f fd) : FnOk prg w K mg base (L2N.CX prg w) (k + 2) f fd ["kind", "state", "rows"] (spX K C replR replX) := by
  refine fn_spX (N := N_repl) D sc_repl (fun ds d h => ?_) (fun ds n h => ?_) fun ds cdv A outer s H E R Y hr h tk => ?_
  · obtain ⟨_, _, _, _, rfl, _⟩ := h
    rfl
  · obtain ⟨_, _, _, rfl, _⟩ := h
    rfl
  · have hu := hr.units
    have nd := nd_repl
    have hx : NoX (L2N.CX prg w) := noX_N
    obtain ⟨kind, st0, rs, RR, rfl, hd, e0, hf1, hf2⟩ : ∃ kind st rs RR, ds = [.str kind, st.pd, rowsD rs] ∧ ReplD kind st rs ∧ replF kind st 0 rs = RR ∧ (∀ st', RR = .inl st' → R st'.pd) ∧ (∀ n, RR = .inr n → Y n) := by
      rcases h with ⟨d, ⟨kind, st, rs, st', e1, e2, e3, e4⟩, rfl, rfl⟩ | ⟨n, ⟨kind, st, rs, e1, e2, e3⟩, rfl, rfl⟩
      · refine ⟨kind, st, rs, _, e1, e2, e3, fun st2 z => ?_, (fun n z => nomatch z)⟩
        cases z
        exact e4.symm
      · refine ⟨kind, st, rs, _, e1, e2, e3, (fun st2 z => nomatch z), fun m z => ?_⟩
        cases z
        rfl
    refine (db_cons (ds_set 3 de_int nd (db_cons ?_)))
    refine ds_for (items := rs.map rowD) (fun i ρ O => ∃ (st : St) (m : Int) (a b : Option PD), ρ = [some (.str kind), some st.pd, some (rowsD rs), some (.int m), a, b] ∧ O = none ∧ st.kd kind ∧ st.Ok (900 - rs.length + i) ∧ replF kind st m (rs.drop i) = RR) rfl (passes_of rfl) (it_list (de_var 2)) (td_name 4 nd) ⟨st0, 0, none, none, rfl, rfl, hd.kd, hd.ok, e0⟩ (fun i d ρ' O' hi hI => ?_) fun ρ' O' hI => ?_
    · obtain ⟨st, m, a, b, rfl, rfl, hk, ho, hR⟩ := hI
      rw [List.getElem?_map] at hi
      obtain ⟨r, hri, rfl⟩ := Option.map_eq_some_iff.mp hi
      obtain ⟨hlt, eri⟩ := List.getElem?_eq_some_iff.mp hri
      have ro : RowOk r := hd.rows r (List.mem_of_getElem? hri)
      have hln := hd.len
      rw [List.drop_eq_getElem_cons hlt, eri, replF] at hR
      refine f_name (db_cons (ds_if (dt_not (dt_val (de_call hFit hr hx (da_cons (de_var 0) (da_cons (de_ixT (de_var 4) de_int (by rfl)) (da_cons (de_ixT (de_var 4) de_int (by rfl)) da_nil))) ⟨_, _, _, rfl, ro.aok.len, rfl⟩))) (fun k1 => (db_one (ds_raise rfl T hr hS hC rfl tk (de_ixT (de_var 4) de_int (by rfl)) ro.num ?_))) (fun k1 => (db_nil ?_))))
      · have k2 : fitsF kind r.deed r.args = false := by
          cases z : fitsF kind r.deed r.args with
          | false => rfl
          | true => rw [z] at k1; cases k1
        rw [if_neg (by unfold okB; rw [k2]; exact Bool.false_ne_true)] at hR
        exact hf2 _ hR.symm
      have k2 : fitsF kind r.deed r.args = true := by
        cases z : fitsF kind r.deed r.args with
        | true => rfl
        | false => rw [z] at k1; cases k1
      have dok : DOk st kind r.life r.deed r.args := ⟨hk, ho.mono (by omega), ro.nm, ro.aok, k2⟩
      refine (db_cons (ds_asg (de_call hTou hr hx (da_cons de_str (da_cons (de_var 0) (da_cons (de_var 1) (da_cons (de_var 3) (da_cons (de_ixT (de_var 4) de_int (by rfl)) (da_cons (de_ixT (de_var 4) de_int (by rfl)) (da_cons (de_ixT (de_var 4) de_int (by rfl)) da_nil))))))) ⟨_, _, st, _, _, _, _, rfl, dok, rfl⟩) (td_tup rfl (tds_cons (td_name 5 nd) (tds_cons (td_name 1 nd) tds_nil fun h1 h2 => pgs_cons h1 h2) fun h1 h2 => pgs_cons h1 h2)) (f_tup (f_cons (f_name (f_cons (f_name (f_nil (db_cons (ds_if (DW.dt (dw_or (dt_cmp (op_neA hu) (de_ixT (de_var 5) de_int (by rfl)) (de_ixT (de_var 4) de_int (by rfl)) (od_ne (by rfl))) fun kb => (dw_or (dt_cmp (op_neA hu) (de_ixT (de_var 5) de_int (by rfl)) (de_ixT (de_var 4) de_int (by rfl)) (od_ne (by rfl))) fun kb => (dw_or1 (dt_cmp (op_neA hu) (de_ixT (de_var 5) de_int (by rfl)) (de_ixT (de_var 4) de_int (by rfl)) (od_ne (eq_ok (ok_up (okD_len (by omega) (deedF_ok dok.ok dok.nm dok.aok).2) (by omega)) (ok_up ro.ans (by omega))))))))) (fun k3 => (db_one (ds_raise rfl T hr hS hC rfl tk (de_ixT (de_var 4) de_int (by rfl)) ro.num ?_))) (fun k3 => (db_nil (db_one (ds_set 3 (de_ixT (de_var 4) de_int (by rfl)) nd ?_))))))))))) rfl)))
      · have k4 : okB kind st m r = false := by
          unfold okB
          rw [k2]
          show (!_) = false
          rw [show _ = true from k3]
          rfl
        rw [if_neg (by rw [k4]; exact Bool.false_ne_true)] at hR
        exact hf2 _ hR.symm
      · have k4 : okB kind st m r = true := by
          unfold okB
          rw [k2]
          show (!_) = true
          rw [show _ = false from k3]
          rfl
        rw [if_pos k4] at hR
        exact ⟨(deedF st r.life r.deed r.args).1, r.num, _, _, rfl, rfl, deedF_kd hk, (deedF_ok ho ro.nm ro.aok).1, hR⟩
    · obtain ⟨st, m, a, b, rfl, rfl, hk, ho, hR⟩ := hI
      rw [List.length_map, List.drop_length, replF] at hR
      exact (db_one (ds_ret (de_var 1) (hf1 _ hR.symm)))
end
end K5
end PartF16
section PartF17
set_option maxRecDepth 100000
set_option maxHeartbeats 4000000
/-! The law's own def refused. -/
namespace K5
open PySem PySem.Spec PyProof.Rows L2
section
variable {P : Program} {w : World} {K : PySem.W.Frag} {mg : Str → Option Value} {base : Heap} {CX : CXT} {f : Addr} {fd : FuncData}
/-- what isinstance says of a BadBook -/
structure Errs (K : PySem.W.Frag) (mg : Str → Option Value) (C : Addr) : Prop where
  ex : ExcC K C
  exm : PySem.W.exmOne K (.ref C) (.ref C) = some true
  lives : ∃ D, mg "LivesError" = some (.ref D) ∧ PySem.W.kitOne K (.ref C) (.ref D) = some true
  deed : ∃ D, mg "BadDeed" = some (.ref D) ∧ PySem.W.kitOne K (.ref C) (.ref D) = some false
  ve : PySem.W.kitOne K (.ref C) (.type "ValueError") = some true
  mve : mg "ValueError" = none
  t10 : ∃ as, Paired (fun (y : Str) (D : Addr) => mg y = some (.ref D)) ["BadName", "BadRecord", "BadRow", "BadRows", "BadText", "BadWorld", "Crossed", "NoCourse", "NoPlace", "NoThing"] as ∧ PySem.W.kitAny K (.ref C) (as.map Value.ref) = some false
  t4 : ∃ as, Paired (fun (y : Str) (D : Addr) => mg y = some (.ref D)) ["NotDue", "Quiet", "TooLong", "Unsound"] as ∧ PySem.W.kitAny K (.ref C) (as.map Value.ref) = some false
theorem boot_VE : bootBuiltins "ValueError" = some (.type "ValueError") := by decide +kernel
def alikeI (ds : List PD) (d : PD) : Prop := ∃ n : Int, ds = [.int n, .int n] ∧ d = .bool true

theorem ok_lintH (M : Blt mg) (D : FnP K "_law_is_integer" 56 f fd) : L2H.FnH P w K mg base CX (0 + 1) f fd ["_law_value_here"] (spF K numR) := by
  refine fn_spFH (N := N_lint) D sc_lint (fun ds d h => ?_) fun ds d cdv A outer s H E q hr hh h => ?_
  · obtain ⟨x, rfl, rfl⟩ := h
    rfl
  · obtain ⟨x, rfl, rfl⟩ := h
    refine (db_one (ds_ret (de_and (de_isi M M.int boot_int (kit_int _) (de_var 0)) fun kb => (de_one (de_not (de_isi M M.bool boot_bool (kit_bool _) (de_var 0))))) ?_))
    rfl

theorem ok_alikeH {k : Nat} (M : Blt mg) (hI : FnDH P w K mg base CX k "_law_is_integer" ["_law_value_here"] numR) (hx : NoX CX) (D : FnP K "_law_alike" 57 f fd) : L2H.FnH P w K mg base CX (k + 1) f fd ["_law_told", "_law_due"] (spF K alikeI) := by
  refine fn_spFH (N := N_alikeS) D sc_alikeS (fun ds d h => ?_) fun ds d cdv A outer s H E q hr hh h => ?_
  · obtain ⟨n, rfl, rfl⟩ := h
    rfl
  · obtain ⟨i, rfl, rfl⟩ := h
    have hu : (A.deeper (envOfC "_law_alike" (fScope (topS 57)) s.heap.objs.size f cdv)).units + 64 < cLine := by have := hr.un; omega
    exact (db_cons (ds_if (DW.dt (dw_or (dt_val (de_isi M M.tuple boot_tuple (kit_tuple _) (de_var 1))) fun kb => (dw_or1 (dt_val (de_isi M M.list boot_list (kit_list _) (de_var 1)))))) (fun k1 => absurd k1 (by simp [isTupD, isLstD, isNonD, isStrD])) (fun k1 => (db_nil (db_cons (ds_if (dt_cmp op_isN (de_var 1) de_non od_isN) (fun k2 => absurd k2 (by simp [isTupD, isLstD, isNonD, isStrD])) (fun k2 => (db_nil (db_cons (ds_if (dt_val (de_isi M M.str boot_str (kit_str _) (de_var 1))) (fun k3 => absurd k3 (by simp [isTupD, isLstD, isNonD, isStrD])) (fun k3 => (db_nil (db_one (ds_ret (de_and (de_callH hI hr hh hx (da_cons (de_var 0) da_nil) ⟨_, rfl, rfl⟩) fun kb => (de_one (de_cmp (op_eqA hu) (de_var 0) (de_var 1) (od_eq (by rfl))))) (by simp [isIntD, isBoolD, eqv_int])))))))))))))))

theorem pcons {α β : Type} {R : α → β → Prop} {x : α} {xs : List α} {ys : List β} (h : Paired R (x :: xs) ys) : ∃ y r, ys = y :: r ∧ R x y ∧ Paired R xs r := by
  cases h with
  | cons a b => exact ⟨_, _, rfl, a, b⟩
theorem pnil {α β : Type} {R : α → β → Prop} {ys : List β} (h : Paired R ([] : List α) ys) : ys = [] := by
  cases h
  rfl

theorem p10_of {as : List Addr} (h : Paired (fun (y : Str) (D : Addr) => mg y = some (.ref D)) ["BadName", "BadRecord", "BadRow", "BadRows", "BadText", "BadWorld", "Crossed", "NoCourse", "NoPlace", "NoThing"] as) : ∃ a0, mg "BadName" = some (.ref a0) ∧ ∃ a1, mg "BadRecord" = some (.ref a1) ∧ ∃ a2, mg "BadRow" = some (.ref a2) ∧ ∃ a3, mg "BadRows" = some (.ref a3) ∧ ∃ a4, mg "BadText" = some (.ref a4) ∧ ∃ a5, mg "BadWorld" = some (.ref a5) ∧ ∃ a6, mg "Crossed" = some (.ref a6) ∧ ∃ a7, mg "NoCourse" = some (.ref a7) ∧ ∃ a8, mg "NoPlace" = some (.ref a8) ∧ ∃ a9, mg "NoThing" = some (.ref a9) ∧ as = [a0, a1, a2, a3, a4, a5, a6, a7, a8, a9] := by
  obtain ⟨a0, r0, rfl, h0, h⟩ := pcons h
  obtain ⟨a1, r1, rfl, h1, h⟩ := pcons h
  obtain ⟨a2, r2, rfl, h2, h⟩ := pcons h
  obtain ⟨a3, r3, rfl, h3, h⟩ := pcons h
  obtain ⟨a4, r4, rfl, h4, h⟩ := pcons h
  obtain ⟨a5, r5, rfl, h5, h⟩ := pcons h
  obtain ⟨a6, r6, rfl, h6, h⟩ := pcons h
  obtain ⟨a7, r7, rfl, h7, h⟩ := pcons h
  obtain ⟨a8, r8, rfl, h8, h⟩ := pcons h
  obtain ⟨a9, r9, rfl, h9, h⟩ := pcons h
  obtain rfl := pnil h
  exact ⟨a0, h0, a1, h1, a2, h2, a3, h3, a4, h4, a5, h5, a6, h6, a7, h7, a8, h8, a9, h9, rfl⟩

theorem p4_of {as : List Addr} (h : Paired (fun (y : Str) (D : Addr) => mg y = some (.ref D)) ["NotDue", "Quiet", "TooLong", "Unsound"] as) : ∃ a0, mg "NotDue" = some (.ref a0) ∧ ∃ a1, mg "Quiet" = some (.ref a1) ∧ ∃ a2, mg "TooLong" = some (.ref a2) ∧ ∃ a3, mg "Unsound" = some (.ref a3) ∧ as = [a0, a1, a2, a3] := by
  obtain ⟨a0, r0, rfl, h0, h⟩ := pcons h
  obtain ⟨a1, r1, rfl, h1, h⟩ := pcons h
  obtain ⟨a2, r2, rfl, h2, h⟩ := pcons h
  obtain ⟨a3, r3, rfl, h3, h⟩ := pcons h
  obtain rfl := pnil h
  exact ⟨a0, h0, a1, h1, a2, h2, a3, h3, rfl⟩

def refR (ds : List PD) (d : PD) : Prop := ∃ kind st rs n, ds = [.str kind, st.pd, rowsD rs, .int n] ∧ ReplD kind st rs ∧ replF kind st 0 rs = .inr n ∧ d = .bool true

def N_lref : List Str := ["_law_kind", "_law_state", "_law_rows", "_law_number", "_law_passed", "e"]
theorem sc_lref : FnScope N_lref ["_law_kind", "_law_state", "_law_rows", "_law_number"] (fScope (topS 66)) := ⟨rfl, rfl, rfl, by decide +kernel, rfl, by decide +kernel, by decide +kernel⟩
theorem nd_lref : N_lref.Nodup := by decide +kernel
theorem ok_lref {k : Nat} {C fI fr : Addr} {fdr : FuncData} (M : Blt mg) (T : BBk K C fI) (ee : Errs K mg C) (hC : mg "BadBook" = some (.ref C)) (okR : FnOk prg w K mg base (L2N.CX prg w) k fr fdr ["kind", "state", "rows"] (spX K C replR replX)) (hRm : mg "replay_rows" = some (.ref fr)) (hRk : PySem.W.keepIn K (.ref fr) = true) (hRb : Binds K fdr ["kind", "state", "rows"] [])
    (hA : FnDH prg w K mg base (L2N.CX prg w) k "_law_alike" ["_law_told", "_law_due"] alikeI) (D : FnP K "_law_refused" 66 f fd) : FnOk prg w K mg base (L2N.CX prg w) (k + 1) f fd ["_law_kind", "_law_state", "_law_rows", "_law_number"] (spF K refR) := by
  refine fn_spF (N := N_lref) D sc_lref (fun ds d h => ?_) fun ds d cdv A outer s H E hr h => ?_
  · obtain ⟨_, _, _, _, rfl, _⟩ := h
    rfl
  · have nd := nd_lref
    have hu := hr.units
    obtain ⟨kind, st, rs, n, rfl, hd, he, rfl⟩ := h
    obtain ⟨DL, Lm, Lk⟩ := ee.lives
    obtain ⟨DD, Dm, Dk⟩ := ee.deed
    obtain ⟨asa, pa, k10⟩ := ee.t10
    obtain ⟨_, ma0, _, ma1, _, ma2, _, ma3, _, ma4, _, ma5, _, ma6, _, ma7, _, ma8, _, ma9, rfl⟩ := p10_of pa
    obtain ⟨asb, pb, k4⟩ := ee.t4
    obtain ⟨_, mb0, _, mb1, _, mb2, _, mb3, rfl⟩ := p4_of pb
    refine (db_cons (ds_set 4 (de_listL M (de_var 2)) nd (db_cons (ds_try 5 0 1 4 (d := .bool true) (d1 := .str kind) (d2 := st.pd) (d3 := rowsD rs) okR hRm hRk hRb hr nd hC ee.exm rfl rfl (by exact ⟨kind, st, rs, rfl, hd, he⟩) (Nat.le_of_ble_eq_true rfl) rfl rfl rfl (fun a dd oe pn hz hf => ⟨?_, ?_, ?_⟩) rfl))))
    · exact (JW.jt (jw_orF (jt_not (k := true) (jt_val (je_is M ee.ex hz hf Lm Lk rfl))) (jw_orF (jt_not (k := true) (jt_val (je_isT M ee.ex hz hf ee.mve boot_VE ee.ve rfl))) (jw_or1 (jt_val (je_is M ee.ex hz hf Dm Dk rfl))))))
    · exact (jt_val (je_isTup M ee.ex hz hf (.cons rfl ma0 (by decide) rfl (.cons rfl ma1 (by decide) rfl (.cons rfl ma2 (by decide) rfl (.cons rfl ma3 (by decide) rfl (.cons rfl ma4 (by decide) rfl (.cons rfl ma5 (by decide) rfl (.cons rfl ma6 (by decide) rfl (.cons rfl ma7 (by decide) rfl (.cons rfl ma8 (by decide) rfl (.cons rfl ma9 (by decide) rfl (.nil))))))))))) (Nat.le_of_ble_eq_true rfl) k10 rfl))
    · exact (je_andT (je_not (k := false) (je_isTup M ee.ex hz hf (.cons rfl mb0 (by decide) rfl (.cons rfl mb1 (by decide) rfl (.cons rfl mb2 (by decide) rfl (.cons rfl mb3 (by decide) rfl (.nil))))) (Nat.le_of_ble_eq_true rfl) k4 rfl)) (je_andT (je_call2 hA ⟨hr.dp, hr.un⟩ noX_N hz hf (je_num T hz hf rfl) (de_var 3) ⟨_, rfl, rfl⟩) (je_one (DE.j (DE.cast (de_cmp (op_eqA hu) (de_var 4) (de_var 2) (od_eq (eq_ok (ok_up (rows_ok hd.rows) (by omega)) (ok_up (rows_ok hd.rows) (by omega))))) (by rw [eqv_self (rows_ok hd.rows)]))))))
end
end K5
end PartF17
section PartF18
set_option maxRecDepth 100000
set_option maxHeartbeats 4000000
/-! The law's own def books. -/
namespace K5
open PySem PySem.Spec PyProof.Rows L2
section
variable {X : Cx} {C : Addr} {W : WX} {ρ : Rho} {O : Own} {P : DP} {d d2 : PD} {ds : List PD} {e e2 : Expr} {pos p : Pos}
/-- the expression gives a new list -/
def DF (X : Cx) (e : Expr) (ρ : Rho) (O : Own) (ds : List PD) : Prop :=
  ∀ H0 B H σ (Q : VK), Sl X.K H0 B H σ ρ O → (∀ p ws B' H', Gr B H B' H' → H p = none → B' p = none → H' p = some (.lst ws) → DvA X.K B' ws ds → Q (.ref p) H') → wE X e σ H Q
/-- x = e, e a new list: such a list as the def may change -/
theorem ds_fresh (i : Nat) {x : Str} {px : Pos} (he : DF X e ρ O ds) (hO : ∀ j zs, O = some (j, zs) → j = i) (hN : X.N.Nodup) (hl : i < ρ.length) (h : P.nx (ρ.set i none) (some (i, ds))) (hi : X.N[i]? = some x := by rfl) (hx : Loc X.env.scope x := by first | exact .inl rfl | exact .inr rfl)
    (hs : swapsWith e (some (.Name x px)) pos.line X.env = pure false := by rfl) (hf : X.fn x = true ∨ X.env.scope.names.lookup x = some .local := by first | exact .inl rfl | exact .inr rfl) : DS X C W (.Assign [.Name x px] e pos) ρ O P :=
  .mk (ps_set hN hi hx (pwE e) hs hf) fun {B0 H0 B1 σ B H D} S g r po => he _ _ _ _ _ S fun q ws B2 H2 g2 nq nb hq dv => by
    have S1 := (S.gr g2).put (i := i) (some (.ref q))
    refine po.nx _ _ _ _ _ h ⟨S1.bh, S1.len, S1.dat, fun j zs hj => ?_⟩ (g.trans g2) (r.trans g2.b)
    cases hj
    refine ⟨q, ws, ?_, Sl.fresh0 g nq, nb, hq, dv⟩
    rw [List.getElem?_set, if_pos rfl, if_pos (by rw [S.len]; exact hl)]
/-- f(own, e2), its answer a bool -/
theorem de_callOwn (i : Nat) {x f : Str} {px : Pos} {CX : CXT} {k : Nat} {ps : List Str} {F : List PD → PD → Prop} {b : Bool} (hO : O = some (i, ds)) (G : FnD X.prog X.w X.K X.mg X.base CX k f ps F) (hr : Room k X.A) (hx : NoX CX) (h2 : DE X e2 ρ O d2) (hF : F [.list ds, d2] (.bool b))
    (hN : X.N[i]? = some x := by rfl) (hv : Vis X.env.scope x := by first | exact .inl rfl | exact .inr (.inl rfl)) (hdx : (x == ("__debug__" : Str)) = false := by decide) (hcx : (x == ("__classdict__" : Str)) = false := by decide) (hg : Gl X f := by rfl) (hdb : (f == ("__debug__" : Str)) = false := by decide)
    (he : starEach [.Name x px, e2] X.env = (false, eval (.Name x px) X.env) :: starEach [e2] X.env := by rfl) (he2 : starEach [e2] X.env = [(false, eval e2 X.env)] := by rfl) (hpl : (backTo pos (starEach [e2] X.env)).any (·.1) = false := by rfl) : DE X (.Call (.Name f p) [.Name x px, e2] [] pos) ρ O (.bool b) := by
  obtain ⟨fa, fd, ok, hm, kp, bn⟩ := G.ok
  refine .mk (pe_call (E := fun _ _ _ => False) ok hr hg hm kp bn .nil (fun pins σ H s e' s' _ z => (hx _ _ _ _ _ z).elim) (pa_cons (pe_var hN hv hdx hcx) (pwA [e2]) he) hdb he hpl) fun {H0 B H σ} S Q q => ?_
  obtain ⟨l, us, e1, h0, hB, hH, a1⟩ := S.own i ds hO
  refine ⟨_, e1, da_cons h2 da_nil he2 _ _ _ _ _ S fun vs B1 H1 g1 dvs => ?_⟩
  have nb : B1 l = none := g1.ap l hB (by rw [hH]; exact fun z => nomatch z)
  have hH1 := g1.h l _ hH
  have sb : Same B1 (upd B1 l (.lst us)) := same_new nb
  have sh : Same (upd B1 l (.lst us)) H1 := fun a u z => by
    by_cases q : a = l
    · subst q
      rw [upd_same] at z
      cases z
      exact hH1
    · rw [upd_ne q] at z
      exact g1.bh a u z
  show spF X.K F ((.ref l :: vs) ++ []) H1 _ _
  rw [List.append_nil]
  refine ⟨upd B1 l (.lst us), [.list ds, d2], .bool b, sh, .cons (.lst upd_same ((a1.mono g1.b).mono sb)) (dvs.mono sb), hF, fun v B3 H3 g3 dv => ?_⟩
  rw [dv.bl_]
  exact q _ B1 H3 (g1.trans ⟨Same.refl B1, g3.h, fun a u z => g3.h a u (g1.bh a u z), fun a z _ => z⟩) (.bl b)
end
section
variable {P : Program} {w : World} {K : PySem.W.Frag} {mg : Str → Option Value} {base : Heap} {CX : CXT} {f : Addr} {fd : FuncData}
/-- ordered_rows gives a new list -/
def spO (K : PySem.W.Frag) : Sp := fun vs H Q _ => ∃ B rs, Same B H ∧ DvA K B vs [rowsD rs] ∧ rs.length ≤ 900 ∧ ∀ p ws B' H', Gr B H B' H' → H p = none → B' p = none → H' p = some (.lst ws) → DvA K B' ws ((sortR rs).map rowD) → Q (.ref p) H'
theorem ok_ordrowsN {k : Nat} (M : Blt mg) {g : Addr} {gd : FuncData} (hKey : FnP K "row_place" 50 g gd) (hKb : Binds K gd ["row"] []) (hKm : mg "row_place" = some (.ref g)) (D : FnP K "ordered_rows" 51 f fd) : FnOk P w K mg base CX (k + 1) f fd ["rows"] (spO K) := by
  refine D.ok sc_ordrows (fun vs H Q E h => ?_) fun cdv A outer s H vs Q E hr h => ?_
  · obtain ⟨B, rs, _, dv, _⟩ := h
    rw [dv.length]
    rfl
  · obtain ⟨B, rs, sm, dv, hl, q⟩ := h
    obtain ⟨v, ev, dw⟩ := dv.one_
    subst ev
    obtain ⟨l, us, rfl, s1, a1⟩ := dw.lst_
    refine ⟨_, pss_one (ps_ret (pe_callBK (cr_sortedK hKey hKb hr M.int) (by rfl) M.sorted boot_sorted (pa_cons (pe_var (i := 0) (by rfl) (.inl (by rfl))) pa_nil (by rfl)) (pk_cons (pe_glob (v := .ref g) (by rfl) hKm rfl) pk_nil) (by decide) (by decide) (by rfl) (by rfl) (by rfl) (by rfl) (by rfl))), ?_⟩
    refine ⟨.ref l, rfl, B, l, us, rs, sm, rfl, rfl, sm _ _ s1, a1, by omega, fun t ws ht dw => q t ws B _ (Gr.own sm ht) ht (sm.free ht) upd_same dw⟩
/-- such a call -/
theorem df_ordered {X : Cx} {ρ : Rho} {O : Own} {fa : Addr} {fdd : FuncData} {k : Nat} {e : Expr} {p pos : Pos} {rs : List Row} (ok : FnOk X.prog X.w X.K X.mg X.base CX k fa fdd ["rows"] (spO X.K)) (hm : X.mg "ordered_rows" = some (.ref fa)) (kp : PySem.W.keepIn X.K (.ref fa) = true) (bn : Binds X.K fdd ["rows"] [])
    (hr : Room k X.A) (hx : NoX CX) (he : DE X e ρ O (rowsD rs)) (hl : rs.length ≤ 900) (hg : Gl X "ordered_rows" := by rfl) (hs : starEach [e] X.env = [(false, eval e X.env)] := by rfl) : DF X (.Call (.Name "ordered_rows" p) [e] [] pos) ρ O ((sortR rs).map rowD) := fun H0 B H σ Q S q => by
  refine wE_of (pe_call (E := fun _ _ _ => False) ok hr hg hm kp bn .nil (fun pins σ H s e' s' _ z => (hx _ _ _ _ _ z).elim) (pwA [e]) (by decide) hs rfl) ?_
  refine da_cons he da_nil hs _ _ _ _ _ S fun vs B1 H1 g1 dvs => ?_
  show spO X.K (vs ++ []) H1 _ _
  rw [List.append_nil]
  refine ⟨B1, rs, g1.bh, dvs, hl, fun t ws B2 H2 g2 ht nb h2 dw => q t ws B2 H2 (g1.trans g2) ?_ nb h2 dw⟩
  cases z : H t with
  | none => rfl
  | some o =>
    rw [g1.h _ _ z] at ht
    cases ht

structure BookD (kind : Str) (st st' : St) (rs rs2 : List Row) : Prop where
  same : sortR rs2 = sortR rs
  r1 : ∀ r ∈ rs, RowOk r
  r2 : ∀ r ∈ rs2, RowOk r
  l1 : rs.length ≤ 800
  l2 : rs2.length ≤ 800
  rep : ReplD kind st (sortR rs)
  run : replF kind st 0 (sortR rs) = .inl st'
  alk1 : alk 3 (rowsD (sortR rs)) = true
  alk2 : alk 3 st'.pd = true
def bookR (ds : List PD) (d : PD) : Prop := ∃ kind st st' rs rs2, ds = [.str kind, st.pd, rowsD rs, rowsD rs2, rowsD (sortR rs), st'.pd] ∧ BookD kind st st' rs rs2 ∧ d = .bool true

def N_lbook : List Str := ["_law_kind", "_law_state", "_law_rows", "_law_other", "_law_due", "_law_last", "_law_passed", "_law_before", "_law_told"]
theorem sc_lbook : FnScope N_lbook ["_law_kind", "_law_state", "_law_rows", "_law_other", "_law_due", "_law_last"] (fScope (topS 67)) := ⟨rfl, rfl, rfl, by decide +kernel, rfl, by decide +kernel, by decide +kernel⟩
theorem nd_lbook : N_lbook.Nodup := by decide +kernel
theorem ok_lbook {k : Nat} {fo : Addr} {fdo : FuncData} (M : Blt mg) (okO : FnOk P w K mg base CX k fo fdo ["rows"] (spO K)) (hOm : mg "ordered_rows" = some (.ref fo)) (hOk : PySem.W.keepIn K (.ref fo) = true) (hOb : Binds K fdo ["rows"] [])
    (hR : FnD P w K mg base CX k "replay_rows" ["kind", "state", "rows"] replR) (hA : FnD P w K mg base CX k "_law_alike" ["_law_told", "_law_due"] (alikeR 3)) (hx : NoX CX) (D : FnP K "_law_books" 67 f fd) : FnOk P w K mg base CX (k + 1) f fd ["_law_kind", "_law_state", "_law_rows", "_law_other", "_law_due", "_law_last"] (spF K bookR) := by
  refine fn_spF (N := N_lbook) D sc_lbook (fun ds d h => ?_) fun ds d cdv A outer s H E hr h => ?_
  · obtain ⟨_, _, _, _, _, rfl, _⟩ := h
    rfl
  · have nd := nd_lbook
    have hu := hr.units
    obtain ⟨kind, st, st', rs, rs2, rfl, hd, rfl⟩ := h
    have hl1 := hd.l1
    have hl2 := hd.l2
    refine (db_cons ?_)
    refine ds_for (items := [rowsD rs, rowsD rs2]) (fun i ρ O => ∃ a b, ρ = [some (.str kind), some st.pd, some (rowsD rs), some (rowsD rs2), some (rowsD (sortR rs)), some st'.pd, a, b, none] ∧ ∀ j zs, O = some (j, zs) → j = 8) rfl (passes_of rfl) (it_list (de_lst (da_cons (de_listL M (de_var 2)) (da_cons (de_listL M (de_var 3)) da_nil)))) (td_name 6 nd) ⟨none, none, rfl, fun _ _ z => nomatch z⟩ (fun i d ρ' O' hi hI => ?_) fun ρ' O' hI => ?_
    · obtain ⟨a, b, rfl, hO⟩ := hI
      obtain ⟨rsX, rfl, hX, hlX, hokX⟩ : ∃ rsX, d = rowsD rsX ∧ sortR rsX = sortR rs ∧ rsX.length ≤ 800 ∧ ∀ r ∈ rsX, RowOk r := by
        rcases i with _ | _ | i
        · cases hi
          exact ⟨rs, rfl, rfl, hl1, hd.r1⟩
        · cases hi
          exact ⟨rs2, rfl, hd.same, hl2, hd.r2⟩
        · cases hi
      refine f_name ?_
      have hO2 : ∀ j zs, ownBut 7 (ownBut 6 O') = some (j, zs) → j = 8 := fun j zs z => hO j zs (ownBut_some (ownBut_some z).2).2
      refine (db_cons (ds_set 7 (de_listL M (de_var 6)) nd (db_cons (ds_fresh 8 (df_ordered okO hOm hOk hOb hr hx (de_var 6) (by omega)) hO2 nd (Nat.le_of_ble_eq_true rfl) (db_cons (ds_if (dt_not (dt_val (de_callOwn (b := true) 8 rfl hA hr hx (de_var 4) ?_))) (fun k1 => absurd (show false = true from k1) Bool.false_ne_true) (fun k1 => db_nil (db_cons (ds_app 8 rfl de_non (by rw [List.length_map]; unfold sortR; rw [List.length_mergeSort]; omega) (db_one (ds_if (dt_cmp (op_neA hu) (de_var 6) (de_var 7) (od_ne (eq_ok (ok_up (rows_ok hokX) (by omega)) (ok_up (rows_ok hokX) (by omega))))) (fun k2 => ?_) (fun k2 => db_nil ?_))))))))))))
      · exact ⟨rowsD (sortR rs), by rw [hX]; rfl, hd.alk1, rfl⟩
      · rw [eqv_self (rows_ok hokX)] at k2
        cases k2
      · exact ⟨_, _, rfl, fun j zs z => by cases z; rfl⟩
    · obtain ⟨a, b, rfl, hO⟩ := hI
      refine (db_cons (ds_set 6 (de_listL M (de_var 4)) nd (db_one (ds_ret (de_and (de_call hA hr hx (da_cons (de_call hR hr hx (da_cons (de_var 0) (da_cons (de_var 1) (da_cons (de_var 6) da_nil))) ⟨kind, st, sortR rs, st', rfl, hd.rep, hd.run, rfl⟩) (da_cons (de_var 5) da_nil)) ⟨st'.pd, rfl, hd.alk2, rfl⟩) fun kb => (de_one (de_cmp (op_eqA hu) (de_var 6) (de_var 4) (od_eq (eq_ok (ok_up (rows_ok hd.rep.rows) (by omega)) (ok_up (rows_ok hd.rep.rows) (by omega))))))) ?_))))
      rw [eqv_self (rows_ok hd.rep.rows)]
      rfl
end
end K5
end PartF18
section PartF19
set_option maxRecDepth 100000
set_option maxHeartbeats 4000000
/-! The law's own def made_rows. -/
namespace K5
open PySem PySem.Spec PyProof.Rows L2
section
variable {P : Program} {w : World} {K : PySem.W.Frag} {mg : Str → Option Value} {base : Heap} {CX : CXT} {f : Addr} {fd : FuncData}
abbrev Mk := St × Int × List Row
section
variable (names : List Str) (first second : List Int) (c1 : Int) (shapes : List (Str × List Str))
def mkP (k : Nat) : Str × List Str := shapes.getD (first.getD (1 + k) 0 % (shapes.length : Int)).toNat ("", [])
def mkA (k : Nat) (st : St) : List PD := madeF (mkP first shapes k).2 names (second.getD (1 + k) 0) st.pd (c1 + (k : Int))
def mkL (k : Nat) : Str := names.getD (17 + second.getD (1 + k) 0 / 4 % 4).toNat ""
def mkT (k : Nat) (x : Mk) : Int × Str := touF x.1 x.2.1 (mkL names second k) (mkP first shapes k).1 (mkA names first second c1 shapes k x.1)
def mkD (k : Nat) (x : Mk) : St × PD := deedF x.1 (mkL names second k) (mkP first shapes k).1 (mkA names first second c1 shapes k x.1)
def mkR (k : Nat) (x : Mk) : Row := ⟨(mkT names first second c1 shapes k x).1, (mkT names first second c1 shapes k x).2, mkL names second k, (k : Int) / 2, (k : Int) % 2, (mkP first shapes k).1, mkA names first second c1 shapes k x.1, (mkD names first second c1 shapes k x).2⟩
def mkF (st0 : St) : Nat → Mk
  | 0 => (st0, 0, [])
  | k + 1 => ((mkD names first second c1 shapes k (mkF st0 k)).1, (mkT names first second c1 shapes k (mkF st0 k)).1, (mkF st0 k).2.2 ++ [mkR names first second c1 shapes k (mkF st0 k)])
end
def manyF (f0 : Int) : Int := if f0 / 9 % 4 = 1 then 9 + f0 / 36 % 12 else f0 % 9
theorem many_le (f0 : Int) : 0 ≤ manyF f0 ∧ manyF f0 ≤ 20 := by
  unfold manyF
  split <;> omega
structure MrD (kind : Str) (st0 : St) (names : List Str) (c0 c1 : Int) : Prop where
  nl : names.length = 30
  sh : 0 < (lshapesF kind).length
  step : ∀ k, k < (manyF ((draws c0 21).getD 0 0)).toNat → DOk (mkF names (draws c0 21) (draws c1 21) c1 (lshapesF kind) st0 k).1 kind (mkL names (draws c1 21) k) (mkP (draws c0 21) (lshapesF kind) k).1 (mkA names (draws c0 21) (draws c1 21) c1 (lshapesF kind) k (mkF names (draws c0 21) (draws c1 21) c1 (lshapesF kind) st0 k).1)
  dom : ∀ k, k < (manyF ((draws c0 21).getD 0 0)).toNat → okD 1000 63 (.list ((mkP (draws c0 21) (lshapesF kind) k).2.map PyData.str)) = true ∧ ((mkP (draws c0 21) (lshapesF kind) k).2 = (["time", "stage"] : List Str) → ∃ ss, (mkF names (draws c0 21) (draws c1 21) c1 (lshapesF kind) st0 k).1.pd = .tuple ss)
def mrF (kind : Str) (st0 : St) (names : List Str) (c0 c1 : Int) : Mk := mkF names (draws c0 21) (draws c1 21) c1 (lshapesF kind) st0 (manyF ((draws c0 21).getD 0 0)).toNat
def mrR (ds : List PD) (d : PD) : Prop := ∃ kind st0 names c0 c1, ds = [.str kind, st0.pd, .list (names.map PyData.str), .list [.int c0, .int c1]] ∧ MrD kind st0 names c0 c1 ∧ d = .tuple [rowsD (mrF kind st0 names c0 c1).2.2, (mrF kind st0 names c0 c1).1.pd]
theorem draws_len (c : Int) (n : Nat) : (draws c n).length = n := drawsF_len c _ n 0 _
theorem mkF_len (names : List Str) (first second : List Int) (c1 : Int) (shapes : List (Str × List Str)) (st0 : St) : ∀ k, (mkF names first second c1 shapes st0 k).2.2.length = k
  | 0 => rfl
  | k + 1 => by
    show (_ ++ [_]).length = _
    rw [List.length_append, mkF_len names first second c1 shapes st0 k]
    rfl
theorem atNe {xs : List Int} {k : Nat} {j : Int} (e : j = (k : Int)) (h : k < xs.length) : L2.atI (xs.map PyData.int) j = some (.int (xs.getD k 0)) := by
  subst e
  exact atN h
theorem atSe {xs : List Str} {j : Int} (h0 : 0 ≤ j) (h : j < (xs.length : Int)) : L2.atI (xs.map PyData.str) j = some (.str (xs.getD j.toNat "")) := by
  obtain ⟨n, rfl⟩ := Int.eq_ofNat_of_zero_le h0
  rw [Int.toNat_natCast]
  exact atS (by omega)
theorem touF_look {st : St} {n : Int} {l d : Str} {a : List PD} (h : PyData.eqv (deedF st l d a).1.pd st.pd = true) : touF st n l d a = (n, ("look" : Str)) := by unfold touF; rw [if_pos h]
theorem touF_chg {st : St} {n : Int} {l d : Str} {a : List PD} (h : PyData.eqv (deedF st l d a).1.pd st.pd = false) : touF st n l d a = (n + 1, ("change" : Str)) := by unfold touF; rw [if_neg (by rw [h]; exact Bool.false_ne_true)]
theorem alk_sc {v : PD} {n : Nat} (h : scOk v) : alk n v = true := by
  cases v <;> first | (cases n <;> rfl) | cases h

/-- the body of the loop -/
def FORB (s : Stmt) : List Stmt := match (fBody s).getD 7 (.Pass ⟨0, 0, 0, 0⟩) with
  | .For _ _ b _ _ => b
  | _ => []

def N_lmr : List Str := ["_law_kind", "_law_state", "_law_names_here", "_law_cells", "_law_first", "_law_second", "_law_many", "_law_shapes_here", "_law_rows", "_law_number", "_law_k", "_law_deed", "_law_parts", "_law_arguments", "_law_life", "_law_told", "_law_mode"]
theorem sc_lmr : FnScope N_lmr ["_law_kind", "_law_state", "_law_names_here", "_law_cells"] (fScope (topS 68)) := ⟨rfl, rfl, rfl, by decide +kernel, rfl, by decide +kernel, by decide +kernel⟩
theorem nd_lmr : N_lmr.Nodup := by decide +kernel
theorem ok_lmr {k : Nat} (M : Blt mg) (hDr : FnD P w K mg base CX k "_law_draws" ["_law_cell_here", "_law_many"] drawsR) (hSh : FnD P w K mg base CX k "_law_shapes" ["_law_kind"] lshapesR) (hMd : FnD P w K mg base CX k "_law_made" ["_law_parts", "_law_names_here", "_law_draw", "_law_state", "_law_cell_here"] madeR) (hT : FnD P w K mg base CX k "touch" ["thing", "kind", "state", "number", "life", "deed", "arguments"] touR) (hA : FnD P w K mg base CX k "_law_alike" ["_law_told", "_law_due"] (alikeR 3)) (hx : NoX CX) (D : FnP K "_law_made_rows" 68 f fd) : FnOk P w K mg base CX (k + 1) f fd ["_law_kind", "_law_state", "_law_names_here", "_law_cells"] (spF K mrR) := by
  refine fn_spF (N := N_lmr) D sc_lmr (fun ds d h => ?_) fun ds d cdv A outer s H E hr h => ?_
  · obtain ⟨_, _, _, _, _, rfl, _⟩ := h
    rfl
  · have nd := nd_lmr
    have hu := hr.units
    obtain ⟨kind, st0, names, c0, c1, rfl, hD, rfl⟩ := h
    obtain ⟨F1, e1⟩ : ∃ F1, draws c0 21 = F1 := ⟨_, rfl⟩
    obtain ⟨F2, e2⟩ : ∃ F2, draws c1 21 = F2 := ⟨_, rfl⟩
    obtain ⟨SH, e3⟩ : ∃ SH, lshapesF kind = SH := ⟨_, rfl⟩
    have lF : F1.length = 21 := by rw [← e1]; exact draws_len _ _
    have lS : F2.length = 21 := by rw [← e2]; exact draws_len _ _
    have hsh : 0 < SH.length := by rw [← e3]; exact hD.sh
    have hst := hD.step
    have hdm := hD.dom
    have hml := many_le (F1.getD 0 0)
    rw [e1, e2, e3] at hst
    rw [e1, e2, e3] at hdm
    unfold mrF
    rw [e1, e2, e3]
    refine (db_cons (ds_set 4 (d := .list (F1.map PyData.int)) (de_call hDr hr hx (da_cons (de_ixL (d := .int c0) (de_var 3) de_int (by rfl)) (da_cons de_int da_nil)) ⟨c0, 21, rfl, by decide, by rw [e1]⟩) nd (db_cons (ds_set 5 (d := .list (F2.map PyData.int)) (de_call hDr hr hx (da_cons (de_ixL (d := .int c1) (de_var 3) de_int (by rfl)) (da_cons de_int da_nil)) ⟨c1, 21, rfl, by decide, by rw [e2]⟩) nd ?_))))
    have tail : DB (cxOf CX P w K mg base N_lmr "_law_made_rows" (fScope (topS 68)) f cdv A outer s H E) 0 (fun _ _ _ _ => False) ((fBody (topS 68)).drop 4) [some (.str kind), some st0.pd, some (.list (names.map PyData.str)), some (.list [.int c0, .int c1]), some (.list (F1.map PyData.int)), some (.list (F2.map PyData.int)), some (.int (manyF (F1.getD 0 0))), none, none, none, none, none, none, none, none, none, none] none { nx := fun _ _ => PyData.tuple [rowsD (mkF names F1 F2 c1 SH st0 (manyF (F1.getD 0 0)).toNat).2.2, (mkF names F1 F2 c1 SH st0 (manyF (F1.getD 0 0)).toNat).1.pd] = .none, rt := fun e => e = PyData.tuple [rowsD (mkF names F1 F2 c1 SH st0 (manyF (F1.getD 0 0)).toNat).2.2, (mkF names F1 F2 c1 SH st0 (manyF (F1.getD 0 0)).toNat).1.pd] } := by
      refine (db_cons (ds_set 7 (d := .list (SH.map lshD)) (de_call hSh hr hx (da_cons (de_var 0) da_nil) ⟨kind, rfl, by rw [e3]⟩) nd (db_cons (ds_own 8 rfl nd (Nat.le_of_ble_eq_true rfl) (db_cons (ds_set 9 de_int nd (db_cons ?_)))))))
      refine ds_for (items := rngD 0 (manyF (F1.getD 0 0)).toNat) (fun i ρ O => ∃ a b c d e ff g, ρ = [some (.str kind), some (mkF names F1 F2 c1 SH st0 i).1.pd, some (.list (names.map PyData.str)), some (.list [.int c0, .int c1]), some (.list (F1.map PyData.int)), some (.list (F2.map PyData.int)), some (.int (manyF (F1.getD 0 0))), some (.list (SH.map lshD)), none, some (.int (mkF names F1 F2 c1 SH st0 i).2.1), a, b, c, d, e, ff, g] ∧ O = some (8, (mkF names F1 F2 c1 SH st0 i).2.2.map rowD)) rfl (passes_of rfl) (it_rng M (de_var 6) (by omega) (by omega)) (td_name 10 nd) ⟨none, none, none, none, none, none, none, rfl, rfl⟩ (fun i d ρ' O' hi hI => ?_) fun ρ' O' hI => ?_
      · obtain ⟨a, b, c, d, e, ff, g, rfl, rfl⟩ := hI
        have hlt : i < (manyF (F1.getD 0 0)).toNat := by
          rcases Nat.lt_or_ge i (manyF (F1.getD 0 0)).toNat with z | z
          · exact z
          · rw [List.getElem?_eq_none (by rw [rngD_len]; omega)] at hi
            cases hi
        rw [rngD_get hlt, Int.zero_add] at hi
        obtain rfl := Option.some.inj hi
        have dok := hst i hlt
        have sd := hdm i hlt
        have ak : alk 3 (.tuple [.str (names.getD 3 ""), .int (mkT names F1 F2 c1 SH i (mkF names F1 F2 c1 SH st0 i)).1, .str (mkT names F1 F2 c1 SH i (mkF names F1 F2 c1 SH st0 i)).2, .str (mkP F1 SH i).1, .tuple (mkA names F1 F2 c1 SH i (mkF names F1 F2 c1 SH st0 i).1)]) = true := by
          have z : (mkA names F1 F2 c1 SH i (mkF names F1 F2 c1 SH st0 i).1).all (alk 1) = true := List.all_eq_true.mpr fun v hv => alk_sc (dok.aok.ok v hv)
          have z2 : decide ((mkA names F1 F2 c1 SH i (mkF names F1 F2 c1 SH st0 i).1).length ≤ 5000) = true := decide_eq_true (by have := dok.aok.len; omega)
          simp [alk, z, z2]
        refine f_name (db_cons (ds_asg (de_ixL (d := lshD (mkP F1 SH i)) (de_var 7) (de_mod (de_intI M (de_ixL (d := .int (F1.getD (1 + i) 0)) (de_var 4) (de_add de_int (de_var 10)) (atNe (k := 1 + i) (by omega) (by rw [lF]; omega)))) (de_lenL M (de_var 7)) (by rw [List.length_map]; omega)) (by rw [List.length_map]; exact atI_emod rfl (by omega))) (td_tup rfl (tds_cons (td_name 11 nd) (tds_cons (td_name 12 nd) tds_nil fun h1 h2 => pgs_cons h1 h2) fun h1 h2 => pgs_cons h1 h2)) (f_tup (f_cons (f_name (f_cons (f_name (f_nil (db_cons (ds_set 13 (de_call hMd hr hx (da_cons (de_var 12) (da_cons (de_var 2) (da_cons (de_ixL (d := .int (F2.getD (1 + i) 0)) (de_var 5) (de_add de_int (de_var 10)) (atNe (k := 1 + i) (by omega) (by rw [lS]; omega))) (da_cons (de_var 1) (da_cons (de_add (de_ixL (d := .int c1) (de_var 3) de_int (by rfl)) (de_var 10)) da_nil))))) ⟨_, _, _, _, _, rfl, hD.nl, sd.1, sd.2, rfl⟩) nd (db_cons (ds_set 14 (de_ixL (d := .str (mkL names F2 i)) (de_var 2) (de_add de_int (de_mod (de_intI M (de_div (de_ixL (d := .int (F2.getD (1 + i) 0)) (de_var 5) (de_add de_int (de_var 10)) (atNe (k := 1 + i) (by omega) (by rw [lS]; omega))) de_int (by refine ⟨by decide, by decide⟩))) de_int (by decide))) (atSe (by omega) (by rw [hD.nl]; omega))) nd (db_cons (ds_set 15 (de_call hT hr hx (da_cons (de_ixL (d := .str (names.getD 3 "")) (de_var 2) de_int (atS (k := 3) (by rw [hD.nl]; decide))) (da_cons (de_var 0) (da_cons (de_var 1) (da_cons (de_var 9) (da_cons (de_var 14) (da_cons (de_var 11) (da_cons (de_var 13) da_nil))))))) ⟨_, _, (mkF names F1 F2 c1 SH st0 i).1, _, _, _, _, rfl, dok, rfl⟩) nd ?_))))))))))) rfl)))
        refine db_cons (ds_if (DW.dt (dw_or (dt_not (dt_val (de_isi M M.tuple boot_tuple (kit_tuple _) (de_var 15)))) fun kb => (dw_or (dt_cmp (op_neA hu) (de_lenT M (de_var 15)) de_int (od_ne (by rfl))) fun kb => (dw_or (dt_not (dt_val (de_isi M M.tuple boot_tuple (kit_tuple _) (de_ixT (de_var 15) de_int (by rfl))))) fun kb => (dw_or1 (dt_cmp (op_neA hu) (de_lenT M (de_ixT (de_var 15) de_int (by rfl))) de_int (od_ne (by rfl)))))))) (fun k1 => absurd k1 (by simp [isTupD, eqv_int, touD])) (fun k1 => db_nil (db_cons (ds_set 16 de_str nd ?_))))
        have fin : ∀ (n' : Int) (m' : Str), mkT names F1 F2 c1 SH i (mkF names F1 F2 c1 SH st0 i) = (n', m') → DB (cxOf CX P w K mg base N_lmr "_law_made_rows" (fScope (topS 68)) f cdv A outer s H E) 0 (fun _ _ _ _ => False) ((FORB (topS 68)).drop 7) [some (.str kind), some (mkF names F1 F2 c1 SH st0 i).1.pd, some (.list (names.map PyData.str)), some (.list [.int c0, .int c1]), some (.list (F1.map PyData.int)), some (.list (F2.map PyData.int)), some (.int (manyF (F1.getD 0 0))), some (.list (SH.map lshD)), none, some (.int n'), some (.int (i : Nat)), some (.str (mkP F1 SH i).1), some (.list ((mkP F1 SH i).2.map PyData.str)), some (.tuple (mkA names F1 F2 c1 SH i (mkF names F1 F2 c1 SH st0 i).1)), some (.str (mkL names F2 i)), some (.tuple [touD (names.getD 3 "") (mkP F1 SH i).1 (mkA names F1 F2 c1 SH i (mkF names F1 F2 c1 SH st0 i).1) (mkT names F1 F2 c1 SH i (mkF names F1 F2 c1 SH st0 i)) (mkD names F1 F2 c1 SH i (mkF names F1 F2 c1 SH st0 i)).2, (mkD names F1 F2 c1 SH i (mkF names F1 F2 c1 SH st0 i)).1.pd]), some (.str m')] (some (8, (mkF names F1 F2 c1 SH st0 i).2.2.map rowD)) { nx := fun ρ O => ∃ a b c d e ff g, ρ = [some (.str kind), some (mkF names F1 F2 c1 SH st0 (i + 1)).1.pd, some (.list (names.map PyData.str)), some (.list [.int c0, .int c1]), some (.list (F1.map PyData.int)), some (.list (F2.map PyData.int)), some (.int (manyF (F1.getD 0 0))), some (.list (SH.map lshD)), none, some (.int (mkF names F1 F2 c1 SH st0 (i + 1)).2.1), a, b, c, d, e, ff, g] ∧ O = some (8, (mkF names F1 F2 c1 SH st0 (i + 1)).2.2.map rowD), rt := fun e => e = PyData.tuple [rowsD (mkF names F1 F2 c1 SH st0 (manyF (F1.getD 0 0)).toNat).2.2, (mkF names F1 F2 c1 SH st0 (manyF (F1.getD 0 0)).toNat).1.pd], bk := fun ρ' O' => DB (cxOf CX P w K mg base N_lmr "_law_made_rows" (fScope (topS 68)) f cdv A outer s H E) 0 (fun _ _ _ _ => False) ((fBody (topS 68)).drop 8) ρ' O' { nx := fun _ _ => PyData.tuple [rowsD (mkF names F1 F2 c1 SH st0 (manyF (F1.getD 0 0)).toNat).2.2, (mkF names F1 F2 c1 SH st0 (manyF (F1.getD 0 0)).toNat).1.pd] = .none, rt := fun e => e = PyData.tuple [rowsD (mkF names F1 F2 c1 SH st0 (manyF (F1.getD 0 0)).toNat).2.2, (mkF names F1 F2 c1 SH st0 (manyF (F1.getD 0 0)).toNat).1.pd] }, ct := fun ρ O => ∃ a b c d e ff g, ρ = [some (.str kind), some (mkF names F1 F2 c1 SH st0 (i + 1)).1.pd, some (.list (names.map PyData.str)), some (.list [.int c0, .int c1]), some (.list (F1.map PyData.int)), some (.list (F2.map PyData.int)), some (.int (manyF (F1.getD 0 0))), some (.list (SH.map lshD)), none, some (.int (mkF names F1 F2 c1 SH st0 (i + 1)).2.1), a, b, c, d, e, ff, g] ∧ O = some (8, (mkF names F1 F2 c1 SH st0 (i + 1)).2.2.map rowD) } := fun n' m' ht => by
          obtain ⟨rfl, rfl⟩ : n' = (mkT names F1 F2 c1 SH i (mkF names F1 F2 c1 SH st0 i)).1 ∧ m' = (mkT names F1 F2 c1 SH i (mkF names F1 F2 c1 SH st0 i)).2 := by rw [ht]; exact ⟨rfl, rfl⟩
          refine db_cons (ds_if (dt_not (dt_val (de_call hA hr hx (da_cons (DE.cast (d' := .tuple [.str (names.getD 3 ""), .int (mkT names F1 F2 c1 SH i (mkF names F1 F2 c1 SH st0 i)).1, .str (mkT names F1 F2 c1 SH i (mkF names F1 F2 c1 SH st0 i)).2, .str (mkP F1 SH i).1, .tuple (mkA names F1 F2 c1 SH i (mkF names F1 F2 c1 SH st0 i).1)]) (de_slT (de_ixT (de_var 15) de_int (by rfl)) po_n (po_s de_int)) (by rw [show (5 : Int) = ((5 : Nat) : Int) from rfl, cut_hi]; rfl)) (da_cons (de_tup (da_cons (de_ixL (d := .str (names.getD 3 "")) (de_var 2) de_int (atS (k := 3) (by rw [hD.nl]; decide))) (da_cons (de_var 9) (da_cons (de_var 16) (da_cons (de_var 11) (da_cons (de_var 13) da_nil)))))) da_nil)) ⟨_, rfl, ak, rfl⟩))) (fun k2 => absurd (show false = true from k2) Bool.false_ne_true) (fun k2 => db_nil (db_cons (ds_set 1 (de_ixT (de_var 15) de_int (by rfl)) nd (db_one (ds_app 8 rfl (d := rowD (mkR names F1 F2 c1 SH i (mkF names F1 F2 c1 SH st0 i))) (DE.cast (de_tup (da_cons (de_var 9) (da_cons (de_var 16) (da_cons (de_var 14) (da_cons (de_div (de_var 10) de_int (by refine ⟨by decide, by decide⟩)) (da_cons (de_mod (de_intI M (de_var 10)) de_int (by decide)) (da_cons (de_var 11) (da_cons (de_var 13) (da_cons (de_ixT (de_ixT (de_var 15) de_int (by rfl)) de_int (by rfl)) da_nil))))))))) (by rfl)) (by rw [List.length_map, mkF_len]; omega) ?_))))))
          refine ⟨some (.int (i : Nat)), some (.str (mkP F1 SH i).1), some (.list ((mkP F1 SH i).2.map PyData.str)), some (.tuple (mkA names F1 F2 c1 SH i (mkF names F1 F2 c1 SH st0 i).1)), some (.str (mkL names F2 i)), some (.tuple [touD (names.getD 3 "") (mkP F1 SH i).1 (mkA names F1 F2 c1 SH i (mkF names F1 F2 c1 SH st0 i).1) (mkT names F1 F2 c1 SH i (mkF names F1 F2 c1 SH st0 i)) (mkD names F1 F2 c1 SH i (mkF names F1 F2 c1 SH st0 i)).2, (mkD names F1 F2 c1 SH i (mkF names F1 F2 c1 SH st0 i)).1.pd]), some (.str (mkT names F1 F2 c1 SH i (mkF names F1 F2 c1 SH st0 i)).2), by rfl, ?_⟩
          · show _ = some (8, ((mkF names F1 F2 c1 SH st0 i).2.2 ++ [_]).map rowD)
            rw [List.map_append]
            rfl
        refine db_cons (ds_if (dt_cmp (op_neA hu) (de_ixT (de_var 15) de_int (by rfl)) (de_var 1) (od_ne (eq_ok (ok63 (St.pd_ok (deedF_ok dok.ok dok.nm dok.aok).1)) (ok63 (St.pd_ok dok.ok))))) (fun k2 => db_cons (ds_set 16 de_str nd (db_one (ds_set 9 (de_add (de_var 9) de_int) nd ?_)))) (fun k2 => db_nil ?_))
        · have k3 : PyData.eqv (mkD names F1 F2 c1 SH i (mkF names F1 F2 c1 SH st0 i)).1.pd (mkF names F1 F2 c1 SH st0 i).1.pd = false := by
            cases z : PyData.eqv (mkD names F1 F2 c1 SH i (mkF names F1 F2 c1 SH st0 i)).1.pd (mkF names F1 F2 c1 SH st0 i).1.pd with
            | false => rfl
            | true => exact absurd (show (!PyData.eqv (mkD names F1 F2 c1 SH i (mkF names F1 F2 c1 SH st0 i)).1.pd (mkF names F1 F2 c1 SH st0 i).1.pd) = true from k2) (by rw [z]; exact Bool.false_ne_true)
          exact fin _ _ (touF_chg k3)
        · have k3 : PyData.eqv (mkD names F1 F2 c1 SH i (mkF names F1 F2 c1 SH st0 i)).1.pd (mkF names F1 F2 c1 SH st0 i).1.pd = true := by
            cases z : PyData.eqv (mkD names F1 F2 c1 SH i (mkF names F1 F2 c1 SH st0 i)).1.pd (mkF names F1 F2 c1 SH st0 i).1.pd with
            | true => rfl
            | false => exact absurd (show (!PyData.eqv (mkD names F1 F2 c1 SH i (mkF names F1 F2 c1 SH st0 i)).1.pd (mkF names F1 F2 c1 SH st0 i).1.pd) = false from k2) (by rw [z]; exact fun z => nomatch z)
          exact fin _ _ (touF_look k3)
      · obtain ⟨a, b, c, d, e, ff, g, rfl, rfl⟩ := hI
        rw [rngD_len]
        exact (db_one (ds_retOwn2 8 rfl (de_var 1) rfl))
    have hf0 := drawsF_range c0 (decide (10 ^ 18 ≤ absI c0)) 21 0 (absI c0)
    refine (db_cons (ds_set 6 (de_mod (de_intI M (de_ixL (d := .int (F1.getD 0 0)) (de_var 4) de_int (atN (k := 0) (by omega)))) de_int (by decide)) nd (db_cons (ds_if (dt_cmp (op_eqA hu) (de_mod (de_intI M (de_div (de_ixL (d := .int (F1.getD 0 0)) (de_var 4) de_int (atN (k := 0) (by omega))) de_int (by refine ⟨by decide, by decide⟩))) de_int (by decide)) de_int (od_eq (by rfl))) (fun k1 => (db_one (ds_set 6 (de_add de_int (de_mod (de_intI M (de_div (de_ixL (d := .int (F1.getD 0 0)) (de_var 4) de_int (atN (k := 0) (by omega))) de_int (by refine ⟨by decide, by decide⟩))) de_int (by decide))) nd ?_))) (fun k1 => db_nil ?_)))))
    · have z : manyF (F1.getD 0 0) = 9 + F1.getD 0 0 / 36 % 12 := by unfold manyF; rw [if_pos (eqi k1)]
      rw [z] at tail
      rw [z]
      exact tail
    · have z : manyF (F1.getD 0 0) = F1.getD 0 0 % 9 := by unfold manyF; rw [if_neg (nei k1)]
      rw [z] at tail
      rw [z]
      exact tail
end
end K5
end PartF19
section PartF20
set_option maxRecDepth 100000
set_option maxHeartbeats 4000000
/-! The law itself, over the mathematics' facts. -/
namespace K5
open PySem PySem.Spec PyProof.Rows L2
def kindsL : List Str := ["cell", "mark", "line", "store", "gate", "wheel", "stand"]
/-- the law's parts, of a script -/
abbrev cN (ns : List Int) (k : Nat) : Int := ns.getD k 0
abbrev dN (ns : List Int) : List Int := draws (cN ns 0) 10
abbrev nmN (ns : List Int) : List Str := namesF ((dN ns).getD 0 0) ((dN ns).getD 1 0)
abbrev whN (ns : List Int) : Int := (dN ns).getD 2 0 % 7
abbrev kdN (ns : List Int) : Str := kindsL.getD (whN ns).toNat ""
abbrev stN (ns : List Int) : PD := (statesF (nmN ns) (dN ns) (cN ns 0)).getD (whN ns).toNat .none
abbrev pkN (ns : List Int) : List Int := draws (cN ns 3) 5
def rwN (ns : List Int) (st : St) : List Row := (mrF (kdN ns) st (nmN ns) (cN ns 1) (cN ns 2)).2.2
def laN (ns : List Int) (st : St) : St := (mrF (kdN ns) st (nmN ns) (cN ns 1) (cN ns 2)).1
def otN (ns : List Int) (st : St) : List Row := exF ((pkN ns).getD 0 0) (rwN ns st)
def duN (ns : List Int) (st : St) : List Row := sortR (rwN ns st)
def plN (ns : List Int) (st : St) : Nat := ((pkN ns).getD 1 0 % ((rwN ns st).length : Int)).toNat
def chN (ns : List Int) (st : St) : Row := chF ((duN ns st).getD (plN ns st) default) ((pkN ns).getD 2 0)
def bhN (ns : List Int) (st : St) : List Row := (duN ns st).drop (plN ns st + 1)
def withR (ns : List Int) (st : St) (bs : List Row) : List Row := (duN ns st).take (plN ns st) ++ [chN ns st] ++ bs
def atN2 (ns : List Int) (st : St) : Nat := ((pkN ns).getD 3 0 % ((bhN ns st).length : Int)).toNat
def b2N (ns : List Int) (st : St) : List Row := (bhN ns st).take (atN2 ns st) ++ [chF ((bhN ns st).getD (atN2 ns st) default) ((pkN ns).getD 4 0)] ++ (bhN ns st).drop (atN2 ns st + 1)
/-- what the mathematics gives -/
structure LawM (ns : List Int) (st : St) : Prop where
  pd : stN ns = st.pd
  nok : ∀ x ∈ nmN ns, PyData.strOk x = true
  mr : MrD (kdN ns) st (nmN ns) (cN ns 1) (cN ns 2)
  b1 : BookD (kdN ns) st (laN ns st) (rwN ns st) (otN ns st)
  b2 : BookD (kdN ns) st (laN ns st) (otN ns st) (rwN ns st)
  ans : ∀ r ∈ rwN ns st, ansOk r.ans
  r1 : 0 < (rwN ns st).length → ReplD (kdN ns) st (withR ns st (bhN ns st)) ∧ replF (kdN ns) st 0 (withR ns st (bhN ns st)) = .inr (chN ns st).num
  r2 : 0 < (rwN ns st).length → 0 < (bhN ns st).length → ReplD (kdN ns) st (withR ns st (b2N ns st)) ∧ replF (kdN ns) st 0 (withR ns st (b2N ns st)) = .inr (chN ns st).num
def lawR (ds : List PD) (d : PD) : Prop := ∃ ns : List Int, ds = [scrD ns] ∧ d = .bool true
section
variable {w : World} {K : PySem.W.Frag} {mg : Str → Option Value} {base : Heap} {f : Addr} {fd : FuncData}
theorem rw_len (ns : List Int) (st : St) : (rwN ns st).length ≤ 20 := by
  unfold rwN mrF
  rw [mkF_len]
  have := many_le ((draws (cN ns 1) 21).getD 0 0)
  omega
theorem du_len (ns : List Int) (st : St) : (duN ns st).length = (rwN ns st).length := by
  unfold duN sortR
  rw [List.length_mergeSort]
theorem log_small {n : Int} (h : 0 ≤ n ∧ n < 1000000) : n.natAbs.log2 < 1920 := by
  by_cases z : n.natAbs = 0
  · rw [z]; decide
  · rw [Nat.log2_lt z]
    have : n.natAbs < 2 ^ 20 := by omega
    exact Nat.lt_of_lt_of_le this (Nat.pow_le_pow_right (n := 2) (by decide) (show 20 ≤ 1920 by decide))
theorem draw_r (c : Int) (n k : Nat) (h : k < n) : 0 ≤ (draws c n).getD k 0 ∧ (draws c n).getD k 0 < 1000 := drawsF_range c _ n 0 _ _ (getD_mem (by rw [drawsF_len]; exact h))
theorem cut_drop {rs : List Row} {k : Nat} {j : Int} (e : j = (k : Int)) : cutD (rs.map rowD) (some j) none = (rs.drop k).map rowD := by
  subst e
  rw [cut_lo, List.map_drop]
theorem cut_take {rs : List Row} {k : Nat} {j : Int} (e : j = (k : Int)) : cutD (rs.map rowD) none (some j) = (rs.take k).map rowD := by
  subst e
  rw [cut_hi, List.map_take]

theorem strOk_nm {x : Str} (h : okD 100 0 (.str x) = true) : PyData.strOk x = true := and_l h

def N_law : List Str := ["_law_script", "_law_draws_here", "_law_names_here", "_law_which", "_law_kind", "_law_state", "_law_made_here", "_law_rows", "_law_last", "_law_picks", "_law_other", "_law_due", "_law_place", "_law_changed_here", "_law_behind", "_law_at"]
theorem sc_law : FnScope N_law ["_law_script"] (fScope (topS 69)) := ⟨rfl, rfl, rfl, by decide +kernel, rfl, by decide +kernel, by decide +kernel⟩
theorem nd_law : N_law.Nodup := by decide +kernel
theorem ok_law {k : Nat} {C fI : Addr} (M : Blt mg) (T : BBk K C fI) (hS : mg "super" = none) (hC : mg "BadBook" = some (.ref C)) (hCell : FnD prg w K mg base (L2N.CX prg w) (k + 1) "_law_cell" ["_law_script", "_law_k"] cellR') (hDr : FnD prg w K mg base (L2N.CX prg w) (k + 1) "_law_draws" ["_law_cell_here", "_law_many"] drawsR) (hNm : FnD prg w K mg base (L2N.CX prg w) (k + 1) "_law_names" ["_law_draw", "_law_other"] namesR) (hSt : FnD prg w K mg base (L2N.CX prg w) (k + 1) "_law_states" ["_law_names_here", "_law_draws_here", "_law_cell_here"] statesR) (hMr : FnD prg w K mg base (L2N.CX prg w) (k + 1) "_law_made_rows" ["_law_kind", "_law_state", "_law_names_here", "_law_cells"] mrR) (hA : FnD prg w K mg base (L2N.CX prg w) (k + 1) "_law_alike" ["_law_told", "_law_due"] (alikeR 3)) (hEx : FnD prg w K mg base (L2N.CX prg w) (k + 1) "_law_exchanged" ["_law_rows", "_law_draw"] exchR) (hOr : FnD prg w K mg base (L2N.CX prg w) (k + 1) "_law_ordered" ["_law_rows"] orderedR) (hBk : FnD prg w K mg base (L2N.CX prg w) (k + 1) "_law_books" ["_law_kind", "_law_state", "_law_rows", "_law_other", "_law_due", "_law_last"] bookR) (hCh : FnD prg w K mg base (L2N.CX prg w) (k + 1) "_law_changed" ["_law_row", "_law_draw"] chR) (hRf : FnD prg w K mg base (L2N.CX prg w) (k + 1) "_law_refused" ["_law_kind", "_law_state", "_law_rows", "_law_number"] refR)
    (HM : ∀ ns, ∃ st, LawM ns st) (D : FnP K "law" 69 f fd) : FnOk prg w K mg base (L2N.CX prg w) (k + 2) f fd ["_law_script"] (spF K lawR) := by
  refine fn_spF (N := N_law) D sc_law (fun ds d h => ?_) fun ds d cdv A outer s H E hr h => ?_
  · obtain ⟨_, rfl, _⟩ := h
    rfl
  · have nd := nd_law
    have hx : NoX (L2N.CX prg w) := noX_N
    obtain ⟨ns, rfl, rfl⟩ := h
    obtain ⟨st, hM⟩ := HM ns
    refine (db_cons (ds_set 1 (d := .list ((dN ns).map PyData.int)) (de_call hDr hr hx (da_cons (de_call hCell hr hx (da_cons (de_var 0) (da_cons de_int da_nil)) ⟨ns, 0, rfl, rfl⟩) (da_cons de_int da_nil)) ⟨cN ns 0, 10, rfl, by decide, rfl⟩) nd (db_cons (ds_set 2 (d := .list ((nmN ns).map PyData.str)) (de_call hNm hr hx (da_cons (de_ixL (d := .int ((dN ns).getD 0 0)) (de_var 1) de_int (atN (k := 0) (by rw [draws_len]; decide))) (da_cons (de_ixL (d := .int ((dN ns).getD 1 0)) (de_var 1) de_int (atN (k := 1) (by rw [draws_len]; decide))) da_nil)) ⟨_, _, rfl, rfl⟩) nd (db_cons (ds_set 3 (d := .int (whN ns)) (de_mod (de_intI M (de_ixL (d := .int ((dN ns).getD 2 0)) (de_var 1) de_int (atN (k := 2) (by rw [draws_len]; decide)))) de_int (by decide)) nd (db_cons (ds_set 4 (d := .str (kdN ns)) (de_ixL (d := .str (kdN ns)) (de_lst (da_cons de_str (da_cons de_str (da_cons de_str (da_cons de_str (da_cons de_str (da_cons de_str (da_cons de_str da_nil)))))))) (de_var 3) (atI_emod (g := PyData.str) (xs := kindsL) (a := "") rfl (by decide))) nd (db_cons (ds_set 5 (d := st.pd) (DE.cast (d := stN ns) (de_ixL (de_call hSt hr hx (da_cons (de_var 2) (da_cons (de_var 1) (da_cons (de_call hCell hr hx (da_cons (de_var 0) (da_cons de_int da_nil)) ⟨ns, 0, rfl, rfl⟩) da_nil))) ⟨nmN ns, dN ns, cN ns 0, rfl, hM.mr.nl, draws_len _ _, hM.nok, rfl⟩) (de_var 3) (atI_mod (by rfl) (by decide))) hM.pd) nd ?_))))))))))
    show DB _ _ _ _ [some (scrD ns), some (.list ((dN ns).map PyData.int)), some (.list ((nmN ns).map PyData.str)), some (.int (whN ns)), some (.str (kdN ns)), some st.pd, none, none, none, none, none, none, none, none, none, none] none _
    refine (db_cons (ds_set 6 (d := .tuple [rowsD (rwN ns st), (laN ns st).pd]) (de_call hMr hr hx (da_cons (de_var 4) (da_cons (de_var 5) (da_cons (de_var 2) (da_cons (de_lst (da_cons (de_call hCell hr hx (da_cons (de_var 0) (da_cons de_int da_nil)) ⟨ns, 1, rfl, rfl⟩) (da_cons (de_call hCell hr hx (da_cons (de_var 0) (da_cons de_int da_nil)) ⟨ns, 2, rfl, rfl⟩) da_nil))) da_nil)))) ⟨kdN ns, st, nmN ns, cN ns 1, cN ns 2, rfl, hM.mr, rfl⟩) nd (db_cons (ds_if (dt_cmp op_isN (de_var 6) de_non od_isN) (fun k1 => absurd k1 (by simp [isNonD])) (fun k1 => db_nil (db_cons (ds_asg (de_var 6) (td_tup rfl (tds_cons (td_name 7 nd) (tds_cons (td_name 8 nd) tds_nil fun h1 h2 => pgs_cons h1 h2) fun h1 h2 => pgs_cons h1 h2)) (f_tup (f_cons (f_name (f_cons (f_name (f_nil (db_cons (ds_set 9 (d := .list ((pkN ns).map PyData.int)) (de_call hDr hr hx (da_cons (de_call hCell hr hx (da_cons (de_var 0) (da_cons de_int da_nil)) ⟨ns, 3, rfl, rfl⟩) (da_cons de_int da_nil)) ⟨cN ns 3, 5, rfl, by decide, rfl⟩) nd ?_))))))) rfl))))))))
    show DB _ _ _ _ [some (scrD ns), some (.list ((dN ns).map PyData.int)), some (.list ((nmN ns).map PyData.str)), some (.int (whN ns)), some (.str (kdN ns)), some st.pd, some (.tuple [rowsD (rwN ns st), (laN ns st).pd]), some (rowsD (rwN ns st)), some (laN ns st).pd, some (.list ((pkN ns).map PyData.int)), none, none, none, none, none, none] none _
    refine db_made (i := 6) rfl T hr hS hC nd hA hx ⟨.int ((pkN ns).getD 0 0), rfl, rfl, rfl⟩ (Nat.le_of_ble_eq_true rfl) (de_ixL (d := .int ((pkN ns).getD 0 0)) (de_var 9) de_int (atN (k := 0) (by rw [draws_len]; decide))) (log_small (n := (pkN ns).getD 0 0) ⟨(draw_r (cN ns 3) 5 0 (by decide)).1, Int.lt_trans (draw_r (cN ns 3) 5 0 (by decide)).2 (by decide)⟩) (de_ixL (d := .int ((pkN ns).getD 0 0)) (de_var 9) de_int (atN (k := 0) (by rw [draws_len]; decide))) ?_
    show DB _ _ _ _ [some (scrD ns), some (.list ((dN ns).map PyData.int)), some (.list ((nmN ns).map PyData.str)), some (.int (whN ns)), some (.str (kdN ns)), some st.pd, none, some (rowsD (rwN ns st)), some (laN ns st).pd, some (.list ((pkN ns).map PyData.int)), none, none, none, none, none, none] none _
    refine (db_cons (ds_set 10 (d := rowsD (otN ns st)) (de_call hEx hr hx (da_cons (de_var 7) (da_cons (de_ixL (d := .int ((pkN ns).getD 0 0)) (de_var 9) de_int (atN (k := 0) (by rw [draws_len]; decide))) da_nil)) ⟨rwN ns st, _, rfl, by have := rw_len ns st; omega, rfl⟩) nd (db_cons (ds_set 11 (d := rowsD (duN ns st)) (de_call hOr hr hx (da_cons (de_var 7) da_nil) ⟨rwN ns st, rfl, by have := rw_len ns st; omega, (fun r hr => strOk_nm (hM.b1.r1 r hr).nm.1), rfl⟩) nd (db_cons (ds_if (dt_not (dt_val (de_call hBk hr hx (da_cons (de_var 4) (da_cons (de_var 5) (da_cons (de_var 7) (da_cons (de_var 10) (da_cons (de_var 11) (da_cons (de_var 8) da_nil)))))) ⟨kdN ns, st, laN ns st, rwN ns st, otN ns st, rfl, hM.b1, rfl⟩))) (fun k1 => absurd (show false = true from k1) Bool.false_ne_true) (fun k1 => db_nil ?_)))))))
    have fin : ∀ a b c d, DB (cxOf (L2N.CX prg w) prg w K mg base N_law "law" (fScope (topS 69)) f cdv A outer s H E) 0 (fun _ _ _ _ => False) ((fBody (topS 69)).drop 15) [some (scrD ns), some (.list ((dN ns).map PyData.int)), some (.list ((nmN ns).map PyData.str)), some (.int (whN ns)), some (.str (kdN ns)), some st.pd, none, some (rowsD (rwN ns st)), some (laN ns st).pd, some (.list ((pkN ns).map PyData.int)), some (rowsD (otN ns st)), some (rowsD (duN ns st)), a, b, c, d] none { nx := fun _ _ => PyData.bool true = .none, rt := fun e => e = PyData.bool true } := fun a b c d => (db_one (ds_ret (de_call hBk hr hx (da_cons (de_var 4) (da_cons (de_var 5) (da_cons (de_var 10) (da_cons (de_var 7) (da_cons (de_var 11) (da_cons (de_var 8) da_nil)))))) ⟨kdN ns, st, laN ns st, otN ns st, rwN ns st, by rw [hM.b1.same]; rfl, hM.b2, rfl⟩) rfl))
    have hrok := hM.b1.rep.rows
    have hmem : ∀ r ∈ duN ns st, r ∈ rwN ns st := fun r hr => (List.mergeSort_perm _ _).mem_iff.mp hr
    refine (db_cons (ds_if (dt_cmp op_gt (de_lenL M (de_var 7)) de_int od_gt) (fun k2 => ?_) (fun k2 => db_nil (fin none none none none))))
    have hpos : 0 < (rwN ns st).length := by
      have z := of_decide_eq_true k2
      rw [List.length_map] at z
      omega
    have hl20 := rw_len ns st
    have hdl := du_len ns st
    have hpl : plN ns st < (duN ns st).length := by
      rw [hdl]
      unfold plN
      have := Int.emod_nonneg ((pkN ns).getD 1 0) (show ((rwN ns st).length : Int) ≠ 0 by omega)
      have := Int.emod_lt_of_pos ((pkN ns).getD 1 0) (show 0 < ((rwN ns st).length : Int) by omega)
      omega
    have epl : (pkN ns).getD 1 0 % (((rwN ns st).map rowD).length : Int) = ((plN ns st : Nat) : Int) := by
      rw [List.length_map]
      unfold plN
      have := Int.emod_nonneg ((pkN ns).getD 1 0) (show ((rwN ns st).length : Int) ≠ 0 by omega)
      omega
    have hbl : (bhN ns st).length ≤ 20 := by unfold bhN; rw [List.length_drop]; omega
    refine (db_cons (ds_set 12 (d := .int ((plN ns st : Nat) : Int)) (DE.cast (de_mod (de_intI M (de_ixL (d := .int ((pkN ns).getD 1 0)) (de_var 9) de_int (atN (k := 1) (by rw [draws_len]; decide)))) (de_lenL M (de_var 7)) (by rw [List.length_map]; omega)) (by rw [epl])) nd (db_cons (ds_set 13 (d := rowD (chN ns st)) (de_call hCh hr hx (da_cons (de_ixL (d := rowD ((duN ns st).getD (plN ns st) default)) (de_var 11) (de_var 12) (rowsAt hpl)) (da_cons (de_ixL (d := .int ((pkN ns).getD 2 0)) (de_var 9) de_int (atN (k := 2) (by rw [draws_len]; decide))) da_nil)) ⟨_, _, rfl, (hrok _ (getD_mem hpl)).aok.len, hM.ans _ (hmem _ (getD_mem hpl)), rfl⟩) nd (db_cons (ds_set 14 (d := rowsD (bhN ns st)) (DE.cast (de_slL (de_var 11) (po_s (de_add (de_var 12) de_int)) po_n) (by rw [cut_drop (k := plN ns st + 1) (by omega)]; rfl)) nd ?_))))))
    show DB _ _ _ _ [some (scrD ns), some (.list ((dN ns).map PyData.int)), some (.list ((nmN ns).map PyData.str)), some (.int (whN ns)), some (.str (kdN ns)), some st.pd, none, some (rowsD (rwN ns st)), some (laN ns st).pd, some (.list ((pkN ns).map PyData.int)), some (rowsD (otN ns st)), some (rowsD (duN ns st)), some (.int ((plN ns st : Nat) : Int)), some (rowD (chN ns st)), some (rowsD (bhN ns st)), none] none _
    refine (db_cons (ds_if (dt_not (dt_val (de_call hRf hr hx (da_cons (de_var 4) (da_cons (de_var 5) (da_cons (DE.cast (d' := rowsD (withR ns st (bhN ns st))) (de_addL (de_addL (de_slL (de_var 11) po_n (po_s (de_var 12))) (de_lst (da_cons (de_var 13) da_nil)) (by rw [cut_take rfl, List.length_map, List.length_take]; show _ + 1 ≤ _; omega)) (de_var 14) (by rw [cut_take rfl, List.length_append, List.length_map, List.length_take, List.length_map]; show _ + 1 + _ ≤ _; omega)) (by rw [cut_take rfl]; unfold withR rowsD; simp)) (da_cons (de_ixT (de_var 13) de_int (by rfl)) da_nil)))) ⟨kdN ns, st, withR ns st (bhN ns st), (chN ns st).num, rfl, (hM.r1 hpos).1, (hM.r1 hpos).2, rfl⟩))) (fun k3 => absurd (show false = true from k3) Bool.false_ne_true) (fun k3 => db_nil (db_one (ds_if (dt_cmp op_gt (de_lenL M (de_var 14)) de_int od_gt) (fun k4 => ?_) (fun k4 => db_nil (fin _ _ _ _)))))))
    have hposB : 0 < (bhN ns st).length := by
      have z := of_decide_eq_true k4
      rw [List.length_map] at z
      omega
    have hat : atN2 ns st < (bhN ns st).length := by
      unfold atN2
      have := Int.emod_nonneg ((pkN ns).getD 3 0) (show ((bhN ns st).length : Int) ≠ 0 by omega)
      have := Int.emod_lt_of_pos ((pkN ns).getD 3 0) (show 0 < ((bhN ns st).length : Int) by omega)
      omega
    have eat : (pkN ns).getD 3 0 % (((bhN ns st).map rowD).length : Int) = ((atN2 ns st : Nat) : Int) := by
      rw [List.length_map]
      unfold atN2
      have := Int.emod_nonneg ((pkN ns).getD 3 0) (show ((bhN ns st).length : Int) ≠ 0 by omega)
      omega
    have hbm : ∀ r ∈ bhN ns st, r ∈ duN ns st := fun r hr => List.mem_of_mem_drop hr
    have hb2 : (b2N ns st).length ≤ 100 := by
      unfold b2N
      rw [List.length_append, List.length_append, List.length_take, List.length_drop]
      show _ + 1 + _ ≤ _
      omega
    refine (db_cons (ds_set 15 (d := .int ((atN2 ns st : Nat) : Int)) (DE.cast (de_mod (de_intI M (de_ixL (d := .int ((pkN ns).getD 3 0)) (de_var 9) de_int (atN (k := 3) (by rw [draws_len]; decide)))) (de_lenL M (de_var 14)) (by rw [List.length_map]; omega)) (by rw [eat])) nd (db_cons (ds_set 14 (d := rowsD (b2N ns st)) (DE.cast (d' := rowsD (b2N ns st)) (de_addL (de_addL (de_slL (de_var 14) po_n (po_s (de_var 15))) (de_lst (da_cons (de_call hCh hr hx (da_cons (de_ixL (d := rowD ((bhN ns st).getD (atN2 ns st) default)) (de_var 14) (de_var 15) (rowsAt hat)) (da_cons (de_ixL (d := .int ((pkN ns).getD 4 0)) (de_var 9) de_int (atN (k := 4) (by rw [draws_len]; decide))) da_nil)) ⟨_, _, rfl, (hrok _ (hbm _ (getD_mem hat))).aok.len, hM.ans _ (hmem _ (hbm _ (getD_mem hat))), rfl⟩) da_nil)) (by rw [cut_take rfl, List.length_map, List.length_take]; show _ + 1 ≤ _; omega)) (de_slL (de_var 14) (po_s (de_add (de_var 15) de_int)) po_n) (by rw [cut_take rfl, cut_drop (k := atN2 ns st + 1) (by omega), List.length_append, List.length_map, List.length_take, List.length_map, List.length_drop]; show _ + 1 + _ ≤ _; omega)) (by rw [cut_take rfl, cut_drop (k := atN2 ns st + 1) (by omega)]; unfold b2N rowsD; simp)) nd ?_))))
    show DB _ _ _ _ [some (scrD ns), some (.list ((dN ns).map PyData.int)), some (.list ((nmN ns).map PyData.str)), some (.int (whN ns)), some (.str (kdN ns)), some st.pd, none, some (rowsD (rwN ns st)), some (laN ns st).pd, some (.list ((pkN ns).map PyData.int)), some (rowsD (otN ns st)), some (rowsD (duN ns st)), some (.int ((plN ns st : Nat) : Int)), some (rowD (chN ns st)), some (rowsD (b2N ns st)), some (.int ((atN2 ns st : Nat) : Int))] none _
    refine (db_one (ds_if (dt_not (dt_val (de_call hRf hr hx (da_cons (de_var 4) (da_cons (de_var 5) (da_cons (DE.cast (d' := rowsD (withR ns st (b2N ns st))) (de_addL (de_addL (de_slL (de_var 11) po_n (po_s (de_var 12))) (de_lst (da_cons (de_var 13) da_nil)) (by rw [cut_take rfl, List.length_map, List.length_take]; show _ + 1 ≤ _; omega)) (de_var 14) (by rw [cut_take rfl, List.length_append, List.length_map, List.length_take, List.length_map]; show _ + 1 + _ ≤ _; omega)) (by rw [cut_take rfl]; unfold withR rowsD; simp)) (da_cons (de_ixT (de_var 13) de_int (by rfl)) da_nil)))) ⟨kdN ns, st, withR ns st (b2N ns st), (chN ns st).num, rfl, (hM.r2 hpos hposB).1, (hM.r2 hpos hposB).2, rfl⟩))) (fun k5 => absurd (show false = true from k5) Bool.false_ne_true) (fun k5 => db_nil (fin _ _ _ _))))
end
end K5
end PartF20
section PartF21
set_option maxRecDepth 100000
set_option maxHeartbeats 4000000
/-! The law's own def of the names. -/
namespace K5
open PySem PySem.Spec PyProof.Rows L2
section
variable {P : Program} {w : World} {K : PySem.W.Frag} {mg : Str → Option Value} {base : Heap} {CX : CXT} {f : Addr} {fd : FuncData}
def N_lnames : List Str := ["_law_draw", "_law_other", "_law_pool", "_law_steps", "_law_step", "_law_k"]
theorem sc_lnames : FnScope N_lnames ["_law_draw", "_law_other"] (fScope (topS 58)) := ⟨rfl, rfl, rfl, by decide +kernel, rfl, by decide +kernel, by decide +kernel⟩
theorem nd_lnames : N_lnames.Nodup := by decide +kernel
theorem steps_le (n : Nat) : 0 ≤ stepsL.getD n 0 ∧ stepsL.getD n 0 ≤ 29 := by
  by_cases h : n < 8
  · exact (by decide : ∀ n : Fin 8, 0 ≤ stepsL.getD n.val 0 ∧ stepsL.getD n.val 0 ≤ 29) ⟨n, h⟩
  · have : stepsL.getD n 0 = 0 := by
      rw [List.getD_eq_getElem?_getD, List.getElem?_eq_none (by show 8 ≤ n; omega)]
      rfl
    rw [this]
    decide
theorem ok_lnames (M : Blt mg) (D : FnP K "_law_names" 58 f fd) : FnOk P w K mg base CX (0 + 1) f fd ["_law_draw", "_law_other"] (spF K namesR) := by
  refine fn_spF (N := N_lnames) D sc_lnames (fun ds d h => ?_) fun ds d cdv A outer s H E hr h => ?_
  · obtain ⟨_, _, rfl, _⟩ := h
    rfl
  · have nd := nd_lnames
    obtain ⟨draw, other, rfl, rfl⟩ := h
    obtain ⟨st, est⟩ : ∃ st, stepsL.getD (other % 8).toNat 0 = st := ⟨_, rfl⟩
    have hst : 0 ≤ st ∧ st ≤ 29 := by rw [← est]; exact steps_le _
    refine (db_cons (ds_set 2 (d := .list (poolL.map PyData.str)) (de_lst (da_cons de_str (da_cons de_str (da_cons de_str (da_cons de_str (da_cons de_str (da_cons de_str (da_cons de_str (da_cons de_str (da_cons de_str (da_cons de_str (da_cons de_str (da_cons de_str (da_cons de_str (da_cons de_str (da_cons de_str (da_cons de_str (da_cons de_str (da_cons de_str (da_cons de_str (da_cons de_str (da_cons de_str (da_cons de_str (da_cons de_str (da_cons de_str (da_cons de_str (da_cons de_str (da_cons de_str (da_cons de_str (da_cons de_str (da_cons de_str da_nil))))))))))))))))))))))))))))))) nd (db_cons (ds_set 3 (d := .list (stepsL.map PyData.int)) (de_lst (da_cons de_int (da_cons de_int (da_cons de_int (da_cons de_int (da_cons de_int (da_cons de_int (da_cons de_int (da_cons de_int da_nil))))))))) nd (db_cons (ds_set 4 (d := .int st) (de_ixL (de_var 3) (de_mod (de_intI M (de_var 1)) de_int (by decide)) (by rw [← est]; exact atI_emod rfl (by decide))) nd (db_one (ds_ret (DE.cast (d' := .list ((namesF draw other).map PyData.str)) (de_lc (i := 5) (f := fun d => .str (poolL.getD ((draw + st * intOf d) % 30).toNat "")) rfl nd (it_rng M de_int (by decide) (by decide)) (by rfl) (by rw [rngD_len]; decide) (fun d hd s H C cl fp => by
      obtain ⟨j, hj, rfl⟩ := rngD_memI hd
      exact de_ixL (de_var 2) (de_mod (de_intI M (de_add (de_var 0) (de_mul (de_var 4) (de_var 5) (.inl ⟨by omega, by omega⟩)))) de_int (by decide)) (atI_emod rfl (by decide)))) (by
        unfold namesF
        rw [est]
        exact congrArg PyData.list (rng_mapS fun k => rfl))) ?_))))))))
    rfl
end
end K5
end PartF21
section PartMA1
set_option maxRecDepth 100000
set_option maxHeartbeats 4000000
/-! Mathematics: the sort. -/
namespace K5
open PySem PySem.Spec PyProof.Rows L2
theorem sLt_asym {x y : Str} (h : sLt x y = true) : sLt y x = false := by
  unfold sLt at h ⊢
  exact decide_eq_false fun z => absurd (List.lt_trans (of_decide_eq_true h) z) (List.lt_irrefl _)
theorem sLt_irr (x : Str) : sLt x x = false := decide_eq_false (List.lt_irrefl _)
theorem sLe_trans {x y z : Str} (h1 : sLt y x = false) (h2 : sLt z y = false) : sLt z x = false := by
  unfold sLt at h1 h2 ⊢
  refine decide_eq_false fun q => ?_
  have a : x.cps.toList ≤ y.cps.toList := List.not_lt.mp (of_decide_eq_false h1)
  have b : y.cps.toList ≤ z.cps.toList := List.not_lt.mp (of_decide_eq_false h2)
  exact absurd q (List.not_lt.mpr (List.le_trans a b))
theorem sLe_anti {x y : Str} (h1 : sLt y x = false) (h2 : sLt x y = false) : x = y := by
  by_cases e : x = y
  · exact e
  · rw [sLt_tri e h2] at h1
    cases h1
abbrev leR (a b : Row) : Bool := PySem.W.dataLe false rowK a b
theorem leR_iff (a b : Row) : leR a b = true ↔ a.num < b.num ∨ (a.num = b.num ∧ (isl a < isl b ∨ (isl a = isl b ∧ sLt b.life a.life = false))) := by
  show (!PySem.W.dataLt (rowK b) (rowK a)) = true ↔ _
  rw [lt_rowK]
  by_cases h1 : b.num = a.num
  · rw [if_pos h1]
    by_cases h2 : isl b = isl a
    · rw [if_pos h2]
      by_cases h3 : b.life = a.life
      · rw [if_pos h3, h3, sLt_irr]
        simp [h1, h2]
      · rw [if_neg h3]
        simp [h1, h2]
    · rw [if_neg h2]
      simp only [Bool.not_eq_true', decide_eq_false_iff_not]
      constructor
      · intro h
        exact .inr ⟨h1.symm, .inl (by omega)⟩
      · rintro (h | ⟨_, h | ⟨h, _⟩⟩)
        · omega
        · omega
        · exact absurd h.symm h2
  · rw [if_neg h1]
    simp only [Bool.not_eq_true', decide_eq_false_iff_not]
    constructor
    · intro h
      exact .inl (by omega)
    · rintro (h | ⟨h, _⟩)
      · omega
      · exact absurd h.symm h1
theorem leR_trans (a b c : Row) (h1 : leR a b = true) (h2 : leR b c = true) : leR a c = true := by
  rw [leR_iff] at h1 h2 ⊢
  rcases h1 with h1 | ⟨e1, h1⟩
  · rcases h2 with h2 | ⟨e2, h2⟩
    · exact .inl (by omega)
    · exact .inl (by omega)
  · rcases h2 with h2 | ⟨e2, h2⟩
    · exact .inl (by omega)
    · refine .inr ⟨e1.trans e2, ?_⟩
      rcases h1 with h1 | ⟨f1, h1⟩
      · rcases h2 with h2 | ⟨f2, h2⟩
        · exact .inl (by omega)
        · exact .inl (by omega)
      · rcases h2 with h2 | ⟨f2, h2⟩
        · exact .inl (by omega)
        · exact .inr ⟨f1.trans f2, sLe_trans h1 h2⟩
theorem leR_total (a b : Row) : (leR a b || leR b a) = true := by
  rw [Bool.or_eq_true, leR_iff, leR_iff]
  by_cases h1 : a.num = b.num
  · by_cases h2 : isl a = isl b
    · cases q : sLt b.life a.life with
      | false => exact .inl (.inr ⟨h1, .inr ⟨h2, rfl⟩⟩)
      | true => exact .inr (.inr ⟨h1.symm, .inr ⟨h2.symm, sLt_asym q⟩⟩)
    · by_cases h3 : isl a < isl b
      · exact .inl (.inr ⟨h1, .inl h3⟩)
      · exact .inr (.inr ⟨h1.symm, .inl (by omega)⟩)
  · by_cases h3 : a.num < b.num
    · exact .inl (.inl h3)
    · exact .inr (.inl (by omega))
/-- equal keys -/
def kt (r x : Row) : Bool := decide (x.num = r.num ∧ isl x = isl r ∧ x.life = r.life)
theorem kt_iff {r x : Row} : kt r x = true ↔ x.num = r.num ∧ isl x = isl r ∧ x.life = r.life := decide_eq_true_iff
theorem leR_anti {a b : Row} (h1 : leR a b = true) (h2 : leR b a = true) : kt a b = true := by
  rw [leR_iff] at h1 h2
  rw [kt_iff]
  rcases h1 with h1 | ⟨e1, h1⟩
  · rcases h2 with h2 | ⟨e2, h2⟩ <;> omega
  · rcases h2 with h2 | ⟨e2, h2⟩
    · omega
    · rcases h1 with h1 | ⟨f1, h1⟩
      · rcases h2 with h2 | ⟨f2, h2⟩ <;> omega
      · rcases h2 with h2 | ⟨f2, h2⟩
        · omega
        · exact ⟨e2, f2, sLe_anti h2 h1⟩
theorem kt_le {r a b : Row} (h1 : kt r a = true) (h2 : kt r b = true) : leR a b = true := by
  obtain ⟨a1, a2, a3⟩ := kt_iff.mp h1
  obtain ⟨b1, b2, b3⟩ := kt_iff.mp h2
  rw [leR_iff]
  exact .inr ⟨a1.trans b1.symm, .inr ⟨a2.trans b2.symm, by rw [b3, a3]; exact sLt_irr _⟩⟩
theorem sortR_pw (rs : List Row) : (sortR rs).Pairwise fun a b => leR a b = true := List.pairwise_mergeSort leR_trans leR_total rs
theorem sortR_perm (rs : List Row) : (sortR rs).Perm rs := List.mergeSort_perm rs _
theorem sortR_filt (rs : List Row) (r : Row) : (sortR rs).filter (kt r) = rs.filter (kt r) := by
  have pw : (rs.filter (kt r)).Pairwise fun a b => leR a b = true := List.Pairwise.imp_of_mem (R := fun _ _ => True) (fun ha hb _ => kt_le (List.mem_filter.mp ha).2 (List.mem_filter.mp hb).2) (List.pairwise_of_forall fun _ _ => trivial)
  have s1 : (rs.filter (kt r)).Sublist (sortR rs) := List.sublist_mergeSort leR_trans leR_total pw List.filter_sublist
  have s2 : ((rs.filter (kt r)).filter (kt r)).Sublist ((sortR rs).filter (kt r)) := s1.filter _
  rw [List.filter_filter] at s2
  simp only [Bool.and_self] at s2
  exact (s2.eq_of_length ((sortR_perm rs).filter (kt r)).length_eq.symm).symm
theorem sort_uni : ∀ {l1 l2 : List Row}, (l1.Pairwise fun a b => leR a b = true) → (l2.Pairwise fun a b => leR a b = true) → (∀ r, l1.filter (kt r) = l2.filter (kt r)) → l1 = l2
  | [], [], _, _, _ => rfl
  | [], b :: t, _, _, h => by
    have z := h b
    rw [List.filter_cons_of_pos (kt_iff.mpr ⟨rfl, rfl, rfl⟩)] at z
    cases z
  | a :: t, [], _, _, h => by
    have z := h a
    rw [List.filter_cons_of_pos (kt_iff.mpr ⟨rfl, rfl, rfl⟩)] at z
    cases z
  | a :: t1, b :: t2, p1, p2, h => by
    have ka : kt a a = true := kt_iff.mpr ⟨rfl, rfl, rfl⟩
    have kb : kt b b = true := kt_iff.mpr ⟨rfl, rfl, rfl⟩
    have m1 : a ∈ (b :: t2).filter (kt a) := by
      rw [← h a]
      exact List.mem_filter.mpr ⟨List.mem_cons_self, ka⟩
    have m2 : b ∈ (a :: t1).filter (kt b) := by
      rw [h b]
      exact List.mem_filter.mpr ⟨List.mem_cons_self, kb⟩
    have l1 : leR b a = true := by
      rcases List.mem_cons.mp (List.mem_filter.mp m1).1 with e | e
      · rw [e]; exact kt_le kb kb
      · exact List.rel_of_pairwise_cons p2 e
    have l2 : leR a b = true := by
      rcases List.mem_cons.mp (List.mem_filter.mp m2).1 with e | e
      · rw [e]; exact kt_le ka ka
      · exact List.rel_of_pairwise_cons p1 e
    have kab : kt a b = true := leR_anti l2 l1
    have z := h a
    rw [List.filter_cons_of_pos ka, List.filter_cons_of_pos kab] at z
    obtain ⟨e, _⟩ := List.cons.inj z
    subst e
    refine congrArg _ (sort_uni (List.Pairwise.of_cons p1) (List.Pairwise.of_cons p2) fun r => ?_)
    have z2 := h r
    cases q : kt r a with
    | true =>
      rw [List.filter_cons_of_pos q, List.filter_cons_of_pos q] at z2
      exact (List.cons.inj z2).2
    | false =>
      rw [List.filter_cons_of_neg (by rw [q]; exact Bool.false_ne_true), List.filter_cons_of_neg (by rw [q]; exact Bool.false_ne_true)] at z2
      exact z2
theorem sortR_congr {l1 l2 : List Row} (h : ∀ r, l1.filter (kt r) = l2.filter (kt r)) : sortR l1 = sortR l2 :=
  sort_uni (sortR_pw _) (sortR_pw _) fun r => by rw [sortR_filt, sortR_filt, h r]
/-! ### the exchange -/
theorem split2 {rs : List Row} {k : Nat} (h : k + 1 < rs.length) : rs = rs.take k ++ rs.getD k default :: rs.getD (k + 1) default :: rs.drop (k + 2) := by
  have e1 : rs.getD k default = rs[k]'(by omega) := by rw [List.getD_eq_getElem?_getD, List.getElem?_eq_getElem (by omega)]; rfl
  have e2 : rs.getD (k + 1) default = rs[k + 1]'h := by rw [List.getD_eq_getElem?_getD, List.getElem?_eq_getElem h]; rfl
  rw [e1, e2, ← List.drop_eq_getElem_cons h, ← List.drop_eq_getElem_cons (by omega), List.take_append_drop]
theorem exS_eq {draw : Int} {rs : List Row} {k : Nat} (h : k + 1 < rs.length) (hc : exC draw k (rs.getD k default) (rs.getD (k + 1) default) = true) : exS draw rs k = rs.take k ++ rs.getD (k + 1) default :: rs.getD k default :: rs.drop (k + 2) := by
  unfold exS
  rw [if_pos hc]
  obtain ⟨a, ea⟩ : ∃ a, rs.getD k default = a := ⟨_, rfl⟩
  obtain ⟨b, eb⟩ : ∃ b, rs.getD (k + 1) default = b := ⟨_, rfl⟩
  have z := split2 h
  rw [ea, eb] at z ⊢
  have lt : (rs.take k).length = k := by rw [List.length_take]; omega
  obtain ⟨P, eP⟩ : ∃ P, rs.take k = P := ⟨_, rfl⟩
  obtain ⟨T, eT⟩ : ∃ T, rs.drop (k + 2) = T := ⟨_, rfl⟩
  rw [eP] at z lt ⊢
  rw [eT] at z ⊢
  rw [z, ← lt, List.set_append_right _ _ (Nat.le_refl _), Nat.sub_self, List.set_cons_zero, List.set_append_right _ _ (by omega), show P.length + 1 - P.length = 1 by omega, List.set_cons_succ, List.set_cons_zero]
theorem exS_filt {draw : Int} {rs : List Row} {k : Nat} (h : k + 1 < rs.length) (r : Row) : (exS draw rs k).filter (kt r) = rs.filter (kt r) := by
  cases hc : exC draw k (rs.getD k default) (rs.getD (k + 1) default) with
  | false =>
    unfold exS
    rw [hc, if_neg Bool.false_ne_true]
  | true =>
    rw [exS_eq h hc]
    have z := split2 h
    obtain ⟨a, ea⟩ : ∃ a, rs.getD k default = a := ⟨_, rfl⟩
    obtain ⟨b, eb⟩ : ∃ b, rs.getD (k + 1) default = b := ⟨_, rfl⟩
    rw [ea, eb] at z hc
    have hl : a.life ≠ b.life := by
      unfold exC at hc
      simp only [Bool.and_eq_true, Bool.not_eq_true'] at hc
      exact nes hc.2.2.2.1
    rw [ea, eb]
    conv => rhs; rw [z]
    rw [List.filter_append, List.filter_append]
    refine congrArg _ ?_
    cases qa : kt r a with
    | false =>
      cases qb : kt r b with
      | false => simp [List.filter_cons, qa, qb]
      | true => simp [List.filter_cons, qa, qb]
    | true =>
      cases qb : kt r b with
      | false => simp [List.filter_cons, qa, qb]
      | true => exact absurd ((kt_iff.mp qa).2.2.trans (kt_iff.mp qb).2.2.symm) hl
theorem exS_perm {draw : Int} {rs : List Row} {k : Nat} (h : k + 1 < rs.length) : (exS draw rs k).Perm rs := by
  cases hc : exC draw k (rs.getD k default) (rs.getD (k + 1) default) with
  | false =>
    unfold exS
    rw [hc, if_neg Bool.false_ne_true]
  | true =>
    rw [exS_eq h hc]
    conv => rhs; rw [split2 h]
    exact List.Perm.append_left _ (List.Perm.swap ..)
theorem ex_all (draw : Int) (rs : List Row) : ∀ i, i + 1 ≤ rs.length → (∀ r, ((List.range i).foldl (exS draw) rs).filter (kt r) = rs.filter (kt r)) ∧ ((List.range i).foldl (exS draw) rs).Perm rs
  | 0, _ => ⟨fun _ => rfl, .refl _⟩
  | i + 1, h => by
    obtain ⟨h1, h2⟩ := ex_all draw rs i (by omega)
    rw [List.range_succ, List.foldl_append]
    have hl : i + 1 < ((List.range i).foldl (exS draw) rs).length := by
      rw [h2.length_eq]
      omega
    exact ⟨fun r => (exS_filt hl r).trans (h1 r), (exS_perm hl).trans h2⟩
theorem exF_all (draw : Int) (rs : List Row) : sortR (exF draw rs) = sortR rs ∧ (exF draw rs).Perm rs := by
  unfold exF
  by_cases h : rs.length = 0
  · rw [h]
    exact ⟨rfl, .refl _⟩
  · obtain ⟨h1, h2⟩ := ex_all draw rs (rs.length - 1) (by omega)
    exact ⟨sortR_congr h1, h2⟩
end K5
end PartMA1
section PartMA2
set_option maxRecDepth 100000
set_option maxHeartbeats 4000000
/-! Mathematics: the replay of a sorted list. -/
namespace K5
open PySem PySem.Spec PyProof.Rows L2
theorem isl_look {r : Row} (h : r.mode = "look") : isl r = 1 := by unfold isl; rw [if_pos h]
theorem isl_chg {r : Row} (h : r.mode = "change") : isl r = 0 := by unfold isl; rw [if_neg (by rw [h]; decide)]
theorem md_ne {r : Row} (h : r.mode = "look") (g : r.mode = "change") : False := by
  rw [h] at g
  exact absurd g (by decide)
/-- a row that is true to the states S -/
def Val (kind : Str) (S : Nat → St) (r : Row) : Prop :=
  (r.mode = "look" ∧ ∃ n : Nat, r.num = n ∧ okB kind (S n) n r = true ∧ (deedF (S n) r.life r.deed r.args).1 = S n ∧ (deedF (S n) r.life r.deed r.args).2 = r.ans) ∨
  (r.mode = "change" ∧ ∃ n : Nat, r.num = (n : Int) + 1 ∧ okB kind (S n) n r = true ∧ (deedF (S n) r.life r.deed r.args).1 = S (n + 1) ∧ (deedF (S n) r.life r.deed r.args).2 = r.ans)
theorem Val.congr {kind : Str} {S T : Nat → St} {r : Row} {M : Nat} (h : Val kind S r) (hm : r.num ≤ M) (e : ∀ n, n ≤ M → T n = S n) : Val kind T r := by
  rcases h with ⟨h1, n, h2, h3, h4, h5⟩ | ⟨h1, n, h2, h3, h4, h5⟩
  · exact .inl ⟨h1, n, h2, by rw [e n (by omega)]; exact h3, by rw [e n (by omega)]; exact h4, by rw [e n (by omega)]; exact h5⟩
  · exact .inr ⟨h1, n, h2, by rw [e n (by omega)]; exact h3, by rw [e n (by omega), e (n + 1) (by omega)]; exact h4, by rw [e n (by omega)]; exact h5⟩
def distR (a b : Row) : Prop := a.mode = "change" → b.mode = "change" → a.num ≠ b.num
theorem distR_symm {a b : Row} (h : distR a b) : distR b a := fun h1 h2 e => h h2 h1 e.symm
structure Cond (kind : Str) (S : Nat → St) (m : Nat) (L : List Row) : Prop where
  pw : L.Pairwise fun a b => leR a b = true
  val : ∀ r ∈ L, Val kind S r
  lo : ∀ r ∈ L, (m : Int) ≤ r.num ∧ (r.num = m → r.mode = "look")
  dist : L.Pairwise distR
  all : ∀ r ∈ L, ∀ n : Nat, m < n → (n : Int) ≤ r.num → ∃ c ∈ L, c.mode = "change" ∧ c.num = n
theorem le_num {a b : Row} (h : leR a b = true) : a.num ≤ b.num := by
  rw [leR_iff] at h
  rcases h with h | ⟨h, _⟩ <;> omega
theorem le_lc {a b : Row} (h : leR a b = true) (ha : a.mode = "look") (hb : b.mode = "change") : a.num < b.num := by
  rw [leR_iff, isl_look ha, isl_chg hb] at h
  rcases h with h | ⟨_, h | ⟨h, _⟩⟩
  · exact h
  · omega
  · omega
theorem Cond.step {kind : Str} {S : Nat → St} {m : Nat} {r : Row} {Q : List Row} (C : Cond kind S m (r :: Q)) : ∃ m2 : Nat, okB kind (S m) m r = true ∧ (deedF (S m) r.life r.deed r.args).1 = S m2 ∧ r.num = m2 ∧ m ≤ m2 ∧ (deedF (S m) r.life r.deed r.args).2 = r.ans ∧ Cond kind S m2 Q := by
  have hr := List.mem_cons_self (a := r) (l := Q)
  obtain ⟨l1, l2⟩ := C.lo r hr
  have pr := fun c hc => List.rel_of_pairwise_cons C.pw (a' := c) hc
  have dr := fun c hc => List.rel_of_pairwise_cons C.dist (a' := c) hc
  rcases C.val r hr with ⟨h1, n, h2, h3, h4, ha⟩ | ⟨h1, n, h2, h3, h4, ha⟩
  · have e : n = m := by
      rcases Nat.lt_or_ge m n with z | z
      · obtain ⟨c, hc, c1, c2⟩ := C.all r hr (m + 1) (by omega) (by omega)
        rcases List.mem_cons.mp hc with rfl | hc
        · exact (md_ne h1 c1).elim
        · have := le_lc (pr c hc) h1 c1
          omega
      · omega
    subst e
    refine ⟨n, h3, h4, h2, Nat.le_refl _, ha, C.pw.of_cons, fun x hx => C.val x (List.mem_cons_of_mem _ hx), fun x hx => C.lo x (List.mem_cons_of_mem _ hx), C.dist.of_cons, fun x hx k h5 h6 => ?_⟩
    obtain ⟨c, hc, c1, c2⟩ := C.all x (List.mem_cons_of_mem _ hx) k h5 h6
    rcases List.mem_cons.mp hc with rfl | hc
    · exact (md_ne h1 c1).elim
    · exact ⟨c, hc, c1, c2⟩
  · have e : n = m := by
      rcases Nat.lt_or_ge m n with z | z
      · obtain ⟨c, hc, c1, c2⟩ := C.all r hr (m + 1) (by omega) (by omega)
        rcases List.mem_cons.mp hc with rfl | hc
        · omega
        · have := le_num (pr c hc)
          omega
      · rcases Nat.lt_or_ge n m with z2 | z2
        · have : r.num = m := by omega
          exact (md_ne (l2 this) h1).elim
        · omega
    subst e
    refine ⟨n + 1, h3, h4, by omega, by omega, ha, C.pw.of_cons, fun x hx => C.val x (List.mem_cons_of_mem _ hx), fun x hx => ⟨?_, fun hn => ?_⟩, C.dist.of_cons, fun x hx k h5 h6 => ?_⟩
    · have := le_num (pr x hx)
      omega
    · rcases C.val x (List.mem_cons_of_mem _ hx) with ⟨g, _⟩ | ⟨g, _⟩
      · exact g
      · exact absurd (show r.num = x.num by omega) (dr x hx h1 g)
    · obtain ⟨c, hc, c1, c2⟩ := C.all x (List.mem_cons_of_mem _ hx) k (by omega) h6
      rcases List.mem_cons.mp hc with rfl | hc
      · omega
      · exact ⟨c, hc, c1, c2⟩
theorem Cond.run {kind : Str} {S : Nat → St} : ∀ (P : List Row) {m : Nat} {L : List Row}, Cond kind S m (P ++ L) → ∃ m2 : Nat, Cond kind S m2 L ∧ m ≤ m2 ∧ (∀ r ∈ P, r.num ≤ m2) ∧ (m2 = m ∨ ∃ r ∈ P, r.num = m2) ∧ ∀ L', replF kind (S m) m (P ++ L') = replF kind (S m2) m2 L'
  | [], m, L, C => ⟨m, C, Nat.le_refl _, (fun _ h => nomatch h), .inl rfl, fun _ => rfl⟩
  | r :: P, m, L, C => by
    obtain ⟨m1, h1, h2, h3, h4, _, C1⟩ := Cond.step (Q := P ++ L) C
    obtain ⟨m2, C2, g1, g2, g3, g4⟩ := Cond.run P C1
    refine ⟨m2, C2, Nat.le_trans h4 g1, fun x hx => ?_, ?_, fun L' => ?_⟩
    · rcases List.mem_cons.mp hx with rfl | hx
      · omega
      · exact g2 x hx
    · rcases g3 with g3 | ⟨x, hx, g3⟩
      · exact .inr ⟨r, List.mem_cons_self, by omega⟩
      · exact .inr ⟨x, List.mem_cons_of_mem _ hx, g3⟩
    · show (if okB kind (S m) m r = true then replF kind (deedF (S m) r.life r.deed r.args).1 r.num (P ++ L') else .inr r.num) = _
      rw [if_pos h1, h2, h3, g4]
/-- what the made rows are -/
structure Book (kind : Str) (S : Nat → St) (M : Nat) (rs : List Row) : Prop where
  val : ∀ r ∈ rs, Val kind S r
  hi : ∀ r ∈ rs, r.num ≤ M
  dist : rs.Pairwise distR
  all : ∀ n : Nat, 0 < n → n ≤ M → ∃ c ∈ rs, c.mode = "change" ∧ c.num = n
theorem Book.cond {kind : Str} {S : Nat → St} {M : Nat} {rs : List Row} (B : Book kind S M rs) : Cond kind S 0 (sortR rs) := by
  have pm := sortR_perm rs
  refine ⟨sortR_pw rs, fun r hr => B.val r (pm.mem_iff.mp hr), fun r hr => ⟨?_, fun hn => ?_⟩, (pm.pairwise_iff fun h => distR_symm h).mpr B.dist, fun r hr n h1 h2 => ?_⟩
  · rcases B.val r (pm.mem_iff.mp hr) with ⟨_, n, h, _⟩ | ⟨_, n, h, _⟩ <;> omega
  · rcases B.val r (pm.mem_iff.mp hr) with ⟨g, n, h, _⟩ | ⟨_, n, h, _⟩
    · exact g
    · omega
  · obtain ⟨c, hc, c1, c2⟩ := B.all n h1 (by have := B.hi r (pm.mem_iff.mp hr); omega)
    exact ⟨c, pm.mem_iff.mpr hc, c1, c2⟩
theorem Book.run {kind : Str} {S : Nat → St} {M : Nat} {rs : List Row} (B : Book kind S M rs) : replF kind (S 0) 0 (sortR rs) = .inl (S M) := by
  have C := B.cond
  have C2 : Cond kind S 0 (sortR rs ++ []) := by rw [List.append_nil]; exact C
  obtain ⟨m2, _, _, g2, g3, g4⟩ := Cond.run (sortR rs) C2
  have z := g4 []
  rw [List.append_nil] at z
  have e : m2 = M := by
    have a : m2 ≤ M := by
      rcases g3 with g3 | ⟨x, hx, g3⟩
      · omega
      · have := B.hi x ((sortR_perm rs).mem_iff.mp hx)
        omega
    rcases Nat.lt_or_ge m2 M with q | q
    · obtain ⟨c, hc, c1, c2⟩ := B.all M (by omega) (Nat.le_refl _)
      have := g2 c ((sortR_perm rs).mem_iff.mpr hc)
      omega
    · omega
  rw [e] at z
  exact z
/-- a row put off: the replay stops at it -/
theorem Book.bad {kind : Str} {S : Nat → St} {M : Nat} {rs : List Row} (B : Book kind S M rs) {j : Nat} (hj : j < (sortR rs).length) {ch : Row} (hb : ∀ st m, okB kind st m ((sortR rs).getD j default) = true → (deedF st ((sortR rs).getD j default).life ((sortR rs).getD j default).deed ((sortR rs).getD j default).args).2 = ((sortR rs).getD j default).ans → okB kind st m ch = false) (bs : List Row) :
    replF kind (S 0) 0 ((sortR rs).take j ++ [ch] ++ bs) = .inr ch.num := by
  have C := B.cond
  have e : sortR rs = (sortR rs).take j ++ (sortR rs).getD j default :: (sortR rs).drop (j + 1) := by
    have e1 : (sortR rs).getD j default = (sortR rs)[j]'hj := by rw [List.getD_eq_getElem?_getD, List.getElem?_eq_getElem hj]; rfl
    rw [e1, ← List.drop_eq_getElem_cons hj, List.take_append_drop]
  rw [e] at C
  obtain ⟨m2, C2, _, _, _, g4⟩ := Cond.run _ C
  obtain ⟨_, h1, _, _, _, h2, _⟩ := C2.step
  rw [List.append_assoc, show ((0 : Nat) : Int) = 0 from rfl] at *
  rw [g4]
  show (if okB kind (S m2) m2 ch = true then replF kind (deedF (S m2) ch.life ch.deed ch.args).1 ch.num _ else .inr ch.num) = _
  rw [if_neg (by rw [hb _ _ h1 h2]; exact Bool.false_ne_true)]
end K5
end PartMA2
section PartMA3
set_option maxRecDepth 100000
set_option maxHeartbeats 4000000
/-! Mathematics: a changed row is refused; bounds. -/
namespace K5
open PySem PySem.Spec PyProof.Rows L2
def ansG (a : PD) : Prop := scOk a ∨ ∃ ws : List Str, a = strsD ws ∧ (∀ x ∈ ws, nmOk x) ∧ ws.length ≤ 900
structure RG (r : Row) : Prop where
  nm : nmOk r.life
  len : r.args.length ≤ 20
  sc : ∀ v ∈ r.args, scOk v
  ans : ansG r.ans
  mode : r.mode = "look" ∨ r.mode = "change"
  deed : okD 1000 0 (.str r.deed) = true
  num : 0 ≤ r.num ∧ r.num ≤ 20
theorem ok1000 {n m : Nat} {d : PD} (h : okD 100 n d = true) (l : n ≤ m) : okD 1000 m d = true := ok_up (okD_len (by omega) h) l
theorem ansG.ok {a : PD} (h : ansG a) : okD 1000 60 a = true := by
  rcases h with h | ⟨ws, rfl, h, _⟩
  · exact ok1000 h (by omega)
  · exact ok1000 (ok_strs (n := 0) h) (by omega)
theorem ansG.ansOk {a : PD} (h : ansG a) : ansOk a := by
  refine ⟨ok_up h.ok (by omega), fun ds e => ?_, fun ds e => ?_⟩
  · rcases h with h | ⟨ws, h, _, hl⟩
    · rw [e] at h
      cases h
    · rw [e] at h
      have z := PyData.tuple.inj h
      rw [z, List.length_map]
      omega
  · rcases h with h | ⟨ws, h, _, hl⟩
    · rw [e] at h
      cases h
    · rw [e] at h
      cases h
theorem RG.rowOk {r : Row} (h : RG r) : RowOk r := by
  refine ⟨h.nm, ⟨by have := h.len; omega, h.sc⟩, h.ans.ok, ?_, h.deed, log_small ⟨h.num.1, by have := h.num.2; omega⟩⟩
  rcases h.mode with e | e <;> rw [e] <;> decide +kernel
theorem okB_iff {kind : Str} {st : St} {m : Int} {r : Row} : okB kind st m r = true ↔ fitsF kind r.deed r.args = true ∧ (touF st m r.life r.deed r.args).1 = r.num ∧ (touF st m r.life r.deed r.args).2 = r.mode ∧ PyData.eqv (deedF st r.life r.deed r.args).2 r.ans = true := by
  unfold okB
  rw [eqv_int, eqv_str]
  simp [and_assoc]
theorem fit_inv2 {kind deed : Str} {args : List PD} (h : fitsF kind deed args = true) : ∃ sh, shOf kind deed = some sh ∧ ([kind, deed], sh) ∈ shapesL ∧ fitS (shape2 sh args.length) args = true := by
  unfold fitsF at h
  cases e : shOf kind deed with
  | none =>
    rw [e] at h
    cases h
  | some sh =>
    rw [e] at h
    refine ⟨sh, rfl, ?_, h⟩
    unfold shOf at e
    obtain ⟨kv, h1, h2⟩ := Option.map_eq_some_iff.mp e
    have z := List.mem_of_find?_eq_some h1
    have z2 := List.find?_some h1
    have z3 : kv.1 = [kind, deed] := of_decide_eq_true z2
    rw [← z3, ← h2]
    exact z
theorem no_fly : ∀ e ∈ shapesL, e.1.getD 1 "" ≠ ("fly" : Str) := by decide +kernel
theorem born_sh : ∀ e ∈ shapesL, (bornL.any fun y => y == e.1.getD 1 "") = true → e.2 = (["word", "more"] : List Str) := by decide +kernel
theorem more_sh : ∀ e ∈ shapesL, (bornL.any fun y => y == e.1.getD 1 "") = false → PyData.eqv (.tuple (cutD (e.2.map PyData.str) (some (-1)) none)) (.tuple [.str "more"]) = false := by decide +kernel
theorem fitS_len {sh : List Str} {args : List PD} (h : fitS sh args = true) : sh.length = args.length := by
  unfold fitS at h
  by_cases e : sh.length ≠ args.length
  · rw [if_pos e] at h
    cases h
  · exact Decidable.of_not_not e
theorem shape2_no {sh : List Str} (h : PyData.eqv (.tuple (cutD (sh.map PyData.str) (some (-1)) none)) (.tuple [.str "more"]) = false) (n : Nat) : shape2 sh n = sh := by
  unfold shape2
  rw [if_neg (by rw [h]; exact Bool.false_ne_true)]
theorem str_app_ne (x : Str) : x ≠ x ++ "x" := fun h => by
  have e : (x ++ "x" : Str).cps = x.cps ++ ("x" : Str).cps := rfl
  have z : x.cps.size = (x.cps ++ ("x" : Str).cps).size := by
    rw [← e, ← h]
  rw [Array.size_append] at z
  have : ("x" : Str).cps.size = 1 := by decide +kernel
  omega
theorem eqv_tup (ds es : List PD) : PyData.eqv (.tuple ds) (.tuple es) = PyData.eqvAll ds es := by unfold PyData.eqv; rfl
theorem chA_ne {r : Row} {draw : Int} (h : ansG r.ans) (hl : nmOk r.life) : PyData.eqv r.ans (chA r draw) = false := by
  unfold chA
  rcases h with h | ⟨ws, e, hw, _⟩
  · cases q : r.ans with
    | none => simp [PyData.eqv]
    | str x =>
      dsimp only
      split
      · rw [eqv_str]
        exact decide_eq_false (str_app_ne x)
      · simp [PyData.eqv]
    | int i =>
      dsimp only
      split
      · rw [eqv_int]
        exact decide_eq_false (by omega)
      · rw [eqv_int]
        exact decide_eq_false (by omega)
    | bool b => rw [q] at h; cases h
    | tuple b => rw [q] at h; cases h
    | list b => rw [q] at h; cases h
    | dict b => rw [q] at h; cases h
  · rw [e]
    show PyData.eqv (.tuple (ws.map PyData.str)) (.tuple (if _ then cutD (ws.map PyData.str) (some 1) none ++ [PyData.str "zz"] else ws.map PyData.str ++ [PyData.str r.life])) = false
    rw [eqv_tup]
    split
    · rw [cut1, ← List.map_tail, show ws.tail.map PyData.str ++ [PyData.str "zz"] = (ws.tail ++ [("zz" : Str)]).map PyData.str by rw [List.map_append]; rfl, eqv_strs]
      refine decide_eq_false fun z => ?_
      have m : ("zz" : Str) ∈ ws := by
        rw [z]
        exact List.mem_append_right _ List.mem_cons_self
      exact (hw _ m).2 rfl
    · rw [show ws.map PyData.str ++ [PyData.str r.life] = (ws ++ [r.life]).map PyData.str by rw [List.map_append]; rfl, eqv_strs]
      refine decide_eq_false fun z => ?_
      have := congrArg List.length z
      rw [List.length_append] at this
      simp at this
theorem ch_bad {kind : Str} {r : Row} (hr : RG r) (draw : Int) (st : St) (m : Int) (h : okB kind st m r = true) (ha : (deedF st r.life r.deed r.args).2 = r.ans) : okB kind st m (chF r draw) = false := by
  obtain ⟨h1, h2, h3, h4⟩ := okB_iff.mp h
  rw [← Bool.not_eq_true, okB_iff]
  rintro ⟨g1, g2, g3, g4⟩
  unfold chF at g1 g2 g3 g4
  by_cases e0 : draw % 4 = 0
  · rw [if_pos e0] at g2
    have z : r.num = r.num + (if (turB draw && decide (0 < r.num)) = true then -1 else 1) := h2.symm.trans g2
    split at z <;> omega
  · rw [if_neg e0] at g1 g2 g3 g4
    by_cases e1 : draw % 4 = 1
    · rw [if_pos e1] at g3
      have z : r.mode = (if PyData.eqv (.str r.mode) (.str "look") = true then ("change" : Str) else ("look" : Str)) := h3.symm.trans g3
      split at z
      · rename_i q
        rw [eqs q] at z
        exact absurd z (by decide)
      · rename_i q
        exact q (by rw [z]; decide +kernel)
    · rw [if_neg e1] at g1 g2 g3 g4
      by_cases e2 : draw % 4 = 2
      · rw [if_pos e2] at g1
        by_cases e3 : turB draw = true
        · rw [if_pos e3] at g1
          obtain ⟨sh, a1, a2, a3⟩ := fit_inv2 h1
          obtain ⟨sh2, b1, b2, b3⟩ := fit_inv2 (deed := r.deed) g1
          rw [a1] at b1
          cases b1
          dsimp only at b3
          cases q : bornL.any fun y => y == r.deed with
          | true =>
            rw [q, if_pos rfl] at b3
            have z : sh = (["word", "more"] : List Str) := born_sh _ b2 q
            rw [z] at b3
            exact absurd b3 (by decide +kernel)
          | false =>
            rw [q, if_neg Bool.false_ne_true] at b3
            have z := more_sh _ b2 q
            rw [shape2_no z] at a3 b3
            have y1 : sh.length = r.args.length := fitS_len a3
            have y2 : sh.length = (r.args ++ [PyData.none]).length := fitS_len b3
            rw [List.length_append, List.length_singleton] at y2
            omega
        · rw [if_neg e3] at g1
          obtain ⟨sh2, b1, b2, b3⟩ := fit_inv2 (deed := "fly") g1
          exact no_fly _ b2 rfl
      · rw [if_neg e2] at g4
        have z : PyData.eqv (deedF st r.life r.deed r.args).2 (chA r draw) = true := g4
        rw [ha, chA_ne hr.ans hr.nm] at z
        cases z
theorem ok_appx {x : Str} (h : okD 100 0 (.str x) = true) : okD 1000 0 (.str (x ++ "x")) = true := by
  unfold okD at h ⊢
  obtain ⟨h1, h2⟩ := Bool.and_eq_true_iff.mp h
  have h3 := of_decide_eq_true h2
  refine Bool.and_eq_true_iff.mpr ⟨?_, decide_eq_true ?_⟩
  · unfold PyData.strOk at h1 ⊢
    have e : (x ++ "x" : Str).cps = x.cps ++ ("x" : Str).cps := rfl
    rw [e, Array.all_append, h1]
    decide +kernel
  · have e : (x ++ "x" : Str).cps = x.cps ++ ("x" : Str).cps := rfl
    show (x ++ "x" : Str).cps.size ≤ 1000
    rw [e, Array.size_append]
    have : ("x" : Str).cps.size = 1 := by decide +kernel
    have : x.cps.size ≤ 100 := h3
    omega
theorem chA_ok {r : Row} {draw : Int} (h : ansG r.ans) (hl : nmOk r.life) : okD 1000 60 (chA r draw) = true := by
  unfold chA
  rcases h with h | ⟨ws, e, hw, _⟩
  · cases q : r.ans with
    | none => exact ok_int
    | str x =>
      dsimp only
      split
      · rw [q] at h
        exact ok_up (ok_appx h) (by omega)
      · exact ok_non
    | int i =>
      dsimp only
      split <;> exact ok_int
    | bool b => rw [q] at h; cases h
    | tuple b => rw [q] at h; cases h
    | list b => rw [q] at h; cases h
    | dict b => rw [q] at h; cases h
  · rw [e]
    show okD 1000 60 (.tuple (if _ then cutD (ws.map PyData.str) (some 1) none ++ [PyData.str "zz"] else ws.map PyData.str ++ [PyData.str r.life])) = true
    refine ok_tup fun d hd => ?_
    split at hd
    · rw [cut1, ← List.map_tail] at hd
      rcases List.mem_append.mp hd with hd | hd
      · obtain ⟨x, hx, rfl⟩ := List.mem_map.mp hd
        exact ok1000 (hw x (List.mem_of_mem_tail hx)).1 (by omega)
      · rw [List.mem_singleton.mp hd]
        decide +kernel
    · rcases List.mem_append.mp hd with hd | hd
      · obtain ⟨x, hx, rfl⟩ := List.mem_map.mp hd
        exact ok1000 (hw x hx).1 (by omega)
      · rw [List.mem_singleton.mp hd]
        exact ok1000 hl.1 (by omega)
theorem fly_ok : okD 1000 0 (.str "fly") = true := by decide +kernel
theorem RG.chOk {r : Row} (h : RG r) (draw : Int) : RowOk (chF r draw) := by
  have z := h.rowOk
  unfold chF
  split
  · refine ⟨z.nm, z.aok, z.ans, z.mode, z.deed, log_small ?_⟩
    have n1 := h.num
    show 0 ≤ r.num + (if (turB draw && decide (0 < r.num)) = true then -1 else 1) ∧ r.num + (if (turB draw && decide (0 < r.num)) = true then -1 else 1) < 1000000
    split
    · rename_i q
      have := of_decide_eq_true (Bool.and_eq_true_iff.mp q).2
      omega
    · omega
  · split
    · refine ⟨z.nm, z.aok, z.ans, ?_, z.deed, z.num⟩
      have two : ∀ b : Bool, okD 1000 0 (.str (if b = true then ("change" : Str) else ("look" : Str))) = true := by decide +kernel
      exact two _
    · split
      · split
        · refine ⟨z.nm, ⟨?_, ?_⟩, z.ans, z.mode, z.deed, z.num⟩
          · show (if (bornL.any fun y => y == r.deed) = true then [] else r.args ++ [PyData.none]).length ≤ 900
            split
            · exact Nat.zero_le _
            · rw [List.length_append]
              have := h.len
              show r.args.length + 1 ≤ 900
              omega
          · show ∀ v ∈ (if (bornL.any fun y => y == r.deed) = true then [] else r.args ++ [PyData.none]), scOk v
            split
            · exact fun _ h => nomatch h
            · intro v hv
              rcases List.mem_append.mp hv with hv | hv
              · exact h.sc v hv
              · rw [List.mem_singleton.mp hv]
                exact ok_non
        · exact ⟨z.nm, z.aok, z.ans, z.mode, fly_ok, z.num⟩
      · exact ⟨z.nm, z.aok, chA_ok h.ans h.nm, z.mode, z.deed, z.num⟩
theorem alk_ans {a : PD} (h : ansG a) : alk 1 a = true := by
  rcases h with h | ⟨ws, rfl, h, hl⟩
  · exact alk_sc h
  · show (decide ((ws.map PyData.str).length ≤ 5000) && (ws.map PyData.str).all (alk 0)) = true
    rw [decide_eq_true (by rw [List.length_map]; omega)]
    refine List.all_eq_true.mpr fun d hd => ?_
    obtain ⟨x, _, rfl⟩ := List.mem_map.mp hd
    rfl
theorem alk_row {r : Row} (h : RG r) : alk 2 (rowD r) = true := by
  have z : r.args.all (alk 0) = true := List.all_eq_true.mpr fun v hv => alk_sc (h.sc v hv)
  have z2 : decide (r.args.length ≤ 5000) = true := decide_eq_true (by have := h.len; omega)
  simp [rowD, alk, z, z2, alk_ans h.ans]
theorem alk_rows {rs : List Row} (h : ∀ r ∈ rs, RG r) (hl : rs.length ≤ 5000) : alk 3 (rowsD rs) = true := by
  show (decide ((rs.map rowD).length ≤ 5000) && (rs.map rowD).all (alk 2)) = true
  rw [decide_eq_true (by rw [List.length_map]; omega)]
  refine List.all_eq_true.mpr fun d hd => ?_
  obtain ⟨x, hx, rfl⟩ := List.mem_map.mp hd
  exact alk_row (h x hx)
end K5
end PartMA3
section PartMA4
set_option maxRecDepth 100000
set_option maxHeartbeats 4000000
/-! Mathematics: states, answers, made arguments. -/
namespace K5
open PySem PySem.Spec PyProof.Rows L2
theorem strs_inj {a b : List Str} (h : a.map PyData.str = b.map PyData.str) : a = b := (List.map_inj_right fun x y e => PyData.str.inj e).mp h
theorem pairD_inj {a b : Str × Int} (h : pairD a = pairD b) : a = b := by
  obtain ⟨a1, a2⟩ := a
  obtain ⟨b1, b2⟩ := b
  unfold pairD at h
  simp only [PyData.tuple.injEq, List.cons.injEq, PyData.str.injEq, PyData.int.injEq, and_true] at h
  rw [h.1, h.2]
theorem pairs_inj {a b : HL} (h : pairsD a = pairsD b) : a = b := (List.map_inj_right fun x y e => pairD_inj e).mp (PyData.tuple.inj h)
theorem sto_inj {a b : Sto} (h : a.pd = b.pd) : a = b := by
  obtain ⟨a1, a2, a3, a4⟩ := a
  obtain ⟨b1, b2, b3, b4⟩ := b
  unfold Sto.pd storeD at h
  simp only [PyData.tuple.injEq, List.cons.injEq, PyData.int.injEq, and_true] at h
  obtain ⟨h1, h2, h3, h4⟩ := h
  rw [h1, h2, pairs_inj h3, pairs_inj h4]
theorem look_same {st : St} {l d : Str} {a : List PD} (h : (deedF st l d a).1.pd = st.pd) : (deedF st l d a).1 = st := by
  cases st with
  | cell v => exact congrArg St.cell h
  | line vs => exact congrArg St.line (PyData.tuple.inj h)
  | store s => exact congrArg St.store (sto_inj h)
  | gate p ws =>
    have z : gateD (gateF p ws l d).1 (gateF p ws l d).2.1 = gateD p ws := h
    unfold gateD strsD at z
    simp only [PyData.tuple.injEq, List.cons.injEq, PyData.int.injEq, and_true] at z
    show St.gate (gateF p ws l d).1 (gateF p ws l d).2.1 = _
    rw [z.1, strs_inj z.2]
  | wheel s p =>
    have z : wheelD (wheelF s p).1 (wheelF s p).2 = wheelD s p := h
    unfold wheelD at z
    simp only [PyData.tuple.injEq, List.cons.injEq, PyData.int.injEq, and_true] at z
    show St.wheel (wheelF s p).1 (wheelF s p).2 = _
    rw [z.1, z.2]
  | stand wd r =>
    have z : standD (standF wd r d a).1 (standF wd r d a).2.1 = standD wd r := h
    unfold standD at z
    simp only [PyData.tuple.injEq, List.cons.injEq, PyData.str.injEq] at z
    show St.stand (standF wd r d a).1 (standF wd r d a).2.1 = _
    rw [z.1, z.2]
theorem serve_len : ∀ (ws : HL) (fr : Int) (hs : HL) (sv : List Str), (serveF fr hs ws sv).2.2.2.length ≤ sv.length + ws.length
  | [], fr, hs, sv => Nat.le_refl _
  | w :: r, fr, hs, sv => by
    unfold serveF
    split
    · have := serve_len r (fr - w.2) (wuF hs w.1 (unitsF hs w.1 + w.2)) (sv ++ [w.1])
      rw [List.length_append] at this
      simp only [List.length_cons, List.length_nil] at this ⊢
      omega
    · show sv.length ≤ _
      omega
theorem ag_int {i : Int} : ansG (.int i) := .inl rfl
theorem ag_non : ansG .none := .inl rfl
theorem deedF_ans {st : St} {l deed : Str} {args : List PD} {n : Nat} (h : st.Ok n) (hn : n ≤ 900) (hl : nmOk l) : ansG (deedF st l deed args).2 := by
  cases st with
  | cell v =>
    show ansG (cellF v deed args).2
    unfold cellF
    split
    · exact .inl h
    · exact ag_non
  | line vs =>
    show ansG (lineF vs deed args).2
    have hv : ansG (vs.headD .none) := .inl (headD_ok h.2)
    unfold lineF
    split
    · split <;> exact ag_int
    · split
      · exact ag_int
      · split
        · exact ag_non
        · split <;> exact hv
  | store s =>
    show ansG (storeF s l deed args).2
    unfold storeF
    split
    · unfold seizeF
      split <;> exact ag_int
    · split
      · unfold freeF
        split
        · exact ag_non
        · have z := serveF_ok s.ws (s.free + headI args) (wuF s.hs l (unitsF s.hs l - headI args)) [] (n + 1) (wuF_ok h.2.1 hl) h.2.2 (fun x hx => nomatch hx) (by have := wuF_len s.hs l (unitsF s.hs l - headI args); have := h.1; omega)
          have z2 := serve_len s.ws (s.free + headI args) (wuF s.hs l (unitsF s.hs l - headI args)) []
          exact .inr ⟨_, rfl, z.2.2.1, by have := h.1; simp only [List.length_nil] at z2; omega⟩
      · split <;> exact ag_int
  | gate p ws =>
    show ansG (gateF p ws l deed).2.2
    have hw : ansG (strsD ws) := .inr ⟨ws, rfl, h.2, by have := h.1; omega⟩
    unfold gateF
    split
    · split <;> exact ag_int
    · split
      · exact hw
      · split
        · exact ag_non
        · split <;> exact ag_int
  | wheel a b => exact ag_int
  | stand wd r =>
    show ansG (standF wd r deed args).2.2
    unfold standF
    split
    · exact ag_int
    · split
      · exact ag_int
      · split
        · exact ag_int
        · split <;> exact ag_int
/-! ### what the made arguments need of the state -/
def Fine : St → Prop
  | .cell v => argF "value" v = true
  | .stand _ r => r.length ≤ 20 ∧ (r.length = 2 → argF "time" (r.getD 0 .none) = true ∧ argF "stage" (r.getD 1 .none) = true)
  | _ => True
theorem fitS_iff {sh : List Str} {args : List PD} : fitS sh args = true ↔ sh.length = args.length ∧ ∀ k, k < sh.length → argF (sh.getD k "") (args.getD k .none) = true := by
  unfold fitS
  by_cases e : sh.length ≠ args.length
  · rw [if_pos e]
    exact ⟨fun z => (Bool.false_ne_true z).elim, fun z => absurd z.1 e⟩
  · rw [if_neg e, List.all_eq_true]
    exact ⟨fun z => ⟨Decidable.of_not_not e, fun k hk => z k (List.mem_range.mpr hk)⟩, fun z k hk => z.2 k (List.mem_range.mp hk)⟩
theorem stand_sh : ∀ e ∈ shapesL, e.1.getD 0 "" = "stand" → (withL.any fun y => y == (leftL.lookup (e.1.getD 1 "")).getD "") = true → e.2 = (["time", "stage"] : List Str) ∨ e.2 = (["word"] : List Str) := by decide +kernel
theorem sh_ts : PyData.eqv (.tuple (cutD ((["time", "stage"] : List Str).map PyData.str) (some (-1)) none)) (.tuple [.str "more"]) = false := by decide +kernel
theorem sh_w : PyData.eqv (.tuple (cutD ((["word"] : List Str).map PyData.str) (some (-1)) none)) (.tuple [.str "more"]) = false := by decide +kernel
theorem Fine.deed {st : St} {l deed kind : Str} {args : List PD} (hk : st.kd kind) (hf : fitsF kind deed args = true) (F : Fine st) (hl : args.length ≤ 20) : Fine (deedF st l deed args).1 := by
  cases st with
  | cell v =>
    show argF "value" (cellF v deed args).1 = true
    unfold cellF
    split
    · exact F
    · rename_i hd
      obtain ⟨sh, h1, h2⟩ := fit_inv hf
      have z : sh = (["value"] : List Str) := fit_value _ h1 hk hd
      rw [z, shape2_value] at h2
      obtain ⟨a, e, g⟩ := fitS_one h2
      rw [e]
      exact g
  | line vs => exact trivial
  | store s => exact trivial
  | gate p ws => exact trivial
  | wheel a b => exact trivial
  | stand wd r =>
    obtain rfl : kind = "stand" := hk
    show Fine (.stand (standF wd r deed args).1 (standF wd r deed args).2.1)
    unfold standF
    split
    · exact F
    · split
      · exact F
      · split
        · exact F
        · split
          · rename_i hw
            refine ⟨hl, fun h2 => ?_⟩
            have h2' : args.length = 2 := h2
            obtain ⟨sh, h1, h3⟩ := fit_inv hf
            rcases stand_sh _ h1 rfl hw with z | z
            · have z' : sh = (["time", "stage"] : List Str) := z
              rw [z', shape2_no sh_ts] at h3
              obtain ⟨_, h4⟩ := fitS_iff.mp h3
              exact ⟨h4 0 (by decide), h4 1 (by decide)⟩
            · have z' : sh = (["word"] : List Str) := z
              rw [z', shape2_no sh_w] at h3
              have := fitS_len h3
              rw [h2'] at this
              cases this
          · exact ⟨Nat.zero_le _, fun z => nomatch z⟩
structure Nms (names : List Str) : Prop where
  len : names.length = 30
  ok : ∀ x ∈ names, nmOk x
theorem Nms.at {names : List Str} (h : Nms names) {i : Int} (h0 : 0 ≤ i) (h1 : i < 30) : nmOk (names.getD i.toNat "") := h.ok _ (getD_mem (by rw [h.len]; omega))
theorem arg_vn : argF "value" .none = true := by decide +kernel
theorem arg_vs (x : Str) : argF "value" (.str x) = true := by
  unfold argF
  rw [if_neg (by decide +kernel), if_pos (by rw [show isStrD (PyData.str x) = true from rfl, Bool.or_true, Bool.and_true]; decide +kernel)]
theorem arg_ws (x : Str) : argF "word" (.str x) = true := by
  unfold argF
  rw [if_pos rfl]
  rfl
theorem arg_int (part : Str) (i : Int) (h : part ≠ "word") : argF part (.int i) = if part = "value" then decide (-999999999 ≤ i) && decide (i ≤ 999999999) else if part = "units" then decide (1 ≤ i) && decide (i ≤ 999999999) else if part = "time" then decide (0 ≤ i) && decide (i ≤ 999999999) else decide (0 ≤ i) := by
  unfold argF
  rw [if_neg h, if_neg (by rw [show (isNonD (PyData.int i) || isStrD (PyData.int i)) = false from rfl, Bool.and_false]; exact Bool.false_ne_true)]
theorem arg_vi {i : Int} (h : -999999999 ≤ i ∧ i ≤ 999999999) : argF "value" (.int i) = true := by
  rw [arg_int _ _ (by decide +kernel), if_pos rfl, decide_eq_true h.1, decide_eq_true h.2]
  rfl
theorem arg_ui {i : Int} (h : 1 ≤ i ∧ i ≤ 999999999) : argF "units" (.int i) = true := by
  rw [arg_int _ _ (by decide +kernel), if_neg (by decide +kernel), if_pos rfl, decide_eq_true h.1, decide_eq_true h.2]
  rfl
theorem arg_ti {i : Int} (h : 0 ≤ i ∧ i ≤ 999999999) : argF "time" (.int i) = true := by
  rw [arg_int _ _ (by decide +kernel), if_neg (by decide +kernel), if_neg (by decide +kernel), if_pos rfl, decide_eq_true h.1, decide_eq_true h.2]
  rfl
theorem arg_si {i : Int} (h : 0 ≤ i) : argF "stage" (.int i) = true := by
  rw [arg_int _ _ (by decide +kernel), if_neg (by decide +kernel), if_neg (by decide +kernel), if_neg (by decide +kernel), decide_eq_true h]
theorem value_ok {names : List Str} (hn : Nms names) {draw cell : Int} (h0 : 0 ≤ draw) (h1 : draw < 1000) : argF "value" (valueF names draw cell) = true ∧ scOk (valueF names draw cell) := by
  unfold valueF
  split
  · exact ⟨arg_vn, rfl⟩
  · split
    · exact ⟨arg_vs _, (hn.at (by omega) (by omega)).1⟩
    · split
      · exact ⟨arg_vi (by omega), rfl⟩
      · exact ⟨arg_vi (by omega), rfl⟩
/-! ### the made arguments fit -/
def partsL : List (List Str) := [[], ["value"], ["units"], ["word"], ["word", "more"], ["time", "stage"]]
theorem lsh_all : ∀ kind ∈ kindsL, ∀ p ∈ lshapesF kind, shOf kind p.1 = some p.2 ∧ p.2 ∈ partsL ∧ okD 1000 0 (.str p.1) = true ∧ (p.2 = (["time", "stage"] : List Str) → kind = "stand") ∧ okD 1000 63 (.list (p.2.map PyData.str)) = true := by decide +kernel
theorem lsh_len : ∀ kind ∈ kindsL, 0 < (lshapesF kind).length := by decide +kernel
theorem sh_none : PyData.eqv (.tuple (cutD (([] : List Str).map PyData.str) (some (-1)) none)) (.tuple [.str "more"]) = false := by decide +kernel
theorem shape2_more (n : Nat) : shape2 ["word", "more"] n = ("word" : Str) :: List.replicate ((n : Int) - 2 + 1).toNat ("value" : Str) := by
  unfold shape2
  rw [if_pos (by decide +kernel)]
  rfl
theorem not_tup {st : St} {kind : Str} {n : Nat} (h : isTupD st.pd = false) : ∃ v, st = .cell v := by
  cases st with
  | cell v => exact ⟨v, rfl⟩
  | _ => cases h
theorem len3 {st : St} {kind : Str} (hk : st.kd kind) (e : kind = "stand") : ∃ wd r, st = .stand wd r := by
  subst e
  cases st with
  | stand wd r => exact ⟨wd, r, rfl⟩
  | cell v => rcases hk with hk | hk <;> exact absurd hk (by decide +kernel)
  | line v => exact absurd (show ("stand" : Str) = "line" from hk) (by decide +kernel)
  | store v => exact absurd (show ("stand" : Str) = "store" from hk) (by decide +kernel)
  | gate v u => exact absurd (show ("stand" : Str) = "gate" from hk) (by decide +kernel)
  | wheel v u => exact absurd (show ("stand" : Str) = "wheel" from hk) (by decide +kernel)
structure MadeOk (kind deed : Str) (args : List PD) : Prop where
  fit : fitsF kind deed args = true
  len : args.length ≤ 20
  sc : ∀ v ∈ args, scOk v
theorem made_ok {kind : Str} {names : List Str} {draw cell : Int} {st : St} {n : Nat} {p : Str × List Str} (hn : Nms names) (h0 : 0 ≤ draw) (h1 : draw < 1000) (hkk : kind ∈ kindsL) (hp : p ∈ lshapesF kind) (hk : st.kd kind) (ho : st.Ok n) (hF : Fine st) : MadeOk kind p.1 (madeF p.2 names draw st.pd cell) := by
  obtain ⟨a1, a2, a3, a4, a5⟩ := lsh_all kind hkk p hp
  have fit : ∀ args, fitS (shape2 p.2 args.length) args = true → fitsF kind p.1 args = true := fun args h => by
    unfold fitsF
    rw [a1]
    exact h
  have hv := value_ok hn (draw := draw / 3) (cell := cell) (by omega) (by omega)
  have hw := hn.at (i := draw % 30) (by omega) (by omega)
  obtain ⟨pd, parts⟩ := p
  dsimp only at a1 a2 a4 fit ⊢
  unfold partsL at a2
  simp only [List.mem_cons, List.not_mem_nil, or_false] at a2
  rcases a2 with e | e | e | e | e | e
  · subst e
    have z : madeF [] names draw st.pd cell = [] := by
      unfold madeF
      rw [if_neg (by decide +kernel), if_neg (by decide +kernel), if_neg (by decide +kernel), if_neg (by decide +kernel), if_neg (by decide +kernel)]
    rw [z]
    exact ⟨fit _ (by rw [shape2_no sh_none]; rfl), Nat.zero_le _, fun _ h => nomatch h⟩
  · subst e
    have z : ∃ a, madeF ["value"] names draw st.pd cell = [a] ∧ argF "value" a = true ∧ scOk a := by
      unfold madeF
      rw [if_pos rfl]
      split
      · rename_i q
        obtain ⟨v, rfl⟩ := not_tup (kind := kind) (n := n) q.2
        exact ⟨v, rfl, hF, ho⟩
      · exact ⟨_, rfl, hv⟩
    obtain ⟨a, z, z1, z2⟩ := z
    rw [z]
    refine ⟨fit _ ?_, by show 1 ≤ 20; omega, fun v h => by rw [List.mem_singleton.mp h]; exact z2⟩
    rw [shape2_value]
    refine fitS_iff.mpr ⟨rfl, fun k hk => ?_⟩
    have : k = 0 := by
      have : k < 1 := hk
      omega
    subst this
    exact z1
  · subst e
    have z : madeF ["units"] names draw st.pd cell = [.int (1 + draw % 4)] := by
      unfold madeF
      rw [if_neg (by decide +kernel), if_pos rfl]
    rw [z]
    refine ⟨fit _ ?_, by show 1 ≤ 20; omega, fun v h => by rw [List.mem_singleton.mp h]; rfl⟩
    rw [shape2_units]
    refine fitS_iff.mpr ⟨rfl, fun k hk => ?_⟩
    have : k = 0 := by
      have : k < 1 := hk
      omega
    subst this
    exact arg_ui (by omega)
  · subst e
    have z : madeF ["word"] names draw st.pd cell = [.str (names.getD (draw % 30).toNat "")] := by
      unfold madeF
      rw [if_neg (by decide +kernel), if_neg (by decide +kernel), if_pos rfl]
    rw [z]
    refine ⟨fit _ ?_, by show 1 ≤ 20; omega, fun v h => by rw [List.mem_singleton.mp h]; exact hw.1⟩
    rw [shape2_no sh_w]
    refine fitS_iff.mpr ⟨rfl, fun k hk => ?_⟩
    have : k = 0 := by
      have : k < 1 := hk
      omega
    subst this
    exact arg_ws _
  · subst e
    obtain ⟨j, ej⟩ := Int.eq_ofNat_of_zero_le (show 0 ≤ draw / 30 % 10 by omega)
    have z : madeF ["word", "more"] names draw st.pd cell = .str (names.getD (draw % 30).toNat "") :: (moreL (valueF names (draw / 3) cell) (names.getD (draw % 30).toNat "")).take j := by
      unfold madeF
      rw [if_neg (by decide +kernel), if_neg (by decide +kernel), if_neg (by decide +kernel), if_pos rfl, ej, cut_hi]
    obtain ⟨ML, eM⟩ : ∃ ML, moreL (valueF names (draw / 3) cell) (names.getD (draw % 30).toNat "") = ML := ⟨_, rfl⟩
    have hM : ∀ v ∈ ML, argF "value" v = true ∧ scOk v := by
      rw [← eM]
      unfold moreL
      intro v h
      simp only [List.mem_cons, List.not_mem_nil, or_false] at h
      rcases h with h | h | h | h | h | h | h | h | h <;> rw [h]
      · exact hv
      · exact ⟨arg_vn, rfl⟩
      · exact ⟨arg_vi (by omega), rfl⟩
      · exact ⟨arg_vs _, hw.1⟩
      · exact ⟨arg_vi (by omega), rfl⟩
      · exact hv
      · exact ⟨arg_vi (by omega), rfl⟩
      · exact ⟨arg_vn, rfl⟩
      · exact ⟨arg_vi (by omega), rfl⟩
    have lM : ML.length = 9 := by rw [← eM]; rfl
    rw [z, eM]
    have lt : (ML.take j).length ≤ 9 := by rw [List.length_take, lM]; omega
    refine ⟨fit _ ?_, by rw [List.length_cons]; omega, fun v h => ?_⟩
    · rw [shape2_more, List.length_cons]
      have e2 : ((((ML.take j).length + 1 : Nat) : Int) - 2 + 1).toNat = (ML.take j).length := by omega
      rw [e2]
      refine fitS_iff.mpr ⟨by rw [List.length_cons, List.length_cons, List.length_replicate], fun k hk => ?_⟩
      cases k with
      | zero => exact arg_ws _
      | succ k =>
        rw [List.length_cons, List.length_replicate] at hk
        have hk2 : k < (ML.take j).length := by omega
        have e3 : ((("word" : Str) :: List.replicate (ML.take j).length ("value" : Str)).getD (k + 1) "") = "value" := by
          rw [List.getD_cons_succ, List.getD_eq_getElem?_getD, List.getElem?_replicate, if_pos hk2]
          rfl
        rw [e3, List.getD_cons_succ]
        exact (hM _ (List.mem_of_mem_take (getD_mem hk2))).1
    · rcases List.mem_cons.mp h with h | h
      · rw [h]
        exact hw.1
      · exact (hM v (List.mem_of_mem_take h)).2
  · subst e
    obtain ⟨wd, r, rfl⟩ := len3 hk (a4 rfl)
    have z : ∃ a b, madeF ["time", "stage"] names draw (St.stand wd r).pd cell = [a, b] ∧ argF "time" a = true ∧ argF "stage" b = true ∧ scOk a ∧ scOk b := by
      unfold madeF
      rw [if_neg (by decide +kernel), if_neg (by decide +kernel), if_neg (by decide +kernel), if_neg (by decide +kernel), if_pos rfl]
      split
      · rename_i q
        have hl : r.length = 2 := by
          have z : r.length + 1 = 3 := q.2
          omega
        obtain ⟨f1, f2⟩ := hF.2 hl
        match r, hl, f1, f2, ho with
        | [a, b], _, f1, f2, ho => exact ⟨a, b, rfl, f1, f2, ho.2 a List.mem_cons_self, ho.2 b (List.mem_cons_of_mem _ List.mem_cons_self)⟩
      · exact ⟨_, _, rfl, arg_ti (by omega), arg_si (by omega), rfl, rfl⟩
    obtain ⟨a, b, z, z1, z2, z3, z4⟩ := z
    rw [z]
    refine ⟨fit _ ?_, by show 2 ≤ 20; omega, fun v h => ?_⟩
    · rw [shape2_no sh_ts]
      refine fitS_iff.mpr ⟨rfl, fun k hk => ?_⟩
      have : k = 0 ∨ k = 1 := by
        have : k < 2 := hk
        omega
      rcases this with rfl | rfl
      · exact z1
      · exact z2
    · rcases List.mem_cons.mp h with h | h
      · rw [h]
        exact z3
      · rw [List.mem_singleton.mp h]
        exact z4
theorem alk_pairs {hs : HL} (h : hs.length ≤ 5000) : alk 2 (pairsD hs) = true := by
  show (decide ((hs.map pairD).length ≤ 5000) && (hs.map pairD).all (alk 1)) = true
  rw [decide_eq_true (by rw [List.length_map]; exact h)]
  refine List.all_eq_true.mpr fun d hd => ?_
  obtain ⟨x, _, rfl⟩ := List.mem_map.mp hd
  rfl
theorem alk_up : ∀ {n : Nat} {d : PD}, alk n d = true → alk (n + 1) d = true
  | _, .none, _ => rfl
  | _, .int _, _ => rfl
  | _, .str _, _ => rfl
  | n + 1, .tuple ds, h => by
    obtain ⟨h1, h2⟩ := Bool.and_eq_true_iff.mp (show (decide (ds.length ≤ 5000) && ds.all (alk n)) = true from h)
    show (decide (ds.length ≤ 5000) && ds.all (alk (n + 1))) = true
    rw [h1]
    exact List.all_eq_true.mpr fun d hd => alk_up (List.all_eq_true.mp h2 d hd)
  | n + 1, .list ds, h => by
    obtain ⟨h1, h2⟩ := Bool.and_eq_true_iff.mp (show (decide (ds.length ≤ 5000) && ds.all (alk n)) = true from h)
    show (decide (ds.length ≤ 5000) && ds.all (alk (n + 1))) = true
    rw [h1]
    exact List.all_eq_true.mpr fun d hd => alk_up (List.all_eq_true.mp h2 d hd)
  | 0, .tuple _, h => by cases h
  | 0, .list _, h => by cases h
  | 0, .bool _, h => by cases h
  | n + 1, .bool _, h => by cases h
  | 0, .dict _, h => by cases h
  | n + 1, .dict _, h => by cases h
theorem alk_tup {n : Nat} {ds : List PD} (h : ds.length ≤ 5000) (g : ∀ d ∈ ds, alk n d = true) : alk (n + 1) (.tuple ds) = true := by
  show (decide (ds.length ≤ 5000) && ds.all (alk n)) = true
  rw [decide_eq_true h]
  exact List.all_eq_true.mpr g
theorem alk_st {st : St} {n : Nat} (h : st.Ok n) (hn : n ≤ 900) (hF : Fine st) : alk 3 st.pd = true := by
  cases st with
  | cell v => exact alk_sc h
  | line vs => exact alk_tup (by have := h.1; omega) fun d hd => alk_sc (h.2 d hd)
  | store s =>
    have h1 := h.1
    refine alk_tup (Nat.le_of_ble_eq_true rfl) fun d hd => ?_
    simp only [List.mem_cons, List.not_mem_nil, or_false] at hd
    rcases hd with hd | hd | hd | hd <;> rw [hd]
    · rfl
    · rfl
    · exact alk_pairs (by omega)
    · exact alk_pairs (by omega)
  | gate p ws =>
    have h1 := h.1
    refine alk_tup (Nat.le_of_ble_eq_true rfl) fun d hd => ?_
    simp only [List.mem_cons, List.not_mem_nil, or_false] at hd
    rcases hd with hd | hd <;> rw [hd]
    · rfl
    · refine alk_tup (by rw [List.length_map]; omega) fun e he => ?_
      obtain ⟨x, _, rfl⟩ := List.mem_map.mp he
      rfl
  | wheel a b => rfl
  | stand wd r =>
    have := hF.1
    refine alk_tup (by rw [List.length_cons]; omega) fun d hd => ?_
    rcases List.mem_cons.mp hd with hd | hd
    · rw [hd]; rfl
    · exact alk_sc (h.2 d hd)
end K5
end PartMA4
section PartMA5
set_option maxRecDepth 100000
set_option maxHeartbeats 4000000
/-! Mathematics: the made rows, the first states, the law's facts. -/
namespace K5
open PySem PySem.Spec PyProof.Rows L2
theorem pool_ok : ∀ x ∈ poolL, nmOk x := by decide +kernel
theorem names_ok (d o : Int) : Nms (namesF d o) := by
  refine ⟨by unfold namesF; rw [List.length_map, List.length_range], fun x hx => ?_⟩
  unfold namesF at hx
  obtain ⟨k, _, rfl⟩ := List.mem_map.mp hx
  exact pool_ok _ (getD_mem (by show _ < 30; omega))
theorem nm_str {x : Str} (h : nmOk x) : PyData.strOk x = true := by
  have z := h.1
  unfold okD at z
  exact (Bool.and_eq_true_iff.mp z).1
/-! ### the rows as they are made -/
structure Inv (kind : Str) (st0 : St) (k : Nat) (x : Mk) (S : Nat → St) (M : Nat) : Prop where
  num : x.2.1 = (M : Int)
  s0 : S 0 = st0
  sM : S M = x.1
  book : Book kind S M x.2.2
  rg : ∀ r ∈ x.2.2, RG r
  ok : x.1.Ok (3 + k)
  kd : x.1.kd kind
  fine : Fine x.1
  le : M ≤ k
section
variable {kind : Str} {names : List Str} {c0 c1 : Int}
theorem mkP_mem (hk : kind ∈ kindsL) (k : Nat) : mkP (draws c0 21) (lshapesF kind) k ∈ lshapesF kind := by
  have h := lsh_len kind hk
  unfold mkP
  have z1 := Int.emod_lt_of_pos ((draws c0 21).getD (1 + k) 0) (show (0 : Int) < ((lshapesF kind).length : Int) by omega)
  have z2 := Int.emod_nonneg ((draws c0 21).getD (1 + k) 0) (show ((lshapesF kind).length : Int) ≠ 0 by omega)
  exact getD_mem (by omega)
theorem draws_at (c : Int) (i : Nat) : 0 ≤ (draws c 21).getD i 0 ∧ (draws c 21).getD i 0 < 1000 := by
  by_cases h : i < 21
  · exact draw_r c 21 i h
  · rw [List.getD_eq_getElem?_getD, List.getElem?_eq_none (by rw [draws_len]; omega)]
    exact ⟨Int.le_refl _, by decide⟩
theorem mkL_ok (hn : Nms names) (k : Nat) : nmOk (mkL names (draws c1 21) k) := by
  unfold mkL
  have := draws_at c1 (1 + k)
  exact hn.at (by omega) (by omega)
theorem mkA_ok (hn : Nms names) (hk : kind ∈ kindsL) (k : Nat) {st : St} {n : Nat} (hkd : st.kd kind) (ho : st.Ok n) (hF : Fine st) : MadeOk kind (mkP (draws c0 21) (lshapesF kind) k).1 (mkA names (draws c0 21) (draws c1 21) c1 (lshapesF kind) k st) := by
  have h := draws_at c1 (1 + k)
  exact made_ok hn h.1 h.2 hk (mkP_mem hk k) hkd ho hF
theorem inv_step (hn : Nms names) (hk : kind ∈ kindsL) {st0 : St} {k : Nat} (hk2 : k < 20) {S : Nat → St} {M : Nat} (I : Inv kind st0 k (mkF names (draws c0 21) (draws c1 21) c1 (lshapesF kind) st0 k) S M) :
    ∃ S' M', Inv kind st0 (k + 1) (mkF names (draws c0 21) (draws c1 21) c1 (lshapesF kind) st0 (k + 1)) S' M' := by
  show ∃ S' M', Inv kind st0 (k + 1) ((mkD names (draws c0 21) (draws c1 21) c1 (lshapesF kind) k (mkF names (draws c0 21) (draws c1 21) c1 (lshapesF kind) st0 k)).1, (mkT names (draws c0 21) (draws c1 21) c1 (lshapesF kind) k (mkF names (draws c0 21) (draws c1 21) c1 (lshapesF kind) st0 k)).1, (mkF names (draws c0 21) (draws c1 21) c1 (lshapesF kind) st0 k).2.2 ++ [mkR names (draws c0 21) (draws c1 21) c1 (lshapesF kind) k (mkF names (draws c0 21) (draws c1 21) c1 (lshapesF kind) st0 k)]) S' M'
  generalize mkF names (draws c0 21) (draws c1 21) c1 (lshapesF kind) st0 k = x at I ⊢
  obtain ⟨st, num, rows⟩ := x
  obtain ⟨i1, i2, i3, i4, i5, i6, i7, i8, i9⟩ := I
  dsimp only at i1 i3 i4 i5 i6 i7 i8
  subst i1
  unfold mkR mkD mkT
  dsimp only
  have hl : nmOk (mkL names (draws c1 21) k) := mkL_ok hn k
  have ha : MadeOk kind (mkP (draws c0 21) (lshapesF kind) k).1 (mkA names (draws c0 21) (draws c1 21) c1 (lshapesF kind) k st) := mkA_ok hn hk k i7 i6 i8
  have hd := (lsh_all kind hk _ (mkP_mem (c0 := c0) hk k)).2.2.1
  generalize mkL names (draws c1 21) k = l at hl ⊢
  generalize mkA names (draws c0 21) (draws c1 21) c1 (lshapesF kind) k st = args at ha ⊢
  generalize (mkP (draws c0 21) (lshapesF kind) k).1 = deed at ha hd ⊢
  have ao : AOk args := ⟨by have := ha.len; omega, ha.sc⟩
  have dk := deedF_ok (st := st) (l := l) (deed := deed) (args := args) i6 hl ao
  have an := deedF_ans (st := st) (l := l) (deed := deed) (args := args) i6 (by omega) hl
  have df := Fine.deed (l := l) i7 ha.fit i8 ha.len
  have dq := deedF_kd (l := l) (deed := deed) (args := args) i7
  have okr : ∀ (m : Int) (md : Str) (t g : Int), touF st M l deed args = (m, md) → okB kind st M ⟨m, md, l, t, g, deed, args, (deedF st l deed args).2⟩ = true := fun m md t g e => by
    rw [okB_iff]
    dsimp only
    rw [e]
    exact ⟨ha.fit, rfl, rfl, eqv_self an.ok⟩
  cases q : PyData.eqv (deedF st l deed args).1.pd st.pd with
  | true =>
    have e1 := touF_look (n := (M : Int)) q
    have e2 : (deedF st l deed args).1 = st := look_same (eqv_ok 100 3 _ _ (St.pd_ok dk.1) (St.pd_ok i6) q)
    have hr : RG ⟨(touF st M l deed args).1, (touF st M l deed args).2, l, (k : Int) / 2, (k : Int) % 2, deed, args, (deedF st l deed args).2⟩ := by
      rw [e1]
      exact ⟨hl, ha.len, ha.sc, an, .inl rfl, hd, by show 0 ≤ (M : Int) ∧ (M : Int) ≤ 20; omega⟩
    have hv : Val kind S ⟨(touF st M l deed args).1, (touF st M l deed args).2, l, (k : Int) / 2, (k : Int) % 2, deed, args, (deedF st l deed args).2⟩ := by
      rw [e1]
      refine .inl ⟨rfl, M, rfl, ?_, ?_, ?_⟩
      · rw [i3]
        exact okr _ _ _ _ e1
      · rw [i3]
        exact e2
      · rw [i3]
    have hm : (touF st M l deed args).1 = (M : Int) := by rw [e1]
    have hmd : (touF st M l deed args).2 = ("look" : Str) := by rw [e1]
    refine ⟨S, M, hm, i2, i3.trans e2.symm, ⟨fun r hr' => ?_, fun r hr' => ?_, ?_, fun n h1 h2 => ?_⟩, fun r hr' => ?_, St.Ok.mono (by omega) dk.1, dq, df, by omega⟩
    · rcases List.mem_append.mp hr' with z | z
      · exact i4.val r z
      · rw [List.mem_singleton.mp z]
        exact hv
    · rcases List.mem_append.mp hr' with z | z
      · exact i4.hi r z
      · rw [List.mem_singleton.mp z]
        exact Int.le_of_eq hm
    · refine List.pairwise_append.mpr ⟨i4.dist, List.pairwise_singleton _ _, fun a ha' b hb => ?_⟩
      rw [List.mem_singleton.mp hb]
      intro h1 h2
      exact (md_ne hmd h2).elim
    · obtain ⟨c, hc, c1, c2⟩ := i4.all n h1 h2
      exact ⟨c, List.mem_append_left _ hc, c1, c2⟩
    · rcases List.mem_append.mp hr' with z | z
      · exact i5 r z
      · rw [List.mem_singleton.mp z]
        exact hr
  | false =>
    have e1 := touF_chg (n := (M : Int)) q
    have hr : RG ⟨(touF st M l deed args).1, (touF st M l deed args).2, l, (k : Int) / 2, (k : Int) % 2, deed, args, (deedF st l deed args).2⟩ := by
      rw [e1]
      exact ⟨hl, ha.len, ha.sc, an, .inr rfl, hd, by show 0 ≤ (M : Int) + 1 ∧ (M : Int) + 1 ≤ 20; omega⟩
    obtain ⟨T, eT⟩ : ∃ T : Nat → St, T = fun n => if n = M + 1 then (deedF st l deed args).1 else S n := ⟨_, rfl⟩
    have t1 : ∀ n, n ≤ M → T n = S n := fun n h => by
      rw [eT]
      exact if_neg (by omega)
    have t2 : T (M + 1) = (deedF st l deed args).1 := by
      rw [eT]
      exact if_pos rfl
    have hv : Val kind T ⟨(touF st M l deed args).1, (touF st M l deed args).2, l, (k : Int) / 2, (k : Int) % 2, deed, args, (deedF st l deed args).2⟩ := by
      rw [e1]
      refine .inr ⟨rfl, M, rfl, ?_, ?_, ?_⟩
      · rw [t1 M (Nat.le_refl _), i3]
        exact okr _ _ _ _ e1
      · rw [t1 M (Nat.le_refl _), i3, t2]
      · rw [t1 M (Nat.le_refl _), i3]
    have hm : (touF st M l deed args).1 = ((M + 1 : Nat) : Int) := by
      rw [e1]
      show (M : Int) + 1 = _
      omega
    have hmd : (touF st M l deed args).2 = ("change" : Str) := by rw [e1]
    refine ⟨T, M + 1, hm, (t1 0 (Nat.zero_le _)).trans i2, t2, ⟨fun r hr' => ?_, fun r hr' => ?_, ?_, fun n h1 h2 => ?_⟩, fun r hr' => ?_, St.Ok.mono (by omega) dk.1, dq, df, by omega⟩
    · rcases List.mem_append.mp hr' with z | z
      · exact (i4.val r z).congr (i4.hi r z) t1
      · rw [List.mem_singleton.mp z]
        exact hv
    · rcases List.mem_append.mp hr' with z | z
      · have := i4.hi r z
        omega
      · rw [List.mem_singleton.mp z]
        exact Int.le_of_eq hm
    · refine List.pairwise_append.mpr ⟨i4.dist, List.pairwise_singleton _ _, fun a ha' b hb => ?_⟩
      rw [List.mem_singleton.mp hb]
      intro h1 h2 h3
      have h4 : a.num = (touF st M l deed args).1 := h3
      have := i4.hi a ha'
      omega
    · rcases Nat.lt_or_ge M n with z | z
      · refine ⟨_, List.mem_append_right _ List.mem_cons_self, hmd, ?_⟩
        show (touF st M l deed args).1 = _
        omega
      · obtain ⟨c, hc, c1, c2⟩ := i4.all n h1 z
        exact ⟨c, List.mem_append_left _ hc, c1, c2⟩
    · rcases List.mem_append.mp hr' with z | z
      · exact i5 r z
      · rw [List.mem_singleton.mp z]
        exact hr
theorem inv_all (hn : Nms names) (hk : kind ∈ kindsL) {st0 : St} (h1 : st0.Ok 3) (h2 : st0.kd kind) (h3 : Fine st0) : ∀ k, k ≤ 20 → ∃ S M, Inv kind st0 k (mkF names (draws c0 21) (draws c1 21) c1 (lshapesF kind) st0 k) S M
  | 0, _ => ⟨fun _ => st0, 0, rfl, rfl, rfl, ⟨(fun _ h => nomatch h), (fun _ h => nomatch h), List.Pairwise.nil, fun n a b => absurd a (by omega)⟩, (fun _ h => nomatch h), h1, h2, h3, Nat.le_refl _⟩
  | k + 1, h => by
    obtain ⟨S, M, I⟩ := inv_all hn hk h1 h2 h3 k (by omega)
    exact inv_step hn hk (by omega) I
theorem mrD_of (hn : Nms names) (hk : kind ∈ kindsL) {st0 : St} (h1 : st0.Ok 3) (h2 : st0.kd kind) (h3 : Fine st0) : MrD kind st0 names c0 c1 := by
  have hm := many_le ((draws c0 21).getD 0 0)
  refine ⟨hn.len, lsh_len kind hk, fun k hlt => ?_, fun k hlt => ?_⟩
  · obtain ⟨S, M, I⟩ := inv_all (c0 := c0) (c1 := c1) hn hk h1 h2 h3 k (by omega)
    have ha := mkA_ok (c0 := c0) (c1 := c1) hn hk k I.kd I.ok I.fine
    exact ⟨I.kd, I.ok.mono (by omega), mkL_ok hn k, ⟨by have := ha.len; omega, ha.sc⟩, ha.fit⟩
  · obtain ⟨S, M, I⟩ := inv_all (c0 := c0) (c1 := c1) hn hk h1 h2 h3 k (by omega)
    obtain ⟨_, _, _, z1, z2⟩ := lsh_all kind hk _ (mkP_mem (c0 := c0) hk k)
    refine ⟨z2, fun e => ?_⟩
    obtain ⟨wd, r, e2⟩ := len3 I.kd (z1 e)
    rw [e2]
    exact ⟨_, rfl⟩
end
/-! ### the first states -/
structure Ini (kind : Str) (d : PD) (st : St) : Prop where
  pd : d = st.pd
  kd : st.kd kind
  ok : st.Ok 3
  fine : Fine st
theorem lift_map {α β : Type} {f : α → β} {hs : List α} : ∀ {l : List β}, (∀ d ∈ l, ∃ h ∈ hs, d = f h) → ∃ hs' : List α, l = hs'.map f ∧ ∀ h ∈ hs', h ∈ hs
  | [], _ => ⟨[], rfl, (fun _ h => nomatch h)⟩
  | d :: l, h => by
    obtain ⟨a, ha, e⟩ := h d List.mem_cons_self
    obtain ⟨hs', e2, h2⟩ := lift_map (f := f) (hs := hs) (l := l) fun x hx => h x (List.mem_cons_of_mem _ hx)
    refine ⟨a :: hs', by rw [e, e2]; rfl, fun x hx => ?_⟩
    rcases List.mem_cons.mp hx with rfl | hx
    · exact ha
    · exact h2 x hx
theorem both_ok (ns : List Str) : ∃ hs : HL, bothL ns = hs.map pairD ∧ hs.length = 2 ∧ ∀ h ∈ hs, h.1 = ns.getD 17 "" ∨ h.1 = ns.getD 18 "" := by
  have pm : (bothL ns).Perm ([(ns.getD 17 "", (1 : Int)), (ns.getD 18 "", 2)].map pairD) := List.mergeSort_perm _ _
  obtain ⟨hs, e1, e2⟩ := lift_map (f := pairD) (hs := [(ns.getD 17 "", (1 : Int)), (ns.getD 18 "", 2)]) (l := bothL ns) fun d hd => by
    obtain ⟨h, a, b⟩ := List.mem_map.mp (pm.mem_iff.mp hd)
    exact ⟨h, a, b.symm⟩
  refine ⟨hs, e1, ?_, fun h hh => ?_⟩
  · have z := pm.length_eq
    rw [e1, List.length_map, List.length_map] at z
    exact z
  · have z := e2 h hh
    simp only [List.mem_cons, List.not_mem_nil, or_false] at z
    rcases z with z | z
    · exact .inl (by rw [z])
    · exact .inr (by rw [z])
theorem lines_ok {v : PD} (hv : scOk v) : ∀ d ∈ linesL v, ∃ st, Ini "line" d st := by
  intro d hd
  unfold linesL at hd
  simp only [List.mem_cons, List.not_mem_nil, or_false] at hd
  rcases hd with hd | hd | hd | hd
  · exact ⟨.line [], hd, rfl, ⟨Nat.zero_le _, fun _ h => nomatch h⟩, trivial⟩
  · exact ⟨.line [v], hd, rfl, ⟨by show 1 ≤ 20; omega, fun x h => by rw [List.mem_singleton.mp h]; exact hv⟩, trivial⟩
  · refine ⟨.line [v, .int 4, .none], hd, rfl, ⟨by show 3 ≤ 20; omega, fun x h => ?_⟩, trivial⟩
    simp only [List.mem_cons, List.not_mem_nil, or_false] at h
    rcases h with h | h | h <;> rw [h]
    · exact hv
    · rfl
    · rfl
  · exact ⟨.line _, hd, rfl, (show (List.replicate 20 [PyData.int 7]).flatten.length ≤ 20 ∧ ∀ v ∈ (List.replicate 20 [PyData.int 7]).flatten, okD 100 0 v = true by decide +kernel), trivial⟩
theorem stores_ok {ns : List Str} (hn : Nms ns) : ∀ d ∈ storesL ns, ∃ st, Ini "store" d st := by
  have n17 : nmOk (ns.getD 17 "") := hn.ok _ (getD_mem (by rw [hn.len]; decide))
  have n18 : nmOk (ns.getD 18 "") := hn.ok _ (getD_mem (by rw [hn.len]; decide))
  have n19 : nmOk (ns.getD 19 "") := hn.ok _ (getD_mem (by rw [hn.len]; decide))
  obtain ⟨hs, e1, e2, e3⟩ := both_ok ns
  intro d hd
  unfold storesL at hd
  simp only [List.mem_cons, List.not_mem_nil, or_false] at hd
  rcases hd with hd | hd | hd | hd
  · exact ⟨.store ⟨3, 3, [], []⟩, hd, rfl, ⟨by show 0 ≤ 3; omega, (fun _ h => nomatch h), fun _ h => nomatch h⟩, trivial⟩
  · exact ⟨.store ⟨3, 1, [(ns.getD 17 "", 2)], []⟩, hd, rfl, ⟨by show 1 ≤ 3; omega, (fun x h => by rw [List.mem_singleton.mp h]; exact n17), fun _ h => nomatch h⟩, trivial⟩
  · refine ⟨.store ⟨3, 0, hs, [(ns.getD 19 "", 1)]⟩, ?_, rfl, ⟨by show hs.length + 1 ≤ 3; omega, fun x h => ?_, fun x h => by rw [List.mem_singleton.mp h]; exact n19⟩, trivial⟩
    · rw [hd, e1]
      rfl
    · rcases e3 x h with z | z <;> rw [z]
      · exact n17
      · exact n18
  · refine ⟨.store ⟨5, 1, [(ns.getD 18 "", 4)], [(ns.getD 17 "", 2), (ns.getD 19 "", 3)]⟩, hd, rfl, ⟨by show 3 ≤ 3; omega, (fun x h => by rw [List.mem_singleton.mp h]; exact n18), fun x h => ?_⟩, trivial⟩
    simp only [List.mem_cons, List.not_mem_nil, or_false] at h
    rcases h with h | h <;> rw [h]
    · exact n17
    · exact n19
theorem gates_ok {ns : List Str} (hn : Nms ns) : ∀ d ∈ gatesL ns, ∃ st, Ini "gate" d st := by
  have n17 : nmOk (ns.getD 17 "") := hn.ok _ (getD_mem (by rw [hn.len]; decide))
  have n18 : nmOk (ns.getD 18 "") := hn.ok _ (getD_mem (by rw [hn.len]; decide))
  intro d hd
  unfold gatesL at hd
  simp only [List.mem_cons, List.not_mem_nil, or_false] at hd
  rcases hd with hd | hd | hd | hd
  · exact ⟨.gate 0 [], hd, rfl, ⟨by show 0 ≤ 3; omega, fun _ h => nomatch h⟩, trivial⟩
  · exact ⟨.gate 1 [], hd, rfl, ⟨by show 0 ≤ 3; omega, fun _ h => nomatch h⟩, trivial⟩
  · exact ⟨.gate 0 [ns.getD 17 ""], hd, rfl, ⟨by show 1 ≤ 3; omega, fun x h => by rw [List.mem_singleton.mp h]; exact n17⟩, trivial⟩
  · refine ⟨.gate 0 [ns.getD 18 "", ns.getD 17 ""], hd, rfl, ⟨by show 2 ≤ 3; omega, fun x h => ?_⟩, trivial⟩
    simp only [List.mem_cons, List.not_mem_nil, or_false] at h
    rcases h with h | h <;> rw [h]
    · exact n18
    · exact n17
theorem wheels_ok : ∀ d ∈ wheelsL, ∃ st, Ini "wheel" d st := by
  intro d hd
  unfold wheelsL at hd
  simp only [List.mem_cons, List.not_mem_nil, or_false] at hd
  rcases hd with hd | hd | hd | hd
  · exact ⟨.wheel 1 0, hd, rfl, trivial, trivial⟩
  · exact ⟨.wheel 2 1, hd, rfl, trivial, trivial⟩
  · exact ⟨.wheel 3 0, hd, rfl, trivial, trivial⟩
  · exact ⟨.wheel 999999999 999999998, hd, rfl, trivial, trivial⟩
theorem big_ok : okD 100 0 (.str "big") = true := by decide +kernel
theorem stands_ok {ns : List Str} (hn : Nms ns) : ∀ d ∈ standsL ns, ∃ st, Ini "stand" d st := by
  have n3 : nmOk (ns.getD 3 "") := hn.ok _ (getD_mem (by rw [hn.len]; decide))
  have f0 : ∀ wd, Fine (.stand wd []) := fun wd => ⟨Nat.zero_le _, fun z => nomatch z⟩
  have f1 : ∀ wd a, Fine (.stand wd [a]) := fun wd a => ⟨by show 1 ≤ 20; omega, fun z => nomatch z⟩
  intro d hd
  unfold standsL at hd
  simp only [List.mem_cons, List.not_mem_nil, or_false] at hd
  rcases hd with hd | hd | hd | hd | hd | hd | hd
  · exact ⟨.stand "unborn" [], hd, rfl, ⟨by decide +kernel, fun _ h => nomatch h⟩, f0 _⟩
  · exact ⟨.stand "asleep" [], hd, rfl, ⟨by decide +kernel, fun _ h => nomatch h⟩, f0 _⟩
  · refine ⟨.stand "due" [.int 5, .int 2], hd, rfl, ⟨by decide +kernel, fun x h => ?_⟩, ⟨by show 2 ≤ 20; omega, fun _ => ⟨by decide +kernel, by decide +kernel⟩⟩⟩
    simp only [List.mem_cons, List.not_mem_nil, or_false] at h
    rcases h with h | h <;> rw [h] <;> rfl
  · exact ⟨.stand "running" [], hd, rfl, ⟨by decide +kernel, fun _ h => nomatch h⟩, f0 _⟩
  · exact ⟨.stand "waits" [.str (ns.getD 3 "")], hd, rfl, ⟨by decide +kernel, fun x h => by rw [List.mem_singleton.mp h]; exact n3.1⟩, f1 _ _⟩
  · exact ⟨.stand "ended" [], hd, rfl, ⟨by decide +kernel, fun _ h => nomatch h⟩, f0 _⟩
  · exact ⟨.stand "fallen" [.str "big"], hd, rfl, ⟨by decide +kernel, fun x h => by rw [List.mem_singleton.mp h]; exact big_ok⟩, f1 _ _⟩
theorem st_ini (ns : List Int) : kdN ns ∈ kindsL ∧ ∃ st, Ini (kdN ns) (stN ns) st := by
  have hn : Nms (nmN ns) := names_ok _ _
  have dr : ∀ i, i < 10 → 0 ≤ (dN ns).getD i 0 ∧ (dN ns).getD i 0 < 1000 := fun i h => draw_r _ 10 i h
  have d2 := dr 2 (by decide)
  have v2 := value_ok hn (cell := cN ns 0) d2.1 d2.2
  have d8 := dr 8 (by decide)
  have v8 := value_ok hn (cell := cN ns 0) d8.1 d8.2
  have lt4 : ∀ i : Int, (i % 4).toNat < 4 := fun i => by omega
  unfold kdN stN
  obtain ⟨n, en⟩ : ∃ n, (whN ns).toNat = n := ⟨_, rfl⟩
  have hlt : n < 7 := by
    rw [← en]
    show ((dN ns).getD 2 0 % 7).toNat < 7
    omega
  rw [en]
  refine ⟨getD_mem hlt, ?_⟩
  unfold statesF
  have : n = 0 ∨ n = 1 ∨ n = 2 ∨ n = 3 ∨ n = 4 ∨ n = 5 ∨ n = 6 := by omega
  rcases this with rfl | rfl | rfl | rfl | rfl | rfl | rfl
  · exact ⟨.cell _, rfl, .inl rfl, v2.2, v2.1⟩
  · exact ⟨.cell _, rfl, .inr rfl, v8.2, v8.1⟩
  · exact lines_ok v2.2 _ (getD_mem (lt4 _))
  · exact stores_ok hn _ (getD_mem (lt4 _))
  · exact gates_ok hn _ (getD_mem (lt4 _))
  · exact wheels_ok _ (getD_mem (lt4 _))
  · exact stands_ok hn _ (getD_mem (by show _ < 7; omega))
/-! ### the law's facts -/
theorem mem_with {A : List Row} {x y : Row} {B : List Row} (h : x ∈ A ++ [y] ++ B) : x ∈ A ∨ x = y ∨ x ∈ B := by
  rcases List.mem_append.mp h with h | h
  · rcases List.mem_append.mp h with h | h
    · exact .inl h
    · exact .inr (.inl (List.mem_singleton.mp h))
  · exact .inr (.inr h)
theorem law_math (ns : List Int) : ∃ st, LawM ns st := by
  obtain ⟨hk, st, I0⟩ := st_ini ns
  have hn : Nms (nmN ns) := names_ok _ _
  have hm := many_le ((draws (cN ns 1) 21).getD 0 0)
  obtain ⟨S, M, I⟩ := inv_all (c0 := cN ns 1) (c1 := cN ns 2) hn hk I0.ok I0.kd I0.fine (manyF ((draws (cN ns 1) 21).getD 0 0)).toNat (by omega)
  have MR : MrD (kdN ns) st (nmN ns) (cN ns 1) (cN ns 2) := mrD_of hn hk I0.ok I0.kd I0.fine
  have len := rw_len ns st
  have B : Book (kdN ns) S M (rwN ns st) := I.book
  have hla : S M = laN ns st := I.sM
  have rg : ∀ r ∈ rwN ns st, RG r := I.rg
  obtain ⟨ex1, ex2⟩ := exF_all ((pkN ns).getD 0 0) (rwN ns st)
  have rgo : ∀ r ∈ otN ns st, RG r := fun r hr => rg r (ex2.mem_iff.mp hr)
  have rgd : ∀ r ∈ duN ns st, RG r := fun r hr => rg r ((sortR_perm _).mem_iff.mp hr)
  have dl : (duN ns st).length = (rwN ns st).length := du_len ns st
  have lo : (otN ns st).length = (rwN ns st).length := ex2.length_eq
  have run := B.run
  rw [I.s0, hla] at run
  have ok0 : ∀ n : Nat, n ≤ 800 → st.Ok (900 - n) := fun n h => I0.ok.mono (by omega)
  have rep : ReplD (kdN ns) st (duN ns st) := ⟨I0.kd, ok0 _ (by omega), by omega, fun r hr => (rgd r hr).rowOk⟩
  have a1 : alk 3 (rowsD (duN ns st)) = true := alk_rows rgd (by omega)
  have a2 : alk 3 (laN ns st).pd = true := alk_st I.ok (by omega) I.fine
  have p0 : ∀ h : 0 < (rwN ns st).length, plN ns st < (duN ns st).length := fun h => by
    have z := draw_r (cN ns 3) 5 1 (by decide)
    rw [dl]
    show ((pkN ns).getD 1 0 % ((rwN ns st).length : Int)).toNat < _
    have := Int.emod_lt_of_pos ((pkN ns).getD 1 0) (show (0 : Int) < (rwN ns st).length by omega)
    have := Int.emod_nonneg ((pkN ns).getD 1 0) (show ((rwN ns st).length : Int) ≠ 0 by omega)
    omega
  have bad : ∀ (h : 0 < (rwN ns st).length) (bs : List Row), replF (kdN ns) st 0 (withR ns st bs) = .inr (chN ns st).num := fun h bs => by
    have z := B.bad (p0 h) (ch := chN ns st) (fun s m h1 h2 => ch_bad (rgd _ (getD_mem (p0 h))) _ s m h1 h2) bs
    rw [I.s0] at z
    exact z
  have chok : ∀ h : 0 < (rwN ns st).length, RowOk (chN ns st) := fun h => (rgd _ (getD_mem (p0 h))).chOk _
  have bl : (bhN ns st).length ≤ 20 := by
    unfold bhN
    rw [List.length_drop]
    omega
  have rdW : ∀ (h : 0 < (rwN ns st).length) (bs : List Row), bs.length ≤ 100 → (∀ r ∈ bs, RowOk r) → ReplD (kdN ns) st (withR ns st bs) := fun h bs hl hb => by
    have wl : (withR ns st bs).length ≤ 200 := by
      unfold withR
      rw [List.length_append, List.length_append, List.length_take, List.length_singleton]
      omega
    refine ⟨I0.kd, ok0 _ (by omega), by omega, fun r hr => ?_⟩
    rcases mem_with hr with hr | hr | hr
    · exact (rgd r (List.mem_of_mem_take hr)).rowOk
    · rw [hr]
      exact chok h
    · exact hb r hr
  have bh : ∀ r ∈ bhN ns st, RG r := fun r hr => rgd r (List.mem_of_mem_drop hr)
  refine ⟨st, I0.pd, fun x hx => nm_str (hn.ok x hx), MR, ?_, ?_, fun r hr => (rg r hr).ans.ansOk, fun h => ⟨rdW h _ (by omega) fun r hr => (bh r hr).rowOk, bad h _⟩, fun h h2 => ⟨rdW h _ ?_ ?_, bad h _⟩⟩
  · exact ⟨ex1, fun r hr => (rg r hr).rowOk, fun r hr => (rgo r hr).rowOk, by omega, by omega, rep, run, a1, a2⟩
  · refine ⟨ex1.symm, fun r hr => (rgo r hr).rowOk, fun r hr => (rg r hr).rowOk, by omega, by omega, ?_, ?_, ?_, a2⟩
    · unfold otN
      rw [ex1]
      exact rep
    · unfold otN
      rw [ex1]
      exact run
    · unfold otN
      rw [ex1]
      exact a1
  · unfold b2N
    rw [List.length_append, List.length_append, List.length_take, List.length_singleton, List.length_drop]
    omega
  · intro r hr
    have a0 : atN2 ns st < (bhN ns st).length := by
      show ((pkN ns).getD 3 0 % ((bhN ns st).length : Int)).toNat < _
      have := Int.emod_lt_of_pos ((pkN ns).getD 3 0) (show (0 : Int) < (bhN ns st).length by omega)
      have := Int.emod_nonneg ((pkN ns).getD 3 0) (show ((bhN ns st).length : Int) ≠ 0 by omega)
      omega
    rcases mem_with hr with hr | hr | hr
    · exact (bh r (List.mem_of_mem_take hr)).rowOk
    · rw [hr]
      exact (bh _ (getD_mem a0)).chOk _
    · exact (bh r (List.mem_of_mem_drop hr)).rowOk
end K5
end PartMA5
section PartTH1
set_option maxRecDepth 100000
namespace K5H
open PySem PySem.W PySem.Calls PyProof.Rows

/-! ### a wp of a part of a thread comes through -/
section
variable {M : Model} {α : Type}
theorem comesW (K : α → Sem Fin) (H : Value → Sem Fin) (gd : Bool → Bool) (lv : List Value → List Value) (x : Sem α) :
    ∀ {Γ : Ctx} {st : List Frame} (_ : Γ.Fits st) (Q : α → Pos → Shared → Prop) (p : Pos) (s : Shared), Sem.wp M Γ x Q (fun _ _ _ => False) p s →
      ∃ a p' s', Q a p' s' ∧ Comes M s ⟨x.wrap K H gd lv, Γ.code, p, st⟩ s' ⟨K a, Γ.code, p', st⟩ := by
  induction x with
  | pure a =>
    intro Γ st _ Q p s h
    exact ⟨a, p, s, h, Comes.refl _ _⟩
  | raise | unsupported | finish | register | yield | fork | await =>
    intro Γ st _ Q p s h
    exact absurd h id
  | rule t k ih =>
    intro Γ st hf Q p s h
    obtain ⟨a, p1, s1, z1, z2⟩ := ih () hf Q p s h
    exact ⟨a, p1, s1, z1, Comes.step (step_rule (M := M) ..) z2⟩
  | «at» q k ih =>
    intro Γ st hf Q p s h
    obtain ⟨a, p1, s1, z1, z2⟩ := ih () hf Q q s h
    exact ⟨a, p1, s1, z1, Comes.step (step_at (M := M) ..) z2⟩
  | load b pt k ih =>
    intro Γ st hf Q p s h
    obtain ⟨o, e, h⟩ := h
    obtain ⟨a, p1, s1, z1, z2⟩ := ih o hf Q p s h
    exact ⟨a, p1, s1, z1, Comes.step (step_load (h := e) ..) z2⟩
  | update b pt f k ih =>
    intro Γ st hf Q p s h
    obtain ⟨e, h⟩ := h
    obtain ⟨a, p1, s1, z1, z2⟩ := ih () hf Q p _ h
    exact ⟨a, p1, s1, z1, Comes.step (step_update (h := e) ..) z2⟩
  | loadIfAlive b k ih =>
    intro Γ st hf Q p s h
    obtain ⟨a, p1, s1, z1, z2⟩ := ih _ hf Q p s h
    exact ⟨a, p1, s1, z1, Comes.step (step_loadIfAlive (M := M) ..) z2⟩
  | point l k ih =>
    intro Γ st hf Q p s h
    obtain ⟨a, p1, s1, z1, z2⟩ := ih _ hf Q p s h
    exact ⟨a, p1, s1, z1, Comes.step (step_point (M := M) ..) z2⟩
  | alloc o k ih =>
    intro Γ st hf Q p s h
    obtain ⟨a, p1, s1, z1, z2⟩ := ih _ hf Q p _ h
    exact ⟨a, p1, s1, z1, Comes.step (step_alloc (M := M) ..) z2⟩
  | fresh k ih =>
    intro Γ st hf Q p s h
    obtain ⟨a, p1, s1, z1, z2⟩ := ih _ hf Q p _ h
    exact ⟨a, p1, s1, z1, Comes.step (step_fresh (M := M) ..) z2⟩
  | ask k ih =>
    intro Γ st hf Q p s h
    obtain ⟨a, p1, s1, z1, z2⟩ := ih _ hf Q p _ h
    exact ⟨a, p1, s1, z1, Comes.step (step_ask (M := M) ..) z2⟩
  | choose c n k ih =>
    intro Γ st hf Q p s h
    obtain ⟨e, h⟩ := h
    obtain ⟨a, p1, s1, z1, z2⟩ := ih _ hf Q p _ h
    exact ⟨a, p1, s1, z1, Comes.step (step_choose (h := e) ..) z2⟩
  | os q l k ih =>
    intro Γ st hf Q p s h
    obtain ⟨a, p1, s1, z1, z2⟩ := ih _ hf Q p _ h
    exact ⟨a, p1, s1, z1, Comes.step (step_os (M := M) ..) z2⟩
  | call c hh g l k ih =>
    intro Γ st hf Q p s h
    obtain ⟨r, s0, hr, h⟩ := h
    obtain ⟨t0, c0, p0, pre, w1, w2⟩ := Reach.comes (runs_reach hr _ (hf.enter c (fun y => (k y).wrap K H gd lv) hh (gd g) (lv l) p []))
    obtain ⟨e1, e2⟩ := w2
    subst e1 e2
    obtain ⟨a, p1, s1, z1, z2⟩ := ih r hf Q p s0 h
    exact ⟨a, p1, s1, z1, Comes.step (step_call (M := M) ..) (Comes.trans w1 (Comes.step (step_leaf_ret (M := M) ..) z2))⟩
  | handled o k ih =>
    intro Γ st hf Q p s h
    obtain ⟨a, p1, s1, z1, z2⟩ := ih _ hf Q p s h
    refine ⟨a, p1, s1, z1, Comes.step ?_ z2⟩
    show M.step s ⟨.handled o fun y => (k y).wrap K H gd lv, _, _, _⟩ = _
    rw [step_handled]
    cases o with
    | false => rw [hf.handled]; rfl
    | true => rw [hf.own]; rfl
  | genState g k ih =>
    intro Γ st hf Q p s h
    obtain ⟨o, e, h⟩ := h
    obtain ⟨a, p1, s1, z1, z2⟩ := ih _ hf Q p s h
    exact ⟨a, p1, s1, z1, Comes.step (step_genState (h := e) ..) z2⟩
  | newGen c k ih =>
    intro Γ st hf Q p s h
    obtain ⟨a, p1, s1, z1, z2⟩ := ih _ hf Q p _ h
    exact ⟨a, p1, s1, z1, Comes.step (step_newGen (M := M) ..) z2⟩
  | resume g r l k ih =>
    intro Γ st hf Q p s h
    obtain ⟨o, s0, hw, h⟩ := h
    obtain ⟨a, p1, s1, z1, z2⟩ := ih o hf Q p s0 h
    exact ⟨a, p1, s1, z1, Comes.trans (wakes_comes hf (lv l) (fun y => (k y).wrap K H gd lv) hw) z2⟩
  | stack k ih =>
    intro Γ st hf Q p s h
    obtain ⟨a, p1, s1, z1, z2⟩ := ih _ hf Q p s h
    refine ⟨a, p1, s1, z1, Comes.step ?_ z2⟩
    rw [hf.below]
    exact step_stack (M := M) ..
  | thread k ih =>
    intro Γ st hf Q p s h
    obtain ⟨a, p1, s1, z1, z2⟩ := ih _ hf Q p s h
    exact ⟨a, p1, s1, z1, Comes.step (step_thread (M := M) ..) z2⟩
end

/-! ### the scheduler's own run -/
/-- the scheduler comes from here to there -/
def Sch (p : Program) (w : World) (s : Shared) (t : Thread) (s' : Shared) (t' : Thread) : Prop :=
  ∃ n, schedN (denote table) p w n (.single s t) = .running (.single s' t')
theorem Sch.refl {p : Program} {w : World} (s : Shared) (t : Thread) : Sch p w s t s t := ⟨0, rfl⟩
theorem Sch.step {p : Program} {w : World} {s s1 s' : Shared} {t t1 t' : Thread} (hz : s.asleep) (hc : t.calm = true) (h : step (denote table) p w s t = .go s1 t1) (k : Sch p w s1 t1 s' t') : Sch p w s t s' t' := by
  obtain ⟨n, hn⟩ := k
  refine ⟨n + 1, ?_⟩
  have e : sstep (denote table) p w (.single s t) = .go (.single s1 t1) := by
    rcases sstep_single (denote table) p w s t hc hz with e | e
    · rw [e, h]
      rfl
    · rw [h] at e
      cases e
  simp only [schedN, e]
  exact hn
theorem Sch.trans {p : Program} {w : World} {s s1 s' : Shared} {t t1 t' : Thread} (a : Sch p w s t s1 t1) (b : Sch p w s1 t1 s' t') : Sch p w s t s' t' := by
  obtain ⟨n, hn⟩ := a
  obtain ⟨m, hm⟩ := b
  suffices z : ∀ (n : Nat) (c : Config), schedN (denote table) p w n c = .running (.single s1 t1) → schedN (denote table) p w (n + m) c = .running (.single s' t') from ⟨n + m, z n _ hn⟩
  intro n
  induction n with
  | zero =>
    intro c hc
    have e : c = .single s1 t1 := by
      have q : SRun.running c = .running (.single s1 t1) := hc
      injection q
    rw [Nat.zero_add, e]
    exact hm
  | succ n ih =>
    intro c hc
    rw [Nat.add_right_comm]
    simp only [schedN] at hc ⊢
    cases e : sstep (denote table) p w c with
    | halt o s2 => rw [e] at hc; cases hc
    | go c2 => rw [e] at hc; exact ih c2 hc

theorem loudless {den : Code → Sem Fin} {p : Program} {w : World} {s s1 : Shared} {t t1 : Thread} (h : stepI den p w s t = .go s1 t1) : t.calm = true ∧ stepK den p w s t = .go s1 t1 := by
  have hl : t.loud = false := by
    cases e : t.loud with
    | false => rfl
    | true => rw [stepI_loud den p w e] at h; cases h
  rw [stepI_quiet den p w hl] at h
  refine ⟨?_, h⟩
  rw [Thread.calm_eq, hl]
  cases r : t.refused with
  | false => rfl
  | true =>
    obtain ⟨x, e⟩ := stepK_refused den p w (s := s) r
    rw [e] at h
    cases h

theorem sch_of_comes {p : Program} {w : World} {s' : Shared} {t' : Thread} : ∀ (n : Nat) (s σ : Shared) (t τ : Thread), σ.asleep → σ.forget = s.forget → τ.forget = t.forget →
    (model p w).runN n s t = .running s' t' → ∃ σ' τ', Sch p w σ τ σ' τ' ∧ σ'.forget = s'.forget ∧ τ'.forget = t'.forget
  | 0, s, σ, t, τ, hz, h1, h2, h => by
    have e : Run.running s t = .running s' t' := h
    injection e with e1 e2
    subst e1 e2
    exact ⟨σ, τ, Sch.refl _ _, h1, h2⟩
  | n + 1, s, σ, t, τ, hz, h1, h2, h => by
    rw [runN_succ] at h
    cases e : (model p w).step s t with
    | halt o s2 => rw [e] at h; cases h
    | go s1 t1 =>
      rw [e] at h
      obtain ⟨c1, c2⟩ := loudless (den := (model p w).den) (p := (model p w).prog) (w := (model p w).w) e
      have c3 : τ.calm = true := by
        rw [← Thread.calm_forget τ, h2, Thread.calm_forget t]
        exact c1
      have e1 := step_same (denote table) p w h1 h2
      have e2 := stepK_forget (denote table) p w s t
      have c2' : stepK (denote table) p w s t = .go s1 t1 := c2
      rw [c2', ] at e2
      cases e3 : step (denote table) p w σ τ with
      | halt o σ1 =>
        rw [e3, ← e2] at e1
        cases e1
      | go σ1 τ1 =>
        rw [e3, ← e2] at e1
        simp only [Step.forget, Step.go.injEq] at e1
        have hz1 : σ1.asleep := Shared.asleep_of_life (step_life _ _ _ _ _ _ _ e3) hz
        obtain ⟨σ', τ', k1, k2, k3⟩ := sch_of_comes n s1 σ1 t1 τ1 hz1 e1.1 e1.2 h
        exact ⟨σ', τ', k1.step hz c3 e3, k2, k3⟩
end K5H
end PartTH1
section PartTH2
set_option maxRecDepth 100000
namespace K5H
open PySem PySem.W PySem.Calls PyProof.Rows

/-! ### a written dict whose keys are tuples of texts -/
/-- such keys -/
abbrev kk (prog : Program) (w : World) : HeapKind prog w (List PySem.Str) := tupleKind (strKind prog w)
/-- the simple readings of a tree: no call, no load -/
def Fol {α : Type} : Sem α → (α → Shared → Prop) → Shared → Prop
  | .pure a, Q, s => Q a s
  | .alloc o k, Q, s => Fol (k s.heap.objs.size) Q { s with heap := s.heap.push o }
  | .fresh k, Q, s => Fol (k s.toks) Q { s with toks := s.toks + 1 }
  | .update a _ f k, Q, s => (s.heap.get? a).isSome = true ∧ Fol (k ()) Q { s with heap := s.heap.update a f }
  | _, _, _ => False
def Simple {α : Type} : Sem α → Prop
  | .pure _ => True
  | .alloc _ k => ∀ a, Simple (k a)
  | .fresh k => ∀ a, Simple (k a)
  | .update _ _ _ k => Simple (k ())
  | _ => False
theorem fol_bind {α β : Type} (x : Sem α) (f : α → Sem β) (Q : β → Shared → Prop) : ∀ s, Fol (x.bind f) Q s ↔ Fol x (fun a s' => Fol (f a) Q s') s := by
  induction x <;> intro s <;> simp_all [Sem.bind, Fol]
theorem fol_mono {α : Type} (x : Sem α) {Q Q' : α → Shared → Prop} (h : ∀ a s, Q a s → Q' a s) : ∀ s, Fol x Q s → Fol x Q' s := by
  induction x <;> intro s z <;> simp_all [Fol]
theorem simple_bind {α β : Type} (x : Sem α) (f : α → Sem β) (hx : Simple x) (hf : ∀ a, Simple (f a)) : Simple (x.bind f) := by
  induction x <;> simp_all [Sem.bind, Simple]

def strsAt : Nat → List PySem.Str → List Value
  | _, [] => []
  | t, x :: r => .str x t :: strsAt (t + 1) r
def yStrs : List PySem.Str → Sem (List Value)
  | [] => .pure []
  | x :: r => .fresh fun t => (yStrs r).bind fun vs => .pure (.str x t :: vs)
def yTup (xs : List PySem.Str) : Sem Value := (yStrs xs).bind fun vs => .alloc { cls := .type "tuple", data := .seq vs.toArray } fun a => .pure (.ref a)
def yFr {α : Type} : Nat → Sem α → Sem α
  | 0, k => k
  | n + 1, k => .fresh fun _ => yFr n k
def yPut (d : Addr) (h : Int) (key v : Value) : Sem Unit := .update d none (Obj.mapDictKeys fun es => es.push ⟨h, key, v⟩) fun _ => .pure ()
section
variable (hh : List PySem.Str → Int)
def yLong (d : Addr) : List (List PySem.Str × List PySem.Str) → Sem Unit
  | [] => .pure ()
  | (k, v) :: r => (yTup k).bind fun kv => (yTup v).bind fun vv => yFr (k.length + 1) ((yPut d (hh k) kv vv).bind fun _ => yLong d r)
def yAll : List (List PySem.Str × List PySem.Str) → Sem (List (List PySem.Str × Value × Value))
  | [] => .pure []
  | (k, v) :: r => (yTup k).bind fun kv => (yTup v).bind fun vv => (yAll r).bind fun l => .pure ((k, kv, vv) :: l)
def yPuts (d : Addr) : List (List PySem.Str × Value × Value) → Sem Unit
  | [] => .pure ()
  | (k, kv, vv) :: r => yFr (k.length + 1) ((yPut d (hh k) kv vv).bind fun _ => yPuts d r)
def yMerge (d : Addr) : List (List PySem.Str × Value × Value) → Sem Unit
  | [] => .pure ()
  | (k, kv, vv) :: r => (yPut d (hh k) kv vv).bind fun _ => yMerge d r
def yDict (P1 P2 : List (List PySem.Str × List PySem.Str)) : Sem Value :=
  .alloc { cls := .type "dict", data := .dict #[] } fun d => (yLong hh d P1).bind fun _ =>
    .alloc { cls := .type "dict", data := .dict #[] } fun e => (yAll P2).bind fun l => (yPuts hh e l).bind fun _ => (yMerge hh d l).bind fun _ => .pure (.ref d)
theorem simple_strs : ∀ xs, Simple (yStrs xs)
  | [] => trivial
  | x :: r => fun t => simple_bind _ _ (simple_strs r) fun _ => trivial
theorem simple_tup (xs : List PySem.Str) : Simple (yTup xs) := simple_bind _ _ (simple_strs xs) fun _ _ => trivial
theorem simple_fr {α : Type} (x : Sem α) (hx : Simple x) : ∀ n, Simple (yFr n x)
  | 0 => hx
  | n + 1 => fun _ => simple_fr x hx n
theorem simple_put (d : Addr) (h : Int) (k v : Value) : Simple (yPut d h k v) := trivial
theorem simple_long (d : Addr) : ∀ P, Simple (yLong hh d P)
  | [] => trivial
  | (k, v) :: r => simple_bind _ _ (simple_tup k) fun _ => simple_bind _ _ (simple_tup v) fun _ => simple_fr _ (simple_bind _ _ (simple_put ..) fun _ => simple_long d r) _
theorem simple_all : ∀ P, Simple (yAll P)
  | [] => trivial
  | (k, v) :: r => simple_bind _ _ (simple_tup k) fun _ => simple_bind _ _ (simple_tup v) fun _ => simple_bind _ _ (simple_all r) fun _ => trivial
theorem simple_puts (d : Addr) : ∀ P, Simple (yPuts hh d P)
  | [] => trivial
  | (k, kv, vv) :: r => simple_fr _ (simple_bind _ _ (simple_put ..) fun _ => simple_puts d r) _
theorem simple_merge (d : Addr) : ∀ P, Simple (yMerge hh d P)
  | [] => trivial
  | (k, kv, vv) :: r => simple_bind _ _ (simple_put ..) fun _ => simple_merge d r
theorem simple_dict (P1 P2 : List (List PySem.Str × List PySem.Str)) : Simple (yDict hh P1 P2) := fun d =>
  simple_bind _ _ (simple_long hh d P1) fun _ e => simple_bind _ _ (simple_all P2) fun l => simple_bind _ _ (simple_puts hh e l) fun _ => simple_bind _ _ (simple_merge hh d l) fun _ => trivial
end

theorem fol_strs (Q : List Value → Shared → Prop) : ∀ (xs : List PySem.Str) (s : Shared), Fol (yStrs xs) Q s ↔ Q (strsAt s.toks xs) { s with toks := s.toks + xs.length }
  | [], s => Iff.rfl
  | x :: r, s => by
    show Fol ((yStrs r).bind fun vs => .pure (.str x s.toks :: vs)) Q { s with toks := s.toks + 1 } ↔ _
    rw [fol_bind, fol_strs]
    show Q (.str x s.toks :: strsAt (s.toks + 1) r) { s with toks := s.toks + 1 + r.length } ↔ Q (.str x s.toks :: strsAt (s.toks + 1) r) { s with toks := s.toks + (r.length + 1) }
    rw [show s.toks + 1 + r.length = s.toks + (r.length + 1) by omega]
/-- the tuple of these texts, made at s -/
def tupS (xs : List PySem.Str) (s : Shared) : Shared := { s with heap := s.heap.push { cls := .type "tuple", data := .seq (strsAt s.toks xs).toArray }, toks := s.toks + xs.length }
theorem fol_tup (Q : Value → Shared → Prop) (xs : List PySem.Str) (s : Shared) : Fol (yTup xs) Q s ↔ Q (.ref s.heap.objs.size) (tupS xs s) := by
  unfold yTup
  rw [fol_bind, fol_strs]
  exact Iff.rfl
theorem fol_fr {α : Type} (x : Sem α) (Q : α → Shared → Prop) : ∀ (n : Nat) (s : Shared), Fol (yFr n x) Q s ↔ Fol x Q { s with toks := s.toks + n }
  | 0, s => Iff.rfl
  | n + 1, s => by
    show Fol (yFr n x) Q { s with toks := s.toks + 1 } ↔ _
    rw [fol_fr]
    show Fol x Q { s with toks := s.toks + 1 + n } ↔ Fol x Q { s with toks := s.toks + (n + 1) }
    rw [show s.toks + 1 + n = s.toks + (n + 1) by omega]

/-! ### what grows -/
def Ext (h h' : Heap) : Prop := ∀ b o, h.get? b = some o → h'.get? b = some o
theorem Ext.push (h : Heap) (o : Obj) : Ext h (h.push o) := fun b o' e => Heap.get?_push_of_some o e
theorem Ext.trans {a b c : Heap} (x : Ext a b) (y : Ext b c) : Ext a c := fun d o e => y d o (x d o e)

section
variable {prog : Program} {w : World} {A : Around} {E : Value → Shared → Prop} {s : Shared}
theorem isKey_ext {h h' : Heap} (x : Ext h h') {k : List PySem.Str} {a : Addr} (z : IsTupleKey (strKind prog w) h k a) : IsTupleKey (strKind prog w) h' k a :=
  let ⟨o, i, n, e, r⟩ := z
  ⟨o, i, n, x a o e, r⟩
theorem dictH_ext {h h' : Heap} (x : Ext h h') {d : Addr} {xs : List (List PySem.Str × Addr × Value)} (z : h.DictOfH (kk prog w) d xs) : h'.DictOfH (kk prog w) d xs :=
  let ⟨o, es, ep, e, c, f, g, hk, n⟩ := z
  ⟨o, es, ep, x d o e, c, f, g, fun y hy => isKey_ext x (hk y hy), n⟩
theorem items_strs : ∀ (xs : List PySem.Str) (t : Nat), ItemsAre (strKind prog w) xs (strsAt t xs)
  | [], t => .nil
  | x :: r, t => .cons (by show Value.isStrOf x (.str x t) = true; simp [Value.isStrOf]) (items_strs r (t + 1))
theorem key_made (xs : List PySem.Str) (s : Shared) : IsTupleKey (strKind prog w) (tupS xs s).heap xs s.heap.objs.size :=
  ⟨_, _, _, Heap.get?_push_size s.heap rfl, rfl, rfl, by simpa using items_strs xs s.toks⟩
theorem ext_tup (xs : List PySem.Str) (s : Shared) : Ext s.heap (tupS xs s).heap := Ext.push _ _

/-- one more pair stands in the dict -/
theorem put_made {h : Heap} {d a : Addr} {k : List PySem.Str} {v : Value} {xs : List (List PySem.Str × Addr × Value)} (hm : h.DictOfH (kk prog w) d xs) (hk : IsTupleKey (strKind prog w) h k a) (hn : k ∉ xs.map (·.1)) :
    (h.update d (Obj.mapDictKeys fun es => es.push ⟨(kk prog w).hash k, .ref a, v⟩)).DictOfH (kk prog w) d (xs ++ [(k, a, v)]) := by
  obtain ⟨o, es, ep, e, c, f, g, his, hnd⟩ := hm
  refine ⟨_, _, _, Heap.get?_update_self _ e (Obj.isFreed_of_dict (Obj.data_mapDictKeys f _)), c.mapDictKeys _, Obj.data_mapDictKeys f _, ?_, ?_, ?_⟩
  · simp [g, entryOfKey]
  · intro y hy
    rcases List.mem_append.mp hy with hy | hy
    · exact (kk prog w).keeps (his y hy) e f (Heap.SameBut.update ..)
    · obtain rfl := List.mem_singleton.mp hy
      exact (kk prog w).keeps (k := k) hk e f (Heap.SameBut.update ..)
  · rw [List.map_append, List.nodup_append]
    refine ⟨hnd, by simp, fun x hx y hy q => ?_⟩
    obtain rfl : y = k := by simpa using hy
    exact hn (q ▸ hx)
theorem none_of {xs : List (List PySem.Str × Addr × Value)} {k : List PySem.Str} (hn : k ∉ xs.map (·.1)) (j : Nat) (p : Addr × Value) : xs[j]? ≠ some (k, p) := fun q =>
  hn (List.mem_map.mpr ⟨(k, p), List.mem_of_getElem? q, rfl⟩)

theorem w_find {d a : Addr} {k : List PySem.Str} {xs : List (List PySem.Str × Addr × Value)} {Q : Option Nat → Shared → Prop} (hu : A.units < cLine) (hm : s.heap.DictOfH (kk prog w) d xs) (hk : IsTupleKey (strKind prog w) s.heap k a)
    (hn : k ∉ xs.map (·.1)) (h : Q none s) : wpAny (model prog w) A (dictFind d (.ref a) ((kk prog w).hash k)) Q E s := by
  obtain ⟨o, es, ep, e, c, f, g, his, hnd⟩ := hm
  exact wpAny_dictFind_heap (knd := kk prog w) hu hk e f g his hnd (fun _ => h) fun j p q => absurd q (none_of hn j p)
theorem w_keys {d a : Addr} {k : List PySem.Str} {v : Value} {xs : List (List PySem.Str × Addr × Value)} {Q : Unit → Shared → Prop} (hm : s.heap.DictOfH (kk prog w) d xs) (hsz : xs.length ≤ sizeLine)
    (h : Fol (yPut d ((kk prog w).hash k) (.ref a) v) Q s) : wpAny (model prog w) A (updateDictKeys d (·.push ⟨(kk prog w).hash k, .ref a, v⟩) (keyPart (.ref a))) Q E s := by
  obtain ⟨o, es, ep, e, c, f, g, his, hnd⟩ := hm
  exact wpAny_updateDictKeys (hz := by rw [size_of_entries g]; exact hsz) e f h.2
theorem w_set {d a : Addr} {k : List PySem.Str} {v : Value} {xs : List (List PySem.Str × Addr × Value)} {Q : Unit → Shared → Prop} (hu : A.units < cLine) (hm : s.heap.DictOfH (kk prog w) d xs) (hk : IsTupleKey (strKind prog w) s.heap k a)
    (hn : k ∉ xs.map (·.1)) (hsz : xs.length ≤ sizeLine) (h : Fol (yFr (k.length + 1) (yPut d ((kk prog w).hash k) (.ref a) v)) Q s) : wpAny (model prog w) A (dictSet d (.ref a) v) Q E s := by
  rw [fol_fr] at h
  unfold dictSet
  refine wpAny_holding (wpAny_bind ((kk prog w).pyHash (k := k) hu hk ?_))
  unfold dictSetHashed
  refine wpAny_holding (wpAny_bind (w_find hu hm hk hn ?_))
  exact wpAny_bind (wpAny_rule (w_keys hm hsz h))
theorem w_dput {d a : Addr} {k : List PySem.Str} {v : Value} {xs : List (List PySem.Str × Addr × Value)} {Q : Unit → Shared → Prop} (hu : A.units < cLine) (hm : s.heap.DictOfH (kk prog w) d xs) (hk : IsTupleKey (strKind prog w) s.heap k a)
    (hn : k ∉ xs.map (·.1)) (hsz : xs.length ≤ sizeLine) (h : Fol (yPut d ((kk prog w).hash k) (.ref a) v) Q s) : wpAny (model prog w) A (dictPut d ((kk prog w).hash k) (.ref a) v) Q E s := by
  unfold dictPut
  exact wpAny_bind (w_find hu hm hk hn (w_keys hm hsz h))

/-- what a display of texts reads -/
def Txt (prog : Program) (w : World) (x : Sem Value) (xs : List PySem.Str) : Prop := ∀ (A : Around) (E : Value → Shared → Prop) (s : Shared) (Q : Value → Shared → Prop), Q (.ref s.heap.objs.size) (tupS xs s) → wpAny (model prog w) A x Q E s
inductive Txts (prog : Program) (w : World) : List (Sem Value × Sem Value) → List (List PySem.Str × List PySem.Str) → Prop
  | nil : Txts prog w [] []
  | cons {x y : Sem Value} {k v : List PySem.Str} {l : List (Sem Value × Sem Value)} {P : List (List PySem.Str × List PySem.Str)} : Txt prog w x k → Txt prog w y v → Txts prog w l P → Txts prog w ((x, y) :: l) ((k, v) :: P)

theorem w_long {d : Addr} (hu : A.units < cLine) {l : List (Sem Value × Sem Value)} {P : List (List PySem.Str × List PySem.Str)} (T : Txts prog w l P) : ∀ (s : Shared) (xs : List (List PySem.Str × Addr × Value)) (Q : PUnit → Shared → Prop),
    s.heap.DictOfH (kk prog w) d xs → (xs.map (·.1) ++ P.map (·.1)).Nodup → xs.length + P.length ≤ sizeLine →
    Fol (yLong (kk prog w).hash d P) (fun u s' => ∀ ys, s'.heap.DictOfH (kk prog w) d ys → ys.map (·.1) = xs.map (·.1) ++ P.map (·.1) → Q u s') s →
    wpAny (model prog w) A (forIn l PUnit.unit fun (x : Sem Value × Sem Value) (_ : PUnit) => (do
      let kv ← x.1
      let vv ← holding [kv] x.2
      holding [kv, vv] (dictSet d kv vv)
      pure (ForInStep.yield PUnit.unit) : Sem (ForInStep PUnit))) Q E s := by
  induction T with
  | nil =>
    intro s xs Q hm _ _ h
    rw [List.forIn_nil]
    exact wpAny_pure (h xs hm (by simp))
  | @cons x y k v l P h1 h2 _ ih =>
    intro s xs Q hm hn hsz h
    rw [List.forIn_cons]
    have hk : k ∉ xs.map (·.1) := by
      intro q
      have z := (List.nodup_append.mp hn).2.2 k q k (by simp)
      exact z rfl
    have hl : xs.length + (P.length + 1) ≤ sizeLine := by simpa using hsz
    unfold yLong at h
    rw [fol_bind, fol_tup, fol_bind, fol_tup, fol_fr, fol_bind] at h
    refine wpAny_bind (wpAny_bind (h1 _ _ _ _ (wpAny_bind (wpAny_holding (h2 _ _ _ _ (wpAny_bind (wpAny_holding ?_)))))))
    have m2 : (tupS v (tupS k s)).heap.DictOfH (kk prog w) d xs := dictH_ext (Ext.trans (ext_tup k s) (ext_tup v _)) hm
    have k2 : IsTupleKey (strKind prog w) (tupS v (tupS k s)).heap k s.heap.objs.size := isKey_ext (ext_tup v _) (key_made k s)
    refine w_set hu m2 k2 hk (by omega) ?_
    rw [fol_fr]
    refine ⟨h.1, wpAny_pure ?_⟩
    refine ih _ (xs ++ [(k, s.heap.objs.size, .ref (tupS k s).heap.objs.size)]) Q (put_made m2 k2 hk) (by simpa using hn) (by simp only [List.length_append, List.length_cons, List.length_nil]; omega) ?_
    refine fol_mono _ (fun u s' z ys m e => z ys m ?_) _ h.2
    simpa using e
end
end K5H
end PartTH2
section PartTH3
set_option maxRecDepth 100000
namespace K5H
open PySem PySem.W PySem.Calls PyProof.Rows
section
variable {prog : Program} {w : World} {A : Around} {E : Value → Shared → Prop} {s : Shared}
/-- the pairs as the made tuples tell them -/
def madeOf (ys : List (List PySem.Str × Addr × Value)) : List (List PySem.Str × Value × Value) := ys.map fun y => (y.1, .ref y.2.1, y.2.2)
def pairsOf (l : List (List PySem.Str × Value × Value)) : List (Value × Value) := l.map fun y => y.2
theorem w_all {l : List (Sem Value × Sem Value)} {P : List (List PySem.Str × List PySem.Str)} (T : Txts prog w l P) : ∀ (s : Shared) (Q : List (Value × Value) → Shared → Prop),
    Fol (yAll P) (fun es s' => ∀ ys, es = madeOf ys → ys.map (·.1) = P.map (·.1) → (∀ y ∈ ys, IsTupleKey (strKind prog w) s'.heap y.1 y.2.1) → Ext s.heap s'.heap → Q (pairsOf es) s') s →
    wpAny (model prog w) A (evalPairs l) Q E s := by
  induction T with
  | nil =>
    intro s Q h
    exact wpAny_pure (h [] rfl rfl (by simp) fun _ _ e => e)
  | @cons x y k v l P h1 h2 _ ih =>
    intro s Q h
    unfold yAll at h
    rw [fol_bind, fol_tup, fol_bind, fol_tup, fol_bind] at h
    refine evalPairs_cons (h1 _ _ _ _ (h2 _ _ _ _ (ih _ _ (fol_mono _ (fun es s' z => ?_) _ h))))
    intro ys e1 e2 e3 e4
    have z2 := z ((k, s.heap.objs.size, .ref (tupS k s).heap.objs.size) :: ys) (by rw [e1]; rfl) (by simp [e2]) (by
      intro y hy
      rcases List.mem_cons.mp hy with rfl | hy
      · exact isKey_ext (Ext.trans (ext_tup v _) e4) (key_made k s)
      · exact e3 y hy) (Ext.trans (ext_tup k s) (Ext.trans (ext_tup v _) e4))
    exact z2
theorem w_puts {d : Addr} (hu : A.units < cLine) : ∀ (ys : List (List PySem.Str × Addr × Value)) (s : Shared) (xs : List (List PySem.Str × Addr × Value)) (Q : PUnit → Shared → Prop),
    s.heap.DictOfH (kk prog w) d xs → (xs.map (·.1) ++ ys.map (·.1)).Nodup → xs.length + ys.length ≤ sizeLine → (∀ y ∈ ys, IsTupleKey (strKind prog w) s.heap y.1 y.2.1) →
    Fol (yPuts (kk prog w).hash d (madeOf ys)) (fun u s' => s'.heap.DictOfH (kk prog w) d (xs ++ ys) → (∀ e zs, e ≠ d → s.heap.DictOfH (kk prog w) e zs → s'.heap.DictOfH (kk prog w) e zs) → (∀ (k : List PySem.Str) (a : Addr), IsTupleKey (strKind prog w) s.heap k a → IsTupleKey (strKind prog w) s'.heap k a) → Q u s') s →
    wpAny (model prog w) A (forIn (pairsOf (madeOf ys)) PUnit.unit fun (x : Value × Value) (_ : PUnit) => (do
      dictSet d x.1 x.2
      pure (ForInStep.yield PUnit.unit) : Sem (ForInStep PUnit))) Q E s
  | [], s, xs, Q, hm, _, _, _, h => by
    show wpAny _ _ (forIn [] _ _) _ _ _
    rw [List.forIn_nil]
    exact wpAny_pure (h (by simpa using hm) (fun _ _ _ z => z) fun _ _ z => z)
  | (k, a, v) :: ys, s, xs, Q, hm, hn, hsz, hk, h => by
    show wpAny _ _ (forIn ((Value.ref a, v) :: pairsOf (madeOf ys)) _ _) _ _ _
    rw [List.forIn_cons]
    have hk1 : k ∉ xs.map (·.1) := fun q => (List.nodup_append.mp hn).2.2 k q k (by simp) rfl
    have hl : xs.length + (ys.length + 1) ≤ sizeLine := by simpa using hsz
    have h' : Fol (yFr (k.length + 1) ((yPut d ((kk prog w).hash k) (.ref a) v).bind fun _ => yPuts (kk prog w).hash d (madeOf ys))) _ s := h
    rw [fol_fr, fol_bind] at h'
    have kx := hk _ List.mem_cons_self
    refine wpAny_bind (wpAny_bind (w_set hu hm kx hk1 (by omega) ?_))
    rw [fol_fr]
    refine ⟨h'.1, wpAny_pure ?_⟩
    have m2 := put_made (v := v) hm kx hk1
    obtain ⟨od, esd, epd, q1, q2, q3, q4⟩ := id hm
    refine w_puts hu ys _ (xs ++ [(k, a, v)]) Q m2 (by simpa using hn) (by simp only [List.length_append, List.length_cons, List.length_nil]; omega) (fun y hy => (kk prog w).keeps (hk y (List.mem_cons_of_mem _ hy)) q1 q3 (Heap.SameBut.update ..)) ?_
    refine fol_mono _ (fun u s' z c1 c2 c3 => z (by simpa using c1) (fun e zs he hz => c2 e zs he ?_) fun k' a' hz => c3 k' a' ?_) _ h'.2
    · exact Heap.DictOfH.notHere hz hm (Ne.symm he) (Heap.SameBut.update ..)
    · exact (kk prog w).keeps (k := k') hz q1 q3 (Heap.SameBut.update ..)
/-- the entries of such a dict, one by one -/
theorem w_merge {d e : Addr} (hu : A.units < cLine) (hde : e ≠ d) {ys : List (List PySem.Str × Addr × Value)} {epoch : Nat} {oe : Obj} {es : Array DictEntry} (he : oe.data = .dict es epoch) (hes : es.toList = ys.map (entryOfKey (kk prog w))) :
    ∀ (m i : Nat) (s : Shared) (xs : List (List PySem.Str × Addr × Value)) (Q : PUnit → Shared → Prop), i + m = ys.length → s.heap.get? e = some oe →
    s.heap.DictOfH (kk prog w) d xs → (xs.map (·.1) ++ (ys.drop i).map (·.1)).Nodup → xs.length + m ≤ sizeLine → (∀ y ∈ ys, IsTupleKey (strKind prog w) s.heap y.1 y.2.1) →
    Fol (yMerge (kk prog w).hash d (madeOf (ys.drop i))) (fun u s' => Q u s') s →
    wpAny (model prog w) A (forIn (List.range' i m) PUnit.unit fun (j : Nat) (_ : PUnit) => (do
      let l ← dictEntries e
      match l[j]? with
      | some x => do
        holding [x.key, x.val] (dictPut d x.hash x.key x.val)
        let n ← dictEpoch e
        if (n != epoch) = true then do
          (unsupported "dict.changed-during-merge" : Sem PUnit)
          pure (ForInStep.yield PUnit.unit)
        else pure (ForInStep.yield PUnit.unit)
      | _ => do
        (unsupported "dict.changed-during-merge" : Sem PUnit)
        pure (ForInStep.yield PUnit.unit) : Sem (ForInStep PUnit))) Q E s
  | 0, i, s, xs, Q, hi, ge, hm, _, _, _, h => by
    show wpAny _ _ (forIn [] _ _) _ _ _
    rw [List.forIn_nil]
    rw [List.drop_of_length_le (by omega)] at h
    exact wpAny_pure h
  | m + 1, i, s, xs, Q, hi, ge, hm, hn, hsz, hk, h => by
    rw [List.range'_succ, List.forIn_cons]
    have hlt : i < ys.length := by omega
    have hd : ys.drop i = ys[i] :: ys.drop (i + 1) := List.drop_eq_getElem_cons hlt
    obtain ⟨⟨k, a, v⟩, hy⟩ : ∃ y, ys[i] = y := ⟨_, rfl⟩
    rw [hd, hy] at h hn
    have hg : es[i]? = some ⟨(kk prog w).hash k, .ref a, v⟩ := by
      rw [entry_at hes i, List.getElem?_eq_getElem hlt, hy]
      rfl
    have hk1 : k ∉ xs.map (·.1) := fun q => (List.nodup_append.mp hn).2.2 k q k (by simp) rfl
    have kx : IsTupleKey (strKind prog w) s.heap k a := hk (k, a, v) (hy ▸ List.getElem_mem hlt)
    have h' : Fol ((yPut d ((kk prog w).hash k) (.ref a) v).bind fun _ => yMerge (kk prog w).hash d (madeOf (ys.drop (i + 1)))) _ s := h
    rw [fol_bind] at h'
    refine wpAny_bind (wpAny_bind (wpAny_dictEntries ge he ?_))
    rw [hg]
    refine wpAny_bind (wpAny_holding (w_dput hu hm kx hk1 (by omega) ⟨h'.1, ?_⟩))
    have ge' : (s.heap.update d (Obj.mapDictKeys fun es => es.push ⟨(kk prog w).hash k, .ref a, v⟩)).get? e = some oe := (Heap.get?_update_other s.heap _ (Ne.symm hde)).trans ge
    refine wpAny_bind (wpAny_dictEpoch ge' he ?_)
    show wpAny _ _ (if (epoch != epoch) = true then _ else _) _ _ _
    rw [if_neg (by simp)]
    refine wpAny_pure ?_
    obtain ⟨od, esd, epd, q1, q2, q3, q4⟩ := id hm
    exact w_merge hu hde he hes m (i + 1) _ (xs ++ [(k, a, v)]) Q (by omega) ge' (put_made hm kx hk1) (by simpa using hn) (by simp only [List.length_append, List.length_cons, List.length_nil]; omega)
      (fun y hy => (kk prog w).keeps (hk y hy) q1 q3 (Heap.SameBut.update ..)) h'.2
end
end K5H
end PartTH3
section PartTH4
set_option maxRecDepth 100000
namespace K5H
open PySem PySem.W PySem.Calls PyProof.Rows
section
variable {prog : Program} {w : World} {A : Around} {E : Value → Shared → Prop} {s : Shared}
theorem Txts.length {l : List (Sem Value × Sem Value)} {P : List (List PySem.Str × List PySem.Str)} (T : Txts prog w l P) : l.length = P.length := by
  induction T with
  | nil => rfl
  | cons _ _ _ ih => simp [ih]
theorem w_subLong (hu : A.units < cLine) {l : List (Sem Value × Sem Value)} {P : List (List PySem.Str × List PySem.Str)} (T : Txts prog w l P) (hl : 15 < P.length) (hsz : P.length ≤ 1000) (hn : (P.map (·.1)).Nodup) (s : Shared) (Q : Addr → Shared → Prop)
    (h : Fol (yLong (kk prog w).hash s.heap.objs.size P) (fun _ s' => ∀ ys, s'.heap.DictOfH (kk prog w) s.heap.objs.size ys → ys.map (·.1) = P.map (·.1) → Q s.heap.objs.size s') { s with heap := s.heap.push { cls := .type "dict", data := .dict #[] } }) : wpAny (model prog w) A (subDict l) Q E s := by
  unfold subDict
  refine wpAny_bind (wpAny_alloc (wpAny_bind (wpAny_holding ?_)))
  rw [if_neg (by rw [T.length]; omega)]
  refine wpAny_bind (wpAny_rule (wpAny_bind ?_))
  refine w_long hu T _ [] (fun _ s' => wpAny (model prog w) A (pure ()) (fun _ s'' => wpAny (model prog w) A (pure s.heap.objs.size) Q E s'') E s') (Heap.DictOfH.new _) (by simpa using hn) (by rw [sizeLine_eq]; simp; omega) (fol_mono _ (fun u s' z ys m e => ?_) _ h)
  have q : Q s.heap.objs.size s' := z ys m (by simpa using e)
  exact wpAny_pure (wpAny_pure q)
theorem w_subShort (hu : A.units < cLine) {l : List (Sem Value × Sem Value)} {P : List (List PySem.Str × List PySem.Str)} (T : Txts prog w l P) (hl : P.length ≤ 15) (hn : (P.map (·.1)).Nodup) (s : Shared) (Q : Addr → Shared → Prop)
    (h : Fol ((yAll P).bind fun l => (yPuts (kk prog w).hash s.heap.objs.size l).bind fun _ => .pure l) (fun l s' => ∀ ys, l = madeOf ys → ys.map (·.1) = P.map (·.1) → s'.heap.DictOfH (kk prog w) s.heap.objs.size ys →
      (∀ e zs, s.heap.DictOfH (kk prog w) e zs → s'.heap.DictOfH (kk prog w) e zs) → Q s.heap.objs.size s') { s with heap := s.heap.push { cls := .type "dict", data := .dict #[] } }) : wpAny (model prog w) A (subDict l) Q E s := by
  unfold subDict
  refine wpAny_bind (wpAny_alloc (wpAny_bind (wpAny_holding ?_)))
  rw [if_pos (by rw [T.length]; omega)]
  rw [fol_bind] at h
  refine wpAny_bind (w_all T _ _ (fol_mono _ (fun es s1 z ys e1 e2 e3 e4 => ?_) _ h))
  subst e1
  rw [fol_bind] at z
  have m0 : s1.heap.DictOfH (kk prog w) s.heap.objs.size [] := dictH_ext e4 (Heap.DictOfH.new s.heap)
  have e5 : ys.length = P.length := by
    have q := congrArg List.length e2
    simpa using q
  refine wpAny_holding (wpAny_bind (w_puts hu ys s1 [] (fun _ s' => wpAny (model prog w) A (pure ()) (fun _ s'' => wpAny (model prog w) A (pure s.heap.objs.size) Q E s'') E s') m0 (by simpa [e2] using hn) (by rw [sizeLine_eq]; simp; omega) e3 (fol_mono _ (fun u s2 z c1 c2 c3 => ?_) _ z)))
  refine wpAny_pure (wpAny_pure (z ys rfl e2 c1 fun e zs hz => ?_))
  have q1 : s1.heap.DictOfH (kk prog w) e zs := dictH_ext e4 (dictH_ext (Ext.push _ _) hz)
  exact c2 e zs (Nat.ne_of_lt hz.lt_size) q1
theorem w_mergeMap {d e : Addr} (hu : A.units < cLine) (hde : e ≠ d) (hsys : (e == sysModules) = false) {xs ys : List (List PySem.Str × Addr × Value)} (s : Shared) (Q : Unit → Shared → Prop) (hx : xs ≠ []) (hd : s.heap.DictOfH (kk prog w) d xs) (he : s.heap.DictOfH (kk prog w) e ys)
    (hn : (xs.map (·.1) ++ ys.map (·.1)).Nodup) (hsz : xs.length + ys.length ≤ sizeLine) (h : Fol (yMerge (kk prog w).hash d (madeOf ys)) Q s) : wpAny (model prog w) A (mergeMapping d (.ref e) false) Q E s := by
  obtain ⟨oe, es, epoch, g1, g2, g3, g4, g5, g6⟩ := id he
  obtain ⟨od, ds, ed, f1, f2, f3, f4, f5, f6⟩ := id hd
  have ty : s.TypeIs (.ref e) "dict" := ⟨oe, g1, g2.1⟩
  unfold mergeMapping
  refine wpAny_bind (wpAny_isInstance ty isSubtype_dict_dict ?_)
  rw [if_pos rfl]
  refine wpAny_bind (wpAny_specialOf ty F.slot_dict_iter.lookup (wpAny_bind (wpAny_pure ?_)))
  show wpAny _ _ (if (e == sysModules) = true then _ else _) _ _ _
  rw [if_neg (by rw [hsys]; exact Bool.false_ne_true)]
  refine wpAny_bind (wpAny_dictEntries f1 f3 ?_)
  have ne : ds.isEmpty = false := by
    have q := size_of_entries f4
    cases xs with
    | nil => exact absurd rfl hx
    | cons a b =>
      rw [Array.isEmpty_eq_false_iff]
      intro z
      rw [z] at q
      simp at q
  rw [ne]
  show wpAny _ _ (if false = true then _ else _) _ _ _
  rw [if_neg Bool.false_ne_true]
  refine wpAny_bind (wpAny_dictEntries g1 g3 ?_)
  refine wpAny_bind (wpAny_dictEpoch g1 g3 ?_)
  rw [size_of_entries g4, List.range_eq_range']
  refine wpAny_bind ?_
  exact w_merge hu hde g3 g4 ys.length 0 s xs (fun _ s' => wpAny (model prog w) A (pure ()) Q E s') (by omega) g1 hd (by simpa using hn) (by omega) g5 (fol_mono _ (fun u s' q => (wpAny_pure q : wpAny (model prog w) A (pure ()) Q E s')) _ (by simpa using h))

theorem gatherTo (f : (Option (Sem Value) × Sem Value) → (Option Addr × List (Sem Value × Sem Value)) → Sem (ForInStep (Option Addr × List (Sem Value × Sem Value)))) (main : Option Addr)
    (hf : ∀ (p : Sem Value × Sem Value) (run : List (Sem Value × Sem Value)), run.length + 1 < 17 → f (some p.1, p.2) (main, run) = pure (.yield (main, run ++ [p]))) (more : List (Option (Sem Value) × Sem Value)) :
    ∀ (items run : List (Sem Value × Sem Value)), run.length + items.length < 17 → forIn ((items.map fun p => (some p.1, p.2)) ++ more) (main, run) f = forIn more (main, run ++ items) f
  | [], run, _ => by simp
  | p :: rest, run, h => by
    rw [List.map_cons, List.cons_append, List.forIn_cons, hf p run (by simp only [List.length_cons] at h; omega), pure_bind]
    have z := gatherTo f main hf more rest (run ++ [p]) (by simp only [List.length_append, List.length_cons, List.length_nil] at h ⊢; omega)
    rw [List.append_assoc] at z
    exact z
theorem gatherAll (f : (Option (Sem Value) × Sem Value) → (Option Addr × List (Sem Value × Sem Value)) → Sem (ForInStep (Option Addr × List (Sem Value × Sem Value)))) (main : Option Addr)
    (hf : ∀ (p : Sem Value × Sem Value) (run : List (Sem Value × Sem Value)), run.length + 1 < 17 → f (some p.1, p.2) (main, run) = pure (.yield (main, run ++ [p]))) 
    (items run : List (Sem Value × Sem Value)) (h : run.length + items.length < 17) : forIn (items.map fun p => (some p.1, p.2)) (main, run) f = pure (main, run ++ items) := by
  have z := gatherTo f main hf [] items run h
  rw [List.append_nil, List.forIn_nil] at z
  exact z
theorem display_two (l1 l2 : List (Sem Value × Sem Value)) (x : Sem Value × Sem Value) (h1 : l1.length = 16) (h2 : l2.length < 17) (h3 : l2 ≠ []) :
    dictDisplay ((l1.map fun p => (some p.1, p.2)) ++ (some x.1, x.2) :: (l2.map fun p => (some p.1, p.2))) = (do
      let d ← subDict (l1 ++ [x])
      let e ← holding [.ref d] (subDict l2)
      (holding [.ref d, .ref e] (mergeMapping d (.ref e) false)).onRaise fun y => do let _ ← holding [.ref d, y] (runValue (.builtin "proto.let_go" {}))
      pure (.ref d)) := by
  unfold dictDisplay
  dsimp only
  rw [gatherTo _ none (fun p run h => by
    have ne : ((run ++ [(p.1, p.2)]).length == 17) = false := by simp; omega
    simp only [ne, Bool.false_eq_true, if_false]) _ l1 [] (by simp; omega)]
  rw [List.nil_append, List.forIn_cons]
  have e17 : ((l1 ++ [(x.1, x.2)]).length == 17) = true := by simp [h1]
  dsimp only
  have ne : (l1 ++ [(x.1, x.2)]).isEmpty = false := by simp
  rw [e17, ne]
  simp only [if_true, Bool.false_eq_true, if_false, bind_assoc, pure_bind]
  refine bind_congr fun d => ?_
  rw [gatherAll _ (some d) (fun p run h => by
    have ne : ((run ++ [(p.1, p.2)]).length == 17) = false := by simp; omega
    simp only [ne, Bool.false_eq_true, if_false]) l2 [] (by simpa using h2)]
  have ne2 : l2.isEmpty = false := by simpa using h3
  simp only [List.nil_append, pure_bind, ne2, Bool.false_eq_true, if_false, bind_assoc]
theorem w_display (hu : A.units < cLine) {l1 l2 : List (Sem Value × Sem Value)} {x : Sem Value × Sem Value} {P1 P2 : List (List PySem.Str × List PySem.Str)} (T1 : Txts prog w (l1 ++ [x]) P1) (T2 : Txts prog w l2 P2) (h1 : P1.length = 17) (h2 : P2.length ≤ 15) (h3 : P2 ≠ [])
    (hn : (P1.map (·.1) ++ P2.map (·.1)).Nodup) (s : Shared) (Q : Value → Shared → Prop) (hs : (s.heap.objs.size == sysModules) = false) (hs2 : sysModules < s.heap.objs.size) (h : Fol (yDict (kk prog w).hash P1 P2) Q s) :
    wpAny (model prog w) A (dictDisplay ((l1.map fun p => (some p.1, p.2)) ++ (some x.1, x.2) :: (l2.map fun p => (some p.1, p.2)))) Q E s := by
  have k1 : l1.length = 16 := by
    have q := T1.length
    simp only [List.length_append, List.length_cons, List.length_nil] at q
    omega
  have k2 := T2.length
  rw [display_two l1 l2 x k1 (by omega) (fun e => h3 (by rw [e] at k2; exact List.eq_nil_of_length_eq_zero k2.symm))]
  obtain ⟨n1, n2, n3⟩ := List.nodup_append.mp hn
  have h' : Fol ((yLong (kk prog w).hash s.heap.objs.size P1).bind fun _ =>
    .alloc { cls := .type "dict", data := .dict #[] } fun e => (yAll P2).bind fun l => (yPuts (kk prog w).hash e l).bind fun _ => (yMerge (kk prog w).hash s.heap.objs.size l).bind fun _ => .pure (.ref s.heap.objs.size)) Q _ := h
  rw [fol_bind] at h'
  refine wpAny_bind (w_subLong hu T1 (by omega) (by omega) n1 s _ (fol_mono _ (fun u s1 z ys m e => ?_) _ h'))
  have z' : Fol ((yAll P2).bind fun l => (yPuts (kk prog w).hash s1.heap.objs.size l).bind fun _ => (yMerge (kk prog w).hash s.heap.objs.size l).bind fun _ => .pure (.ref s.heap.objs.size)) Q { s1 with heap := s1.heap.push { cls := .type "dict", data := .dict #[] } } := z
  have lt : s.heap.objs.size < s1.heap.objs.size := m.lt_size
  refine wpAny_bind (wpAny_holding (w_subShort hu T2 h2 n2 s1 _ ?_))
  rw [fol_bind] at z' ⊢
  refine fol_mono _ (fun l s2 z2 => ?_) _ z'
  rw [fol_bind] at z2 ⊢
  refine fol_mono _ (fun u s3 z3 zs e1 e2 e3 e4 => ?_) _ z2
  rw [fol_bind, e1] at z3
  have m3 := e4 _ _ m
  have l1' : ys.length = 17 := by
    have q := congrArg List.length e
    simpa [h1] using q
  have l2' : zs.length = P2.length := by
    have q := congrArg List.length e2
    simpa using q
  refine wpAny_bind (wpAny_onRaise (wpAny_holding (w_mergeMap hu (Nat.ne_of_gt lt) (beq_eq_false_iff_ne.mpr (Nat.ne_of_gt (Nat.lt_trans hs2 lt))) s3 _ (fun q => by rw [q] at l1'; simp at l1') m3 e3 (by rw [e, e2]; exact hn) (by rw [sizeLine_eq, l1']; exact Nat.le_trans (Nat.add_le_add_left (l2' ▸ h2) 17) (by decide)) (fol_mono _ (fun _ s4 z4 => ?_) _ z3))))
  have z5 : Q (.ref s.heap.objs.size) s4 := z4
  exact wpAny_pure z5
end
end K5H
end PartTH4
section PartTH5
set_option maxRecDepth 100000
namespace K5H
open PySem PySem.W PySem.Calls PyProof.Rows HandSHeadRun

/-! ### the written pairs -/
def txtsOf : List Expr → Option (List PySem.Str)
  | [] => some []
  | .Constant (.str x) _ _ :: r => (txtsOf r).map (x :: ·)
  | _ => none
def tupTxt : Expr → Option (List PySem.Str)
  | .Tuple es _ _ => txtsOf es
  | _ => none
def pairTxts : List (Option Expr) → List Expr → Option (List (List PySem.Str × List PySem.Str))
  | [], [] => some []
  | some k :: ks, v :: vs => match tupTxt k, tupTxt v, pairTxts ks vs with
    | some a, some b, some r => some ((a, b) :: r)
    | _, _, _ => none
  | _, _ => none
def pairSems (env : Env) (pos : Pos) : List (Option Expr) → List Expr → List (Sem Value × Sem Value)
  | some k :: ks, v :: vs => (eval k env, (eval v env).bind fun x => .at pos fun _ => .pure x) :: pairSems env pos ks vs
  | _, _ => []
section
variable {prog : Program} {w : World} {env : Env}
theorem txtsOf_cons {e : Expr} {r : List Expr} {xs : List PySem.Str} (h : txtsOf (e :: r) = some xs) : ∃ x k q ys, e = .Constant (.str x) k q ∧ txtsOf r = some ys ∧ xs = x :: ys := by
  unfold txtsOf at h
  split at h
  · cases ‹_ :: _ = []›
  · rename_i x k q r' z
    cases z
    obtain ⟨ys, e1, rfl⟩ := Option.map_eq_some_iff.mp h
    exact ⟨x, k, q, ys, rfl, e1, rfl⟩
  · cases h
theorem spl_txts (M : Model) (A : Around) (E : Value → Shared → Prop) (pos : Pos) (es : List Expr) : ∀ (xs : List PySem.Str) (s : Shared) (Q : List Value → Shared → Prop), txtsOf es = some xs →
    Q (strsAt s.toks xs) { s with toks := s.toks + xs.length } → wpAny M A (spliced (backTo pos (starEach es env))) Q E s := by
  induction es with
  | nil =>
    intro xs s Q e h
    obtain rfl : xs = [] := by simpa [txtsOf] using e.symm
    exact wpAny_items_nil h
  | cons e0 r ih =>
    intro xs s Q e h
    obtain ⟨x, k, q, ys, rfl, e1, rfl⟩ := txtsOf_cons e
    refine wpAny_items_cons (he := rfl) (wpAny_Constant_str (ih ys _ _ e1 ?_))
    have q : s.toks + (x :: ys).length = s.toks + 1 + ys.length := by simp only [List.length_cons]; omega
    rw [q] at h
    exact h
theorem txt_tup {e : Expr} {xs : List PySem.Str} (h : tupTxt e = some xs) (hl : xs.length ≤ 100) : Txt prog w (eval e env) xs := by
  intro A E s Q q
  cases e with
  | Tuple es c pos =>
    have h' : txtsOf es = some xs := h
    refine wpAny_Tuple (spl_txts _ _ _ _ es xs _ _ h' ⟨?_, ?_⟩)
    · have z : ∀ (t : Nat) (l : List PySem.Str), (strsAt t l).length = l.length := by
        intro t l
        induction l generalizing t with
        | nil => rfl
        | cons a b ih => simp [strsAt, ih]
      rw [z, sizeLine_eq]
      exact Nat.le_trans hl (by decide)
    · exact q
  | _ => cases h
theorem txts_pairs (pos : Pos) : ∀ (ks : List (Option Expr)) (vs : List Expr) (P : List (List PySem.Str × List PySem.Str)), pairTxts ks vs = some P → (∀ x ∈ P, x.1.length ≤ 100 ∧ x.2.length ≤ 100) → Txts prog w (pairSems env pos ks vs) P
  | [], [], P, e, _ => by
    obtain rfl : P = [] := by simpa [pairTxts] using e.symm
    exact .nil
  | none :: _, [], P, e, _ => by cases e
  | some _ :: _, [], P, e, _ => by cases e
  | none :: _, _ :: _, P, e, _ => by cases e
  | [], _ :: _, P, e, _ => by cases e
  | some k :: ks, v :: vs, P, e, hl => by
    unfold pairTxts at e
    cases e1 : tupTxt k with
    | none => simp [e1] at e
    | some a =>
      cases e2 : tupTxt v with
      | none => simp [e1, e2] at e
      | some b =>
        cases e3 : pairTxts ks vs with
        | none => simp [e1, e2, e3] at e
        | some r =>
          rw [e1, e2, e3] at e
          obtain rfl : (a, b) :: r = P := by simpa using e
          have h1 := hl _ List.mem_cons_self
          refine .cons (txt_tup e1 h1.1) ?_ (txts_pairs pos ks vs r e3 fun x hx => hl x (List.mem_cons_of_mem _ hx))
          intro A E s Q q
          exact wpAny_bind (txt_tup e2 h1.2 A E s _ (wpAny_bind (m := standAt pos) (f := fun _ => pure _) (wpAny_standAt (wpAny_pure q))))
end

/-! ### the machine's run, so far as a stop -/
/-- what a piece of the top keeps -/
structure Kept0 (n0 : Nat) (ann : Option Value) (s s' : Shared) : Prop where
  life : s'.heap.life = s.heap.life
  os : s'.os = s.os
  old : ∀ b o, b < n0 → b ≠ mainNs → b ≠ cStatics → ann ≠ some (.ref b) → s.heap.get? b = some o → s'.heap.get? b = some o
theorem Kept0.refl (n0 : Nat) (ann : Option Value) (s : Shared) : Kept0 n0 ann s s := ⟨rfl, rfl, fun _ _ _ _ _ _ e => e⟩
theorem Kept0.trans {n0 : Nat} {ann : Option Value} {s s1 s2 : Shared} (a : Kept0 n0 ann s s1) (b : Kept0 n0 ann s1 s2) : Kept0 n0 ann s s2 :=
  ⟨b.life.trans a.life, b.os.trans a.os, fun c o h1 h2 h3 h4 e => b.old c o h1 h2 h3 h4 (a.old c o h1 h2 h3 h4 e)⟩
theorem kept_step {p : Program} {w : World} {n0 : Nat} {ann : Option Value} {s s' : Shared} {t t' : Thread} (hs : step (denote table) p w s t = .go s' t') (hk : stepOk n0 ann t = true) : t.calm = true ∧ Kept0 n0 ann s s' := by
  obtain ⟨hc, hk⟩ := Bool.and_eq_true_iff.mp hk
  refine ⟨hc, step_life _ _ _ _ _ _ _ hs, step_os_same hs (by revert hk; cases t.cur <;> simp), fun b o h1 h2 h3 h4 e => ?_⟩
  rw [step_heap (denote table) p w s s' t t' hs]
  revert hk
  cases t.cur <;> intro hk <;> try exact e
  case update a _ f _ =>
    by_cases hb : b = a
    · subst hb
      exfalso
      simp only [Bool.or_eq_true, Nat.ble_eq, beq_iff_eq] at hk
      rcases hk with ((q | q) | q) | q
      · exact Nat.not_lt.mpr q h1
      · exact h2 q
      · exact h3 q
      · exact h4 q
    · exact (Heap.get?_update_ne _ _ _ _ hb).trans e
  case alloc x _ => exact Heap.get?_push_of_some x e
section
variable (st : SharedT → Thread → Option (SharedT × Thread)) (n0 : Nat) (ann : Option Value) (stop : Thread → Bool)
/-- the top, to the first thread that the stop names -/
def goU : Nat → SharedT → Thread → Option (SharedT × Thread)
  | 0, _, _ => none
  | m + 1, s, t => match stop t with
    | true => some (s, t)
    | false => match stepOk n0 ann t with
      | false => none
      | true => match st s t with
        | some (s', t') => frS s' fun s' => goU m s' t'
        | none => none
end
theorem goU_ok {p : Program} {w : World} {n0 : Nat} {ann : Option Value} {stop : Thread → Bool} : ∀ {m : Nat} {s s' : SharedT} {t t' : Thread}, s.abs.asleep → goU (stepT (denote table) p w) n0 ann stop m s t = some (s', t') →
    Sch p w s.abs t s'.abs t' ∧ Kept0 n0 ann s.abs s'.abs
  | 0, _, _, _, _, _, h => by cases h
  | m + 1, s, s', t, t', hz, h => by
    unfold goU at h
    cases e : stop t with
    | true =>
      rw [e] at h
      cases h
      exact ⟨Sch.refl _ _, Kept0.refl _ _ _⟩
    | false =>
      rw [e] at h
      cases hk : stepOk n0 ann t with
      | false =>
        rw [hk] at h
        cases h
      | true =>
        rw [hk] at h
        cases hs : stepT (denote table) p w s t with
        | none =>
          rw [hs] at h
          cases h
        | some r =>
          obtain ⟨s2, t2⟩ := r
          rw [hs] at h
          have h3 : (frS s2 fun s' => goU (stepT (denote table) p w) n0 ann stop m s' t2) = some (s', t') := h
          rw [frS_eq] at h3
          have q := stepT_spec hs
          obtain ⟨hc, k⟩ := kept_step q hk
          obtain ⟨a, b⟩ := goU_ok (Shared.asleep_of_life k.life hz) h3
          exact ⟨a.step hz hc q, k.trans b⟩

/-! ### the simple tree's run -/
/-- the rest of the top ends well -/
def Ends0 (p : Program) (w : World) (n0 : Nat) (ann : Option Value) (Good : Shared → Prop) (s : Shared) (t : Thread) : Prop := ∃ N r, topRun table p w n0 ann N s t = some r ∧ Good r
theorem ends_step {p : Program} {w : World} {n0 : Nat} {ann : Option Value} {Good : Shared → Prop} {s : Shared} {t : Thread} (ht : through t = false) (h : Ends0 p w n0 ann Good s t) :
    stepOk n0 ann t = true ∧ ∃ s' t', step (denote table) p w s t = .go s' t' ∧ Ends0 p w n0 ann Good s' t' := by
  obtain ⟨N, r, h, g⟩ := h
  cases N with
  | zero => cases h
  | succ N =>
    unfold topRun at h
    rw [ht] at h
    cases hk : stepOk n0 ann t with
    | false =>
      rw [hk] at h
      cases h
    | true =>
      rw [hk] at h
      cases hs : step (denote table) p w s t with
      | halt o s2 =>
        rw [hs] at h
        cases h
      | go s2 t2 =>
        rw [hs] at h
        exact ⟨rfl, s2, t2, rfl, N, r, h, g⟩
section
variable {p : Program} {w : World} {n0 : Nat} {ann : Option Value} {Good : Shared → Prop} {α ι : Type} {K : α → Sem Fin} {H : Value → Sem Fin} {gd : Bool → Bool} {lv : List Value → List Value} {c : Code} {P : ι → Pos} {F : ι → Frame}
theorem ytop (i0 : ι) (x : Sem α) (hx : Simple x) : ∀ s, (∀ i, Ends0 p w n0 ann Good s ⟨x.wrap K H gd lv, c, P i, [F i]⟩) →
    Fol x (fun a s' => (∀ i, Ends0 p w n0 ann Good s' ⟨K a, c, P i, [F i]⟩) ∧ Kept0 n0 ann s s' ∧ s'.gens = s.gens) s := by
  induction x with
  | pure a =>
    intro s h
    exact ⟨h, Kept0.refl _ _ _, rfl⟩
  | alloc o k ih =>
    intro s h
    have z := fun i => ends_step rfl (h i)
    have k1 : Kept0 n0 ann s { s with heap := s.heap.push o } := by
      obtain ⟨e1, s2, t2, e2, e3⟩ := z i0
      have e4 : step (denote table) p w s ⟨(Sem.alloc o k).wrap K H gd lv, c, P i0, [F i0]⟩ = .go { s with heap := s.heap.push o } ⟨(k s.heap.objs.size).wrap K H gd lv, c, P i0, [F i0]⟩ := rfl
      exact (kept_step e4 e1).2
    refine fol_mono _ (fun a s' q => ⟨q.1, k1.trans q.2.1, q.2.2⟩) _ (ih s.heap.objs.size (hx _) { s with heap := s.heap.push o } fun i => ?_)
    obtain ⟨_, s2, t2, e2, e3⟩ := z i
    have e4 : step (denote table) p w s ⟨(Sem.alloc o k).wrap K H gd lv, c, P i, [F i]⟩ = .go { s with heap := s.heap.push o } ⟨(k s.heap.objs.size).wrap K H gd lv, c, P i, [F i]⟩ := rfl
    rw [e4] at e2
    cases e2
    exact e3
  | fresh k ih =>
    intro s h
    have z := fun i => ends_step rfl (h i)
    have k1 : Kept0 n0 ann s { s with toks := s.toks + 1 } := ⟨rfl, rfl, fun _ _ _ _ _ _ e => e⟩
    refine fol_mono _ (fun a s' q => ⟨q.1, k1.trans q.2.1, q.2.2⟩) _ (ih s.toks (hx _) { s with toks := s.toks + 1 } fun i => ?_)
    obtain ⟨_, s2, t2, e2, e3⟩ := z i
    have e4 : step (denote table) p w s ⟨(Sem.fresh k).wrap K H gd lv, c, P i, [F i]⟩ = .go { s with toks := s.toks + 1 } ⟨(k s.toks).wrap K H gd lv, c, P i, [F i]⟩ := rfl
    rw [e4] at e2
    cases e2
    exact e3
  | update a pt f k ih =>
    intro s h
    have z := fun i => ends_step rfl (h i)
    have sm : (s.heap.get? a).isSome = true := by
      obtain ⟨e1, s2, t2, e2, e3⟩ := z i0
      cases q : s.heap.get? a with
      | some o => rfl
      | none =>
        have e4 : step (denote table) p w s ⟨(Sem.update a pt f k).wrap K H gd lv, c, P i0, [F i0]⟩ = .halt (.stuck "update: no object at this address, or it has been freed") s := by
          show (if (s.heap.get? a).isSome then _ else _) = _
          rw [q]
          rfl
        rw [e4] at e2
        cases e2
    have e4 : ∀ i, step (denote table) p w s ⟨(Sem.update a pt f k).wrap K H gd lv, c, P i, [F i]⟩ = .go { s with heap := s.heap.update a f } ⟨(k ()).wrap K H gd lv, c, P i, [F i]⟩ := fun i => by
      show (if (s.heap.get? a).isSome then _ else _) = _
      rw [sm]
      rfl
    have k1 : Kept0 n0 ann s { s with heap := s.heap.update a f } := by
      obtain ⟨e1, s2, t2, e2, e3⟩ := z i0
      exact (kept_step (e4 i0) e1).2
    refine ⟨sm, fol_mono _ (fun a s' q => ⟨q.1, k1.trans q.2.1, q.2.2⟩) _ (ih () hx { s with heap := s.heap.update a f } fun i => ?_)⟩
    obtain ⟨_, s2, t2, e2, e3⟩ := z i
    rw [e4] at e2
    cases e2
    exact e3
  | _ => exact absurd hx id
end
end K5H
end PartTH5
section PartTH6
set_option maxRecDepth 100000
namespace K5H
open PySem PySem.W PySem.Calls PyProof.Rows HandSHeadRun

/-- the top of one world: from the boot to its end, and what is seen there -/
def TopAt (p q : Program) (loose : List PySem.Str) (Xt : Shared → Bool) (Hk : Hook) (w : World) : Prop := ∀ os : OsState, ∃ (s1 : Shared) (t1 : Thread),
  Sch p w ⟨boot_heap w.params, #[], boot_drawn, boot_toks, os⟩ (topStub p) s1 t1 ∧ through t1 = true ∧ Kept0 (boot_heap w.params).objs.size (bootAnn w) ⟨boot_heap w.params, #[], boot_drawn, boot_toks, os⟩ s1 ∧
  (looksF p (boot_heap w.params) s1, openSeen q loose (importedModules p.main.body) Xt true s1, Hk.obs s1) = (true, openGood q loose, Hk.val w)
/-- what the law's end asks of a world's top -/
structure Behind6 (p q : Program) (loose : List PySem.Str) (XP : (PySem.Str → Option Value) → Heap → Prop) (Hk : Hook) (w : World) (s0 s1 : Shared) : Prop where
  ran : TopRan p w s0 s1
  sleeps : s1.asleep
  gens : s1.gens = #[]
  ns : s1.heap.isNs mainGlobals = true
  ground : Ground q loose [] XP w s1 (s1.heap.nsMap mainGlobals) (s1.heap.nsMap builtinsNs) s1.heap
  hook : Hk.obs s1 = Hk.val w

theorem behind6 {p q : Program} {loose : List PySem.Str} {Xt : Shared → Bool} {XP : (PySem.Str → Option Value) → Heap → Prop} {Hk : Hook} {w : World} (e : opening p = plainProg p.main.scope.names) (f : ∀ s, fenceModules? p s = some s)
    (hX : ∀ s, Xt s = true → XP (s.heap.nsMap mainGlobals) s.heap) (hch : chainsOk q = true) (T : TopAt p q loose Xt Hk w) :
    (∃ s, AfterRun (opening p) w s) ∧ ∀ s, AfterRun (opening p) w s → ∃ s0, fenceModules? p s = some s0 ∧ s0.gens = #[] ∧ ∃ s1, Behind6 p q loose XP Hk w s0 s1 := by
  have b0 := boot_open (N := 600) e (by decide) f w
  rw [← table_eq_tree] at b0
  obtain ⟨s0, b1, b2⟩ := Option.map_eq_some_iff.mp b0
  obtain ⟨s, b3, b4⟩ := Option.bind_eq_some_iff.mp b1
  have af := AfterImport.of_importEnds b3
  refine ⟨⟨s, af⟩, fun s' hs => ?_⟩
  rw [AfterImport.unique hs af]
  have sl0 : s0.asleep := Shared.asleep_of_life (fence_lifeW b4) af.life
  obtain ⟨h0, g0, d0, k0, os⟩ := s0
  simp only [Prod.mk.injEq] at b2
  obtain ⟨rfl, rfl, rfl, rfl⟩ := b2
  obtain ⟨s1, t1, r1, r2, r3, r4⟩ := T os
  simp only [Prod.mk.injEq] at r4
  obtain ⟨l1, l2, l3⟩ := r4
  unfold looksF at l1
  simp only [Bool.and_eq_true] at l1
  obtain ⟨⟨⟨m1, m2⟩, m3⟩, m4⟩ := l1
  obtain ⟨G, c1, c2, c3, c4, c5, c6⟩ := ground_of_open (w := w) hX hch l2
  have sn : s1.gens = #[] := Array.eq_empty_of_size_eq_zero (beq_iff_eq.mp c1)
  refine ⟨_, b4, rfl, s1, ⟨⟨?_, r3.life, Shared.rest_eq r3.os, ?_, c3, statics_of_ok m1, c4, c5, c6, gens_of_done m3, names_of_bound m2, laid_of_kept m4⟩, Shared.asleep_of_life r3.life sl0, sn, c2, G, l3⟩⟩
  · obtain ⟨n, hn⟩ := r1
    exact ⟨n, t1, hn, r2⟩
  · intro b o hb own
    refine r3.old b o (Heap.lt_size hb) (fun z => own (Or.inl z)) (fun z => own (Or.inr (Or.inl z))) (fun z => own (Or.inr (Or.inr ?_))) hb
    exact (Pin.globalOf_eq (boot_ns w.params) _).trans z

/-- the row, over each world's top -/
theorem holds6 {r : OpenRow} {q : Program} {Hk : Hook} {loose : List PySem.Str} {d : DefRec} (e : opening r.prog = plainProg r.prog.main.scope.names) (f : ∀ s, fenceModules? r.prog s = some s)
    (top : ∀ w, TopAt r.prog q loose (fun s => xlAt q [] s && recOk r.toRowW.records s) Hk w)
    (hdef : defOf q r.name = some (d, [])) (hp : r.prog.theDef r.name = some (d.params, d.body, d.scope)) (hk : kwWritten? d.params.kwonlyargs d.params.kw_defaults = some [])
    (hwr : (!r.writes || r.records.isEmpty) = true) (said : r.wellSaid = true) (ok1 : chainsOk q = true) (ok2 : opensWell r.prog = true) (ok3 : frees r.toRowW = true) (ok4 : r.within = []) (hb : r.prog.bare) (hw : r.toRowW.promised)
    (call : WalkO q loose (XL q []) Hk.says r.toRowW d [] fun f vs => PySem.call f vs) : r.Holds := by
  obtain ⟨fr1, fr2, fr3, fr4, fr5⟩ := frees_parts ok3
  have hT := fun w => behind6 (XP := fun mg h => XL q [] mg h ∧ RecFacts r.toRowW.records h) (w := w) e f
    (fun s (z : (xlAt q [] s && recOk r.toRowW.records s) = true) => ⟨xl_of s (Bool.and_eq_true_iff.mp z).1, recFacts_of (Bool.and_eq_true_iff.mp z).2⟩) ok1 (top w)
  refine ⟨said, hw, ⟨hb, ok2, ?_⟩, hw.witness, fun w => ⟨(hT w).1, fun s hs => ?_⟩⟩
  · show r.makers.map _ = []
    rw [fr5]
    rfl
  obtain ⟨s0, a1, a2, s1, B⟩ := (hT w).2 s hs
  have G0 := B.ground
  obtain ⟨x1, x2⟩ := G0.X
  have Gn : Ground q loose [] (XL q []) w s1 (s1.heap.nsMap mainGlobals) (s1.heap.nsMap builtinsNs) s1.heap :=
    { T := G0.T, B := G0.B, D := G0.D, TE := G0.TE, TD := G0.TD, W := G0.W, X := x1, cls := G0.cls, has := G0.has, apart := G0.apart, once := G0.once, K := G0.K }
  have Gr := x2.ground Gn
  refine ⟨s0, a1, a2, s1, B.ran, fun n hn => ?_, x2.1, x2.2.1, ClaimW.callFrom_of_specG (c := r.toRowW.claim) B.sleeps B.gens fun args h1 h2 ord hord => ?_⟩
  · have en : n = r.name := by
      split at hn
      · exact List.mem_singleton.mp hn
      · cases hn
    rw [en]
    exact pinned_of_view B.ns Gn hdef hp hk
  · obtain ⟨⟨vs, s2⟩, lay⟩ := Option.isSome_iff_exists.mp (layAllW_isSome (P := w.params) (ord := ord) Gr.has args r.args s1 (pre_splitW h1).1)
    have kp := layAllW_keeps _ _ _ lay
    have rs := layAllW_rest _ _ _ lay
    obtain ⟨as, rd, inn, old⟩ := reads_layAllW hord _ _ _ lay h2 s2.heap fun _ _ z => z
    have L : Laid r.toRowW.records w s1 s2 args vs as := ⟨⟨ord, hord, lay⟩, rd, inn, old, kp, rs.1.trans B.gens, rs.2.2.1⟩
    have G2 := Gr.keeps XL.keeps kp
    obtain ⟨a, o, pm, cd, doc, dV, kV, g1, g2, g3, g4, g5⟩ := G2.fn hdef
    have nm := defOf_name hdef
    have go := call w s1 s2 _ _ G2 (Hk.keeps _ _ _ (Hk.of w s1 B.hook) kp) a o pm cd doc dV kV g2 g3 g4 g5 (by rw [nm]; exact g1) L.gens args vs as h1 h2 L.reads L.well (L.low Gr.low)
    have idf := ident_freeW fr2 fr3 fr4
    have fin : ∀ (res : Result) (s' : Shared), GoodWG r.toRowW.claim (classAt s1.heap) (ExcName.means s1.heap) args s2 res s' → r.toRowW.claim.Ends s1 args vs s2 res s' ∧ s'.os = s1.os ∧ AllBare s'.gens ∧
        (r.writes = true → namesKept r.prog r.keeps s1.heap s'.heap ∧ ∀ x ∈ r.toRowW.records, ∀ a, classAt s1.heap x.1 = some a → recordClass s'.heap a x.1 (x.2.map (·.1)) = true) := fun res s' g => by
      obtain ⟨z1, z2, z3⟩ := g.laid (c := r.toRowW.claim) fr1 ok4 idf L
      exact ⟨z1, z2, z3, fun y => ⟨namesKept_of B.ran B.ns r.keeps kp g.2.1.old, noTable hwr y⟩⟩
    refine ⟨vs, s2, lay, ?_⟩
    refine wpAny_bind (wpAny_nsGet G2.T.g ?_)
    rw [g1]
    exact wpAny_bind (wpAny_mono go (fun v s' g => wpAny_pure ⟨_, rfl, fin _ _ g⟩) fun v s' g => fin _ _ g)
end K5H
end PartTH6
section PartTH7
set_option maxRecDepth 100000
set_option maxHeartbeats 0
noncomputable section NCTH7
namespace K5H
open PySem PySem.W PySem.Calls PyProof.Rows HandSHeadRun
abbrev R : OpenRow := OpenLaw.row PySem.Challenge.rw_wokenlives_k55_whole_book_replay
/-- the statement that writes the dict with tuple keys -/
def st44 : Stmt := R.prog.main.body.getD 44 (.Pass ⟨0, 0, 0, 0⟩)
def dKeys : List (Option Expr) := match st44 with
  | .Assign _ (.Dict ks _ _) _ => ks
  | _ => []
def dVals : List Expr := match st44 with
  | .Assign _ (.Dict _ vs _) _ => vs
  | _ => []
def dPos : Pos := match st44 with
  | .Assign _ (.Dict _ _ p) _ => p
  | _ => default
def aPos : Pos := match st44 with
  | .Assign _ _ p => p
  | _ => default
def aTgt : Expr := match st44 with
  | .Assign [t] _ _ => t
  | _ => .Name Str.empty default
def rest44 : List Stmt := R.prog.main.body.drop 45
def dP : List (List PySem.Str × List PySem.Str) := (pairTxts dKeys dVals).getD []
theorem st_eq : R.prog.main.body.drop 44 = .Assign [aTgt] (.Dict dKeys dVals dPos) aPos :: rest44 := by kernel_rfl
theorem dP_eq : pairTxts dKeys dVals = some dP := by kernel_rfl
theorem dP_len : dP.length = 30 := by kernel_rfl
theorem behind_eq : behindTheImports R.prog = R.prog.main.body := by kernel_rfl
def isAt (q : Pos) (t : Thread) : Bool := match t.stack with
  | [_] => (match t.cur with
    | .at p _ => p == q
    | _ => false)
  | _ => false
def envOf (t : Thread) : Env := match t.code with
  | .body _ e => e
  | _ => { scope := R.prog.main.scope, locals := 0, globals := 0, cells := [], code := .none, frame := none }
def runA (w : World) (os : OsState) : Option (SharedT × Thread) := match putAll (boot_heap w.params).objs.toList .nil 0 with
  | some (t, n) => frNat n fun n0 => goU (stepQ (denQ tabQ) R.prog w) n0 (bootAnn w) (isAt aPos) 6000 (bootT w os (t, n0)) (topStub R.prog)
  | none => none
/-- the rest of a body, as the machine holds it: by the library's twins, and by itself -/
def curQ (stmts : List Stmt) (env : Env) : Sem Fin := PySem.W.R.bindR (PySem.W.R.onRaiseR (PySem.W.Fast.tw12563942051412417395 stmts env) (PySem.W.Fast.tw9442747609961115081 env)) fun f => .pure (.done f)
def curT (stmts : List Stmt) (env : Env) : Sem Fin := ((execs stmts env).onRaise (leaving env)).bind fun f => .pure (.done f)
theorem cur_eq (stmts : List Stmt) (env : Env) : curQ stmts env = curT stmts env := by
  unfold curQ curT
  rw [← PySem.W.R.bindR_eq, ← PySem.W.R.onRaiseR_eq, ← PySem.W.Fast.te12563942051412417395, ← PySem.W.Fast.te9442747609961115081]
def shapeA (t : Thread) : Thread := ⟨curQ (R.prog.main.body.drop 44) (envOf t), .body (behindTheImports R.prog) (envOf t), t.pos, [topFrame default]⟩
theorem shape_A0 (w : World) (os : OsState) : (runA (w.withFollow "special-get-raises" false) os).map (fun x => (x.2, Nat.blt sysModules x.1.n && Nat.beq x.1.gens.size 0)) = (runA (w.withFollow "special-get-raises" false) os).map (fun x => (shapeA x.2, true)) := by kernel_rfl
theorem shape_A1 (w : World) (os : OsState) : (runA (w.withFollow "special-get-raises" true) os).map (fun x => (x.2, Nat.blt sysModules x.1.n && Nat.beq x.1.gens.size 0)) = (runA (w.withFollow "special-get-raises" true) os).map (fun x => (shapeA x.2, true)) := by kernel_rfl
end K5H
end NCTH7
end PartTH7
section PartTH8
set_option maxRecDepth 100000
set_option maxHeartbeats 0
noncomputable section NCTH8
namespace K5H
open PySem PySem.W PySem.Calls PyProof.Rows HandSHeadRun
/-- what stands behind the display's value, by the library's twins and by itself -/
def aftQ (tgt : Expr) (rest : List Stmt) (env : Env) (v : Value) : Sem Fin := PySem.W.R.bindR (PySem.W.R.onRaiseR (PySem.W.R.bindR (assignStores env v none ((assignEach [tgt] env).map (·.2))) fun f => match f with
  | .next => PySem.W.Fast.tw12563942051412417395 rest env
  | f => .pure f) (PySem.W.Fast.tw9442747609961115081 env)) fun f => .pure (.done f)
def aftT (tgt : Expr) (rest : List Stmt) (env : Env) (v : Value) : Sem Fin := (((assignStores env v none ((assignEach [tgt] env).map (·.2))).bind fun f => match f with
  | .next => execs rest env
  | f => .pure f).onRaise (leaving env)).bind fun f => .pure (.done f)
theorem aft_eq (tgt : Expr) (rest : List Stmt) (env : Env) (v : Value) : aftQ tgt rest env v = aftT tgt rest env v := by
  unfold aftQ aftT
  rw [← PySem.W.R.bindR_eq, ← PySem.W.R.onRaiseR_eq, ← PySem.W.Fast.te12563942051412417395, ← PySem.W.Fast.te9442747609961115081]
def raisesT (env : Env) (e : Value) : Sem Fin := ((Sem.raise e : Sem Flow).onRaise (leaving env)).bind fun f => .pure (.done f)
theorem cut_gen (tgt : Expr) (ks : List (Option Expr)) (vs : List Expr) (dp ap : Pos) (rest : List Stmt) (env : Env) :
    curT (.Assign [tgt] (.Dict ks vs dp) ap :: rest) env = .at ap fun _ => (eval (.Dict ks vs dp) env).wrap (aftT tgt rest env) (raisesT env) id id := by
  have e1 : execs (.Assign [tgt] (.Dict ks vs dp) ap :: rest) env = (.at ap fun _ => (eval (.Dict ks vs dp) env).bind fun v => (assignStores env v none ((assignEach [tgt] env).map (·.2))).bind fun f => match f with
    | .next => execs rest env
    | f => .pure f) := by
    rw [execs_cons]
    have e2 : exec (.Assign [tgt] (.Dict ks vs dp) ap) env = .at ap fun _ => (eval (.Dict ks vs dp) env).bind fun v => assignStores env v none ((assignEach [tgt] env).map (·.2)) := by
      have z1 : swapsWithSole [tgt] (.Dict ks vs dp) ap.line env = pure false := rfl
      have z2 : swappedStores [tgt] (.Dict ks vs dp) env = pure none := by cases tgt <;> rfl
      rw [arm_exec_Assign, z1, z2]
      rfl
    rw [e2]
    show Sem.at ap _ = _
    congr 1
    funext u
    exact Sem.bind_assoc _ _ _
  unfold curT
  rw [e1]
  show Sem.at ap _ = _
  congr 1
  funext u
  dsimp only
  rw [Sem.bind_eq_wrap, Sem.onRaise_eq_wrap, Sem.bind_eq_wrap, Sem.wrap_wrap, Sem.wrap_wrap]
  refine Sem.wrap_congr _ _ _ (fun v => ?_) fun e => ?_
  · unfold aftT
    rw [Sem.bind_eq_wrap _ (fun f : Flow => (Sem.pure (Fin.done f) : Sem Fin)), Sem.onRaise_eq_wrap, Sem.wrap_wrap]
  · unfold raisesT
    rw [Sem.bind_eq_wrap _ (fun f : Flow => (Sem.pure (Fin.done f) : Sem Fin)), Sem.onRaise_eq_wrap, Sem.wrap_wrap]
def afterQ (env : Env) (v : Value) : Sem Fin := aftQ aTgt rest44 env v
def afterT (env : Env) (v : Value) : Sem Fin := aftT aTgt rest44 env v
theorem cur_cut (env : Env) : curT (R.prog.main.body.drop 44) env = .at aPos fun _ => (eval (.Dict dKeys dVals dPos) env).wrap (afterT env) (raisesT env) id id :=
  (congrArg (fun l => curT l env) st_eq).trans (cut_gen aTgt dKeys dVals dPos aPos rest44 env)
abbrev hkey (w : World) : List PySem.Str → Int := (kk R.prog w).hash
def dP1 : List (List PySem.Str × List PySem.Str) := dP.take 17
def dP2 : List (List PySem.Str × List PySem.Str) := dP.drop 17
/-- the top's second part -/
def runC (w : World) (os : OsState) (p : Pos) (kept : List Value) (x : SharedT × Thread) : Option SharedT := match putAll (boot_heap w.params).objs.toList .nil 0 with
  | some (_, n) => frNat n fun n0 => goF (stepQ (denQ tabQ) R.prog w) n0 (bootAnn w) 12000 x.1 ⟨(yDict (hkey w) dP1 dP2).wrap (afterQ (envOf x.2)) (raisesT (envOf x.2)) id id, .body (behindTheImports R.prog) (envOf x.2), p, [.ret topAfter none false [] (.builtin "claim.caller" {}) default kept]⟩
  | none => none
end K5H
end NCTH8
end PartTH8
section PartTH9
set_option maxRecDepth 100000
set_option maxHeartbeats 1000000
noncomputable section NCTH9
namespace K5H
open PySem PySem.W PySem.Calls PyProof.Rows HandSHeadRun

/-! ### the pairs' trees -/
theorem zip_pairs (env : Env) (pos : Pos) : ∀ (ks : List (Option Expr)) (vs : List Expr) (P : List (List PySem.Str × List PySem.Str)), pairTxts ks vs = some P →
    (evalEachOpt ks env).zip ((evalEach vs env).map fun v => (do let x ← v; standAt pos; pure x : Sem Value)) = (pairSems env pos ks vs).map fun p => (some p.1, p.2)
  | [], [], P, e => rfl
  | none :: _, [], P, e => by cases e
  | some _ :: _, [], P, e => by cases e
  | none :: _, _ :: _, P, e => by cases e
  | [], _ :: _, P, e => by cases e
  | some k :: ks, v :: vs, P, e => by
    unfold pairTxts at e
    split at e
    · rename_i a b r h1 h2 h3
      have ih := zip_pairs env pos ks vs r h3
      show (some (eval k env), _) :: _ = (some (eval k env), _) :: _
      rw [← ih]
      rfl
    · cases e
theorem Txts.take_drop {prog : Program} {w : World} {l : List (Sem Value × Sem Value)} {P : List (List PySem.Str × List PySem.Str)} (T : Txts prog w l P) : ∀ n, Txts prog w (l.take n) (P.take n) ∧ Txts prog w (l.drop n) (P.drop n) := by
  induction T with
  | nil =>
    intro n
    simp only [List.take_nil, List.drop_nil]
    exact ⟨.nil, .nil⟩
  | cons h1 h2 h3 ih =>
    intro n
    cases n with
    | zero => exact ⟨.nil, .cons h1 h2 h3⟩
    | succ n => exact ⟨.cons h1 h2 (ih n).1, (ih n).2⟩
theorem dP_short : ∀ x ∈ dP, x.1.length ≤ 100 ∧ x.2.length ≤ 100 := by
  have e : (dP.all fun x => Nat.ble x.1.length 100 && Nat.ble x.2.length 100) = true := by kernel_rfl
  intro x hx
  have z := List.all_eq_true.mp e x hx
  obtain ⟨z1, z2⟩ := Bool.and_eq_true_iff.mp z
  exact ⟨Nat.le_of_ble_eq_true z1, Nat.le_of_ble_eq_true z2⟩
def nodupB : List (List PySem.Str) → Bool
  | [] => true
  | x :: r => !(r.any fun y => decide (y = x)) && nodupB r
theorem nodup_of : ∀ {l : List (List PySem.Str)}, nodupB l = true → l.Nodup
  | [], _ => List.nodup_nil
  | x :: r, h => by
    obtain ⟨h1, h2⟩ := Bool.and_eq_true_iff.mp (show (!(r.any fun y => decide (y = x)) && nodupB r) = true from h)
    refine List.nodup_cons.mpr ⟨fun q => ?_, nodup_of h2⟩
    have : (r.any fun y => decide (y = x)) = true := List.any_eq_true.mpr ⟨x, q, decide_eq_true rfl⟩
    rw [this] at h1
    cases h1
theorem dP_nodup : (dP.map (·.1)).Nodup := nodup_of (by kernel_rfl)

theorem w_disp30 {w : World} {A : Around} {E : Value → Shared → Prop} {L : List (Sem Value × Sem Value)} {P : List (List PySem.Str × List PySem.Str)} (T : Txts R.prog w L P) (hP : P.length = 30) (hn : (P.map (·.1)).Nodup) {s : Shared} {Q : Value → Shared → Prop}
    (hu : A.units < cLine) (hs : sysModules < s.heap.objs.size) (h : Fol (yDict (hkey w) (P.take 17) (P.drop 17)) Q s) : wpAny (model R.prog w) A (dictDisplay (L.map fun p => (some p.1, p.2))) Q E s := by
  have ln : L.length = 30 := T.length.trans hP
  obtain ⟨T1, T2⟩ := T.take_drop 17
  obtain ⟨x, hx⟩ : ∃ x, L[16]? = some x := ⟨_, List.getElem?_eq_getElem (by rw [ln]; decide)⟩
  have e17 : L.take 17 = L.take 16 ++ [x] := by
    rw [List.take_add_one, hx]
    rfl
  have eall : L = L.take 16 ++ x :: L.drop 17 := by
    have z := List.take_append_drop 17 L
    rw [e17, List.append_assoc] at z
    exact z.symm
  have em : L.map (fun p => ((some p.1, p.2) : Option (Sem Value) × Sem Value)) = ((L.take 16).map fun p => (some p.1, p.2)) ++ (some x.1, x.2) :: ((L.drop 17).map fun p => (some p.1, p.2)) := by
    conv => lhs; rw [eall]
    rw [List.map_append, List.map_cons]
  rw [em]
  rw [e17] at T1
  have k1 : (P.take 17).length = 17 := by rw [List.length_take, hP]; rfl
  have k2 : (P.drop 17).length = 13 := by rw [List.length_drop, hP]
  refine w_display hu T1 T2 k1 (by omega) (fun q => ?_) ?_ s Q (beq_eq_false_iff_ne.mpr (Nat.ne_of_gt hs)) hs h
  · rw [q] at k2
    cases k2
  · rw [← List.map_append, List.take_append_drop]
    exact hn
theorem w_dictG {w : World} {A : Around} {E : Value → Shared → Prop} {env : Env} {ks : List (Option Expr)} {vs : List Expr} {pos : Pos} {P : List (List PySem.Str × List PySem.Str)} (e : pairTxts ks vs = some P) (hl : ∀ x ∈ P, x.1.length ≤ 100 ∧ x.2.length ≤ 100) (hP : P.length = 30) (hn : (P.map (·.1)).Nodup)
    {s : Shared} {Q : Value → Shared → Prop} (hu : A.units < cLine) (hs : sysModules < s.heap.objs.size) (h : Fol (yDict (hkey w) (P.take 17) (P.drop 17)) Q s) : wpAny (model R.prog w) A (eval (.Dict ks vs pos) env) Q E s := by
  have T := txts_pairs (prog := R.prog) (w := w) (env := env) pos ks vs P e hl
  rw [arm_eval_Dict, zip_pairs env pos ks vs P e]
  exact wpAny_bind (wpAny_standAt (w_disp30 T hP hn hu hs h))
theorem dP1_eq : dP1 = dP.take 17 := by unfold dP1; exact Eq.refl _
theorem dP2_eq : dP2 = dP.drop 17 := by unfold dP2; exact Eq.refl _
theorem w_dict44 {w : World} {A : Around} {E : Value → Shared → Prop} {env : Env} {s : Shared} {Q : Value → Shared → Prop} (hu : A.units < cLine) (hs : sysModules < s.heap.objs.size) (h : Fol (yDict (hkey w) dP1 dP2) Q s) :
    wpAny (model R.prog w) A (eval (.Dict dKeys dVals dPos) env) Q E s := by
  rw [dP1_eq, dP2_eq] at h
  exact @w_dictG w A E env dKeys dVals dPos dP dP_eq dP_short dP_len dP_nodup s Q hu hs h

/-! ### the whole top of one world -/
theorem abs_asleep {w : World} : Shared.asleep ⟨boot_heap w.params, #[], boot_drawn, boot_toks, (default : OsState)⟩ ∨ True := .inr trivial
theorem boot_asleep (w : World) (os : OsState) : Shared.asleep ⟨boot_heap w.params, #[], boot_drawn, boot_toks, os⟩ := by
  unfold Shared.asleep
  exact ⟨by kernel_rfl, by kernel_rfl⟩
theorem top_gen {q : Program} {loose : List PySem.Str} {Hk : Hook} {ob : SharedT → Hk.α} (hob : ∀ s, ob s = Hk.obs s.abs) (w : World)
    (shape : ∀ os, (runA w os).map (fun x => (x.2, Nat.blt sysModules x.1.n && Nat.beq x.1.gens.size 0)) = (runA w os).map (fun x => (shapeA x.2, true)))
    (run : ∀ (os : OsState) (p : Pos) (kept : List Value), ((runA w os).bind fun x => (runC w os p kept x).map fun s => (looksF R.prog (boot_heap w.params) s.abs, seenQ q loose (importedModules R.prog.main.body) (fun s => xlAt q [] s && recOk R.toRowW.records s) s.abs, ob s)) = some (true, openGood q loose, Hk.val w)) :
    TopAt R.prog q loose (fun s => xlAt q [] s && recOk R.toRowW.records s) Hk w := by
  intro os
  have sl := boot_asleep w os
  have stq : stepQ (denQ tabQ) R.prog w = stepT (denote table) R.prog w := by rw [← stepQ_eq, ← denQ_eq, ← tabQ_eq, table_eq_tree]
  -- the tree of the boot
  cases eb : putAll (boot_heap w.params).objs.toList .nil 0 with
  | none =>
    have z := run os default []
    unfold runA at z
    rw [eb] at z
    cases z
  | some tn =>
    obtain ⟨t0, n⟩ := tn
    have hp := putAll_heap eb
    have hn : (boot_heap w.params).objs.size = n := by
      rw [← hp]
      exact absHeap_size t0 n _
    have babs : (bootT w os (t0, n)).abs = ⟨boot_heap w.params, #[], boot_drawn, boot_toks, os⟩ := by
      show (⟨absHeap t0 n (boot_heap w.params).life, #[], boot_drawn, boot_toks, os⟩ : Shared) = _
      rw [hp]
    cases ea : runA w os with
    | none =>
      have z := run os default []
      rw [ea] at z
      cases z
    | some x =>
      obtain ⟨SA, TA⟩ := x
      have sh := shape os
      rw [ea] at sh
      have sh2 : (TA, Nat.blt sysModules SA.n && Nat.beq SA.gens.size 0) = (shapeA TA, true) := Option.some.inj sh
      obtain ⟨sh3, sh4⟩ := Prod.mk.inj sh2
      obtain ⟨sh5, sh6⟩ := Bool.and_eq_true_iff.mp sh4
      have hsys : sysModules < SA.abs.heap.objs.size := by
        show _ < (absHeap SA.tree SA.n SA.life).objs.size
        rw [absHeap_size]
        exact Nat.le_of_ble_eq_true sh5
      have hgens : SA.abs.gens = #[] := Array.eq_empty_of_size_eq_zero (Nat.eq_of_beq_eq_true sh6)
      -- the first part
      have ea2 := ea
      unfold runA at ea2
      rw [eb] at ea2
      have ea3 : (frNat n fun n0 => goU (stepQ (denQ tabQ) R.prog w) n0 (bootAnn w) (isAt aPos) 6000 (bootT w os (t0, n0)) (topStub R.prog)) = some (SA, TA) := ea2
      rw [frNat_eq, stq] at ea3
      obtain ⟨schA, kA⟩ := goU_ok (by rw [babs]; exact sl) ea3
      rw [babs] at schA kA
      have slA : SA.abs.asleep := Shared.asleep_of_life kA.life sl
      -- the thread
      have cTA : TA = ⟨.at aPos fun _ => (eval (.Dict dKeys dVals dPos) (envOf TA)).wrap (afterT (envOf TA)) (raisesT (envOf TA)) id id, .body (behindTheImports R.prog) (envOf TA), TA.pos, [topFrame default]⟩ := by
        have z : shapeA TA = ⟨curQ (R.prog.main.body.drop 44) (envOf TA), .body (behindTheImports R.prog) (envOf TA), TA.pos, [topFrame default]⟩ := rfl
        rw [← sh3, cur_eq, cur_cut] at z
        exact z
      obtain ⟨env, eenv⟩ : ∃ env, envOf TA = env := ⟨_, rfl⟩
      rw [eenv] at cTA
      have sch1 : Sch R.prog w SA.abs TA SA.abs ⟨(eval (.Dict dKeys dVals dPos) env).wrap (afterT env) (raisesT env) id id, .body (behindTheImports R.prog) env, aPos, [topFrame default]⟩ := by
        rw [cTA]
        exact Sch.step slA rfl rfl (Sch.refl _ _)
      -- the last part
      let Good : Shared → Prop := fun s => (looksF R.prog (boot_heap w.params) s, openSeen q loose (importedModules R.prog.main.body) (fun s => xlAt q [] s && recOk R.toRowW.records s) true s, Hk.obs s) = (true, openGood q loose, Hk.val w)
      let F : Pos × List Value → Frame := fun i => .ret topAfter none false [] (.builtin "claim.caller" {}) default i.2
      have last : ∀ i : Pos × List Value, Ends0 R.prog w n (bootAnn w) Good SA.abs ⟨(yDict (hkey w) dP1 dP2).wrap (afterT env) (raisesT env) id id, .body (behindTheImports R.prog) env, i.1, [F i]⟩ := by
        intro i
        have z := run os i.1 i.2
        rw [ea] at z
        obtain ⟨s1, z1, z2⟩ := Option.map_eq_some_iff.mp (show (runC w os i.1 i.2 (SA, TA)).map _ = _ from z)
        unfold runC at z1
        rw [eb] at z1
        have z3 : (frNat n fun n0 => goF (stepQ (denQ tabQ) R.prog w) n0 (bootAnn w) 12000 SA ⟨(yDict (hkey w) dP1 dP2).wrap (afterQ (envOf TA)) (raisesT (envOf TA)) id id, .body (behindTheImports R.prog) (envOf TA), i.1, [F i]⟩) = some s1 := z1
        rw [frNat_eq, stq, eenv] at z3
        have ea : afterQ env = afterT env := funext fun v => aft_eq _ _ _ _
        rw [ea] at z3
        refine ⟨_, _, goF_ok z3, ?_⟩
        rw [← seenQ_eq, hob] at z2
        exact z2
      obtain ⟨Q0, hQ0⟩ : ∃ Q0 : Value → Shared → Prop, Q0 = fun v s' => (∀ i : Pos × List Value, Ends0 R.prog w n (bootAnn w) Good s' ⟨afterT env v, .body (behindTheImports R.prog) env, i.1, [F i]⟩) ∧ Kept0 n (bootAnn w) SA.abs s' ∧ s'.gens = SA.abs.gens := ⟨_, rfl⟩
      have fol : Fol (yDict (hkey w) dP1 dP2) Q0 SA.abs := by
        rw [hQ0]
        exact ytop (default, []) (yDict (hkey w) dP1 dP2) (simple_dict _ _ _) SA.abs last
      have wpx : ∀ A : Around, A.units < cLine → wpAny (model R.prog w) A (eval (.Dict dKeys dVals dPos) env) Q0 (fun _ _ => False) SA.abs := fun A hu => @w_dict44 w A (fun _ _ => False) env SA.abs Q0 hu hsys fol
      obtain ⟨X, hX⟩ : ∃ X : Sem Value, eval (.Dict dKeys dVals dPos) env = X := ⟨_, rfl⟩
      rw [hX] at sch1 wpx
      obtain ⟨Γ, hΓ0⟩ : ∃ Γ : Ctx, Γ = Ctx.of (.body (behindTheImports R.prog) env) [topFrame default] := ⟨_, rfl⟩
      obtain ⟨A0, hA0⟩ : ∃ A : Around, A = { handled := none, depth := frameCount Γ.below + Γ.code.weight, frames := none, guards := none, units := Γ.units } := ⟨_, rfl⟩
      have hΓ : Γ.In A0 := by
        rw [hA0]
        refine ⟨?_, Nat.le_refl _, ?_, ?_, Nat.le_refl _⟩
        · rw [hΓ0]
          rfl
        · intro l z
          cases z
        · intro l z
          cases z
      have hlt : A0.units < cLine := by
        rw [hA0]
        show Γ.code.cUnits + unitsOf Γ.below < cLine
        rw [hΓ0]
        have e1 : (Code.body (behindTheImports R.prog) env).cUnits = 3 * (Code.body (behindTheImports R.prog) env).frames := rfl
        have e2 : (Code.body (behindTheImports R.prog) env).frames = 1 := rfl
        show (Code.body (behindTheImports R.prog) env).cUnits + unitsOf [(Code.builtin "claim.caller" {}, default)] < cLine
        rw [e1, e2, unitsOf_cons, unitsOf_nil]
        decide
      have fits : Γ.Fits [topFrame default] := by
        rw [hΓ0]
        exact Ctx.fits_of _ _
      have hcode : Γ.code = .body (behindTheImports R.prog) env := by rw [hΓ0]; rfl
      have go := comesW (M := model R.prog w) (afterT env) (raisesT env) id id X fits (fun a _ s => Q0 a s) aPos SA.abs (wpx A0 hlt Γ aPos hΓ)
      rw [hcode] at go
      obtain ⟨v, p1, s1, q0, cm⟩ := go
      rw [hQ0] at q0
      obtain ⟨q1, q2, q3⟩ := q0
      obtain ⟨m, hm⟩ := cm
      obtain ⟨σ, τ, c1, c2, c3⟩ := sch_of_comes m SA.abs SA.abs ⟨X.wrap (afterT env) (raisesT env) id id, .body (behindTheImports R.prog) env, aPos, [topFrame default]⟩ ⟨X.wrap (afterT env) (raisesT env) id id, .body (behindTheImports R.prog) env, aPos, [topFrame default]⟩ slA rfl rfl hm
      have eσ : σ = s1 := Shared.eq_of_forget_eq c2 (q3.trans hgens)
      have eτ : ∃ kept, τ = ⟨afterT env v, .body (behindTheImports R.prog) env, p1, [F (p1, kept)]⟩ := by
        obtain ⟨cur, code, pos, stack⟩ := τ
        simp only [Thread.forget, Thread.mk.injEq, forgetAll, List.map_cons, List.map_nil] at c3
        obtain ⟨d1, d2, d3, d4⟩ := c3
        subst d1 d2 d3
        cases stack with
        | nil => cases d4
        | cons g r =>
          simp only [List.map_cons, List.cons.injEq, List.map_eq_nil_iff] at d4
          obtain ⟨d5, d6⟩ := d4
          subst d6
          cases g with
          | gen a b c d e => cases d5
          | ret k h g l c p kept =>
            simp only [Frame.forget, Frame.ret.injEq] at d5
            obtain ⟨u1, u2, u3, u4, u5, u6, _⟩ := d5
            subst u1 u2 u3 u4 u5 u6
            exact ⟨kept, rfl⟩
      obtain ⟨kept, eτ⟩ := eτ
      obtain ⟨N, r, w1, w2⟩ := q1 (p1, kept)
      have sl1 : s1.asleep := Shared.asleep_of_life q2.life slA
      obtain ⟨⟨m2, t2, x1, x2⟩, x3, x4, x5⟩ := topRun_spec N s1 _ r sl1 w1
      refine ⟨r, t2, schA.trans (sch1.trans (c1.trans ?_)), x2, ?_, w2⟩
      · rw [eσ, eτ]
        exact ⟨m2, x1⟩
      · rw [hn]
        exact kA.trans (q2.trans ⟨x3, x4, x5⟩)
end K5H
end NCTH9
end PartTH9
section PartHK1
set_option maxRecDepth 100000
set_option maxHeartbeats 4000000
/-! What the head tells: a Hook of our own. -/
namespace K5
open PySem PySem.Spec PyProof.Rows L2
def dfn (x : Str) (i : Nat) : He.DefD := ⟨(x, none), x, x, fArgs (topS i), fBody (topS i), fScope (topS i), [], []⟩
def fnA : List He.DefD := [dfn "is_number" 19, dfn "cell_deed" 21, dfn "line_deed" 24, dfn "units_of" 26, dfn "with_units" 27, dfn "seize_units" 28, dfn "free_units" 29, dfn "store_deed" 30, dfn "gate_deed" 32, dfn "wheel_deed" 34, dfn "stand_deed" 40, dfn "is_argument" 45, dfn "fits" 46, dfn "do_deed" 47, dfn "touch" 48, dfn "row_place" 50, dfn "ordered_rows" 51, dfn "replay_rows" 52]
def fnB : List He.DefD := [dfn "_law_cell" 54, dfn "_law_draws" 55, dfn "_law_is_integer" 56, dfn "_law_alike" 57, dfn "_law_names" 58, dfn "_law_value" 59, dfn "_law_shapes" 60, dfn "_law_made" 61, dfn "_law_states" 62, dfn "_law_exchanged" 63, dfn "_law_ordered" 64, dfn "_law_changed" 65, dfn "_law_refused" 66, dfn "_law_books" 67, dfn "_law_made_rows" 68, dfn "law" 69]
def fnL : List He.DefD := fnA ++ fnB
def glA : List He.Fa := [("is_number" : Str), ("cell_deed" : Str), ("line_deed" : Str), ("units_of" : Str), ("with_units" : Str), ("seize_units" : Str), ("free_units" : Str), ("store_deed" : Str), ("gate_deed" : Str), ("wheel_deed" : Str), ("stand_deed" : Str), ("is_argument" : Str), ("fits" : Str), ("do_deed" : Str), ("touch" : Str), ("row_place" : Str), ("ordered_rows" : Str), ("replay_rows" : Str)].map He.Fa.glo
def glB : List He.Fa := [("_law_cell" : Str), ("_law_draws" : Str), ("_law_is_integer" : Str), ("_law_alike" : Str), ("_law_names" : Str), ("_law_value" : Str), ("_law_shapes" : Str), ("_law_made" : Str), ("_law_states" : Str), ("_law_exchanged" : Str), ("_law_ordered" : Str), ("_law_changed" : Str), ("_law_refused" : Str), ("_law_books" : Str), ("_law_made_rows" : Str), ("law" : Str)].map He.Fa.glo
def glC : List He.Fa := [("LivesError" : Str), ("BadText" : Str), ("BadName" : Str), ("BadDeed" : Str), ("BadBook" : Str), ("BadRows" : Str), ("NotDue" : Str), ("Quiet" : Str), ("NoCourse" : Str), ("TooLong" : Str), ("Crossed" : Str), ("NoPlace" : Str), ("BadWorld" : Str), ("Unsound" : Str), ("BadRecord" : Str), ("BadRow" : Str), ("NoThing" : Str), ("WORDS" : Str), ("ASKED" : Str), ("LEFT" : Str), ("WITH_ARGUMENTS" : Str), ("ACTIONS" : Str), ("SHAPES" : Str)].map He.Fa.glo
def frA : List He.Fa := [("len" : Str), ("int" : Str), ("abs" : Str), ("isinstance" : Str), ("tuple" : Str), ("list" : Str), ("all" : Str), ("sorted" : Str), ("range" : Str), ("bool" : Str), ("str" : Str), ("super" : Str), ("ValueError" : Str)].map He.Fa.free
def faL : List He.Fa := [.int "MOST_VALUES" 20, .int "GREATEST" 999999999, .noat "BadBook" "number", .exm "BadBook" "BadBook" true] ++ (frA ++ (glA ++ (glB ++ glC)))
def kindsT : List (Str × He.Dv) := [("cell", .glo "cell_deed"), ("mark", .glo "cell_deed"), ("line", .glo "line_deed"), ("store", .glo "store_deed"), ("gate", .glo "gate_deed"), ("wheel", .glo "wheel_deed"), ("stand", .glo "stand_deed")]
def strT (l : List (Str × Str)) : List (Str × He.Dv) := l.map fun x => (x.1, .str x.2)
def tbA (x : Str) (ks : List Str) : He.Tab := (fun K => He.ga K x, ks)
def tbL : List He.Tab := [tbA "ASKED" (askedL.map (·.1)), tbA "LEFT" (leftL.map (·.1)), tbA "ACTIONS" (kindsT.map (·.1))]

/-- a tuple of the module, without a dict -/
def tupN (K : PySem.W.Frag) (x : Str) : Bool := match K.lookup (He.ga K x) with
  | some o => decide (o.cls = .type "tuple") && decide (o.dict = none)
  | none => false
/-- BadBook's object -/
def mroB (C : Addr) : List Value → Bool
  | .ref D :: bm => decide (D = C) && PySem.HandSPX.refsVE bm
  | _ => false
theorem mroB_ok {C : Addr} {m : List Value} (h : mroB C m = true) : ∃ bm, m = .ref C :: bm ∧ PySem.HandSPX.refsVE bm = true := by
  unfold mroB at h
  split at h
  · obtain ⟨h1, h2⟩ := Bool.and_eq_true_iff.mp h
    have e := of_decide_eq_true h1
    subst e
    exact ⟨_, rfl, h2⟩
  · cases h
def slB : List (Option Value) → Bool
  | [_, _, _, _, some (.builtin n), _] => decide (n = "ValueError.__new__")
  | _ => false
theorem slB_ok {m : List (Option Value)} (h : slB m = true) : ∃ k0 k1 k2 k3 k5, m = [k0, k1, k2, k3, some (.builtin "ValueError.__new__"), k5] := by
  unfold slB at h
  split at h
  · have e := of_decide_eq_true h
    subst e
    exact ⟨_, _, _, _, _, rfl⟩
  · cases h
def datB (C : Addr) : Data → Bool
  | .cls cd => cd.hasDict && (!cd.hasDel && mroB C cd.mro)
  | _ => false
def oexB (K : PySem.W.Frag) (C : Addr) : Bool := match K.lookup C with
  | some o => decide (o.cls = .type "type") && (slB o.slots.toList && datB C o.data)
  | none => false
theorem oexB_ok {K : PySem.W.Frag} {C : Addr} (h : oexB K C = true) : ∃ nm q N bs bm sn sub ab col dd k0 k1 k2 k3 k5, K.lookup C = some (excClassObj nm q C N bs bm true sn sub ab col dd k0 k1 k2 k3 k5 "ValueError.__new__") ∧ PySem.HandSPX.refsVE bm = true := by
  unfold oexB at h
  cases q : K.lookup C with
  | none =>
    rw [q] at h
    cases h
  | some o =>
    obtain ⟨oc, od, dt, osl⟩ := o
    rw [q] at h
    obtain ⟨h1, h⟩ := Bool.and_eq_true_iff.mp (show (decide (oc = .type "type") && (slB osl.toList && datB C dt)) = true from h)
    obtain ⟨h2, h⟩ := Bool.and_eq_true_iff.mp h
    have e1 := of_decide_eq_true h1
    subst e1
    obtain ⟨k0, k1, k2, k3, k5, e2⟩ := slB_ok h2
    obtain ⟨l⟩ := osl
    simp only at e2
    subst e2
    cases dt with
    | cls cd =>
      obtain ⟨nm, bs, mro, ns, qn, hd, sn, sub, ab, col, del⟩ := cd
      obtain ⟨h3, h⟩ := Bool.and_eq_true_iff.mp (show (hd && (!del && mroB C mro)) = true from h)
      obtain ⟨h4, h5⟩ := Bool.and_eq_true_iff.mp h
      obtain ⟨bm, rfl, h6⟩ := mroB_ok h5
      subst h3
      have e6 : del = false := by
        cases del with
        | false => rfl
        | true => cases h4
      subst e6
      exact ⟨nm, qn, ns, bs, bm, sn, sub, ab, col, od, k0, k1, k2, k3, k5, rfl, h6⟩
    | _ => cases h
def eqOO (a b : Option (Option Value)) : Bool := decide (a = b)
def eqOB (a b : Option Bool) : Bool := decide (a = b)
def eqOV (a b : Option Value) : Bool := decide (a = b)
abbrev bbC (K : PySem.W.Frag) : Addr := He.ga K "BadBook"
abbrev bbI (K : PySem.W.Frag) : Addr := He.ma K (bbC K) "__init__"
def ini (K : PySem.W.Frag) : Option FuncData := match K.lookup (bbI K) with
  | some ⟨_, _, .func fd, _⟩ => some fd
  | _ => none
/-- its __init__'s closure and code -/
def iniB (K : PySem.W.Frag) : Bool := match ini K with
  | some fd => (match fd.closure with
      | [(x, cc)] => decide (x = ("__class__" : Str)) && (match K.lookup cc with
        | some ⟨_, _, .cell (some (.ref D)), _⟩ => decide (D = bbC K)
        | _ => false)
      | _ => false) && (match fd.code with
      | .ref cda => PySem.W.codeIn K (.ref cda) "BadBook.__init__" && (match K.lookup cda with
        | some ⟨_, _, .fields vs, _⟩ => (match (vs[2]? : Option Value) with
          | some (.str fl _) => ((prg.main.file : Str) == fl)
          | _ => false)
        | _ => false)
      | _ => false)
  | none => false
abbrev IniV : Type := Option (Str × Str × Arguments × FuncBody × Scope × Addr × Value × Addr)
def iniO (K : PySem.W.Frag) : IniV := (ini K).map fun fd => (fd.name, fd.qualname, fd.params, fd.body, fd.scope, fd.globals, fd.defaults, fd.builtins)
def iniV : IniV := some ("__init__", "BadBook.__init__", fArgs initB, .stmts (fBody initB), fScope initB, mainGlobals, .none, builtinsNs)
def n10L : List Str := ["BadName", "BadRecord", "BadRow", "BadRows", "BadText", "BadWorld", "Crossed", "NoCourse", "NoPlace", "NoThing"]
def n4L : List Str := ["NotDue", "Quiet", "TooLong", "Unsound"]
def exL (K : PySem.W.Frag) : List Bool := [
  He.tupB K "WORDS" (wordsL.map He.Dv.str), tupN K "WORDS", He.tupB K "WITH_ARGUMENTS" (withL.map He.Dv.str), tupN K "WITH_ARGUMENTS",
  He.valsB K (He.ga K "ASKED") (strT askedL), He.valsB K (He.ga K "LEFT") (strT leftL), He.valsB K (He.ga K "ACTIONS") kindsT,
  oexB K (bbC K), eqOO (PySem.W.findIn K (.ref (bbC K)) "__setattr__") (some (some (.builtin "object.__setattr__"))), eqOB (PySem.W.subIn K (.ref (bbC K)) (.type "BaseException")) (some true), eqOV (PySem.W.typeIn K (.ref (bbC K))) (some (.type "type")), PySem.W.keepIn K (.ref (bbC K)),
  xfB K (bbC K), eqOO (PySem.W.findIn K (.ref (bbC K)) "__init__") (some (some (.ref (bbI K)))), eqOV (PySem.W.typeIn K (.ref (bbI K))) (some (.type "function")), iniB K,
  eqOB (PySem.W.mroIn K (bbC K) (.ref (bbC K))) (some true), eqOO (PySem.W.nsIn K cStatics "thirdparty.any") (some none), eqOO (PySem.W.ks_superIn K (bbC K) (bbC K) "__init__") (some (some (.builtin "ValueError.__init__"))), eqOB (PySem.W.subIn K (.ref (bbC K)) (.type "ValueError")) (some true),
  PySem.W.excInitIn K (bbC K) [.type "ValueError", .type "Exception", .type "BaseException", .type "object"] "ValueError.__new__",
  eqOO (PySem.W.findIn K (.ref (bbC K)) "__class__") (some (some (.builtin "object.__class__"))), eqOO (PySem.W.specialIn K (.builtin "object.__class__") "__get__") (some (some (.builtin "getset_descriptor.__get__"))), eqOB (PySem.W.takesIn K (.builtin "object.__class__")) (some true), eqOB (PySem.W.mroIn K (bbC K) (.type "object")) (some true),
  eqOB (PySem.W.kitOne K (.ref (bbC K)) (.ref (He.ga K "LivesError"))) (some true), eqOB (PySem.W.kitOne K (.ref (bbC K)) (.ref (He.ga K "BadDeed"))) (some false), eqOB (PySem.W.kitOne K (.ref (bbC K)) (.type "ValueError")) (some true),
  eqOB (PySem.W.kitAny K (.ref (bbC K)) ((n10L.map (He.ga K)).map Value.ref)) (some false), eqOB (PySem.W.kitAny K (.ref (bbC K)) ((n4L.map (He.ga K)).map Value.ref)) (some false)]
def exB (K : PySem.W.Frag) : Bool := (exL K).all id
theorem exB_at {K : PySem.W.Frag} (h : exB K = true) (i : Nat) {b : Bool} (e : (exL K)[i]? = some b) : b = true := List.all_eq_true.mp h b (List.mem_of_getElem? e)

/-! ### the dict with tuple keys -/
def strsO (K : PySem.W.Frag) : Value → Option (List Str)
  | .ref a => (match K.lookup a with
    | some ⟨.type t, none, .seq its _, _⟩ => (match decide (t = "tuple") && decide (its.size ≤ 100) with
      | true => its.toList.mapM fun v => (match v with
        | .str x _ => some x
        | _ => none)
      | false => none)
    | _ => none)
  | _ => none
abbrev ShV : Type := Option (List (Option (List Str) × Int × Option (List Str)))
def shO (K : PySem.W.Frag) : ShV := match K.lookup (He.ga K "SHAPES") with
  | some ⟨.type t, none, .dict es _, sl⟩ => (match decide (t = "dict") && (sl.isEmpty && !(He.ga K "SHAPES" == sysModules)) with
    | true => some (es.toList.map fun e => (strsO K e.key, e.hash, strsO K e.val))
    | false => none)
  | _ => none
def shV (w : World) : ShV := some (shapesL.map fun kv => (some kv.1, (tupleKind (strKind prg w)).hash kv.1, some kv.2))
/-! ### the Hook -/
def keysO (g : Addr → Option Obj) : List Addr := match g (He.ga (He.frG g [mainGlobals]) "SHAPES") with
  | some ⟨_, _, .dict es _, _⟩ => es.toList.flatMap fun e => He.refV e.key
  | _ => []
def asK (g : Addr → Option Obj) : List Addr := cStatics :: (keysO g ++ He.asD g 5)
abbrev AlK : Type := He.AlT × Bool × IniV × ShV
def obsK (K : PySem.W.Frag) : AlK := (He.obsT faL fnL tbL K, exB K, iniO K, shO K)
def valK (w : World) : AlK := (He.valT fnL tbL w, true, iniV, shV w)
def obsKG (g : Addr → Option Obj) : AlK := obsK (He.frG g (asK g))
def hookK : PySem.W.Hook where
  α := AlK
  obs := fun s => obsKG s.heap.get?
  val := valK
  says := fun w h => ∃ K : PySem.W.Frag, K.In h ∧ obsK K = valK w
  of := fun _ _ e => ⟨_, He.frG_in, e⟩
  keeps := fun _ _ _ ⟨K, hK, c⟩ k => ⟨K, PySem.W.Frag.In.keeps hK k, c⟩
theorem obsK_eq {g : Addr → Option Obj} {s : Shared} (h : ∀ a, g a = s.heap.get? a) : obsKG g = hookK.obs s := by
  have e : g = s.heap.get? := funext h
  rw [e] <;> rfl

end K5
end PartHK1
section PartHK2
set_option maxRecDepth 100000
set_option maxHeartbeats 0
noncomputable section NCHK2
namespace K5H
open PySem PySem.W PySem.Calls PyProof.Rows HandSHeadRun
def loose1 : List PySem.Str := ["LivesError", "BadText", "BadName", "BadDeed", "BadBook", "BadRows", "NotDue", "Quiet", "NoCourse", "TooLong", "Crossed", "NoPlace", "BadWorld", "Unsound", "BadRecord", "BadRow", "NoThing"]
def loose2 : List PySem.Str := ["is_number", "cell_deed", "MOST_VALUES", "line_deed", "units_of", "with_units", "seize_units", "free_units", "store_deed", "gate_deed", "wheel_deed", "WORDS", "ASKED", "LEFT", "WITH_ARGUMENTS", "stand_deed", "GREATEST", "ACTIONS", "SHAPES", "is_argument", "fits", "do_deed", "touch", "row_place", "ordered_rows", "replay_rows"]
def loose3 : List PySem.Str := ["_law_cell", "_law_draws", "_law_is_integer", "_law_alike", "_law_names", "_law_value", "_law_shapes", "_law_made", "_law_states", "_law_exchanged", "_law_ordered", "_law_changed", "_law_refused", "_law_books", "_law_made_rows"]
abbrev looseN : List PySem.Str := loose1 ++ (loose2 ++ loose3)
abbrev qV : Program := view R.prog [69]
def obT (s : SharedT) : K5.AlK := K5.obsKG (getT s)
theorem obT_eq (s : SharedT) : obT s = K5.hookK.obs s.abs := K5.obsK_eq (getT_eq s)
def w0 (w : World) : World := w.withFollow "special-get-raises" false
def w1 (w : World) : World := w.withFollow "special-get-raises" true
theorem run_0 (w : World) (os : OsState) (p : Pos) (kept : List Value) : ((runA (w.withFollow "special-get-raises" false) os).bind fun x => (runC (w.withFollow "special-get-raises" false) os p kept x).map fun s => (looksF R.prog (boot_heap (w.withFollow "special-get-raises" false).params) s.abs, seenQ qV looseN (importedModules R.prog.main.body) (fun s => xlAt qV [] s && recOk R.toRowW.records s) s.abs, obT s)) = some (true, openGood qV looseN, K5.hookK.val (w.withFollow "special-get-raises" false)) := by kernel_rfl
theorem run_1 (w : World) (os : OsState) (p : Pos) (kept : List Value) : ((runA (w.withFollow "special-get-raises" true) os).bind fun x => (runC (w.withFollow "special-get-raises" true) os p kept x).map fun s => (looksF R.prog (boot_heap (w.withFollow "special-get-raises" true).params) s.abs, seenQ qV looseN (importedModules R.prog.main.body) (fun s => xlAt qV [] s && recOk R.toRowW.records s) s.abs, obT s)) = some (true, openGood qV looseN, K5.hookK.val (w.withFollow "special-get-raises" true)) := by kernel_rfl
end K5H
end NCHK2
end PartHK2
section PartHK3
set_option maxRecDepth 100000
set_option maxHeartbeats 4000000
/-! From the head's facts to the law's promise. -/
namespace K5
open PySem PySem.Spec PyProof.Rows L2
section
variable {w : World} {K : PySem.W.Frag} {h : Heap} {mg : Str → Option Value} {base : Heap}
/-- what is told of K -/
structure Told (w : World) (K : PySem.W.Frag) : Prop where
  t : He.SaysT faL fnL tbL w K
  b : exB K = true
  i : iniO K = iniV
  s : shO K = shV w
theorem told_of {w : World} {K : PySem.W.Frag} (e : obsK K = valK w) : Told w K := by
  have e2 : (He.obsT faL fnL tbL K, exB K, iniO K, shO K) = (He.valT fnL tbL w, true, iniV, shV w) := e
  simp only [Prod.mk.injEq] at e2
  exact ⟨e2.1, e2.2.1, e2.2.2.1, e2.2.2.2⟩
theorem fact_of {w : World} {K : PySem.W.Frag} (T : Told w K) {f : He.Fa} (hf : f ∈ faL) : f.ok K = true := by
  obtain ⟨i, hi, e⟩ := List.mem_iff_getElem.mp hf
  exact T.t.d.fact i (f := f) (by rw [List.getElem?_eq_getElem hi, e])
theorem glo_of (T : Told w K) (X : K.In h) (G : h.Ns mainGlobals mg) {x : Str} (hf : He.Fa.glo x ∈ faL) : mg x = some (.ref (He.ga K x)) := He.glo_ok X G (fact_of T hf)
theorem free_of (T : Told w K) (X : K.In h) (G : h.Ns mainGlobals mg) {x : Str} (hf : He.Fa.free x ∈ faL) : mg x = none := He.free_ok X G (fact_of T hf)
theorem mem_fa (x : Str) (l : List Str) (h : l.contains x = true) : He.Fa.glo x ∈ l.map He.Fa.glo := List.mem_map.mpr ⟨x, by simpa using h, rfl⟩
theorem mem_fr (x : Str) (l : List Str) (h : l.contains x = true) : He.Fa.free x ∈ l.map He.Fa.free := List.mem_map.mpr ⟨x, by simpa using h, rfl⟩
theorem in_fr {x : He.Fa} (h : x ∈ frA) : x ∈ faL := List.mem_append_right _ (List.mem_append_left _ h)
theorem in_A {x : He.Fa} (h : x ∈ glA) : x ∈ faL := List.mem_append_right _ (List.mem_append_right _ (List.mem_append_left _ h))
theorem in_B {x : He.Fa} (h : x ∈ glB) : x ∈ faL := List.mem_append_right _ (List.mem_append_right _ (List.mem_append_right _ (List.mem_append_left _ h)))
theorem in_C {x : He.Fa} (h : x ∈ glC) : x ∈ faL := List.mem_append_right _ (List.mem_append_right _ (List.mem_append_right _ (List.mem_append_right _ h)))
theorem def_of (T : Told w K) {x : Str} {i : Nat} (hd : dfn x i ∈ fnL) : ∃ fd, FnP K x i (He.ga K x) fd := by
  obtain ⟨j, hj, e⟩ := List.mem_iff_getElem.mp hd
  exact T.t.d.def_ j (d := dfn x i) (by rw [List.getElem?_eq_getElem hj, e])

theorem blt_of (T : Told w K) (X : K.In h) (G : h.Ns mainGlobals mg) : Blt mg := ⟨(free_of T X G (in_fr (mem_fr "len" _ (by decide +kernel)))), (free_of T X G (in_fr (mem_fr "int" _ (by decide +kernel)))), (free_of T X G (in_fr (mem_fr "abs" _ (by decide +kernel)))), (free_of T X G (in_fr (mem_fr "isinstance" _ (by decide +kernel)))), (free_of T X G (in_fr (mem_fr "tuple" _ (by decide +kernel)))), (free_of T X G (in_fr (mem_fr "list" _ (by decide +kernel)))), (free_of T X G (in_fr (mem_fr "all" _ (by decide +kernel)))), (free_of T X G (in_fr (mem_fr "sorted" _ (by decide +kernel)))), (free_of T X G (in_fr (mem_fr "range" _ (by decide +kernel)))), (free_of T X G (in_fr (mem_fr "bool" _ (by decide +kernel)))), (free_of T X G (in_fr (mem_fr "str" _ (by decide +kernel))))⟩

theorem shape_tup {K : PySem.W.Frag} {v : Value} {xs : List Str} (h : strsO K v = some xs) : ∃ a its n sl, v = .ref a ∧ K.lookup a = some ⟨.type "tuple", none, .seq its n, sl⟩ ∧ its.size ≤ 100 ∧ Vals (xs.map V.str) its.toList := by
  unfold strsO at h
  split at h
  · rename_i a
    split at h
    · rename_i t its n sl ho
      cases q : decide (t = "tuple") && decide (its.size ≤ 100) with
      | false =>
        rw [q] at h
        cases h
      | true =>
        rw [q] at h
        obtain ⟨q1, q2⟩ := Bool.and_eq_true_iff.mp q
        have e1 := of_decide_eq_true q1
        subst e1
        refine ⟨a, its, n, sl, rfl, ho, of_decide_eq_true q2, ?_⟩
        have h2 : its.toList.mapM (fun v : Value => (match v with
          | .str x _ => some x
          | _ => none : Option Str)) = some xs := h
        clear h ho q q1 q2
        generalize its.toList = l at h2
        induction l generalizing xs with
        | nil =>
          have : xs = [] := by simpa using h2.symm
          subst this
          exact .nil
        | cons u r ih =>
          rw [List.mapM_cons] at h2
          cases u with
          | str x tk =>
            cases e : r.mapM (fun v : Value => (match v with
              | .str x _ => some x
              | _ => none : Option Str)) with
            | none =>
              rw [e] at h2
              cases h2
            | some ys =>
              rw [e] at h2
              have : x :: ys = xs := by simpa using h2
              subst this
              exact .cons ⟨tk, rfl⟩ (ih e)
          | _ => cases h2
    · cases h
  · cases h
theorem shapes_list {K : PySem.W.Frag} {P : Program} {w : World} {h : Heap} (X : K.In h) : ∀ {es : List DictEntry} {kvs : List (List Str × List Str)}, es.map (fun e => (strsO K e.key, e.hash, strsO K e.val)) = kvs.map (fun kv => (some kv.1, (tupleKind (strKind P w)).hash kv.1, some kv.2)) →
    ∃ xs : List (List Str × Addr × Value), es = xs.map (entryOfKey (tupleKind (strKind P w))) ∧ xs.map (·.1) = kvs.map (·.1) ∧ (∀ x ∈ xs, ∃ o its n sl, K.lookup x.2.1 = some o ∧ o = ⟨.type "tuple", none, .seq its n, sl⟩ ∧ Vals (x.1.map V.str) its.toList) ∧
      Paired (fun x kv => x.1 = kv.1 ∧ ∃ b, x.2.2 = .ref b ∧ ∀ H, SqT K H b (kv.2.map V.str)) xs kvs
  | [], [], _ => ⟨[], rfl, rfl, (fun _ z => nomatch z), .nil⟩
  | [], _ :: _, h => by cases h
  | _ :: _, [], h => by cases h
  | e :: es, kv :: kvs, h => by
    rw [List.map_cons, List.map_cons] at h
    obtain ⟨h1, h2⟩ := List.cons.inj h
    simp only [Prod.mk.injEq] at h1
    obtain ⟨h3, h4, h5⟩ := h1
    obtain ⟨xs, e1, e2, e3, e4⟩ := shapes_list X h2
    obtain ⟨a, its, n, sl, q1, q2, q3, q4⟩ := shape_tup h3
    obtain ⟨b, its2, n2, sl2, r1, r2, r3, r4⟩ := shape_tup h5
    refine ⟨(kv.1, a, e.val) :: xs, ?_, by rw [List.map_cons, e2]; rfl, fun x hx => ?_, .cons ⟨rfl, b, r1, fun H => ?_⟩ e4⟩
    · rw [List.map_cons, ← e1]
      obtain ⟨eh, ek, ev⟩ := e
      dsimp only at q1 h4
      subst q1 h4
      rfl
    · rcases List.mem_cons.mp hx with rfl | hx
      · exact ⟨_, its, n, sl, q2, rfl, q4⟩
      · exact e3 x hx
    · exact .inr ⟨_, its2, n2, r2, rfl, rfl, by rw [sizeLine_eq]; omega, r4⟩
theorem shapes_nodup : (shapesL.map (·.1)).Nodup := by decide +kernel
theorem tdict_of (T : Told w K) (X : K.In h) : TDict prg w K (He.ga K "SHAPES") shapesL := by
  have e := T.s
  unfold shO shV at e
  split at e
  · rename_i t es n sl ho
    cases q : decide (t = "dict") && (sl.isEmpty && !(He.ga K "SHAPES" == sysModules)) with
    | false =>
      rw [q] at e
      cases e
    | true =>
      rw [q] at e
      obtain ⟨q1, q2⟩ := Bool.and_eq_true_iff.mp q
      obtain ⟨q3, q4⟩ := Bool.and_eq_true_iff.mp q2
      have e1 := of_decide_eq_true q1
      subst e1
      have e2 : sl = #[] := Array.isEmpty_iff.mp q3
      subst e2
      obtain ⟨xs, z1, z2, z3, z4⟩ := shapes_list (P := prg) (w := w) X (Option.some.inj e)
      refine ⟨by simpa using q4, xs, fun h2 X2 => ⟨_, es, n, X2 _ _ ho, ⟨rfl, rfl, rfl⟩, rfl, z1, fun x hx => ?_, ?_⟩, z4⟩
      · obtain ⟨o, its, m, sl, y1, y2, y3⟩ := z3 x hx
        subst y2
        exact ⟨_, its, m, X2 _ _ y1, rfl, rfl, strs_items _ _ y3⟩
      · rw [z2]
        exact shapes_nodup
  · cases e

theorem eqOO_ok {a b : Option (Option Value)} (h : eqOO a b = true) : a = b := of_decide_eq_true h
theorem eqOB_ok {a b : Option Bool} (h : eqOB a b = true) : a = b := of_decide_eq_true h
theorem eqOV_ok {a b : Option Value} (h : eqOV a b = true) : a = b := of_decide_eq_true h
theorem bbk_of (T : Told w K) : BBk K (bbC K) (bbI K) := by
  have B := T.b
  have f : ∀ (i : Nat) {b : Bool}, (exL K)[i]? = some b → b = true := fun i b e => exB_at B i e
  refine ⟨⟨oexB_ok (f 7 rfl), eqOO_ok (f 8 rfl), eqOB_ok (f 9 rfl), eqOV_ok (f 10 rfl), f 11 rfl⟩, xfB_ok (f 12 rfl), ?_, eqOO_ok (f 13 rfl), eqOV_ok (f 14 rfl), ?_, eqOB_ok (f 16 rfl), eqOO_ok (f 17 rfl), eqOO_ok (f 18 rfl), eqOB_ok (f 19 rfl), f 20 rfl⟩
  · exact He.noat_ok (x := "BadBook") (f := "number") (fact_of T (List.mem_append_left _ (List.mem_cons_of_mem _ (List.mem_cons_of_mem _ List.mem_cons_self))))
  · have hi := T.i
    have hb : iniB K = true := f 15 rfl
    unfold iniO iniV at hi
    unfold iniB at hb
    cases q : ini K with
    | none =>
      rw [q] at hi
      cases hi
    | some fd =>
      rw [q] at hi hb
      have lk : ∃ oc od osl, K.lookup (bbI K) = some ⟨oc, od, .func fd, osl⟩ := by
        unfold ini at q
        split at q
        · rename_i oc od fd2 osl ho
          cases q
          exact ⟨oc, od, osl, ho⟩
        · cases q
      obtain ⟨oc, od, osl, lk⟩ := lk
      obtain ⟨n1, n2, n3, n4, n5, n6, n7, n8, n9, n10, n11, n12, n13, n14, n15⟩ := fd
      have hi2 := Option.some.inj hi
      simp only [Prod.mk.injEq] at hi2
      obtain ⟨z1, z2, z3, z4, z5, z6, z8, z15⟩ := hi2
      subst z1 z2 z3 z4 z5 z6 z8 z15
      obtain ⟨b1, b2⟩ := Bool.and_eq_true_iff.mp hb
      simp only at b1 b2
      split at b1
      · rename_i x0 x cc
        obtain ⟨c1, c2⟩ := Bool.and_eq_true_iff.mp b1
        have ex := of_decide_eq_true c1
        subst ex
        split at c2
        · rename_i cl cd D sl2 hcc
          have eD := of_decide_eq_true c2
          subst eD
          split at b2
          · rename_i cda
            obtain ⟨d1, d2⟩ := Bool.and_eq_true_iff.mp b2
            split at d2
            · rename_i cl3 cd3 vs sl3 hcd
              split at d2
              · rename_i fl tf hvs
                refine ⟨oc, od, .none, n9, n10, n11, n12, cda, n14, osl, cc, lk, d1, ⟨cl3, cd3, vs, sl3, fl, tf, hcd, hvs, d2⟩, ⟨cl, cd, sl2, hcc⟩, ?_⟩
                exact .all fun us hl => match us, hl with | [_, _], _ => rfl
              · cases d2
            · cases d2
          · cases b2
        · cases c2
      · cases b1

theorem errs_of (T : Told w K) (X : K.In h) (G : h.Ns mainGlobals mg) : Errs K mg (bbC K) := by
  have B := T.b
  have f : ∀ (i : Nat) {b : Bool}, (exL K)[i]? = some b → b = true := fun i b e => exB_at B i e
  have xf := xfB_ok (f 12 rfl)
  refine ⟨⟨xf.ga, xf.gg, xf.exC, xf.hdC, eqOO_ok (f 21 rfl), eqOO_ok (f 22 rfl), eqOB_ok (f 23 rfl), eqOB_ok (f 24 rfl)⟩, ?_, ⟨_, (glo_of T X G (in_C (mem_fa "LivesError" _ (by decide +kernel)))), eqOB_ok (f 25 rfl)⟩, ⟨_, (glo_of T X G (in_C (mem_fa "BadDeed" _ (by decide +kernel)))), eqOB_ok (f 26 rfl)⟩, eqOB_ok (f 27 rfl), (free_of T X G (in_fr (mem_fr "ValueError" _ (by decide +kernel)))), ⟨n10L.map (He.ga K), ?_, eqOB_ok (f 28 rfl)⟩, ⟨n4L.map (He.ga K), ?_, eqOB_ok (f 29 rfl)⟩⟩
  · exact He.exm_ok (x := "BadBook") (y := "BadBook") (fact_of T (List.mem_append_left _ (List.mem_cons_of_mem _ (List.mem_cons_of_mem _ (List.mem_cons_of_mem _ List.mem_cons_self)))))
  · exact .cons (glo_of T X G (in_C (mem_fa "BadName" _ (by decide +kernel)))) (.cons (glo_of T X G (in_C (mem_fa "BadRecord" _ (by decide +kernel)))) (.cons (glo_of T X G (in_C (mem_fa "BadRow" _ (by decide +kernel)))) (.cons (glo_of T X G (in_C (mem_fa "BadRows" _ (by decide +kernel)))) (.cons (glo_of T X G (in_C (mem_fa "BadText" _ (by decide +kernel)))) (.cons (glo_of T X G (in_C (mem_fa "BadWorld" _ (by decide +kernel)))) (.cons (glo_of T X G (in_C (mem_fa "Crossed" _ (by decide +kernel)))) (.cons (glo_of T X G (in_C (mem_fa "NoCourse" _ (by decide +kernel)))) (.cons (glo_of T X G (in_C (mem_fa "NoPlace" _ (by decide +kernel)))) (.cons (glo_of T X G (in_C (mem_fa "NoThing" _ (by decide +kernel)))) (.nil))))))))))
  · exact .cons (glo_of T X G (in_C (mem_fa "NotDue" _ (by decide +kernel)))) (.cons (glo_of T X G (in_C (mem_fa "Quiet" _ (by decide +kernel)))) (.cons (glo_of T X G (in_C (mem_fa "TooLong" _ (by decide +kernel)))) (.cons (glo_of T X G (in_C (mem_fa "Unsound" _ (by decide +kernel)))) (.nil))))

theorem fnH_mono {P : Program} {w : World} {K : PySem.W.Frag} {mg : Str → Option Value} {base : Heap} {CX : CXT} {j k : Nat} {f : Addr} {fd : FuncData} {ps : List Str} {sp : Sp} (F : L2H.FnH P w K mg base CX j f fd ps sp) (h : j ≤ k) : L2H.FnH P w K mg base CX k f fd ps sp :=
  ⟨F.len, fun A outer s H args us vs Q E p hr => F.run A outer s H args us vs Q E p (hr.mono h)⟩
theorem stab_of (T : Told w K) (X : K.In h) (G : h.Ns mainGlobals mg) {x : Str} {tbl : List (Str × Str)} {j : Nat} (hm : mg x = some (.ref (He.ga K x))) (ht : tbL[j]? = some (tbA x (tbl.map (·.1)))) (hv : He.valsB K (He.ga K x) (strT tbl) = true) : STab prg w K mg x tbl := by
  obtain ⟨es, n, hk⟩ := T.t.tab j ht
  refine ⟨He.ga K x, es, n, hk, hm, fun z y e => ?_⟩
  obtain ⟨u, h1, h2⟩ := He.valsB_ok hv (q := (z, .str y)) (List.mem_map.mpr ⟨(z, y), lookup_mem e, rfl⟩)
  obtain ⟨t, rfl⟩ := h2
  exact ⟨t, h1⟩
theorem stup_of {x : Str} {ys : List Str} (hm : mg x = some (.ref (He.ga K x))) (ht : He.tupB K x (ys.map He.Dv.str) = true) (hn : tupN K x = true) : STup K mg x ys := by
  refine ⟨He.ga K x, hm, fun H => ?_, ?_⟩
  · have z := He.tupB_ok ht H
    rw [List.map_map] at z
    exact z
  · unfold tupN at hn
    cases q : K.lookup (He.ga K x) with
    | none =>
      rw [q] at hn
      cases hn
    | some o =>
      rw [q] at hn
      obtain ⟨h1, h2⟩ := Bool.and_eq_true_iff.mp hn
      exact ⟨o, rfl, of_decide_eq_true h1, of_decide_eq_true h2⟩

theorem law_fn (T : Told w K) (X : K.In base) (G : base.Ns mainGlobals mg) (HM : ∀ ns, ∃ st, LawM ns st) : ∃ fd, FnP K "law" 69 (He.ga K "law") fd ∧ FnOk prg w K mg base (L2N.CX prg w) 8 (He.ga K "law") fd ["_law_script"] (spF K lawR) := by
  have M := blt_of T X G
  have f : ∀ (i : Nat) {b : Bool}, (exL K)[i]? = some b → b = true := fun i b e => exB_at T.b i e
  obtain ⟨tMV, hMV⟩ := He.int_ok X G (x := "MOST_VALUES") (i := 20) (fact_of T (List.mem_append_left _ List.mem_cons_self))
  have rMV : RelV (.int 20) (.int 20 tMV) := ⟨tMV, rfl⟩
  obtain ⟨tG, hG⟩ := He.int_ok X G (x := "GREATEST") (i := 999999999) (fact_of T (List.mem_append_left _ (List.mem_cons_of_mem _ List.mem_cons_self)))
  have rG : RelV (.int 999999999) (.int 999999999 tG) := ⟨tG, rfl⟩
  obtain ⟨fd_is_number, D_is_number⟩ := def_of T (x := "is_number") (i := 19) (List.mem_append_left _ (List.mem_cons_self))
  have B_is_number : Binds K fd_is_number ["value"] [] := (FunD.bindsN D_is_number fun _ _ _ _ _ _ us hl => match us, hl with | [_], _ => rfl)
  have g_is_number : mg "is_number" = some (.ref (He.ga K "is_number")) := (glo_of T X G (in_A (mem_fa "is_number" _ (by decide +kernel))))
  obtain ⟨fd_cell_deed, D_cell_deed⟩ := def_of T (x := "cell_deed") (i := 21) (List.mem_append_left _ (List.mem_cons_of_mem _ (List.mem_cons_self)))
  have B_cell_deed : Binds K fd_cell_deed ["state", "life", "deed", "arguments"] [] := (FunD.bindsN D_cell_deed fun _ _ _ _ _ _ us hl => match us, hl with | [_, _, _, _], _ => rfl)
  have g_cell_deed : mg "cell_deed" = some (.ref (He.ga K "cell_deed")) := (glo_of T X G (in_A (mem_fa "cell_deed" _ (by decide +kernel))))
  obtain ⟨fd_line_deed, D_line_deed⟩ := def_of T (x := "line_deed") (i := 24) (List.mem_append_left _ (List.mem_cons_of_mem _ (List.mem_cons_of_mem _ (List.mem_cons_self))))
  have B_line_deed : Binds K fd_line_deed ["state", "life", "deed", "arguments"] [] := (FunD.bindsN D_line_deed fun _ _ _ _ _ _ us hl => match us, hl with | [_, _, _, _], _ => rfl)
  have g_line_deed : mg "line_deed" = some (.ref (He.ga K "line_deed")) := (glo_of T X G (in_A (mem_fa "line_deed" _ (by decide +kernel))))
  obtain ⟨fd_units_of, D_units_of⟩ := def_of T (x := "units_of") (i := 26) (List.mem_append_left _ (List.mem_cons_of_mem _ (List.mem_cons_of_mem _ (List.mem_cons_of_mem _ (List.mem_cons_self)))))
  have B_units_of : Binds K fd_units_of ["holders", "life"] [] := (FunD.bindsN D_units_of fun _ _ _ _ _ _ us hl => match us, hl with | [_, _], _ => rfl)
  have g_units_of : mg "units_of" = some (.ref (He.ga K "units_of")) := (glo_of T X G (in_A (mem_fa "units_of" _ (by decide +kernel))))
  obtain ⟨fd_with_units, D_with_units⟩ := def_of T (x := "with_units") (i := 27) (List.mem_append_left _ (List.mem_cons_of_mem _ (List.mem_cons_of_mem _ (List.mem_cons_of_mem _ (List.mem_cons_of_mem _ (List.mem_cons_self))))))
  have B_with_units : Binds K fd_with_units ["holders", "life", "units"] [] := (FunD.bindsN D_with_units fun _ _ _ _ _ _ us hl => match us, hl with | [_, _, _], _ => rfl)
  have g_with_units : mg "with_units" = some (.ref (He.ga K "with_units")) := (glo_of T X G (in_A (mem_fa "with_units" _ (by decide +kernel))))
  obtain ⟨fd_seize_units, D_seize_units⟩ := def_of T (x := "seize_units") (i := 28) (List.mem_append_left _ (List.mem_cons_of_mem _ (List.mem_cons_of_mem _ (List.mem_cons_of_mem _ (List.mem_cons_of_mem _ (List.mem_cons_of_mem _ (List.mem_cons_self)))))))
  have B_seize_units : Binds K fd_seize_units ["state", "life", "units"] [] := (FunD.bindsN D_seize_units fun _ _ _ _ _ _ us hl => match us, hl with | [_, _, _], _ => rfl)
  have g_seize_units : mg "seize_units" = some (.ref (He.ga K "seize_units")) := (glo_of T X G (in_A (mem_fa "seize_units" _ (by decide +kernel))))
  obtain ⟨fd_free_units, D_free_units⟩ := def_of T (x := "free_units") (i := 29) (List.mem_append_left _ (List.mem_cons_of_mem _ (List.mem_cons_of_mem _ (List.mem_cons_of_mem _ (List.mem_cons_of_mem _ (List.mem_cons_of_mem _ (List.mem_cons_of_mem _ (List.mem_cons_self))))))))
  have B_free_units : Binds K fd_free_units ["state", "life", "units"] [] := (FunD.bindsN D_free_units fun _ _ _ _ _ _ us hl => match us, hl with | [_, _, _], _ => rfl)
  have g_free_units : mg "free_units" = some (.ref (He.ga K "free_units")) := (glo_of T X G (in_A (mem_fa "free_units" _ (by decide +kernel))))
  obtain ⟨fd_store_deed, D_store_deed⟩ := def_of T (x := "store_deed") (i := 30) (List.mem_append_left _ (List.mem_cons_of_mem _ (List.mem_cons_of_mem _ (List.mem_cons_of_mem _ (List.mem_cons_of_mem _ (List.mem_cons_of_mem _ (List.mem_cons_of_mem _ (List.mem_cons_of_mem _ (List.mem_cons_self)))))))))
  have B_store_deed : Binds K fd_store_deed ["state", "life", "deed", "arguments"] [] := (FunD.bindsN D_store_deed fun _ _ _ _ _ _ us hl => match us, hl with | [_, _, _, _], _ => rfl)
  have g_store_deed : mg "store_deed" = some (.ref (He.ga K "store_deed")) := (glo_of T X G (in_A (mem_fa "store_deed" _ (by decide +kernel))))
  obtain ⟨fd_gate_deed, D_gate_deed⟩ := def_of T (x := "gate_deed") (i := 32) (List.mem_append_left _ (List.mem_cons_of_mem _ (List.mem_cons_of_mem _ (List.mem_cons_of_mem _ (List.mem_cons_of_mem _ (List.mem_cons_of_mem _ (List.mem_cons_of_mem _ (List.mem_cons_of_mem _ (List.mem_cons_of_mem _ (List.mem_cons_self))))))))))
  have B_gate_deed : Binds K fd_gate_deed ["state", "life", "deed", "arguments"] [] := (FunD.bindsN D_gate_deed fun _ _ _ _ _ _ us hl => match us, hl with | [_, _, _, _], _ => rfl)
  have g_gate_deed : mg "gate_deed" = some (.ref (He.ga K "gate_deed")) := (glo_of T X G (in_A (mem_fa "gate_deed" _ (by decide +kernel))))
  obtain ⟨fd_wheel_deed, D_wheel_deed⟩ := def_of T (x := "wheel_deed") (i := 34) (List.mem_append_left _ (List.mem_cons_of_mem _ (List.mem_cons_of_mem _ (List.mem_cons_of_mem _ (List.mem_cons_of_mem _ (List.mem_cons_of_mem _ (List.mem_cons_of_mem _ (List.mem_cons_of_mem _ (List.mem_cons_of_mem _ (List.mem_cons_of_mem _ (List.mem_cons_self)))))))))))
  have B_wheel_deed : Binds K fd_wheel_deed ["state", "life", "deed", "arguments"] [] := (FunD.bindsN D_wheel_deed fun _ _ _ _ _ _ us hl => match us, hl with | [_, _, _, _], _ => rfl)
  have g_wheel_deed : mg "wheel_deed" = some (.ref (He.ga K "wheel_deed")) := (glo_of T X G (in_A (mem_fa "wheel_deed" _ (by decide +kernel))))
  obtain ⟨fd_stand_deed, D_stand_deed⟩ := def_of T (x := "stand_deed") (i := 40) (List.mem_append_left _ (List.mem_cons_of_mem _ (List.mem_cons_of_mem _ (List.mem_cons_of_mem _ (List.mem_cons_of_mem _ (List.mem_cons_of_mem _ (List.mem_cons_of_mem _ (List.mem_cons_of_mem _ (List.mem_cons_of_mem _ (List.mem_cons_of_mem _ (List.mem_cons_of_mem _ (List.mem_cons_self))))))))))))
  have B_stand_deed : Binds K fd_stand_deed ["state", "life", "deed", "arguments"] [] := (FunD.bindsN D_stand_deed fun _ _ _ _ _ _ us hl => match us, hl with | [_, _, _, _], _ => rfl)
  have g_stand_deed : mg "stand_deed" = some (.ref (He.ga K "stand_deed")) := (glo_of T X G (in_A (mem_fa "stand_deed" _ (by decide +kernel))))
  obtain ⟨fd_is_argument, D_is_argument⟩ := def_of T (x := "is_argument") (i := 45) (List.mem_append_left _ (List.mem_cons_of_mem _ (List.mem_cons_of_mem _ (List.mem_cons_of_mem _ (List.mem_cons_of_mem _ (List.mem_cons_of_mem _ (List.mem_cons_of_mem _ (List.mem_cons_of_mem _ (List.mem_cons_of_mem _ (List.mem_cons_of_mem _ (List.mem_cons_of_mem _ (List.mem_cons_of_mem _ (List.mem_cons_self)))))))))))))
  have B_is_argument : Binds K fd_is_argument ["part", "value"] [] := (FunD.bindsN D_is_argument fun _ _ _ _ _ _ us hl => match us, hl with | [_, _], _ => rfl)
  have g_is_argument : mg "is_argument" = some (.ref (He.ga K "is_argument")) := (glo_of T X G (in_A (mem_fa "is_argument" _ (by decide +kernel))))
  obtain ⟨fd_fits, D_fits⟩ := def_of T (x := "fits") (i := 46) (List.mem_append_left _ (List.mem_cons_of_mem _ (List.mem_cons_of_mem _ (List.mem_cons_of_mem _ (List.mem_cons_of_mem _ (List.mem_cons_of_mem _ (List.mem_cons_of_mem _ (List.mem_cons_of_mem _ (List.mem_cons_of_mem _ (List.mem_cons_of_mem _ (List.mem_cons_of_mem _ (List.mem_cons_of_mem _ (List.mem_cons_of_mem _ (List.mem_cons_self))))))))))))))
  have B_fits : Binds K fd_fits ["kind", "deed", "arguments"] [] := (FunD.bindsN D_fits fun _ _ _ _ _ _ us hl => match us, hl with | [_, _, _], _ => rfl)
  have g_fits : mg "fits" = some (.ref (He.ga K "fits")) := (glo_of T X G (in_A (mem_fa "fits" _ (by decide +kernel))))
  obtain ⟨fd_do_deed, D_do_deed⟩ := def_of T (x := "do_deed") (i := 47) (List.mem_append_left _ (List.mem_cons_of_mem _ (List.mem_cons_of_mem _ (List.mem_cons_of_mem _ (List.mem_cons_of_mem _ (List.mem_cons_of_mem _ (List.mem_cons_of_mem _ (List.mem_cons_of_mem _ (List.mem_cons_of_mem _ (List.mem_cons_of_mem _ (List.mem_cons_of_mem _ (List.mem_cons_of_mem _ (List.mem_cons_of_mem _ (List.mem_cons_of_mem _ (List.mem_cons_self)))))))))))))))
  have B_do_deed : Binds K fd_do_deed ["kind", "state", "life", "deed", "arguments"] [] := (FunD.bindsN D_do_deed fun _ _ _ _ _ _ us hl => match us, hl with | [_, _, _, _, _], _ => rfl)
  have g_do_deed : mg "do_deed" = some (.ref (He.ga K "do_deed")) := (glo_of T X G (in_A (mem_fa "do_deed" _ (by decide +kernel))))
  obtain ⟨fd_touch, D_touch⟩ := def_of T (x := "touch") (i := 48) (List.mem_append_left _ (List.mem_cons_of_mem _ (List.mem_cons_of_mem _ (List.mem_cons_of_mem _ (List.mem_cons_of_mem _ (List.mem_cons_of_mem _ (List.mem_cons_of_mem _ (List.mem_cons_of_mem _ (List.mem_cons_of_mem _ (List.mem_cons_of_mem _ (List.mem_cons_of_mem _ (List.mem_cons_of_mem _ (List.mem_cons_of_mem _ (List.mem_cons_of_mem _ (List.mem_cons_of_mem _ (List.mem_cons_self))))))))))))))))
  have B_touch : Binds K fd_touch ["thing", "kind", "state", "number", "life", "deed", "arguments"] [] := (FunD.bindsN D_touch fun _ _ _ _ _ _ us hl => match us, hl with | [_, _, _, _, _, _, _], _ => rfl)
  have g_touch : mg "touch" = some (.ref (He.ga K "touch")) := (glo_of T X G (in_A (mem_fa "touch" _ (by decide +kernel))))
  obtain ⟨fd_row_place, D_row_place⟩ := def_of T (x := "row_place") (i := 50) (List.mem_append_left _ (List.mem_cons_of_mem _ (List.mem_cons_of_mem _ (List.mem_cons_of_mem _ (List.mem_cons_of_mem _ (List.mem_cons_of_mem _ (List.mem_cons_of_mem _ (List.mem_cons_of_mem _ (List.mem_cons_of_mem _ (List.mem_cons_of_mem _ (List.mem_cons_of_mem _ (List.mem_cons_of_mem _ (List.mem_cons_of_mem _ (List.mem_cons_of_mem _ (List.mem_cons_of_mem _ (List.mem_cons_of_mem _ (List.mem_cons_self)))))))))))))))))
  have B_row_place : Binds K fd_row_place ["row"] [] := (FunD.bindsN D_row_place fun _ _ _ _ _ _ us hl => match us, hl with | [_], _ => rfl)
  have g_row_place : mg "row_place" = some (.ref (He.ga K "row_place")) := (glo_of T X G (in_A (mem_fa "row_place" _ (by decide +kernel))))
  obtain ⟨fd_ordered_rows, D_ordered_rows⟩ := def_of T (x := "ordered_rows") (i := 51) (List.mem_append_left _ (List.mem_cons_of_mem _ (List.mem_cons_of_mem _ (List.mem_cons_of_mem _ (List.mem_cons_of_mem _ (List.mem_cons_of_mem _ (List.mem_cons_of_mem _ (List.mem_cons_of_mem _ (List.mem_cons_of_mem _ (List.mem_cons_of_mem _ (List.mem_cons_of_mem _ (List.mem_cons_of_mem _ (List.mem_cons_of_mem _ (List.mem_cons_of_mem _ (List.mem_cons_of_mem _ (List.mem_cons_of_mem _ (List.mem_cons_of_mem _ (List.mem_cons_self))))))))))))))))))
  have B_ordered_rows : Binds K fd_ordered_rows ["rows"] [] := (FunD.bindsN D_ordered_rows fun _ _ _ _ _ _ us hl => match us, hl with | [_], _ => rfl)
  have g_ordered_rows : mg "ordered_rows" = some (.ref (He.ga K "ordered_rows")) := (glo_of T X G (in_A (mem_fa "ordered_rows" _ (by decide +kernel))))
  obtain ⟨fd_replay_rows, D_replay_rows⟩ := def_of T (x := "replay_rows") (i := 52) (List.mem_append_left _ (List.mem_cons_of_mem _ (List.mem_cons_of_mem _ (List.mem_cons_of_mem _ (List.mem_cons_of_mem _ (List.mem_cons_of_mem _ (List.mem_cons_of_mem _ (List.mem_cons_of_mem _ (List.mem_cons_of_mem _ (List.mem_cons_of_mem _ (List.mem_cons_of_mem _ (List.mem_cons_of_mem _ (List.mem_cons_of_mem _ (List.mem_cons_of_mem _ (List.mem_cons_of_mem _ (List.mem_cons_of_mem _ (List.mem_cons_of_mem _ (List.mem_cons_of_mem _ (List.mem_cons_self)))))))))))))))))))
  have B_replay_rows : Binds K fd_replay_rows ["kind", "state", "rows"] [] := (FunD.bindsN D_replay_rows fun _ _ _ _ _ _ us hl => match us, hl with | [_, _, _], _ => rfl)
  have g_replay_rows : mg "replay_rows" = some (.ref (He.ga K "replay_rows")) := (glo_of T X G (in_A (mem_fa "replay_rows" _ (by decide +kernel))))
  obtain ⟨fd__law_cell, D__law_cell⟩ := def_of T (x := "_law_cell") (i := 54) (List.mem_append_right _ (List.mem_cons_self))
  have B__law_cell : Binds K fd__law_cell ["_law_script", "_law_k"] [] := (FunD.bindsN D__law_cell fun _ _ _ _ _ _ us hl => match us, hl with | [_, _], _ => rfl)
  have g__law_cell : mg "_law_cell" = some (.ref (He.ga K "_law_cell")) := (glo_of T X G (in_B (mem_fa "_law_cell" _ (by decide +kernel))))
  obtain ⟨fd__law_draws, D__law_draws⟩ := def_of T (x := "_law_draws") (i := 55) (List.mem_append_right _ (List.mem_cons_of_mem _ (List.mem_cons_self)))
  have B__law_draws : Binds K fd__law_draws ["_law_cell_here", "_law_many"] [] := (FunD.bindsN D__law_draws fun _ _ _ _ _ _ us hl => match us, hl with | [_, _], _ => rfl)
  have g__law_draws : mg "_law_draws" = some (.ref (He.ga K "_law_draws")) := (glo_of T X G (in_B (mem_fa "_law_draws" _ (by decide +kernel))))
  obtain ⟨fd__law_is_integer, D__law_is_integer⟩ := def_of T (x := "_law_is_integer") (i := 56) (List.mem_append_right _ (List.mem_cons_of_mem _ (List.mem_cons_of_mem _ (List.mem_cons_self))))
  have B__law_is_integer : Binds K fd__law_is_integer ["_law_value_here"] [] := (FunD.bindsN D__law_is_integer fun _ _ _ _ _ _ us hl => match us, hl with | [_], _ => rfl)
  have g__law_is_integer : mg "_law_is_integer" = some (.ref (He.ga K "_law_is_integer")) := (glo_of T X G (in_B (mem_fa "_law_is_integer" _ (by decide +kernel))))
  obtain ⟨fd__law_alike, D__law_alike⟩ := def_of T (x := "_law_alike") (i := 57) (List.mem_append_right _ (List.mem_cons_of_mem _ (List.mem_cons_of_mem _ (List.mem_cons_of_mem _ (List.mem_cons_self)))))
  have B__law_alike : Binds K fd__law_alike ["_law_told", "_law_due"] [] := (FunD.bindsN D__law_alike fun _ _ _ _ _ _ us hl => match us, hl with | [_, _], _ => rfl)
  have g__law_alike : mg "_law_alike" = some (.ref (He.ga K "_law_alike")) := (glo_of T X G (in_B (mem_fa "_law_alike" _ (by decide +kernel))))
  obtain ⟨fd__law_names, D__law_names⟩ := def_of T (x := "_law_names") (i := 58) (List.mem_append_right _ (List.mem_cons_of_mem _ (List.mem_cons_of_mem _ (List.mem_cons_of_mem _ (List.mem_cons_of_mem _ (List.mem_cons_self))))))
  have B__law_names : Binds K fd__law_names ["_law_draw", "_law_other"] [] := (FunD.bindsN D__law_names fun _ _ _ _ _ _ us hl => match us, hl with | [_, _], _ => rfl)
  have g__law_names : mg "_law_names" = some (.ref (He.ga K "_law_names")) := (glo_of T X G (in_B (mem_fa "_law_names" _ (by decide +kernel))))
  obtain ⟨fd__law_value, D__law_value⟩ := def_of T (x := "_law_value") (i := 59) (List.mem_append_right _ (List.mem_cons_of_mem _ (List.mem_cons_of_mem _ (List.mem_cons_of_mem _ (List.mem_cons_of_mem _ (List.mem_cons_of_mem _ (List.mem_cons_self)))))))
  have B__law_value : Binds K fd__law_value ["_law_names_here", "_law_draw", "_law_cell_here"] [] := (FunD.bindsN D__law_value fun _ _ _ _ _ _ us hl => match us, hl with | [_, _, _], _ => rfl)
  have g__law_value : mg "_law_value" = some (.ref (He.ga K "_law_value")) := (glo_of T X G (in_B (mem_fa "_law_value" _ (by decide +kernel))))
  obtain ⟨fd__law_shapes, D__law_shapes⟩ := def_of T (x := "_law_shapes") (i := 60) (List.mem_append_right _ (List.mem_cons_of_mem _ (List.mem_cons_of_mem _ (List.mem_cons_of_mem _ (List.mem_cons_of_mem _ (List.mem_cons_of_mem _ (List.mem_cons_of_mem _ (List.mem_cons_self))))))))
  have B__law_shapes : Binds K fd__law_shapes ["_law_kind"] [] := (FunD.bindsN D__law_shapes fun _ _ _ _ _ _ us hl => match us, hl with | [_], _ => rfl)
  have g__law_shapes : mg "_law_shapes" = some (.ref (He.ga K "_law_shapes")) := (glo_of T X G (in_B (mem_fa "_law_shapes" _ (by decide +kernel))))
  obtain ⟨fd__law_made, D__law_made⟩ := def_of T (x := "_law_made") (i := 61) (List.mem_append_right _ (List.mem_cons_of_mem _ (List.mem_cons_of_mem _ (List.mem_cons_of_mem _ (List.mem_cons_of_mem _ (List.mem_cons_of_mem _ (List.mem_cons_of_mem _ (List.mem_cons_of_mem _ (List.mem_cons_self)))))))))
  have B__law_made : Binds K fd__law_made ["_law_parts", "_law_names_here", "_law_draw", "_law_state", "_law_cell_here"] [] := (FunD.bindsN D__law_made fun _ _ _ _ _ _ us hl => match us, hl with | [_, _, _, _, _], _ => rfl)
  have g__law_made : mg "_law_made" = some (.ref (He.ga K "_law_made")) := (glo_of T X G (in_B (mem_fa "_law_made" _ (by decide +kernel))))
  obtain ⟨fd__law_states, D__law_states⟩ := def_of T (x := "_law_states") (i := 62) (List.mem_append_right _ (List.mem_cons_of_mem _ (List.mem_cons_of_mem _ (List.mem_cons_of_mem _ (List.mem_cons_of_mem _ (List.mem_cons_of_mem _ (List.mem_cons_of_mem _ (List.mem_cons_of_mem _ (List.mem_cons_of_mem _ (List.mem_cons_self))))))))))
  have B__law_states : Binds K fd__law_states ["_law_names_here", "_law_draws_here", "_law_cell_here"] [] := (FunD.bindsN D__law_states fun _ _ _ _ _ _ us hl => match us, hl with | [_, _, _], _ => rfl)
  have g__law_states : mg "_law_states" = some (.ref (He.ga K "_law_states")) := (glo_of T X G (in_B (mem_fa "_law_states" _ (by decide +kernel))))
  obtain ⟨fd__law_exchanged, D__law_exchanged⟩ := def_of T (x := "_law_exchanged") (i := 63) (List.mem_append_right _ (List.mem_cons_of_mem _ (List.mem_cons_of_mem _ (List.mem_cons_of_mem _ (List.mem_cons_of_mem _ (List.mem_cons_of_mem _ (List.mem_cons_of_mem _ (List.mem_cons_of_mem _ (List.mem_cons_of_mem _ (List.mem_cons_of_mem _ (List.mem_cons_self)))))))))))
  have B__law_exchanged : Binds K fd__law_exchanged ["_law_rows", "_law_draw"] [] := (FunD.bindsN D__law_exchanged fun _ _ _ _ _ _ us hl => match us, hl with | [_, _], _ => rfl)
  have g__law_exchanged : mg "_law_exchanged" = some (.ref (He.ga K "_law_exchanged")) := (glo_of T X G (in_B (mem_fa "_law_exchanged" _ (by decide +kernel))))
  obtain ⟨fd__law_ordered, D__law_ordered⟩ := def_of T (x := "_law_ordered") (i := 64) (List.mem_append_right _ (List.mem_cons_of_mem _ (List.mem_cons_of_mem _ (List.mem_cons_of_mem _ (List.mem_cons_of_mem _ (List.mem_cons_of_mem _ (List.mem_cons_of_mem _ (List.mem_cons_of_mem _ (List.mem_cons_of_mem _ (List.mem_cons_of_mem _ (List.mem_cons_of_mem _ (List.mem_cons_self))))))))))))
  have B__law_ordered : Binds K fd__law_ordered ["_law_rows"] [] := (FunD.bindsN D__law_ordered fun _ _ _ _ _ _ us hl => match us, hl with | [_], _ => rfl)
  have g__law_ordered : mg "_law_ordered" = some (.ref (He.ga K "_law_ordered")) := (glo_of T X G (in_B (mem_fa "_law_ordered" _ (by decide +kernel))))
  obtain ⟨fd__law_changed, D__law_changed⟩ := def_of T (x := "_law_changed") (i := 65) (List.mem_append_right _ (List.mem_cons_of_mem _ (List.mem_cons_of_mem _ (List.mem_cons_of_mem _ (List.mem_cons_of_mem _ (List.mem_cons_of_mem _ (List.mem_cons_of_mem _ (List.mem_cons_of_mem _ (List.mem_cons_of_mem _ (List.mem_cons_of_mem _ (List.mem_cons_of_mem _ (List.mem_cons_of_mem _ (List.mem_cons_self)))))))))))))
  have B__law_changed : Binds K fd__law_changed ["_law_row", "_law_draw"] [] := (FunD.bindsN D__law_changed fun _ _ _ _ _ _ us hl => match us, hl with | [_, _], _ => rfl)
  have g__law_changed : mg "_law_changed" = some (.ref (He.ga K "_law_changed")) := (glo_of T X G (in_B (mem_fa "_law_changed" _ (by decide +kernel))))
  obtain ⟨fd__law_refused, D__law_refused⟩ := def_of T (x := "_law_refused") (i := 66) (List.mem_append_right _ (List.mem_cons_of_mem _ (List.mem_cons_of_mem _ (List.mem_cons_of_mem _ (List.mem_cons_of_mem _ (List.mem_cons_of_mem _ (List.mem_cons_of_mem _ (List.mem_cons_of_mem _ (List.mem_cons_of_mem _ (List.mem_cons_of_mem _ (List.mem_cons_of_mem _ (List.mem_cons_of_mem _ (List.mem_cons_of_mem _ (List.mem_cons_self))))))))))))))
  have B__law_refused : Binds K fd__law_refused ["_law_kind", "_law_state", "_law_rows", "_law_number"] [] := (FunD.bindsN D__law_refused fun _ _ _ _ _ _ us hl => match us, hl with | [_, _, _, _], _ => rfl)
  have g__law_refused : mg "_law_refused" = some (.ref (He.ga K "_law_refused")) := (glo_of T X G (in_B (mem_fa "_law_refused" _ (by decide +kernel))))
  obtain ⟨fd__law_books, D__law_books⟩ := def_of T (x := "_law_books") (i := 67) (List.mem_append_right _ (List.mem_cons_of_mem _ (List.mem_cons_of_mem _ (List.mem_cons_of_mem _ (List.mem_cons_of_mem _ (List.mem_cons_of_mem _ (List.mem_cons_of_mem _ (List.mem_cons_of_mem _ (List.mem_cons_of_mem _ (List.mem_cons_of_mem _ (List.mem_cons_of_mem _ (List.mem_cons_of_mem _ (List.mem_cons_of_mem _ (List.mem_cons_of_mem _ (List.mem_cons_self)))))))))))))))
  have B__law_books : Binds K fd__law_books ["_law_kind", "_law_state", "_law_rows", "_law_other", "_law_due", "_law_last"] [] := (FunD.bindsN D__law_books fun _ _ _ _ _ _ us hl => match us, hl with | [_, _, _, _, _, _], _ => rfl)
  have g__law_books : mg "_law_books" = some (.ref (He.ga K "_law_books")) := (glo_of T X G (in_B (mem_fa "_law_books" _ (by decide +kernel))))
  obtain ⟨fd__law_made_rows, D__law_made_rows⟩ := def_of T (x := "_law_made_rows") (i := 68) (List.mem_append_right _ (List.mem_cons_of_mem _ (List.mem_cons_of_mem _ (List.mem_cons_of_mem _ (List.mem_cons_of_mem _ (List.mem_cons_of_mem _ (List.mem_cons_of_mem _ (List.mem_cons_of_mem _ (List.mem_cons_of_mem _ (List.mem_cons_of_mem _ (List.mem_cons_of_mem _ (List.mem_cons_of_mem _ (List.mem_cons_of_mem _ (List.mem_cons_of_mem _ (List.mem_cons_of_mem _ (List.mem_cons_self))))))))))))))))
  have B__law_made_rows : Binds K fd__law_made_rows ["_law_kind", "_law_state", "_law_names_here", "_law_cells"] [] := (FunD.bindsN D__law_made_rows fun _ _ _ _ _ _ us hl => match us, hl with | [_, _, _, _], _ => rfl)
  have g__law_made_rows : mg "_law_made_rows" = some (.ref (He.ga K "_law_made_rows")) := (glo_of T X G (in_B (mem_fa "_law_made_rows" _ (by decide +kernel))))
  obtain ⟨fd_law, D_law⟩ := def_of T (x := "law") (i := 69) (List.mem_append_right _ (List.mem_cons_of_mem _ (List.mem_cons_of_mem _ (List.mem_cons_of_mem _ (List.mem_cons_of_mem _ (List.mem_cons_of_mem _ (List.mem_cons_of_mem _ (List.mem_cons_of_mem _ (List.mem_cons_of_mem _ (List.mem_cons_of_mem _ (List.mem_cons_of_mem _ (List.mem_cons_of_mem _ (List.mem_cons_of_mem _ (List.mem_cons_of_mem _ (List.mem_cons_of_mem _ (List.mem_cons_of_mem _ (List.mem_cons_self)))))))))))))))))
  have B_law : Binds K fd_law ["_law_script"] [] := (FunD.bindsN D_law fun _ _ _ _ _ _ us hl => match us, hl with | [_], _ => rfl)
  have g_law : mg "law" = some (.ref (He.ga K "law")) := (glo_of T X G (in_B (mem_fa "law" _ (by decide +kernel))))
  have hx : NoX (L2N.CX prg w) := noX_N
  have h_is_number : FnD prg w K mg base (L2N.CX prg w) 1 "is_number" ["value"] numR := fnD_of D_is_number g_is_number (ok_num M D_is_number) B_is_number
  have h_units_of : FnD prg w K mg base (L2N.CX prg w) 1 "units_of" ["holders", "life"] unitsR := fnD_of D_units_of g_units_of (ok_units D_units_of) B_units_of
  have h_with_units : FnD prg w K mg base (L2N.CX prg w) 1 "with_units" ["holders", "life", "units"] wuR := fnD_of D_with_units g_with_units (ok_wu M D_with_units) B_with_units
  have h_seize_units : FnD prg w K mg base (L2N.CX prg w) 2 "seize_units" ["state", "life", "units"] seizeR := fnD_of D_seize_units g_seize_units (ok_seize M h_units_of h_with_units hx D_seize_units) B_seize_units
  have h_free_units : FnD prg w K mg base (L2N.CX prg w) 2 "free_units" ["state", "life", "units"] freeR := fnD_of D_free_units g_free_units (ok_free M h_units_of h_with_units hx D_free_units) B_free_units
  have h_is_argument : FnD prg w K mg base (L2N.CX prg w) 2 "is_argument" ["part", "value"] argR := fnD_of D_is_argument g_is_argument (ok_isarg M h_is_number hG rG hx D_is_argument) B_is_argument
  have h_fits : FnD prg w K mg base (L2N.CX prg w) 3 "fits" ["kind", "deed", "arguments"] fitsR := fnD_of D_fits g_fits (ok_fits M h_is_argument (tdict_of T X) (glo_of T X G (in_C (mem_fa "SHAPES" _ (by decide +kernel)))) hx D_fits) B_fits
  have va : ∀ {z y : Str}, (z, He.Dv.glo y) ∈ kindsT → PySem.W.nsIn K (He.ga K "ACTIONS") z = some (some (.ref (He.ga K y))) := fun {z y} hz => by
    obtain ⟨u, z1, z2⟩ := He.valsB_ok (f 6 rfl) hz
    have z3 : u = Value.ref (He.ga K y) := z2
    subst z3
    exact z1
  obtain ⟨esA, nA, hkA⟩ := T.t.tab 2 rfl
  have hAct : ATab prg w K mg base (L2N.CX prg w) 3 (He.ga K "ACTIONS") := ⟨⟨esA, nA, hkA⟩, (glo_of T X G (in_C (mem_fa "ACTIONS" _ (by decide +kernel)))), ⟨He.ga K "cell_deed", fd_cell_deed, va (z := "cell") (y := "cell_deed") (List.mem_cons_self), (ok_cell D_cell_deed).mono (by decide), D_cell_deed.kp, B_cell_deed⟩, ⟨He.ga K "cell_deed", fd_cell_deed, va (z := "mark") (y := "cell_deed") (List.mem_cons_of_mem _ (List.mem_cons_self)), (ok_cell D_cell_deed).mono (by decide), D_cell_deed.kp, B_cell_deed⟩, ⟨He.ga K "line_deed", fd_line_deed, va (z := "line") (y := "line_deed") (List.mem_cons_of_mem _ (List.mem_cons_of_mem _ (List.mem_cons_self))), (ok_line M hMV rMV D_line_deed).mono (by decide), D_line_deed.kp, B_line_deed⟩, ⟨He.ga K "store_deed", fd_store_deed, va (z := "store") (y := "store_deed") (List.mem_cons_of_mem _ (List.mem_cons_of_mem _ (List.mem_cons_of_mem _ (List.mem_cons_self)))), (ok_store (k := 2) M h_seize_units h_free_units hx D_store_deed).mono (by decide), D_store_deed.kp, B_store_deed⟩, ⟨He.ga K "gate_deed", fd_gate_deed, va (z := "gate") (y := "gate_deed") (List.mem_cons_of_mem _ (List.mem_cons_of_mem _ (List.mem_cons_of_mem _ (List.mem_cons_of_mem _ (List.mem_cons_self))))), (ok_gate M D_gate_deed).mono (by decide), D_gate_deed.kp, B_gate_deed⟩, ⟨He.ga K "wheel_deed", fd_wheel_deed, va (z := "wheel") (y := "wheel_deed") (List.mem_cons_of_mem _ (List.mem_cons_of_mem _ (List.mem_cons_of_mem _ (List.mem_cons_of_mem _ (List.mem_cons_of_mem _ (List.mem_cons_self)))))), (ok_wheel D_wheel_deed).mono (by decide), D_wheel_deed.kp, B_wheel_deed⟩, ⟨He.ga K "stand_deed", fd_stand_deed, va (z := "stand") (y := "stand_deed") (List.mem_cons_of_mem _ (List.mem_cons_of_mem _ (List.mem_cons_of_mem _ (List.mem_cons_of_mem _ (List.mem_cons_of_mem _ (List.mem_cons_of_mem _ (List.mem_cons_self))))))), (ok_stand M (stup_of (glo_of T X G (in_C (mem_fa "WORDS" _ (by decide +kernel)))) (f 0 rfl) (f 1 rfl)) (stup_of (glo_of T X G (in_C (mem_fa "WITH_ARGUMENTS" _ (by decide +kernel)))) (f 2 rfl) (f 3 rfl)) (stab_of T X G (j := 0) (glo_of T X G (in_C (mem_fa "ASKED" _ (by decide +kernel)))) rfl (f 4 rfl)) (stab_of T X G (j := 1) (glo_of T X G (in_C (mem_fa "LEFT" _ (by decide +kernel)))) rfl (f 5 rfl)) D_stand_deed).mono (by decide), D_stand_deed.kp, B_stand_deed⟩⟩
  have h_do_deed : FnD prg w K mg base (L2N.CX prg w) 4 "do_deed" ["kind", "state", "life", "deed", "arguments"] doR := fnD_of D_do_deed g_do_deed (ok_dodeed M h_fits hAct hx D_do_deed) B_do_deed
  have h_touch : FnD prg w K mg base (L2N.CX prg w) 5 "touch" ["thing", "kind", "state", "number", "life", "deed", "arguments"] touR := fnD_of D_touch g_touch (ok_touch h_do_deed hx D_touch) B_touch
  have BB := bbk_of T
  have hSu : mg "super" = none := (free_of T X G (in_fr (mem_fr "super" _ (by decide +kernel))))
  have hBB : mg "BadBook" = some (.ref (bbC K)) := (glo_of T X G (in_C (mem_fa "BadBook" _ (by decide +kernel))))
  have oR := ok_repl (base := base) (k := 4) M BB hSu hBB (h_fits.mono (by decide)) h_touch D_replay_rows
  have h_replay_rows : FnD prg w K mg base (L2N.CX prg w) 6 "replay_rows" ["kind", "state", "rows"] replR := fnD_of D_replay_rows g_replay_rows (fnX_F oR) B_replay_rows
  have h__law_cell : FnD prg w K mg base (L2N.CX prg w) 1 "_law_cell" ["_law_script", "_law_k"] cellR' := fnD_of D__law_cell g__law_cell (ok_lcell M D__law_cell) B__law_cell
  have h__law_draws : FnD prg w K mg base (L2N.CX prg w) 1 "_law_draws" ["_law_cell_here", "_law_many"] drawsR := fnD_of D__law_draws g__law_draws (ok_ldraws M D__law_draws) B__law_draws
  have h__law_is_integer : FnD prg w K mg base (L2N.CX prg w) 1 "_law_is_integer" ["_law_value_here"] numR := fnD_of D__law_is_integer g__law_is_integer (ok_lint M D__law_is_integer) B__law_is_integer
  have h__law_alike : FnD prg w K mg base (L2N.CX prg w) 5 "_law_alike" ["_law_told", "_law_due"] (alikeR 3) := ok_alike M h__law_is_integer hx D__law_alike g__law_alike B__law_alike 3
  have h__law_names : FnD prg w K mg base (L2N.CX prg w) 1 "_law_names" ["_law_draw", "_law_other"] namesR := fnD_of D__law_names g__law_names (ok_lnames M D__law_names) B__law_names
  have h__law_value : FnD prg w K mg base (L2N.CX prg w) 1 "_law_value" ["_law_names_here", "_law_draw", "_law_cell_here"] valueR := fnD_of D__law_value g__law_value (ok_lvalue M D__law_value) B__law_value
  have h__law_shapes : FnD prg w K mg base (L2N.CX prg w) 1 "_law_shapes" ["_law_kind"] lshapesR := fnD_of D__law_shapes g__law_shapes (ok_lshapes D__law_shapes) B__law_shapes
  have h__law_made : FnD prg w K mg base (L2N.CX prg w) 2 "_law_made" ["_law_parts", "_law_names_here", "_law_draw", "_law_state", "_law_cell_here"] madeR := fnD_of D__law_made g__law_made (ok_lmade M h__law_value hx D__law_made) B__law_made
  have h__law_states : FnD prg w K mg base (L2N.CX prg w) 2 "_law_states" ["_law_names_here", "_law_draws_here", "_law_cell_here"] statesR := fnD_of D__law_states g__law_states (ok_lstates M h__law_value hx D__law_states) B__law_states
  have h__law_exchanged : FnD prg w K mg base (L2N.CX prg w) 1 "_law_exchanged" ["_law_rows", "_law_draw"] exchR := fnD_of D__law_exchanged g__law_exchanged (ok_lexch (k := 0) M D__law_exchanged) B__law_exchanged
  have h__law_ordered : FnD prg w K mg base (L2N.CX prg w) 1 "_law_ordered" ["_law_rows"] orderedR := fnD_of D__law_ordered g__law_ordered (ok_lordered (k := 0) M D__law_ordered) B__law_ordered
  have h__law_changed : FnD prg w K mg base (L2N.CX prg w) 1 "_law_changed" ["_law_row", "_law_draw"] chR := fnD_of D__law_changed g__law_changed (ok_lchg (k := 0) M D__law_changed) B__law_changed
  have hIH : FnDH prg w K mg base (L2N.CX prg w) 1 "_law_is_integer" ["_law_value_here"] numR := fnDH_of D__law_is_integer g__law_is_integer (ok_lintH M D__law_is_integer) B__law_is_integer
  have hAH : FnDH prg w K mg base (L2N.CX prg w) 6 "_law_alike" ["_law_told", "_law_due"] alikeI := fnDH_of D__law_alike g__law_alike (fnH_mono (ok_alikeH (k := 1) M hIH hx D__law_alike) (by decide)) B__law_alike
  have h__law_refused : FnD prg w K mg base (L2N.CX prg w) 7 "_law_refused" ["_law_kind", "_law_state", "_law_rows", "_law_number"] refR := fnD_of D__law_refused g__law_refused (ok_lref (k := 6) M BB (errs_of T X G) hBB oR g_replay_rows D_replay_rows.kp B_replay_rows hAH D__law_refused) B__law_refused
  have oO := ok_ordrowsN (P := prg) (w := w) (base := base) (CX := (L2N.CX prg w)) (k := 5) M D_row_place B_row_place g_row_place D_ordered_rows
  have h__law_books : FnD prg w K mg base (L2N.CX prg w) 7 "_law_books" ["_law_kind", "_law_state", "_law_rows", "_law_other", "_law_due", "_law_last"] bookR := fnD_of D__law_books g__law_books (ok_lbook (k := 6) M oO g_ordered_rows D_ordered_rows.kp B_ordered_rows h_replay_rows (h__law_alike.mono (by decide)) hx D__law_books) B__law_books
  have h__law_made_rows : FnD prg w K mg base (L2N.CX prg w) 6 "_law_made_rows" ["_law_kind", "_law_state", "_law_names_here", "_law_cells"] mrR := fnD_of D__law_made_rows g__law_made_rows (ok_lmr (k := 5) M (h__law_draws.mono (by decide)) (h__law_shapes.mono (by decide)) (h__law_made.mono (by decide)) h_touch h__law_alike hx D__law_made_rows) B__law_made_rows
  exact ⟨fd_law, D_law, ok_law (k := 6) M BB hSu hBB (h__law_cell.mono (by decide)) (h__law_draws.mono (by decide)) (h__law_names.mono (by decide)) (h__law_states.mono (by decide)) (h__law_made_rows.mono (by decide)) (h__law_alike.mono (by decide)) (h__law_exchanged.mono (by decide)) (h__law_ordered.mono (by decide)) (h__law_books.mono (by decide)) (h__law_changed.mono (by decide)) (h__law_refused.mono (by decide)) HM D_law⟩

end
end K5
end PartHK3
section PartHK4
set_option maxRecDepth 100000
set_option maxHeartbeats 0
/-! The claim, over the mathematics. -/
namespace K5
open PySem PySem.Spec PyProof.Rows L2
def CXu : CXT := fun o H s E e s' => ∃ w : World, L2N.CX prg w o H s E e s'
theorem fn_u {w : World} {K : PySem.W.Frag} {mg : Str → Option Value} {base : Heap} {k : Nat} {f : Addr} {fd : FuncData} {ps : List Str} {sp : Sp} (F : FnOk prg w K mg base (L2N.CX prg w) k f fd ps sp) : FnOk prg w K mg base CXu k f fd ps sp :=
  ⟨F.len, fun A outer s H args us vs Q E hr h0 hb hv hs => codeAny_mono (F.run A outer s H args us vs Q E hr h0 hb hv hs) fun r s' h => by
    cases r with
    | ok x => cases x <;> exact h
    | error e => exact ⟨w, h⟩⟩
theorem fd_uni {K : PySem.W.Frag} {x : Str} {i : Nat} {f : Addr} {fd fd2 : FuncData} (D : FnP K x i f fd) (D2 : FnP K x i f fd2) : fd = fd2 := by
  obtain ⟨_, _, _, _, _, _, _, _, _, _, _, h1, _⟩ := D.ex
  obtain ⟨_, _, _, _, _, _, _, _, _, _, _, h2, _⟩ := D2.ex
  rw [h1] at h2
  cases h2
  rfl
theorem law_bool : ∀ (K : PySem.W.Frag) (H : Hp) (a : Addr) (ns : List Int), SqL K H a (ns.map V.int) → spF K lawR [.ref a] H (fun v _ => v = .bl true) (fun _ _ _ => False) := fun K H a ns h =>
  ⟨H, [scrD ns], .bool true, Same.refl H, .cons (.scr h) .nil, ⟨ns, rfl, rfl⟩, fun v B' H' g d => d.bl_⟩
end K5
namespace K5H
open PySem PySem.W PySem.Calls PyProof.Rows HandSHeadRun
theorem top_all (w : World) : TopAt R.prog qV looseN (fun s => xlAt qV [] s && recOk R.toRowW.records s) K5.hookK w :=
  byRow2 "special-get-raises" (P := fun w => TopAt R.prog qV looseN (fun s => xlAt qV [] s && recOk R.toRowW.records s) K5.hookK w)
    (fun w => top_gen obT_eq _ (shape_A0 w) (run_0 w)) (fun w => top_gen obT_eq _ (shape_A1 w) (run_1 w)) w
end K5H
open PySem PySem.W PySem.Calls PyProof.Rows L2
theorem K5.law_holds (HM : ∀ ns, ∃ st, K5.LawM ns st) : PySem.Challenge.rw_wokenlives_k55_whole_book_replay.Holds := by
  w_on; o_law
  refine K5H.holds6 (r := K5H.R) (q := K5H.qV) (Hk := K5.hookK) (loose := K5H.looseN) (d := HandSHeadRun.topDef K5H.R.prog 69)
    (by kernel_rfl) (fun s => by kernel_rfl) K5H.top_all (by kernel_rfl) (by kernel_rfl) (by kernel_rfl) (by rfl) (by first | assumption | decide +kernel) (by kernel_rfl) (by kernel_rfl) (by kernel_rfl) (by rfl) ⟨rfl, rfl, rfl, rfl, rfl, by decide +kernel⟩ ?hw ?hc
  case hw => w_witness2
  case hc =>
    refine L2.walk_ofE (l := PySem.Challenge.rw_wokenlives_k55_whole_book_replay) (n := 63) (k := 8) (x := "_law_script") (CX := K5.CXu) rfl (by decide) (by kernel_rfl) ⟨rfl, by decide, by decide⟩ ?F (fun _ _ _ _ ⟨_, z⟩ => K5.noX_N _ _ _ _ _ z)
    intro w mg fa h Y G hmg0
    obtain ⟨K, KX, c⟩ := Y
    have T := K5.told_of c
    have hmg : mg ("law" : PySem.Str) = some (.ref fa) := by
      have e : (HandSHeadRun.topDef K5H.R.prog 69).name = ("law" : PySem.Str) := by kernel_rfl
      rw [← e]
      exact hmg0
    obtain ⟨fd, D, _⟩ := K5.law_fn T KX G HM
    have e2 : He.ga K "law" = fa := by
      have z := K5.glo_of T KX G (x := "law") (K5.in_B (K5.mem_fa "law" _ (by decide +kernel)))
      rw [hmg] at z
      cases z
      rfl
    subst e2
    exact ⟨K, fd, K5.spF K K5.lawR, KX, (fun s v => (L2.FunD.bindsA (ps := ["_law_script"]) D fun _ _ _ _ _ _ us hl => match us, hl with | [_], _ => rfl) s [v] rfl), (fun H a ns hl _ hS => K5.law_bool K H a ns hS), fun base hb hn => by
      obtain ⟨fd2, D2, F2⟩ := K5.law_fn T hb hn HM
      have e : fd2 = fd := K5.fd_uni D2 D
      subst e
      exact K5.fn_u F2⟩
end PartHK4
theorem PySem.Challenge.cw_wokenlives_k55_whole_book_replay_holds : PySem.Challenge.rw_wokenlives_k55_whole_book_replay.Holds := by
  exact K5.law_holds K5.law_math
