import PyProof.Rows.All
import Wide.All
import OpenK.AllK
import Wide.FinOn
import HandS.ForMost
import HandS.IsInst
import HandS.Defaults
import HandS.Property
import HandS.ClsMeth
import HandS.NoneIn
import HandS.Style
import HandS.SetFor
import HandS.Strs
import HandS.OwnEq
import HandS.HeadHook1
import PySem.Challenge.RW_lanelots_k17_whole_facts_of_runs
import HandS.Head0
import HandS.Head1
import HandS.Head2
import HandS.HeadEnd
import HandS.HeadHook2
import KE.KStateDown
set_option Elab.async false
set_option linter.all false
set_option maxRecDepth 100000
set_option maxHeartbeats 2000000
namespace Dl
open PySem PySem.Spec PyProof.Rows L2

/-! ### heaps that grow: G the part that is known, H the whole -/
structure Grow (M : Addr → Prop) (G H G' H' : Hp) : Prop where
  g : Same G G'
  h : ∀ a o, ¬ M a → H a = some o → H' a = some o
  t : ∀ a, H a ≠ none → H' a ≠ none
  s : Same G' H'
  n : ∀ a, H a ≠ none → G' a = G a
abbrev NoM : Addr → Prop := fun _ => False
abbrev Gr (G H G' H' : Hp) : Prop := Grow NoM G H G' H'
theorem Grow.refl {M : Addr → Prop} {G H : Hp} (s : Same G H) : Grow M G H G H := ⟨Same.refl _, fun _ _ _ e => e, fun _ e => e, s, fun _ _ => rfl⟩
theorem Grow.trans {M : Addr → Prop} {G H G1 H1 G2 H2 : Hp} (a : Grow M G H G1 H1) (b : Grow M G1 H1 G2 H2) : Grow M G H G2 H2 :=
  ⟨a.g.trans b.g, fun c o m e => b.h c o m (a.h c o m e), fun c e => b.t c (a.t c e), b.s, fun c e => (b.n c (a.t c e)).trans (a.n c e)⟩
theorem Grow.mono {M M' : Addr → Prop} {G H G1 H1 : Hp} (a : Grow M G H G1 H1) (h : ∀ b, M b → M' b) : Grow M' G H G1 H1 :=
  ⟨a.g, fun c o m e => a.h c o (fun z => m (h c z)) e, a.t, a.s, a.n⟩
theorem Grow.wide {M : Addr → Prop} {G H G1 H1 : Hp} (a : Gr G H G1 H1) : Grow M G H G1 H1 := a.mono fun _ z => z.elim
theorem Grow.hs {G H G' H' : Hp} (a : Gr G H G' H') : Same H H' := fun b o e => a.h b o (fun z => z) e
theorem Grow.gh {M : Addr → Prop} {G H G' H' : Hp} (a : Grow M G H G' H') : Same G H' := a.g.trans a.s
/-- what was unknown in the heap stays out of the known part -/
theorem Grow.out {M : Addr → Prop} {G H G' H' : Hp} {p : Addr} {o : HO} (a : Grow M G H G' H') (hp : H p = some o) (gp : G p = none) : G' p = none := by
  rw [a.n p (by rw [hp]; exact fun z => nomatch z)]
  exact gp
theorem same_new {H : Hp} {p : Addr} {o : HO} (h : H p = none) : Same H (upd H p o) := fun b x e => by
  rw [upd_ne (ne_of_none e h)]
  exact e
theorem Same.none {H H' : Hp} (e : Same H H') {p : Addr} (h : H' p = none) : H p = none := e.free h
/-- a new object, known from now on -/
theorem Gr.new {G H : Hp} {p : Addr} {o : HO} (s : Same G H) (h : H p = none) : Gr G H (upd G p o) (upd H p o) := by
  have gp : G p = none := s.free h
  refine ⟨same_new gp, fun a u _ e => same_new h a u e, fun a e z => ?_, fun a u e => ?_, fun a e => ?_⟩
  · cases q : H a with
    | none => exact e q
    | some u => rw [same_new h a u q] at z; cases z
  · by_cases q : a = p
    · subst q; rw [upd_same] at e ⊢; exact e
    · rw [upd_ne q] at e ⊢; exact s a u e
  · exact upd_ne fun q => e (by rw [q]; exact h)
/-- a new object that stays out of the known part (it is to be changed) -/
theorem Gr.newOut {G H : Hp} {p : Addr} {o : HO} (s : Same G H) (h : H p = none) : Gr G H G (upd H p o) :=
  ⟨Same.refl _, fun a u _ e => same_new h a u e, fun a e z => (by
    cases q : H a with
    | none => exact e q
    | some u =>
      rw [same_new h a u q] at z
      cases z), s.trans (same_new h), fun _ _ => rfl⟩
/-- what is in the heap and out of the known part is taken in -/
theorem Gr.take {G H G' H' : Hp} {p : Addr} {o : HO} (a : Gr G H G' H') (h : H p = none) (hp : H' p = some o) (gp : G' p = none) : Gr G H (upd G' p o) H' :=
  ⟨a.g.trans (same_new gp), a.h, a.t, fun b u e => by
    by_cases q : b = p
    · subst q; rw [upd_same] at e; rw [hp]; exact e
    · rw [upd_ne q] at e; exact a.s b u e, fun b e => by rw [upd_ne fun q => e (by rw [q]; exact h)]; exact a.n b e⟩

/-! ### what a value is, over the known part -/
structure RV where
  r : Hp → V → Prop
  m : ∀ {G G' : Hp} {v : V}, Same G G' → r G v → r G' v
theorem Paired.imp {α β : Type} {F F' : α → β → Prop} (h : ∀ a b, F a b → F' a b) : ∀ {l : List α} {m : List β}, Paired F l m → Paired F' l m
  | _, _, .nil => .nil
  | _, _, .cons a t => .cons (h _ _ a) (Paired.imp h t)
abbrev PVs (G : Hp) (Rs : List RV) (vs : List V) : Prop := Paired (fun (R : RV) v => R.r G v) Rs vs
theorem PVs.mono {G G' : Hp} (s : Same G G') {Rs : List RV} {vs : List V} (h : PVs G Rs vs) : PVs G' Rs vs := Paired.imp (fun R _ z => R.m s z) h
theorem PVs.len {G : Hp} {Rs : List RV} {vs : List V} (h : PVs G Rs vs) : Rs.length = vs.length := Paired.length h
theorem PVs.get {G : Hp} : ∀ {Rs : List RV} {vs : List V} {i : Nat} {R : RV}, PVs G Rs vs → Rs[i]? = some R → ∃ v, vs[i]? = some v ∧ R.r G v
  | _, _, _, _, .nil, e => by simp at e
  | _, _, 0, _, .cons r _, e => by simp at e; subst e; exact ⟨_, rfl, r⟩
  | _, _, i + 1, R, .cons _ t, e => by
    obtain ⟨u, h1, h2⟩ := PVs.get (i := i) (R := R) t (by simpa using e)
    exact ⟨u, by simpa using h1, h2⟩
theorem PVs.back {G : Hp} : ∀ {Rs : List RV} {vs : List V} {i : Nat} {v : V}, PVs G Rs vs → vs[i]? = some v → ∃ R, Rs[i]? = some R ∧ R.r G v
  | _, _, _, _, .nil, e => by simp at e
  | _, _, 0, _, .cons r _, e => by simp at e; subst e; exact ⟨_, rfl, r⟩
  | _, _, i + 1, R, .cons _ t, e => by
    obtain ⟨u, h1, h2⟩ := PVs.back (i := i) (v := R) t (by simpa using e)
    exact ⟨u, by simpa using h1, h2⟩
theorem PVs.app {G : Hp} : ∀ {Rs Rs' : List RV} {vs vs' : List V}, PVs G Rs vs → PVs G Rs' vs' → PVs G (Rs ++ Rs') (vs ++ vs')
  | _, _, _, _, .nil, h => h
  | _, _, _, _, .cons r t, h => .cons r (PVs.app t h)
theorem PVs.set {G : Hp} {R : RV} {v : V} (r : R.r G v) : ∀ {Rs : List RV} {vs : List V} (i : Nat), PVs G Rs vs → PVs G (Rs.set i R) (vs.set i v)
  | _, _, _, .nil => .nil
  | _, _, 0, .cons _ t => .cons r t
  | _, _, i + 1, .cons q t => .cons q (PVs.set r i t)

def rInt (P : Int → Prop) : RV := ⟨fun _ v => ∃ i, v = .int i ∧ P i, fun _ h => h⟩
def rBool (P : Bool → Prop) : RV := ⟨fun _ v => ∃ b, v = .bl b ∧ P b, fun _ h => h⟩
def rStr (P : Str → Prop) : RV := ⟨fun _ v => ∃ b, v = .str b ∧ P b, fun _ h => h⟩
abbrev iI (n : Int) : RV := rInt fun i => i = n
abbrev iB (b : Bool) : RV := rBool fun c => c = b
abbrev iS (z : Str) : RV := rStr fun c => c = z
def iN : RV := ⟨fun _ v => v = .non, fun _ h => h⟩
/-- one of several, told by what is true of it -/
def rX {α : Type} (P : α → Prop) (R : α → RV) : RV := ⟨fun G v => ∃ x, P x ∧ (R x).r G v, fun s ⟨x, p, h⟩ => ⟨x, p, (R x).m s h⟩⟩
def rLst (K : PySem.W.Frag) (Rs : List RV) : RV := ⟨fun G v => ∃ a vs, v = .ref a ∧ SqL K G a vs ∧ PVs G Rs vs, fun s ⟨a, vs, e, q, p⟩ => ⟨a, vs, e, s.seq q, p.mono s⟩⟩
theorem Same.tup {K : PySem.W.Frag} {H H' : Hp} {a : Addr} {xs : List V} (e : Same H H') (h : SqT K H a xs) : SqT K H' a xs := by
  rcases h with (h | ⟨o, h⟩) | h
  · exact .inl (.inl (e _ _ h))
  · exact .inl (.inr ⟨o, e _ _ h⟩)
  · exact .inr h
def rTup (K : PySem.W.Frag) (Rs : List RV) : RV := ⟨fun G v => ∃ a vs, v = .ref a ∧ SqT K G a vs ∧ PVs G Rs vs, fun s ⟨a, vs, e, q, p⟩ => ⟨a, vs, e, Same.tup s q, p.mono s⟩⟩
/-- R below R' -/
def RV.le (R R' : RV) : Prop := ∀ G v, R.r G v → R'.r G v

/-! ### slots -/
/-- what an object of one's own is, over the known part -/
structure OV where
  r : Hp → Addr → HO → Prop
  m : ∀ {G G' : Hp} {a : Addr} {o : HO}, Same G G' → r G a o → r G' a o
/-- a list, at an address that is so -/
def oT (t : Addr → Prop) (Rs : List RV) : OV := ⟨fun G a o => t a ∧ ∃ vs, o = .lst vs ∧ PVs G Rs vs, fun s ⟨ta, vs, e, p⟩ => ⟨ta, vs, e, p.mono s⟩⟩
abbrev oL (Rs : List RV) : OV := oT (fun _ => True) Rs
/-- .. the very object at p -/
def tie (p : Addr) (O : OV) : OV := ⟨fun G a o => a = p ∧ O.r G a o, fun s ⟨e, h⟩ => ⟨e, O.m s h⟩⟩
inductive Ent where
  | no
  | val (R : RV)
  | mu (O : OV)
abbrev Ent.own (Rs : List RV) : Ent := .mu (oL Rs)
structure Sat (sl : List Ent) (σ : L2.St) (G H : Hp) : Prop where
  sub : Same G H
  val : ∀ (i : Nat) R, sl[i]? = some (.val R) → ∃ v, σ[i]? = some (some v) ∧ R.r G v
  mu : ∀ (i : Nat) O, sl[i]? = some (.mu O) → ∃ p o, σ[i]? = some (some (.ref p)) ∧ H p = some o ∧ G p = none ∧ O.r G p o
  dis : ∀ (i j : Nat) O O', i ≠ j → sl[i]? = some (.mu O) → sl[j]? = some (.mu O') → σ[i]? ≠ σ[j]?
  len : sl.length = σ.length
theorem Sat.own {sl : List Ent} {σ : L2.St} {G H : Hp} (a : Sat sl σ G H) (i : Nat) {t : Addr → Prop} (Rs : List RV) (e : sl[i]? = some (.mu (oT t Rs))) : ∃ p vs, σ[i]? = some (some (.ref p)) ∧ H p = some (.lst vs) ∧ G p = none ∧ PVs G Rs vs := by
  obtain ⟨p, o, h1, h2, h3, _, vs, rfl, h4⟩ := a.mu i _ e
  exact ⟨p, vs, h1, h2, h3, h4⟩
theorem Sat.gr {sl : List Ent} {σ : L2.St} {G H G' H' : Hp} (a : Sat sl σ G H) (g : Gr G H G' H') : Sat sl σ G' H' where
  sub := g.s
  val := fun i R e => let ⟨v, h1, h2⟩ := a.val i R e; ⟨v, h1, R.m g.g h2⟩
  mu := fun i O e => let ⟨p, o, h1, h2, h3, h4⟩ := a.mu i O e; ⟨p, o, h1, g.hs _ _ h2, g.out h2 h3, O.m g.g h4⟩
  dis := a.dis
  len := a.len

/-! ### expressions -/
section
variable {X : Cx} {sl : List Ent}
def Ev (X : Cx) (e : Expr) (sl : List Ent) (R : RV) : Prop := ∀ (pins : List (Addr × Obj)) (s : Shared) (σ : L2.St) (G H : Hp) (Q : VK), Inv X pins σ H s → Sat sl σ G H → (∀ v G' H', Gr G H G' H' → R.r G' v → Q v H') →
  wpAny (model X.prog X.w) X.A (eval e X.env) (EP X pins σ Q) X.xe s
def can (X : Cx) (e : Expr) : TE := fun σ H Q => ∀ (pins : List (Addr × Obj)) (s : Shared), Inv X pins σ H s → wpAny (model X.prog X.w) X.A (eval e X.env) (EP X pins σ Q) X.xe s
theorem pcan {e : Expr} : PE X e (can X e) := ⟨fun pins s _ _ _ I h => h pins s I⟩
theorem Ev.can {e : Expr} {R : RV} {σ : L2.St} {G H : Hp} {Q : VK} (h : Ev X e sl R) (a : Sat sl σ G H) (k : ∀ v G' H', Gr G H G' H' → R.r G' v → Q v H') : can X e σ H Q := fun pins s I => h pins s σ G H Q I a k
theorem ev_of {e : Expr} {t : TE} {R : RV} (h : PE X e t) (r : ∀ σ G H Q, Sat sl σ G H → (∀ v G' H', Gr G H G' H' → R.r G' v → Q v H') → t σ H Q) : Ev X e sl R :=
  fun pins s σ G H Q I a k => h.run pins s σ H Q I (r σ G H Q a k)
theorem Ev.imp {e : Expr} {R R' : RV} (h : Ev X e sl R) (l : R.le R') : Ev X e sl R' := fun pins s σ G H Q I a k => h pins s σ G H Q I a fun v G' H' g r => k v G' H' g (l G' v r)
theorem le_int {P P' : Int → Prop} (h : ∀ z, P z → P' z) : (rInt P).le (rInt P') := fun _ _ ⟨i, e, p⟩ => ⟨i, e, h i p⟩
theorem le_bool {P P' : Bool → Prop} (h : ∀ z, P z → P' z) : (rBool P).le (rBool P') := fun _ _ ⟨i, e, p⟩ => ⟨i, e, h i p⟩
theorem le_x {α : Type} {P P' : α → Prop} {R : α → RV} (h : ∀ z, P z → P' z) : (rX P R).le (rX P' R) := fun _ _ ⟨i, p, e⟩ => ⟨i, h i p, e⟩
theorem le_xi {P : Int → Prop} : (rInt P).le (rX P iI) := fun _ _ ⟨i, e, p⟩ => ⟨i, p, i, e, rfl⟩
theorem le_xs {P : Str → Prop} : (rStr P).le (rX P iS) := fun _ _ ⟨i, e, p⟩ => ⟨i, p, i, e, rfl⟩
theorem le_xb {P : Bool → Prop} : (rBool P).le (rX P iB) := fun _ _ ⟨i, e, p⟩ => ⟨i, p, i, e, rfl⟩
theorem le_in {α : Type} {P : α → Prop} {R : α → RV} {x : α} (h : P x) : (R x).le (rX P R) := fun _ _ r => ⟨x, h, r⟩
theorem Ev.int {e : Expr} {P P' : Int → Prop} (h : Ev X e sl (rInt P)) (l : ∀ z, P z → P' z) : Ev X e sl (rInt P') := h.imp (le_int l)
theorem Ev.bool {e : Expr} {P P' : Bool → Prop} (h : Ev X e sl (rBool P)) (l : ∀ z, P z → P' z) : Ev X e sl (rBool P') := h.imp (le_bool l)
theorem Ev.toI {e : Expr} {n m : Int} (h : Ev X e sl (iI n)) (l : n = m) : Ev X e sl (iI m) := l ▸ h
theorem Ev.toB {e : Expr} {n m : Bool} (h : Ev X e sl (iB n)) (l : n = m) : Ev X e sl (iB m) := l ▸ h

/-- arguments -/
def EvA (X : Cx) (es : List Expr) (sl : List Ent) (Rs : List RV) : Prop := ∀ (pos : Pos) (pins : List (Addr × Obj)) (s : Shared) (σ : L2.St) (G H : Hp) (Q : List V → Hp → Prop), Inv X pins σ H s → Sat sl σ G H →
  (∀ vs G' H', Gr G H G' H' → PVs G' Rs vs → Q vs H') → wpAny (model X.prog X.w) X.A (spliced (backTo pos (starEach es X.env))) (AP X pins σ Q) X.xe s
def canA (X : Cx) (es : List Expr) : TA := fun σ H Q => ∀ (pos : Pos) (pins : List (Addr × Obj)) (s : Shared), Inv X pins σ H s → wpAny (model X.prog X.w) X.A (spliced (backTo pos (starEach es X.env))) (AP X pins σ Q) X.xe s
theorem pcanA {es : List Expr} : PA X es (canA X es) := ⟨fun pos pins s _ _ _ I h => h pos pins s I⟩
theorem EvA.can {es : List Expr} {Rs : List RV} {σ : L2.St} {G H : Hp} {Q : List V → Hp → Prop} (h : EvA X es sl Rs) (a : Sat sl σ G H) (k : ∀ vs G' H', Gr G H G' H' → PVs G' Rs vs → Q vs H') : canA X es σ H Q := fun pos pins s I => h pos pins s σ G H Q I a k
theorem a_nil : EvA X [] sl [] := fun pos pins s σ G H Q I a k => (pa_nil (X := X)).run pos pins s σ H Q I (k [] G H (.refl a.sub) .nil)
theorem a_cons {e : Expr} {es : List Expr} {R : RV} {Rs : List RV} (h : Ev X e sl R) (hs : EvA X es sl Rs) (he : starEach (e :: es) X.env = (false, eval e X.env) :: starEach es X.env := by rfl) : EvA X (e :: es) sl (R :: Rs) :=
  fun pos pins s σ G H Q I a k => (pa_cons (hs := he) (pcan (X := X) (e := e)) (pcanA (es := es))).run pos pins s σ H Q I
    (h.can a fun v G1 H1 g1 r1 => hs.can (a.gr g1) fun vs G2 H2 g2 r2 => k (v :: vs) G2 H2 (g1.trans g2) (.cons (R.m g2.g r1) r2))

/-- tests -/
def EvT (X : Cx) (e : Expr) (sl : List Ent) (P : Bool → Prop) : Prop := ∀ (pins : List (Addr × Obj)) (s : Shared) (σ : L2.St) (G H : Hp) (Q : Bool → Hp → Prop), Inv X pins σ H s → Sat sl σ G H →
  (∀ b G' H', Gr G H G' H' → P b → Q b H') → wpAny (model X.prog X.w) X.A (isTrue e X.env (eval e X.env)) (TP X pins σ Q) X.xe s
def canT (X : Cx) (e : Expr) : TT := fun σ H Q => ∀ (pins : List (Addr × Obj)) (s : Shared), Inv X pins σ H s → wpAny (model X.prog X.w) X.A (isTrue e X.env (eval e X.env)) (TP X pins σ Q) X.xe s
theorem pcanT {e : Expr} : PT X e (canT X e) := ⟨fun pins s _ _ _ I h => h pins s I⟩
theorem EvT.can {e : Expr} {P : Bool → Prop} {σ : L2.St} {G H : Hp} {Q : Bool → Hp → Prop} (h : EvT X e sl P) (a : Sat sl σ G H) (k : ∀ b G' H', Gr G H G' H' → P b → Q b H') : canT X e σ H Q := fun pins s I => h pins s σ G H Q I a k
theorem evT_of {e : Expr} {t : TT} {P : Bool → Prop} (h : PT X e t) (r : ∀ σ G H Q, Sat sl σ G H → (∀ b G' H', Gr G H G' H' → P b → Q b H') → t σ H Q) : EvT X e sl P :=
  fun pins s σ G H Q I a k => h.run pins s σ H Q I (r σ G H Q a k)
theorem EvT.imp {e : Expr} {P P' : Bool → Prop} (h : EvT X e sl P) (l : ∀ b, P b → P' b) : EvT X e sl P' := fun pins s σ G H Q I a k => h pins s σ G H Q I a fun v G' H' g r => k v G' H' g (l v r)
/-- and, or: whatever the whole is -/
def EvW (X : Cx) (e : Expr) (sl : List Ent) (P : Bool → Prop) : Prop := ∀ (whole : Sem Value) (pins : List (Addr × Obj)) (s : Shared) (σ : L2.St) (G H : Hp) (Q : Bool → Hp → Prop), Inv X pins σ H s → Sat sl σ G H →
  (∀ b G' H', Gr G H G' H' → P b → Q b H') → wpAny (model X.prog X.w) X.A (isTrue e X.env whole) (TP X pins σ Q) X.xe s
def canW (X : Cx) (e : Expr) : TT := fun σ H Q => ∀ (whole : Sem Value) (pins : List (Addr × Obj)) (s : Shared), Inv X pins σ H s → wpAny (model X.prog X.w) X.A (isTrue e X.env whole) (TP X pins σ Q) X.xe s
theorem pcanW {e : Expr} : PW X e (canW X e) := ⟨fun wh pins s _ _ _ I h => h wh pins s I⟩
theorem EvW.can {e : Expr} {P : Bool → Prop} {σ : L2.St} {G H : Hp} {Q : Bool → Hp → Prop} (h : EvW X e sl P) (a : Sat sl σ G H) (k : ∀ b G' H', Gr G H G' H' → P b → Q b H') : canW X e σ H Q := fun wh pins s I => h wh pins s σ G H Q I a k
theorem evW_of {e : Expr} {t : TT} {P : Bool → Prop} (h : PW X e t) (r : ∀ σ G H Q, Sat sl σ G H → (∀ b G' H', Gr G H G' H' → P b → Q b H') → t σ H Q) : EvW X e sl P :=
  fun wh pins s σ G H Q I a k => h.run wh pins s σ H Q I (r σ G H Q a k)
theorem EvW.t {e : Expr} {P : Bool → Prop} (h : EvW X e sl P) : EvT X e sl P := fun pins s σ G H Q I a k => h _ pins s σ G H Q I a k
variable {a b c : Expr} {rest : List Expr} {P P' : Bool → Prop} {pos : Pos}
theorem t_and1 (h : EvT X a sl P) : EvW X (.BoolOp .And [a] pos) sl P := evW_of (pw_and1 pcanT) fun σ G H Q z k => h.can z k
theorem t_or1 (h : EvT X a sl P) : EvW X (.BoolOp .Or [a] pos) sl P := evW_of (pw_or1 pcanT) fun σ G H Q z k => h.can z k
theorem t_and (h : EvT X a sl P) (h' : P true → EvW X (.BoolOp .And (b :: rest) pos) sl P') : EvW X (.BoolOp .And (a :: b :: rest) pos) sl (fun z => (P true ∧ P' z) ∨ (P false ∧ z = false)) :=
  evW_of (pw_and pcanT pcanW) fun σ G H Q z k => h.can z fun d G1 H1 g1 p1 => by
    cases d with
    | true => exact iteT ((h' p1).can (z.gr g1) fun d2 G2 H2 g2 p2 => k d2 G2 H2 (g1.trans g2) (.inl ⟨p1, p2⟩))
    | false => exact iteF (k false G1 H1 g1 (.inr ⟨p1, rfl⟩))
theorem t_or (h : EvT X a sl P) (h' : P false → EvW X (.BoolOp .Or (b :: rest) pos) sl P') : EvW X (.BoolOp .Or (a :: b :: rest) pos) sl (fun z => (P false ∧ P' z) ∨ (P true ∧ z = true)) :=
  evW_of (pw_or pcanT pcanW) fun σ G H Q z k => h.can z fun d G1 H1 g1 p1 => by
    cases d with
    | false => exact iteF ((h' p1).can (z.gr g1) fun d2 G2 H2 g2 p2 => k d2 G2 H2 (g1.trans g2) (.inl ⟨p1, p2⟩))
    | true => exact iteT (k true G1 H1 g1 (.inr ⟨p1, rfl⟩))
theorem t_not (h : EvT X a sl P) : EvT X (.UnaryOp .Not a pos) sl (fun z => P (!z)) := evT_of (pt_not pcanT) fun σ G H Q z k => h.can z fun d G1 H1 g1 p1 => k (!d) G1 H1 g1 (by rw [Bool.not_not]; exact p1)
theorem t_val (h : Ev X a sl (rBool P)) (he : ∀ whole, isTrue a X.env whole = (do let v ← whole; standAt a.pos; holding [v] (truthy v)) := by intro _; rfl) : EvT X a sl P :=
  evT_of (pt_val pcan he) fun σ G H Q z k => h.can z fun v G1 H1 g1 ⟨d, e, p⟩ => ⟨d, e, k d G1 H1 g1 p⟩
/-- values -/
theorem e_one {op} {R : RV} (h : Ev X a sl R) : Ev X (.BoolOp op [a] pos) sl R := ev_of (pe_one pcan) fun σ G H Q z k => h.can z k
theorem e_and (h : Ev X a sl (rBool P)) (h' : P true → Ev X (.BoolOp .And (b :: rest) pos) sl (rBool P')) : Ev X (.BoolOp .And (a :: b :: rest) pos) sl (rBool fun z => (P true ∧ P' z) ∨ (P false ∧ z = false)) :=
  ev_of (pe_and pcan pcan) fun σ G H Q z k => h.can z fun v G1 H1 g1 ⟨d, e, p1⟩ => ⟨d, e, by
    cases d with
    | true => exact iteT ((h' p1).can (z.gr g1) fun d2 G2 H2 g2 ⟨d3, e3, p2⟩ => k d2 G2 H2 (g1.trans g2) ⟨d3, e3, .inl ⟨p1, p2⟩⟩)
    | false => exact iteF (k _ G1 H1 g1 ⟨false, rfl, .inr ⟨p1, rfl⟩⟩)⟩
theorem e_or (h : Ev X a sl (rBool P)) (h' : P false → Ev X (.BoolOp .Or (b :: rest) pos) sl (rBool P')) : Ev X (.BoolOp .Or (a :: b :: rest) pos) sl (rBool fun z => (P false ∧ P' z) ∨ (P true ∧ z = true)) :=
  ev_of (pe_or pcan pcan) fun σ G H Q z k => h.can z fun v G1 H1 g1 ⟨d, e, p1⟩ => ⟨d, e, by
    cases d with
    | false => exact iteF ((h' p1).can (z.gr g1) fun d2 G2 H2 g2 ⟨d3, e3, p2⟩ => k d2 G2 H2 (g1.trans g2) ⟨d3, e3, .inl ⟨p1, p2⟩⟩)
    | true => exact iteT (k _ G1 H1 g1 ⟨true, rfl, .inr ⟨p1, rfl⟩⟩)⟩
theorem e_not (h : Ev X a sl (rBool P)) : Ev X (.UnaryOp .Not a pos) sl (rBool fun z => P (!z)) := ev_of (pe_not pcan) fun σ G H Q z k => h.can z fun v G1 H1 g1 ⟨d, e, p1⟩ => ⟨d, e, k _ G1 H1 g1 ⟨!d, rfl, by show P (!!d); rw [Bool.not_not]; exact p1⟩⟩
theorem e_if {R : RV} (h : EvT X c sl P) (h1 : P true → Ev X a sl R) (h2 : P false → Ev X b sl R) : Ev X (.IfExp c a b pos) sl R :=
  ev_of (pe_ifExp pcanT pcan pcan) fun σ G H Q z k => h.can z fun d G1 H1 g1 p1 => by
    cases d with
    | true => exact iteT ((h1 p1).can (z.gr g1) fun v G2 H2 g2 r => k v G2 H2 (g1.trans g2) r)
    | false => exact iteF ((h2 p1).can (z.gr g1) fun v G2 H2 g2 r => k v G2 H2 (g1.trans g2) r)
/-- names, constants -/
theorem e_var (i : Nat) {x : Str} {R : RV} (h : sl[i]? = some (.val R) := by rfl) (hN : X.N[i]? = some x := by rfl) (hv : Vis X.env.scope x := by first | exact Or.inl rfl | exact Or.inr (Or.inl rfl) | exact Or.inr (Or.inr rfl)) (hd : (x == ("__debug__" : Str)) = false := by decide)
    (hcd : (x == ("__classdict__" : Str)) = false := by decide) : Ev X (.Name x pos) sl R := ev_of (pe_var hN hv hd hcd) fun σ G H Q z k => by
  obtain ⟨v, e, r⟩ := z.val i R h
  exact ⟨v, e, k v G H (.refl z.sub) r⟩
theorem e_int {i : Int} {j} : Ev X (.Constant (.int i) j pos) sl (iI i) := ev_of pe_int fun σ G H Q z k => k _ G H (.refl z.sub) ⟨i, rfl, rfl⟩
theorem e_bl {i : Bool} {j} : Ev X (.Constant (.bool i) j pos) sl (iB i) := ev_of pe_bl fun σ G H Q z k => k _ G H (.refl z.sub) ⟨i, rfl, rfl⟩
theorem e_str {i : Str} {j} : Ev X (.Constant (.str i) j pos) sl (iS i) := ev_of pe_str fun σ G H Q z k => k _ G H (.refl z.sub) ⟨i, rfl, rfl⟩
theorem e_non {j} : Ev X (.Constant .none j pos) sl iN := ev_of pe_non fun σ G H Q z k => k _ G H (.refl z.sub) rfl
theorem e_glob {x : Str} {v : V} {u : Value} {R : RV} (hm : X.mg x = some u) (r : RelV v u) (hR : ∀ G, R.r G v) (hg : Gl X x := by rfl) (hd : (x == ("__debug__" : Str)) = false := by decide) : Ev X (.Name x pos) sl R :=
  ev_of (pe_glob hg hm r hd) fun σ G H Q z k => k _ G H (.refl z.sub) (hR G)
/-- two places -/
theorem e_bin {op : Operator} {r : R2} {Ra Rb R : RV} (ho : OpR X (binaryOp op) r) (ha : Ev X a sl Ra) (hb : Ev X b sl Rb)
    (hr : ∀ x y G H Q, Same G H → Ra.r G x → Rb.r G y → (∀ v G' H', Gr G H G' H' → R.r G' v → Q v H') → r x y H Q) : Ev X (.BinOp a op b pos) sl R :=
  ev_of (pe_op ho pcan pcan) fun σ G H Q z k => ha.can z fun x G1 H1 g1 rx => hb.can (z.gr g1) fun y G2 H2 g2 ry => hr x y G2 H2 Q g2.s (Ra.m g2.g rx) ry fun v G' H' g rv => k v G' H' ((g1.trans g2).trans g) rv
theorem e_cmp {op : CmpOp} {r : R2} {Ra Rb R : RV} (ho : OpR X (compareOp op) r) (hm : behindInMarks op b = false) (ha : Ev X a sl Ra) (hb : Ev X b sl Rb)
    (hr : ∀ x y G H Q, Same G H → Ra.r G x → Rb.r G y → (∀ v G' H', Gr G H G' H' → R.r G' v → Q v H') → r x y H Q) : Ev X (.Compare a [op] [b] pos) sl R :=
  ev_of (pe_cmpR ho pcan pcan hm) fun σ G H Q z k => ha.can z fun x G1 H1 g1 rx => hb.can (z.gr g1) fun y G2 H2 g2 ry => hr x y G2 H2 Q g2.s (Ra.m g2.g rx) ry fun v G' H' g rv => k v G' H' ((g1.trans g2).trans g) rv
theorem t_cmp {op : CmpOp} {r : R2} {Ra Rb : RV} (ho : OpR X (compareOp op) r) (hm : behindInMarks op b = false) (ha : Ev X a sl Ra) (hb : Ev X b sl Rb)
    (hr : ∀ x y G H Q, Same G H → Ra.r G x → Rb.r G y → (∀ v G' H', Gr G H G' H' → (rBool P).r G' v → Q v H') → r x y H Q) : EvT X (.Compare a [op] [b] pos) sl P :=
  evT_of (pt_cmpR ho pcan pcan hm) fun σ G H Q z k => ha.can z fun x G1 H1 g1 rx => hb.can (z.gr g1) fun y G2 H2 g2 ry => hr x y G2 H2 _ g2.s (Ra.m g2.g rx) ry fun v G' H' g ⟨d, e, p⟩ => ⟨d, e, k d G' H' ((g1.trans g2).trans g) p⟩
variable {A B C : Int → Prop}
theorem ri0 {g : Int → Int → Int} (h : ∀ x y, A x → B y → C (g x y)) : ∀ x y G H (Q : VK), Same G H → (rInt A).r G x → (rInt B).r G y → (∀ v G' H', Gr G H G' H' → (rInt C).r G' v → Q v H') → rI0 (fun i j => .int (g i j)) x y H Q :=
  fun _ _ G H Q s ⟨i, e, p⟩ ⟨j, e', p'⟩ k => ⟨i, j, e, e', k _ G H (.refl s) ⟨_, rfl, h i j p p'⟩⟩
theorem ri {c : Int → Int → Prop} {g : Int → Int → Int} (h : ∀ x y, A x → B y → c x y ∧ C (g x y)) : ∀ x y G H (Q : VK), Same G H → (rInt A).r G x → (rInt B).r G y → (∀ v G' H', Gr G H G' H' → (rInt C).r G' v → Q v H') → rI c (fun i j => .int (g i j)) x y H Q :=
  fun _ _ G H Q s ⟨i, e, p⟩ ⟨j, e', p'⟩ k => ⟨i, j, e, e', (h i j p p').1, k _ G H (.refl s) ⟨_, rfl, (h i j p p').2⟩⟩
theorem rb0 {g : Int → Int → Bool} (h : ∀ x y, A x → B y → P (g x y)) : ∀ x y G H (Q : VK), Same G H → (rInt A).r G x → (rInt B).r G y → (∀ v G' H', Gr G H G' H' → (rBool P).r G' v → Q v H') → rI0 (fun i j => .bl (g i j)) x y H Q :=
  fun _ _ G H Q s ⟨i, e, p⟩ ⟨j, e', p'⟩ k => ⟨i, j, e, e', k _ G H (.refl s) ⟨_, rfl, h i j p p'⟩⟩
theorem e_addP (ha : Ev X a sl (rInt A)) (hb : Ev X b sl (rInt B)) (h : ∀ x y, A x → B y → C (x + y)) : Ev X (.BinOp a .Add b pos) sl (rInt C) := e_bin op_add ha hb (ri0 h)
theorem e_subP (ha : Ev X a sl (rInt A)) (hb : Ev X b sl (rInt B)) (h : ∀ x y, A x → B y → C (x - y)) : Ev X (.BinOp a .Sub b pos) sl (rInt C) := e_bin op_sub ha hb (ri0 h)
theorem e_mulP (ha : Ev X a sl (rInt A)) (hb : Ev X b sl (rInt B)) (h : ∀ x y, A x → B y → CMul x y ∧ C (x * y)) : Ev X (.BinOp a .Mult b pos) sl (rInt C) := e_bin op_mul ha hb (ri h)
theorem e_modP (ha : Ev X a sl (rInt A)) (hb : Ev X b sl (rInt B)) (h : ∀ x y, A x → B y → 0 < y ∧ C (x % y)) : Ev X (.BinOp a .Mod b pos) sl (rInt C) := e_bin op_mod ha hb (ri h)
theorem e_divP (ha : Ev X a sl (rInt A)) (hb : Ev X b sl (rInt B)) (h : ∀ x y, A x → B y → CDiv x y ∧ C (x / y)) : Ev X (.BinOp a .FloorDiv b pos) sl (rInt C) := e_bin op_fdiv ha hb (ri h)
theorem e_powP (ha : Ev X a sl (rInt A)) (hb : Ev X b sl (rInt B)) (h : ∀ x y, A x → B y → CPow x y ∧ C (x ^ y.toNat)) : Ev X (.BinOp a .Pow b pos) sl (rInt C) := e_bin op_pow ha hb (ri h)
theorem e_negP (ha : Ev X a sl (rInt A)) (h : ∀ x, A x → C (-x)) : Ev X (.UnaryOp .USub a pos) sl (rInt C) := ev_of (pe_un un_neg pcan) fun σ G H Q z k => ha.can z fun x G1 H1 g1 ⟨i, e, p⟩ => ⟨i, e, k _ G1 H1 g1 ⟨_, rfl, h i p⟩⟩
theorem e_ltP (ha : Ev X a sl (rInt A)) (hb : Ev X b sl (rInt B)) (h : ∀ x y, A x → B y → P (decide (x < y))) : Ev X (.Compare a [.Lt] [b] pos) sl (rBool P) := e_cmp op_lt (nomark _) ha hb (rb0 h)
theorem e_leP (ha : Ev X a sl (rInt A)) (hb : Ev X b sl (rInt B)) (h : ∀ x y, A x → B y → P (decide (x ≤ y))) : Ev X (.Compare a [.LtE] [b] pos) sl (rBool P) := e_cmp op_le (nomark _) ha hb (rb0 h)
theorem e_gtP (ha : Ev X a sl (rInt A)) (hb : Ev X b sl (rInt B)) (h : ∀ x y, A x → B y → P (decide (y < x))) : Ev X (.Compare a [.Gt] [b] pos) sl (rBool P) := e_cmp op_gt (nomark _) ha hb (rb0 h)
theorem e_geP (ha : Ev X a sl (rInt A)) (hb : Ev X b sl (rInt B)) (h : ∀ x y, A x → B y → P (decide (y ≤ x))) : Ev X (.Compare a [.GtE] [b] pos) sl (rBool P) := e_cmp op_ge (nomark _) ha hb (rb0 h)
theorem t_ltP (ha : Ev X a sl (rInt A)) (hb : Ev X b sl (rInt B)) (h : ∀ x y, A x → B y → P (decide (x < y))) : EvT X (.Compare a [.Lt] [b] pos) sl P := t_cmp op_lt (nomark _) ha hb (rb0 h)
theorem t_leP (ha : Ev X a sl (rInt A)) (hb : Ev X b sl (rInt B)) (h : ∀ x y, A x → B y → P (decide (x ≤ y))) : EvT X (.Compare a [.LtE] [b] pos) sl P := t_cmp op_le (nomark _) ha hb (rb0 h)
theorem t_gtP (ha : Ev X a sl (rInt A)) (hb : Ev X b sl (rInt B)) (h : ∀ x y, A x → B y → P (decide (y < x))) : EvT X (.Compare a [.Gt] [b] pos) sl P := t_cmp op_gt (nomark _) ha hb (rb0 h)
theorem t_geP (ha : Ev X a sl (rInt A)) (hb : Ev X b sl (rInt B)) (h : ∀ x y, A x → B y → P (decide (y ≤ x))) : EvT X (.Compare a [.GtE] [b] pos) sl P := t_cmp op_ge (nomark _) ha hb (rb0 h)
theorem rEqI (h : ∀ x y, A x → B y → P (decide (x = y))) : ∀ x y G H (Q : VK), Same G H → (rInt A).r G x → (rInt B).r G y → (∀ v G' H', Gr G H G' H' → (rBool P).r G' v → Q v H') → rEq x y H Q := by
  rintro _ _ G H Q s ⟨i, rfl, p⟩ ⟨j, rfl, p'⟩ k
  refine ⟨rfl, k _ G H (.refl s) ⟨_, rfl, ?_⟩⟩
  have e : decide (V.int i = V.int j) = decide (i = j) := by
    by_cases q : i = j
    · subst q; rw [decide_eq_true rfl, decide_eq_true rfl]
    · rw [decide_eq_false q, decide_eq_false fun z => q (V.int.inj z)]
  rw [e]
  exact h i j p p'
theorem rNeI (h : ∀ x y, A x → B y → P (!decide (x = y))) : ∀ x y G H (Q : VK), Same G H → (rInt A).r G x → (rInt B).r G y → (∀ v G' H', Gr G H G' H' → (rBool P).r G' v → Q v H') → rNe x y H Q := by
  rintro _ _ G H Q s ⟨i, rfl, p⟩ ⟨j, rfl, p'⟩ k
  refine ⟨rfl, k _ G H (.refl s) ⟨_, rfl, ?_⟩⟩
  have e : decide (V.int i = V.int j) = decide (i = j) := by
    by_cases q : i = j
    · subst q; rw [decide_eq_true rfl, decide_eq_true rfl]
    · rw [decide_eq_false q, decide_eq_false fun z => q (V.int.inj z)]
  rw [e]
  exact h i j p p'
variable {A' B' : Str → Prop}
theorem rEqS (h : ∀ x y, A' x → B' y → P (decide (x = y))) : ∀ x y G H (Q : VK), Same G H → (rStr A').r G x → (rStr B').r G y → (∀ v G' H', Gr G H G' H' → (rBool P).r G' v → Q v H') → rEq x y H Q := by
  rintro _ _ G H Q s ⟨i, rfl, p⟩ ⟨j, rfl, p'⟩ k
  refine ⟨rfl, k _ G H (.refl s) ⟨_, rfl, ?_⟩⟩
  have e : decide (V.str i = V.str j) = decide (i = j) := by
    by_cases q : i = j
    · subst q; rw [decide_eq_true rfl, decide_eq_true rfl]
    · rw [decide_eq_false q, decide_eq_false fun z => q (V.str.inj z)]
  rw [e]
  exact h i j p p'
theorem rNeS (h : ∀ x y, A' x → B' y → P (!decide (x = y))) : ∀ x y G H (Q : VK), Same G H → (rStr A').r G x → (rStr B').r G y → (∀ v G' H', Gr G H G' H' → (rBool P).r G' v → Q v H') → rNe x y H Q := by
  rintro _ _ G H Q s ⟨i, rfl, p⟩ ⟨j, rfl, p'⟩ k
  refine ⟨rfl, k _ G H (.refl s) ⟨_, rfl, ?_⟩⟩
  have e : decide (V.str i = V.str j) = decide (i = j) := by
    by_cases q : i = j
    · subst q; rw [decide_eq_true rfl, decide_eq_true rfl]
    · rw [decide_eq_false q, decide_eq_false fun z => q (V.str.inj z)]
  rw [e]
  exact h i j p p'
theorem e_eqI (ha : Ev X a sl (rInt A)) (hb : Ev X b sl (rInt B)) (h : ∀ x y, A x → B y → P (decide (x = y))) : Ev X (.Compare a [.Eq] [b] pos) sl (rBool P) := e_cmp op_eq (nomark _) ha hb (rEqI h)
theorem t_eqI (ha : Ev X a sl (rInt A)) (hb : Ev X b sl (rInt B)) (h : ∀ x y, A x → B y → P (decide (x = y))) : EvT X (.Compare a [.Eq] [b] pos) sl P := t_cmp op_eq (nomark _) ha hb (rEqI h)
theorem e_neI (ha : Ev X a sl (rInt A)) (hb : Ev X b sl (rInt B)) (h : ∀ x y, A x → B y → P (!decide (x = y))) : Ev X (.Compare a [.NotEq] [b] pos) sl (rBool P) := e_cmp op_ne (nomark _) ha hb (rNeI h)
theorem t_neI (ha : Ev X a sl (rInt A)) (hb : Ev X b sl (rInt B)) (h : ∀ x y, A x → B y → P (!decide (x = y))) : EvT X (.Compare a [.NotEq] [b] pos) sl P := t_cmp op_ne (nomark _) ha hb (rNeI h)
theorem e_eqS (ha : Ev X a sl (rStr A')) (hb : Ev X b sl (rStr B')) (h : ∀ x y, A' x → B' y → P (decide (x = y))) : Ev X (.Compare a [.Eq] [b] pos) sl (rBool P) := e_cmp op_eq (nomark _) ha hb (rEqS h)
theorem t_eqS (ha : Ev X a sl (rStr A')) (hb : Ev X b sl (rStr B')) (h : ∀ x y, A' x → B' y → P (decide (x = y))) : EvT X (.Compare a [.Eq] [b] pos) sl P := t_cmp op_eq (nomark _) ha hb (rEqS h)
theorem e_neS (ha : Ev X a sl (rStr A')) (hb : Ev X b sl (rStr B')) (h : ∀ x y, A' x → B' y → P (!decide (x = y))) : Ev X (.Compare a [.NotEq] [b] pos) sl (rBool P) := e_cmp op_ne (nomark _) ha hb (rNeS h)
theorem t_neS (ha : Ev X a sl (rStr A')) (hb : Ev X b sl (rStr B')) (h : ∀ x y, A' x → B' y → P (!decide (x = y))) : EvT X (.Compare a [.NotEq] [b] pos) sl P := t_cmp op_ne (nomark _) ha hb (rNeS h)
end
end Dl

set_option maxHeartbeats 2000000
namespace Dl
open PySem PySem.Spec PyProof.Rows L2

/-! ### results: a value, a new list that is nobody else's, one of several -/
inductive Res : Type 1 where
  | v (R : RV)
  | l (Rs : List RV)
  | m (O : OV)
  | x {α : Type} (P : α → Prop) (f : α → Res)
def Post (G H : Hp) (Q : VK) : Res → Prop
  | .v R => ∀ v G' H', Gr G H G' H' → R.r G' v → Q v H'
  | .l Rs => ∀ p vs G' H', Gr G H G' H' → H p = none → G' p = none → H' p = some (.lst vs) → PVs G' Rs vs → Q (.ref p) H'
  | .m O => ∀ p o G' H', Gr G H G' H' → H p = none → G' p = none → H' p = some o → O.r G' p o → Q (.ref p) H'
  | .x P f => ∀ x, P x → Post G H Q (f x)
theorem Post.gr {G H G1 H1 : Hp} {Q : VK} (g : Gr G H G1 H1) : ∀ {r : Res}, Post G H Q r → Post G1 H1 Q r
  | .v _, h => fun v G' H' g' r => h v G' H' (g.trans g') r
  | .l _, h => fun p vs G' H' g' n1 n2 e r => h p vs G' H' (g.trans g') (g.hs.free n1) n2 e r
  | .m _, h => fun p vs G' H' g' n1 n2 e r => h p vs G' H' (g.trans g') (g.hs.free n1) n2 e r
  | .x _ f, h => fun x p => Post.gr g (h x p)
theorem Post.imp {G H : Hp} {Q Q' : VK} (q : ∀ v H', Q v H' → Q' v H') : ∀ {r : Res}, Post G H Q r → Post G H Q' r
  | .v _, h => fun v G' H' g' r => q _ _ (h v G' H' g' r)
  | .l _, h => fun p vs G' H' g' n1 n2 e r => q _ _ (h p vs G' H' g' n1 n2 e r)
  | .m _, h => fun p vs G' H' g' n1 n2 e r => q _ _ (h p vs G' H' g' n1 n2 e r)
  | .x _ f, h => fun x p => Post.imp q (h x p)
section
variable {X : Cx} {sl : List Ent}
def EvR (X : Cx) (e : Expr) (sl : List Ent) (r : Res) : Prop := ∀ (pins : List (Addr × Obj)) (s : Shared) (σ : L2.St) (G H : Hp) (Q : VK), Inv X pins σ H s → Sat sl σ G H → Post G H Q r →
  wpAny (model X.prog X.w) X.A (eval e X.env) (EP X pins σ Q) X.xe s
theorem EvR.can {e : Expr} {r : Res} {σ : L2.St} {G H : Hp} {Q : VK} (h : EvR X e sl r) (a : Sat sl σ G H) (k : Post G H Q r) : can X e σ H Q := fun pins s I => h pins s σ G H Q I a k
theorem evR_of {e : Expr} {t : TE} {R : Res} (h : PE X e t) (r : ∀ σ G H Q, Sat sl σ G H → Post G H Q R → t σ H Q) : EvR X e sl R :=
  fun pins s σ G H Q I a k => h.run pins s σ H Q I (r σ G H Q a k)
theorem Ev.r {e : Expr} {R : RV} (h : Ev X e sl R) : EvR X e sl (.v R) := h
theorem EvR.v {e : Expr} {R : RV} (h : EvR X e sl (.v R)) : Ev X e sl R := h
/-- a new list as a value -/
theorem EvR.lst {e : Expr} {Rs : List RV} (h : EvR X e sl (.l Rs)) : Ev X e sl (rLst X.K Rs) := fun pins s σ G H Q I a k => h pins s σ G H Q I a fun p vs G' H' g n1 n2 e r =>
  k _ _ _ (Gr.take g n1 e n2) ⟨p, vs, rfl, SqL.of upd_same, r.mono (same_new n2)⟩
/-- one of several as a value -/
theorem EvR.x {e : Expr} {α : Type} {P : α → Prop} {R : α → RV} (h : EvR X e sl (.x P fun x => .v (R x))) : Ev X e sl (rX P R) := fun pins s σ G H Q I a k => h pins s σ G H Q I a fun x p v G' H' g r => k v G' H' g ⟨x, p, r⟩
theorem Ev.ofX {e : Expr} {α : Type} {P : α → Prop} {R : α → RV} (h : Ev X e sl (rX P R)) : EvR X e sl (.x P fun x => .v (R x)) := fun pins s σ G H Q I a k => h pins s σ G H Q I a fun v G' H' g ⟨x, p, r⟩ => k x p v G' H' g r
theorem EvR.xl {e : Expr} {α : Type} {P : α → Prop} {Rs : α → List RV} (h : EvR X e sl (.x P fun x => .l (Rs x))) : Ev X e sl (rX P fun x => rLst X.K (Rs x)) := fun pins s σ G H Q I a k => h pins s σ G H Q I a fun x px p vs G' H' g n1 n2 e r =>
  k _ _ _ (Gr.take g n1 e n2) ⟨x, px, p, vs, rfl, SqL.of upd_same, r.mono (same_new n2)⟩
end

/-! ### defs -/
structure Fn (α : Type) where
  ps : List Str
  args : α → List RV
  pre : α → Prop
  res : α → Res
def Fn.sp {α : Type} (F : Fn α) : Sp := fun vs H Q _ => ∃ x G, Same G H ∧ PVs G (F.args x) vs ∧ F.pre x ∧ Post G H Q (F.res x)
structure Has (P : Program) (w : World) (K : PySem.W.Frag) (mg : Str → Option Value) (base : Heap) (k : Nat) (x : Str) {α : Type} (F : Fn α) : Prop where
  ex : ∃ f fd, mg x = some (.ref f) ∧ PySem.W.keepIn K (.ref f) = true ∧ Binds K fd F.ps [] ∧ FnOk P w K mg base CX0 k f fd F.ps F.sp
section
variable {X : Cx} {sl : List Ent} {k : Nat} {x : Str} {α : Type} {F : Fn α} {p pos : Pos} {e : Expr} {es : List Expr}
theorem e_call (h : Has X.prog X.w X.K X.mg X.base k x F) (hr : Room k X.A) (z : α) (ha : EvA X (e :: es) sl (F.args z)) (hp : F.pre z) (hg : Gl X x := by rfl) (hdb : (x == ("__debug__" : Str)) = false := by decide)
    (he : starEach (e :: es) X.env = (false, eval e X.env) :: starEach es X.env := by rfl) (hpl : (backTo pos (starEach es X.env)).any (·.1) = false := by rfl) : EvR X (.Call (.Name x p) (e :: es) [] pos) sl (F.res z) := by
  obtain ⟨f, fd, hm, hk, hb, ok⟩ := h.ex
  refine evR_of (pe_call ok hr hg hm hk hb .nil pass0 pcanA hdb he hpl) fun σ G H Q a q => ?_
  refine ha.can a fun vs G' H' g r => ?_
  refine ⟨z, G', g.s, ?_, hp, q.gr g⟩
  rw [List.append_nil]
  exact r
theorem e_call0 (h : Has X.prog X.w X.K X.mg X.base k x F) (hr : Room k X.A) (z : α) (ha : F.args z = []) (hp : F.pre z) (hg : Gl X x := by rfl) (hdb : (x == ("__debug__" : Str)) = false := by decide) : EvR X (.Call (.Name x p) [] [] pos) sl (F.res z) := by
  obtain ⟨f, fd, hm, hk, hb, ok⟩ := h.ex
  refine evR_of (pe_call0 ok hr hg hm hk hb .nil pass0 hdb) fun σ G H Q a q => ?_
  exact ⟨z, G, a.sub, by rw [ha]; exact .nil, hp, q⟩
end

/-! ### statements -/
structure Base where
  G : Hp
  H : Hp
  M : Addr → Prop
structure At (B : Base) (L : Hp) (sl : List Ent) (σ : L2.St) (G H : Hp) : Prop where
  sat : Sat sl σ G H
  gr : Grow B.M B.G B.H G H
  lo : Same L G
  ow : ∀ (i : Nat) O p, sl[i]? = some (.mu O) → σ[i]? = some (some (.ref p)) → B.M p ∨ B.H p = none
theorem At.go {B : Base} {L : Hp} {sl : List Ent} {σ : L2.St} {G H G' H' : Hp} (a : At B L sl σ G H) (g : Gr G H G' H') : At B L sl σ G' H' := ⟨a.sat.gr g, a.gr.trans g.wide, a.lo.trans g.g, a.ow⟩
theorem At.down {B : Base} {L L' : Hp} {sl : List Ent} {σ : L2.St} {G H : Hp} (a : At B L sl σ G H) (h : Same L' L) : At B L' sl σ G H := ⟨a.sat, a.gr, h.trans a.lo, a.ow⟩
theorem getElem?_set_cases {α : Type} {l : List α} {i j : Nat} {x y : α} (h : (l.set i x)[j]? = some y) : (j = i ∧ y = x) ∨ (j ≠ i ∧ l[j]? = some y) := by
  by_cases e : j = i
  · subst e
    rw [List.getElem?_set] at h
    split at h
    · split at h
      · exact .inl ⟨rfl, (Option.some.inj h).symm⟩
      · cases h
    · rename_i q; exact absurd rfl q
  · rw [List.getElem?_set_ne (Ne.symm e)] at h
    exact .inr ⟨e, h⟩
theorem Sat.set {sl : List Ent} {σ : L2.St} {G H : Hp} (a : Sat sl σ G H) (i : Nat) {R : RV} {v : V} (r : R.r G v) : Sat (sl.set i (.val R)) (σ.set i (some v)) G H where
  sub := a.sub
  val := fun j R' e => by
    rcases getElem?_set_cases e with ⟨rfl, e2⟩ | ⟨ne, e2⟩
    · cases e2
      have hl : j < sl.length := by
        have := (List.getElem?_eq_some_iff.mp e).1
        rw [List.length_set] at this
        exact this
      exact ⟨v, by rw [List.getElem?_set_self (by rw [← a.len]; exact hl)], r⟩
    · obtain ⟨u, h1, h2⟩ := a.val j R' e2
      exact ⟨u, by rw [List.getElem?_set_ne (Ne.symm ne)]; exact h1, h2⟩
  mu := fun j Rs e => by
    rcases getElem?_set_cases e with ⟨rfl, e2⟩ | ⟨ne, e2⟩
    · cases e2
    · obtain ⟨p, vs, h1, h2⟩ := a.mu j Rs e2
      exact ⟨p, vs, by rw [List.getElem?_set_ne (Ne.symm ne)]; exact h1, h2⟩
  dis := fun j l Rs Rs' ne e1 e2 => by
    rcases getElem?_set_cases e1 with ⟨_, q⟩ | ⟨n1, q1⟩
    · cases q
    · rcases getElem?_set_cases e2 with ⟨_, q⟩ | ⟨n2, q2⟩
      · cases q
      · rw [List.getElem?_set_ne (Ne.symm n1), List.getElem?_set_ne (Ne.symm n2)]
        exact a.dis j l Rs Rs' ne q1 q2
  len := by rw [List.length_set, List.length_set]; exact a.len
theorem At.set {B : Base} {L : Hp} {sl : List Ent} {σ : L2.St} {G H : Hp} (a : At B L sl σ G H) (i : Nat) {R : RV} {v : V} (r : R.r G v) : At B L (sl.set i (.val R)) (σ.set i (some v)) G H :=
  ⟨a.sat.set i r, a.gr, a.lo, fun j Rs p e1 e2 => by
    rcases getElem?_set_cases e1 with ⟨_, q⟩ | ⟨n1, q1⟩
    · cases q
    · rw [List.getElem?_set_ne (Ne.symm n1)] at e2
      exact a.ow j Rs p q1 e2⟩
/-- a new list of one's own in a slot -/
theorem At.setMut {B : Base} {L : Hp} {sl : List Ent} {σ : L2.St} {G H G' H' : Hp} (a : At B L sl σ G H) (g : Gr G H G' H') (i : Nat) {O : OV} {p : Addr} {o : HO} (n1 : H p = none) (n2 : G' p = none) (e : H' p = some o) (r : O.r G' p o) :
    At B L (sl.set i (.mu O)) (σ.set i (some (.ref p))) G' H' := by
  have b := a.go g
  have hb : B.H p = none := by
    cases q : B.H p with
    | none => rfl
    | some o => exact absurd n1 (a.gr.t p (by rw [q]; exact fun z => nomatch z))
  have npo : ∀ (j : Nat) Rs', sl[j]? = some (.mu Rs') → σ[j]? ≠ some (some (.ref p)) := fun j Rs' ej z => by
    obtain ⟨q, ws, h1, h2, _⟩ := a.sat.mu j Rs' ej
    rw [h1] at z
    cases z
    rw [n1] at h2
    cases h2
  refine ⟨⟨b.sat.sub, fun j R ej => ?_, fun j Rs' ej => ?_, fun j l Rs1 Rs2 ne e1 e2 => ?_, by rw [List.length_set, List.length_set]; exact a.sat.len⟩, b.gr, b.lo, fun j Rs' q ej eq => ?_⟩
  · rcases getElem?_set_cases ej with ⟨_, z⟩ | ⟨n, z⟩
    · cases z
    · obtain ⟨u, h1, h2⟩ := b.sat.val j R z
      exact ⟨u, by rw [List.getElem?_set_ne (Ne.symm n)]; exact h1, h2⟩
  · rcases getElem?_set_cases ej with ⟨rfl, z⟩ | ⟨n, z⟩
    · cases z
      have hl : j < sl.length := by
        have := (List.getElem?_eq_some_iff.mp ej).1
        rw [List.length_set] at this
        exact this
      exact ⟨p, o, by rw [List.getElem?_set_self (by rw [← a.sat.len]; exact hl)], e, n2, r⟩
    · obtain ⟨q, ws, h1, h2⟩ := b.sat.mu j Rs' z
      exact ⟨q, ws, by rw [List.getElem?_set_ne (Ne.symm n)]; exact h1, h2⟩
  · rcases getElem?_set_cases e1 with ⟨rfl, z1⟩ | ⟨n1', z1⟩
    · rcases getElem?_set_cases e2 with ⟨rfl, z2⟩ | ⟨n2', z2⟩
      · exact absurd rfl ne
      · have hl : j < σ.length := by
          have := (List.getElem?_eq_some_iff.mp e1).1
          rw [List.length_set, a.sat.len] at this
          exact this
        rw [List.getElem?_set_self hl, List.getElem?_set_ne (Ne.symm n2')]
        exact fun z => npo l Rs2 z2 z.symm
    · rcases getElem?_set_cases e2 with ⟨rfl, z2⟩ | ⟨n2', z2⟩
      · have hl : l < σ.length := by
          have := (List.getElem?_eq_some_iff.mp e2).1
          rw [List.length_set, a.sat.len] at this
          exact this
        rw [List.getElem?_set_self hl, List.getElem?_set_ne (Ne.symm n1')]
        exact npo j Rs1 z1
      · rw [List.getElem?_set_ne (Ne.symm n1'), List.getElem?_set_ne (Ne.symm n2')]
        exact a.sat.dis j l Rs1 Rs2 ne z1 z2
  · rcases getElem?_set_cases ej with ⟨rfl, z⟩ | ⟨n, z⟩
    · have hl : j < σ.length := by
        have := (List.getElem?_eq_some_iff.mp ej).1
        rw [List.length_set, a.sat.len] at this
        exact this
      rw [List.getElem?_set_self hl] at eq
      cases eq
      exact .inr hb
    · rw [List.getElem?_set_ne (Ne.symm n)] at eq
      exact a.ow j Rs' q z eq
theorem At.setOwn {B : Base} {L : Hp} {sl : List Ent} {σ : L2.St} {G H G' H' : Hp} (a : At B L sl σ G H) (g : Gr G H G' H') (i : Nat) {Rs : List RV} {p : Addr} {vs : List V} (n1 : H p = none) (n2 : G' p = none) (e : H' p = some (.lst vs)) (r : PVs G' Rs vs) :
    At B L (sl.set i (.own Rs)) (σ.set i (some (.ref p))) G' H' := a.setMut g i n1 n2 e ⟨trivial, vs, rfl, r⟩
/-- the list of one's own in slot i is changed -/
theorem At.changeM {B : Base} {L : Hp} {sl : List Ent} {σ : L2.St} {G H : Hp} (a : At B L sl σ G H) {i : Nat} {Rs Rs' : OV} {p : Addr} {o' : HO} (ei : sl[i]? = some (.mu Rs)) (es : σ[i]? = some (some (.ref p))) (r : Rs'.r G p o') :
    At B L (sl.set i (.mu Rs')) σ G (upd H p o') := by
  obtain ⟨q, ws, h1, h2, h3, _⟩ := a.sat.mu i Rs ei
  rw [es] at h1
  cases h1
  have hm := a.ow i Rs p ei es
  have hil : i < sl.length := (List.getElem?_eq_some_iff.mp ei).1
  have sub : Same G (upd H p o') := fun b o e => by
    rw [upd_ne (fun z => by rw [z, h3] at e; cases e)]
    exact a.sat.sub b o e
  refine ⟨⟨sub, fun j R ej => ?_, fun j Rs2 ej => ?_, fun j l Rs1 Rs2 ne e1 e2 => ?_, by rw [List.length_set]; exact a.sat.len⟩, ⟨a.gr.g, fun b o m e => ?_, fun b e => ?_, sub, a.gr.n⟩, a.lo, fun j Rs2 q ej eq => ?_⟩
  · rcases getElem?_set_cases ej with ⟨_, z⟩ | ⟨n, z⟩
    · cases z
    · exact a.sat.val j R z
  · rcases getElem?_set_cases ej with ⟨rfl, z⟩ | ⟨n, z⟩
    · cases z
      exact ⟨p, o', es, upd_same, h3, r⟩
    · obtain ⟨q, us, k1, k2, k3, k4⟩ := a.sat.mu j Rs2 z
      refine ⟨q, us, k1, ?_, k3, k4⟩
      rw [upd_ne]
      · exact k2
      · intro e
        subst e
        exact a.sat.dis j i Rs2 Rs n z ei (k1.trans es.symm)
  · have f : ∀ (k : Nat) (R : OV), (sl.set i (.mu Rs'))[k]? = some (.mu R) → ∃ R', sl[k]? = some (.mu R') := fun k R ek => by
      rcases getElem?_set_cases ek with ⟨rfl, _⟩ | ⟨_, z⟩
      · exact ⟨_, ei⟩
      · exact ⟨_, z⟩
    obtain ⟨R1, k1⟩ := f j Rs1 e1
    obtain ⟨R2, k2⟩ := f l Rs2 e2
    exact a.sat.dis j l R1 R2 ne k1 k2
  · have nb : b ≠ p := fun z => by
      subst z
      rcases hm with q | q
      · exact m q
      · rw [q] at e; cases e
    rw [upd_ne nb]
    exact a.gr.h b o m e
  · by_cases nb : b = p
    · subst nb
      rw [upd_same]
      exact fun z => nomatch z
    · rw [upd_ne nb]
      exact a.gr.t b e
  · rcases getElem?_set_cases ej with ⟨rfl, _⟩ | ⟨_, z⟩
    · exact a.ow j Rs q ei eq
    · exact a.ow j Rs2 q z eq

theorem At.change {B : Base} {L : Hp} {sl : List Ent} {σ : L2.St} {G H : Hp} (a : At B L sl σ G H) {i : Nat} {t : Addr → Prop} {Rs Rs' : List RV} {p : Addr} {vs : List V} (ei : sl[i]? = some (.mu (oT t Rs))) (es : σ[i]? = some (some (.ref p))) (r : PVs G Rs' vs) :
    At B L (sl.set i (.mu (oT t Rs'))) σ G (upd H p (.lst vs)) := by
  obtain ⟨q, o, h1, _, _, ht, _⟩ := a.sat.mu i _ ei
  rw [es] at h1
  cases h1
  exact a.changeM ei es ⟨ht, vs, rfl, r⟩

section
variable {X : Cx} {B : Base} {L : Hp} {sl : List Ent} {D : Ends} {pos : Pos} {rest : List Stmt}
def canS (X : Cx) (st : List Stmt) (D : Ends) : L2.St → Hp → Prop := fun σ H => ∀ (pins : List (Addr × Obj)) (s : Shared), Inv X pins σ H s → wpAny (model X.prog X.w) X.A (execs st X.env) (SP X pins D) X.xe s
theorem pcanS {st : List Stmt} : PSs X st (fun D => canS X st D) := ⟨fun pins s _ _ _ I h => h pins s I⟩
def Wp (X : Cx) (B : Base) (L : Hp) (st : List Stmt) (D : Ends) (sl : List Ent) : Prop := ∀ (σ : L2.St) (G H : Hp), At B L sl σ G H → canS X st D σ H
/-- what follows a block that comes to its end -/
abbrev dgo (D : Ends) (X : Cx) (rest : List Stmt) : Ends := { D with nx := canS X rest D }
theorem wp_of {st : Stmt} {t : TS} (h : PS X st t) (r : ∀ σ G H, At B L sl σ G H → t (dgo D X rest) σ H) : Wp X B L (st :: rest) D sl :=
  fun σ G H a pins s I => (pss_cons h (pcanS (X := X) (st := rest))).run pins s σ H D I (r σ G H a)
/-- a block's end -/
theorem w_end (h : Wp X B L rest D sl) : Wp X B L [] (dgo D X rest) sl := fun σ G H a pins s I => (pss_nil (X := X)).run pins s σ H (dgo D X rest) I (h σ G H a)
/-- a loop's turn ends -/
def NX (B : Base) (L : Hp) (J : List Ent → Prop) : L2.St → Hp → Prop := fun σ H => ∃ sl G, J sl ∧ At B L sl σ G H
theorem w_turn {J : List Ent → Prop} (e : D.nx = NX B L J) (h : J sl) : Wp X B L [] D sl := fun σ G H a pins s I => (pss_nil (X := X)).run pins s σ H D I (by show D.nx σ H; rw [e]; exact ⟨sl, G, h, a⟩)
/-- a def's end -/
theorem w_fall (hM : ∀ a, ¬ B.M a) (h : Post B.G B.H (fun v H' => ∀ σ, v = .non → D.nx σ H') (.v iN)) : Wp X B L [] D sl := fun σ G H a pins s I => (pss_nil (X := X)).run pins s σ H D I
  (h .non G H ⟨a.gr.g, fun b o _ e => a.gr.h b o (hM b) e, a.gr.t, a.gr.s, a.gr.n⟩ rfl σ rfl)
theorem At.gr0 {σ : L2.St} {G H : Hp} (a : At B L sl σ G H) (hM : ∀ a, ¬ B.M a) : Gr B.G B.H G H := ⟨a.gr.g, fun b o _ e => a.gr.h b o (hM b) e, a.gr.t, a.gr.s, a.gr.n⟩
theorem w_ret {e : Expr} {r : Res} (h : EvR X e sl r) (hM : ∀ a, ¬ B.M a) (q : Post B.G B.H D.rt r) : Wp X B L (.Return (some e) pos :: rest) D sl :=
  wp_of (ps_ret pcan) fun σ G H a => h.can a.sat (q.gr (a.gr0 hM))
/-- the list of one's own in slot i is handed back -/
theorem w_retOwn (i : Nat) {x : Str} {p' : Pos} {t : Addr → Prop} {Rs : List RV} (ei : sl[i]? = some (.mu (oT t Rs))) (hM : ∀ a, ¬ B.M a) (q : Post B.G B.H D.rt (.l Rs)) (hN : X.N[i]? = some x := by rfl) (hv : Vis X.env.scope x := by first | exact Or.inl rfl | exact Or.inr (Or.inl rfl) | exact Or.inr (Or.inr rfl)) (hd : (x == ("__debug__" : Str)) = false := by decide)
    (hcd : (x == ("__classdict__" : Str)) = false := by decide) : Wp X B L (.Return (some (.Name x p')) pos :: rest) D sl :=
  wp_of (ps_ret (pe_var hN hv hd hcd)) fun σ G H a => by
    obtain ⟨p, vs, h1, h2, h3, h4⟩ := a.sat.own i Rs ei
    refine ⟨.ref p, h1, ?_⟩
    exact q p vs G H (a.gr0 hM) ((a.ow i _ p ei h1).resolve_left (hM p)) h3 h2 h4
/-- name = e -/
theorem w_set (i : Nat) {x : Str} {e : Expr} {p' : Pos} {R : RV} (he : Ev X e sl R) (hN : X.N.Nodup) (k : Wp X B L rest D (sl.set i (.val R))) (hi : X.N[i]? = some x := by rfl) (hx : Loc X.env.scope x := by first | exact Or.inl rfl | exact Or.inr rfl) (hs : swapsWith e (some (.Name x p')) pos.line X.env = pure false := by rfl)
    (hf : X.fn x = true ∨ X.env.scope.names.lookup x = some .local := by first | exact .inl rfl | exact .inr rfl | assumption) : Wp X B L (.Assign [.Name x p'] e pos :: rest) D sl :=
  wp_of (ps_set hN hi hx pcan hs hf) fun σ G H a => he.can a.sat fun v G' H' g r => k _ G' H' ((a.go g).set i r)
theorem w_setX (i : Nat) {x : Str} {e : Expr} {p' : Pos} {α : Type} {P : α → Prop} {R : α → RV} (he : Ev X e sl (rX P R)) (hN : X.N.Nodup) (k : ∀ z, P z → Wp X B L rest D (sl.set i (.val (R z)))) (hi : X.N[i]? = some x := by rfl) (hx : Loc X.env.scope x := by first | exact Or.inl rfl | exact Or.inr rfl) (hs : swapsWith e (some (.Name x p')) pos.line X.env = pure false := by rfl)
    (hf : X.fn x = true ∨ X.env.scope.names.lookup x = some .local := by first | exact .inl rfl | exact .inr rfl | assumption) : Wp X B L (.Assign [.Name x p'] e pos :: rest) D sl :=
  wp_of (ps_set hN hi hx pcan hs hf) fun σ G H a => he.can a.sat fun v G' H' g ⟨z, pz, r⟩ => k z pz _ G' H' ((a.go g).set i r)
theorem w_setOwn (i : Nat) {x : Str} {e : Expr} {p' : Pos} {Rs : List RV} (he : EvR X e sl (.l Rs)) (hN : X.N.Nodup) (k : Wp X B L rest D (sl.set i (.own Rs))) (hi : X.N[i]? = some x := by rfl) (hx : Loc X.env.scope x := by first | exact Or.inl rfl | exact Or.inr rfl) (hs : swapsWith e (some (.Name x p')) pos.line X.env = pure false := by rfl)
    (hf : X.fn x = true ∨ X.env.scope.names.lookup x = some .local := by first | exact .inl rfl | exact .inr rfl | assumption) : Wp X B L (.Assign [.Name x p'] e pos :: rest) D sl :=
  wp_of (ps_set hN hi hx pcan hs hf) fun σ G H a => he.can a.sat fun p vs G' H' g n1 n2 e r => k _ G' H' (a.setOwn g i n1 n2 e r)
/-- if -/
theorem w_if {c : Expr} {u v : List Stmt} {P : Bool → Prop} (h : EvT X c sl P) (h1 : P true → Wp X B L u (dgo D X rest) sl) (h2 : P false → Wp X B L v (dgo D X rest) sl) : Wp X B L (.If c u v pos :: rest) D sl :=
  wp_of (ps_if pcanT pcanS pcanS) fun σ G H a => h.can a.sat fun b G' H' g p => by
    cases b with
    | true => exact iteT (h1 p σ G' H' (a.go g))
    | false => exact iteF (h2 p σ G' H' (a.go g))
/-- if c: (what cannot be) -/
theorem w_ifNot {c : Expr} {u : List Stmt} {P : Bool → Prop} (h : EvT X c sl P) (hf : ¬ P true) (k : Wp X B L rest D sl) : Wp X B L (.If c u [] pos :: rest) D sl :=
  w_if h (fun p => absurd p hf) fun _ => w_end k
theorem w_expr {e : Expr} {R : RV} (h : Ev X e sl R) (k : Wp X B L rest D sl) (hs : swapsWith e none pos.line X.env = pure false := by rfl) : Wp X B L (.Expr e pos :: rest) D sl :=
  wp_of (ps_expr pcan hs) fun σ G H a => h.can a.sat fun v G' H' g _ => k σ G' H' (a.go g)
end

/-! ### a def, by its body -/
def ents (n : Nat) (Rs : List RV) : List Ent := Rs.map Ent.val ++ List.replicate (n - Rs.length) Ent.no
theorem sat_start {G H : Hp} {Rs : List RV} {vs : List V} {N : List Str} (s : Same G H) (r : PVs G Rs vs) : Sat (ents N.length Rs) (L2.start N vs) G H := by
  have hl := r.len
  refine ⟨s, fun i R e => ?_, fun i Rs' e => ?_, fun i j Rs1 Rs2 _ e _ => ?_, ?_⟩
  · unfold ents at e
    rw [List.getElem?_append] at e
    split at e
    · rename_i hi
      rw [List.getElem?_map] at e
      cases q : Rs[i]? with
      | none => rw [q] at e; cases e
      | some R' =>
        rw [q] at e
        cases e
        obtain ⟨v, h1, h2⟩ := r.get q
        refine ⟨v, ?_, h2⟩
        unfold L2.start
        rw [List.getElem?_append_left (by rw [List.length_map, ← hl]; simpa using hi), List.getElem?_map, h1]
        rfl
    · rw [List.getElem?_replicate] at e
      split at e <;> cases e
  · unfold ents at e
    rw [List.getElem?_append] at e
    split at e
    · rw [List.getElem?_map] at e
      cases q : Rs[i]? with
      | none => rw [q] at e; cases e
      | some R' => rw [q] at e; cases e
    · rw [List.getElem?_replicate] at e
      split at e <;> cases e
  · unfold ents at e
    rw [List.getElem?_append] at e
    split at e
    · rw [List.getElem?_map] at e
      cases q : Rs[i]? with
      | none => rw [q] at e; cases e
      | some R' => rw [q] at e; cases e
    · rw [List.getElem?_replicate] at e
      split at e <;> cases e
  · unfold ents L2.start
    rw [List.length_append, List.length_append, List.length_map, List.length_map, List.length_replicate, List.length_replicate, hl]
abbrev FnP (K : PySem.W.Frag) (x qual : Str) (st : Stmt) (f : Addr) (fd : FuncData) : Prop := FunD K x qual (defArgs st) (defBody st) (defScope st) [] [] f fd
section
variable {P : Program} {w : World} {K : PySem.W.Frag} {mg : Str → Option Value} {base : Heap}
/-- what a body is to show -/
def Body (P : Program) (w : World) (K : PySem.W.Frag) (mg : Str → Option Value) (base : Heap) (qual : Str) (st : Stmt) (f : Addr) (N : List Str) (k : Nat) {α : Type} (F : Fn α) : Prop :=
  ∀ (cdv : Value) (A : Around) (outer : List Env) (s : Shared) (H : Hp) (E : XK) (a : α) (B : Base) (L : Hp) (D : Ends), Room k (A.deeper (envOfC qual (defScope st) s.heap.objs.size f cdv)) → F.pre a → (∀ b, ¬ B.M b) → Post B.G B.H D.rt (F.res a) → (∀ σ H', D.rt .non H' → D.nx σ H') →
    Wp (cxOf CX0 P w K mg base N qual (defScope st) f cdv A outer s H E).nox B L (defBody st) D (ents N.length (F.args a))
theorem fnOk_of {qual x : Str} {st : Stmt} {f : Addr} {fd : FuncData} {N : List Str} {k : Nat} {α : Type} {F : Fn α} (F0 : FnP K x qual st f fd) (S : FnScope N F.ps (defScope st)) (hl : ∀ a, (F.args a).length = F.ps.length)
    (body : Body P w K mg base qual st f N k F) : FnOk P w K mg base CX0 (k + 1) f fd F.ps F.sp := by
  refine FunD.ok F0 S (fun vs H Q E h => ?_) (fun cdv A outer s H vs Q E hr h => ?_)
  · obtain ⟨a, G, _, r, _⟩ := h
    rw [← r.len, hl]
  · obtain ⟨a, G, sm, r, hp, q⟩ := h
    refine ⟨_, PSs.nox pcanS, ?_⟩
    refine body cdv A outer s H E a ⟨G, H, NoM⟩ G { nx := fun _ H' => Q .non H', rt := Q } hr hp (fun _ z => z) q (fun _ _ z => z) (L2.start N vs) G H ⟨sat_start sm r, Grow.refl sm, Same.refl _, fun i Rs p e _ => ?_⟩
    unfold ents at e
    rw [List.getElem?_append] at e
    split at e
    · rw [List.getElem?_map] at e
      cases q : (F.args a)[i]? with
      | none => rw [q] at e; cases e
      | some R' => rw [q] at e; cases e
    · rw [List.getElem?_replicate] at e
      split at e <;> cases e
theorem has_of {x : Str} {st : Stmt} {f : Addr} {fd : FuncData} {N : List Str} {k : Nat} {α : Type} {F : Fn α} (F0 : FnP K x x st f fd) (hm : mg x = some (.ref f)) (S : FnScope N F.ps (defScope st)) (hl : ∀ a, (F.args a).length = F.ps.length)
    (hb : ∀ (kV doc pm : Value) (an : Option Addr) (cdv ct : Value) (us : List Value), us.length = F.ps.length → bindArgs (PySem.W.fnOf x x (defArgs st) (defBody st) (defScope st) .none kV doc pm an cdv ct) ⟨us, []⟩ = pure (F.ps.zip us))
    (body : Body P w K mg base x st f N k F) : Has P w K mg base (k + 1) x F := ⟨f, fd, hm, F0.kp, F0.bindsN hb, fnOk_of F0 S hl body⟩
end
end Dl

set_option maxHeartbeats 2000000
namespace Dl
open PySem PySem.Spec PyProof.Rows L2
/-! ### lists of plain values -/
theorem PVs.ints {G : Hp} : ∀ {ns : List Int} {vs : List V}, PVs G (ns.map iI) vs → vs = ns.map V.int
  | [], _, .nil => rfl
  | n :: ns, _, .cons ⟨i, e, p⟩ t => by rw [e, p, PVs.ints t]; rfl
theorem PVs.bools {G : Hp} : ∀ {ns : List Bool} {vs : List V}, PVs G (ns.map iB) vs → vs = ns.map V.bl
  | [], _, .nil => rfl
  | n :: ns, _, .cons ⟨i, e, p⟩ t => by rw [e, p, PVs.bools t]; rfl
theorem PVs.strs {G : Hp} : ∀ {ns : List Str} {vs : List V}, PVs G (ns.map iS) vs → vs = ns.map V.str
  | [], _, .nil => rfl
  | n :: ns, _, .cons ⟨i, e, p⟩ t => by rw [e, p, PVs.strs t]; rfl
theorem PVs.ofInts {G : Hp} : ∀ (ns : List Int), PVs G (ns.map iI) (ns.map V.int)
  | [] => .nil
  | n :: ns => .cons ⟨n, rfl, rfl⟩ (PVs.ofInts ns)
theorem PVs.ofStrs {G : Hp} : ∀ (ns : List Str), PVs G (ns.map iS) (ns.map V.str)
  | [] => .nil
  | n :: ns => .cons ⟨n, rfl, rfl⟩ (PVs.ofStrs ns)
theorem PVs.ofBools {G : Hp} : ∀ (ns : List Bool), PVs G (ns.map iB) (ns.map V.bl)
  | [] => .nil
  | n :: ns => .cons ⟨n, rfl, rfl⟩ (PVs.ofBools ns)
abbrev rInts (K : PySem.W.Frag) (ns : List Int) : RV := rLst K (ns.map iI)
/-- one of several in each place is a list of several -/
theorem le_lstX {K : PySem.W.Frag} {α β : Type} {P : α → β → Prop} {R : β → RV} {xs : List α} : (rLst K (xs.map fun x => rX (P x) R)).le (rX (fun ys => Paired P xs ys) fun ys => rLst K (ys.map R)) := by
  rintro G v ⟨a, vs, e, q, r⟩
  have main : ∀ (xs : List α) (vs : List V), PVs G (xs.map fun x => rX (P x) R) vs → ∃ ys, Paired P xs ys ∧ PVs G (ys.map R) vs := by
    intro xs
    induction xs with
    | nil => intro vs h; cases h; exact ⟨[], .nil, .nil⟩
    | cons x xs ih =>
      intro vs h
      cases h with
      | cons h t =>
        obtain ⟨y, p, r⟩ := h
        obtain ⟨ys, h1, h2⟩ := ih _ t
        exact ⟨y :: ys, .cons p h1, .cons r h2⟩
  obtain ⟨ys, h1, h2⟩ := main xs vs r
  exact ⟨ys, h1, a, vs, e, q, h2⟩
theorem le_lst {K : PySem.W.Frag} {α : Type} {c d : α → RV} {xs : List α} (h : ∀ x ∈ xs, (c x).le (d x)) : (rLst K (xs.map c)).le (rLst K (xs.map d)) := by
  rintro G v ⟨a, vs, e, q, r⟩
  refine ⟨a, vs, e, q, ?_⟩
  have main : ∀ (xs : List α) (vs : List V), (∀ x ∈ xs, (c x).le (d x)) → PVs G (xs.map c) vs → PVs G (xs.map d) vs := by
    intro xs
    induction xs with
    | nil => intro vs _ h; cases h; exact .nil
    | cons x xs ih =>
      intro vs hh h
      cases h with
      | cons h t => exact .cons (hh x (List.mem_cons_self ..) _ _ h) (ih _ (fun y hy => hh y (List.mem_cons_of_mem _ hy)) t)
  exact main xs vs h r

section
variable {X : Cx} {sl : List Ent} {x : Str} {p pos : Pos} {e a b c : Expr} {es : List Expr} {R : RV} {Rs : List RV} {P : Bool → Prop}
/-! ### built-ins -/
theorem e_cb {id : String} {r : List V → Hp → VK → Prop} {rs : Res} (hc : CallR X (.builtin id) r) (hm : X.mg x = none) (hv : bootBuiltins x = some (.builtin id)) (ha : EvA X (e :: es) sl Rs) (hr : ∀ vs G H Q, Same G H → PVs G Rs vs → Post G H Q rs → r vs H Q) (hg : Gl X x := by rfl)
    (hn : x ≠ "__name__" := by decide) (hdb : (x == ("__debug__" : Str)) = false := by decide) (he : starEach (e :: es) X.env = (false, eval e X.env) :: starEach es X.env := by rfl) (hpl : (backTo pos (starEach es X.env)).any (·.1) = false := by rfl) : EvR X (.Call (.Name x p) (e :: es) [] pos) sl rs :=
  evR_of (pe_callB hc hg hm hv pcanA hn hdb he hpl) fun σ G H Q a q => ha.can a fun vs G' H' g r => hr vs G' H' Q g.s r (q.gr g)
theorem e_ct {id : String} {r : List V → Hp → VK → Prop} {rs : Res} (hc : CallR X (.type id) r) (hm : X.mg x = none) (hv : bootBuiltins x = some (.type id)) (ha : EvA X (e :: es) sl Rs) (hr : ∀ vs G H Q, Same G H → PVs G Rs vs → Post G H Q rs → r vs H Q) (hg : Gl X x := by rfl)
    (hn : x ≠ "__name__" := by decide) (hdb : (x == ("__debug__" : Str)) = false := by decide) (he : starEach (e :: es) X.env = (false, eval e X.env) :: starEach es X.env := by rfl) (hpl : (backTo pos (starEach es X.env)).any (·.1) = false := by rfl) : EvR X (.Call (.Name x p) (e :: es) [] pos) sl rs :=
  evR_of (pe_callTy hc hg hm hv pcanA hn hdb he hpl) fun σ G H Q a q => ha.can a fun vs G' H' g r => hr vs G' H' Q g.s r (q.gr g)
theorem pv1 {G : Hp} {vs : List V} (h : PVs G [R] vs) : ∃ v, vs = [v] ∧ R.r G v := by
  cases h with
  | cons h t => cases t; exact ⟨_, rfl, h⟩
theorem pv2 {R' : RV} {G : Hp} {vs : List V} (h : PVs G [R, R'] vs) : ∃ v v', vs = [v, v'] ∧ R.r G v ∧ R'.r G v' := by
  cases h with
  | cons h t => cases t with
    | cons h' t => cases t; exact ⟨_, _, rfl, h, h'⟩
theorem a1 (h : Ev X a sl R) (he : starEach [a] X.env = [(false, eval a X.env)] := by rfl) : EvA X [a] sl [R] := a_cons h a_nil he
theorem a2 {R' : RV} (h : Ev X a sl R) (h' : Ev X b sl R') (he : starEach [a, b] X.env = (false, eval a X.env) :: starEach [b] X.env := by rfl) (he' : starEach [b] X.env = [(false, eval b X.env)] := by rfl) : EvA X [a, b] sl [R, R'] := a_cons h (a1 h' he') he
/-- len -/
theorem e_lenL (h : Ev X a sl (rLst X.K Rs)) (hm : X.mg "len" = none) (hg : Gl X "len" := by rfl) (he : starEach [a] X.env = [(false, eval a X.env)] := by rfl) : Ev X (.Call (.Name "len" p) [a] [] pos) sl (iI Rs.length) :=
  e_cb (rs := .v _) call_len_seq hm PySem.boot_len (a1 h he) (fun vs G H Q s r q => by
    obtain ⟨v, rfl, b, ws, rfl, h1, h2⟩ := pv1 r
    exact ⟨b, ws, rfl, .inl (s.seq h1), q _ G H (.refl s) ⟨_, rfl, by rw [h2.len]⟩⟩) hg (by decide) (by decide) he rfl
theorem e_lenT (h : Ev X a sl (rTup X.K Rs)) (hm : X.mg "len" = none) (hg : Gl X "len" := by rfl) (he : starEach [a] X.env = [(false, eval a X.env)] := by rfl) : Ev X (.Call (.Name "len" p) [a] [] pos) sl (iI Rs.length) :=
  e_cb (rs := .v _) call_len_seq hm PySem.boot_len (a1 h he) (fun vs G H Q s r q => by
    obtain ⟨v, rfl, b, ws, rfl, h1, h2⟩ := pv1 r
    exact ⟨b, ws, rfl, .inr (Same.tup s h1), q _ G H (.refl s) ⟨_, rfl, by rw [h2.len]⟩⟩) hg (by decide) (by decide) he rfl
variable {A B C : Int → Prop}
theorem e_abs (h : Ev X a sl (rInt A)) (hm : X.mg "abs" = none) (hA : ∀ x, A x → C (if x < 0 then -x else x)) (hg : Gl X "abs" := by rfl) (he : starEach [a] X.env = [(false, eval a X.env)] := by rfl) : Ev X (.Call (.Name "abs" p) [a] [] pos) sl (rInt C) :=
  e_cb (rs := .v _) call_abs hm (by decide +kernel) (a1 h he) (fun vs G H Q s r q => by
    obtain ⟨v, rfl, i, rfl, hi⟩ := pv1 r
    exact ⟨i, rfl, q _ G H (.refl s) ⟨_, rfl, hA i hi⟩⟩) hg (by decide) (by decide) he rfl
theorem e_max2 (hc : X.calm = true) (h : Ev X a sl (rInt A)) (h' : Ev X b sl (rInt B)) (hm : X.mg "max" = none) (hA : ∀ x y, A x → B y → C (if y > x then y else x)) (hg : Gl X "max" := by rfl) (he : starEach [a, b] X.env = (false, eval a X.env) :: starEach [b] X.env := by rfl) (he' : starEach [b] X.env = [(false, eval b X.env)] := by rfl) : Ev X (.Call (.Name "max" p) [a, b] [] pos) sl (rInt C) :=
  e_cb (rs := .v _) (call_max2 hc) hm (by decide +kernel) (a2 h h' he he') (fun vs G H Q s r q => by
    obtain ⟨v, v', rfl, ⟨i, rfl, hi⟩, ⟨j, rfl, hj⟩⟩ := pv2 r
    exact ⟨i, j, rfl, q _ G H (.refl s) ⟨_, rfl, hA i j hi hj⟩⟩) hg (by decide) (by decide) he (by rw [he']; rfl)
theorem e_min2 (hc : X.calm = true) (h : Ev X a sl (rInt A)) (h' : Ev X b sl (rInt B)) (hm : X.mg "min" = none) (hA : ∀ x y, A x → B y → C (if y < x then y else x)) (hg : Gl X "min" := by rfl) (he : starEach [a, b] X.env = (false, eval a X.env) :: starEach [b] X.env := by rfl) (he' : starEach [b] X.env = [(false, eval b X.env)] := by rfl) : Ev X (.Call (.Name "min" p) [a, b] [] pos) sl (rInt C) :=
  e_cb (rs := .v _) (call_min2 hc) hm (by decide +kernel) (a2 h h' he he') (fun vs G H Q s r q => by
    obtain ⟨v, v', rfl, ⟨i, rfl, hi⟩, ⟨j, rfl, hj⟩⟩ := pv2 r
    exact ⟨i, j, rfl, q _ G H (.refl s) ⟨_, rfl, hA i j hi hj⟩⟩) hg (by decide) (by decide) he (by rw [he']; rfl)
theorem e_int1 (h : Ev X a sl (rInt A)) (hm : X.mg "int" = none) (hg : Gl X "int" := by rfl) (he : starEach [a] X.env = [(false, eval a X.env)] := by rfl) : Ev X (.Call (.Name "int" p) [a] [] pos) sl (rInt A) :=
  e_ct (rs := .v _) call_int1 hm (by decide +kernel) (a1 h he) (fun vs G H Q s r q => by
    obtain ⟨v, rfl, i, rfl, hi⟩ := pv1 r
    exact .inl ⟨i, rfl, q _ G H (.refl s) ⟨_, rfl, hi⟩⟩) hg (by decide) (by decide) he rfl
theorem e_maxL (hc : X.calm = true) {ns : List Int} (h : Ev X a sl (rInts X.K ns)) (hm : X.mg "max" = none) (h0 : 0 < ns.length) (hC : ∀ m, m ∈ ns → (∀ y, y ∈ ns → y ≤ m) → C m) (hg : Gl X "max" := by rfl) (he : starEach [a] X.env = [(false, eval a X.env)] := by rfl) : Ev X (.Call (.Name "max" p) [a] [] pos) sl (rInt C) :=
  e_cb (rs := .v _) (cr_max hc) hm (by decide +kernel) (a1 h he) (fun vs G H Q s r q => by
    obtain ⟨v, rfl, b, ws, rfl, h1, h2⟩ := pv1 r
    rw [h2.ints] at h1
    exact ⟨b, ns, rfl, s.seq h1, h0, fun m h3 h4 => q _ G H (.refl s) ⟨_, rfl, hC m h3 h4⟩⟩) hg (by decide) (by decide) he rfl
theorem e_minL (hc : X.calm = true) {ns : List Int} (h : Ev X a sl (rInts X.K ns)) (hm : X.mg "min" = none) (h0 : 0 < ns.length) (hC : ∀ m, m ∈ ns → (∀ y, y ∈ ns → m ≤ y) → C m) (hg : Gl X "min" := by rfl) (he : starEach [a] X.env = [(false, eval a X.env)] := by rfl) : Ev X (.Call (.Name "min" p) [a] [] pos) sl (rInt C) :=
  e_cb (rs := .v _) (cr_min hc) hm (by decide +kernel) (a1 h he) (fun vs G H Q s r q => by
    obtain ⟨v, rfl, b, ws, rfl, h1, h2⟩ := pv1 r
    rw [h2.ints] at h1
    exact ⟨b, ns, rfl, s.seq h1, h0, fun m h3 h4 => q _ G H (.refl s) ⟨_, rfl, hC m h3 h4⟩⟩) hg (by decide) (by decide) he rfl
theorem e_sumL (hc : X.calm = true) {ns : List Int} (h : Ev X a sl (rInts X.K ns)) (hm : X.mg "sum" = none) (hg : Gl X "sum" := by rfl) (he : starEach [a] X.env = [(false, eval a X.env)] := by rfl) : Ev X (.Call (.Name "sum" p) [a] [] pos) sl (iI ns.sum) :=
  e_cb (rs := .v _) (cr_sum hc) hm (by decide +kernel) (a1 h he) (fun vs G H Q s r q => by
    obtain ⟨v, rfl, b, ws, rfl, h1, h2⟩ := pv1 r
    rw [h2.ints] at h1
    exact ⟨b, ns, rfl, s.seq h1, q _ G H (.refl s) ⟨_, rfl, rfl⟩⟩) hg (by decide) (by decide) he rfl
theorem e_all (hc : X.calm = true) {bs : List Bool} (h : Ev X a sl (rLst X.K (bs.map iB))) (hm : X.mg "all" = none) (hg : Gl X "all" := by rfl) (he : starEach [a] X.env = [(false, eval a X.env)] := by rfl) : Ev X (.Call (.Name "all" p) [a] [] pos) sl (iB (bs.all id)) :=
  e_cb (rs := .v _) (cr_all hc) hm (by decide +kernel) (a1 h he) (fun vs G H Q s r q => by
    obtain ⟨v, rfl, b, ws, rfl, h1, h2⟩ := pv1 r
    rw [h2.bools] at h1
    exact ⟨b, bs, rfl, s.seq h1, q _ G H (.refl s) ⟨_, rfl, rfl⟩⟩) hg (by decide) (by decide) he rfl
theorem e_any (hc : X.calm = true) {bs : List Bool} (h : Ev X a sl (rLst X.K (bs.map iB))) (hm : X.mg "any" = none) (hg : Gl X "any" := by rfl) (he : starEach [a] X.env = [(false, eval a X.env)] := by rfl) : Ev X (.Call (.Name "any" p) [a] [] pos) sl (iB (bs.any id)) :=
  e_cb (rs := .v _) (cr_any hc) hm (by decide +kernel) (a1 h he) (fun vs G H Q s r q => by
    obtain ⟨v, rfl, b, ws, rfl, h1, h2⟩ := pv1 r
    rw [h2.bools] at h1
    exact ⟨b, bs, rfl, s.seq h1, q _ G H (.refl s) ⟨_, rfl, rfl⟩⟩) hg (by decide) (by decide) he rfl
/-- list(..) of a list, a tuple -/
theorem e_listL (h : Ev X a sl (rLst X.K Rs)) (hm : X.mg "list" = none) (hg : Gl X "list" := by rfl) (he : starEach [a] X.env = [(false, eval a X.env)] := by rfl) : EvR X (.Call (.Name "list" p) [a] [] pos) sl (.l Rs) :=
  e_ct call_list_of hm (by decide +kernel) (a1 h he) (fun vs G H Q s r q => by
    obtain ⟨v, rfl, b, ws, rfl, h1, h2⟩ := pv1 r
    exact ⟨b, ws, rfl, .inl (s.seq h1), fun l hl => q l ws G _ (Gr.newOut s hl) hl (s.free hl) upd_same h2⟩) hg (by decide) (by decide) he rfl
theorem e_listT (h : Ev X a sl (rTup X.K Rs)) (hm : X.mg "list" = none) (hg : Gl X "list" := by rfl) (he : starEach [a] X.env = [(false, eval a X.env)] := by rfl) : EvR X (.Call (.Name "list" p) [a] [] pos) sl (.l Rs) :=
  e_ct call_list_of hm (by decide +kernel) (a1 h he) (fun vs G H Q s r q => by
    obtain ⟨v, rfl, b, ws, rfl, h1, h2⟩ := pv1 r
    exact ⟨b, ws, rfl, .inr (Same.tup s h1), fun l hl => q l ws G _ (Gr.newOut s hl) hl (s.free hl) upd_same h2⟩) hg (by decide) (by decide) he rfl
/-- sorted(..) of ints -/
theorem e_sortedI {ns : List Int} (h : Ev X a sl (rInts X.K ns)) (hm : X.mg "sorted" = none) (h64 : ns.length < 64) (hg : Gl X "sorted" := by rfl) (he : starEach [a] X.env = [(false, eval a X.env)] := by rfl) : EvR X (.Call (.Name "sorted" p) [a] [] pos) sl (.x (fun ms : List Int => ms.Perm ns ∧ ms.Pairwise (· ≤ ·)) fun ms => .l (ms.map iI)) :=
  e_cb cr_sorted hm (by decide +kernel) (a1 h he) (fun vs G H Q s r q => by
    obtain ⟨v, rfl, b, ws, rfl, h1, h2⟩ := pv1 r
    rw [h2.ints] at h1
    exact ⟨b, ns, rfl, s.seq h1, h64, fun ms l h3 h4 hl => q ms ⟨h3, h4⟩ l _ G _ (Gr.newOut s hl) hl (s.free hl) upd_same (PVs.ofInts ms)⟩) hg (by decide) (by decide) he rfl
/-- divmod -/
theorem e_divmod {n m : Int} (h : Ev X a sl (iI n)) (h' : Ev X b sl (iI m)) (hm : X.mg "divmod" = none) (hd : CDiv n m) (hg : Gl X "divmod" := by rfl) (he : starEach [a, b] X.env = (false, eval a X.env) :: starEach [b] X.env := by rfl) (he' : starEach [b] X.env = [(false, eval b X.env)] := by rfl) : Ev X (.Call (.Name "divmod" p) [a, b] [] pos) sl (rTup X.K [iI (n / m), iI (n % m)]) :=
  e_cb (rs := .v _) call_divmod hm (by decide +kernel) (a2 h h' he he') (fun vs G H Q s r q => by
    obtain ⟨v, v', rfl, ⟨i, rfl, rfl⟩, ⟨j, rfl, rfl⟩⟩ := pv2 r
    exact ⟨_, _, rfl, hd, fun l hl => q _ _ _ (Gr.new s hl) ⟨l, _, rfl, SqT.of upd_same, .cons ⟨_, rfl, rfl⟩ (.cons ⟨_, rfl, rfl⟩ .nil)⟩⟩) hg (by decide) (by decide) he (by rw [he']; rfl)

/-! ### displays, places -/
theorem sz {n : Nat} (h : n ≤ 100000) : n ≤ sizeLine := Nat.le_trans h (by decide)
theorem e_lst (h : EvA X es sl Rs) (hl : Rs.length ≤ 100000) : EvR X (.List es pos) sl (.l Rs) :=
  evR_of (pe_lst pcanA) fun σ G H Q a q => h.can a fun vs G' H' g r => ⟨by rw [← r.len]; exact sz hl, fun l hl => q l vs G' _ (g.trans (Gr.newOut g.s hl)) (g.hs.free hl) (g.s.free hl) upd_same r⟩
theorem e_tup {x1} (h : EvA X es sl Rs) (hl : Rs.length ≤ 100000) : Ev X (.Tuple es x1 pos) sl (rTup X.K Rs) :=
  ev_of (pe_tup pcanA) fun σ G H Q a q => h.can a fun vs G' H' g r => ⟨by rw [← r.len]; exact sz hl, fun l hl => q _ _ _ (g.trans (Gr.new g.s hl)) ⟨l, vs, rfl, SqT.of upd_same, r.mono (same_new (g.s.free hl))⟩⟩
theorem atI_pv {G : Hp} {vs : List V} {i : Int} (h : PVs G Rs vs) (e : atI Rs i = some R) : ∃ v, atI vs i = some v ∧ R.r G v := by
  unfold atI at e ⊢
  rw [← h.len]
  cases q : ixN Rs.length i with
  | none => rw [q] at e; cases e
  | some j =>
    rw [q] at e
    exact h.get e
/-- a[i] -/
theorem e_ixL {i : Int} (h : Ev X a sl (rLst X.K Rs)) (h' : Ev X b sl (iI i)) (hi : atI Rs i = some R) (hs : PlainIx b := by intro _ _; rfl) : Ev X (.Subscript a b pos) sl R :=
  ev_of (pe_ix ix_list pcan pcan hs) fun σ G H Q z k => h.can z fun v G1 H1 g1 ⟨l, vs, e1, h1, h2⟩ => h'.can (z.gr g1) fun u G2 H2 g2 ⟨j, e2, ej⟩ => by
    subst ej
    obtain ⟨w, h3, h4⟩ := atI_pv (h2.mono g2.g) hi
    exact ⟨l, vs, _, w, e1, e2, g2.s.seq (g2.g.seq h1), h3, k w G2 H2 (g1.trans g2) h4⟩
theorem e_ixT {i : Int} (h : Ev X a sl (rTup X.K Rs)) (h' : Ev X b sl (iI i)) (hi : atI Rs i = some R) (hs : PlainIx b := by intro _ _; rfl) : Ev X (.Subscript a b pos) sl R :=
  ev_of (pe_ix ix_tup pcan pcan hs) fun σ G H Q z k => h.can z fun v G1 H1 g1 ⟨l, vs, e1, h1, h2⟩ => h'.can (z.gr g1) fun u G2 H2 g2 ⟨j, e2, ej⟩ => by
    subst ej
    obtain ⟨w, h3, h4⟩ := atI_pv (h2.mono g2.g) hi
    exact ⟨l, vs, _, w, e1, e2, Same.tup g2.s (Same.tup g2.g h1), h3, k w G2 H2 (g1.trans g2) h4⟩
/-- .. at a place that is told by what is true of it -/
theorem e_ixLP (h : Ev X a sl (rLst X.K Rs)) (h' : Ev X b sl (rInt A)) (hi : ∀ i, A i → ∃ R', atI Rs i = some R' ∧ R'.le R) (hs : PlainIx b := by intro _ _; rfl) : Ev X (.Subscript a b pos) sl R :=
  ev_of (pe_ix ix_list pcan pcan hs) fun σ G H Q z k => h.can z fun v G1 H1 g1 ⟨l, vs, e1, h1, h2⟩ => h'.can (z.gr g1) fun u G2 H2 g2 ⟨j, e2, pj⟩ => by
    obtain ⟨R', e3, le⟩ := hi j pj
    obtain ⟨w, h3, h4⟩ := atI_pv (h2.mono g2.g) e3
    exact ⟨l, vs, _, w, e1, e2, g2.s.seq (g2.g.seq h1), h3, k w G2 H2 (g1.trans g2) (le _ _ h4)⟩
/-- a list of one's own, read at a place -/
theorem e_ixO (i : Nat) {y : Str} {p' : Pos} {t : Addr → Prop} {j : Int} (ei : sl[i]? = some (.mu (oT t Rs))) (h' : Ev X b sl (iI j)) (hi : atI Rs j = some R) (hs : PlainIx b := by intro _ _; rfl) (hN : X.N[i]? = some y := by rfl) (hv : Vis X.env.scope y := by first | exact Or.inl rfl | exact Or.inr (Or.inl rfl) | exact Or.inr (Or.inr rfl)) (hd : (y == ("__debug__" : Str)) = false := by decide)
    (hcd : (y == ("__classdict__" : Str)) = false := by decide) : Ev X (.Subscript (.Name y p') b pos) sl R :=
  ev_of (pe_ix ix_list (pe_var hN hv hd hcd) pcan hs) fun σ G H Q z k => by
    obtain ⟨l, vs, e1, h1, h2, h3⟩ := z.own i Rs ei
    refine ⟨_, e1, h'.can z fun u G2 H2 g2 ⟨m, e2, ej⟩ => ?_⟩
    subst ej
    obtain ⟨w, h4, h5⟩ := atI_pv (h3.mono g2.g) hi
    exact ⟨l, vs, _, w, rfl, e2, SqL.of (g2.hs _ _ h1), h4, k w G2 H2 g2 h5⟩
theorem e_lenO (i : Nat) {y : Str} {p' : Pos} {t : Addr → Prop} (ei : sl[i]? = some (.mu (oT t Rs))) (hm : X.mg "len" = none) (hg : Gl X "len" := by rfl) (hN : X.N[i]? = some y := by rfl) (hv : Vis X.env.scope y := by first | exact Or.inl rfl | exact Or.inr (Or.inl rfl) | exact Or.inr (Or.inr rfl)) (hd : (y == ("__debug__" : Str)) = false := by decide)
    (hcd : (y == ("__classdict__" : Str)) = false := by decide) (he : starEach [.Name y p'] X.env = [(false, eval (.Name y p') X.env)] := by rfl) : Ev X (.Call (.Name "len" p) [.Name y p'] [] pos) sl (iI Rs.length) :=
  ev_of (pe_callB call_len_seq hg hm PySem.boot_len (pa_cons (pe_var hN hv hd hcd) pa_nil he) (by decide) (by decide) he rfl) fun σ G H Q z k => by
    obtain ⟨l, vs, e1, h1, h2, h3⟩ := z.own i Rs ei
    exact ⟨_, e1, l, vs, rfl, .inl (SqL.of h1), k _ G H (.refl z.sub) ⟨_, rfl, by rw [h3.len]⟩⟩

/-! ### kinds -/
def RV.Ty (K : PySem.W.Frag) (R : RV) (t : Value) : Prop := ∀ G H v, Same G H → R.r G v → TyX K H v t
theorem ty_int {K : PySem.W.Frag} : (rInt A).Ty K (.type "int") := fun _ _ _ _ ⟨i, e, _⟩ => by subst e; exact .base (.int i)
theorem ty_str {K : PySem.W.Frag} {A : Str → Prop} : (rStr A).Ty K (.type "str") := fun _ _ _ _ ⟨i, e, _⟩ => by subst e; exact .base (.str i)
theorem ty_bool {K : PySem.W.Frag} : (rBool P).Ty K (.type "bool") := fun _ _ _ _ ⟨i, e, _⟩ => by subst e; exact .base (.bl i)
theorem ty_non {K : PySem.W.Frag} : iN.Ty K (.type "NoneType") := fun _ _ _ _ e => by cases (show _ = V.non from e); exact .base .non
theorem ty_lst {K : PySem.W.Frag} : (rLst K Rs).Ty K (.type "list") := fun G H _ s ⟨a, vs, e, q, _⟩ => by
  subst e
  rcases s.seq q with (h | ⟨o, h⟩) | ⟨o, its, n, h, hc, _⟩
  · exact .base (.lst h)
  · exact .base (.frz h)
  · exact .kList h hc
theorem ty_tup {K : PySem.W.Frag} : (rTup K Rs).Ty K (.type "tuple") := fun G H _ s ⟨a, vs, e, q, _⟩ => by
  subst e
  rcases Same.tup s q with (h | ⟨o, h⟩) | ⟨o, its, n, h, hc, _⟩
  · exact .base (.tup h)
  · exact .fTuple h
  · exact .kTuple h hc
/-- the name of a built-in class, as a value -/
def rTy (n : String) : RV := ⟨fun _ v => v = .ty n, fun _ h => h⟩
theorem e_bty {n : String} (hm : X.mg x = none) (hv : bootBuiltins x = some (.type n)) (hg : Gl X x := by rfl) (hn : x ≠ "__name__" := by decide) (hd : (x == ("__debug__" : Str)) = false := by decide) : Ev X (.Name x pos) sl (rTy n) :=
  ev_of (pe_bltn (v := .ty n) hg hm hv rfl hn hd) fun σ G H Q z k => k _ G H (.refl z.sub) rfl
theorem e_isi {t : Value} {n : String} {r : Bool} (h : Ev X a sl R) (ht : R.Ty X.K t) (h' : Ev X b sl (rTy n)) (hm : X.mg "isinstance" = none) (hk : PySem.W.kitOne X.K t (.type n) = some r) (hg : Gl X "isinstance" := by rfl) (he : starEach [a, b] X.env = (false, eval a X.env) :: starEach [b] X.env := by rfl) (he' : starEach [b] X.env = [(false, eval b X.env)] := by rfl) : Ev X (.Call (.Name "isinstance" p) [a, b] [] pos) sl (iB r) :=
  e_cb (rs := .v _) call_isi hm (by decide +kernel) (a2 h h' he he') (fun vs G H Q s rr q => by
    obtain ⟨v, v', rfl, h1, h2⟩ := pv2 rr
    cases (show v' = V.ty n from h2)
    exact ⟨v, .ty n, t, .type n, r, rfl, .ty n, ht G H v s h1, hk, q _ G H (.refl s) ⟨_, rfl, rfl⟩⟩) hg (by decide) (by decide) he (by rw [he']; rfl)
theorem e_isi2 {t : Value} {n m : String} {r : Bool} {c d : Expr} {x1} {p1 : Pos} (h : Ev X a sl R) (ht : R.Ty X.K t) (h1 : Ev X c sl (rTy n)) (h2 : Ev X d sl (rTy m)) (hm : X.mg "isinstance" = none) (hk : PySem.W.kitAny X.K t [.type n, .type m] = some r) (hg : Gl X "isinstance" := by rfl) (he : starEach [a, .Tuple [c, d] x1 p1] X.env = (false, eval a X.env) :: starEach [.Tuple [c, d] x1 p1] X.env := by rfl) (he' : starEach [.Tuple [c, d] x1 p1] X.env = [(false, eval (.Tuple [c, d] x1 p1) X.env)] := by rfl)
    (hc1 : starEach [c, d] X.env = (false, eval c X.env) :: starEach [d] X.env := by rfl) (hc2 : starEach [d] X.env = [(false, eval d X.env)] := by rfl) : Ev X (.Call (.Name "isinstance" p) [a, .Tuple [c, d] x1 p1] [] pos) sl (iB r) :=
  ev_of (pe_callB call_isiT hg hm (by decide +kernel) (pa_cons pcan (pa_cons (pe_tup pcanA) pa_nil he') he) (by decide) (by decide) he (by rw [he']; rfl)) fun σ G H Q z k => h.can z fun v G1 H1 g1 r1 =>
    (a2 h1 h2 hc1 hc2).can (z.gr g1) fun vs G2 H2 g2 r2 => by
      obtain ⟨v1, v2, rfl, e1, e2⟩ := pv2 r2
      cases (show v1 = V.ty n from e1)
      cases (show v2 = V.ty m from e2)
      refine ⟨by show 2 ≤ sizeLine; decide, fun l hl => ?_⟩
      exact ⟨v, l, _, t, _, r, rfl, upd_same, .cons (.ty n) (.cons (.ty m) .nil), ht G2 _ v (g2.s.trans (same_new hl)) (R.m g2.g r1), hk, k _ _ _ ((g1.trans g2).trans (Gr.new g2.s hl)) ⟨_, rfl, rfl⟩⟩
end

/-! ### stores into a list of one's own -/
section
variable {X : Cx} {B : Base} {L : Hp} {sl : List Ent} {D : Ends} {pos : Pos} {rest : List Stmt} {R : RV} {Rs : List RV}
/-- y.append(e) -/
theorem w_append (i : Nat) {y : Str} {p1 p2 p3 : Pos} {t : Addr → Prop} {e : Expr} (ei : sl[i]? = some (.mu (oT t Rs))) (h : Ev X e sl R) (hz : Rs.length < 100000) (k : Wp X B L rest D (sl.set i (.mu (oT t (Rs ++ [R]))))) (hN : X.N[i]? = some y := by rfl) (hv : Vis X.env.scope y := by first | exact Or.inl rfl | exact Or.inr (Or.inl rfl) | exact Or.inr (Or.inr rfl)) (hd : (y == ("__debug__" : Str)) = false := by decide)
    (hcd : (y == ("__classdict__" : Str)) = false := by decide)
    (hp : PE X (.Call (.Attribute (.Name y p1) "append" p2) [e] [] p3) (tBM X.K "list" rAppend (tVar i) (tCons (can X e) tNil)) := by exact pe_bm PySem.F.plainAttrs_list PySem.F.slot_list_append PySem.F.type_list_append mt_append (pv _) (pa_cons pcan pa_nil)) (hs : swapsWith (.Call (.Attribute (.Name y p1) "append" p2) [e] [] p3) none pos.line X.env = pure false := by rfl) :
    Wp X B L (.Expr (.Call (.Attribute (.Name y p1) "append" p2) [e] [] p3) pos :: rest) D sl :=
  wp_of (ps_expr hp hs) fun σ G H a => by
    obtain ⟨l, vs, e1, h1, h2, h3⟩ := a.sat.own i Rs ei
    refine ⟨.ref l, e1, .inl ⟨rfl, _, SqL.of h1⟩, h.can a.sat fun v G2 H2 g2 r2 => ?_⟩
    refine ⟨l, vs, v, rfl, rfl, g2.hs _ _ h1, by rw [← h3.len]; exact Nat.lt_of_lt_of_le hz (by decide), ?_⟩
    exact k σ G2 _ ((a.go g2).change ei e1 ((h3.mono g2.g).app (.cons r2 .nil)))
/-- y[j] = e -/
theorem w_store (i : Nat) {y : Str} {p1 p2 : Pos} {t : Addr → Prop} {b e : Expr} {j : Nat} (ei : sl[i]? = some (.mu (oT t Rs))) (h : Ev X e sl R) (hj : Ev X b sl (iI (j : Int))) (hlt : j < Rs.length) (k : Wp X B L rest D (sl.set i (.mu (oT t (Rs.set j R))))) (hN : X.N[i]? = some y := by rfl) (hv : Vis X.env.scope y := by first | exact Or.inl rfl | exact Or.inr (Or.inl rfl) | exact Or.inr (Or.inr rfl)) (hd : (y == ("__debug__" : Str)) = false := by decide)
    (hcd : (y == ("__classdict__" : Str)) = false := by decide)
    (hg : PG X (.Subscript (.Name y p1) b p2) (gSub (tVar i) (can X b) rSetL) := by exact pg_sub (pv _) pcan set_list) (hs : swapsWithSole [.Subscript (.Name y p1) b p2] e pos.line X.env = pure false := by rfl) (hw : swappedStores [.Subscript (.Name y p1) b p2] e X.env = pure none := by rfl)
    (h1 : (assignEach [.Subscript (.Name y p1) b p2] X.env).map (·.2) = [assign (.Subscript (.Name y p1) b p2) X.env] := by rfl) :
    Wp X B L (.Assign [.Subscript (.Name y p1) b p2] e pos :: rest) D sl :=
  wp_of (ps_asg pcan hg hs hw h1) fun σ G H a => h.can a.sat fun v G1 H1 g1 r1 => by
    obtain ⟨l, vs, e1, q1, q2, q3⟩ := (a.sat.gr g1).own i Rs ei
    refine ⟨.ref l, e1, hj.can (a.sat.gr g1) fun u G2 H2 g2 ⟨m, e2, ej⟩ => ?_⟩
    subst ej
    have hl : j < vs.length := by rw [← q3.len]; exact hlt
    refine ⟨l, vs, (j : Int), j, rfl, e2, g2.hs _ _ q1, ?_, ?_⟩
    · unfold ixN
      rw [if_pos (by omega), if_pos (by omega)]
      simp
    · exact k σ G2 _ (((a.go g1).go g2).change ei e1 ((q3.mono g2.g).set (R.m g2.g r1) j))
end
end Dl

set_option maxHeartbeats 2000000
namespace Dl
open PySem PySem.Spec PyProof.Rows L2
/-! ### what is walked: at turn i the slots js get values that are Rs i -/
def setS : L2.St → List Nat → List V → L2.St
  | σ, j :: js, v :: vs => setS (σ.set j (some v)) js vs
  | σ, _, _ => σ
def setE : List Ent → List Nat → List RV → List Ent
  | sl, j :: js, R :: Rs => setE (sl.set j (.val R)) js Rs
  | sl, _, _ => sl
theorem At.setS {B : Base} {L : Hp} {G H : Hp} : ∀ {js : List Nat} {Rs : List RV} {vs : List V} {sl : List Ent} {σ : L2.St}, At B L sl σ G H → PVs G Rs vs → At B L (setE sl js Rs) (setS σ js vs) G H
  | [], _, _, _, _, a, _ => by unfold setE Dl.setS; exact a
  | _ :: _, _, _, _, _, a, .nil => by unfold setE Dl.setS; exact a
  | j :: js, _, _, _, _, a, .cons r t => by unfold setE Dl.setS; exact At.setS (a.set j r) t
theorem Sat.setS {G H : Hp} : ∀ {js : List Nat} {Rs : List RV} {vs : List V} {sl : List Ent} {σ : L2.St}, Sat sl σ G H → PVs G Rs vs → Sat (setE sl js Rs) (setS σ js vs) G H
  | [], _, _, _, _, a, _ => by unfold setE Dl.setS; exact a
  | _ :: _, _, _, _, _, a, .nil => by unfold setE Dl.setS; exact a
  | j :: js, _, _, _, _, a, .cons r t => by unfold setE Dl.setS; exact Sat.setS (a.set j r) t
theorem wipe_at {σ : L2.St} {k : Nat} : ∀ {vs : List Nat}, k ∈ vs → k < σ.length → (wipe σ vs)[k]? = some none
  | v :: vs, h, hl => by
    unfold wipe
    by_cases e : k = v
    · subst e
      exact List.getElem?_set_self (by rw [wipe_length]; exact hl)
    · rw [List.getElem?_set_ne (Ne.symm e)]
      exact wipe_at (by cases h with | head => exact absurd rfl e | tail _ h => exact h) hl
theorem setS_len : ∀ (js : List Nat) (vs : List V) (σ : L2.St), (setS σ js vs).length = σ.length
  | [], _, _ => by unfold setS; rfl
  | _ :: _, [], _ => by unfold setS; rfl
  | j :: js, v :: vs, σ => by unfold setS; rw [setS_len js vs, List.length_set]
theorem setS_out : ∀ {js : List Nat} {vs : List V} {σ : L2.St} {k : Nat}, k ∉ js → (setS σ js vs)[k]? = σ[k]?
  | [], _, _, _, _ => by unfold setS; rfl
  | _ :: _, [], _, _, _ => by unfold setS; rfl
  | j :: js, v :: vs, σ, k, h => by
    unfold setS
    rw [setS_out fun z => h (List.mem_cons_of_mem _ z), List.getElem?_set_ne]
    intro e
    exact h (by rw [e]; exact List.mem_cons_self ..)
theorem wipe_setS {σ : L2.St} {js own : List Nat} {vs : List V} (h : ∀ j ∈ js, j ∈ own) : wipe (setS (wipe σ own) js vs) own = wipe σ own := by
  apply List.ext_getElem?
  intro k
  by_cases hk : k ∈ own
  · by_cases hl : k < σ.length
    · rw [wipe_at hk (by rw [setS_len, wipe_length]; exact hl), wipe_at hk hl]
    · rw [List.getElem?_eq_none (by rw [wipe_length, setS_len, wipe_length]; omega), List.getElem?_eq_none (by rw [wipe_length]; omega)]
  · rw [wipe_out hk, setS_out (fun z => hk (h k z)), wipe_out hk]
def wipeE (sl : List Ent) : List Nat → List Ent
  | [] => sl
  | v :: vs => (wipeE sl vs).set v .no
theorem wipeE_len (sl : List Ent) : ∀ vs, (wipeE sl vs).length = sl.length
  | [] => rfl
  | v :: vs => by unfold wipeE; rw [List.length_set, wipeE_len sl vs]
theorem wipeE_some {sl : List Ent} {i : Nat} {x : Ent} (hx : x ≠ .no) : ∀ {vs : List Nat}, (wipeE sl vs)[i]? = some x → sl[i]? = some x ∧ i ∉ vs
  | [], h => ⟨h, by simp⟩
  | v :: vs, h => by
    unfold wipeE at h
    rcases getElem?_set_cases h with ⟨_, e⟩ | ⟨n, e⟩
    · exact absurd e hx
    · obtain ⟨h1, h2⟩ := wipeE_some hx e
      exact ⟨h1, fun z => by cases z with | head => exact n rfl | tail _ z => exact h2 z⟩
theorem Sat.wipe {sl : List Ent} {σ : L2.St} {G H : Hp} (a : Sat sl σ G H) (vs : List Nat) : Sat (wipeE sl vs) (wipe σ vs) G H where
  sub := a.sub
  val := fun i R e => by
    obtain ⟨h1, h2⟩ := wipeE_some (by intro z; cases z) e
    obtain ⟨v, h3, h4⟩ := a.val i R h1
    exact ⟨v, by rw [wipe_out h2]; exact h3, h4⟩
  mu := fun i R e => by
    obtain ⟨h1, h2⟩ := wipeE_some (by intro z; cases z) e
    obtain ⟨p, v, h3, h4⟩ := a.mu i R h1
    exact ⟨p, v, by rw [wipe_out h2]; exact h3, h4⟩
  dis := fun i j Rs Rs' ne e1 e2 => by
    obtain ⟨h1, h2⟩ := wipeE_some (by intro z; cases z) e1
    obtain ⟨h3, h4⟩ := wipeE_some (by intro z; cases z) e2
    rw [wipe_out h2, wipe_out h4]
    exact a.dis i j Rs Rs' ne h1 h3
  len := by rw [wipeE_len, wipe_length]; exact a.len

structure Goes (J : It) (g : TG) (G1 : Hp) (n : Nat) (js : List Nat) (Rs : Nat → List RV) : Prop where
  go : ∀ i G H, i < n → Same G1 G → Same G H → J.go i H
  stop : ∀ G H, Same G1 G → Same G H → J.stop n H
  yld : ∀ i σ G H x H' (K : L2.St → Hp → Prop), i < n → Same G1 G → Same G H → J.yld i H x H' → (∀ vs G2 H2, Gr G H G2 H2 → PVs G2 (Rs i) vs → K (setS σ js vs) H2) → g x σ H' K
/-- the source wi, stored by g -/
def Src (wi : TI) (g : TG) (sl : List Ent) (n : Nat) (js : List Nat) (Rs : Nat → List RV) : Prop :=
  ∀ σ G H R, Sat sl σ G H → (∀ J G1 H1, Gr G H G1 H1 → Goes J g G1 n js Rs → R J H1) → wi σ H R

section
variable {X : Cx} {B : Base} {L : Hp} {sl : List Ent} {D : Ends} {pos : Pos} {rest : List Stmt} {n : Nat} {js : List Nat} {Rs : Nat → List RV} {wi : TI} {g : TG} {tg iter : Expr}
/-- the ends of a loop's body -/
abbrev dturn (D : Ends) (X : Cx) (rest : List Stmt) (B : Base) (L : Hp) (J : List Ent → Prop) : Ends := { D with nx := NX B L J, ct := NX B L J, bk := canS X rest D }
theorem w_for {body : List Stmt} (hc : X.calm = true) (hp : PassesOwn (model X.prog X.w) X.A X.env X.xe) (hi : PI X tg iter wi) (hg : PG X tg g) (hs : Src wi g sl n js Rs) (J : Nat → List Ent → Prop) (h0 : J 0 sl)
    (turn : ∀ i L' sl', i < n → J i sl' → Wp X B L' body (dturn D X rest B L' (J (i + 1))) (setE sl' js (Rs i))) (done : ∀ sl', J n sl' → Wp X B L rest D sl')
    (hf : ∀ x, foldedSetIterable iter X.env x = pure x := by intro _; rfl) : Wp X B L (.For tg iter body [] pos :: rest) D sl :=
  wp_of (ps_for hp hc hi hg pcanS hf) fun σ G H a => hs σ G H _ a.sat fun It G1 H1 g1 gs => by
    refine ⟨fun i m σ' H' => m = n - i ∧ i ≤ n ∧ NX B G1 (J i) σ' H', ⟨n, by simp, Nat.zero_le _, sl, G1, h0, ⟨(a.go g1).sat, (a.go g1).gr, Same.refl _, a.ow⟩⟩, ?_⟩
    rintro i m σ' H' ⟨rfl, hin, sl', G', hj, b⟩
    by_cases hlt : i < n
    · refine .inr ⟨gs.go i G' H' hlt b.lo b.sat.sub, NX B G1 (J (i + 1)), fun σ2 H2 nx => ⟨n - (i + 1), by omega, rfl, hlt, nx⟩, fun x H'' y => ?_⟩
      exact gs.yld i σ' G' H' x H'' _ hlt b.lo b.sat.sub y fun vs G2 H2 g2 r => turn i G1 sl' hlt hj _ G2 H2 ((b.go g2).setS r)
    · have e : i = n := by omega
      subst e
      exact .inl ⟨gs.stop G' H' b.lo b.sat.sub, done sl' hj σ' G' H' (b.down (a.lo.trans g1.g))⟩
/-- a list comprehension without a test -/
theorem e_lc {elt : Expr} {scope : Scope} {own : List (Str × Nat)} (hc : X.calm = true) (hN : X.N.Nodup) (hi : PI X tg iter wi) (ok : BlkOk X.N X.env.scope scope own)
    (hg : ∀ (s : Shared) (H : Hp) (C : Addr) (cl : List (Str × Addr)) (fp : List Addr), PG (X.blk s H scope (compEnvC scope cl C X.env) fp) tg g) (hs : Src wi g sl n js Rs) (hj : ∀ j ∈ js, j ∈ own.map (·.2)) (hn : n ≤ 90000) (d : Nat → RV)
    (he : ∀ i, i < n → ∀ (s : Shared) (H : Hp) (C : Addr) (cl : List (Str × Addr)) (fp : List Addr), Ev (X.blk s H scope (compEnvC scope cl C X.env) fp) elt (setE (wipeE sl (own.map (·.2))) js (Rs i)) (d i))
    (hf : ∀ x, foldedSetIterable iter X.env x = pure x := by intro _; rfl) : EvR X (.ListComp elt [⟨tg, iter, [], 0⟩] scope pos) sl (.l ((List.range n).map d)) :=
  evR_of (pe_lc (tt := tYes) (te := fun σ H Q => ∀ (s : Shared) (H0 : Hp) (C : Addr) (cl : List (Str × Addr)) (fp : List Addr), can (X.blk s H0 scope (compEnvC scope cl C X.env) fp) elt σ H Q) hc hN hi ok hg (fun _ _ _ _ _ => pts_nil) (fun s H C cl fp => ⟨fun pins s' σ' H' Q I h => h s H C cl fp pins s' I⟩) hf) fun σ G H Q a q => hs σ G H _ a fun It G1 H1 g1 gs D hD => by
    refine ⟨fun i m H' => m = n - i ∧ i ≤ n ∧ ∃ G' vs, Gr G1 H1 G' (upd H' D (.lst vs)) ∧ G' D = none ∧ H' D = some (.lst vs) ∧ PVs G' ((List.range i).map d) vs, ⟨n, by simp, Nat.zero_le _, G1, [], ?_, g1.s.free hD, upd_same, .nil⟩, ?_⟩
    · rw [upd_upd]; exact Gr.newOut g1.s hD
    · rintro i m H' ⟨rfl, hin, G', vs, g2, h1, h2, h3⟩
      have eH : upd H' D (.lst vs) = H' := by
        funext b
        by_cases e : b = D
        · subst e; rw [upd_same, h2]
        · rw [upd_ne e]
      rw [eH] at g2
      by_cases hlt : i < n
      · refine .inr ⟨gs.go i G' H' hlt g2.g g2.s, fun H'' => ∃ G' vs, Gr G1 H1 G' (upd H'' D (.lst vs)) ∧ G' D = none ∧ H'' D = some (.lst vs) ∧ PVs G' ((List.range (i + 1)).map d) vs, fun H'' hh => ⟨n - (i + 1), by omega, rfl, hlt, hh⟩, fun x H'' y => ?_⟩
        refine gs.yld i _ G' H' x H'' _ hlt g2.g g2.s y fun ws G2 H2 g3 r => ⟨wipe_setS hj, ?_⟩
        unfold tYes; dsimp only
        rw [if_pos rfl]
        intro s H0 C cl fp
        have sa : Sat (setE (wipeE sl (own.map (·.2))) js (Rs i)) (setS (wipe σ (own.map (·.2))) js ws) G2 H2 := Sat.setS (((a.wipe _).gr g1).gr (g2.trans g3)) r
        refine (he i hlt s H0 C cl fp).can sa fun v G3 H3 g4 rv => ?_
        have hD3 : H3 D = some (.lst vs) := g4.hs _ _ (g3.hs _ _ h2)
        have gD3 : G3 D = none := (g3.trans g4).out h2 h1
        have lv : vs.length = i := by have := h3.len; rw [List.length_map, List.length_range] at this; exact this.symm
        refine ⟨vs, hD3, Nat.lt_of_le_of_lt (by omega : vs.length ≤ 90000) (by decide), G3, vs ++ [v], ?_, gD3, upd_same, ?_⟩
        · rw [upd_upd]
          have gt : Gr G1 H1 G3 H3 := (g2.trans g3).trans g4
          refine ⟨gt.g, fun b o m e => ?_, fun b e => ?_, fun b o e => ?_, gt.n⟩
          · rw [upd_ne (ne_of_none e hD)]; exact gt.h b o m e
          · by_cases eb : b = D
            · rw [eb, upd_same]; exact fun z => nomatch z
            · rw [upd_ne eb]; exact gt.t b e
          · rw [upd_ne (fun z => by rw [z, gD3] at e; cases e)]; exact gt.s b o e
        · rw [List.range_succ, List.map_append]
          exact (h3.mono (g3.g.trans g4.g)).app (.cons rv .nil)
      · have e : i = n := by omega
        subst e
        exact .inl ⟨gs.stop G' H' g2.g g2.s, q D vs G' H' (g1.trans g2) (g1.hs.free hD) h1 h2 h3⟩
/-- a list comprehension with a test that is decided -/
theorem e_lcT {elt tst : Expr} {scope : Scope} {own : List (Str × Nat)} (hc : X.calm = true) (hN : X.N.Nodup) (hi : PI X tg iter wi) (ok : BlkOk X.N X.env.scope scope own)
    (hg : ∀ (s : Shared) (H : Hp) (C : Addr) (cl : List (Str × Addr)) (fp : List Addr), PG (X.blk s H scope (compEnvC scope cl C X.env) fp) tg g) (hs : Src wi g sl n js Rs) (hj : ∀ j ∈ js, j ∈ own.map (·.2)) (hn : n ≤ 90000) (t : Nat → Bool) (d : Nat → RV)
    (ht : ∀ i, i < n → ∀ (s : Shared) (H : Hp) (C : Addr) (cl : List (Str × Addr)) (fp : List Addr), EvT (X.blk s H scope (compEnvC scope cl C X.env) fp) tst (setE (wipeE sl (own.map (·.2))) js (Rs i)) (fun b => b = t i))
    (he : ∀ i, i < n → t i = true → ∀ (s : Shared) (H : Hp) (C : Addr) (cl : List (Str × Addr)) (fp : List Addr), Ev (X.blk s H scope (compEnvC scope cl C X.env) fp) elt (setE (wipeE sl (own.map (·.2))) js (Rs i)) (d i))
    (hf : ∀ x, foldedSetIterable iter X.env x = pure x := by intro _; rfl) : EvR X (.ListComp elt [⟨tg, iter, [tst], 0⟩] scope pos) sl (.l (((List.range n).filter t).map d)) :=
  evR_of (pe_lc (tt := fun σ H Q => ∀ (s : Shared) (H0 : Hp) (C : Addr) (cl : List (Str × Addr)) (fp : List Addr), canT (X.blk s H0 scope (compEnvC scope cl C X.env) fp) tst σ H Q) (te := fun σ H Q => ∀ (s : Shared) (H0 : Hp) (C : Addr) (cl : List (Str × Addr)) (fp : List Addr), can (X.blk s H0 scope (compEnvC scope cl C X.env) fp) elt σ H Q) hc hN hi ok hg
      (fun s H C cl fp => pts_one ⟨fun pins s' σ' H' Q I h => h s H C cl fp pins s' I⟩) (fun s H C cl fp => ⟨fun pins s' σ' H' Q I h => h s H C cl fp pins s' I⟩) hf) fun σ G H Q a q => hs σ G H _ a fun It G1 H1 g1 gs D hD => by
    refine ⟨fun i m H' => m = n - i ∧ i ≤ n ∧ ∃ G' vs, Gr G1 H1 G' (upd H' D (.lst vs)) ∧ G' D = none ∧ H' D = some (.lst vs) ∧ PVs G' (((List.range i).filter t).map d) vs, ⟨n, by simp, Nat.zero_le _, G1, [], ?_, g1.s.free hD, upd_same, .nil⟩, ?_⟩
    · rw [upd_upd]; exact Gr.newOut g1.s hD
    · rintro i m H' ⟨rfl, hin, G', vs, g2, h1, h2, h3⟩
      have eH : upd H' D (.lst vs) = H' := by
        funext b
        by_cases e : b = D
        · subst e; rw [upd_same, h2]
        · rw [upd_ne e]
      rw [eH] at g2
      by_cases hlt : i < n
      · refine .inr ⟨gs.go i G' H' hlt g2.g g2.s, fun H'' => ∃ G' vs, Gr G1 H1 G' (upd H'' D (.lst vs)) ∧ G' D = none ∧ H'' D = some (.lst vs) ∧ PVs G' (((List.range (i + 1)).filter t).map d) vs, fun H'' hh => ⟨n - (i + 1), by omega, rfl, hlt, hh⟩, fun x H'' y => ?_⟩
        refine gs.yld i _ G' H' x H'' _ hlt g2.g g2.s y fun ws G2 H2 g3 r => ⟨wipe_setS hj, fun s0 H00 C0 cl0 fp0 => ?_⟩
        have sa : Sat (setE (wipeE sl (own.map (·.2))) js (Rs i)) (setS (wipe σ (own.map (·.2))) js ws) G2 H2 := Sat.setS (((a.wipe _).gr g1).gr (g2.trans g3)) r
        refine (ht i hlt s0 H00 C0 cl0 fp0).can sa fun bb G3 H3 g4 eb => ?_
        subst eb
        have lv : vs.length ≤ i := by
          have := h3.len
          rw [List.length_map] at this
          have h5 := List.length_filter_le t (List.range i)
          rw [List.length_range] at h5
          omega
        cases et : t i with
        | true =>
          refine iteT fun s H0 C cl fp => ?_
          refine (he i hlt et s H0 C cl fp).can (sa.gr g4) fun v G4 H4 g5 rv => ?_
          have g45 := g4.trans g5
          have hD3 : H4 D = some (.lst vs) := g45.hs _ _ (g3.hs _ _ h2)
          have gD3 : G4 D = none := (g3.trans g45).out h2 h1
          refine ⟨vs, hD3, Nat.lt_of_le_of_lt (by omega : vs.length ≤ 90000) (by decide), G4, vs ++ [v], ?_, gD3, upd_same, ?_⟩
          · rw [upd_upd]
            have gt : Gr G1 H1 G4 H4 := (g2.trans g3).trans g45
            refine ⟨gt.g, fun b o m e => ?_, fun b e => ?_, fun b o e => ?_, gt.n⟩
            · rw [upd_ne (ne_of_none e hD)]; exact gt.h b o m e
            · by_cases eb : b = D
              · rw [eb, upd_same]; exact fun z => nomatch z
              · rw [upd_ne eb]; exact gt.t b e
            · rw [upd_ne (fun z => by rw [z, gD3] at e; cases e)]; exact gt.s b o e
          · rw [List.range_succ, List.filter_append, List.map_append, List.filter_cons, if_pos et]
            exact (h3.mono (g3.g.trans g45.g)).app (.cons rv .nil)
        | false =>
          refine iteF ?_
          have gt : Gr G1 H1 G3 H3 := (g2.trans g3).trans g4
          have hD3 : H3 D = some (.lst vs) := g4.hs _ _ (g3.hs _ _ h2)
          have gD3 : G3 D = none := (g3.trans g4).out h2 h1
          refine ⟨G3, vs, ?_, gD3, hD3, ?_⟩
          · have eH3 : upd H3 D (.lst vs) = H3 := by
              funext b
              by_cases e : b = D
              · subst e; rw [upd_same, hD3]
              · rw [upd_ne e]
            rw [eH3]
            exact gt
          · rw [List.range_succ, List.filter_append, List.filter_cons, if_neg (by rw [et]; decide)]
            show PVs G3 (((List.range i).filter t ++ []).map d) vs
            rw [List.append_nil]
            exact h3.mono (g3.g.trans g4.g)
      · have e : i = n := by omega
        subst e
        exact .inl ⟨gs.stop G' H' g2.g g2.s, q D vs G' H' (g1.trans g2) (g1.hs.free hD) h1 h2 h3⟩
end

/-! ### sources -/
section
variable {K : PySem.W.Frag} {sl : List Ent} {X : Cx}
theorem SqL.inj2 {G H : Hp} {l : Addr} {vs : List V} : True := trivial
theorem src_list {e : Expr} {Rs : List RV} {j : Nat} {d : RV} (h : Ev X e sl (rLst X.K Rs)) : Src (iList X.K (can X e)) (gName j) sl Rs.length [j] (fun i => [Rs.getD i d]) := fun σ G H R a k => h.can a fun v G1 H1 g1 ⟨l, vs, ev, q, r⟩ => by
  refine ⟨l, ev, ⟨vs, g1.s.seq q⟩, k _ G1 H1 g1 ⟨fun i G2 H2 hi s1 s2 => ?_, fun G2 H2 s1 s2 => ⟨vs, s2.seq (s1.seq q), by rw [r.len]; exact Nat.le_refl _⟩, fun i σ G2 H2 x H' K hi s1 s2 y kk => ?_⟩⟩
  · have hl : i < vs.length := by rw [← r.len]; exact hi
    exact ⟨vs, vs[i], s2.seq (s1.seq q), List.getElem?_eq_getElem hl⟩
  · obtain ⟨rfl, f⟩ := y
    have e1 := f vs (s2.seq (s1.seq q))
    obtain ⟨R', h1, h2⟩ := r.back e1
    refine kk [x] G2 H' (.refl s2) (.cons ?_ .nil)
    rw [List.getD_eq_getElem?_getD, h1]
    exact R'.m s1 h2
theorem src_tup {e : Expr} {Rs : List RV} {j : Nat} {d : RV} (h : Ev X e sl (rTup X.K Rs)) : Src (iTup X.K (can X e)) (gName j) sl Rs.length [j] (fun i => [Rs.getD i d]) := fun σ G H R a k => h.can a fun v G1 H1 g1 ⟨l, vs, ev, q, r⟩ => by
  refine ⟨l, ev, ⟨vs, Same.tup g1.s q⟩, k _ G1 H1 g1 ⟨fun i G2 H2 hi s1 s2 => ?_, fun G2 H2 s1 s2 => ⟨vs, Same.tup s2 (Same.tup s1 q), by rw [r.len]; exact Nat.le_refl _⟩, fun i σ G2 H2 x H' K hi s1 s2 y kk => ?_⟩⟩
  · have hl : i < vs.length := by rw [← r.len]; exact hi
    exact ⟨vs, vs[i], Same.tup s2 (Same.tup s1 q), List.getElem?_eq_getElem hl⟩
  · obtain ⟨rfl, f⟩ := y
    have e1 := f vs (Same.tup s2 (Same.tup s1 q))
    obtain ⟨R', h1, h2⟩ := r.back e1
    refine kk [x] G2 H' (.refl s2) (.cons ?_ .nil)
    rw [List.getD_eq_getElem?_getD, h1]
    exact R'.m s1 h2
theorem src_range {a : Expr} {m : Int} {j : Nat} (h : Ev X a sl (iI m)) (h1 : m < 2 ^ 62) (h2 : -(2 ^ 62) ≤ m) (he : starEach [a] X.env = [(false, eval a X.env)] := by rfl) : Src (iRng1 (canA X [a])) (gName j) sl m.toNat [j] (fun i => [iI (i : Int)]) := fun σ G H R z k => (a1 h he).can z fun vs G1 H1 g1 r => by
  obtain ⟨v, rfl, i, rfl, rfl⟩ := pv1 r
  refine ⟨_, rfl, h2, h1, k _ G1 H1 g1 ⟨fun i G2 H2 hi s1 s2 => hi, fun G2 H2 s1 s2 => Nat.le_refl _, fun i σ G2 H2 x H' K hi s1 s2 y kk => ?_⟩⟩
  obtain ⟨rfl, rfl⟩ := y
  exact kk _ G2 H' (.refl s2) (.cons ⟨_, rfl, by simp⟩ .nil)
/-- a pair that is stored into two names -/
theorem g_pair {G H : Hp} {j1 j2 : Nat} {T : Addr} {x y : V} {R1 R2 : RV} {σ : L2.St} {KK : L2.St → Hp → Prop} (s : Same G H) (hT : H T = none) (r1 : R1.r G x) (r2 : R2.r G y) (kk : ∀ vs G2 H2, Gr G H G2 H2 → PVs G2 [R1, R2] vs → KK (setS σ [j1, j2] vs) H2) :
    gTup K 2 (gCons (gName j1) (gCons (gName j2) gNil)) (.ref T) σ (upd H T (.tup [x, y])) KK :=
  ⟨T, [x, y], rfl, SqT.of upd_same, rfl, x, [y], rfl, y, [], rfl, rfl, kk [x, y] _ _ (Gr.new s hT) (.cons (R1.m (same_new (s.free hT)) r1) (.cons (R2.m (same_new (s.free hT)) r2) .nil))⟩
theorem src_enum {e : Expr} {Rs : List RV} {j1 j2 : Nat} {d : RV} (h : Ev X e sl (rLst X.K Rs)) (he : starEach [e] X.env = [(false, eval e X.env)] := by rfl) : Src (iEnum X.K (canA X [e])) (gTup X.K 2 (gCons (gName j1) (gCons (gName j2) gNil))) sl Rs.length [j1, j2] (fun i => [iI (i : Int), Rs.getD i d]) := fun σ G H R a k => (a1 h he).can a fun vs' G1 H1 g1 r' => by
  obtain ⟨v, rfl, l, vs, rfl, q, r⟩ := pv1 r'
  refine ⟨l, vs, rfl, g1.s.seq q, k _ G1 H1 g1 ⟨fun i G2 H2 hi s1 s2 => ?_, fun G2 H2 s1 s2 => ⟨vs, s2.seq (s1.seq q), by rw [r.len]; exact Nat.le_refl _⟩, fun i σ G2 H2 x H' K hi s1 s2 y kk => ?_⟩⟩
  · have hl : i < vs.length := by rw [← r.len]; exact hi
    exact ⟨vs, vs[i], s2.seq (s1.seq q), List.getElem?_eq_getElem hl⟩
  · obtain ⟨T, z, rfl, hT, rfl, f⟩ := y
    have e1 := f vs (s2.seq (s1.seq q))
    obtain ⟨R', h1, h2⟩ := r.back e1
    refine g_pair (R1 := iI (i : Int)) s2 hT ⟨_, rfl, rfl⟩ ?_ kk
    rw [List.getD_eq_getElem?_getD, h1]
    exact R'.m s1 h2
theorem src_zip {e e2 : Expr} {Rs Rs' : List RV} {j1 j2 : Nat} {d d' : RV} (h : Ev X e sl (rLst X.K Rs)) (h' : Ev X e2 sl (rLst X.K Rs')) (he : starEach [e, e2] X.env = (false, eval e X.env) :: starEach [e2] X.env := by rfl) (he' : starEach [e2] X.env = [(false, eval e2 X.env)] := by rfl) :
    Src (iZip X.K (canA X [e, e2])) (gTup X.K 2 (gCons (gName j1) (gCons (gName j2) gNil))) sl (min Rs.length Rs'.length) [j1, j2] (fun i => [Rs.getD i d, Rs'.getD i d']) := fun σ G H R a k => (a2 h h' he he').can a fun vs' G1 H1 g1 r' => by
  obtain ⟨v, v', rfl, ⟨l, vs, rfl, q, r⟩, ⟨l', ws, rfl, q', t⟩⟩ := pv2 r'
  have l1 := r.len
  have l2 := t.len
  refine ⟨l, l', vs, ws, rfl, g1.s.seq q, g1.s.seq q', k _ G1 H1 g1 ⟨fun i G2 H2 hi s1 s2 => ?_, fun G2 H2 s1 s2 => ⟨vs, ws, s2.seq (s1.seq q), s2.seq (s1.seq q'), by omega⟩, fun i σ G2 H2 x H' K hi s1 s2 y kk => ?_⟩⟩
  · have hl : i < vs.length := by omega
    have hl' : i < ws.length := by omega
    exact ⟨vs, ws, vs[i], ws[i], s2.seq (s1.seq q), s2.seq (s1.seq q'), List.getElem?_eq_getElem hl, List.getElem?_eq_getElem hl'⟩
  · obtain ⟨T, z, z', rfl, hT, rfl, f, f'⟩ := y
    obtain ⟨R1, h1, h2⟩ := r.back (f vs (s2.seq (s1.seq q)))
    obtain ⟨R2, h3, h4⟩ := t.back (f' ws (s2.seq (s1.seq q')))
    refine g_pair s2 hT ?_ ?_ kk
    · rw [List.getD_eq_getElem?_getD, h1]
      exact R1.m s1 h2
    · rw [List.getD_eq_getElem?_getD, h3]
      exact R2.m s1 h4
/-- a list of pairs, each stored into two names -/
theorem src_pairs {e : Expr} {R1 R2 : List RV} {j1 j2 : Nat} {d : RV} (h : Ev X e sl (rLst X.K (List.zipWith (fun a b => rTup X.K [a, b]) R1 R2))) : Src (iList X.K (can X e)) (gTup X.K 2 (gCons (gName j1) (gCons (gName j2) gNil))) sl (min R1.length R2.length) [j1, j2] (fun i => [R1.getD i d, R2.getD i d]) := fun σ G H R a k => h.can a fun v G1 H1 g1 ⟨l, vs, ev, q, r⟩ => by
  have lz := r.len
  rw [List.length_zipWith] at lz
  refine ⟨l, ev, ⟨vs, g1.s.seq q⟩, k _ G1 H1 g1 ⟨fun i G2 H2 hi s1 s2 => ?_, fun G2 H2 s1 s2 => ⟨vs, s2.seq (s1.seq q), by omega⟩, fun i σ G2 H2 x H' KK hi s1 s2 y kk => ?_⟩⟩
  · have hl : i < vs.length := by omega
    exact ⟨vs, vs[i], s2.seq (s1.seq q), List.getElem?_eq_getElem hl⟩
  · obtain ⟨rfl, f⟩ := y
    have e1 := f vs (s2.seq (s1.seq q))
    obtain ⟨R', h1, h2⟩ := r.back e1
    rw [List.getElem?_zipWith] at h1
    have i1 : i < R1.length := by omega
    have i2 : i < R2.length := by omega
    rw [List.getElem?_eq_getElem i1, List.getElem?_eq_getElem i2] at h1
    cases h1
    obtain ⟨T, ws, rfl, hT, hw⟩ := h2
    obtain ⟨z1, z2, rfl, k1, k2⟩ := pv2 hw
    refine ⟨T, _, rfl, Same.tup s2 (Same.tup s1 hT), rfl, z1, [z2], rfl, z2, [], rfl, rfl, kk [z1, z2] G2 H' (.refl s2) (.cons ?_ (.cons ?_ .nil))⟩
    · rw [List.getD_eq_getElem?_getD, List.getElem?_eq_getElem i1]
      exact RV.m _ s1 k1
    · rw [List.getD_eq_getElem?_getD, List.getElem?_eq_getElem i2]
      exact RV.m _ s1 k2
end
end Dl

set_option maxHeartbeats 2000000
namespace Dl
open PySem PySem.Spec PyProof.Rows L2 ClX
/-! ### defs by names -/
def Df (K : PySem.W.Frag) (mg : Str → Option Value) (x : Str) (st : Stmt) : Prop := ∃ f fd, FnP K x x st f fd ∧ mg x = some (.ref f)
section
variable {P : Program} {w : World} {K : PySem.W.Frag} {mg : Str → Option Value} {base : Heap}
theorem has_df {x : Str} {st : Stmt} {N ps : List Str} {k : Nat} {α : Type} {F : Fn α} (d : Df K mg x st) (S : FnScope N ps (defScope st))
    (hb : ∀ (kV doc pm : Value) (an : Option Addr) (cdv ct : Value) (us : List Value), us.length = ps.length → bindArgs (PySem.W.fnOf x x (defArgs st) (defBody st) (defScope st) .none kV doc pm an cdv ct) ⟨us, []⟩ = pure (ps.zip us)) (hps : F.ps = ps) (hl : ∀ a, (F.args a).length = F.ps.length)
    (body : ∀ f, Body P w K mg base x st f N k F) : Has P w K mg base (k + 1) x F := by
  obtain ⟨f, fd, h1, h2⟩ := d
  subst hps
  exact has_of h1 h2 S hl hb (body f)
end

/-! ### a def that changes its first argument and tells nothing -/
structure FnM (α : Type) where
  ps : List Str
  o0 : α → OV
  args : α → List RV
  pre : α → Prop
  o1 : α → OV
def FnM.sp {α : Type} (F : FnM α) : Sp := fun vs H Q _ => ∃ z G p o ws, Same G H ∧ vs = .ref p :: ws ∧ H p = some o ∧ G p = none ∧ (F.o0 z).r G p o ∧ PVs G (F.args z) ws ∧ F.pre z ∧
  ∀ G' H' o', Grow (fun a => a = p) G H G' H' → H' p = some o' → G' p = none → (F.o1 z).r G' p o' → Q .non H'
structure HasM (P : Program) (w : World) (K : PySem.W.Frag) (mg : Str → Option Value) (base : Heap) (k : Nat) (x : Str) {α : Type} (F : FnM α) : Prop where
  ex : ∃ f fd, mg x = some (.ref f) ∧ PySem.W.keepIn K (.ref f) = true ∧ Binds K fd F.ps [] ∧ FnOk P w K mg base CX0 k f fd F.ps F.sp
section
variable {P : Program} {w : World} {K : PySem.W.Frag} {mg : Str → Option Value} {base : Heap}
def BodyM (P : Program) (w : World) (K : PySem.W.Frag) (mg : Str → Option Value) (base : Heap) (qual : Str) (st : Stmt) (f : Addr) (N : List Str) (k : Nat) {α : Type} (F : FnM α) : Prop :=
  ∀ (cdv : Value) (A : Around) (outer : List Env) (s : Shared) (H : Hp) (E : XK) (z : α) (p : Addr) (B : Base) (L : Hp) (D : Ends), Room k (A.deeper (envOfC qual (defScope st) s.heap.objs.size f cdv)) → F.pre z →
    (∀ σ G' H' sl O, At B L sl σ G' H' → sl[0]? = some (.mu (tie p O)) → (∀ G a o, O.r G a o → (F.o1 z).r G a o) → D.nx σ H') →
    Wp (cxOf CX0 P w K mg base N qual (defScope st) f cdv A outer s H E).nox B L (defBody st) D (.mu (tie p (F.o0 z)) :: ents (N.length - 1) (F.args z))
theorem fnOk_ofM {qual x : Str} {params : Arguments} {dvs : List V} {st : Stmt} {f : Addr} {fd : FuncData} {N : List Str} {k : Nat} {α : Type} {F : FnM α} (F0 : FunD K x qual params (defBody st) (defScope st) dvs [] f fd) (S : FnScope N F.ps (defScope st)) (hl : ∀ a, (F.args a).length + 1 = F.ps.length) (hN : 0 < N.length)
    (body : BodyM P w K mg base qual st f N k F) : FnOk P w K mg base CX0 (k + 1) f fd F.ps F.sp := by
  refine FunD.ok F0 S (fun vs H Q E h => ?_) (fun cdv A outer s H vs Q E hr h => ?_)
  · obtain ⟨z, G, p, o, ws, _, rfl, _, _, _, r, _⟩ := h
    rw [List.length_cons, ← r.len, hl]
  · obtain ⟨z, G, p, o, ws, sm, rfl, hp, gp, ho, r, hpre, q⟩ := h
    refine ⟨_, PSs.nox pcanS, ?_⟩
    have ss : Sat (ents (N.length - 1) (F.args z)) (ws.map some ++ List.replicate (N.length - 1 - ws.length) none) G H := by
      have := sat_start (N := N.tail) (H := H) sm r
      unfold L2.start at this
      rw [List.length_tail] at this
      exact this
    have no : ∀ (i : Nat) O, (ents (N.length - 1) (F.args z))[i]? ≠ some (.mu O) := fun i O e => by
      unfold ents at e
      rw [List.getElem?_append] at e
      split at e
      · rw [List.getElem?_map] at e
        cases q : (F.args z)[i]? with
        | none => rw [q] at e; cases e
        | some R' => rw [q] at e; cases e
      · rw [List.getElem?_replicate] at e
        split at e <;> cases e
    have st0 : L2.start N (.ref p :: ws) = some (.ref p) :: (ws.map some ++ List.replicate (N.length - 1 - ws.length) none) := by
      unfold L2.start
      rw [List.map_cons, List.cons_append, List.length_cons, Nat.sub_add_eq, Nat.sub_right_comm]
    have sat : Sat (.mu (tie p (F.o0 z)) :: ents (N.length - 1) (F.args z)) (L2.start N (.ref p :: ws)) G H := by
      rw [st0]
      refine ⟨sm, fun i R e => ?_, fun i O e => ?_, fun i j O O' ne e1 e2 => ?_, by rw [List.length_cons, List.length_cons, ss.len]⟩
      · cases i with
        | zero => cases e
        | succ i => exact ss.val i R e
      · cases i with
        | zero => cases e; exact ⟨p, o, rfl, hp, gp, rfl, ho⟩
        | succ i => exact absurd e (no i O)
      · cases i with
        | succ i => exact absurd e1 (no i O)
        | zero => cases j with
          | zero => exact absurd rfl ne
          | succ j => exact absurd e2 (no j O')
    refine body cdv A outer s H E z p ⟨G, H, fun a => a = p⟩ G { nx := fun _ H' => Q .non H', rt := Q } hr hpre (fun σ G' H' sl O a e ho1 => ?_) (L2.start N (.ref p :: ws)) G H ⟨sat, Grow.refl sm, Same.refl _, fun i O q e eq => ?_⟩
    · obtain ⟨p', o', h1, h2, h3, rfl, h4⟩ := a.sat.mu 0 _ e
      exact q G' H' o' a.gr h2 h3 (ho1 _ _ _ h4)
    · cases i with
      | zero =>
        rw [st0] at eq
        cases eq
        exact .inl rfl
      | succ i => exact absurd e (no i O)
theorem hasM_df {x : Str} {st : Stmt} {N ps : List Str} {k : Nat} {α : Type} {F : FnM α} (d : Df K mg x st) (S : FnScope N ps (defScope st))
    (hb : ∀ (kV doc pm : Value) (an : Option Addr) (cdv ct : Value) (us : List Value), us.length = ps.length → bindArgs (PySem.W.fnOf x x (defArgs st) (defBody st) (defScope st) .none kV doc pm an cdv ct) ⟨us, []⟩ = pure (ps.zip us)) (hps : F.ps = ps) (hl : ∀ a, (F.args a).length + 1 = F.ps.length) (hN : 0 < N.length)
    (body : ∀ f, BodyM P w K mg base x st f N k F) : HasM P w K mg base (k + 1) x F := by
  obtain ⟨f, fd, h1, h2⟩ := d
  subst hps
  exact ⟨f, fd, h2, h1.kp, h1.bindsN hb, fnOk_ofM h1 S hl hN (body f)⟩
end
section
variable {X : Cx} {B : Base} {L : Hp} {sl : List Ent} {D : Ends} {pos : Pos} {rest : List Stmt} {R : RV} {Rs : List RV}
/-- the end of such a def -/
theorem w_fallM {O : OV} {p : Addr} {α : Type} {F : FnM α} {z : α} (hN : ∀ σ G' H' sl O, At B L sl σ G' H' → sl[0]? = some (.mu (tie p O)) → (∀ G a o, O.r G a o → (F.o1 z).r G a o) → D.nx σ H') (e : sl[0]? = some (.mu (tie p O))) (h : ∀ G a o, O.r G a o → (F.o1 z).r G a o) : Wp X B L [] D sl :=
  fun σ G H a pins s I => (pss_nil (X := X)).run pins s σ H D I (hN σ G H sl O a e h)
/-- what is behind a change of an object of one's own, in a call -/
theorem At.called {σ : L2.St} {G H G' H' : Hp} (a : At B L sl σ G H) {i : Nat} {O O' : OV} {p : Addr} {o : HO} (ei : sl[i]? = some (.mu O)) (es : σ[i]? = some (some (.ref p))) (g : Grow (fun b => b = p) G H G' H') (hp : H' p = some o) (gp : G' p = none) (r : O'.r G' p o) : At B L (sl.set i (.mu O')) σ G' H' := by
  obtain ⟨q, o0, h1, h2, h3, _⟩ := a.sat.mu i O ei
  rw [es] at h1
  cases h1
  have hm := a.ow i O p ei es
  refine ⟨⟨g.s, fun j R ej => ?_, fun j O2 ej => ?_, fun j l O1 O2 ne e1 e2 => ?_, by rw [List.length_set]; exact a.sat.len⟩, ⟨a.gr.g.trans g.g, fun b u m e => ?_, fun b e => g.t b (a.gr.t b e), g.s, fun b e => (g.n b (a.gr.t b e)).trans (a.gr.n b e)⟩, a.lo.trans g.g, fun j O2 q ej eq => ?_⟩
  · rcases getElem?_set_cases ej with ⟨_, z⟩ | ⟨n, z⟩
    · cases z
    · obtain ⟨v, k1, k2⟩ := a.sat.val j R z
      exact ⟨v, k1, R.m g.g k2⟩
  · rcases getElem?_set_cases ej with ⟨rfl, z⟩ | ⟨n, z⟩
    · cases z
      exact ⟨p, o, es, hp, gp, r⟩
    · obtain ⟨q, u, k1, k2, k3, k4⟩ := a.sat.mu j O2 z
      have nq : q ≠ p := fun e => by
        subst e
        exact a.sat.dis j i O2 O n z ei (k1.trans es.symm)
      exact ⟨q, u, k1, g.h q u nq k2, g.out k2 k3, O2.m g.g k4⟩
  · have f : ∀ (k : Nat) (R : OV), (sl.set i (.mu O'))[k]? = some (.mu R) → ∃ R', sl[k]? = some (.mu R') := fun k R ek => by
      rcases getElem?_set_cases ek with ⟨rfl, _⟩ | ⟨_, z⟩
      · exact ⟨_, ei⟩
      · exact ⟨_, z⟩
    obtain ⟨R1, k1⟩ := f j O1 e1
    obtain ⟨R2, k2⟩ := f l O2 e2
    exact a.sat.dis j l R1 R2 ne k1 k2
  · have k := a.gr.h b u m e
    refine g.h b u (fun z => ?_) k
    subst z
    rcases hm with z | z
    · exact m z
    · rw [z] at e; cases e
  · rcases getElem?_set_cases ej with ⟨rfl, _⟩ | ⟨_, z⟩
    · exact a.ow j O q ei eq
    · exact a.ow j O2 q z eq
/-- f(y, e, ..) as a statement, y changed -/
theorem w_callM (i : Nat) {x y : Str} {p p1 p2 : Pos} {es : List Expr} {k : Nat} {α : Type} {F : FnM α} (h : HasM X.prog X.w X.K X.mg X.base k x F) (hr : Room k X.A) (z : α) (ei : sl[i]? = some (.mu (F.o0 z))) (ha : EvA X es sl (F.args z)) (hp : F.pre z) (kk : Wp X B L rest D (sl.set i (.mu (F.o1 z)))) (hg : Gl X x := by rfl) (hdb : (x == ("__debug__" : Str)) = false := by decide)
    (hN : X.N[i]? = some y := by rfl) (hv : Vis X.env.scope y := by first | exact Or.inl rfl | exact Or.inr (Or.inl rfl) | exact Or.inr (Or.inr rfl)) (hd : (y == ("__debug__" : Str)) = false := by decide) (hcd : (y == ("__classdict__" : Str)) = false := by decide)
    (he : starEach (.Name y p1 :: es) X.env = (false, eval (.Name y p1) X.env) :: starEach es X.env := by rfl) (hpl : (backTo p2 (starEach es X.env)).any (·.1) = false := by rfl) (hs : swapsWith (.Call (.Name x p) (.Name y p1 :: es) [] p2) none pos.line X.env = pure false := by rfl) :
    Wp X B L (.Expr (.Call (.Name x p) (.Name y p1 :: es) [] p2) pos :: rest) D sl := by
  obtain ⟨f, fd, hm, hk, hb, ok⟩ := h.ex
  refine wp_of (ps_expr (pe_call ok hr hg hm hk hb .nil pass0 (pa_cons (pe_var hN hv hd hcd) pcanA he) hdb he hpl) hs) fun σ G H a => ?_
  obtain ⟨q, o, h1, h2, h3, h4⟩ := a.sat.mu i _ ei
  refine ⟨.ref q, h1, ha.can a.sat fun vs G1 H1 g1 r1 => ?_⟩
  show F.sp ((.ref q :: vs) ++ []) H1 _ E0
  rw [List.append_nil]
  have a1 := a.go g1
  refine ⟨z, G1, q, o, vs, g1.s, rfl, g1.hs _ _ h2, g1.out h2 h3, OV.m _ g1.g h4, r1, hp, fun G2 H2 o2 g2 k1 k2 k3 => ?_⟩
  exact kk σ G2 H2 (a1.called ei h1 g2 k1 k2 k3)

/-! ### slots that are opened -/
theorem w_open (i : Nat) {st : List Stmt} {α : Type} {P : α → Prop} {R : α → RV} (e : sl[i]? = some (.val (rX P R))) (k : ∀ x, P x → Wp X B L st D (sl.set i (.val (R x)))) : Wp X B L st D sl := fun σ G H a => by
  obtain ⟨v, h1, x, px, r⟩ := a.sat.val i _ e
  have b := a.set i (R := R x) r
  have es : σ.set i (some v) = σ := by
    apply List.ext_getElem?
    intro j
    by_cases q : j = i
    · subst q
      rw [h1]
      exact List.getElem?_set_self (List.getElem?_eq_some_iff.mp h1).1
    · rw [List.getElem?_set_ne (Ne.symm q)]
  rw [es] at b
  exact k x px σ G H b
theorem w_weak (i : Nat) {st : List Stmt} {R R' : RV} (e : sl[i]? = some (.val R)) (h : R.le R') (k : Wp X B L st D (sl.set i (.val R'))) : Wp X B L st D sl := fun σ G H a => by
  obtain ⟨v, h1, r⟩ := a.sat.val i _ e
  have b := a.set i (R := R') (h _ _ r)
  have es : σ.set i (some v) = σ := by
    apply List.ext_getElem?
    intro j
    by_cases q : j = i
    · subst q
      rw [h1]
      exact List.getElem?_set_self (List.getElem?_eq_some_iff.mp h1).1
    · rw [List.getElem?_set_ne (Ne.symm q)]
  rw [es] at b
  exact k σ G H b
/-- x, y = e1, e2 -/
theorem w_par (i j : Nat) {x y : Str} {a b : Expr} {px py pt : Pos} {kt k2 pt2} {R1 R2 : RV} (hc : X.calm = true) (hN : X.N.Nodup) (h1 : Ev X a sl R1) (h2 : Ev X b sl R2) (k : Wp X B L rest D ((sl.set i (.val R1)).set j (.val R2))) (hi : X.N[i]? = some x := by rfl) (hj : X.N[j]? = some y := by rfl) (hij : i ≠ j := by decide)
    (hx : X.env.scope.names.lookup x = some .local := by rfl) (hy : X.env.scope.names.lookup y = some .local := by rfl) (hw : swappedStores [.Tuple [.Name x px, .Name y py] kt pt] (.Tuple [a, b] k2 pt2) X.env = pure (some [x, y]) := by rfl)
    (hs : swapsWithSole [.Tuple [.Name x px, .Name y py] kt pt] (.Tuple [a, b] k2 pt2) pos.line X.env = pure false := by rfl) (he : starEach [a, b] X.env = (false, eval a X.env) :: starEach [b] X.env := by rfl) (he' : starEach [b] X.env = [(false, eval b X.env)] := by rfl) :
    Wp X B L (.Assign [.Tuple [.Name x px, .Name y py] kt pt] (.Tuple [a, b] k2 pt2) pos :: rest) D sl :=
  wp_of (ps_par hc hN hi hj hij hx hy (pa_cons pcan (pa_cons pcan pa_nil he') he) hw hs) fun σ G H z => h1.can z.sat fun v G1 H1 g1 r1 => h2.can (z.sat.gr g1) fun u G2 H2 g2 r2 =>
    ⟨v, u, rfl, k _ G2 H2 ((((z.go g1).go g2).set i (R1.m g2.g r1)).set j r2)⟩
/-- .., the first one a list of one's own -/
theorem w_parO (i j : Nat) {x y : Str} {a b : Expr} {px py pt : Pos} {kt k2 pt2} {R2 : RV} (hc : X.calm = true) (hN : X.N.Nodup) (h1 : EvR X a sl (.l Rs)) (h2 : Ev X b sl R2) (k : Wp X B L rest D ((sl.set i (.own Rs)).set j (.val R2))) (hi : X.N[i]? = some x := by rfl) (hj : X.N[j]? = some y := by rfl) (hij : i ≠ j := by decide)
    (hx : X.env.scope.names.lookup x = some .local := by rfl) (hy : X.env.scope.names.lookup y = some .local := by rfl) (hw : swappedStores [.Tuple [.Name x px, .Name y py] kt pt] (.Tuple [a, b] k2 pt2) X.env = pure (some [x, y]) := by rfl)
    (hs : swapsWithSole [.Tuple [.Name x px, .Name y py] kt pt] (.Tuple [a, b] k2 pt2) pos.line X.env = pure false := by rfl) (he : starEach [a, b] X.env = (false, eval a X.env) :: starEach [b] X.env := by rfl) (he' : starEach [b] X.env = [(false, eval b X.env)] := by rfl) :
    Wp X B L (.Assign [.Tuple [.Name x px, .Name y py] kt pt] (.Tuple [a, b] k2 pt2) pos :: rest) D sl :=
  wp_of (ps_par hc hN hi hj hij hx hy (pa_cons pcan (pa_cons pcan pa_nil he') he) hw hs) fun σ G H z => h1.can z.sat fun p vs G1 H1 g1 n1 n2 e1 r1 => h2.can (z.sat.gr g1) fun u G2 H2 g2 r2 =>
    ⟨.ref p, u, rfl, k _ G2 H2 ((z.setOwn (g1.trans g2) i n1 (g2.out e1 n2) (g2.hs _ _ e1) (r1.mono g2.g)).set j r2)⟩
/-- x, y, z = e, a tuple of three -/
theorem w_un3 (i j l : Nat) {x y z : Str} {e : Expr} {px py pz pt : Pos} {kt} {R1 R2 R3 : RV} (hc : X.calm = true) (hN : X.N.Nodup) (h : Ev X e sl (rTup X.K [R1, R2, R3])) (k : Wp X B L rest D (((sl.set i (.val R1)).set j (.val R2)).set l (.val R3))) (hi : X.N[i]? = some x := by rfl) (hj : X.N[j]? = some y := by rfl) (hl : X.N[l]? = some z := by rfl)
    (hx : X.env.scope.names.lookup x = some .local := by rfl) (hy : X.env.scope.names.lookup y = some .local := by rfl) (hz : X.env.scope.names.lookup z = some .local := by rfl)
    (hs : swapsWithSole [.Tuple [.Name x px, .Name y py, .Name z pz] kt pt] e pos.line X.env = pure false := by rfl) (hw : swappedStores [.Tuple [.Name x px, .Name y py, .Name z pz] kt pt] e X.env = pure none := by rfl)
    (h1 : (assignEach [.Tuple [.Name x px, .Name y py, .Name z pz] kt pt] X.env).map (·.2) = [assign (.Tuple [.Name x px, .Name y py, .Name z pz] kt pt) X.env] := by rfl) : Wp X B L (.Assign [.Tuple [.Name x px, .Name y py, .Name z pz] kt pt] e pos :: rest) D sl :=
  wp_of (ps_asg pcan (pg_tup hc (pgs_cons (pg_name (i := i) hN hi (.inl hx) (.inr hx)) (pgs_cons (pg_name (i := j) hN hj (.inl hy) (.inr hy)) (pgs_cons (pg_name (i := l) hN hl (.inl hz) (.inr hz)) pgs_nil)))) hs hw h1) fun σ G H a => h.can a.sat fun v G1 H1 g1 ⟨t, vs, e1, q1, r1⟩ => by
    cases r1 with
    | cons k1 r1 => cases r1 with
      | cons k2 r1 => cases r1 with
        | cons k3 r1 =>
          cases r1
          exact ⟨t, _, e1, Same.tup g1.s q1, rfl, _, _, rfl, _, _, rfl, _, _, rfl, rfl, k _ G1 H1 ((((a.go g1).set i k1).set j k2).set l k3)⟩
/-- x, y = e, a tuple of two -/
theorem w_un2 (i j : Nat) {x y : Str} {e : Expr} {px py pt : Pos} {kt} {R1 R2 : RV} (hc : X.calm = true) (hN : X.N.Nodup) (h : Ev X e sl (rTup X.K [R1, R2])) (k : Wp X B L rest D ((sl.set i (.val R1)).set j (.val R2))) (hi : X.N[i]? = some x := by rfl) (hj : X.N[j]? = some y := by rfl)
    (hx : X.env.scope.names.lookup x = some .local := by rfl) (hy : X.env.scope.names.lookup y = some .local := by rfl)
    (hs : swapsWithSole [.Tuple [.Name x px, .Name y py] kt pt] e pos.line X.env = pure false := by rfl) (hw : swappedStores [.Tuple [.Name x px, .Name y py] kt pt] e X.env = pure none := by rfl)
    (h1 : (assignEach [.Tuple [.Name x px, .Name y py] kt pt] X.env).map (·.2) = [assign (.Tuple [.Name x px, .Name y py] kt pt) X.env] := by rfl) : Wp X B L (.Assign [.Tuple [.Name x px, .Name y py] kt pt] e pos :: rest) D sl :=
  wp_of (ps_asg pcan (pg_tup hc (pgs_cons (pg_name (i := i) hN hi (.inl hx) (.inr hx)) (pgs_cons (pg_name (i := j) hN hj (.inl hy) (.inr hy)) pgs_nil))) hs hw h1) fun σ G H a => h.can a.sat fun v G1 H1 g1 ⟨t, vs, e1, q1, r1⟩ => by
    obtain ⟨u1, u2, rfl, k1, k2⟩ := pv2 r1
    exact ⟨t, _, e1, Same.tup g1.s q1, rfl, _, _, rfl, _, _, rfl, rfl, k _ G1 H1 (((a.go g1).set i k1).set j k2)⟩
/-- x, y = e, a list of two -/
theorem w_unl2 (i j : Nat) {x y : Str} {e : Expr} {px py pt : Pos} {kt} {R1 R2 : RV} (hc : X.calm = true) (hN : X.N.Nodup) (h : Ev X e sl (rLst X.K [R1, R2])) (k : Wp X B L rest D ((sl.set i (.val R1)).set j (.val R2))) (hi : X.N[i]? = some x := by rfl) (hj : X.N[j]? = some y := by rfl)
    (hx : X.env.scope.names.lookup x = some .local := by rfl) (hy : X.env.scope.names.lookup y = some .local := by rfl)
    (hs : swapsWithSole [.Tuple [.Name x px, .Name y py] kt pt] e pos.line X.env = pure false := by rfl) (hw : swappedStores [.Tuple [.Name x px, .Name y py] kt pt] e X.env = pure none := by rfl)
    (h1 : (assignEach [.Tuple [.Name x px, .Name y py] kt pt] X.env).map (·.2) = [assign (.Tuple [.Name x px, .Name y py] kt pt) X.env] := by rfl) : Wp X B L (.Assign [.Tuple [.Name x px, .Name y py] kt pt] e pos :: rest) D sl :=
  wp_of (ps_asg pcan (pg_unl hc (pgs_cons (pg_name (i := i) hN hi (.inl hx) (.inr hx)) (pgs_cons (pg_name (i := j) hN hj (.inl hy) (.inr hy)) pgs_nil))) hs hw h1) fun σ G H a => h.can a.sat fun v G1 H1 g1 ⟨t, vs, e1, q1, r1⟩ => by
    obtain ⟨u1, u2, rfl, k1, k2⟩ := pv2 r1
    exact ⟨t, _, e1, g1.s.seq q1, rfl, _, _, rfl, _, _, rfl, rfl, k _ G1 H1 (((a.go g1).set i k1).set j k2)⟩
/-- name = [..] -/
theorem w_setLc (i : Nat) {x : Str} {elt tg iter : Expr} {ifs : List Expr} {scope : Scope} {p' p2 : Pos} {r : Res} (J : L2.St → Hp → VK → Prop) {own : List (Str × Nat)} {wi : TI} {g : TG} {tt : TT} {te : TE} (hc : X.calm = true) (hN : X.N.Nodup) (hi : X.N[i]? = some x) (hx : X.env.scope.names.lookup x = some .local)
    (hsw : swapsWith (.ListComp elt [⟨tg, iter, ifs, 0⟩] scope p2) (some (.Name x p')) pos.line X.env = pure true) : True := trivial
end

/-! ### instances -/
abbrev PFs (G : Hp) (fs : List (Str × RV)) (vs : List (Str × V)) : Prop := Paired (fun (a : Str × RV) (b : Str × V) => a.1 = b.1 ∧ a.2.r G b.2) fs vs
theorem PFs.mono {G G' : Hp} (s : Same G G') {fs : List (Str × RV)} {vs : List (Str × V)} (h : PFs G fs vs) : PFs G' fs vs := Paired.imp (fun R _ ⟨e, z⟩ => ⟨e, R.2.m s z⟩) h
theorem PFs.look {G : Hp} {f : Str} : ∀ {fs : List (Str × RV)} {vs : List (Str × V)} {R : RV}, PFs G fs vs → fs.lookup f = some R → ∃ v, vs.lookup f = some v ∧ R.r G v
  | _, _, _, .nil, e => by cases e
  | (g, R0) :: _, (g', v0) :: _, R, .cons ⟨e1, r⟩ t, e => by
    have e1' : g = g' := e1
    subst e1'
    cases q : (f == g) with
    | true =>
      simp only [List.lookup, q] at e ⊢
      cases e
      exact ⟨v0, rfl, r⟩
    | false =>
      simp only [List.lookup, q] at e ⊢
      exact PFs.look t e
theorem PFs.miss {G : Hp} {f : Str} : ∀ {fs : List (Str × RV)} {vs : List (Str × V)}, PFs G fs vs → fs.lookup f = none → vs.lookup f = none
  | _, _, .nil, _ => rfl
  | (g, R0) :: _, (g', v0) :: _, .cons ⟨e1, r⟩ t, e => by
    have e1' : g = g' := e1
    subst e1'
    cases q : (f == g) with
    | true => simp only [List.lookup, q] at e; cases e
    | false =>
      simp only [List.lookup, q] at e ⊢
      exact PFs.miss t e
def putR (f : Str) (R : RV) : List (Str × RV) → List (Str × RV)
  | [] => [(f, R)]
  | (g, x) :: r => if g = f then (g, R) :: r else (g, x) :: putR f R r
theorem PFs.put {G : Hp} {f : Str} {R : RV} {v : V} (r : R.r G v) : ∀ {fs : List (Str × RV)} {vs : List (Str × V)}, PFs G fs vs → PFs G (putR f R fs) (putF f v vs)
  | _, _, .nil => .cons ⟨rfl, r⟩ .nil
  | (g, R0) :: _, (g', v0) :: _, .cons ⟨e1, r0⟩ t => by
    have e1' : g = g' := e1
    subst e1'
    unfold putR putF
    by_cases q : g = f
    · rw [if_pos q, if_pos q]; exact .cons ⟨rfl, r⟩ t
    · rw [if_neg q, if_neg q]; exact .cons ⟨rfl, r0⟩ (PFs.put r t)
def oI (C : Addr) (fs : List (Str × RV)) : OV := ⟨fun G _ o => ∃ dx vs, o = .ins C dx vs ∧ PFs G fs vs, fun s ⟨dx, vs, e, p⟩ => ⟨dx, vs, e, p.mono s⟩⟩
def rIns (C : Addr) (fs : List (Str × RV)) : RV := ⟨fun G v => ∃ a dx vs, v = .ref a ∧ G a = some (.ins C dx vs) ∧ PFs G fs vs, fun s ⟨a, dx, vs, e, h, p⟩ => ⟨a, dx, vs, e, s _ _ h, p.mono s⟩⟩
section
variable {X : Cx} {sl : List Ent} {C : Addr} {fs : List (Str × RV)} {f : Str} {R : RV} {Rs : List RV} {o e a b c : Expr} {es : List Expr} {pos apos p : Pos} {k : Nat} {α : Type}
theorem e_fld (h : Ev X o sl (rIns C fs)) (c : Cls X.K C) (n : NoAttr X.K C f) (hl : fs.lookup f = some R) (hb : attributeBase o f X.env (eval o X.env) = eval o X.env := by rfl) : Ev X (.Attribute o f pos) sl R :=
  ev_of (pe_fld pcan hb) fun σ G H Q z k => h.can z fun v G1 H1 g1 ⟨a, dx, vs, e1, h1, h2⟩ => by
    obtain ⟨u, k1, k2⟩ := h2.look hl
    exact ⟨a, C, dx, vs, u, e1, g1.s _ _ h1, c, n, k1, k u G1 H1 g1 k2⟩
structure HasMe (P : Program) (w : World) (K : PySem.W.Frag) (mg : Str → Option Value) (base : Heap) (k : Nat) (C : Addr) (m : Str) (F : Fn α) : Prop where
  ex : ∃ f fd, Meth K C m f ∧ Binds K fd F.ps [] ∧ FnOk P w K mg base CX0 k f fd F.ps F.sp
theorem e_meth0 {F : Fn α} (h : HasMe X.prog X.w X.K X.mg X.base k C f F) (hr : Room k X.A) (c : Cls X.K C) (z : α) (ho : Ev X o sl (rIns C fs)) (hz : F.args z = [rIns C fs]) (hl : fs.lookup f = none) (hp : F.pre z) {pl : Sem Bool}
    (ht : eval (.Call (.Attribute o f apos) [] [] pos) X.env = (do
      let ov ← eval o X.env
      standAt apos.atName
      let (f, first) ← holding [ov] (getMethod ov f pl)
      callWith pos f first (backTo pos (starEach [] X.env)) (backToKw pos (keywordEach [] X.env))) := by rfl) : EvR X (.Call (.Attribute o f apos) [] [] pos) sl (F.res z) := by
  obtain ⟨g, fd, hm, hb, ok⟩ := h.ex
  refine evR_of (pe_meth0 pcan c hm ok hr hb .nil pass0 ht) fun σ G H Q s q => ho.can s fun v G1 H1 g1 r => ?_
  obtain ⟨a, dx, vs, e1, h1, h2⟩ := id r
  refine ⟨a, dx, vs, e1, g1.s _ _ h1, h2.miss hl, z, G1, g1.s, ?_, hp, q.gr g1⟩
  rw [hz]
  exact .cons r .nil
theorem e_meth {F : Fn α} (h : HasMe X.prog X.w X.K X.mg X.base k C f F) (hr : Room k X.A) (c : Cls X.K C) (z : α) (ho : Ev X o sl (rIns C fs)) (ha : EvA X (e :: es) sl Rs) (hz : F.args z = rIns C fs :: Rs) (hl : fs.lookup f = none) (hp : F.pre z) {pl : Sem Bool}
    (hst : starEach (e :: es) X.env = (false, eval e X.env) :: starEach es X.env := by rfl) (hpl : (backTo pos (starEach es X.env)).any (·.1) = false := by rfl)
    (ht : eval (.Call (.Attribute o f apos) (e :: es) [] pos) X.env = (do
      let ov ← eval o X.env
      standAt apos.atName
      let (f, first) ← holding [ov] (getMethod ov f pl)
      callWith pos f first (backTo pos (starEach (e :: es) X.env)) (backToKw pos (keywordEach [] X.env))) := by rfl) : EvR X (.Call (.Attribute o f apos) (e :: es) [] pos) sl (F.res z) := by
  obtain ⟨g, fd, hm, hb, ok⟩ := h.ex
  refine evR_of (pe_meth pcan c hm ok hr hb .nil pass0 pcanA hst hpl ht) fun σ G H Q s q => ho.can s fun v G1 H1 g1 r => ?_
  obtain ⟨a, dx, vs, e1, h1, h2⟩ := id r
  refine ⟨a, dx, vs, e1, g1.s _ _ h1, h2.miss hl, ha.can (s.gr g1) fun ws G2 H2 g2 r2 => ⟨z, G2, g2.s, ?_, hp, (q.gr g1).gr g2⟩⟩
  rw [hz, List.append_nil]
  exact .cons ((rIns C fs).m g2.g r) r2
structure HasPr (P : Program) (w : World) (K : PySem.W.Frag) (mg : Str → Option Value) (base : Heap) (k : Nat) (C : Addr) (m : Str) (F : Fn α) : Prop where
  ex : ∃ q g fd, PropOf K C m q g ∧ Binds K fd F.ps [] ∧ FnOk P w K mg base CX0 k g fd F.ps F.sp
theorem e_prop {F : Fn α} (h : HasPr X.prog X.w X.K X.mg X.base k C f F) (hr : Room (k + 1) X.A) (c : Cls X.K C) (z : α) (ho : Ev X o sl (rIns C fs)) (hz : F.args z = [rIns C fs]) (hp : F.pre z) (hab : attributeBase o f X.env (eval o X.env) = eval o X.env := by rfl) : EvR X (.Attribute o f pos) sl (F.res z) := by
  obtain ⟨q, g, fd, hq, hb, ok⟩ := h.ex
  refine evR_of (pe_prop pcan c hq ok hr hb .nil pass0 hab) fun σ G H Q s q => ho.can s fun v G1 H1 g1 r => ?_
  obtain ⟨a, dx, vs, e1, h1, h2⟩ := id r
  refine ⟨a, dx, vs, e1, g1.s _ _ h1, z, G1, g1.s, ?_, hp, q.gr g1⟩
  rw [hz]
  rw [e1] at r
  exact .cons r .nil
/-- a constant of a class -/
theorem e_cval {x : Str} {v : V} {mc u : Value} (hm : X.mg x = some (.ref C)) (r : CRead X.K C mc) (cv : CVal X.K C mc f v u) (hR : ∀ G, R.r G v) (hg : Gl X x := by rfl) (hd : (x == ("__debug__" : Str)) = false := by decide) (hb : attributeBase (.Name x p) f X.env (eval (.Name x p) X.env) = eval (.Name x p) X.env := by rfl) : Ev X (.Attribute (.Name x p) f pos) sl R :=
  ev_of (pe_cval (pe_glob (v := .ref C) hg hm rfl hd) hb) fun σ G H Q z k => ⟨C, mc, v, u, rfl, r, cv, k v G H (.refl z.sub) (hR G)⟩
/-- C(e, ..) -/
structure HasMk (P : Program) (w : World) (K : PySem.W.Frag) (mg : Str → Option Value) (base : Heap) (k : Nat) (C : Addr) (F : FnM α) : Prop where
  ex : ∃ f fd, Mk K C f ∧ Binds K fd F.ps [] ∧ FnOk P w K mg base CX0 k f fd F.ps F.sp
theorem e_make {x : Str} {F : FnM α} {fs : α → List (Str × RV)} (h : HasMk X.prog X.w X.K X.mg X.base k C F) (hr : Room (k + 1) X.A) (hm : X.mg x = some (.ref C)) (z : α) (ha : EvA X (e :: es) sl (F.args z)) (h0 : F.o0 z = oI C []) (h1 : F.o1 z = oI C (fs z)) (hp : F.pre z) (hg : Gl X x := by rfl) (hdb : (x == ("__debug__" : Str)) = false := by decide)
    (he : starEach (e :: es) X.env = (false, eval e X.env) :: starEach es X.env := by rfl) (hpl : (backTo pos (starEach es X.env)).any (·.1) = false := by rfl) : Ev X (.Call (.Name x p) (e :: es) [] pos) sl (rIns C (fs z)) := by
  obtain ⟨f, fd, mk, hb, ok⟩ := h.ex
  refine ev_of (pe_make mk ok hr hg hm hb .nil pass0 pcanA hdb he hpl) fun σ G H Q s q => ha.can s fun vs G1 H1 g1 r1 x dx nx nd ne => ?_
  rw [List.append_nil]
  have gx : G1 x = none := g1.s.free nx
  have gd : G1 dx = none := g1.s.free nd
  have s1 : Same H1 (upd (upd H1 dx (.own x)) x (.ins C dx [])) := fun b o e => by
    rw [upd_ne (ne_of_none e nx), upd_ne (ne_of_none e nd)]
    exact e
  refine ⟨z, G1, x, _, vs, g1.s.trans s1, rfl, upd_same, gx, by rw [h0]; exact ⟨dx, [], rfl, .nil⟩, r1, hp, fun G2 H2 o2 g2 k1 k2 k3 => ⟨rfl, ?_⟩⟩
  rw [h1] at k3
  obtain ⟨dx2, ws, rfl, k4⟩ := k3
  refine q (.ref x) (upd G2 x (.ins C dx2 ws)) H2 (g1.trans ⟨g2.g.trans (same_new k2), fun b u _ e => ?_, fun b e => ?_, fun b u e => ?_, fun b e => ?_⟩) ⟨x, dx2, ws, rfl, upd_same, k4.mono (same_new k2)⟩
  · exact g2.h b u (ne_of_none e nx) (s1 b u e)
  · cases qq : H1 b with
    | none => exact absurd qq e
    | some u => exact g2.t b (by rw [s1 b u qq]; exact fun z => nomatch z)
  · by_cases qb : b = x
    · subst qb; rw [upd_same] at e; rw [k1]; exact e
    · rw [upd_ne qb] at e; exact g2.s b u e
  · cases qq : H1 b with
    | none => exact absurd qq e
    | some u =>
      rw [upd_ne (ne_of_none qq nx)]
      exact g2.n b (by rw [s1 b u qq]; exact fun z => nomatch z)
end
section
variable {X : Cx} {B : Base} {L : Hp} {sl : List Ent} {D : Ends} {pos : Pos} {rest : List Stmt} {R : RV} {C : Addr} {fs : List (Str × RV)}
/-- self.f = e -/
theorem w_fld (i : Nat) {y f : Str} {e : Expr} {p1 p2 : Pos} {p : Addr} (ei : sl[i]? = some (.mu (tie p (oI C fs)))) (h : Ev X e sl R) (c : Cls X.K C) (n : NoAttr X.K C f) (hz : fs.length < 1000) (k : Wp X B L rest D (sl.set i (.mu (tie p (oI C (putR f R fs)))))) (hN : X.N[i]? = some y := by rfl) (hv : Vis X.env.scope y := by first | exact Or.inl rfl | exact Or.inr (Or.inl rfl) | exact Or.inr (Or.inr rfl)) (hd : (y == ("__debug__" : Str)) = false := by decide) (hcd : (y == ("__classdict__" : Str)) = false := by decide)
    (hs : swapsWith e (some (.Attribute (.Name y p1) f p2)) pos.line X.env = pure false := by rfl) : Wp X B L (.Assign [.Attribute (.Name y p1) f p2] e pos :: rest) D sl :=
  wp_of (ps_fld (pe_var hN hv hd hcd) pcan hs) fun σ G H a => h.can a.sat fun v G1 H1 g1 r1 => by
    obtain ⟨q, o, h1, h2, h3, rfl, dx, vs, rfl, h4⟩ := a.sat.mu i _ ei
    have h4' := h4.mono g1.g
    refine ⟨.ref q, h1, q, C, dx, vs, rfl, g1.hs _ _ h2, c, n, ?_, ?_⟩
    · have : fs.length = vs.length := Paired.length h4
      omega
    · exact k σ G1 _ ((a.go g1).changeM ei h1 ⟨rfl, dx, _, rfl, h4'.put r1⟩)
end

/-! ### equality of data -/
def RV.Py (K : PySem.W.Frag) (R : RV) (d : PyData) : Prop := ∀ G v, R.r G v → Dp K G v d
theorem Dp.same {K : PySem.W.Frag} {G H : Hp} (s : Same G H) : ∀ (d : PyData) (v : V), Dp K G v d → Dp K H v d := by
  intro d v h
  refine Dp.rec (motive_1 := fun v d _ => Dp K H v d) (motive_2 := fun vs ds _ => DpAll K H vs ds) .non .bl .int .str (fun h _ ih => .lst (s.seq h) ih) (fun h _ ih => .tup (Same.tup s h) ih) .nil (fun _ _ h1 h2 => .cons h1 h2) h
theorem py_int {K : PySem.W.Frag} (n : Int) : (iI n).Py K (.int n) := fun _ _ ⟨i, e, p⟩ => by subst e; subst p; exact .int _
theorem py_str {K : PySem.W.Frag} (n : Str) : (iS n).Py K (.str n) := fun _ _ ⟨i, e, p⟩ => by subst e; subst p; exact .str _
theorem py_bool {K : PySem.W.Frag} (n : Bool) : (iB n).Py K (.bool n) := fun _ _ ⟨i, e, p⟩ => by subst e; subst p; exact .bl _
theorem py_non {K : PySem.W.Frag} : iN.Py K .none := fun _ _ e => by cases (show _ = V.non from e); exact .non
theorem py_all {K : PySem.W.Frag} {α : Type} {c : α → RV} {t : α → PyData} {G : Hp} : ∀ {xs : List α} {vs : List V}, (∀ x ∈ xs, (c x).Py K (t x)) → PVs G (xs.map c) vs → DpAll K G vs (xs.map t)
  | [], _, _, .nil => .nil
  | x :: xs, _, h, .cons r q => .cons (h x (List.mem_cons_self ..) _ _ r) (py_all (fun y hy => h y (List.mem_cons_of_mem _ hy)) q)
theorem py_lst {K : PySem.W.Frag} {α : Type} {c : α → RV} {t : α → PyData} {xs : List α} (h : ∀ x ∈ xs, (c x).Py K (t x)) : (rLst K (xs.map c)).Py K (.list (xs.map t)) := fun G v ⟨a, vs, e, q, r⟩ => by subst e; exact .lst q (py_all h r)
theorem py_tup {K : PySem.W.Frag} {α : Type} {c : α → RV} {t : α → PyData} {xs : List α} (h : ∀ x ∈ xs, (c x).Py K (t x)) : (rTup K (xs.map c)).Py K (.tuple (xs.map t)) := fun G v ⟨a, vs, e, q, r⟩ => by subst e; exact .tup q (py_all h r)
section
variable {X : Cx} {sl : List Ent} {a b : Expr} {pos : Pos} {Ra Rb : RV} {d e : PyData} {P : Bool → Prop}
theorem e_eqD (hu : X.A.units + 64 < cLine) (ha : Ev X a sl Ra) (hb : Ev X b sl Rb) (pa : Ra.Py X.K d) (pb : Rb.Py X.K e) (sd : SeqAt.shaped d = true) (se : SeqAt.shaped e = true) : Ev X (.Compare a [.Eq] [b] pos) sl (iB (PyData.eqv d e)) :=
  e_cmp (op_eqD hu) (nomark _) ha hb fun x y G H Q s rx ry k => ⟨d, e, Dp.same s _ _ (pa _ _ rx), Dp.same s _ _ (pb _ _ ry), sd, se, k _ G H (.refl s) ⟨_, rfl, rfl⟩⟩
theorem t_eqD (hu : X.A.units + 64 < cLine) (ha : Ev X a sl Ra) (hb : Ev X b sl Rb) (pa : Ra.Py X.K d) (pb : Rb.Py X.K e) (sd : SeqAt.shaped d = true) (se : SeqAt.shaped e = true) : EvT X (.Compare a [.Eq] [b] pos) sl (fun z => z = PyData.eqv d e) :=
  t_cmp (op_eqD hu) (nomark _) ha hb fun x y G H Q s rx ry k => ⟨d, e, Dp.same s _ _ (pa _ _ rx), Dp.same s _ _ (pb _ _ ry), sd, se, k _ G H (.refl s) ⟨_, rfl, rfl⟩⟩
theorem e_neD (hu : X.A.units + 64 < cLine) (ha : Ev X a sl Ra) (hb : Ev X b sl Rb) (pa : Ra.Py X.K d) (pb : Rb.Py X.K e) (sd : SeqAt.shaped d = true) (se : SeqAt.shaped e = true) : Ev X (.Compare a [.NotEq] [b] pos) sl (iB (!PyData.eqv d e)) :=
  e_cmp (op_neD hu) (nomark _) ha hb fun x y G H Q s rx ry k => ⟨d, e, Dp.same s _ _ (pa _ _ rx), Dp.same s _ _ (pb _ _ ry), sd, se, k _ G H (.refl s) ⟨_, rfl, rfl⟩⟩
theorem t_neD (hu : X.A.units + 64 < cLine) (ha : Ev X a sl Ra) (hb : Ev X b sl Rb) (pa : Ra.Py X.K d) (pb : Rb.Py X.K e) (sd : SeqAt.shaped d = true) (se : SeqAt.shaped e = true) : EvT X (.Compare a [.NotEq] [b] pos) sl (fun z => z = !PyData.eqv d e) :=
  t_cmp (op_neD hu) (nomark _) ha hb fun x y G H Q s rx ry k => ⟨d, e, Dp.same s _ _ (pa _ _ rx), Dp.same s _ _ (pb _ _ ry), sd, se, k _ G H (.refl s) ⟨_, rfl, rfl⟩⟩
variable {c : Expr} {A B C : Int → Prop}
/-- chains of two comparisons of ints -/
theorem e_chain {op op' : CmpOp} {f g : Int → Int → Bool} (ho : OpR X (compareOp op) (rI0 fun i j => .bl (f i j))) (ho' : OpR X (compareOp op') (rI0 fun i j => .bl (g i j))) (ha : Ev X a sl (rInt A)) (hb : Ev X b sl (rInt B)) (hc : Ev X c sl (rInt C)) (h1 : ∀ x y, A x → B y → f x y = false → P false) (h2 : ∀ x y z, A x → B y → C z → f x y = true → P (g y z)) (hm : lastMarks [op, op'] [b, c] = false) : Ev X (.Compare a [op, op'] [b, c] pos) sl (rBool P) :=
  ev_of (pe_chain ho ho' pcan pcan pcan hm) fun σ G H Q z k => ha.can z fun x G1 H1 g1 ⟨i, e1, p1⟩ => hb.can (z.gr g1) fun y G2 H2 g2 ⟨j, e2, p2⟩ => ⟨i, j, e1, e2, f i j, rfl, by
    cases q : f i j with
    | true => exact iteT (hc.can (z.gr (g1.trans g2)) fun w G3 H3 g3 ⟨l, e3, p3⟩ => ⟨j, l, e2, e3, k _ G3 H3 ((g1.trans g2).trans g3) ⟨_, rfl, h2 i j l p1 p2 p3 q⟩⟩)
    | false => exact iteF (k _ G2 H2 (g1.trans g2) ⟨_, rfl, h1 i j p1 p2 q⟩)⟩
theorem t_chain {op op' : CmpOp} {f g : Int → Int → Bool} (ho : OpR X (compareOp op) (rI0 fun i j => .bl (f i j))) (ho' : OpR X (compareOp op') (rI0 fun i j => .bl (g i j))) (ha : Ev X a sl (rInt A)) (hb : Ev X b sl (rInt B)) (hc : Ev X c sl (rInt C)) (h1 : ∀ x y, A x → B y → f x y = false → P false) (h2 : ∀ x y z, A x → B y → C z → f x y = true → P (g y z)) (hm : lastMarks [op, op'] [b, c] = false) : EvT X (.Compare a [op, op'] [b, c] pos) sl P :=
  evT_of (pt_chain ho ho' pcan pcan pcan hm) fun σ G H Q z k => ha.can z fun x G1 H1 g1 ⟨i, e1, p1⟩ => hb.can (z.gr g1) fun y G2 H2 g2 ⟨j, e2, p2⟩ => ⟨i, j, e1, e2, f i j, rfl, by
    cases q : f i j with
    | true => exact iteT (hc.can (z.gr (g1.trans g2)) fun w G3 H3 g3 ⟨l, e3, p3⟩ => ⟨j, l, e2, e3, _, rfl, k _ G3 H3 ((g1.trans g2).trans g3) (h2 i j l p1 p2 p3 q)⟩)
    | false => exact iteF ⟨_, rfl, k _ G2 H2 (g1.trans g2) (h1 i j p1 p2 q)⟩⟩
end
end Dl

set_option maxHeartbeats 2000000
namespace Dl
open PySem PySem.Spec PyProof.Rows L2
theorem tie_oT {p : Addr} {t : Addr → Prop} {Rs : List RV} : tie p (oT t Rs) = oT (fun a => a = p ∧ t a) Rs := by
  have e : (tie p (oT t Rs)).r = (oT (fun a => a = p ∧ t a) Rs).r := by
    funext G a o
    exact propext ⟨fun ⟨h1, h2, h3⟩ => ⟨⟨h1, h2⟩, h3⟩, fun ⟨⟨h1, h2⟩, h3⟩ => ⟨h1, h2, h3⟩⟩
  unfold tie oT at e ⊢
  congr
/-! ### typed walks -/
theorem map_getD {α β : Type} [Inhabited α] (f : α → β) : ∀ xs : List α, (List.range xs.length).map (fun i => f (xs.getD i default)) = xs.map f := by
  intro xs
  apply List.ext_getElem?
  intro i
  rw [List.getElem?_map, List.getElem?_map]
  by_cases h : i < xs.length
  · rw [List.getElem?_range h, List.getElem?_eq_getElem h]
    show some (f (xs.getD i default)) = some (f xs[i])
    rw [List.getD_eq_getElem?_getD, List.getElem?_eq_getElem h]
    rfl
  · rw [List.getElem?_eq_none (by rw [List.length_range]; omega), List.getElem?_eq_none (by omega)]
    rfl
theorem filter_getD {α β : Type} [Inhabited α] (p : α → Bool) (f : α → β) : ∀ xs : List α, ((List.range xs.length).filter fun i => p (xs.getD i default)).map (fun i => f (xs.getD i default)) = (xs.filter p).map f := by
  intro xs
  have h1 := map_getD id xs
  have e1 : (List.range xs.length).map (fun i => xs.getD i default) = xs := by
    have := h1
    rw [List.map_id] at this
    exact this
  have e2 : (xs.filter p).map f = (((List.range xs.length).map (fun i => xs.getD i default)).filter p).map f := by rw [e1]
  rw [e2, List.filter_map, List.map_map]
  rfl
theorem getD_mem {α : Type} [Inhabited α] {xs : List α} {i : Nat} (h : i < xs.length) : xs.getD i default ∈ xs := by
  rw [List.getD_eq_getElem?_getD, List.getElem?_eq_getElem h]
  exact List.getElem_mem h
theorem getD_get {α : Type} [Inhabited α] {xs : List α} {i : Nat} (h : i < xs.length) : xs[i]? = some (xs.getD i default) := by
  rw [List.getD_eq_getElem?_getD, List.getElem?_eq_getElem h]
  rfl
section
variable {X : Cx} {sl : List Ent} {α β : Type} [Inhabited α] [Inhabited β]
theorem src_L {e : Expr} {xs : List α} {c : α → RV} {j : Nat} (h : Ev X e sl (rLst X.K (xs.map c))) : Src (iList X.K (can X e)) (gName j) sl xs.length [j] (fun i => [c (xs.getD i default)]) := by
  intro σ G H R a k
  refine src_list (j := j) (d := c default) h σ G H R a fun J G1 H1 g1 gs => k J G1 H1 g1 ?_
  rw [List.length_map] at gs
  refine ⟨gs.go, gs.stop, fun i σ' G' H' x H'' KK hi s1 s2 y kk => gs.yld i σ' G' H' x H'' KK hi s1 s2 y fun vs G2 H2 g2 r => kk vs G2 H2 g2 ?_⟩
  rw [List.getD_eq_getElem?_getD, List.getElem?_map, getD_get hi] at r
  exact r
theorem src_T {e : Expr} {xs : List α} {c : α → RV} {j : Nat} (h : Ev X e sl (rTup X.K (xs.map c))) : Src (iTup X.K (can X e)) (gName j) sl xs.length [j] (fun i => [c (xs.getD i default)]) := by
  intro σ G H R a k
  refine src_tup (j := j) (d := c default) h σ G H R a fun J G1 H1 g1 gs => k J G1 H1 g1 ?_
  rw [List.length_map] at gs
  refine ⟨gs.go, gs.stop, fun i σ' G' H' x H'' KK hi s1 s2 y kk => gs.yld i σ' G' H' x H'' KK hi s1 s2 y fun vs G2 H2 g2 r => kk vs G2 H2 g2 ?_⟩
  rw [List.getD_eq_getElem?_getD, List.getElem?_map, getD_get hi] at r
  exact r
theorem src_E {e : Expr} {xs : List α} {c : α → RV} {j1 j2 : Nat} (h : Ev X e sl (rLst X.K (xs.map c))) (he : starEach [e] X.env = [(false, eval e X.env)] := by rfl) : Src (iEnum X.K (canA X [e])) (gTup X.K 2 (gCons (gName j1) (gCons (gName j2) gNil))) sl xs.length [j1, j2] (fun i => [iI (i : Int), c (xs.getD i default)]) := by
  intro σ G H R a k
  refine src_enum (j1 := j1) (j2 := j2) (d := c default) h he σ G H R a fun J G1 H1 g1 gs => k J G1 H1 g1 ?_
  rw [List.length_map] at gs
  refine ⟨gs.go, gs.stop, fun i σ' G' H' x H'' KK hi s1 s2 y kk => gs.yld i σ' G' H' x H'' KK hi s1 s2 y fun vs G2 H2 g2 r => kk vs G2 H2 g2 ?_⟩
  rw [List.getD_eq_getElem?_getD, List.getElem?_map, getD_get hi] at r
  exact r
theorem src_Z {e e2 : Expr} {xs : List α} {ys : List β} {c : α → RV} {c2 : β → RV} {j1 j2 : Nat} (h : Ev X e sl (rLst X.K (xs.map c))) (h' : Ev X e2 sl (rLst X.K (ys.map c2))) (he : starEach [e, e2] X.env = (false, eval e X.env) :: starEach [e2] X.env := by rfl) (he' : starEach [e2] X.env = [(false, eval e2 X.env)] := by rfl) :
    Src (iZip X.K (canA X [e, e2])) (gTup X.K 2 (gCons (gName j1) (gCons (gName j2) gNil))) sl (min xs.length ys.length) [j1, j2] (fun i => [c (xs.getD i default), c2 (ys.getD i default)]) := by
  intro σ G H R a k
  refine src_zip (j1 := j1) (j2 := j2) (d := c default) (d' := c2 default) h h' he he' σ G H R a fun J G1 H1 g1 gs => k J G1 H1 g1 ?_
  rw [List.length_map, List.length_map] at gs
  refine ⟨gs.go, gs.stop, fun i σ' G' H' x H'' KK hi s1 s2 y kk => gs.yld i σ' G' H' x H'' KK hi s1 s2 y fun vs G2 H2 g2 r => kk vs G2 H2 g2 ?_⟩
  have i1 : i < xs.length := by omega
  have i2 : i < ys.length := by omega
  have r1 : (xs.map c).getD i (c default) = c (xs.getD i default) := by rw [List.getD_eq_getElem?_getD, List.getElem?_map, getD_get i1]; rfl
  have r2 : (ys.map c2).getD i (c2 default) = c2 (ys.getD i default) := by rw [List.getD_eq_getElem?_getD, List.getElem?_map, getD_get i2]; rfl
  rw [r1, r2] at r
  exact r
/-- a list of pairs, each stored into two names -/
theorem src_P {e : Expr} {xs : List α} {c c2 : α → RV} {j1 j2 : Nat} (h : Ev X e sl (rLst X.K (xs.map fun x => rTup X.K [c x, c2 x]))) : Src (iList X.K (can X e)) (gTup X.K 2 (gCons (gName j1) (gCons (gName j2) gNil))) sl xs.length [j1, j2] (fun i => [c (xs.getD i default), c2 (xs.getD i default)]) := by
  intro σ G H R a k
  have e1 : (xs.map fun x => rTup X.K [c x, c2 x]) = List.zipWith (fun a b => rTup X.K [a, b]) (xs.map c) (xs.map c2) := by
    rw [List.zipWith_map]
    clear h k
    induction xs with
    | nil => rfl
    | cons x xs ih => rw [List.map_cons, List.zipWith_cons_cons, ih]
  rw [e1] at h
  refine src_pairs (j1 := j1) (j2 := j2) (d := c default) h σ G H R a fun J G1 H1 g1 gs => k J G1 H1 g1 ?_
  rw [List.length_map, List.length_map, Nat.min_self] at gs
  refine ⟨gs.go, gs.stop, fun i σ' G' H' x H'' KK hi s1 s2 y kk => gs.yld i σ' G' H' x H'' KK hi s1 s2 y fun vs G2 H2 g2 r => kk vs G2 H2 g2 ?_⟩
  have r1 : (xs.map c).getD i (c default) = c (xs.getD i default) := by rw [List.getD_eq_getElem?_getD, List.getElem?_map, getD_get hi]; rfl
  have r2 : (xs.map c2).getD i (c default) = c2 (xs.getD i default) := by rw [List.getD_eq_getElem?_getD, List.getElem?_map, getD_get hi]; rfl
  rw [r1, r2] at r
  exact r

/-! ### comprehensions -/
abbrev blkX (X : Cx) (scope : Scope) (s : Shared) (H : Hp) (C : Addr) (cl : List (Str × Addr)) (fp : List Addr) : Cx := X.blk s H scope (compEnvC scope cl C X.env) fp
variable {elt it tst : Expr} {y y2 : Str} {py pt pos : Pos} {scope : Scope} {xs : List α} {c : α → RV} {kt : Nat}
theorem e_compL (j : Nat) (d : α → RV) (hN : X.N.Nodup) (src : Ev X it sl (rLst X.K (xs.map c))) (hn : xs.length ≤ 90000)
    (el : ∀ x ∈ xs, ∀ s H C cl fp, Ev (blkX X scope s H C cl fp) elt (setE (wipeE sl [j]) [j] [c x]) (d x)) (hc : X.calm = true := by rfl) (hj : X.N[j]? = some y := by rfl) (hl : (relabel scope X.env).names.lookup y = some .local := by rfl) (hb : blkC X.N X.env.scope scope [(y, j)] = true := by kernel_rfl)
    (hf : ∀ x, foldedSetIterable it X.env x = pure x := by intro _; rfl) : EvR X (.ListComp elt [⟨.Name y py, it, [], 0⟩] scope pos) sl (.l (xs.map d)) := by
  have := e_lc (own := [(y, j)]) (pos := pos) (tg := .Name y py) (g := gName j) hc hN (pi_list pcan) (blkOk_by hb) (fun s H C cl fp => pg_name hN hj (.inl hl) (.inr hl)) (src_L src) (by simp) hn (fun i => d (xs.getD i default)) (fun i hi s H C cl fp => el _ (getD_mem hi) s H C cl fp) hf (elt := elt)
  rw [map_getD d xs] at this
  exact this
theorem e_compT (j : Nat) (d : α → RV) (hN : X.N.Nodup) (src : Ev X it sl (rTup X.K (xs.map c))) (hn : xs.length ≤ 90000)
    (el : ∀ x ∈ xs, ∀ s H C cl fp, Ev (blkX X scope s H C cl fp) elt (setE (wipeE sl [j]) [j] [c x]) (d x)) (hc : X.calm = true := by rfl) (hj : X.N[j]? = some y := by rfl) (hl : (relabel scope X.env).names.lookup y = some .local := by rfl) (hb : blkC X.N X.env.scope scope [(y, j)] = true := by kernel_rfl)
    (hf : ∀ x, foldedSetIterable it X.env x = pure x := by intro _; rfl) : EvR X (.ListComp elt [⟨.Name y py, it, [], 0⟩] scope pos) sl (.l (xs.map d)) := by
  have := e_lc (own := [(y, j)]) (pos := pos) (tg := .Name y py) (g := gName j) hc hN (pi_tup pcan) (blkOk_by hb) (fun s H C cl fp => pg_name hN hj (.inl hl) (.inr hl)) (src_T src) (by simp) hn (fun i => d (xs.getD i default)) (fun i hi s H C cl fp => el _ (getD_mem hi) s H C cl fp) hf (elt := elt)
  rw [map_getD d xs] at this
  exact this
theorem e_compLT (j : Nat) (d : α → RV) (p : α → Bool) (hN : X.N.Nodup) (src : Ev X it sl (rLst X.K (xs.map c))) (hn : xs.length ≤ 90000)
    (ts : ∀ x ∈ xs, ∀ s H C cl fp, EvT (blkX X scope s H C cl fp) tst (setE (wipeE sl [j]) [j] [c x]) (fun b => b = p x))
    (el : ∀ x ∈ xs, p x = true → ∀ s H C cl fp, Ev (blkX X scope s H C cl fp) elt (setE (wipeE sl [j]) [j] [c x]) (d x)) (hc : X.calm = true := by rfl) (hj : X.N[j]? = some y := by rfl) (hl : (relabel scope X.env).names.lookup y = some .local := by rfl) (hb : blkC X.N X.env.scope scope [(y, j)] = true := by kernel_rfl)
    (hf : ∀ x, foldedSetIterable it X.env x = pure x := by intro _; rfl) : EvR X (.ListComp elt [⟨.Name y py, it, [tst], 0⟩] scope pos) sl (.l ((xs.filter p).map d)) := by
  have := e_lcT (own := [(y, j)]) (pos := pos) (tg := .Name y py) (g := gName j) (tst := tst) hc hN (pi_list pcan) (blkOk_by hb) (fun s H C cl fp => pg_name hN hj (.inl hl) (.inr hl)) (src_L src) (by simp) hn (fun i => p (xs.getD i default)) (fun i => d (xs.getD i default)) (fun i hi s H C cl fp => ts _ (getD_mem hi) s H C cl fp) (fun i hi hp s H C cl fp => el _ (getD_mem hi) hp s H C cl fp) hf (elt := elt)
  rw [filter_getD p d xs] at this
  exact this
theorem e_compR (j : Nat) (d : Nat → RV) {a : Expr} {m : Int} {p1 p2 : Pos} (hN : X.N.Nodup) (src : Ev X a sl (iI m)) (hn : m ≤ 90000) (hn0 : 0 ≤ m) (hm : X.mg "range" = none)
    (el : ∀ i : Nat, (i : Int) < m → ∀ s H C cl fp, Ev (blkX X scope s H C cl fp) elt (setE (wipeE sl [j]) [j] [iI (i : Int)]) (d i)) (hc : X.calm = true := by rfl) (hg : Gl X "range" := by rfl) (he : starEach [a] X.env = [(false, eval a X.env)] := by rfl) (hj : X.N[j]? = some y := by rfl) (hl : (relabel scope X.env).names.lookup y = some .local := by rfl) (hb : blkC X.N X.env.scope scope [(y, j)] = true := by kernel_rfl)
    (hf : ∀ x, foldedSetIterable (.Call (.Name "range" p1) [a] [] p2) X.env x = pure x := by intro _; rfl) : EvR X (.ListComp elt [⟨.Name y py, .Call (.Name "range" p1) [a] [] p2, [], 0⟩] scope pos) sl (.l ((List.range m.toNat).map d)) :=
  e_lc (own := [(y, j)]) (pos := pos) (g := gName j) hc hN (pi_range1 hg hm pcanA he) (blkOk_by hb) (fun s H C cl fp => pg_name hN hj (.inl hl) (.inr hl)) (src_range src (by omega) (by omega) he) (by simp) (by omega) d (fun i hi s H C cl fp => el i (by omega) s H C cl fp) hf (elt := elt)
theorem e_compZ (j1 j2 : Nat) {b : Expr} {ys : List β} {c2 : β → RV} {p1 p2 py2 : Pos} (d : α → β → RV) (hN : X.N.Nodup) (src : Ev X it sl (rLst X.K (xs.map c))) (src2 : Ev X b sl (rLst X.K (ys.map c2))) (hn : xs.length ≤ 90000) (hm : X.mg "zip" = none)
    (el : ∀ (i : Nat) x z, xs[i]? = some x → ys[i]? = some z → ∀ s H C cl fp, Ev (blkX X scope s H C cl fp) elt (setE (wipeE sl [j1, j2]) [j1, j2] [c x, c2 z]) (d x z)) (hc : X.calm = true := by rfl) (hg : Gl X "zip" := by rfl) (he : starEach [it, b] X.env = (false, eval it X.env) :: starEach [b] X.env := by rfl) (he' : starEach [b] X.env = [(false, eval b X.env)] := by rfl) (hpl : (backTo p2 (starEach [b] X.env)).any (·.1) = false := by rfl)
    (hj : X.N[j1]? = some y := by rfl) (hj2 : X.N[j2]? = some y2 := by rfl) (hl : (relabel scope X.env).names.lookup y = some .local := by rfl) (hl2 : (relabel scope X.env).names.lookup y2 = some .local := by rfl) (hb : blkC X.N X.env.scope scope [(y, j1), (y2, j2)] = true := by kernel_rfl)
    (ha : ∀ s H C cl fp, (assignEach [Expr.Name y py, Expr.Name y2 py2] (blkX X scope s H C cl fp).env).map (·.2) = assign (.Name y py) (blkX X scope s H C cl fp).env :: (assignEach [Expr.Name y2 py2] (blkX X scope s H C cl fp).env).map (·.2) := by intros; rfl)
    (hf : ∀ x, foldedSetIterable (.Call (.Name "zip" p1) [it, b] [] p2) X.env x = pure x := by intro _; rfl) : EvR X (.ListComp elt [⟨.Tuple [.Name y py, .Name y2 py2] kt pt, .Call (.Name "zip" p1) [it, b] [] p2, [], 0⟩] scope pos) sl (.l (List.zipWith d xs ys)) := by
  have := e_lc (own := [(y, j1), (y2, j2)]) (pos := pos) (tg := .Tuple [.Name y py, .Name y2 py2] kt pt) hc hN (pi_zip hg hm pcanA he hpl) (blkOk_by hb) (fun s H C cl fp => pg_tup (X := blkX X scope s H C cl fp) hc (pgs_cons (pg_name (i := j1) hN hj (.inl hl) (.inr hl)) (pgs_cons (pg_name (i := j2) hN hj2 (.inl hl2) (.inr hl2)) pgs_nil) (ha s H C cl fp))) (src_Z src src2 he he') (by simp) (by omega) (fun i => d (xs.getD i default) (ys.getD i default))
    (fun i hi s H C cl fp => el i _ _ (getD_get (by omega)) (getD_get (by omega)) s H C cl fp) hf (elt := elt)
  have e1 : (List.range (min xs.length ys.length)).map (fun i => d (xs.getD i default) (ys.getD i default)) = List.zipWith d xs ys := by
    apply List.ext_getElem?
    intro i
    rw [List.getElem?_map, List.getElem?_zipWith]
    by_cases h : i < min xs.length ys.length
    · have i1 : i < xs.length := by omega
      have i2 : i < ys.length := by omega
      rw [List.getElem?_range h, List.getElem?_eq_getElem i1, List.getElem?_eq_getElem i2]
      show some (d (xs.getD i default) (ys.getD i default)) = some (d xs[i] ys[i])
      rw [List.getD_eq_getElem?_getD, List.getD_eq_getElem?_getD, List.getElem?_eq_getElem i1, List.getElem?_eq_getElem i2]
      rfl
    · rw [List.getElem?_eq_none (by rw [List.length_range]; omega)]
      by_cases q : i < xs.length
      · rw [List.getElem?_eq_none (l := ys) (by omega)]
        cases xs[i]? <;> rfl
      · rw [List.getElem?_eq_none (l := xs) (by omega)]
        rfl
  rw [e1] at this
  exact this
/-- [e for a, b in a list of pairs] -/
theorem e_compP (j1 j2 : Nat) {c2 : α → RV} {py2 : Pos} (d : α → RV) (hN : X.N.Nodup) (src : Ev X it sl (rLst X.K (xs.map fun x => rTup X.K [c x, c2 x]))) (hn : xs.length ≤ 90000)
    (el : ∀ x ∈ xs, ∀ s H C cl fp, Ev (blkX X scope s H C cl fp) elt (setE (wipeE sl [j1, j2]) [j1, j2] [c x, c2 x]) (d x)) (hc : X.calm = true := by rfl)
    (hj : X.N[j1]? = some y := by rfl) (hj2 : X.N[j2]? = some y2 := by rfl) (hl : (relabel scope X.env).names.lookup y = some .local := by rfl) (hl2 : (relabel scope X.env).names.lookup y2 = some .local := by rfl) (hb : blkC X.N X.env.scope scope [(y, j1), (y2, j2)] = true := by kernel_rfl)
    (ha : ∀ s H C cl fp, (assignEach [Expr.Name y py, Expr.Name y2 py2] (blkX X scope s H C cl fp).env).map (·.2) = assign (.Name y py) (blkX X scope s H C cl fp).env :: (assignEach [Expr.Name y2 py2] (blkX X scope s H C cl fp).env).map (·.2) := by intros; rfl)
    (hf : ∀ x, foldedSetIterable it X.env x = pure x := by intro _; rfl) : EvR X (.ListComp elt [⟨.Tuple [.Name y py, .Name y2 py2] kt pt, it, [], 0⟩] scope pos) sl (.l (xs.map d)) := by
  have := e_lc (own := [(y, j1), (y2, j2)]) (pos := pos) (tg := .Tuple [.Name y py, .Name y2 py2] kt pt) hc hN (pi_list pcan) (blkOk_by hb) (fun s H C cl fp => pg_tup (X := blkX X scope s H C cl fp) hc (pgs_cons (pg_name (i := j1) hN hj (.inl hl) (.inr hl)) (pgs_cons (pg_name (i := j2) hN hj2 (.inl hl2) (.inr hl2)) pgs_nil) (ha s H C cl fp))) (src_P src) (by simp) hn (fun i => d (xs.getD i default))
    (fun i hi s H C cl fp => el _ (getD_mem hi) s H C cl fp) hf (elt := elt)
  rw [map_getD d xs] at this
  exact this
end

/-! ### all, any, max, min over made lists -/
section
variable {X : Cx} {sl : List Ent} {α : Type} {a : Expr} {p pos : Pos} {xs : List α}
theorem e_tupleL {Rs : List RV} (h : Ev X a sl (rLst X.K Rs)) (hm : X.mg "tuple" = none) (hg : Gl X "tuple" := by rfl) (he : starEach [a] X.env = [(false, eval a X.env)] := by rfl) : Ev X (.Call (.Name "tuple" p) [a] [] pos) sl (rTup X.K Rs) :=
  e_ct (rs := .v _) call_tuple_of hm (by decide +kernel) (a1 h he) (fun vs G H Q s r q => by
    obtain ⟨v, rfl, b, ws, rfl, h1, h2⟩ := pv1 r
    exact ⟨b, ws, rfl, .inl ⟨s.seq h1, fun l hl => q _ _ _ (Gr.new s hl) ⟨l, ws, rfl, SqT.of upd_same, h2.mono (same_new (s.free hl))⟩⟩⟩) hg (by decide) (by decide) he rfl
theorem e_tupleT {Rs : List RV} (h : Ev X a sl (rTup X.K Rs)) (hm : X.mg "tuple" = none) (hg : Gl X "tuple" := by rfl) (he : starEach [a] X.env = [(false, eval a X.env)] := by rfl) : Ev X (.Call (.Name "tuple" p) [a] [] pos) sl (rTup X.K Rs) :=
  e_ct (rs := .v _) call_tuple_of hm (by decide +kernel) (a1 h he) (fun vs G H Q s r q => by
    obtain ⟨v, rfl, b, ws, rfl, h1, h2⟩ := pv1 r
    exact ⟨b, ws, rfl, .inr ⟨Same.tup s h1, q _ G H (.refl s) ⟨b, ws, rfl, h1, h2⟩⟩⟩) hg (by decide) (by decide) he rfl
theorem e_allM {f : α → Bool} (h : Ev X a sl (rLst X.K (xs.map fun x => iB (f x)))) (hm : X.mg "all" = none) (hc : X.calm = true := by rfl) (hg : Gl X "all" := by rfl) (he : starEach [a] X.env = [(false, eval a X.env)] := by rfl) : Ev X (.Call (.Name "all" p) [a] [] pos) sl (iB (xs.all f)) := by
  have e1 : (xs.map fun x => iB (f x)) = (xs.map f).map iB := by rw [List.map_map]; rfl
  rw [e1] at h
  have := e_all (p := p) (pos := pos) hc h hm hg he
  rw [List.all_map] at this
  exact this
theorem e_anyM {f : α → Bool} (h : Ev X a sl (rLst X.K (xs.map fun x => iB (f x)))) (hm : X.mg "any" = none) (hc : X.calm = true := by rfl) (hg : Gl X "any" := by rfl) (he : starEach [a] X.env = [(false, eval a X.env)] := by rfl) : Ev X (.Call (.Name "any" p) [a] [] pos) sl (iB (xs.any f)) := by
  have e1 : (xs.map fun x => iB (f x)) = (xs.map f).map iB := by rw [List.map_map]; rfl
  rw [e1] at h
  have := e_any (p := p) (pos := pos) hc h hm hg he
  rw [List.any_map] at this
  exact this
end

/-! ### loops -/
section
variable {X : Cx} {B : Base} {L : Hp} {sl : List Ent} {D : Ends} {pos : Pos} {rest body : List Stmt} {α β : Type} [Inhabited α] [Inhabited β] {it b : Expr} {y y2 : Str} {py py2 pt p1 p2 : Pos} {xs : List α} {ys : List β} {c : α → RV} {c2 : β → RV} {kt : Nat}
theorem w_forL (j : Nat) (hN : X.N.Nodup) (src : Ev X it sl (rLst X.K (xs.map c))) (J : Nat → List Ent → Prop) (h0 : J 0 sl)
    (turn : ∀ (i : Nat) x L' sl', xs[i]? = some x → J i sl' → Wp X B L' body (dturn D X rest B L' (J (i + 1))) (sl'.set j (.val (c x)))) (done : ∀ sl', J xs.length sl' → Wp X B L rest D sl')
    (hp : PassesOwn (model X.prog X.w) X.A X.env X.xe := by exact PassesOwn.never) (hc : X.calm = true := by rfl) (hj : X.N[j]? = some y := by rfl) (hl : Loc X.env.scope y := by first | exact Or.inl rfl | exact Or.inr rfl) (hfn : X.fn y = true ∨ X.env.scope.names.lookup y = some .local := by first | exact .inl rfl | exact .inr rfl)
    (hf : ∀ x, foldedSetIterable it X.env x = pure x := by intro _; rfl) : Wp X B L (.For (.Name y py) it body [] pos :: rest) D sl :=
  w_for hc hp (pi_list pcan) (pg_name hN hj hl hfn) (src_L (j := j) src) J h0 (fun i L' sl' hi hj => turn i _ L' sl' (getD_get hi) hj) done hf
theorem w_forT (j : Nat) (hN : X.N.Nodup) (src : Ev X it sl (rTup X.K (xs.map c))) (J : Nat → List Ent → Prop) (h0 : J 0 sl)
    (turn : ∀ (i : Nat) x L' sl', xs[i]? = some x → J i sl' → Wp X B L' body (dturn D X rest B L' (J (i + 1))) (sl'.set j (.val (c x)))) (done : ∀ sl', J xs.length sl' → Wp X B L rest D sl')
    (hp : PassesOwn (model X.prog X.w) X.A X.env X.xe := by exact PassesOwn.never) (hc : X.calm = true := by rfl) (hj : X.N[j]? = some y := by rfl) (hl : Loc X.env.scope y := by first | exact Or.inl rfl | exact Or.inr rfl) (hfn : X.fn y = true ∨ X.env.scope.names.lookup y = some .local := by first | exact .inl rfl | exact .inr rfl)
    (hf : ∀ x, foldedSetIterable it X.env x = pure x := by intro _; rfl) : Wp X B L (.For (.Name y py) it body [] pos :: rest) D sl :=
  w_for hc hp (pi_tup pcan) (pg_name hN hj hl hfn) (src_T (j := j) src) J h0 (fun i L' sl' hi hj => turn i _ L' sl' (getD_get hi) hj) done hf
theorem w_forR (j : Nat) {a : Expr} {m : Int} (hN : X.N.Nodup) (src : Ev X a sl (iI m)) (h0m : 0 ≤ m) (h1m : m < 2 ^ 62) (hm : X.mg "range" = none) (J : Nat → List Ent → Prop) (h0 : J 0 sl)
    (turn : ∀ (i : Nat) L' sl', (i : Int) < m → J i sl' → Wp X B L' body (dturn D X rest B L' (J (i + 1))) (sl'.set j (.val (iI (i : Int))))) (done : ∀ sl', J m.toNat sl' → Wp X B L rest D sl')
    (hp : PassesOwn (model X.prog X.w) X.A X.env X.xe := by exact PassesOwn.never) (hc : X.calm = true := by rfl) (hg : Gl X "range" := by rfl) (he : starEach [a] X.env = [(false, eval a X.env)] := by rfl) (hj : X.N[j]? = some y := by rfl) (hl : Loc X.env.scope y := by first | exact Or.inl rfl | exact Or.inr rfl) (hfn : X.fn y = true ∨ X.env.scope.names.lookup y = some .local := by first | exact .inl rfl | exact .inr rfl)
    (hf : ∀ x, foldedSetIterable (.Call (.Name "range" p1) [a] [] p2) X.env x = pure x := by intro _; rfl) : Wp X B L (.For (.Name y py) (.Call (.Name "range" p1) [a] [] p2) body [] pos :: rest) D sl :=
  w_for hc hp (pi_range1 hg hm pcanA he) (pg_name hN hj hl hfn) (src_range (j := j) src h1m (by omega) he) J h0 (fun i L' sl' hi hj => turn i L' sl' (by omega) hj) done hf
theorem w_forE (j1 j2 : Nat) (hN : X.N.Nodup) (src : Ev X it sl (rLst X.K (xs.map c))) (hm : X.mg "enumerate" = none) (J : Nat → List Ent → Prop) (h0 : J 0 sl)
    (turn : ∀ (i : Nat) x L' sl', xs[i]? = some x → J i sl' → Wp X B L' body (dturn D X rest B L' (J (i + 1))) ((sl'.set j1 (.val (iI (i : Int)))).set j2 (.val (c x)))) (done : ∀ sl', J xs.length sl' → Wp X B L rest D sl')
    (hp : PassesOwn (model X.prog X.w) X.A X.env X.xe := by exact PassesOwn.never) (hc : X.calm = true := by rfl) (hg : Gl X "enumerate" := by rfl) (he : starEach [it] X.env = [(false, eval it X.env)] := by rfl) (hj : X.N[j1]? = some y := by rfl) (hj2 : X.N[j2]? = some y2 := by rfl) (hl : X.env.scope.names.lookup y = some .local := by rfl) (hl2 : X.env.scope.names.lookup y2 = some .local := by rfl)
    (ha : (assignEach [Expr.Name y py, Expr.Name y2 py2] X.env).map (·.2) = assign (.Name y py) X.env :: (assignEach [Expr.Name y2 py2] X.env).map (·.2) := by rfl)
    (hf : ∀ x, foldedSetIterable (.Call (.Name "enumerate" p1) [it] [] p2) X.env x = pure x := by intro _; rfl) : Wp X B L (.For (.Tuple [.Name y py, .Name y2 py2] kt pt) (.Call (.Name "enumerate" p1) [it] [] p2) body [] pos :: rest) D sl :=
  w_for hc hp (pi_enum hg hm pcanA he) (pg_tup hc (pgs_cons (pg_name (i := j1) hN hj (.inl hl) (.inr hl)) (pgs_cons (pg_name (i := j2) hN hj2 (.inl hl2) (.inr hl2)) pgs_nil) ha)) (src_E src he) J h0 (fun i L' sl' hi hj => turn i _ L' sl' (getD_get hi) hj) done hf
theorem w_forZ (j1 j2 : Nat) (hN : X.N.Nodup) (src : Ev X it sl (rLst X.K (xs.map c))) (src2 : Ev X b sl (rLst X.K (ys.map c2))) (hm : X.mg "zip" = none) (J : Nat → List Ent → Prop) (h0 : J 0 sl)
    (turn : ∀ (i : Nat) x z L' sl', xs[i]? = some x → ys[i]? = some z → J i sl' → Wp X B L' body (dturn D X rest B L' (J (i + 1))) ((sl'.set j1 (.val (c x))).set j2 (.val (c2 z)))) (done : ∀ sl', J (min xs.length ys.length) sl' → Wp X B L rest D sl')
    (hp : PassesOwn (model X.prog X.w) X.A X.env X.xe := by exact PassesOwn.never) (hc : X.calm = true := by rfl) (hg : Gl X "zip" := by rfl) (he : starEach [it, b] X.env = (false, eval it X.env) :: starEach [b] X.env := by rfl) (he' : starEach [b] X.env = [(false, eval b X.env)] := by rfl) (hpl : (backTo p2 (starEach [b] X.env)).any (·.1) = false := by rfl) (hj : X.N[j1]? = some y := by rfl) (hj2 : X.N[j2]? = some y2 := by rfl) (hl : X.env.scope.names.lookup y = some .local := by rfl) (hl2 : X.env.scope.names.lookup y2 = some .local := by rfl)
    (ha : (assignEach [Expr.Name y py, Expr.Name y2 py2] X.env).map (·.2) = assign (.Name y py) X.env :: (assignEach [Expr.Name y2 py2] X.env).map (·.2) := by rfl)
    (hf : ∀ x, foldedSetIterable (.Call (.Name "zip" p1) [it, b] [] p2) X.env x = pure x := by intro _; rfl) : Wp X B L (.For (.Tuple [.Name y py, .Name y2 py2] kt pt) (.Call (.Name "zip" p1) [it, b] [] p2) body [] pos :: rest) D sl :=
  w_for hc hp (pi_zip hg hm pcanA he hpl) (pg_tup hc (pgs_cons (pg_name (i := j1) hN hj (.inl hl) (.inr hl)) (pgs_cons (pg_name (i := j2) hN hj2 (.inl hl2) (.inr hl2)) pgs_nil) ha)) (src_Z src src2 he he') J h0 (fun i L' sl' hi hj => turn i _ _ L' sl' (getD_get (by omega)) (getD_get (by omega)) hj) done hf
/-- a list of one's own is changed no more -/
theorem w_freeze (i : Nat) {st : List Stmt} {t : Addr → Prop} {Rs : List RV} (hM : ∀ a, ¬ B.M a) (ei : sl[i]? = some (.mu (oT t Rs))) (k : Wp X B L st D (sl.set i (.val (rLst X.K Rs)))) : Wp X B L st D sl := fun σ G H a => by
  obtain ⟨p, vs, h1, h2, h3, h4⟩ := a.sat.own i Rs ei
  have hb : B.H p = none := (a.ow i _ p ei h1).resolve_left (hM p)
  have sg : Same G (upd G p (.lst vs)) := same_new h3
  have sh : Same (upd G p (.lst vs)) H := fun b u e => by
    by_cases q : b = p
    · subst q; rw [upd_same] at e; rw [h2]; exact e
    · rw [upd_ne q] at e; exact a.sat.sub b u e
  refine k σ (upd G p (.lst vs)) H ⟨⟨sh, fun j R e => ?_, fun j O e => ?_, fun j l O O' ne e1 e2 => ?_, by rw [List.length_set]; exact a.sat.len⟩, ⟨a.gr.g.trans sg, a.gr.h, a.gr.t, sh, fun b e => ?_⟩, a.lo.trans sg, fun j O q e eq => ?_⟩
  · rcases getElem?_set_cases e with ⟨rfl, e2⟩ | ⟨ne, e2⟩
    · cases e2
      exact ⟨.ref p, h1, p, vs, rfl, SqL.of upd_same, h4.mono sg⟩
    · obtain ⟨v, k1, k2⟩ := a.sat.val j R e2
      exact ⟨v, k1, R.m sg k2⟩
  · rcases getElem?_set_cases e with ⟨rfl, e2⟩ | ⟨ne, e2⟩
    · cases e2
    · obtain ⟨q, o, k1, k2, k3, k4⟩ := a.sat.mu j O e2
      have nq : q ≠ p := fun z => by
        subst z
        exact a.sat.dis j i _ _ ne e2 ei (k1.trans h1.symm)
      exact ⟨q, o, k1, k2, by rw [upd_ne nq]; exact k3, O.m sg k4⟩
  · rcases getElem?_set_cases e1 with ⟨_, z⟩ | ⟨_, z1⟩
    · cases z
    · rcases getElem?_set_cases e2 with ⟨_, z⟩ | ⟨_, z2⟩
      · cases z
      · exact a.sat.dis j l O O' ne z1 z2
  · rw [upd_ne (fun z => e (by rw [z]; exact hb))]
    exact a.gr.n b e
  · rcases getElem?_set_cases e with ⟨_, z⟩ | ⟨_, z1⟩
    · cases z
    · exact a.ow j O q z1 eq
/-- a def's end, None -/
theorem w_none (hM : ∀ a, ¬ B.M a) (q : Post B.G B.H D.rt (.v iN)) (hN : ∀ σ H', D.rt .non H' → D.nx σ H') : Wp X B L [] D sl := fun σ G H a pins s I => (pss_nil (X := X)).run pins s σ H D I
  (hN σ H (q .non G H (a.gr0 hM) rfl))
/-- a loop's turn ends, as a rule for the body's end -/
theorem w_turn' {J : List Ent → Prop} (h : J sl) : Wp X B L [] (dturn D X rest B L J) sl := w_turn rfl h
end
end Dl

set_option maxHeartbeats 2000000
namespace Dl
open PySem PySem.Spec PyProof.Rows L2
/-! ### a def that changes its first argument and tells a value -/
structure FnV (α : Type) where
  ps : List Str
  o0 : α → OV
  args : α → List RV
  pre : α → Prop
  o1 : α → OV
  res : α → RV
def FnV.sp {α : Type} (F : FnV α) : Sp := fun vs H Q _ => ∃ z G p o ws, Same G H ∧ vs = .ref p :: ws ∧ H p = some o ∧ G p = none ∧ (F.o0 z).r G p o ∧ PVs G (F.args z) ws ∧ F.pre z ∧
  ∀ v G' H' o', Grow (fun a => a = p) G H G' H' → H' p = some o' → G' p = none → (F.o1 z).r G' p o' → (F.res z).r G' v → Q v H'
section
variable {P : Program} {w : World} {K : PySem.W.Frag} {mg : Str → Option Value} {base : Heap}
def BodyV (P : Program) (w : World) (K : PySem.W.Frag) (mg : Str → Option Value) (base : Heap) (qual : Str) (st : Stmt) (f : Addr) (N : List Str) (k : Nat) {α : Type} (F : FnV α) : Prop :=
  ∀ (cdv : Value) (A : Around) (outer : List Env) (s : Shared) (H : Hp) (E : XK) (z : α) (p : Addr) (B : Base) (L : Hp) (D : Ends), Room k (A.deeper (envOfC qual (defScope st) s.heap.objs.size f cdv)) → F.pre z →
    (∀ v σ G' H' sl O, At B L sl σ G' H' → sl[0]? = some (.mu (tie p O)) → (∀ G a o, O.r G a o → (F.o1 z).r G a o) → (F.res z).r G' v → D.rt v H') →
    Wp (cxOf CX0 P w K mg base N qual (defScope st) f cdv A outer s H E).nox B L (defBody st) D (.mu (tie p (F.o0 z)) :: ents (N.length - 1) (F.args z))
theorem fnOk_ofV {qual x : Str} {params : Arguments} {dvs : List V} {st : Stmt} {f : Addr} {fd : FuncData} {N : List Str} {k : Nat} {α : Type} {F : FnV α} (F0 : FunD K x qual params (defBody st) (defScope st) dvs [] f fd) (S : FnScope N F.ps (defScope st)) (hl : ∀ a, (F.args a).length + 1 = F.ps.length) (hN : 0 < N.length)
    (body : BodyV P w K mg base qual st f N k F) : FnOk P w K mg base CX0 (k + 1) f fd F.ps F.sp := by
  refine FunD.ok F0 S (fun vs H Q E h => ?_) (fun cdv A outer s H vs Q E hr h => ?_)
  · obtain ⟨z, G, p, o, ws, _, rfl, _, _, _, r, _⟩ := h
    rw [List.length_cons, ← r.len, hl]
  · obtain ⟨z, G, p, o, ws, sm, rfl, hp, gp, ho, r, hpre, q⟩ := h
    refine ⟨_, PSs.nox pcanS, ?_⟩
    have ss : Sat (ents (N.length - 1) (F.args z)) (ws.map some ++ List.replicate (N.length - 1 - ws.length) none) G H := by
      have := sat_start (N := N.tail) (H := H) sm r
      unfold L2.start at this
      rw [List.length_tail] at this
      exact this
    have no : ∀ (i : Nat) O, (ents (N.length - 1) (F.args z))[i]? ≠ some (.mu O) := fun i O e => by
      unfold ents at e
      rw [List.getElem?_append] at e
      split at e
      · rw [List.getElem?_map] at e
        cases q : (F.args z)[i]? with
        | none => rw [q] at e; cases e
        | some R' => rw [q] at e; cases e
      · rw [List.getElem?_replicate] at e
        split at e <;> cases e
    have st0 : L2.start N (.ref p :: ws) = some (.ref p) :: (ws.map some ++ List.replicate (N.length - 1 - ws.length) none) := by
      unfold L2.start
      rw [List.map_cons, List.cons_append, List.length_cons, Nat.sub_add_eq, Nat.sub_right_comm]
    have sat : Sat (.mu (tie p (F.o0 z)) :: ents (N.length - 1) (F.args z)) (L2.start N (.ref p :: ws)) G H := by
      rw [st0]
      refine ⟨sm, fun i R e => ?_, fun i O e => ?_, fun i j O O' ne e1 e2 => ?_, by rw [List.length_cons, List.length_cons, ss.len]⟩
      · cases i with
        | zero => cases e
        | succ i => exact ss.val i R e
      · cases i with
        | zero => cases e; exact ⟨p, o, rfl, hp, gp, rfl, ho⟩
        | succ i => exact absurd e (no i O)
      · cases i with
        | succ i => exact absurd e1 (no i O)
        | zero => cases j with
          | zero => exact absurd rfl ne
          | succ j => exact absurd e2 (no j O')
    refine body cdv A outer s H E z p ⟨G, H, fun a => a = p⟩ G { nx := fun _ H' => Q .non H', rt := Q } hr hpre (fun v σ G' H' sl O a e ho1 rv => ?_) (L2.start N (.ref p :: ws)) G H ⟨sat, Grow.refl sm, Same.refl _, fun i O q e eq => ?_⟩
    · obtain ⟨p', o', h1, h2, h3, rfl, h4⟩ := a.sat.mu 0 _ e
      exact q v G' H' o' a.gr h2 h3 (ho1 _ _ _ h4) rv
    · cases i with
      | zero =>
        rw [st0] at eq
        cases eq
        exact .inl rfl
      | succ i => exact absurd e (no i O)
end
section
variable {X : Cx} {B : Base} {L : Hp} {sl : List Ent} {D : Ends} {pos : Pos} {rest : List Stmt} {R : RV} {Rs : List RV}
theorem w_retV {O : OV} {p : Addr} {e : Expr} {α : Type} {F : FnV α} {z : α} (hR : ∀ v σ G' H' sl O, At B L sl σ G' H' → sl[0]? = some (.mu (tie p O)) → (∀ G a o, O.r G a o → (F.o1 z).r G a o) → (F.res z).r G' v → D.rt v H') (h : Ev X e sl (F.res z)) (e0 : sl[0]? = some (.mu (tie p O))) (ho : ∀ G a o, O.r G a o → (F.o1 z).r G a o) : Wp X B L (.Return (some e) pos :: rest) D sl :=
  wp_of (ps_ret pcan) fun σ G H a => h.can a.sat fun v G' H' g r => hR v σ G' H' sl O (a.go g) e0 ho r
/-- y[j], x = e, a tuple of two -/
theorem w_unSub (i l : Nat) {y x : Str} {e b : Expr} {p1 p2 px pt : Pos} {kt} {t : Addr → Prop} {j : Nat} {R1 R2 : RV} (hc : X.calm = true) (hN : X.N.Nodup) (ei : sl[i]? = some (.mu (oT t Rs))) (h : Ev X e sl (rTup X.K [R1, R2])) (hj : Ev X b sl (iI (j : Int))) (hlt : j < Rs.length) (k : Wp X B L rest D ((sl.set i (.mu (oT t (Rs.set j R1)))).set l (.val R2)))
    (hy : X.N[i]? = some y := by rfl) (hl : X.N[l]? = some x := by rfl) (hx : X.env.scope.names.lookup x = some .local := by rfl)
    (hg : PG X (.Subscript (.Name y p1) b p2) (gSub (tVar i) (can X b) rSetL) := by exact pg_sub (pv _) pcan set_list) (hs : swapsWithSole [.Tuple [.Subscript (.Name y p1) b p2, .Name x px] kt pt] e pos.line X.env = pure false := by rfl) (hw : swappedStores [.Tuple [.Subscript (.Name y p1) b p2, .Name x px] kt pt] e X.env = pure none := by rfl)
    (h1 : (assignEach [.Tuple [.Subscript (.Name y p1) b p2, .Name x px] kt pt] X.env).map (·.2) = [assign (.Tuple [.Subscript (.Name y p1) b p2, .Name x px] kt pt) X.env] := by rfl)
    (h2 : (assignEach [Expr.Subscript (.Name y p1) b p2, Expr.Name x px] X.env).map (·.2) = assign (.Subscript (.Name y p1) b p2) X.env :: (assignEach [Expr.Name x px] X.env).map (·.2) := by rfl)
    (h3 : (assignEach [Expr.Subscript (.Name y p1) b p2, Expr.Name x px] X.env).length = 2 := by rfl) (h4 : (assignEach [Expr.Subscript (.Name y p1) b p2, Expr.Name x px] X.env).findIdx? (·.1) = none := by rfl) :
    Wp X B L (.Assign [.Tuple [.Subscript (.Name y p1) b p2, .Name x px] kt pt] e pos :: rest) D sl :=
  wp_of (ps_asg pcan (pg_tup hc (pgs_cons hg (pgs_cons (pg_name (i := l) hN hl (.inl hx) (.inr hx)) pgs_nil) h2) h3 h4) hs hw h1) fun σ G H a => h.can a.sat fun v G1 H1 g1 ⟨tp, vs, e1, q1, r1⟩ => by
    obtain ⟨u1, u2, rfl, k1, k2⟩ := pv2 r1
    refine ⟨tp, _, e1, Same.tup g1.s q1, rfl, u1, _, rfl, ?_⟩
    obtain ⟨pl, ws, m1, m2, m3, m4⟩ := (a.sat.gr g1).own i Rs ei
    refine ⟨.ref pl, m1, hj.can (a.sat.gr g1) fun u G2 H2 g2 ⟨m, e2, ej⟩ => ?_⟩
    subst ej
    have hlw : j < ws.length := by rw [← m4.len]; exact hlt
    refine ⟨pl, ws, (j : Int), j, rfl, e2, g2.hs _ _ m2, ?_, u2, _, rfl, rfl, ?_⟩
    · unfold ixN
      rw [if_pos (by omega), if_pos (by omega)]
      simp
    · exact k _ G2 _ ((((a.go g1).go g2).change ei m1 ((m4.mono g2.g).set (R1.m g2.g k1) j)).set l (R2.m g2.g k2))
end

section
variable {X : Cx} {sl : List Ent} {a b : Expr} {p pos : Pos} {A B C C' : Int → Prop}
theorem e_divmodP (h : Ev X a sl (rInt A)) (h' : Ev X b sl (rInt B)) (hm : X.mg "divmod" = none) (hd : ∀ x y, A x → B y → CDiv x y ∧ C (x / y) ∧ C' (x % y)) (hg : Gl X "divmod" := by rfl) (he : starEach [a, b] X.env = (false, eval a X.env) :: starEach [b] X.env := by rfl) (he' : starEach [b] X.env = [(false, eval b X.env)] := by rfl) : Ev X (.Call (.Name "divmod" p) [a, b] [] pos) sl (rTup X.K [rInt C, rInt C']) :=
  e_cb (rs := .v _) call_divmod hm (by decide +kernel) (a2 h h' he he') (fun vs G H Q s r q => by
    obtain ⟨v, v', rfl, ⟨i, rfl, hi⟩, ⟨j, rfl, hj⟩⟩ := pv2 r
    obtain ⟨h1, h2, h3⟩ := hd i j hi hj
    exact ⟨_, _, rfl, h1, fun l hl => q _ _ _ (Gr.new s hl) ⟨l, _, rfl, SqT.of upd_same, .cons ⟨_, rfl, h2⟩ (.cons ⟨_, rfl, h3⟩ .nil)⟩⟩) hg (by decide) (by decide) he (by rw [he']; rfl)
end
section
variable {X : Cx} {sl : List Ent} {e : Expr}
theorem PVs.opens {α β : Type} {P : α → β → Prop} {d : α → RV} {R : β → RV} {G : Hp} : ∀ {xs : List α} {vs : List V}, (∀ x ∈ xs, (d x).le (rX (P x) R)) → PVs G (xs.map d) vs → ∃ ys, Paired P xs ys ∧ PVs G (ys.map R) vs
  | [], _, _, .nil => ⟨[], .nil, .nil⟩
  | x :: xs, _, h, .cons r t => by
    obtain ⟨y, p, r'⟩ := h x (List.mem_cons_self ..) _ _ r
    obtain ⟨ys, h1, h2⟩ := PVs.opens (fun z hz => h z (List.mem_cons_of_mem _ hz)) t
    exact ⟨y :: ys, .cons p h1, .cons r' h2⟩
/-- a new list, told place by place -/
theorem EvR.opens {α β : Type} {P : α → β → Prop} {d : α → RV} {R : β → RV} {xs : List α} (h : EvR X e sl (.l (xs.map d))) (hd : ∀ x ∈ xs, (d x).le (rX (P x) R)) : EvR X e sl (.x (fun ys => Paired P xs ys) fun ys => .l (ys.map R)) :=
  fun pins s σ G H Q I a k => h pins s σ G H Q I a fun p vs G' H' g n1 n2 e r => by
    obtain ⟨ys, h1, h2⟩ := PVs.opens hd r
    exact k ys h1 p vs G' H' g n1 n2 e h2
theorem EvR.ximp {α : Type} {P P' : α → Prop} {f : α → Res} (h : EvR X e sl (.x P f)) (l : ∀ x, P x → P' x) : EvR X e sl (.x P' f) := fun pins s σ G H Q I a k => h pins s σ G H Q I a fun x p => k x (l x p)
/-- a def's value, one of several -/
theorem EvR.ofI {P : Int → Prop} (h : Ev X e sl (rInt P)) : Ev X e sl (rX P iI) := h.imp le_xi
end
/-! ### the pot: a list of two ints, whatever they are -/
def PotI (p : Addr) : Heap → Prop := fun h => ∃ x y t u n, h.get? p = some { cls := .type "list", data := .seq #[.int x t, .int y u] n } ∧ 0 ≤ x ∧ 0 ≤ y ∧ y < 4294967296
def iPot : RV := ⟨fun G v => ∃ p, v = .ref p ∧ G p = some (.ext (PotI p)), fun s ⟨p, e, h⟩ => ⟨p, e, s _ _ h⟩⟩
def potRs : List RV := [rInt fun x => 0 ≤ x, rInt fun y => 0 ≤ y ∧ y < 4294967296]
section
variable {P : Program} {w : World} {K : PySem.W.Frag} {mg : Str → Option Value} {base : Heap}
theorem pot_out {H : Hp} {h : Heap} {p : Addr} (ok : HOk P w H h) (hp : H p = some (.ext (PotI p))) : ∃ x y, 0 ≤ x ∧ 0 ≤ y ∧ y < 4294967296 ∧ HOk P w (upd H p (.lst [.int x, .int y])) h := by
  obtain ⟨⟨x, y, t, u, n, e, h1, h2, h3⟩, _, _⟩ := ok p _ hp
  refine ⟨x, y, h1, h2, h3, fun b o eb => ?_⟩
  by_cases q : b = p
  · subst q
    rw [upd_same] at eb
    cases eb
    exact ⟨by show 2 ≤ sizeLine; decide, [.int x t, .int y u], n, .cons ⟨t, rfl⟩ (.cons ⟨u, rfl⟩ .nil), e⟩
  · rw [upd_ne q] at eb
    refine (ok b o eb).stay (fun _ _ _ z => z) (fun c z => ?_) fun c xs z => ?_
    · rw [upd_ne (fun w => by rw [w, hp] at z; cases z)]; exact z
    · rw [upd_ne (fun w => by rw [w, hp] at z; cases z)]; exact z
theorem pot_in {H : Hp} {h : Heap} {p : Addr} {x y : Int} (ok : HOk P w H h) (hp : H p = some (.lst [.int x, .int y])) (h1 : 0 ≤ x) (h2 : 0 ≤ y) (h3 : y < 4294967296) : HOk P w (upd H p (.ext (PotI p))) h := by
  obtain ⟨_, its, n, r, e⟩ := ok p _ hp
  cases r with
  | cons a r => cases r with
    | cons b r =>
      cases r
      obtain ⟨t, rfl⟩ := a
      obtain ⟨u, rfl⟩ := b
      intro b o eb
      by_cases q : b = p
      · subst q
        rw [upd_same] at eb
        cases eb
        refine ⟨⟨x, y, t, u, n, e, h1, h2, h3⟩, ⟨_, e⟩, fun ha hb ⟨x, y, t, u, n, e, q⟩ k => ⟨x, y, t, u, n, k _ e, q⟩⟩
      · rw [upd_ne q] at eb
        refine (ok b o eb).stay (fun _ _ _ z => z) (fun c z => ?_) fun c xs z => ?_
        · rw [upd_ne (fun w => by rw [w, hp] at z; cases z)]; exact z
        · rw [upd_ne (fun w => by rw [w, hp] at z; cases z)]; exact z
/-- draw(pot, size), over the list itself; over the pot -/
def draw1 (ps : List Str) : FnV Int := ⟨ps, fun _ => oL potRs, fun m => [iI m], fun m => 0 < m ∧ m < 1073741824, fun _ => oL potRs, fun m => rInt fun d => 0 ≤ d ∧ d < m⟩
def F_draw (ps : List Str) : Fn Int := ⟨ps, fun m => [iPot, iI m], fun m => 0 < m ∧ m < 1073741824, fun m => .v (rInt fun d => 0 ≤ d ∧ d < m)⟩
def del (G : Hp) (p : Addr) : Hp := fun a => if a = p then none else G a
theorem del_at {G : Hp} {p : Addr} : del G p p = none := if_pos rfl
theorem del_ne {G : Hp} {p a : Addr} (h : a ≠ p) : del G p a = G a := if_neg h
theorem fnOk_draw {k : Nat} {f : Addr} {fd : FuncData} {ps : List Str} (hl : ps.length = 2) (ok : FnOk P w K mg base CX0 k f fd ps (draw1 ps).sp) : FnOk P w K mg base CX0 k f fd ps (F_draw ps).sp := by
  refine ⟨fun vs H Q E h => ?_, fun A outer s H args us vs Q E hr e0 hb hv h => ?_⟩
  · obtain ⟨z, G, sm, r, hp, q⟩ := h
    rw [← r.len, hl]
    rfl
  · obtain ⟨m, G, sm, r, hp, q⟩ := h
    obtain ⟨v1, v2, rfl, ⟨p, rfl, hG⟩, ⟨m', rfl, rfl⟩⟩ := pv2 r
    have hH := sm _ _ hG
    obtain ⟨x, y, h1, h2, h3, hok⟩ := pot_out e0.hok hH
    have hsome : ∀ b, H b = none → b ≠ p := fun b e z => by rw [z, hH] at e; cases e
    have e1 : Env0 P w K mg base A outer s (upd H p (.lst [.int x, .int y])) := ⟨e0.frames, e0.mod, fun b o e => ⟨(e0.bs b o e).1, by rw [upd_ne (hsome b (e0.bs b o e).2)]; exact (e0.bs b o e).2⟩, e0.bsz, e0.funs, fun b hb => by rw [upd_ne (hsome b (e0.frf b hb))]; exact e0.frf b hb, hok, e0.bare⟩
    have sd : Same (del G p) (upd H p (.lst [.int x, .int y])) := fun a o e => by
      by_cases qa : a = p
      · rw [qa, del_at] at e; cases e
      · rw [del_ne qa] at e
        rw [upd_ne qa]
        exact sm _ _ e
    refine codeAny_mono (ok.run A outer s (upd H p (.lst [.int x, .int y])) args us _ (fun v H' => Q v (upd H' p (.ext (PotI p))) ∧ ∃ x y, H' p = some (.lst [.int x, .int y]) ∧ 0 ≤ x ∧ 0 ≤ y ∧ y < 4294967296) (fun _ _ _ => False) hr e1 hb hv ⟨m', del G p, p, _, [.int m'], sd, rfl, upd_same, del_at, ⟨trivial, _, rfl, .cons ⟨x, rfl, h1⟩ (.cons ⟨y, rfl, h2, h3⟩ .nil)⟩, .cons ⟨m', rfl, rfl⟩ .nil, hp, fun v G' H' o' g hp' gp' ho' rv => ?_⟩) fun r s' hq => ?_
    · obtain ⟨_, ws, rfl, hw⟩ := ho'
      obtain ⟨a1, a2, rfl, ⟨x', rfl, hx'⟩, ⟨y', rfl, hy', hy2⟩⟩ := pv2 hw
      refine ⟨?_, x', y', hp', hx', hy', hy2⟩
      refine q v (upd G' p (.ext (PotI p))) _ ⟨fun a o e => ?_, fun a o _ e => ?_, fun a e => ?_, fun a o e => ?_, fun a e => ?_⟩ rv
      · by_cases qa : a = p
        · subst qa; rw [upd_same, ← e, hG]
        · rw [upd_ne qa]; exact g.g a o (by rw [del_ne qa]; exact e)
      · by_cases qa : a = p
        · subst qa; rw [upd_same, ← e, hH]
        · rw [upd_ne qa]; exact g.h a o qa (by rw [upd_ne qa]; exact e)
      · by_cases qa : a = p
        · subst qa; rw [upd_same]; exact fun z => nomatch z
        · rw [upd_ne qa]; exact g.t a (by rw [upd_ne qa]; exact e)
      · by_cases qa : a = p
        · subst qa; rw [upd_same] at e ⊢; exact e
        · rw [upd_ne qa] at e ⊢; exact g.s a o e
      · by_cases qa : a = p
        · subst qa; rw [upd_same, hG]
        · rw [upd_ne qa, g.n a (by rw [upd_ne qa]; exact e), del_ne qa]
    · cases r with
      | error e => exact hq
      | ok fl =>
        cases fl with
        | ret u =>
          obtain ⟨v, H', os, bare, un, hok', rv, qq⟩ := hq
          obtain ⟨qq, x', y', hp', hx', hy', hy2⟩ := qq
          refine ⟨v, upd H' p (.ext (PotI p)), os, bare, ⟨fun b o e n hb hx => un.keep b o e (by rw [upd_ne (hsome b n)]; exact n) hb hx, fun b o e n hb hx => un.slot b o e (by rw [upd_ne (hsome b n)]; exact n) hb hx, fun b o e n hx => ?_, un.there, fun b xs e => ?_, fun b o u e => ?_, fun b ps e => ?_⟩, pot_in hok' hp' hx' hy' hy2, rv, qq⟩
          · rw [upd_ne (hsome b n)]
            exact un.free b o e (by rw [upd_ne (hsome b n)]; exact n) hx
          · have qb : b ≠ p := fun z => by rw [z, hH] at e; cases e
            rw [upd_ne qb]
            exact un.tups b xs (by rw [upd_ne qb]; exact e)
          · have qb : b ≠ p := fun z => by rw [z, hH] at e; cases e
            rw [upd_ne qb]
            exact un.frzs b o u (by rw [upd_ne qb]; exact e)
          · have qb : b ≠ p := fun z => by rw [z, hH] at e; cases e
            rw [upd_ne qb]
            exact un.tbls b ps (by rw [upd_ne qb]; exact e)
        | next => exact hq
        | brk => exact hq
        | cont => exact hq
/-- a def that makes such a list makes a pot -/
theorem fnOk_mkpot {k : Nat} {f : Addr} {fd : FuncData} {α : Type} {ps : List Str} {args : α → List RV} {pre : α → Prop} (ok : FnOk P w K mg base CX0 k f fd ps (Fn.sp ⟨ps, args, pre, fun _ => .l potRs⟩)) : FnOk P w K mg base CX0 k f fd ps (Fn.sp ⟨ps, args, pre, fun _ => .v iPot⟩) := by
  refine ⟨fun vs H Q E h => ?_, fun A outer s H us' us vs Q E hr e0 hb hv h => ?_⟩
  · obtain ⟨z, G, sm, r, hp, q⟩ := h
    exact ok.len vs H (fun _ _ => True) E ⟨z, G, sm, r, hp, fun _ _ _ _ _ _ _ _ _ => trivial⟩
  · obtain ⟨m, G, sm, r, hp, q⟩ := h
    refine codeAny_mono (ok.run A outer s H us' us vs (fun v H' => ∃ p x y, H' p = some (.lst [.int x, .int y]) ∧ 0 ≤ x ∧ 0 ≤ y ∧ y < 4294967296 ∧ Q v (upd H' p (.ext (PotI p)))) (fun _ _ _ => False) hr e0 hb hv ⟨m, G, sm, r, hp, fun p ws G' H' g n1 n2 e hw => ?_⟩) fun r s' hq => ?_
    · obtain ⟨a1, a2, rfl, ⟨x', rfl, hx'⟩, ⟨y', rfl, hy', hy2⟩⟩ := pv2 hw
      refine ⟨p, x', y', e, hx', hy', hy2, ?_⟩
      refine q (.ref p) (upd G' p (.ext (PotI p))) _ ⟨g.g.trans (same_new n2), fun a o _ ea => ?_, fun a ea => ?_, fun a o ea => ?_, fun a ea => ?_⟩ ⟨p, rfl, upd_same⟩
      · rw [upd_ne (ne_of_none ea n1)]; exact g.h a o (fun z => z) ea
      · by_cases qa : a = p
        · subst qa; rw [upd_same]; exact fun z => nomatch z
        · rw [upd_ne qa]; exact g.t a ea
      · by_cases qa : a = p
        · subst qa; rw [upd_same] at ea ⊢; exact ea
        · rw [upd_ne qa] at ea ⊢; exact g.s a o ea
      · rw [upd_ne (fun z => ea (by rw [z]; exact n1))]; exact g.n a ea
    · cases r with
      | error e => exact hq
      | ok fl =>
        cases fl with
        | ret u =>
          obtain ⟨v, H', os, bare, un, hok', rv, p, x', y', hp', hx', hy', hy2, qq⟩ := hq
          have ne : ∀ b, H' b = none → b ≠ p := fun b e z => by rw [z, hp'] at e; cases e
          refine ⟨v, upd H' p (.ext (PotI p)), os, bare, ⟨un.keep, un.slot, fun b o e n hx => ?_, un.there, fun b xs e => ?_, fun b o u e => ?_, fun b ps e => ?_⟩, pot_in hok' hp' hx' hy' hy2, rv, qq⟩
          · have := un.free b o e n hx
            rw [upd_ne (ne b this)]
            exact this
          · have := un.tups b xs e
            rw [upd_ne (fun z => by rw [z, hp'] at this; cases this)]
            exact this
          · have := un.frzs b o u e
            rw [upd_ne (fun z => by rw [z, hp'] at this; cases this)]
            exact this
          · obtain ⟨more, this⟩ := un.tbls b ps e
            refine ⟨more, ?_⟩
            rw [upd_ne (fun z => by rw [z, hp'] at this; cases this)]
            exact this
        | next => exact hq
        | brk => exact hq
        | cont => exact hq
end
end Dl

set_option maxHeartbeats 4000000
namespace Dl
open PySem PySem.Spec PyProof.Rows L2
/-! ### set(xs), xs a list of ints, as a set that can be walked -/
/-- what set.__new__ lays down -/
abbrev ob0 (w : World) : Obj := { cls := .type "set", dict := none, data := .set #[] 0 (.fresh 0 0 (!w.params.followText "set-order")) }
section
variable {P : Program} {w : World} {A : Around} {E : Value → Shared → Prop} {s : Shared}
theorem set_of_ints {l : Addr} {its : Array Value} {ns : List Int} {Q : Value → Shared → Prop} (free : A.handled = none) (isl : s.heap.IsList l its) (isInts : IntsAre its.toList ns) (small : ns.length + 1 < scanBound)
    (fin : ∀ (h2 : Heap) (t2 c : Nat), SetR w h2 s.heap.objs.size (fun j => decide (j ∈ ns)) c → c ≤ ns.length → (∀ b u, s.heap.get? b = some u → h2.get? b = some u) → Q (.ref s.heap.objs.size) { s with heap := h2, toks := t2 }) :
    wpAny (model P w) A (call (.type "set") [.ref l]) Q E s := by
  have size : its.size = ns.length := (Array.length_toList (xs := its)).symm.trans (IntsAre.length isInts)
  have ⟨cc, tt, kin⟩ := F.called_set.mro
  have made0 := F.called_set.made
  have sub0 := F.called_set.sub
  have not0 := F.called_set.notType
  have can0 := F.called_set.canCreate
  have arg0 := F.typeCall_set_1 (.ref l)
  apply wpAny_call
  apply codeAny_of_tree
  show wpAny _ _ (callAny (.type "set") _) _ _ _
  apply wpAny_pure
  refine ⟨Code.quiet_builtin _ (by decide +kernel), codeAny_builtin (b := _) F.entry_type_call ?_⟩
  rw [Around.under_plain (weight_type_call_type "set" [Value.ref l] []) (by rfl)]
  repeat (any_goals (first | wp_step | assumption))
  apply codeAny_mono (code_set_led1 (Value.ref l) (E := E) (Q₁ := fun v st => v = Value.ref s.heap.objs.size ∧ st = { s with heap := s.heap.push (ob0 w) }) ⟨rfl, rfl⟩)
  intro r1 st hr1
  match r1, hr1 with
  | .error _, z => exact z
  | .ok (.ret v), z =>
    obtain ⟨rfl, rfl⟩ := z
    have at0 : (s.heap.push (ob0 w)).get? s.heap.objs.size = some (ob0 w) := Heap.get?_push_size _ rfl
    have ty0 : Shared.TypeIs { s with heap := s.heap.push (ob0 w) } (.ref s.heap.objs.size) "set" := ⟨_, at0, rfl⟩
    have look0 := F.called_set.init.lookup
    have bind0 := F.called_set.init.bind (Value.ref s.heap.objs.size)
    repeat (any_goals (first | wp_step | assumption))
    apply codeAny_mono (codeAny_call_builtin (R := wants (fun v st => v = .none ∧ ∃ h2 t2 c, st = { s with heap := h2, toks := t2 } ∧ SetR w h2 s.heap.objs.size (fun j => decide (j ∈ ns)) c ∧ c ≤ ns.length ∧ ∀ b u, s.heap.get? b = some u → h2.get? b = some u) E)
      F.called_set.init.plain F.entry_set_init (check_set_init_1 ty0 ?_))
    · intro r2 st2 hr2
      match r2, hr2 with
      | .error _, z => exact z
      | .ok (.ret v2), z =>
        obtain ⟨rfl, h2, t2, c, rfl, z1, z2, z3⟩ := z
        repeat (any_goals (first | wp_step | assumption))
        exact fin h2 t2 c z1 z2 z3
    · have ⟨ol, gl, cl, nl, dl⟩ := isl
      rcases ol with ⟨c1, c2, c3, c4⟩
      dsimp only at cl dl
      subst cl dl
      have gl1 : (s.heap.push (ob0 w)).get? l = some { cls := .type "list", dict := c2, data := .seq its nl, slots := c4 } := Heap.get?_push_of_some _ gl
      have no1 := F.sub_list_set
      have no2 := F.sub_list_frozenset
      have no3 : (Value.type "list" == Value.type "dict") = false := by decide
      have isl1 : (s.heap.push (ob0 w)).IsList l its := ⟨_, gl1, rfl, nl, rfl⟩
      unfold Builtin.«set.__init__» Builtin.Frozenset.updateFrom noKeywords
      generalize eq : pyIter = PI
      wp_walk
      subst eq
      apply wpAny_pyIter_list isl1
      apply wpAny_bind
      apply wpAny_runValue
      have low : l < s.heap.objs.size := Heap.lt_size gl
      have free3 : A.in1.in1.in1.handled = none := by simp [free]
      have top : (s.heap.push (ob0 w)).objs.size = s.heap.objs.size + 1 := Heap.size_push ..
      have ne1 : l ≠ (s.heap.push (ob0 w)).objs.size := by rw [top]; exact Nat.ne_of_lt (Nat.lt_succ_of_lt low)
      have ne2 : s.heap.objs.size ∉ [(s.heap.push (ob0 w)).objs.size, l] := by
        rw [top]
        intro z
        rcases List.mem_cons.mp z with z | z
        · exact absurd z (Nat.ne_of_lt (Nat.lt_succ_self _))
        · exact absurd (List.mem_singleton.mp z) (Nat.ne_of_gt low)
      have vals : ∀ (i : Nat) (v : Value), its[i]? = some v → ∃ k t, ns[i]? = some k ∧ v = .int k t := fun i v e => by
        have hi : i < ns.length := by rw [← size]; exact (Array.getElem?_eq_some_iff.mp e).1
        have ⟨t, e2⟩ := PyProof.Rows.IntsAre.int_at isInts i v (by rw [Array.getElem?_toList]; exact e)
        refine ⟨ns[i], t, List.getElem?_eq_getElem hi, ?_⟩
        rw [e2, List.getD_eq_getElem?_getD, List.getElem?_eq_getElem hi, Option.getD_some]
      refine set_update_ints (ns := ns) (Walks.list free3 _ l ne1 its).toS s.heap.objs.size ne2 size small vals (its.size - 0) 0 _ (by omega) (by omega) ⟨⟨_, Heap.get?_push_size _ rfl, rfl, rfl⟩, isl1.push _⟩ ⟨0, by omega, setR_new_at (Heap.get?_push_of_some _ at0)⟩ ?_
      rintro ⟨h2, g2, d2, t2, o2⟩ c mv hc2 hs2
      have eg : g2 = s.gens := mv.gens
      have ed : d2 = s.drawn := mv.drawn
      have eo : o2 = s.os := mv.os
      cases eg
      cases ed
      cases eo
      show wpAny _ _ _ _ _ _
      apply wpAny_pure
      show wpAny _ _ (ret .none) _ _ _
      apply wpAny_pure
      refine ⟨rfl, h2, t2, c, rfl, hs2, by omega, fun b u e => ?_⟩
      have lo := Heap.lt_size e
      refine mv.heap b u (fun z => ?_) (Heap.get?_push_of_some _ (Heap.get?_push_of_some _ e))
      rcases List.mem_cons.mp z with z | z
      · exact absurd z (Nat.ne_of_lt lo)
      · have z := List.mem_singleton.mp z
        rw [top] at z
        exact absurd z (Nat.ne_of_lt (Nat.lt_succ_of_lt lo))
end
section
variable {X : Cx} {sl : List Ent} {a : Expr} {p pos : Pos}
/-- set(xs) -/
def rSetI (K : PySem.W.Frag) (w : World) : List V → Hp → VK → Prop := fun xs H Q => ∃ (l : Addr) (ns : List Int), xs = [V.ref l] ∧ SqL K H l (ns.map V.int) ∧ ns.length < 4000 ∧
  ∀ c q, c ≤ ns.length → H q = none → Q (.ref q) (upd H q (SetO w q (fun j => decide (j ∈ ns)) c))
theorem cr_setI (hc : X.calm = true) : CallR X (.type "set") (rSetI X.K X.w) := by
  intro pins s σ H xs us Q I r h
  obtain ⟨l, ns, rfl, hq, hl, q⟩ := h
  rw [Vals.ref1 r]
  obtain ⟨its, r2, pl, hz⟩ := I.list hq
  refine set_of_ints (I.ok.hd hc) pl.isList (by simpa using r2.ints) (by unfold scanBound; omega) fun h2 t2 c R hcn k => ?_
  exact ⟨.ref _, upd H s.heap.objs.size (SetO X.w s.heap.objs.size (fun j => decide (j ∈ ns)) c), I.laid (t' := t2) k (Nat.le_refl _) (setO_new R), rfl, q _ _ hcn (I.hok.fresh (Nat.le_refl _))⟩
/-- a set of one's own -/
def oSet (w : World) (m : Nat) (S : Int → Bool) : OV := ⟨fun _ p o => ∃ c, c ≤ m ∧ o = SetO w p S c, fun _ h => h⟩
theorem e_setI {ns : List Int} (h : Ev X a sl (rInts X.K ns)) (hm : X.mg "set" = none) (hl : ns.length < 4000) (hc : X.calm = true := by rfl) (hg : Gl X "set" := by rfl) (he : starEach [a] X.env = [(false, eval a X.env)] := by rfl) : EvR X (.Call (.Name "set" p) [a] [] pos) sl (.m (oSet X.w ns.length fun j => decide (j ∈ ns))) :=
  e_ct (cr_setI hc) hm (by decide +kernel) (a1 h he) (fun vs G H Q s r q => by
    obtain ⟨v, rfl, b, ws, rfl, h1, h2⟩ := pv1 r
    rw [h2.ints] at h1
    exact ⟨b, ns, rfl, s.seq h1, hl, fun c p hcn hp => q p _ G _ (Gr.newOut s hp) hp (s.free hp) upd_same ⟨c, hcn, rfl⟩⟩) hg (by decide) (by decide) he rfl
theorem e_sortedS {m : Nat} {S : Int → Bool} (h : EvR X a sl (.m (oSet X.w m S))) (h64 : m < 64) (hm : X.mg "sorted" = none) (hc : X.calm = true := by rfl) (hg : Gl X "sorted" := by rfl) (he : starEach [a] X.env = [(false, eval a X.env)] := by rfl) : EvR X (.Call (.Name "sorted" p) [a] [] pos) sl (.x (fun ms : List Int => ms.Pairwise (· < ·) ∧ (∀ k, k ∈ ms ↔ S k = true) ∧ ms.length ≤ m) fun ms => .l (ms.map iI)) :=
  evR_of (pe_callB (cr_sortedSet hc) hg hm (by decide +kernel) (pa_cons pcan pa_nil he) (by decide) (by decide) he rfl) fun σ G H Q z q => h.can z fun b o G1 H1 g1 n1 n2 e1 ⟨c, hcm, ho⟩ => by
    subst ho
    refine ⟨b, S, c, rfl, e1, by omega, fun ns l h1 h2 h3 hl => ?_⟩
    exact q ns ⟨h1, h2, by omega⟩ l _ G1 _ (g1.trans (Gr.newOut g1.s hl)) (g1.hs.free hl) (g1.s.free hl) upd_same (PVs.ofInts ns)
end
end Dl

set_option maxHeartbeats 2000000
namespace Dl
open PySem PySem.Spec PyProof.Rows L2
/-! ### a comprehension over so many turns, their number one of several -/
def SrcX {β : Type} (wi : TI) (g : TG) (sl : List Ent) (Pb : β → Prop) (n : β → Nat) (js : List Nat) (Rs : β → Nat → List RV) : Prop :=
  ∀ σ G H R, Sat sl σ G H → (∀ b J G1 H1, Pb b → Gr G H G1 H1 → Goes J g G1 (n b) js (Rs b) → R J H1) → wi σ H R
section
variable {X : Cx} {B : Base} {L : Hp} {sl : List Ent} {D : Ends} {pos : Pos} {rest : List Stmt} {β : Type} {Pb : β → Prop} {n : β → Nat} {js : List Nat} {Rs : β → Nat → List RV} {wi : TI} {g : TG} {tg iter : Expr}
/-- the element, at each turn -/
def teC (X : Cx) (scope : Scope) (elt : Expr) : TE := fun σ H Q => ∀ (s : Shared) (H0 : Hp) (C : Addr) (cl : List (Str × Addr)) (fp : List Addr), can (X.blk s H0 scope (compEnvC scope cl C X.env) fp) elt σ H Q
theorem pteC {elt : Expr} {scope : Scope} (s : Shared) (H : Hp) (C : Addr) (cl : List (Str × Addr)) (fp : List Addr) : PE (X.blk s H scope (compEnvC scope cl C X.env) fp) elt (teC X scope elt) := ⟨fun pins s' σ' H' Q I h => h s H C cl fp pins s' I⟩
theorem lc_semX {elt : Expr} {scope : Scope} {own : List (Str × Nat)} (hs : SrcX wi g sl Pb n js Rs) (hj : ∀ j ∈ js, j ∈ own.map (·.2)) (hn : ∀ b, Pb b → n b ≤ 90000) (d : β → Nat → RV)
    (he : ∀ b i, Pb b → i < n b → ∀ (s : Shared) (H : Hp) (C : Addr) (cl : List (Str × Addr)) (fp : List Addr), Ev (X.blk s H scope (compEnvC scope cl C X.env) fp) elt (setE (wipeE sl (own.map (·.2))) js (Rs b i)) (d b i)) :
    ∀ σ G H Q, Sat sl σ G H → Post G H Q (.x Pb fun b => .l ((List.range (n b)).map (d b))) → tLc wi g tYes (teC X scope elt) (own.map (·.2)) σ H Q :=
  fun σ G H Q a q => hs σ G H _ a fun bb It G1 H1 pb g1 gs D hD => by
    refine ⟨fun i m H' => m = n bb - i ∧ i ≤ n bb ∧ ∃ G' vs, Gr G1 H1 G' (upd H' D (.lst vs)) ∧ G' D = none ∧ H' D = some (.lst vs) ∧ PVs G' ((List.range i).map (d bb)) vs, ⟨n bb, by simp, Nat.zero_le _, G1, [], ?_, g1.s.free hD, upd_same, .nil⟩, ?_⟩
    · rw [upd_upd]; exact Gr.newOut g1.s hD
    · rintro i m H' ⟨rfl, hin, G', vs, g2, h1, h2, h3⟩
      have eH : upd H' D (.lst vs) = H' := by
        funext b
        by_cases e : b = D
        · subst e; rw [upd_same, h2]
        · rw [upd_ne e]
      rw [eH] at g2
      by_cases hlt : i < n bb
      · refine .inr ⟨gs.go i G' H' hlt g2.g g2.s, fun H'' => ∃ G' vs, Gr G1 H1 G' (upd H'' D (.lst vs)) ∧ G' D = none ∧ H'' D = some (.lst vs) ∧ PVs G' ((List.range (i + 1)).map (d bb)) vs, fun H'' hh => ⟨n bb - (i + 1), by omega, rfl, hlt, hh⟩, fun x H'' y => ?_⟩
        refine gs.yld i _ G' H' x H'' _ hlt g2.g g2.s y fun ws G2 H2 g3 r => ⟨wipe_setS hj, ?_⟩
        unfold tYes; dsimp only
        rw [if_pos rfl]
        intro s H0 C cl fp
        have sa : Sat (setE (wipeE sl (own.map (·.2))) js (Rs bb i)) (setS (wipe σ (own.map (·.2))) js ws) G2 H2 := Sat.setS (((a.wipe _).gr g1).gr (g2.trans g3)) r
        refine (he bb i pb hlt s H0 C cl fp).can sa fun v G3 H3 g4 rv => ?_
        have hD3 : H3 D = some (.lst vs) := g4.hs _ _ (g3.hs _ _ h2)
        have gD3 : G3 D = none := (g3.trans g4).out h2 h1
        have lv : vs.length = i := by have := h3.len; rw [List.length_map, List.length_range] at this; exact this.symm
        have nb := hn bb pb
        refine ⟨vs, hD3, Nat.lt_of_le_of_lt (by omega : vs.length ≤ 90000) (by decide), G3, vs ++ [v], ?_, gD3, upd_same, ?_⟩
        · rw [upd_upd]
          have gt : Gr G1 H1 G3 H3 := (g2.trans g3).trans g4
          refine ⟨gt.g, fun b o m e => ?_, fun b e => ?_, fun b o e => ?_, gt.n⟩
          · rw [upd_ne (ne_of_none e hD)]; exact gt.h b o m e
          · by_cases eb : b = D
            · rw [eb, upd_same]; exact fun z => nomatch z
            · rw [upd_ne eb]; exact gt.t b e
          · rw [upd_ne (fun z => by rw [z, gD3] at e; cases e)]; exact gt.s b o e
        · rw [List.range_succ, List.map_append]
          exact (h3.mono (g3.g.trans g4.g)).app (.cons rv .nil)
      · have e : i = n bb := by omega
        subst e
        exact .inl ⟨gs.stop G' H' g2.g g2.s, q bb pb D vs G' H' (g1.trans g2) (g1.hs.free hD) h1 h2 h3⟩
theorem e_lcX {elt : Expr} {scope : Scope} {own : List (Str × Nat)} (hc : X.calm = true) (hN : X.N.Nodup) (hi : PI X tg iter wi) (ok : BlkOk X.N X.env.scope scope own)
    (hg : ∀ (s : Shared) (H : Hp) (C : Addr) (cl : List (Str × Addr)) (fp : List Addr), PG (X.blk s H scope (compEnvC scope cl C X.env) fp) tg g) (hs : SrcX wi g sl Pb n js Rs) (hj : ∀ j ∈ js, j ∈ own.map (·.2)) (hn : ∀ b, Pb b → n b ≤ 90000) (d : β → Nat → RV)
    (he : ∀ b i, Pb b → i < n b → ∀ (s : Shared) (H : Hp) (C : Addr) (cl : List (Str × Addr)) (fp : List Addr), Ev (X.blk s H scope (compEnvC scope cl C X.env) fp) elt (setE (wipeE sl (own.map (·.2))) js (Rs b i)) (d b i))
    (hf : ∀ x, foldedSetIterable iter X.env x = pure x := by intro _; rfl) : EvR X (.ListComp elt [⟨tg, iter, [], 0⟩] scope pos) sl (.x Pb fun b => .l ((List.range (n b)).map (d b))) :=
  evR_of (pe_lc hc hN hi ok hg (fun _ _ _ _ _ => pts_nil) pteC hf) (lc_semX hs hj hn d he)
/-- name = [..] on one line -/
theorem w_setLcX (i : Nat) {y : Str} {py spos : Pos} {elt : Expr} {scope : Scope} {own : List (Str × Nat)} (hc : X.calm = true) (hN : X.N.Nodup) (hi : PI X tg iter wi) (ok : BlkOk X.N X.env.scope scope own)
    (hg : ∀ (s : Shared) (H : Hp) (C : Addr) (cl : List (Str × Addr)) (fp : List Addr), PG (X.blk s H scope (compEnvC scope cl C X.env) fp) tg g) (hs : SrcX wi g sl Pb n js Rs) (hj : ∀ j ∈ js, j ∈ own.map (·.2)) (hn : ∀ b, Pb b → n b ≤ 90000) (d : β → Nat → RV)
    (he : ∀ b i, Pb b → i < n b → ∀ (s : Shared) (H : Hp) (C : Addr) (cl : List (Str × Addr)) (fp : List Addr), Ev (X.blk s H scope (compEnvC scope cl C X.env) fp) elt (setE (wipeE sl (own.map (·.2))) js (Rs b i)) (d b i))
    (k : ∀ b, Pb b → Wp X B L rest D (sl.set i (.own ((List.range (n b)).map (d b))))) (hy : X.N[i]? = some y) (hyl : X.env.scope.names.lookup y = some .local) (hsw : swapsWith (.ListComp elt [⟨tg, iter, [], 0⟩] scope pos) (some (.Name y py)) spos.line X.env = pure true)
    (hf : ∀ x, foldedSetIterable iter X.env x = pure x := by intro _; rfl) : Wp X B L (.Assign [.Name y py] (.ListComp elt [⟨tg, iter, [], 0⟩] scope pos) spos :: rest) D sl :=
  wp_of (ps_setLc hc hN hy hyl hsw hi ok hg (fun _ _ _ _ _ => pts_nil) pteC hf) fun σ G H a => lc_semX hs hj hn d he σ G H _ a.sat fun b pb p vs G' H' g' n1 n2 e r => k b pb _ G' H' (a.setOwn g' i n1 n2 e r)
theorem Src.x {n : Nat} {Rs : Nat → List RV} (h : Src wi g sl n js Rs) : SrcX wi g sl (fun _ : Unit => True) (fun _ => n) js (fun _ => Rs) := fun σ G H R a k => h σ G H R a fun J G1 H1 g1 gs => k () J G1 H1 trivial g1 gs
/-- name = [e for y in xs] -/
theorem w_setCompL {α : Type} [Inhabited α] {elt it : Expr} {x y : Str} {px py spos : Pos} {scope : Scope} {xs : List α} {c : α → RV} (i j : Nat) (d : α → RV) (hN : X.N.Nodup) (src : Ev X it sl (rLst X.K (xs.map c))) (hn : xs.length ≤ 90000)
    (el : ∀ x ∈ xs, ∀ s H C cl fp, Ev (blkX X scope s H C cl fp) elt (setE (wipeE sl [j]) [j] [c x]) (d x)) (k : Wp X B L rest D (sl.set i (.own (xs.map d)))) (hc : X.calm = true := by rfl) (hj : X.N[j]? = some y := by rfl) (hl : (relabel scope X.env).names.lookup y = some .local := by rfl) (hb : blkC X.N X.env.scope scope [(y, j)] = true := by kernel_rfl)
    (hx : X.N[i]? = some x := by rfl) (hxl : X.env.scope.names.lookup x = some .local := by rfl) (hsw : swapsWith (.ListComp elt [⟨.Name y py, it, [], 0⟩] scope pos) (some (.Name x px)) spos.line X.env = pure true := by exact sw_true rfl rfl (by decide) (by decide +kernel))
    (hf : ∀ x, foldedSetIterable it X.env x = pure x := by intro _; rfl) : Wp X B L (.Assign [.Name x px] (.ListComp elt [⟨.Name y py, it, [], 0⟩] scope pos) spos :: rest) D sl := by
  refine w_setLcX (own := [(y, j)]) (g := gName j) i hc hN (pi_list pcan) (blkOk_by hb) (fun s H C cl fp => pg_name hN hj (.inl hl) (.inr hl)) (src_L src).x (by simp) (fun _ _ => hn) (fun _ i => d (xs.getD i default)) (fun _ i _ hi s H C cl fp => el _ (getD_mem hi) s H C cl fp) (fun _ _ => ?_) hx hxl hsw hf
  rw [map_getD d xs]
  exact k
theorem src_rangeX {a : Expr} {Pm : Int → Prop} {j : Nat} (h : Ev X a sl (rInt Pm)) (h1 : ∀ m, Pm m → m < 2 ^ 62 ∧ -(2 ^ 62) ≤ m) (he : starEach [a] X.env = [(false, eval a X.env)] := by rfl) : SrcX (iRng1 (canA X [a])) (gName j) sl Pm (fun m => m.toNat) [j] (fun _ i => [iI (i : Int)]) := fun σ G H R z k => (a1 h he).can z fun vs G1 H1 g1 r => by
  obtain ⟨v, rfl, m, rfl, pm⟩ := pv1 r
  obtain ⟨b1, b2⟩ := h1 m pm
  refine ⟨_, rfl, b2, b1, k m _ G1 H1 pm g1 ⟨fun i G2 H2 hi s1 s2 => hi, fun G2 H2 s1 s2 => Nat.le_refl _, fun i σ G2 H2 x H' K hi s1 s2 y kk => ?_⟩⟩
  obtain ⟨rfl, rfl⟩ := y
  exact kk _ G2 H' (.refl s2) (.cons ⟨_, rfl, by simp⟩ .nil)
variable {elt : Expr} {y : Str} {py : Pos} {scope : Scope}
theorem e_compRX (j : Nat) (d : Int → Nat → RV) {a : Expr} {Pm : Int → Prop} {p1 p2 : Pos} (hN : X.N.Nodup) (src : Ev X a sl (rInt Pm)) (hn : ∀ m, Pm m → 0 ≤ m ∧ m ≤ 90000) (hm : X.mg "range" = none)
    (el : ∀ (m : Int) (i : Nat), Pm m → (i : Int) < m → ∀ s H C cl fp, Ev (blkX X scope s H C cl fp) elt (setE (wipeE sl [j]) [j] [iI (i : Int)]) (d m i)) (hc : X.calm = true := by rfl) (hg : Gl X "range" := by rfl) (he : starEach [a] X.env = [(false, eval a X.env)] := by rfl) (hj : X.N[j]? = some y := by rfl) (hl : (relabel scope X.env).names.lookup y = some .local := by rfl) (hb : blkC X.N X.env.scope scope [(y, j)] = true := by kernel_rfl)
    (hf : ∀ x, foldedSetIterable (.Call (.Name "range" p1) [a] [] p2) X.env x = pure x := by intro _; rfl) : EvR X (.ListComp elt [⟨.Name y py, .Call (.Name "range" p1) [a] [] p2, [], 0⟩] scope pos) sl (.x Pm fun m => .l ((List.range m.toNat).map (d m))) :=
  e_lcX (own := [(y, j)]) (pos := pos) (g := gName j) hc hN (pi_range1 hg hm pcanA he) (blkOk_by hb) (fun s H C cl fp => pg_name hN hj (.inl hl) (.inr hl)) (src_rangeX src (fun m pm => by have := hn m pm; omega) he) (by simp) (fun m pm => by have := hn m pm; omega) d (fun m i pm hi s H C cl fp => el m i pm (by omega) s H C cl fp) hf (elt := elt)
/-- each item one of several: the list is one of several -/
theorem EvR.opensX {α γ δ : Type} {Pa : α → Prop} {xs : α → List γ} {P : α → γ → δ → Prop} {d : α → γ → RV} {R : δ → RV} {e : Expr} (h : EvR X e sl (.x Pa fun a => .l ((xs a).map (d a)))) (hd : ∀ a, Pa a → ∀ x ∈ xs a, (d a x).le (rX (P a x) R)) : EvR X e sl (.x (fun ys => ∃ a, Pa a ∧ Paired (P a) (xs a) ys) fun ys => .l (ys.map R)) :=
  fun pins s σ G H Q I z k => h pins s σ G H Q I z fun a pa p vs G' H' g n1 n2 e r => by
    obtain ⟨ys, h1, h2⟩ := PVs.opens (hd a pa) r
    exact k ys ⟨a, pa, h1⟩ p vs G' H' g n1 n2 e h2
end
/-! ### dicts of one's own, their keys ints -/
abbrev PKs (G : Hp) (ks : List (Int × RV)) (kvs : List (Key × V)) : Prop := Paired (fun (p : Int × RV) (q : Key × V) => q.1 = Sum.inl p.1 ∧ p.2.r G q.2) ks kvs
theorem PKs.mono {G G' : Hp} {ks : List (Int × RV)} {kvs : List (Key × V)} (s : Same G G') (h : PKs G ks kvs) : PKs G' ks kvs := Paired.imp (fun p q z => ⟨z.1, p.2.m s z.2⟩) h
def oD (ks : List (Int × RV)) : OV := ⟨fun G _ o => ∃ kvs, o = .dK kvs ∧ PKs G ks kvs, fun s ⟨kvs, e, h⟩ => ⟨kvs, e, h.mono s⟩⟩
/-- a dict as a value -/
def rDct (ks : List (Int × RV)) : RV := ⟨fun G v => ∃ a kvs, v = .ref a ∧ G a = some (.dK kvs) ∧ PKs G ks kvs, fun s ⟨a, kvs, e, h1, h2⟩ => ⟨a, kvs, e, s _ _ h1, h2.mono s⟩⟩
def getK (ks : List (Int × RV)) (k : Int) : Option RV := (ks.find? fun p => decide (p.1 = k)).map (·.2)
theorem PKs.get {G : Hp} : ∀ {ks : List (Int × RV)} {kvs : List (Key × V)} {k : Int} {R : RV}, PKs G ks kvs → getK ks k = some R → ∃ v, valV kvs (Sum.inl k) = some v ∧ R.r G v
  | _, _, _, _, .nil, e => by simp [getK] at e
  | (k0, R0) :: ks, (k1, v1) :: kvs, k, R, .cons ⟨h1, h2⟩ t, e => by
    replace h1 : k1 = Sum.inl k0 := h1
    subst h1
    by_cases c : k0 = k
    · subst c
      have e2 : R0 = R := by simpa [getK, List.find?_cons] using e
      subst e2
      exact ⟨v1, valV_pos rfl, h2⟩
    · have e2 : getK ks k = some R := by simpa [getK, List.find?_cons, c] using e
      obtain ⟨v, g1, g2⟩ := PKs.get t e2
      exact ⟨v, by rw [valV_neg (fun z => c (Sum.inl.inj z))]; exact g1, g2⟩
theorem PKs.miss {G : Hp} : ∀ {ks : List (Int × RV)} {kvs : List (Key × V)} {k : Int}, PKs G ks kvs → (∀ p ∈ ks, p.1 ≠ k) → valV kvs (Sum.inl k) = none
  | _, _, _, .nil, _ => rfl
  | (k0, R0) :: ks, (k1, v1) :: kvs, k, .cons ⟨h1, h2⟩ t, n => by
    replace h1 : k1 = Sum.inl k0 := h1
    subst h1
    rw [valV_neg (fun z => n (k0, R0) (List.mem_cons_self ..) (Sum.inl.inj z))]
    exact PKs.miss t fun p hp => n p (List.mem_cons_of_mem _ hp)
theorem PKs.snoc {G : Hp} {k : Int} {R : RV} {v : V} (r : R.r G v) : ∀ {ks : List (Int × RV)} {kvs : List (Key × V)}, PKs G ks kvs → PKs G (ks ++ [(k, R)]) (kvs ++ [(Sum.inl k, v)])
  | _, _, .nil => .cons ⟨rfl, r⟩ .nil
  | _, _, .cons a t => .cons a (PKs.snoc r t)
section
variable {X : Cx} {B : Base} {L : Hp} {sl : List Ent} {D : Ends} {pos : Pos} {rest : List Stmt}
theorem e_dnew : EvR X (.Dict [] [] pos) sl (.m (oD [])) := evR_of pe_dnewK fun σ G H Q a q p hp => q p _ G _ (Gr.newOut a.sub hp) hp (a.sub.free hp) upd_same ⟨[], rfl, .nil⟩
theorem EvR.dct {e : Expr} {ks : List (Int × RV)} (h : EvR X e sl (.m (oD ks))) : Ev X e sl (rDct ks) := fun pins s σ G H Q I a k => h pins s σ G H Q I a fun p o G' H' g n1 n2 e ⟨kvs, eo, r⟩ => by
  subst eo
  exact k _ _ _ (Gr.take g n1 e n2) ⟨p, kvs, rfl, upd_same, r.mono (same_new n2)⟩
theorem EvR.xdct {e : Expr} {α : Type} {P : α → Prop} {ks : α → List (Int × RV)} (h : EvR X e sl (.x P fun x => .m (oD (ks x)))) : Ev X e sl (rX P fun x => rDct (ks x)) := fun pins s σ G H Q I a k => h pins s σ G H Q I a fun x px p o G' H' g n1 n2 e ⟨kvs, eo, r⟩ => by
  subst eo
  exact k _ _ _ (Gr.take g n1 e n2) ⟨x, px, p, kvs, rfl, upd_same, r.mono (same_new n2)⟩
/-- a thing of one's own is handed back -/
theorem w_retMu (i : Nat) {x : Str} {p' : Pos} {O : OV} (ei : sl[i]? = some (.mu O)) (hM : ∀ a, ¬ B.M a) (q : Post B.G B.H D.rt (.m O)) (hN : X.N[i]? = some x := by rfl) (hv : Vis X.env.scope x := by first | exact Or.inl rfl | exact Or.inr (Or.inl rfl) | exact Or.inr (Or.inr rfl)) (hd : (x == ("__debug__" : Str)) = false := by decide)
    (hcd : (x == ("__classdict__" : Str)) = false := by decide) : Wp X B L (.Return (some (.Name x p')) pos :: rest) D sl :=
  wp_of (ps_ret (pe_var hN hv hd hcd)) fun σ G H a => by
    obtain ⟨p, o, h1, h2, h3, h4⟩ := a.sat.mu i O ei
    exact ⟨.ref p, h1, q p o G H (a.gr0 hM) ((a.ow i _ p ei h1).resolve_left (hM p)) h3 h2 h4⟩
/-- d[k] = v, a new key -/
theorem w_dput (i : Nat) {y : Str} {p1 p2 : Pos} {b e : Expr} {ks : List (Int × RV)} {k0 : Int} {R : RV} (ei : sl[i]? = some (.mu (oD ks))) (hu : X.A.units + 1 < cLine) (h : Ev X e sl R) (hk : Ev X b sl (iI k0)) (hl : ks.length < 100000) (new : ∀ p ∈ ks, p.1 ≠ k0) (k : Wp X B L rest D (sl.set i (.mu (oD (ks ++ [(k0, R)]))))) (hN : X.N[i]? = some y := by rfl) (hv : Vis X.env.scope y := by first | exact Or.inl rfl | exact Or.inr (Or.inl rfl) | exact Or.inr (Or.inr rfl)) (hd : (y == ("__debug__" : Str)) = false := by decide)
    (hcd : (y == ("__classdict__" : Str)) = false := by decide) (hs : swapsWith e (some (.Subscript (.Name y p1) b p2)) pos.line X.env = pure false := by rfl) : Wp X B L (.Assign [.Subscript (.Name y p1) b p2] e pos :: rest) D sl :=
  wp_of (ps_dput hu (pe_var hN hv hd hcd) pcan pcan hs) fun σ G H a => h.can a.sat fun v G1 H1 g1 r1 => by
    have a1 := a.go g1
    obtain ⟨p, o, h1, h2, h3, kvs, rfl, h4⟩ := a1.sat.mu i _ ei
    refine ⟨.ref p, h1, hk.can a1.sat fun u G2 H2 g2 ⟨z, e2, ez⟩ => ?_⟩
    subst e2 ez
    have a2 := a1.go g2
    have h4' := h4.mono g2.g
    have hlen : kvs.length = ks.length := (Paired.length h4').symm
    refine ⟨p, _, rfl, DPut.k (k := Sum.inl z) (g2.hs _ _ h2) (by rw [hlen]; exact Nat.lt_of_lt_of_le hl (by decide)), ?_⟩
    refine k σ G2 _ (a2.changeM ei h1 ⟨_, rfl, ?_⟩)
    unfold putK
    rw [valV_any, h4'.miss new]
    exact h4'.snoc (R.m g2.g r1)
/-- d[k] -/
theorem e_dget {o i : Expr} {ks : List (Int × RV)} {k0 : Int} {R : RV} (hu : X.A.units + 1 < cLine) (h : Ev X o sl (rDct ks)) (hi : Ev X i sl (iI k0)) (hg : getK ks k0 = some R) (hs : NoSl i := by exact fun _ => rfl) : Ev X (.Subscript o i pos) sl R :=
  ev_of (pe_dget hu pcan pcan hs) fun σ G H Q z q => h.can z fun v G1 H1 g1 ⟨a, kvs, e1, h1, h2⟩ => hi.can (z.gr g1) fun u G2 H2 g2 ⟨n, e2, en⟩ => by
    subst e1 e2 en
    obtain ⟨v, r1, r2⟩ := (h2.mono g2.g).get hg
    exact ⟨a, v, rfl, .inl ⟨kvs, Sum.inl n, .inl ((g1.trans g2).s _ _ (g2.g _ _ h1)), rfl, r1.symm⟩, q v G2 H2 (g1.trans g2) r2⟩
/-- a, b, c = x, y, z; the first a thing of one's own -/
theorem w_par3M (i j l : Nat) {x y z : Str} {a b c : Expr} {px py pz pt : Pos} {kt k2 pt2} {O : OV} {R2 R3 : RV} (hc : X.calm = true) (hN : X.N.Nodup) (h1 : EvR X a sl (.m O)) (h2 : Ev X b sl R2) (h3 : Ev X c sl R3) (k : Wp X B L rest D (((sl.set i (.mu O)).set j (.val R2)).set l (.val R3))) (hi : X.N[i]? = some x := by rfl) (hj : X.N[j]? = some y := by rfl) (hl : X.N[l]? = some z := by rfl) (hij : i ≠ j := by decide) (hil : i ≠ l := by decide) (hjl : j ≠ l := by decide)
    (hx : X.env.scope.names.lookup x = some .local := by rfl) (hy : X.env.scope.names.lookup y = some .local := by rfl) (hz : X.env.scope.names.lookup z = some .local := by rfl) (hw : swappedStores [.Tuple [.Name x px, .Name y py, .Name z pz] kt pt] (.Tuple [a, b, c] k2 pt2) X.env = pure (some [x, y, z]) := by rfl)
    (hs : swapsWithSole [.Tuple [.Name x px, .Name y py, .Name z pz] kt pt] (.Tuple [a, b, c] k2 pt2) pos.line X.env = pure false := by rfl) (he : starEach [a, b, c] X.env = (false, eval a X.env) :: starEach [b, c] X.env := by rfl) (he1 : starEach [b, c] X.env = (false, eval b X.env) :: starEach [c] X.env := by rfl) (he' : starEach [c] X.env = [(false, eval c X.env)] := by rfl) :
    Wp X B L (.Assign [.Tuple [.Name x px, .Name y py, .Name z pz] kt pt] (.Tuple [a, b, c] k2 pt2) pos :: rest) D sl :=
  wp_of (ps_par3 hc hN hi hj hl hij hil hjl hx hy hz (pa_cons pcan (pa_cons pcan (pa_cons pcan pa_nil he') he1) he) hw hs) fun σ G H w => h1.can w.sat fun p o G1 H1 g1 n1 n2 e1 r1 => h2.can (w.sat.gr g1) fun u G2 H2 g2 r2 => h3.can ((w.sat.gr g1).gr g2) fun v G3 H3 g3 r3 => by
    have g23 := g2.trans g3
    refine ⟨_, _, _, rfl, k _ G3 H3 (((w.setMut (g1.trans g23) i n1 (g23.out e1 n2) (g23.hs _ _ e1) (O.m g23.g r1)).set j (R2.m g3.g r2)).set l r3)⟩
end
end Dl

set_option maxHeartbeats 2000000
namespace Dl
open PySem PySem.Spec PyProof.Rows L2 ClX
section
variable {X : Cx} {sl : List Ent} {C : Addr} {fs gs : List (Str × RV)} {a b : Expr} {pos p : Pos} {k : Nat} {α : Type}
/-- isinstance(a, C) for an instance of C -/
theorem e_isC {x : Str} {p' : Pos} (h : Ev X a sl (rIns C fs)) (hx : X.mg x = some (.ref C)) (ty : ∀ (H : Hp) (y dx : Addr) (vs : List (Str × V)), H y = some (.ins C dx vs) → TyOf X.K H (.ref y) (.ref C)) (hm : X.mg "isinstance" = none) (hgx : Gl X x := by rfl) (hdx : (x == ("__debug__" : Str)) = false := by decide) (hg : Gl X "isinstance" := by rfl) (he : starEach [a, .Name x p'] X.env = (false, eval a X.env) :: starEach [.Name x p'] X.env := by rfl) (he' : starEach [.Name x p'] X.env = [(false, eval (.Name x p') X.env)] := by rfl) : Ev X (.Call (.Name "isinstance" p) [a, .Name x p'] [] pos) sl (iB true) :=
  ev_of (pe_callB call_isi hg hm (by decide +kernel) (pa_cons pcan (pa_cons (pe_glob (v := .ref C) hgx hx rfl hdx) pa_nil he') he) (by decide) (by decide) he (by rw [he']; rfl)) fun σ G H Q z q => h.can z fun v G1 H1 g1 ⟨y, dx, vs, e1, h1, h2⟩ => by
    subst e1
    exact ⟨_, _, .ref C, .ref C, true, rfl, .own C, .base (ty H1 y dx vs (g1.s _ _ h1)), by unfold PySem.W.kitOne; rw [if_pos (by exact beq_self_eq_true _)], q _ G1 H1 g1 ⟨_, rfl, rfl⟩⟩
/-- the own == of two that are equal -/
def F_eq (C : Addr) (ps : List Str) (fs : α → List (Str × RV)) (pre : α → Prop) : Fn α := ⟨ps, fun z => [rIns C (fs z), rIns C (fs z)], pre, fun _ => .v (iB true)⟩
def RelC (C : Addr) (fs : α → List (Str × RV)) (pre : α → Prop) : Addr → Addr → Hp → Prop := fun x y H => ∃ z G, Same G H ∧ pre z ∧ (rIns C (fs z)).r G (.ref x) ∧ (rIns C (fs z)).r G (.ref y)
theorem e_eqC {ps : List Str} {fs : α → List (Str × RV)} {pre : α → Prop} (h : HasMe X.prog X.w X.K X.mg X.base k C "__eq__" (F_eq C ps fs pre)) (hr : Room k X.A) (z : α) (hp : pre z) (ha : Ev X a sl (rIns C (fs z))) (hb : Ev X b sl (rIns C (fs z))) : Ev X (.Compare a [.Eq] [b] pos) sl (iB true) := by
  obtain ⟨f, fd, hm, hbn, ok⟩ := h.ex
  have ok2 : FnOk X.prog X.w X.K X.mg X.base CX0 k f fd ps (spEq (RelC C fs pre)) := ok.imp fun vs H Q E ⟨x, y, e, ⟨z, G, s1, p1, r1, r2⟩, q⟩ => by
    subst e
    refine ⟨z, G, s1, .cons r1 (.cons r2 .nil), p1, fun v G' H' g ⟨c, ec, hc⟩ => ?_⟩
    subst ec hc
    exact q H' g.hs
  have rc : RcG X k (DIns C (RelC C fs pre)) := rcG_ins (E := fun _ _ _ => False) ok2 hm.at_ hm.fn hbn pass0
  refine ev_of (pe_cmpR (op_eqG rc hr) pcan pcan (nomark _)) fun σ G H Q s q => ha.can s fun v G1 H1 g1 r1 => hb.can (s.gr g1) fun u G2 H2 g2 r2 => ?_
  obtain ⟨x, dx, vs, e1, h1, _⟩ := id r1
  obtain ⟨y, dy, ws, e2, h2, _⟩ := id r2
  subst e1 e2
  refine ⟨⟨x, y, dx, dy, vs, ws, rfl, rfl, g2.s _ _ (g2.g _ _ h1), g2.s _ _ h2, z, G2, g2.s, hp, (rIns C (fs z)).m g2.g r1, r2⟩, fun H3 ex => ?_⟩
  refine q _ G2 H3 ((g1.trans g2).trans ⟨Same.refl _, fun c o _ e => ex c o e, fun c e z => ?_, fun c o e => ex c o (g2.s c o e), fun _ _ => rfl⟩) ⟨_, rfl, rfl⟩
  cases q : H2 c with
  | none => exact e q
  | some o => rw [ex c o q] at z; cases z
end
end Dl

set_option maxHeartbeats 2000000
namespace Dl
open PySem PySem.Spec PyProof.Rows L2 ClX
/-! ### data that can be compared -/
structure Sh (n : Nat) (d : PyData) : Prop where
  lay : d.canLay0 = true
  dep : d.depth ≤ n
theorem Sh.ok {n : Nat} {d : PyData} (h : Sh n d) (hn : n ≤ 64 := by decide) : SeqAt.shaped d = true := by
  unfold SeqAt.shaped
  rw [h.lay, decide_eq_true (Nat.le_trans h.dep hn)]
  rfl
theorem sh_int {n : Nat} (i : Int) : Sh n (.int i) := ⟨by simp [PyData.canLay0], by simp [PyData.depth]⟩
theorem sh_bool {n : Nat} (i : Bool) : Sh n (.bool i) := ⟨by simp [PyData.canLay0], by simp [PyData.depth]⟩
theorem sh_none {n : Nat} : Sh n .none := ⟨by simp [PyData.canLay0], by simp [PyData.depth]⟩
theorem sh_str {n : Nat} {x : Str} (h : (PyData.str x).canLay0 = true := by decide +kernel) : Sh n (.str x) := ⟨h, by simp [PyData.depth]⟩
theorem sh_all {n : Nat} : ∀ {ds : List PyData}, (∀ d ∈ ds, Sh n d) → PyData.canLayAll0 ds = true ∧ PyData.depthAll ds ≤ n
  | [], _ => ⟨by simp [PyData.canLayAll0], by simp [PyData.depthAll]⟩
  | d :: ds, h => by
    have h1 := h d (List.mem_cons_self ..)
    have h2 := sh_all fun e he => h e (List.mem_cons_of_mem _ he)
    exact ⟨by rw [PyData.canLayAll0, h1.lay, h2.1]; rfl, by rw [PyData.depthAll]; have := h1.dep; have := h2.2; omega⟩
theorem sh_list {n : Nat} {ds : List PyData} (h : ∀ d ∈ ds, Sh n d) : Sh (n + 1) (.list ds) := by
  obtain ⟨h1, h2⟩ := sh_all h
  exact ⟨by rw [PyData.canLay0]; exact h1, by rw [PyData.depth]; omega⟩
theorem sh_tup {n : Nat} {ds : List PyData} (h : ∀ d ∈ ds, Sh n d) : Sh (n + 1) (.tuple ds) := by
  obtain ⟨h1, h2⟩ := sh_all h
  exact ⟨by rw [PyData.canLay0]; exact h1, by rw [PyData.depth]; omega⟩
theorem sh_map {n : Nat} {α : Type} {t : α → PyData} {xs : List α} (h : ∀ x ∈ xs, Sh n (t x)) : ∀ d ∈ xs.map t, Sh n d := fun d hd => by
  obtain ⟨x, hx, rfl⟩ := List.mem_map.mp hd
  exact h x hx
theorem sh_nil {n : Nat} : ∀ d ∈ ([] : List PyData), Sh n d := fun _ h => nomatch h
theorem sh_cons {n : Nat} {a : PyData} {ds : List PyData} (h : Sh n a) (k : ∀ d ∈ ds, Sh n d) : ∀ d ∈ a :: ds, Sh n d := fun d hd => by
  cases hd with
  | head => exact h
  | tail _ hd => exact k d hd
/-- a list of ints -/
abbrev dI (xs : List Int) : PyData := .list (xs.map PyData.int)
theorem py_I {K : PySem.W.Frag} (xs : List Int) : (rInts K xs).Py K (dI xs) := py_lst fun x _ => py_int x
theorem sh_I (xs : List Int) : Sh 1 (dI xs) := sh_list (sh_map fun x _ => sh_int x)
theorem py_II {K : PySem.W.Frag} (xs : List (List Int)) : (rLst K (xs.map (rInts K))).Py K (.list (xs.map dI)) := py_lst fun x _ => py_I x
theorem sh_II (xs : List (List Int)) : Sh 2 (.list (xs.map dI)) := sh_list (sh_map fun x _ => sh_I x)
section
variable {X : Cx} {sl : List Ent} {a b : Expr} {pos : Pos} {Ra Rb : RV} {d : PyData} {n : Nat}
theorem e_eqY (hu : X.A.units + 64 < cLine) (ha : Ev X a sl Ra) (hb : Ev X b sl Rb) (pa : Ra.Py X.K d) (pb : Rb.Py X.K d) (sd : Sh n d) (hn : n ≤ 64 := by decide) : Ev X (.Compare a [.Eq] [b] pos) sl (iB true) := by
  have h := e_eqD (pos := pos) hu ha hb pa pb (sd.ok hn) (sd.ok hn)
  rw [SeqAt.eqv_refl d sd.lay] at h
  exact h
theorem t_neY (hu : X.A.units + 64 < cLine) (ha : Ev X a sl Ra) (hb : Ev X b sl Rb) (pa : Ra.Py X.K d) (pb : Rb.Py X.K d) (sd : Sh n d) (hn : n ≤ 64 := by decide) : EvT X (.Compare a [.NotEq] [b] pos) sl (fun z => z = false) := by
  have h := t_neD (pos := pos) hu ha hb pa pb (sd.ok hn) (sd.ok hn)
  rw [SeqAt.eqv_refl d sd.lay] at h
  exact h
end
end Dl

set_option maxHeartbeats 2000000
namespace Dl
open PySem PySem.Spec PyProof.Rows L2 ClX
section
variable {X : Cx} {B : Base} {L : Hp} {sl : List Ent} {D : Ends} {pos : Pos} {rest : List Stmt} {β : Type} {Pb : β → Prop} {n : β → Nat} {js : List Nat} {Rs : β → Nat → List RV} {wi : TI} {g : TG} {tg iter : Expr}
/-- a loop over one of several sources -/
theorem w_forX {body : List Stmt} (hc : X.calm = true) (hp : PassesOwn (model X.prog X.w) X.A X.env X.xe) (hi : PI X tg iter wi) (hg : PG X tg g) (hs : SrcX wi g sl Pb n js Rs) (J : β → Nat → List Ent → Prop) (h0 : ∀ b, Pb b → J b 0 sl)
    (turn : ∀ b i L' sl', Pb b → i < n b → J b i sl' → Wp X B L' body (dturn D X rest B L' (J b (i + 1))) (setE sl' js (Rs b i))) (done : ∀ b sl', Pb b → J b (n b) sl' → Wp X B L rest D sl')
    (hf : ∀ x, foldedSetIterable iter X.env x = pure x := by intro _; rfl) : Wp X B L (.For tg iter body [] pos :: rest) D sl :=
  wp_of (ps_for hp hc hi hg pcanS hf) fun σ G H a => hs σ G H _ a.sat fun b It G1 H1 pb g1 gs => by
    refine ⟨fun i m σ' H' => m = n b - i ∧ i ≤ n b ∧ NX B G1 (J b i) σ' H', ⟨n b, by simp, Nat.zero_le _, sl, G1, h0 b pb, ⟨(a.go g1).sat, (a.go g1).gr, Same.refl _, a.ow⟩⟩, ?_⟩
    rintro i m σ' H' ⟨rfl, hin, sl', G', hj, c⟩
    by_cases hlt : i < n b
    · refine .inr ⟨gs.go i G' H' hlt c.lo c.sat.sub, NX B G1 (J b (i + 1)), fun σ2 H2 nx => ⟨n b - (i + 1), by omega, rfl, hlt, nx⟩, fun x H'' y => ?_⟩
      exact gs.yld i σ' G' H' x H'' _ hlt c.lo c.sat.sub y fun vs G2 H2 g2 r => turn b i G1 sl' pb hlt hj _ G2 H2 ((c.go g2).setS r)
    · have e : i = n b := by omega
      subst e
      exact .inl ⟨gs.stop G' H' c.lo c.sat.sub, done b sl' pb hj σ' G' H' (c.down (a.lo.trans g1.g))⟩
theorem src_LX {α : Type} [Inhabited α] {e : Expr} {xs : β → List α} {c : β → α → RV} {j : Nat} (h : Ev X e sl (rX Pb fun b => rLst X.K ((xs b).map (c b)))) : SrcX (iList X.K (can X e)) (gName j) sl Pb (fun b => (xs b).length) [j] (fun b i => [c b ((xs b).getD i default)]) := fun σ G H R a k => h.can a fun v G1 H1 g1 ⟨b, pb, l, vs, ev, q, r⟩ => by
  have hlen : (xs b).length = vs.length := by rw [← r.len, List.length_map]
  refine ⟨l, ev, ⟨vs, g1.s.seq q⟩, k b _ G1 H1 pb g1 ⟨fun i G2 H2 hi s1 s2 => ?_, fun G2 H2 s1 s2 => ⟨vs, s2.seq (s1.seq q), Nat.le_of_eq hlen.symm⟩, fun i σ G2 H2 x H' K hi s1 s2 y kk => ?_⟩⟩
  · have hl : i < vs.length := Nat.lt_of_lt_of_eq hi hlen
    exact ⟨vs, vs[i], s2.seq (s1.seq q), List.getElem?_eq_getElem hl⟩
  · obtain ⟨rfl, f⟩ := y
    obtain ⟨R', h1, h2⟩ := r.back (f vs (s2.seq (s1.seq q)))
    refine kk [x] G2 H' (.refl s2) (.cons ?_ .nil)
    rw [List.getElem?_map, getD_get hi] at h1
    cases h1
    exact RV.m _ s1 h2
/-- for y in (one of several lists) -/
theorem w_forLX {α : Type} [Inhabited α] {xs : β → List α} {c : β → α → RV} {y : Str} {py : Pos} {body : List Stmt} (j : Nat) (hN : X.N.Nodup) (src : Ev X iter sl (rX Pb fun b => rLst X.K ((xs b).map (c b)))) (J : β → Nat → List Ent → Prop) (h0 : ∀ b, Pb b → J b 0 sl)
    (turn : ∀ b (i : Nat) x L' sl', Pb b → (xs b)[i]? = some x → J b i sl' → Wp X B L' body (dturn D X rest B L' (J b (i + 1))) (sl'.set j (.val (c b x)))) (done : ∀ b sl', Pb b → J b (xs b).length sl' → Wp X B L rest D sl')
    (hp : PassesOwn (model X.prog X.w) X.A X.env X.xe := by exact PassesOwn.never) (hc : X.calm = true := by rfl) (hj : X.N[j]? = some y := by rfl) (hl : X.env.scope.names.lookup y = some .local := by rfl) (hf : ∀ x, foldedSetIterable iter X.env x = pure x := by intro _; rfl) : Wp X B L (.For (.Name y py) iter body [] pos :: rest) D sl :=
  w_forX hc hp (pi_list pcan) (pg_name (i := j) hN hj (.inl hl) (.inr hl)) (src_LX src) J h0 (fun b i L' sl' pb hi hj => turn b i _ L' sl' pb (getD_get hi) hj) done hf
end
section
variable {X : Cx} {sl : List Ent} {k : Nat} {x : Str} {α : Type} {F : Fn α} {p pos : Pos} {e : Expr} {es : List Expr} {Rs : List RV} {r : Res}
/-- a call whose arguments are one of several -/
theorem e_callE (h : Has X.prog X.w X.K X.mg X.base k x F) (hr : Room k X.A) (ha : EvA X (e :: es) sl Rs) (op : ∀ G vs, PVs G Rs vs → ∃ z, PVs G (F.args z) vs ∧ F.pre z ∧ F.res z = r) (hg : Gl X x := by rfl) (hdb : (x == ("__debug__" : Str)) = false := by decide)
    (he : starEach (e :: es) X.env = (false, eval e X.env) :: starEach es X.env := by rfl) (hpl : (backTo pos (starEach es X.env)).any (·.1) = false := by rfl) : EvR X (.Call (.Name x p) (e :: es) [] pos) sl r := by
  obtain ⟨f, fd, hm, hk, hb, ok⟩ := h.ex
  refine evR_of (pe_call ok hr hg hm hk hb .nil pass0 pcanA hdb he hpl) fun σ G H Q a q => ?_
  refine ha.can a fun vs G' H' g rr => ?_
  obtain ⟨z, h1, h2, h3⟩ := op G' vs rr
  refine ⟨z, G', g.s, ?_, h2, ?_⟩
  · rw [List.append_nil]; exact h1
  · rw [h3]; exact q.gr g
end
end Dl

namespace Mt
open PySem
/-! ### gates -/
inductive Kind where
  | low | high | sort | copy | add
  deriving DecidableEq
def Kind.wd : Kind → Str
  | .low => "low" | .high => "high" | .sort => "sort" | .copy => "copy" | .add => "add"
theorem wd_inj {k l : Kind} (h : k.wd = l.wd) : k = l := by revert h; cases k <;> cases l <;> decide +kernel
structure Gate where
  k : Kind
  a : Nat
  b : Int
structure Gate.Ok (n : Nat) (g : Gate) : Prop where
  a : g.a < n
  b : g.k ≠ .add → 0 ≤ g.b ∧ g.b < n ∧ (g.a : Int) ≠ g.b
def doG (g : Gate) (xs : List Int) : List Int :=
  match g.k with
  | .add => xs.set g.a (xs.getD g.a 0 + g.b)
  | .copy => xs.set g.a (xs.getD g.b.toNat 0)
  | .low => xs.set g.a (min (xs.getD g.a 0) (xs.getD g.b.toNat 0))
  | .high => xs.set g.a (max (xs.getD g.a 0) (xs.getD g.b.toNat 0))
  | .sort => (xs.set g.a (min (xs.getD g.a 0) (xs.getD g.b.toNat 0))).set g.b.toNat (max (xs.getD g.a 0) (xs.getD g.b.toNat 0))
theorem doG_len (g : Gate) (xs : List Int) : (doG g xs).length = xs.length := by
  unfold doG
  cases g.k <;> simp
def runG (gs : List Gate) (xs : List Int) : List Int := gs.foldl (fun ys g => doG g ys) xs
theorem runG_len : ∀ (gs : List Gate) (xs : List Int), (runG gs xs).length = xs.length
  | [], _ => rfl
  | g :: gs, xs => by show (runG gs (doG g xs)).length = _; rw [runG_len gs, doG_len]
/-- the contents ahead of all gates and behind each one -/
def contG : List Gate → List Int → List (List Int)
  | [], xs => [xs]
  | g :: gs, xs => xs :: contG gs (doG g xs)
/-- k rounds -/
def rndG (gs : List Gate) : Nat → List Int → List Int
  | 0, xs => xs
  | n + 1, xs => runG gs (rndG gs n xs)
theorem rndG_len (gs : List Gate) : ∀ (n : Nat) (xs : List Int), (rndG gs n xs).length = xs.length
  | 0, _ => rfl
  | n + 1, xs => by show (runG gs (rndG gs n xs)).length = _; rw [runG_len, rndG_len gs n]
def maxF : List Int → Int
  | [] => 0
  | x :: r => r.foldl max x
def minF : List Int → Int
  | [] => 0
  | x :: r => r.foldl min x
theorem foldl_max_ge : ∀ (r : List Int) (x : Int), x ≤ r.foldl max x ∧ ∀ y ∈ r, y ≤ r.foldl max x
  | [], x => ⟨Int.le_refl _, by simp⟩
  | z :: r, x => by
    have h := foldl_max_ge r (max x z)
    refine ⟨Int.le_trans (Int.le_max_left x z) h.1, fun y hy => ?_⟩
    rcases List.mem_cons.mp hy with e | hy
    · subst e; exact Int.le_trans (Int.le_max_right x y) h.1
    · exact h.2 y hy
theorem foldl_max_mem : ∀ (r : List Int) (x : Int), r.foldl max x = x ∨ r.foldl max x ∈ r
  | [], x => .inl rfl
  | z :: r, x => by
    rcases foldl_max_mem r (max x z) with h | h
    · show r.foldl max (max x z) = x ∨ r.foldl max (max x z) ∈ z :: r
      rw [h]
      rcases Int.le_total x z with q | q
      · rw [Int.max_eq_right q]; exact .inr (List.mem_cons_self ..)
      · rw [Int.max_eq_left q]; exact .inl rfl
    · exact .inr (List.mem_cons_of_mem _ h)
theorem foldl_min_le : ∀ (r : List Int) (x : Int), r.foldl min x ≤ x ∧ ∀ y ∈ r, r.foldl min x ≤ y
  | [], x => ⟨Int.le_refl _, by simp⟩
  | z :: r, x => by
    have h := foldl_min_le r (min x z)
    refine ⟨Int.le_trans h.1 (Int.min_le_left x z), fun y hy => ?_⟩
    rcases List.mem_cons.mp hy with e | hy
    · subst e; exact Int.le_trans h.1 (Int.min_le_right x y)
    · exact h.2 y hy
theorem foldl_min_mem : ∀ (r : List Int) (x : Int), r.foldl min x = x ∨ r.foldl min x ∈ r
  | [], x => .inl rfl
  | z :: r, x => by
    rcases foldl_min_mem r (min x z) with h | h
    · show r.foldl min (min x z) = x ∨ r.foldl min (min x z) ∈ z :: r
      rw [h]
      rcases Int.le_total x z with q | q
      · rw [Int.min_eq_left q]; exact .inl rfl
      · rw [Int.min_eq_right q]; exact .inr (List.mem_cons_self ..)
    · exact .inr (List.mem_cons_of_mem _ h)
theorem maxF_ge {xs : List Int} {y : Int} (h : y ∈ xs) : y ≤ maxF xs := by
  cases xs with
  | nil => cases h
  | cons x r =>
    rcases List.mem_cons.mp h with e | h
    · subst e; exact (foldl_max_ge r y).1
    · exact (foldl_max_ge r x).2 y h
theorem maxF_mem {xs : List Int} (h : 0 < xs.length) : maxF xs ∈ xs := by
  cases xs with
  | nil => cases h
  | cons x r =>
    rcases foldl_max_mem r x with e | e
    · show r.foldl max x ∈ x :: r; rw [e]; exact List.mem_cons_self ..
    · exact List.mem_cons_of_mem _ e
theorem minF_le {xs : List Int} {y : Int} (h : y ∈ xs) : minF xs ≤ y := by
  cases xs with
  | nil => cases h
  | cons x r =>
    rcases List.mem_cons.mp h with e | h
    · subst e; exact (foldl_min_le r y).1
    · exact (foldl_min_le r x).2 y h
theorem minF_mem {xs : List Int} (h : 0 < xs.length) : minF xs ∈ xs := by
  cases xs with
  | nil => cases h
  | cons x r =>
    rcases foldl_min_mem r x with e | e
    · show r.foldl min x ∈ x :: r; rw [e]; exact List.mem_cons_self ..
    · exact List.mem_cons_of_mem _ e
theorem maxF_eq {xs : List Int} {m : Int} (h : m ∈ xs) (h2 : ∀ y ∈ xs, y ≤ m) : m = maxF xs :=
  Int.le_antisymm (maxF_ge h) (h2 _ (maxF_mem (List.length_pos_of_mem h)))
theorem minF_eq {xs : List Int} {m : Int} (h : m ∈ xs) (h2 : ∀ y ∈ xs, m ≤ y) : m = minF xs :=
  Int.le_antisymm (h2 _ (minF_mem (List.length_pos_of_mem h))) (minF_le h)
end Mt

namespace Mt
open PySem
def absF (x : Int) : Int := if x < 0 then -x else x
def leadF (xs ys : List Int) : Int := maxF (List.zipWith (fun a b => a - b) xs ys)
def farF (xs ys : List Int) : Int := maxF (List.zipWith (fun a b => absF (a - b)) xs ys)
/-! ### at a lane -/
def stepF (g : Gate) (x : Nat → Int) (i : Nat) : Int :=
  match g.k with
  | .add => if i = g.a then x g.a + g.b else x i
  | .copy => if i = g.a then x g.b.toNat else x i
  | .low => if i = g.a then min (x g.a) (x g.b.toNat) else x i
  | .high => if i = g.a then max (x g.a) (x g.b.toNat) else x i
  | .sort => if i = g.b.toNat then max (x g.a) (x g.b.toNat) else if i = g.a then min (x g.a) (x g.b.toNat) else x i
theorem getD_set {xs : List Int} {a i : Nat} {v : Int} (h : a < xs.length) : (xs.set a v).getD i 0 = if i = a then v else xs.getD i 0 := by
  rw [List.getD_eq_getElem?_getD, List.getD_eq_getElem?_getD, List.getElem?_set]
  by_cases e : i = a
  · subst e; simp [h]
  · rw [if_neg (fun z => e z.symm), if_neg e]
theorem doG_at {g : Gate} {xs : List Int} (h : g.Ok xs.length) (i : Nat) : (doG g xs).getD i 0 = stepF g (fun j => xs.getD j 0) i := by
  have ha := h.a
  unfold doG stepF
  cases e : g.k with
  | sort =>
    have hb := h.b (by rw [e]; decide)
    dsimp only
    rw [getD_set (by rw [List.length_set]; omega), getD_set ha]
  | _ => dsimp only; rw [getD_set ha]
/-- each number is at most its fellow and c -/
def LeC (c : Int) (xs ys : List Int) : Prop := xs.length = ys.length ∧ ∀ i, i < xs.length → xs.getD i 0 ≤ ys.getD i 0 + c
theorem stepF_le {g : Gate} {n : Nat} (h : g.Ok n) {x y : Nat → Int} {c : Int} (l : ∀ i, i < n → x i ≤ y i + c) (i : Nat) (hi : i < n) : stepF g x i ≤ stepF g y i + c := by
  have ha := l g.a h.a
  have h0 := l i hi
  unfold stepF
  cases e : g.k with
  | add => dsimp only; split <;> omega
  | _ =>
    have hb := l g.b.toNat (by have := h.b (by rw [e]; decide); omega)
    dsimp only
    split
    · omega
    · first | omega | (split <;> omega)
theorem doG_le {g : Gate} {xs ys : List Int} {c : Int} (h : g.Ok xs.length) (l : LeC c xs ys) : LeC c (doG g xs) (doG g ys) := by
  refine ⟨by rw [doG_len, doG_len, l.1], fun i hi => ?_⟩
  rw [doG_len] at hi
  rw [doG_at h, doG_at (by rw [← l.1]; exact h)]
  exact stepF_le h l.2 i hi
theorem runG_le {c : Int} : ∀ {gs : List Gate} {xs ys : List Int}, (∀ g ∈ gs, g.Ok xs.length) → LeC c xs ys → LeC c (runG gs xs) (runG gs ys)
  | [], _, _, _, l => l
  | g :: gs, xs, ys, h, l => by
    show LeC c (runG gs (doG g xs)) (runG gs (doG g ys))
    exact runG_le (fun g' hg => by rw [doG_len]; exact h g' (List.mem_cons_of_mem _ hg)) (doG_le (h g (List.mem_cons_self ..)) l)
theorem rndG_le {c : Int} {gs : List Gate} {xs ys : List Int} (h : ∀ g ∈ gs, g.Ok xs.length) (l : LeC c xs ys) : ∀ n, LeC c (rndG gs n xs) (rndG gs n ys)
  | 0 => l
  | n + 1 => runG_le (by rw [rndG_len]; exact h) (rndG_le h l n)
theorem zip_mem {f : Int → Int → Int} : ∀ {xs ys : List Int} {v : Int}, v ∈ List.zipWith f xs ys → ∃ i, i < xs.length ∧ i < ys.length ∧ v = f (xs.getD i 0) (ys.getD i 0)
  | [], _, v, h => by simp at h
  | _ :: _, [], v, h => by simp at h
  | x :: xs, y :: ys, v, h => by
    rw [List.zipWith_cons_cons] at h
    rcases List.mem_cons.mp h with e | h
    · exact ⟨0, Nat.zero_lt_succ _, Nat.zero_lt_succ _, e⟩
    · obtain ⟨i, h1, h2, h3⟩ := zip_mem h
      exact ⟨i + 1, Nat.succ_lt_succ h1, Nat.succ_lt_succ h2, by simpa using h3⟩
theorem mem_zip {f : Int → Int → Int} : ∀ {xs ys : List Int} {i : Nat}, i < xs.length → i < ys.length → f (xs.getD i 0) (ys.getD i 0) ∈ List.zipWith f xs ys
  | x :: xs, y :: ys, 0, _, _ => by simp
  | x :: xs, y :: ys, i + 1, h1, h2 => by
    rw [List.zipWith_cons_cons]
    refine List.mem_cons_of_mem _ ?_
    simpa using mem_zip (f := f) (xs := xs) (ys := ys) (i := i) (Nat.lt_of_succ_lt_succ h1) (Nat.lt_of_succ_lt_succ h2)
theorem leadF_ge {xs ys : List Int} (hl : xs.length = ys.length) : LeC (leadF xs ys) xs ys := ⟨hl, fun i hi => by
  have := maxF_ge (mem_zip (f := fun a b => a - b) hi (by omega : i < ys.length))
  unfold leadF
  omega⟩
theorem leadF_le {xs ys : List Int} {c : Int} (h : LeC c xs ys) (h0 : 0 < xs.length) : leadF xs ys ≤ c := by
  have hm := maxF_mem (xs := List.zipWith (fun a b : Int => a - b) xs ys) (by rw [List.length_zipWith, ← h.1]; omega)
  obtain ⟨i, h1, h2, h3⟩ := zip_mem (f := fun a b : Int => a - b) hm
  have := h.2 i h1
  unfold leadF
  rw [h3]
  omega
theorem farF_ge {xs ys : List Int} (hl : xs.length = ys.length) : LeC (farF xs ys) xs ys ∧ LeC (farF xs ys) ys xs := by
  have k : ∀ i, i < xs.length → absF (xs.getD i 0 - ys.getD i 0) ≤ farF xs ys := fun i hi => maxF_ge (mem_zip (f := fun a b => absF (a - b)) hi (by omega : i < ys.length))
  refine ⟨⟨hl, fun i hi => ?_⟩, ⟨hl.symm, fun i hi => ?_⟩⟩
  · have := k i hi
    unfold absF at this
    split at this <;> omega
  · have := k i (by omega)
    unfold absF at this
    split at this <;> omega
theorem farF_le {xs ys : List Int} {c : Int} (h : LeC c xs ys) (h' : LeC c ys xs) (h0 : 0 < xs.length) : farF xs ys ≤ c := by
  have hm := maxF_mem (xs := List.zipWith (fun a b : Int => absF (a - b)) xs ys) (by rw [List.length_zipWith, ← h.1]; omega)
  obtain ⟨i, h1, h2, h3⟩ := zip_mem (f := fun a b : Int => absF (a - b)) hm
  have k1 := h.2 i h1
  have k2 := h'.2 i h2
  unfold farF
  rw [h3]
  unfold absF
  split <;> omega
theorem all_le : ∀ {xs ys : List Int}, LeC 0 xs ys → (List.zipWith (fun a b => decide (a ≤ b)) xs ys).all id = true
  | [], _, _ => by simp
  | _ :: _, [], _ => by simp
  | x :: xs, y :: ys, h => by
    rw [List.zipWith_cons_cons, List.all_cons]
    have h0 : x ≤ y := by simpa using h.2 0 (Nat.zero_lt_succ _)
    have ht : LeC 0 xs ys := ⟨by simpa using h.1, fun i hi => by simpa using h.2 (i + 1) (Nat.succ_lt_succ hi)⟩
    rw [all_le ht]
    simp [h0]
theorem le_of_paired : ∀ {xs ys : List Int}, Paired (fun x y : Int => x ≤ y) xs ys → LeC 0 xs ys
  | _, _, .nil => ⟨rfl, fun i hi => by simp⟩
  | x :: xs, y :: ys, .cons a t => by
    have h := le_of_paired t
    refine ⟨by simp [h.1], fun i hi => ?_⟩
    cases i with
    | zero => simpa using a
    | succ i => simpa using h.2 i (by simpa using hi)
theorem le_max : ∀ {xs ys : List Int}, xs.length = ys.length → LeC 0 xs (List.zipWith max xs ys)
  | [], _, _ => ⟨by simp, fun i hi => by simp at hi⟩
  | x :: xs, [], h => by simp at h
  | x :: xs, y :: ys, h => by
    have h := le_max (xs := xs) (ys := ys) (by simpa using h)
    refine ⟨by simpa using h.1, fun i hi => ?_⟩
    cases i with
    | zero => simp; omega
    | succ i => simpa using h.2 i (by simpa using hi)
/-! ### the contents on the way -/
theorem contG_at : ∀ {gs : List Gate} {xs : List Int} {i : Nat} {r : List Int}, (contG gs xs)[i]? = some r → r = runG (gs.take i) xs ∧ i ≤ gs.length
  | [], xs, 0, r, h => ⟨by simpa [contG, runG] using h.symm, Nat.le_refl _⟩
  | [], xs, i + 1, r, h => by simp [contG] at h
  | g :: gs, xs, 0, r, h => ⟨by simpa [contG, runG] using h.symm, Nat.zero_le _⟩
  | g :: gs, xs, i + 1, r, h => by
    have h' : (contG gs (doG g xs))[i]? = some r := by simpa [contG] using h
    obtain ⟨h1, h2⟩ := contG_at h'
    exact ⟨h1, Nat.succ_le_succ h2⟩
theorem contG_row {gs : List Gate} {xs r : List Int} (h : r ∈ contG gs xs) : ∃ i, r = runG (gs.take i) xs := by
  obtain ⟨i, hi⟩ := List.mem_iff_getElem?.mp h
  exact ⟨i, (contG_at hi).1⟩
theorem runG_take_le {c : Int} {gs : List Gate} {xs ys : List Int} (h : ∀ g ∈ gs, g.Ok xs.length) (l : LeC c xs ys) (i : Nat) : LeC c (runG (gs.take i) xs) (runG (gs.take i) ys) := runG_le (fun g hg => h g (List.mem_of_mem_take hg)) l
/-! ### changed by a map -/
theorem getD_map {f : Int → Int} {xs : List Int} {i : Nat} (h : i < xs.length) : (xs.map f).getD i 0 = f (xs.getD i 0) := by
  rw [List.getD_eq_getElem?_getD, List.getD_eq_getElem?_getD, List.getElem?_map, List.getElem?_eq_getElem h]; rfl
theorem getD_in {xs : List Int} {i : Nat} (h : i < xs.length) : xs.getD i 0 ∈ xs := by
  rw [List.getD_eq_getElem?_getD, List.getElem?_eq_getElem h]; exact List.getElem_mem h
def Rise (f : Int → Int) (xs : List Int) : Prop := ∀ u ∈ xs, ∀ v ∈ xs, u ≤ v → f u ≤ f v
theorem min_map {f : Int → Int} {xs : List Int} (r : Rise f xs) {u v : Int} (hu : u ∈ xs) (hv : v ∈ xs) : min (f u) (f v) = f (min u v) := by
  rcases Int.le_total u v with h | h
  · rw [Int.min_eq_left h, Int.min_eq_left (r u hu v hv h)]
  · rw [Int.min_eq_right h, Int.min_eq_right (r v hv u hu h)]
theorem max_map {f : Int → Int} {xs : List Int} (r : Rise f xs) {u v : Int} (hu : u ∈ xs) (hv : v ∈ xs) : max (f u) (f v) = f (max u v) := by
  rcases Int.le_total u v with h | h
  · rw [Int.max_eq_right h, Int.max_eq_right (r u hu v hv h)]
  · rw [Int.max_eq_left h, Int.max_eq_left (r v hv u hu h)]
theorem doG_map {f : Int → Int} {g : Gate} {xs : List Int} (h : g.Ok xs.length) (r : Rise f xs) (ad : g.k = .add → ∀ u, f (u + g.b) = f u + g.b) : doG g (xs.map f) = (doG g xs).map f := by
  have ha := h.a
  unfold doG
  cases e : g.k with
  | add =>
    dsimp only
    rw [List.map_set, getD_map ha, ad e]
  | _ =>
    have hb : g.b.toNat < xs.length := by have := h.b (by rw [e]; decide); omega
    dsimp only
    simp only [List.map_set, getD_map ha, getD_map hb, min_map r (getD_in ha) (getD_in hb), max_map r (getD_in ha) (getD_in hb)]
theorem doG_in {g : Gate} {xs : List Int} (h : g.Ok xs.length) (np : g.k ≠ .add) {v : Int} (hv : v ∈ doG g xs) : v ∈ xs := by
  have ha := getD_in h.a
  have hb : xs.getD g.b.toNat 0 ∈ xs := getD_in (by have := h.b np; omega)
  have mn : min (xs.getD g.a 0) (xs.getD g.b.toNat 0) ∈ xs := by
    rcases Int.le_total (xs.getD g.a 0) (xs.getD g.b.toNat 0) with q | q
    · rw [Int.min_eq_left q]; exact ha
    · rw [Int.min_eq_right q]; exact hb
  have mx : max (xs.getD g.a 0) (xs.getD g.b.toNat 0) ∈ xs := by
    rcases Int.le_total (xs.getD g.a 0) (xs.getD g.b.toNat 0) with q | q
    · rw [Int.max_eq_right q]; exact hb
    · rw [Int.max_eq_left q]; exact ha
  have st : ∀ {zs : List Int} {i : Nat} {u v : Int}, (∀ y ∈ zs, y ∈ xs) → u ∈ xs → v ∈ zs.set i u → v ∈ xs := fun {zs i u v} hz hu h => by
    rcases List.mem_or_eq_of_mem_set h with q | q
    · exact hz _ q
    · rw [q]; exact hu
  revert hv
  unfold doG
  cases e : g.k with
  | add => exact absurd e np
  | copy => exact st (fun y hy => hy) hb
  | low => exact st (fun y hy => hy) mn
  | high => exact st (fun y hy => hy) mx
  | sort => exact st (fun y hy => st (fun y hy => hy) mn hy) mx
theorem Rise.sub {f : Int → Int} {xs ys : List Int} (r : Rise f xs) (h : ∀ y ∈ ys, y ∈ xs) : Rise f ys := fun u hu v hv => r u (h u hu) v (h v hv)
theorem runG_in : ∀ {gs : List Gate} {xs : List Int}, (∀ g ∈ gs, g.Ok xs.length ∧ g.k ≠ .add) → ∀ v ∈ runG gs xs, v ∈ xs
  | [], _, _, v, hv => hv
  | g :: gs, xs, h, v, hv => by
    have h1 := h g (List.mem_cons_self ..)
    exact doG_in h1.1 h1.2 (runG_in (gs := gs) (xs := doG g xs) (fun g' hg => by rw [doG_len]; exact h g' (List.mem_cons_of_mem _ hg)) v hv)
/-- a map that rises, and gates that are plain; or all raised alike -/
def Fits (f : Int → Int) (gs : List Gate) (xs : List Int) : Prop := (∀ g ∈ gs, g.Ok xs.length) ∧ ((Rise f xs ∧ ∀ g ∈ gs, g.k ≠ .add) ∨ ∃ c, f = fun u => u + c)
theorem Fits.rise {f : Int → Int} {gs : List Gate} {xs : List Int} (h : Fits f gs xs) : Rise f xs := by
  rcases h.2 with ⟨r, _⟩ | ⟨c, rfl⟩
  · exact r
  · intro u _ v _ l; dsimp only; omega
theorem Fits.one {f : Int → Int} {g : Gate} {gs : List Gate} {xs : List Int} (h : Fits f (g :: gs) xs) : doG g (xs.map f) = (doG g xs).map f := by
  refine doG_map (h.1 g (List.mem_cons_self ..)) h.rise fun e u => ?_
  rcases h.2 with ⟨_, np⟩ | ⟨c, rfl⟩
  · exact absurd e (np g (List.mem_cons_self ..))
  · dsimp only; omega
theorem Fits.next {f : Int → Int} {g : Gate} {gs : List Gate} {xs : List Int} (h : Fits f (g :: gs) xs) : Fits f gs (doG g xs) := by
  refine ⟨fun g' hg => by rw [doG_len]; exact h.1 g' (List.mem_cons_of_mem _ hg), ?_⟩
  rcases h.2 with ⟨r, np⟩ | q
  · exact .inl ⟨r.sub fun y hy => doG_in (h.1 g (List.mem_cons_self ..)) (np g (List.mem_cons_self ..)) hy, fun g' hg => np g' (List.mem_cons_of_mem _ hg)⟩
  · exact .inr q
theorem contG_map {f : Int → Int} : ∀ {gs : List Gate} {xs : List Int}, Fits f gs xs → contG gs (xs.map f) = (contG gs xs).map (List.map f)
  | [], _, _ => rfl
  | g :: gs, xs, h => by
    show xs.map f :: contG gs (doG g (xs.map f)) = xs.map f :: (contG gs (doG g xs)).map (List.map f)
    rw [h.one, contG_map h.next]
theorem runG_map {f : Int → Int} : ∀ {gs : List Gate} {xs : List Int}, Fits f gs xs → runG gs (xs.map f) = (runG gs xs).map f
  | [], _, _ => rfl
  | g :: gs, xs, h => by
    show runG gs (doG g (xs.map f)) = (runG gs (doG g xs)).map f
    rw [h.one, runG_map h.next]
theorem rndG_add {gs : List Gate} {xs : List Int} (h : ∀ g ∈ gs, g.Ok xs.length) (c : Int) : ∀ n, rndG gs n (xs.map (· + c)) = (rndG gs n xs).map (· + c)
  | 0 => rfl
  | n + 1 => by
    show runG gs (rndG gs n (xs.map (· + c))) = (runG gs (rndG gs n xs)).map (· + c)
    rw [rndG_add h c n, runG_map ⟨by rw [rndG_len]; exact h, .inr ⟨c, rfl⟩⟩]
theorem maxF_add {xs : List Int} (h : 0 < xs.length) (c : Int) : maxF (xs.map (· + c)) = maxF xs + c :=
  (maxF_eq (List.mem_map.mpr ⟨_, maxF_mem h, rfl⟩) fun y hy => by
    obtain ⟨z, hz, rfl⟩ := List.mem_map.mp hy
    have := maxF_ge hz
    omega).symm
theorem minF_add {xs : List Int} (h : 0 < xs.length) (c : Int) : minF (xs.map (· + c)) = minF xs + c :=
  (minF_eq (List.mem_map.mpr ⟨_, minF_mem h, rfl⟩) fun y hy => by
    obtain ⟨z, hz, rfl⟩ := List.mem_map.mp hy
    have := minF_le hz
    omega).symm
theorem spread_le {xs ys : List Int} (h : 0 < ys.length) (s : ∀ y ∈ ys, y ∈ xs) : maxF ys - minF ys ≤ maxF xs - minF xs := by
  have h1 := maxF_ge (s _ (maxF_mem h))
  have h2 := minF_le (s _ (minF_mem h))
  omega
end Mt

set_option maxHeartbeats 2000000
namespace LT
open PySem PySem.Spec PyProof.Rows L2 Dl
def topS (i : Nat) : Stmt := PySem.Challenge.pw_lanelots_k17_whole_facts_of_runs.main.body.getD i (.Pass ⟨0, 0, 0, 0⟩)
abbrev s_is_integer : Stmt := topS 14
abbrev N_is_integer : List Str := ["value"]
theorem sc_is_integer : FnScope N_is_integer ["value"] (defScope s_is_integer) := ⟨rfl, rfl, rfl, by decide +kernel, rfl, by decide +kernel, by decide +kernel⟩
theorem b_is_integer (kV doc pm : Value) (an : Option Addr) (cdv ct : Value) (us : List Value) (hl : us.length = (["value"] : List Str).length) : bindArgs (PySem.W.fnOf "is_integer" "is_integer" (defArgs s_is_integer) (defBody s_is_integer) (defScope s_is_integer) .none kV doc pm an cdv ct) ⟨us, []⟩ = pure ((["value"] : List Str).zip us) := match us, hl with | [_], _ => rfl
abbrev s_is_count : Stmt := topS 15
abbrev N_is_count : List Str := ["value"]
theorem sc_is_count : FnScope N_is_count ["value"] (defScope s_is_count) := ⟨rfl, rfl, rfl, by decide +kernel, rfl, by decide +kernel, by decide +kernel⟩
theorem b_is_count (kV doc pm : Value) (an : Option Addr) (cdv ct : Value) (us : List Value) (hl : us.length = (["value"] : List Str).length) : bindArgs (PySem.W.fnOf "is_count" "is_count" (defArgs s_is_count) (defBody s_is_count) (defScope s_is_count) .none kV doc pm an cdv ct) ⟨us, []⟩ = pure ((["value"] : List Str).zip us) := match us, hl with | [_], _ => rfl
abbrev s_is_list : Stmt := topS 16
abbrev N_is_list : List Str := ["value"]
theorem sc_is_list : FnScope N_is_list ["value"] (defScope s_is_list) := ⟨rfl, rfl, rfl, by decide +kernel, rfl, by decide +kernel, by decide +kernel⟩
theorem b_is_list (kV doc pm : Value) (an : Option Addr) (cdv ct : Value) (us : List Value) (hl : us.length = (["value"] : List Str).length) : bindArgs (PySem.W.fnOf "is_list" "is_list" (defArgs s_is_list) (defBody s_is_list) (defScope s_is_list) .none kV doc pm an cdv ct) ⟨us, []⟩ = pure ((["value"] : List Str).zip us) := match us, hl with | [_], _ => rfl
abbrev s_is_content : Stmt := topS 17
abbrev N_is_content : List Str := ["value", "number"]
theorem sc_is_content : FnScope N_is_content ["value"] (defScope s_is_content) := ⟨rfl, rfl, rfl, by decide +kernel, rfl, by decide +kernel, by decide +kernel⟩
theorem b_is_content (kV doc pm : Value) (an : Option Addr) (cdv ct : Value) (us : List Value) (hl : us.length = (["value"] : List Str).length) : bindArgs (PySem.W.fnOf "is_content" "is_content" (defArgs s_is_content) (defBody s_is_content) (defScope s_is_content) .none kV doc pm an cdv ct) ⟨us, []⟩ = pure ((["value"] : List Str).zip us) := match us, hl with | [_], _ => rfl
abbrev s_is_lane : Stmt := topS 18
abbrev N_is_lane : List Str := ["lanes", "value"]
theorem sc_is_lane : FnScope N_is_lane ["lanes", "value"] (defScope s_is_lane) := ⟨rfl, rfl, rfl, by decide +kernel, rfl, by decide +kernel, by decide +kernel⟩
theorem b_is_lane (kV doc pm : Value) (an : Option Addr) (cdv ct : Value) (us : List Value) (hl : us.length = (["lanes", "value"] : List Str).length) : bindArgs (PySem.W.fnOf "is_lane" "is_lane" (defArgs s_is_lane) (defBody s_is_lane) (defScope s_is_lane) .none kV doc pm an cdv ct) ⟨us, []⟩ = pure ((["lanes", "value"] : List Str).zip us) := match us, hl with | [_, _], _ => rfl
abbrev s_want_content : Stmt := topS 19
abbrev N_want_content : List Str := ["value"]
theorem sc_want_content : FnScope N_want_content ["value"] (defScope s_want_content) := ⟨rfl, rfl, rfl, by decide +kernel, rfl, by decide +kernel, by decide +kernel⟩
theorem b_want_content (kV doc pm : Value) (an : Option Addr) (cdv ct : Value) (us : List Value) (hl : us.length = (["value"] : List Str).length) : bindArgs (PySem.W.fnOf "want_content" "want_content" (defArgs s_want_content) (defBody s_want_content) (defScope s_want_content) .none kV doc pm an cdv ct) ⟨us, []⟩ = pure ((["value"] : List Str).zip us) := match us, hl with | [_], _ => rfl
abbrev s_want_content_of : Stmt := topS 20
abbrev N_want_content_of : List Str := ["lanes", "value"]
theorem sc_want_content_of : FnScope N_want_content_of ["lanes", "value"] (defScope s_want_content_of) := ⟨rfl, rfl, rfl, by decide +kernel, rfl, by decide +kernel, by decide +kernel⟩
theorem b_want_content_of (kV doc pm : Value) (an : Option Addr) (cdv ct : Value) (us : List Value) (hl : us.length = (["lanes", "value"] : List Str).length) : bindArgs (PySem.W.fnOf "want_content_of" "want_content_of" (defArgs s_want_content_of) (defBody s_want_content_of) (defScope s_want_content_of) .none kV doc pm an cdv ct) ⟨us, []⟩ = pure ((["lanes", "value"] : List Str).zip us) := match us, hl with | [_, _], _ => rfl
abbrev s_want_number : Stmt := topS 21
abbrev N_want_number : List Str := ["value"]
theorem sc_want_number : FnScope N_want_number ["value"] (defScope s_want_number) := ⟨rfl, rfl, rfl, by decide +kernel, rfl, by decide +kernel, by decide +kernel⟩
theorem b_want_number (kV doc pm : Value) (an : Option Addr) (cdv ct : Value) (us : List Value) (hl : us.length = (["value"] : List Str).length) : bindArgs (PySem.W.fnOf "want_number" "want_number" (defArgs s_want_number) (defBody s_want_number) (defScope s_want_number) .none kV doc pm an cdv ct) ⟨us, []⟩ = pure ((["value"] : List Str).zip us) := match us, hl with | [_], _ => rfl
abbrev s_want_many : Stmt := topS 22
abbrev N_want_many : List Str := ["value"]
theorem sc_want_many : FnScope N_want_many ["value"] (defScope s_want_many) := ⟨rfl, rfl, rfl, by decide +kernel, rfl, by decide +kernel, by decide +kernel⟩
theorem b_want_many (kV doc pm : Value) (an : Option Addr) (cdv ct : Value) (us : List Value) (hl : us.length = (["value"] : List Str).length) : bindArgs (PySem.W.fnOf "want_many" "want_many" (defArgs s_want_many) (defBody s_want_many) (defScope s_want_many) .none kV doc pm an cdv ct) ⟨us, []⟩ = pure ((["value"] : List Str).zip us) := match us, hl with | [_], _ => rfl
abbrev s_want_other : Stmt := topS 23
abbrev N_want_other : List Str := ["content", "other"]
theorem sc_want_other : FnScope N_want_other ["content", "other"] (defScope s_want_other) := ⟨rfl, rfl, rfl, by decide +kernel, rfl, by decide +kernel, by decide +kernel⟩
theorem b_want_other (kV doc pm : Value) (an : Option Addr) (cdv ct : Value) (us : List Value) (hl : us.length = (["content", "other"] : List Str).length) : bindArgs (PySem.W.fnOf "want_other" "want_other" (defArgs s_want_other) (defBody s_want_other) (defScope s_want_other) .none kV doc pm an cdv ct) ⟨us, []⟩ = pure ((["content", "other"] : List Str).zip us) := match us, hl with | [_, _], _ => rfl
abbrev s_spread : Stmt := topS 24
abbrev N_spread : List Str := ["content"]
theorem sc_spread : FnScope N_spread ["content"] (defScope s_spread) := ⟨rfl, rfl, rfl, by decide +kernel, rfl, by decide +kernel, by decide +kernel⟩
theorem b_spread (kV doc pm : Value) (an : Option Addr) (cdv ct : Value) (us : List Value) (hl : us.length = (["content"] : List Str).length) : bindArgs (PySem.W.fnOf "spread" "spread" (defArgs s_spread) (defBody s_spread) (defScope s_spread) .none kV doc pm an cdv ct) ⟨us, []⟩ = pure ((["content"] : List Str).zip us) := match us, hl with | [_], _ => rfl
abbrev s_farthest : Stmt := topS 25
abbrev N_farthest : List Str := ["content", "other", "mine", "yours"]
theorem sc_farthest : FnScope N_farthest ["content", "other"] (defScope s_farthest) := ⟨rfl, rfl, rfl, by decide +kernel, rfl, by decide +kernel, by decide +kernel⟩
theorem b_farthest (kV doc pm : Value) (an : Option Addr) (cdv ct : Value) (us : List Value) (hl : us.length = (["content", "other"] : List Str).length) : bindArgs (PySem.W.fnOf "farthest" "farthest" (defArgs s_farthest) (defBody s_farthest) (defScope s_farthest) .none kV doc pm an cdv ct) ⟨us, []⟩ = pure ((["content", "other"] : List Str).zip us) := match us, hl with | [_, _], _ => rfl
abbrev s_is_at_most : Stmt := topS 26
abbrev N_is_at_most : List Str := ["content", "other", "mine", "yours"]
theorem sc_is_at_most : FnScope N_is_at_most ["content", "other"] (defScope s_is_at_most) := ⟨rfl, rfl, rfl, by decide +kernel, rfl, by decide +kernel, by decide +kernel⟩
theorem b_is_at_most (kV doc pm : Value) (an : Option Addr) (cdv ct : Value) (us : List Value) (hl : us.length = (["content", "other"] : List Str).length) : bindArgs (PySem.W.fnOf "is_at_most" "is_at_most" (defArgs s_is_at_most) (defBody s_is_at_most) (defScope s_is_at_most) .none kV doc pm an cdv ct) ⟨us, []⟩ = pure ((["content", "other"] : List Str).zip us) := match us, hl with | [_, _], _ => rfl
abbrev s_raised : Stmt := topS 27
abbrev N_raised : List Str := ["content", "number", "mine"]
theorem sc_raised : FnScope N_raised ["content", "number"] (defScope s_raised) := ⟨rfl, rfl, rfl, by decide +kernel, rfl, by decide +kernel, by decide +kernel⟩
theorem b_raised (kV doc pm : Value) (an : Option Addr) (cdv ct : Value) (us : List Value) (hl : us.length = (["content", "number"] : List Str).length) : bindArgs (PySem.W.fnOf "raised" "raised" (defArgs s_raised) (defBody s_raised) (defScope s_raised) .none kV doc pm an cdv ct) ⟨us, []⟩ = pure ((["content", "number"] : List Str).zip us) := match us, hl with | [_, _], _ => rfl
abbrev s_is_gate : Stmt := topS 35
abbrev N_is_gate : List Str := ["lanes", "value"]
theorem sc_is_gate : FnScope N_is_gate ["lanes", "value"] (defScope s_is_gate) := ⟨rfl, rfl, rfl, by decide +kernel, rfl, by decide +kernel, by decide +kernel⟩
theorem b_is_gate (kV doc pm : Value) (an : Option Addr) (cdv ct : Value) (us : List Value) (hl : us.length = (["lanes", "value"] : List Str).length) : bindArgs (PySem.W.fnOf "is_gate" "is_gate" (defArgs s_is_gate) (defBody s_is_gate) (defScope s_is_gate) .none kV doc pm an cdv ct) ⟨us, []⟩ = pure ((["lanes", "value"] : List Str).zip us) := match us, hl with | [_, _], _ => rfl
abbrev s_want_gates : Stmt := topS 36
abbrev N_want_gates : List Str := ["lanes", "gates", "position", "gate"]
theorem sc_want_gates : FnScope N_want_gates ["lanes", "gates"] (defScope s_want_gates) := ⟨rfl, rfl, rfl, by decide +kernel, rfl, by decide +kernel, by decide +kernel⟩
theorem b_want_gates (kV doc pm : Value) (an : Option Addr) (cdv ct : Value) (us : List Value) (hl : us.length = (["lanes", "gates"] : List Str).length) : bindArgs (PySem.W.fnOf "want_gates" "want_gates" (defArgs s_want_gates) (defBody s_want_gates) (defScope s_want_gates) .none kV doc pm an cdv ct) ⟨us, []⟩ = pure ((["lanes", "gates"] : List Str).zip us) := match us, hl with | [_, _], _ => rfl
abbrev s_want_few : Stmt := topS 37
abbrev N_want_few : List Str := ["many"]
theorem sc_want_few : FnScope N_want_few ["many"] (defScope s_want_few) := ⟨rfl, rfl, rfl, by decide +kernel, rfl, by decide +kernel, by decide +kernel⟩
theorem b_want_few (kV doc pm : Value) (an : Option Addr) (cdv ct : Value) (us : List Value) (hl : us.length = (["many"] : List Str).length) : bindArgs (PySem.W.fnOf "want_few" "want_few" (defArgs s_want_few) (defBody s_want_few) (defScope s_want_few) .none kV doc pm an cdv ct) ⟨us, []⟩ = pure ((["many"] : List Str).zip us) := match us, hl with | [_], _ => rfl
abbrev s_want_position : Stmt := topS 38
abbrev N_want_position : List Str := ["many", "value"]
theorem sc_want_position : FnScope N_want_position ["many", "value"] (defScope s_want_position) := ⟨rfl, rfl, rfl, by decide +kernel, rfl, by decide +kernel, by decide +kernel⟩
theorem b_want_position (kV doc pm : Value) (an : Option Addr) (cdv ct : Value) (us : List Value) (hl : us.length = (["many", "value"] : List Str).length) : bindArgs (PySem.W.fnOf "want_position" "want_position" (defArgs s_want_position) (defBody s_want_position) (defScope s_want_position) .none kV doc pm an cdv ct) ⟨us, []⟩ = pure ((["many", "value"] : List Str).zip us) := match us, hl with | [_, _], _ => rfl
abbrev s_do_gate : Stmt := topS 39
abbrev N_do_gate : List Str := ["here", "gate", "word", "lane", "last", "lesser", "greater"]
theorem sc_do_gate : FnScope N_do_gate ["here", "gate"] (defScope s_do_gate) := ⟨rfl, rfl, rfl, by decide +kernel, rfl, by decide +kernel, by decide +kernel⟩
theorem b_do_gate (kV doc pm : Value) (an : Option Addr) (cdv ct : Value) (us : List Value) (hl : us.length = (["here", "gate"] : List Str).length) : bindArgs (PySem.W.fnOf "do_gate" "do_gate" (defArgs s_do_gate) (defBody s_do_gate) (defScope s_do_gate) .none kV doc pm an cdv ct) ⟨us, []⟩ = pure ((["here", "gate"] : List Str).zip us) := match us, hl with | [_, _], _ => rfl
abbrev s_told_by : Stmt := topS 40
abbrev N_told_by : List Str := ["gates", "content", "here", "gate"]
theorem sc_told_by : FnScope N_told_by ["gates", "content"] (defScope s_told_by) := ⟨rfl, rfl, rfl, by decide +kernel, rfl, by decide +kernel, by decide +kernel⟩
theorem b_told_by (kV doc pm : Value) (an : Option Addr) (cdv ct : Value) (us : List Value) (hl : us.length = (["gates", "content"] : List Str).length) : bindArgs (PySem.W.fnOf "told_by" "told_by" (defArgs s_told_by) (defBody s_told_by) (defScope s_told_by) .none kV doc pm an cdv ct) ⟨us, []⟩ = pure ((["gates", "content"] : List Str).zip us) := match us, hl with | [_, _], _ => rfl
abbrev s_gate_turned : Stmt := topS 41
abbrev N_gate_turned : List Str := ["gate", "word", "lane", "last"]
theorem sc_gate_turned : FnScope N_gate_turned ["gate"] (defScope s_gate_turned) := ⟨rfl, rfl, rfl, by decide +kernel, rfl, by decide +kernel, by decide +kernel⟩
theorem b_gate_turned (kV doc pm : Value) (an : Option Addr) (cdv ct : Value) (us : List Value) (hl : us.length = (["gate"] : List Str).length) : bindArgs (PySem.W.fnOf "gate_turned" "gate_turned" (defArgs s_gate_turned) (defBody s_gate_turned) (defScope s_gate_turned) .none kV doc pm an cdv ct) ⟨us, []⟩ = pure ((["gate"] : List Str).zip us) := match us, hl with | [_], _ => rfl
abbrev s_Net_init : Stmt := inClass (topS 42) 2
abbrev N_Net_init : List Str := ["self", "lanes", "gates"]
theorem sc_Net_init : FnScope N_Net_init ["self", "lanes", "gates"] (defScope s_Net_init) := ⟨rfl, rfl, rfl, by decide +kernel, rfl, by decide +kernel, by decide +kernel⟩
abbrev s_Net_of : Stmt := inClass (topS 42) 3
abbrev N_Net_of : List Str := ["cls", "lanes", "gates"]
theorem sc_Net_of : FnScope N_Net_of ["cls", "lanes", "gates"] (defScope s_Net_of) := ⟨rfl, rfl, rfl, by decide +kernel, rfl, by decide +kernel, by decide +kernel⟩
abbrev s_Net_lanes : Stmt := inClass (topS 42) 4
abbrev N_Net_lanes : List Str := ["self"]
theorem sc_Net_lanes : FnScope N_Net_lanes ["self"] (defScope s_Net_lanes) := ⟨rfl, rfl, rfl, by decide +kernel, rfl, by decide +kernel, by decide +kernel⟩
theorem b_Net_lanes (kV doc pm : Value) (an : Option Addr) (cdv ct : Value) (us : List Value) (hl : us.length = (["self"] : List Str).length) : bindArgs (PySem.W.fnOf "lanes" "Net.lanes" (defArgs s_Net_lanes) (defBody s_Net_lanes) (defScope s_Net_lanes) .none kV doc pm an cdv ct) ⟨us, []⟩ = pure ((["self"] : List Str).zip us) := match us, hl with | [_], _ => rfl
abbrev s_Net_is_plain : Stmt := inClass (topS 42) 5
abbrev N_Net_is_plain : List Str := ["self", "gate"]
theorem sc_Net_is_plain : FnScope N_Net_is_plain ["self"] (defScope s_Net_is_plain) := ⟨rfl, rfl, rfl, by decide +kernel, rfl, by decide +kernel, by decide +kernel⟩
theorem b_Net_is_plain (kV doc pm : Value) (an : Option Addr) (cdv ct : Value) (us : List Value) (hl : us.length = (["self"] : List Str).length) : bindArgs (PySem.W.fnOf "is_plain" "Net.is_plain" (defArgs s_Net_is_plain) (defBody s_Net_is_plain) (defScope s_Net_is_plain) .none kV doc pm an cdv ct) ⟨us, []⟩ = pure ((["self"] : List Str).zip us) := match us, hl with | [_], _ => rfl
abbrev s_Net_gates : Stmt := inClass (topS 42) 6
abbrev N_Net_gates : List Str := ["self"]
theorem sc_Net_gates : FnScope N_Net_gates ["self"] (defScope s_Net_gates) := ⟨rfl, rfl, rfl, by decide +kernel, rfl, by decide +kernel, by decide +kernel⟩
theorem b_Net_gates (kV doc pm : Value) (an : Option Addr) (cdv ct : Value) (us : List Value) (hl : us.length = (["self"] : List Str).length) : bindArgs (PySem.W.fnOf "gates" "Net.gates" (defArgs s_Net_gates) (defBody s_Net_gates) (defScope s_Net_gates) .none kV doc pm an cdv ct) ⟨us, []⟩ = pure ((["self"] : List Str).zip us) := match us, hl with | [_], _ => rfl
abbrev s_Net_len : Stmt := inClass (topS 42) 7
abbrev N_Net_len : List Str := ["self"]
theorem sc_Net_len : FnScope N_Net_len ["self"] (defScope s_Net_len) := ⟨rfl, rfl, rfl, by decide +kernel, rfl, by decide +kernel, by decide +kernel⟩
theorem b_Net_len (kV doc pm : Value) (an : Option Addr) (cdv ct : Value) (us : List Value) (hl : us.length = (["self"] : List Str).length) : bindArgs (PySem.W.fnOf "__len__" "Net.__len__" (defArgs s_Net_len) (defBody s_Net_len) (defScope s_Net_len) .none kV doc pm an cdv ct) ⟨us, []⟩ = pure ((["self"] : List Str).zip us) := match us, hl with | [_], _ => rfl
abbrev s_Net_iter : Stmt := inClass (topS 42) 8
abbrev N_Net_iter : List Str := ["self"]
theorem sc_Net_iter : FnScope N_Net_iter ["self"] (defScope s_Net_iter) := ⟨rfl, rfl, rfl, by decide +kernel, rfl, by decide +kernel, by decide +kernel⟩
theorem b_Net_iter (kV doc pm : Value) (an : Option Addr) (cdv ct : Value) (us : List Value) (hl : us.length = (["self"] : List Str).length) : bindArgs (PySem.W.fnOf "__iter__" "Net.__iter__" (defArgs s_Net_iter) (defBody s_Net_iter) (defScope s_Net_iter) .none kV doc pm an cdv ct) ⟨us, []⟩ = pure ((["self"] : List Str).zip us) := match us, hl with | [_], _ => rfl
abbrev s_Net_getitem : Stmt := inClass (topS 42) 9
abbrev N_Net_getitem : List Str := ["self", "position"]
theorem sc_Net_getitem : FnScope N_Net_getitem ["self", "position"] (defScope s_Net_getitem) := ⟨rfl, rfl, rfl, by decide +kernel, rfl, by decide +kernel, by decide +kernel⟩
theorem b_Net_getitem (kV doc pm : Value) (an : Option Addr) (cdv ct : Value) (us : List Value) (hl : us.length = (["self", "position"] : List Str).length) : bindArgs (PySem.W.fnOf "__getitem__" "Net.__getitem__" (defArgs s_Net_getitem) (defBody s_Net_getitem) (defScope s_Net_getitem) .none kV doc pm an cdv ct) ⟨us, []⟩ = pure ((["self", "position"] : List Str).zip us) := match us, hl with | [_, _], _ => rfl
abbrev s_Net_call : Stmt := inClass (topS 42) 10
abbrev N_Net_call : List Str := ["self", "content"]
theorem sc_Net_call : FnScope N_Net_call ["self", "content"] (defScope s_Net_call) := ⟨rfl, rfl, rfl, by decide +kernel, rfl, by decide +kernel, by decide +kernel⟩
theorem b_Net_call (kV doc pm : Value) (an : Option Addr) (cdv ct : Value) (us : List Value) (hl : us.length = (["self", "content"] : List Str).length) : bindArgs (PySem.W.fnOf "__call__" "Net.__call__" (defArgs s_Net_call) (defBody s_Net_call) (defScope s_Net_call) .none kV doc pm an cdv ct) ⟨us, []⟩ = pure ((["self", "content"] : List Str).zip us) := match us, hl with | [_, _], _ => rfl
abbrev s_Net_add : Stmt := inClass (topS 42) 11
abbrev N_Net_add : List Str := ["self", "other"]
theorem sc_Net_add : FnScope N_Net_add ["self", "other"] (defScope s_Net_add) := ⟨rfl, rfl, rfl, by decide +kernel, rfl, by decide +kernel, by decide +kernel⟩
theorem b_Net_add (kV doc pm : Value) (an : Option Addr) (cdv ct : Value) (us : List Value) (hl : us.length = (["self", "other"] : List Str).length) : bindArgs (PySem.W.fnOf "__add__" "Net.__add__" (defArgs s_Net_add) (defBody s_Net_add) (defScope s_Net_add) .none kV doc pm an cdv ct) ⟨us, []⟩ = pure ((["self", "other"] : List Str).zip us) := match us, hl with | [_, _], _ => rfl
abbrev s_Net_mul : Stmt := inClass (topS 42) 12
abbrev N_Net_mul : List Str := ["self", "many"]
theorem sc_Net_mul : FnScope N_Net_mul ["self", "many"] (defScope s_Net_mul) := ⟨rfl, rfl, rfl, by decide +kernel, rfl, by decide +kernel, by decide +kernel⟩
theorem b_Net_mul (kV doc pm : Value) (an : Option Addr) (cdv ct : Value) (us : List Value) (hl : us.length = (["self", "many"] : List Str).length) : bindArgs (PySem.W.fnOf "__mul__" "Net.__mul__" (defArgs s_Net_mul) (defBody s_Net_mul) (defScope s_Net_mul) .none kV doc pm an cdv ct) ⟨us, []⟩ = pure ((["self", "many"] : List Str).zip us) := match us, hl with | [_, _], _ => rfl
abbrev s_Net_neg : Stmt := inClass (topS 42) 13
abbrev N_Net_neg : List Str := ["self", "gate"]
theorem sc_Net_neg : FnScope N_Net_neg ["self"] (defScope s_Net_neg) := ⟨rfl, rfl, rfl, by decide +kernel, rfl, by decide +kernel, by decide +kernel⟩
theorem b_Net_neg (kV doc pm : Value) (an : Option Addr) (cdv ct : Value) (us : List Value) (hl : us.length = (["self"] : List Str).length) : bindArgs (PySem.W.fnOf "__neg__" "Net.__neg__" (defArgs s_Net_neg) (defBody s_Net_neg) (defScope s_Net_neg) .none kV doc pm an cdv ct) ⟨us, []⟩ = pure ((["self"] : List Str).zip us) := match us, hl with | [_], _ => rfl
abbrev s_Net_eq : Stmt := inClass (topS 42) 14
abbrev N_Net_eq : List Str := ["self", "other"]
theorem sc_Net_eq : FnScope N_Net_eq ["self", "other"] (defScope s_Net_eq) := ⟨rfl, rfl, rfl, by decide +kernel, rfl, by decide +kernel, by decide +kernel⟩
theorem b_Net_eq (kV doc pm : Value) (an : Option Addr) (cdv ct : Value) (us : List Value) (hl : us.length = (["self", "other"] : List Str).length) : bindArgs (PySem.W.fnOf "__eq__" "Net.__eq__" (defArgs s_Net_eq) (defBody s_Net_eq) (defScope s_Net_eq) .none kV doc pm an cdv ct) ⟨us, []⟩ = pure ((["self", "other"] : List Str).zip us) := match us, hl with | [_, _], _ => rfl
abbrev s_Net_repr : Stmt := inClass (topS 42) 15
abbrev N_Net_repr : List Str := ["self"]
theorem sc_Net_repr : FnScope N_Net_repr ["self"] (defScope s_Net_repr) := ⟨rfl, rfl, rfl, by decide +kernel, rfl, by decide +kernel, by decide +kernel⟩
theorem b_Net_repr (kV doc pm : Value) (an : Option Addr) (cdv ct : Value) (us : List Value) (hl : us.length = (["self"] : List Str).length) : bindArgs (PySem.W.fnOf "__repr__" "Net.__repr__" (defArgs s_Net_repr) (defBody s_Net_repr) (defScope s_Net_repr) .none kV doc pm an cdv ct) ⟨us, []⟩ = pure ((["self"] : List Str).zip us) := match us, hl with | [_], _ => rfl
abbrev s_contents : Stmt := topS 45
abbrev N_contents : List Str := ["net", "content", "found", "gate", "here"]
theorem sc_contents : FnScope N_contents ["net", "content"] (defScope s_contents) := ⟨rfl, rfl, rfl, by decide +kernel, rfl, by decide +kernel, by decide +kernel⟩
theorem b_contents (kV doc pm : Value) (an : Option Addr) (cdv ct : Value) (us : List Value) (hl : us.length = (["net", "content"] : List Str).length) : bindArgs (PySem.W.fnOf "contents" "contents" (defArgs s_contents) (defBody s_contents) (defScope s_contents) .none kV doc pm an cdv ct) ⟨us, []⟩ = pure ((["net", "content"] : List Str).zip us) := match us, hl with | [_, _], _ => rfl
abbrev s_passed : Stmt := topS 46
abbrev N_passed : List Str := ["net", "content", "many", "found", "gates", "turn"]
theorem sc_passed : FnScope N_passed ["net", "content", "many"] (defScope s_passed) := ⟨rfl, rfl, rfl, by decide +kernel, rfl, by decide +kernel, by decide +kernel⟩
theorem b_passed (kV doc pm : Value) (an : Option Addr) (cdv ct : Value) (us : List Value) (hl : us.length = (["net", "content", "many"] : List Str).length) : bindArgs (PySem.W.fnOf "passed" "passed" (defArgs s_passed) (defBody s_passed) (defScope s_passed) .none kV doc pm an cdv ct) ⟨us, []⟩ = pure ((["net", "content", "many"] : List Str).zip us) := match us, hl with | [_, _, _], _ => rfl
abbrev s_rounds : Stmt := topS 47
abbrev N_rounds : List Str := ["net", "content", "many"]
theorem sc_rounds : FnScope N_rounds ["net", "content", "many"] (defScope s_rounds) := ⟨rfl, rfl, rfl, by decide +kernel, rfl, by decide +kernel, by decide +kernel⟩
theorem b_rounds (kV doc pm : Value) (an : Option Addr) (cdv ct : Value) (us : List Value) (hl : us.length = (["net", "content", "many"] : List Str).length) : bindArgs (PySem.W.fnOf "rounds" "rounds" (defArgs s_rounds) (defBody s_rounds) (defScope s_rounds) .none kV doc pm an cdv ct) ⟨us, []⟩ = pure ((["net", "content", "many"] : List Str).zip us) := match us, hl with | [_, _, _], _ => rfl
abbrev s_Lpot : Stmt := topS 49
abbrev N_Lpot : List Str := ["_law_script", "_law_k", "_law_cell"]
theorem sc_Lpot : FnScope N_Lpot ["_law_script", "_law_k"] (defScope s_Lpot) := ⟨rfl, rfl, rfl, by decide +kernel, rfl, by decide +kernel, by decide +kernel⟩
theorem b_Lpot (kV doc pm : Value) (an : Option Addr) (cdv ct : Value) (us : List Value) (hl : us.length = (["_law_script", "_law_k"] : List Str).length) : bindArgs (PySem.W.fnOf "_law_pot" "_law_pot" (defArgs s_Lpot) (defBody s_Lpot) (defScope s_Lpot) .none kV doc pm an cdv ct) ⟨us, []⟩ = pure ((["_law_script", "_law_k"] : List Str).zip us) := match us, hl with | [_, _], _ => rfl
abbrev s_Ldraw : Stmt := topS 50
abbrev N_Ldraw : List Str := ["_law_pot_here", "_law_size", "_law_digit"]
theorem sc_Ldraw : FnScope N_Ldraw ["_law_pot_here", "_law_size"] (defScope s_Ldraw) := ⟨rfl, rfl, rfl, by decide +kernel, rfl, by decide +kernel, by decide +kernel⟩
theorem b_Ldraw (kV doc pm : Value) (an : Option Addr) (cdv ct : Value) (us : List Value) (hl : us.length = (["_law_pot_here", "_law_size"] : List Str).length) : bindArgs (PySem.W.fnOf "_law_draw" "_law_draw" (defArgs s_Ldraw) (defBody s_Ldraw) (defScope s_Ldraw) .none kV doc pm an cdv ct) ⟨us, []⟩ = pure ((["_law_pot_here", "_law_size"] : List Str).zip us) := match us, hl with | [_, _], _ => rfl
abbrev s_Lpick : Stmt := topS 51
abbrev N_Lpick : List Str := ["_law_pot_here", "_law_some"]
theorem sc_Lpick : FnScope N_Lpick ["_law_pot_here", "_law_some"] (defScope s_Lpick) := ⟨rfl, rfl, rfl, by decide +kernel, rfl, by decide +kernel, by decide +kernel⟩
theorem b_Lpick (kV doc pm : Value) (an : Option Addr) (cdv ct : Value) (us : List Value) (hl : us.length = (["_law_pot_here", "_law_some"] : List Str).length) : bindArgs (PySem.W.fnOf "_law_pick" "_law_pick" (defArgs s_Lpick) (defBody s_Lpick) (defScope s_Lpick) .none kV doc pm an cdv ct) ⟨us, []⟩ = pure ((["_law_pot_here", "_law_some"] : List Str).zip us) := match us, hl with | [_, _], _ => rfl
abbrev s_Lgate : Stmt := topS 52
abbrev N_Lgate : List Str := ["_law_pot_here", "_law_lanes", "_law_kind", "_law_one"]
theorem sc_Lgate : FnScope N_Lgate ["_law_pot_here", "_law_lanes"] (defScope s_Lgate) := ⟨rfl, rfl, rfl, by decide +kernel, rfl, by decide +kernel, by decide +kernel⟩
theorem b_Lgate (kV doc pm : Value) (an : Option Addr) (cdv ct : Value) (us : List Value) (hl : us.length = (["_law_pot_here", "_law_lanes"] : List Str).length) : bindArgs (PySem.W.fnOf "_law_gate" "_law_gate" (defArgs s_Lgate) (defBody s_Lgate) (defScope s_Lgate) .none kV doc pm an cdv ct) ⟨us, []⟩ = pure ((["_law_pot_here", "_law_lanes"] : List Str).zip us) := match us, hl with | [_, _], _ => rfl
abbrev s_Lgates : Stmt := topS 53
abbrev N_Lgates : List Str := ["_law_pot_here", "_law_lanes", "_law_most", "_law_turn"]
theorem sc_Lgates : FnScope N_Lgates ["_law_pot_here", "_law_lanes", "_law_most"] (defScope s_Lgates) := ⟨rfl, rfl, rfl, by decide +kernel, rfl, by decide +kernel, by decide +kernel⟩
theorem b_Lgates (kV doc pm : Value) (an : Option Addr) (cdv ct : Value) (us : List Value) (hl : us.length = (["_law_pot_here", "_law_lanes", "_law_most"] : List Str).length) : bindArgs (PySem.W.fnOf "_law_gates" "_law_gates" (defArgs s_Lgates) (defBody s_Lgates) (defScope s_Lgates) .none kV doc pm an cdv ct) ⟨us, []⟩ = pure ((["_law_pot_here", "_law_lanes", "_law_most"] : List Str).zip us) := match us, hl with | [_, _, _], _ => rfl
abbrev s_Lcontent : Stmt := topS 54
abbrev N_Lcontent : List Str := ["_law_pot_here", "_law_lanes", "_law_wide", "_law_lane"]
theorem sc_Lcontent : FnScope N_Lcontent ["_law_pot_here", "_law_lanes"] (defScope s_Lcontent) := ⟨rfl, rfl, rfl, by decide +kernel, rfl, by decide +kernel, by decide +kernel⟩
theorem b_Lcontent (kV doc pm : Value) (an : Option Addr) (cdv ct : Value) (us : List Value) (hl : us.length = (["_law_pot_here", "_law_lanes"] : List Str).length) : bindArgs (PySem.W.fnOf "_law_content" "_law_content" (defArgs s_Lcontent) (defBody s_Lcontent) (defScope s_Lcontent) .none kV doc pm an cdv ct) ⟨us, []⟩ = pure ((["_law_pot_here", "_law_lanes"] : List Str).zip us) := match us, hl with | [_, _], _ => rfl
abbrev s_Labove : Stmt := topS 55
abbrev N_Labove : List Str := ["_law_pot_here", "_law_content_here", "_law_number"]
theorem sc_Labove : FnScope N_Labove ["_law_pot_here", "_law_content_here"] (defScope s_Labove) := ⟨rfl, rfl, rfl, by decide +kernel, rfl, by decide +kernel, by decide +kernel⟩
theorem b_Labove (kV doc pm : Value) (an : Option Addr) (cdv ct : Value) (us : List Value) (hl : us.length = (["_law_pot_here", "_law_content_here"] : List Str).length) : bindArgs (PySem.W.fnOf "_law_above" "_law_above" (defArgs s_Labove) (defBody s_Labove) (defScope s_Labove) .none kV doc pm an cdv ct) ⟨us, []⟩ = pure ((["_law_pot_here", "_law_content_here"] : List Str).zip us) := match us, hl with | [_, _], _ => rfl
abbrev s_Lchanges : Stmt := topS 56
abbrev N_Lchanges : List Str := ["_law_pot_here", "_law_content_here", "_law_found", "_law_here", "_law_is_strict", "_law_number"]
theorem sc_Lchanges : FnScope N_Lchanges ["_law_pot_here", "_law_content_here"] (defScope s_Lchanges) := ⟨rfl, rfl, rfl, by decide +kernel, rfl, by decide +kernel, by decide +kernel⟩
theorem b_Lchanges (kV doc pm : Value) (an : Option Addr) (cdv ct : Value) (us : List Value) (hl : us.length = (["_law_pot_here", "_law_content_here"] : List Str).length) : bindArgs (PySem.W.fnOf "_law_changes" "_law_changes" (defArgs s_Lchanges) (defBody s_Lchanges) (defScope s_Lchanges) .none kV doc pm an cdv ct) ⟨us, []⟩ = pure ((["_law_pot_here", "_law_content_here"] : List Str).zip us) := match us, hl with | [_, _], _ => rfl
abbrev s_Lrising_right : Stmt := topS 57
abbrev N_Lrising_right : List Str := ["_law_net", "_law_low", "_law_high", "_law_near", "_law_far"]
theorem sc_Lrising_right : FnScope N_Lrising_right ["_law_net", "_law_low", "_law_high"] (defScope s_Lrising_right) := ⟨rfl, rfl, rfl, by decide +kernel, rfl, by decide +kernel, by decide +kernel⟩
theorem b_Lrising_right (kV doc pm : Value) (an : Option Addr) (cdv ct : Value) (us : List Value) (hl : us.length = (["_law_net", "_law_low", "_law_high"] : List Str).length) : bindArgs (PySem.W.fnOf "_law_rising_right" "_law_rising_right" (defArgs s_Lrising_right) (defBody s_Lrising_right) (defScope s_Lrising_right) .none kV doc pm an cdv ct) ⟨us, []⟩ = pure ((["_law_net", "_law_low", "_law_high"] : List Str).zip us) := match us, hl with | [_, _, _], _ => rfl
abbrev s_Llead : Stmt := topS 58
abbrev N_Llead : List Str := ["_law_near", "_law_far", "_law_one", "_law_two"]
theorem sc_Llead : FnScope N_Llead ["_law_near", "_law_far"] (defScope s_Llead) := ⟨rfl, rfl, rfl, by decide +kernel, rfl, by decide +kernel, by decide +kernel⟩
theorem b_Llead (kV doc pm : Value) (an : Option Addr) (cdv ct : Value) (us : List Value) (hl : us.length = (["_law_near", "_law_far"] : List Str).length) : bindArgs (PySem.W.fnOf "_law_lead" "_law_lead" (defArgs s_Llead) (defBody s_Llead) (defScope s_Llead) .none kV doc pm an cdv ct) ⟨us, []⟩ = pure ((["_law_near", "_law_far"] : List Str).zip us) := match us, hl with | [_, _], _ => rfl
abbrev s_Lapart_right : Stmt := topS 59
abbrev N_Lapart_right : List Str := ["_law_net", "_law_one", "_law_other", "_law_rows", "_law_others", "_law_place", "_law_near", "_law_far"]
theorem sc_Lapart_right : FnScope N_Lapart_right ["_law_net", "_law_one", "_law_other"] (defScope s_Lapart_right) := ⟨rfl, rfl, rfl, by decide +kernel, rfl, by decide +kernel, by decide +kernel⟩
theorem b_Lapart_right (kV doc pm : Value) (an : Option Addr) (cdv ct : Value) (us : List Value) (hl : us.length = (["_law_net", "_law_one", "_law_other"] : List Str).length) : bindArgs (PySem.W.fnOf "_law_apart_right" "_law_apart_right" (defArgs s_Lapart_right) (defBody s_Lapart_right) (defScope s_Lapart_right) .none kV doc pm an cdv ct) ⟨us, []⟩ = pure ((["_law_net", "_law_one", "_law_other"] : List Str).zip us) := match us, hl with | [_, _, _], _ => rfl
abbrev s_Lraised_right : Stmt := topS 60
abbrev N_Lraised_right : List Str := ["_law_net", "_law_content_here", "_law_number", "_law_near", "_law_far", "_law_row"]
theorem sc_Lraised_right : FnScope N_Lraised_right ["_law_net", "_law_content_here", "_law_number"] (defScope s_Lraised_right) := ⟨rfl, rfl, rfl, by decide +kernel, rfl, by decide +kernel, by decide +kernel⟩
theorem b_Lraised_right (kV doc pm : Value) (an : Option Addr) (cdv ct : Value) (us : List Value) (hl : us.length = (["_law_net", "_law_content_here", "_law_number"] : List Str).length) : bindArgs (PySem.W.fnOf "_law_raised_right" "_law_raised_right" (defArgs s_Lraised_right) (defBody s_Lraised_right) (defScope s_Lraised_right) .none kV doc pm an cdv ct) ⟨us, []⟩ = pure ((["_law_net", "_law_content_here", "_law_number"] : List Str).zip us) := match us, hl with | [_, _, _], _ => rfl
abbrev s_Lplain_right : Stmt := topS 61
abbrev N_Lplain_right : List Str := ["_law_net", "_law_content_here", "_law_changes_here", "_law_changed", "_law_near", "_law_far", "_law_number", "_law_row"]
theorem sc_Lplain_right : FnScope N_Lplain_right ["_law_net", "_law_content_here", "_law_changes_here"] (defScope s_Lplain_right) := ⟨rfl, rfl, rfl, by decide +kernel, rfl, by decide +kernel, by decide +kernel⟩
theorem b_Lplain_right (kV doc pm : Value) (an : Option Addr) (cdv ct : Value) (us : List Value) (hl : us.length = (["_law_net", "_law_content_here", "_law_changes_here"] : List Str).length) : bindArgs (PySem.W.fnOf "_law_plain_right" "_law_plain_right" (defArgs s_Lplain_right) (defBody s_Lplain_right) (defScope s_Lplain_right) .none kV doc pm an cdv ct) ⟨us, []⟩ = pure ((["_law_net", "_law_content_here", "_law_changes_here"] : List Str).zip us) := match us, hl with | [_, _, _], _ => rfl
abbrev s_Lright : Stmt := topS 62
abbrev N_Lright : List Str := ["_law_pot_here", "_law_lanes", "_law_gates_here", "_law_net", "_law_plain", "_law_turn", "_law_content_here", "_law_other", "_law_gate_here", "_law_one", "_law_two"]
theorem sc_Lright : FnScope N_Lright ["_law_pot_here"] (defScope s_Lright) := ⟨rfl, rfl, rfl, by decide +kernel, rfl, by decide +kernel, by decide +kernel⟩
theorem b_Lright (kV doc pm : Value) (an : Option Addr) (cdv ct : Value) (us : List Value) (hl : us.length = (["_law_pot_here"] : List Str).length) : bindArgs (PySem.W.fnOf "_law_right" "_law_right" (defArgs s_Lright) (defBody s_Lright) (defScope s_Lright) .none kV doc pm an cdv ct) ⟨us, []⟩ = pure ((["_law_pot_here"] : List Str).zip us) := match us, hl with | [_], _ => rfl
abbrev s_law : Stmt := topS 63
abbrev N_law : List Str := ["_law_script", "_law_k"]
theorem sc_law : FnScope N_law ["_law_script"] (defScope s_law) := ⟨rfl, rfl, rfl, by decide +kernel, rfl, by decide +kernel, by decide +kernel⟩
theorem b_law (kV doc pm : Value) (an : Option Addr) (cdv ct : Value) (us : List Value) (hl : us.length = (["_law_script"] : List Str).length) : bindArgs (PySem.W.fnOf "law" "law" (defArgs s_law) (defBody s_law) (defScope s_law) .none kV doc pm an cdv ct) ⟨us, []⟩ = pure ((["_law_script"] : List Str).zip us) := match us, hl with | [_], _ => rfl
/-- the plain defs -/
structure Dfs (K : PySem.W.Frag) (mg : Str → Option Value) : Prop where
  d_is_integer : Df K mg "is_integer" s_is_integer
  d_is_count : Df K mg "is_count" s_is_count
  d_is_list : Df K mg "is_list" s_is_list
  d_is_content : Df K mg "is_content" s_is_content
  d_is_lane : Df K mg "is_lane" s_is_lane
  d_want_content : Df K mg "want_content" s_want_content
  d_want_content_of : Df K mg "want_content_of" s_want_content_of
  d_want_number : Df K mg "want_number" s_want_number
  d_want_many : Df K mg "want_many" s_want_many
  d_want_other : Df K mg "want_other" s_want_other
  d_spread : Df K mg "spread" s_spread
  d_farthest : Df K mg "farthest" s_farthest
  d_is_at_most : Df K mg "is_at_most" s_is_at_most
  d_raised : Df K mg "raised" s_raised
  d_is_gate : Df K mg "is_gate" s_is_gate
  d_want_gates : Df K mg "want_gates" s_want_gates
  d_want_few : Df K mg "want_few" s_want_few
  d_want_position : Df K mg "want_position" s_want_position
  d_do_gate : Df K mg "do_gate" s_do_gate
  d_told_by : Df K mg "told_by" s_told_by
  d_gate_turned : Df K mg "gate_turned" s_gate_turned
  d_contents : Df K mg "contents" s_contents
  d_passed : Df K mg "passed" s_passed
  d_rounds : Df K mg "rounds" s_rounds
  d_Lpot : Df K mg "_law_pot" s_Lpot
  d_Ldraw : Df K mg "_law_draw" s_Ldraw
  d_Lpick : Df K mg "_law_pick" s_Lpick
  d_Lgate : Df K mg "_law_gate" s_Lgate
  d_Lgates : Df K mg "_law_gates" s_Lgates
  d_Lcontent : Df K mg "_law_content" s_Lcontent
  d_Labove : Df K mg "_law_above" s_Labove
  d_Lchanges : Df K mg "_law_changes" s_Lchanges
  d_Lrising_right : Df K mg "_law_rising_right" s_Lrising_right
  d_Llead : Df K mg "_law_lead" s_Llead
  d_Lapart_right : Df K mg "_law_apart_right" s_Lapart_right
  d_Lraised_right : Df K mg "_law_raised_right" s_Lraised_right
  d_Lplain_right : Df K mg "_law_plain_right" s_Lplain_right
  d_Lright : Df K mg "_law_right" s_Lright
  d_law : Df K mg "law" s_law
end LT

set_option maxHeartbeats 2000000
namespace LT
open PySem PySem.Spec PyProof.Rows L2 Dl Mt ClX
abbrev frees : List Str := ["len", "int", "abs", "max", "min", "sorted", "set", "zip", "enumerate", "all", "any", "range", "list", "tuple", "isinstance", "bool", "str", "divmod", "repr", "sum", "dict"]
/-- what the top has written -/
structure Txt (K : PySem.W.Frag) (mg : Str → Option Value) : Prop extends Dfs K mg where
  free : ∀ x ∈ frees, mg x = none
  most : ∃ t, mg "MOST" = some (.int 12 t)
  rnds : ∃ t, mg "MOST_ROUNDS" = some (.int 1000 t)
  low : ∃ t, mg "LOW" = some (.str "low" t)
  high : ∃ t, mg "HIGH" = some (.str "high" t)
  sort : ∃ t, mg "SORT" = some (.str "sort" t)
  copy : ∃ t, mg "COPY" = some (.str "copy" t)
  add : ∃ t, mg "ADD" = some (.str "add" t)
  paired : ∃ a, mg "PAIRED" = some (.ref a) ∧ ∀ H, SqT K H a [.str "low", .str "high", .str "sort", .str "copy"]
  net : mg "Net" = some (.ref (He.ga K "Net"))
  cls : Cls K (He.ga K "Net")
  nL : NoAttr K (He.ga K "Net") "own_lanes"
  nG : NoAttr K (He.ga K "Net") "own_gates"
  crd : ∃ mc, CRead K (He.ga K "Net") mc ∧ (∃ t, CVal K (He.ga K "Net") mc "MOST_LANES" (.int 12) (.int 12 t)) ∧ ∃ t, CVal K (He.ga K "Net") mc "MOST_GATES" (.int 400) (.int 400 t)
  make : ∃ f fd dvs, Mk K (He.ga K "Net") f ∧ dvs.length = 1 ∧ FunD K "__init__" "Net.__init__" (defArgs s_Net_init) (defBody s_Net_init) (defScope s_Net_init) dvs [] f fd
  gates : ∃ f fd, Meth K (He.ga K "Net") "gates" f ∧ FnP K "gates" "Net.gates" s_Net_gates f fd
  lanes : ∃ q g fd, PropOf K (He.ga K "Net") "lanes" q g ∧ FnP K "lanes" "Net.lanes" s_Net_lanes g fd
  plain : ∃ q g fd, PropOf K (He.ga K "Net") "is_plain" q g ∧ FnP K "is_plain" "Net.is_plain" s_Net_is_plain g fd
  eqm : ∃ f fd, Meth K (He.ga K "Net") "__eq__" f ∧ FnP K "__eq__" "Net.__eq__" s_Net_eq f fd
  tyN : ∀ (H : Hp) (a dx : Addr) (fs : List (Str × V)), H a = some (.ins (He.ga K "Net") dx fs) → TyOf K H (.ref a) (.ref (He.ga K "Net"))
section
variable {P : Program} {w : World} {K : PySem.W.Frag} {mg : Str → Option Value} {base : Heap}
theorem Txt.f (T : Txt K mg) (x : Str) (h : x ∈ frees := by decide +kernel) : mg x = none := T.free x h
theorem hu64 {A : Around} {k : Nat} (hr : Room k A) : A.units + 64 < cLine := by have := hr.un; omega
/-! ### basics -/
def F_is_integer : Fn Int := ⟨["value"], fun n => [iI n], fun _ => True, fun _ => .v (iB true)⟩
theorem h_is_integer (T : Txt K mg) : Has P w K mg base 1 "is_integer" F_is_integer := by
  refine has_df T.d_is_integer sc_is_integer b_is_integer rfl (fun _ => rfl) (k := 0) ?_
  intro f cdv A outer s H E n B L D hr _ hM q _
  refine w_ret (r := .v (iB true)) (Ev.bool (e_and (e_isi (e_var 0) ty_int (e_bty (n := "int") (T.f "int") (by decide +kernel)) (T.f "isinstance") (kit_ty (r := true) (by decide +kernel))) fun _ =>
    e_one (e_not (e_isi (e_var 0) ty_int (e_bty (n := "bool") (T.f "bool") (by decide +kernel)) (T.f "isinstance") (kit_ty (r := false) (by decide +kernel))))) ?_) hM q
  rintro z (⟨_, h⟩ | ⟨h, _⟩)
  · revert h; cases z <;> simp
  · cases h
def F_is_count : Fn Int := ⟨["value"], fun n => [iI n], fun _ => True, fun n => .v (iB (decide (0 ≤ n)))⟩
theorem h_is_count (T : Txt K mg) : Has P w K mg base 2 "is_count" F_is_count := by
  refine has_df T.d_is_count sc_is_count b_is_count rfl (fun _ => rfl) (k := 1) ?_
  intro f cdv A outer s H E n B L D hr _ hM q _
  refine w_ret (r := .v (iB (decide (0 ≤ n)))) (Ev.bool (e_and (e_call (h_is_integer T) (hr.mono (by decide)) n (a1 (e_var 0)) trivial).v fun _ => e_one (e_geP (P := fun z => z = decide (0 ≤ n)) (e_var 0) e_int fun x y h1 h2 => by rw [h1, h2])) ?_) hM q
  rintro z (⟨_, h⟩ | ⟨h, _⟩)
  · exact h
  · cases h
/-- a list or a tuple -/
def F_is_list (K : PySem.W.Frag) : Fn RV := ⟨["value"], fun R => [R], fun R => R.Ty K (.type "list") ∨ R.Ty K (.type "tuple"), fun _ => .v (iB true)⟩
theorem h_is_list (T : Txt K mg) : Has P w K mg base 1 "is_list" (F_is_list K) := by
  refine has_df T.d_is_list sc_is_list b_is_list rfl (fun _ => rfl) (k := 0) ?_
  intro f cdv A outer s H E R B L D hr hp hM q _
  rcases hp with hp | hp
  · exact w_ret (r := .v (iB true)) (e_isi2 (e_var 0) hp (e_bty (n := "list") (T.f "list") (by decide +kernel)) (e_bty (n := "tuple") (T.f "tuple") (by decide +kernel)) (T.f "isinstance") (kitAny_cons (b := true) (kit_ty (by decide +kernel)) (fun z => nomatch z) fun _ => rfl)) hM q
  · exact w_ret (r := .v (iB true)) (e_isi2 (e_var 0) hp (e_bty (n := "list") (T.f "list") (by decide +kernel)) (e_bty (n := "tuple") (T.f "tuple") (by decide +kernel)) (T.f "isinstance") (kitAny_cons (b := false) (kit_ty (by decide +kernel)) (fun _ => kitAny_cons (b := true) (kit_ty (by decide +kernel)) (fun z => nomatch z) fun _ => rfl) (fun z => nomatch z))) hM q
def F_is_content (K : PySem.W.Frag) : Fn (List Int) := ⟨["value"], fun xs => [rInts K xs], fun _ => True, fun xs => .v (iB (decide (1 ≤ xs.length ∧ xs.length ≤ 12)))⟩
theorem h_is_content (T : Txt K mg) : Has P w K mg base 2 "is_content" (F_is_content K) := by
  refine has_df T.d_is_content sc_is_content b_is_content rfl (fun _ => rfl) (k := 1) ?_
  intro f cdv A outer s H E xs B L D hr _ hM q _
  obtain ⟨t, hmost⟩ := T.most
  refine w_ret (r := .v (iB (decide (1 ≤ xs.length ∧ xs.length ≤ 12)))) (Ev.bool (e_and (e_call (h_is_list T) hr (rInts K xs) (a1 (e_var 0)) (.inl ty_lst)).v fun _ =>
    e_and (P := fun z => z = decide (1 ≤ xs.length ∧ xs.length ≤ 12)) (e_chain op_le op_le e_int (e_lenL (e_var 0) (T.f "len")) (e_glob hmost (v := .int 12) (R := iI 12) ⟨_, rfl⟩ fun _ => ⟨_, rfl, rfl⟩) ?_ ?_ (by with_unfolding_all rfl)) fun hz =>
      e_one (e_allM (f := fun _ : Int => true) (xs := xs) (e_compL 1 _ sc_is_content.nd (e_var 0) (by have := of_decide_eq_true hz.symm; omega) (fun x hx s H C cl fp => (e_call (h_is_integer T) hr x (a1 (e_var 1)) trivial).v)).lst (T.f "all"))) ?fin) hM q
  case fin =>
    rintro z (⟨_, ⟨h1, h2⟩ | ⟨h1, h2⟩⟩ | ⟨h, _⟩)
    · rw [h2, ← h1]; simp
    · rw [h2]; exact h1
    · cases h
  · intro x y h1 h2 h3
    subst h1 h2
    rw [List.length_map] at h3
    symm
    have := of_decide_eq_false h3
    exact decide_eq_false (by omega)
  · intro x y z h1 h2 h3 h4
    subst h1 h2 h3
    rw [List.length_map] at h4 ⊢
    have := of_decide_eq_true h4
    rw [decide_eq_decide]
    omega
end
end LT

set_option maxHeartbeats 2000000
namespace LT
open PySem PySem.Spec PyProof.Rows L2 Dl Mt ClX
section
variable {P : Program} {w : World} {K : PySem.W.Frag} {mg : Str → Option Value} {base : Heap}
def F_is_lane : Fn (Int × Int) := ⟨["lanes", "value"], fun n => [iI n.1, iI n.2], fun _ => True, fun n => .v (iB (decide (0 ≤ n.2 ∧ n.2 < n.1)))⟩
theorem h_is_lane (T : Txt K mg) : Has P w K mg base 3 "is_lane" F_is_lane := by
  refine has_df T.d_is_lane sc_is_lane b_is_lane rfl (fun _ => rfl) (k := 2) ?_
  intro f cdv A outer s H E n B L D hr _ hM q _
  refine w_ret (r := .v (iB (decide (0 ≤ n.2 ∧ n.2 < n.1)))) (Ev.bool (e_and (e_call (h_is_count T) hr n.2 (a1 (e_var 1)) trivial).v fun _ => e_one (e_ltP (P := fun z => z = decide (n.2 < n.1)) (e_var 1) (e_var 0) fun x y h1 h2 => by rw [h1, h2])) ?_) hM q
  rintro z (⟨h, h'⟩ | ⟨h, h'⟩)
  · have := of_decide_eq_true h.symm
    rw [h', decide_eq_decide]
    omega
  · have := of_decide_eq_false h.symm
    rw [h']
    symm
    exact decide_eq_false (by omega)
abbrev Cont (xs : List Int) : Prop := 1 ≤ xs.length ∧ xs.length ≤ 12
def F_want_content (K : PySem.W.Frag) : Fn (List Int) := ⟨["value"], fun xs => [rInts K xs], Cont, fun _ => .v iN⟩
theorem h_want_content (T : Txt K mg) : Has P w K mg base 3 "want_content" (F_want_content K) := by
  refine has_df T.d_want_content sc_want_content b_want_content rfl (fun _ => rfl) (k := 2) ?_
  intro f cdv A outer s H E xs B L D hr hp hM q hN
  replace hp : Cont xs := hp
  refine w_ifNot (t_not (t_val (e_call (h_is_content T) hr xs (a1 (e_var 0)) trivial).v)) (fun h => ?_) (w_none hM q hN)
  rw [decide_eq_true hp] at h
  cases h
def F_want_content_of (K : PySem.W.Frag) : Fn (Int × List Int) := ⟨["lanes", "value"], fun z => [iI z.1, rInts K z.2], fun z => Cont z.2 ∧ z.1 = z.2.length, fun _ => .v iN⟩
theorem h_want_content_of (T : Txt K mg) : Has P w K mg base 3 "want_content_of" (F_want_content_of K) := by
  refine has_df T.d_want_content_of sc_want_content_of b_want_content_of rfl (fun _ => rfl) (k := 2) ?_
  intro f cdv A outer s H E z B L D hr hp hM q hN
  refine w_ifNot (t_or (t_not (t_val (e_call (h_is_content T) hr z.2 (a1 (e_var 1)) trivial).v)) fun _ => t_or1 (t_neI (P := fun z => z = false) (e_lenL (e_var 1) (T.f "len")) (e_var 0) fun x y h1 h2 => ?_)).t (fun h => ?_) (w_none hM q hN)
  · rw [h1, h2, List.length_map, hp.2, decide_eq_true rfl]; rfl
  · rcases h with ⟨_, h⟩ | ⟨h, _⟩
    · cases h
    · rw [decide_eq_true hp.1] at h
      cases h
def F_want_number : Fn Int := ⟨["value"], fun n => [iI n], fun _ => True, fun _ => .v iN⟩
theorem h_want_number (T : Txt K mg) : Has P w K mg base 2 "want_number" F_want_number := by
  refine has_df T.d_want_number sc_want_number b_want_number rfl (fun _ => rfl) (k := 1) ?_
  intro f cdv A outer s H E n B L D hr hp hM q hN
  exact w_ifNot (t_not (t_val (e_call (h_is_integer T) hr n (a1 (e_var 0)) trivial).v)) (fun h => nomatch h) (w_none hM q hN)
def F_want_many : Fn Int := ⟨["value"], fun n => [iI n], fun n => 0 ≤ n, fun _ => .v iN⟩
theorem h_want_many (T : Txt K mg) : Has P w K mg base 3 "want_many" F_want_many := by
  refine has_df T.d_want_many sc_want_many b_want_many rfl (fun _ => rfl) (k := 2) ?_
  intro f cdv A outer s H E n B L D hr hp hM q hN
  replace hp : 0 ≤ n := hp
  refine w_ifNot (t_not (t_val (e_call (h_is_count T) hr n (a1 (e_var 0)) trivial).v)) (fun h => ?_) (w_none hM q hN)
  rw [decide_eq_true hp] at h
  cases h
def F_want_other (K : PySem.W.Frag) : Fn (List Int × List Int) := ⟨["content", "other"], fun z => [rInts K z.1, rInts K z.2], fun z => Cont z.1 ∧ z.2.length = z.1.length, fun _ => .v iN⟩
theorem h_want_other (T : Txt K mg) : Has P w K mg base 4 "want_other" (F_want_other K) := by
  refine has_df T.d_want_other sc_want_other b_want_other rfl (fun _ => rfl) (k := 3) ?_
  intro f cdv A outer s H E z B L D hr hp hM q hN
  refine w_expr (e_call (h_want_content T) hr z.1 (a1 (e_var 0)) hp.1).v ?_
  refine w_ifNot (t_or (t_not (t_val (e_call (h_is_content T) (hr.mono (by decide)) z.2 (a1 (e_var 1)) trivial).v)) fun _ => t_or1 (t_neI (P := fun z => z = false) (e_lenL (e_var 1) (T.f "len")) (e_lenL (e_var 0) (T.f "len")) fun x y h1 h2 => ?_)).t (fun h => ?_) (w_none hM q hN)
  · rw [h1, h2, List.length_map, List.length_map, hp.2, decide_eq_true rfl]; rfl
  · rcases h with ⟨_, h⟩ | ⟨h, _⟩
    · cases h
    · rw [decide_eq_true (show 1 ≤ z.2.length ∧ z.2.length ≤ 12 by rw [hp.2]; exact hp.1)] at h
      cases h
def F_spread (K : PySem.W.Frag) : Fn (List Int) := ⟨["content"], fun xs => [rInts K xs], Cont, fun xs => .v (iI (maxF xs - minF xs))⟩
theorem h_spread (T : Txt K mg) : Has P w K mg base 4 "spread" (F_spread K) := by
  refine has_df T.d_spread sc_spread b_spread rfl (fun _ => rfl) (k := 3) ?_
  intro f cdv A outer s H E xs B L D hr hp hM q hN
  refine w_expr (e_call (h_want_content T) hr xs (a1 (e_var 0)) hp).v ?_
  exact w_ret (r := .v (iI (maxF xs - minF xs))) (e_subP (e_maxL (C := fun m => m = maxF xs) rfl (e_var 0) (T.f "max") hp.1 fun m h1 h2 => maxF_eq h1 h2) (e_minL (C := fun m => m = minF xs) rfl (e_var 0) (T.f "min") hp.1 fun m h1 h2 => minF_eq h1 h2) fun x y h1 h2 => by rw [h1, h2]) hM q
def F_farthest (K : PySem.W.Frag) : Fn (List Int × List Int) := ⟨["content", "other"], fun z => [rInts K z.1, rInts K z.2], fun z => Cont z.1 ∧ z.2.length = z.1.length, fun z => .v (iI (farF z.1 z.2))⟩
theorem zw_iI {f : Int → Int → Int} : ∀ (xs ys : List Int), List.zipWith (fun a b => iI (f a b)) xs ys = (List.zipWith f xs ys).map iI
  | [], _ => by simp
  | _ :: _, [] => by simp
  | x :: xs, y :: ys => by rw [List.zipWith_cons_cons, List.zipWith_cons_cons, List.map_cons, zw_iI xs ys]
theorem zw_iB {f : Int → Int → Bool} : ∀ (xs ys : List Int), List.zipWith (fun a b => iB (f a b)) xs ys = (List.zipWith f xs ys).map iB
  | [], _ => by simp
  | _ :: _, [] => by simp
  | x :: xs, y :: ys => by rw [List.zipWith_cons_cons, List.zipWith_cons_cons, List.map_cons, zw_iB xs ys]
theorem h_farthest (T : Txt K mg) : Has P w K mg base 5 "farthest" (F_farthest K) := by
  refine has_df T.d_farthest sc_farthest b_farthest rfl (fun _ => rfl) (k := 4) ?_
  intro f cdv A outer s H E z B L D hr hp hM q hN
  refine w_expr (e_call (h_want_other T) hr z (a2 (e_var 0) (e_var 1)) hp).v ?_
  refine w_ret (r := .v (iI (farF z.1 z.2))) (e_maxL (ns := List.zipWith (fun a b => absF (a - b)) z.1 z.2) (C := fun m => m = _) rfl ?_ (T.f "max") ?_ fun m h1 h2 => maxF_eq h1 h2) hM q
  · unfold rInts
    rw [← zw_iI]
    refine (e_compZ 2 3 _ sc_farthest.nd (e_var 0) (e_var 1) (by have := hp.1.2; omega) (T.f "zip") fun i x y h1 h2 s H C cl fp => ?_).lst
    exact e_abs (e_subP (C := fun d => d = x - y) (e_var 2) (e_var 3) fun a b h1 h2 => by rw [h1, h2]) (T.f "abs") fun d hd => by rw [hd]; rfl
  · rw [List.length_zipWith]
    have := hp.1.1
    have := hp.2
    omega
def F_is_at_most (K : PySem.W.Frag) : Fn (List Int × List Int) := ⟨["content", "other"], fun z => [rInts K z.1, rInts K z.2], fun z => Cont z.1 ∧ z.2.length = z.1.length, fun z => .v (iB ((List.zipWith (fun a b => decide (a ≤ b)) z.1 z.2).all id))⟩
theorem h_is_at_most (T : Txt K mg) : Has P w K mg base 5 "is_at_most" (F_is_at_most K) := by
  refine has_df T.d_is_at_most sc_is_at_most b_is_at_most rfl (fun _ => rfl) (k := 4) ?_
  intro f cdv A outer s H E z B L D hr hp hM q hN
  refine w_expr (e_call (h_want_other T) hr z (a2 (e_var 0) (e_var 1)) hp).v ?_
  refine w_ret (r := .v (iB ((List.zipWith (fun a b => decide (a ≤ b)) z.1 z.2).all id))) (e_all rfl ?_ (T.f "all")) hM q
  rw [← zw_iB]
  refine (e_compZ 2 3 _ sc_is_at_most.nd (e_var 0) (e_var 1) (by have := hp.1.2; omega) (T.f "zip") fun i x y h1 h2 s H C cl fp => ?_).lst
  exact e_leP (e_var 2) (e_var 3) fun a b h1 h2 => by rw [h1, h2]
def F_raised (K : PySem.W.Frag) : Fn (List Int × Int) := ⟨["content", "number"], fun z => [rInts K z.1, iI z.2], fun z => Cont z.1, fun z => .l ((z.1.map (· + z.2)).map iI)⟩
theorem h_raised (T : Txt K mg) : Has P w K mg base 4 "raised" (F_raised K) := by
  refine has_df T.d_raised sc_raised b_raised rfl (fun _ => rfl) (k := 3) ?_
  intro f cdv A outer s H E z B L D hr hp hM q hN
  refine w_expr (e_call (h_want_content T) hr z.1 (a1 (e_var 0)) hp).v ?_
  refine w_expr (e_call (h_want_number T) (hr.mono (by decide)) z.2 (a1 (e_var 1)) trivial).v ?_
  refine w_ret (r := .l ((z.1.map (· + z.2)).map iI)) ?_ hM q
  rw [List.map_map]
  refine e_compL 2 _ sc_raised.nd (e_var 0) (by have := hp.2; omega) fun x hx s H C cl fp => ?_
  exact e_addP (e_var 2) (e_var 1) fun a b h1 h2 => by rw [h1, h2]
end
end LT

set_option maxHeartbeats 2000000
namespace LT
open PySem PySem.Spec PyProof.Rows L2 Dl Mt ClX
instance : Inhabited Gate := ⟨⟨.add, 0, 0⟩⟩
section
variable {P : Program} {w : World} {K : PySem.W.Frag} {mg : Str → Option Value} {base : Heap}
/-- a gate -/
abbrev iG (K : PySem.W.Frag) (g : Gate) : RV := rTup K [iS g.k.wd, iI (g.a : Int), iI g.b]
theorem e_word {X : Cx} {sl : List Ent} {x : Str} {pos : Pos} {z : Str} (h : ∃ t, X.mg x = some (.str z t)) (hg : Gl X x := by rfl) (hd : (x == ("__debug__" : Str)) = false := by decide) : Ev X (.Name x pos) sl (iS z) := by
  obtain ⟨t, h⟩ := h
  exact e_glob h (v := .str z) ⟨_, rfl⟩ (fun _ => ⟨_, rfl, rfl⟩) hg hd
/-- a word compared with another one -/
theorem t_wd {X : Cx} {sl : List Ent} {a b : Expr} {pos : Pos} {k l : Mt.Kind} (ha : Ev X a sl (iS k.wd)) (hb : Ev X b sl (iS l.wd)) : EvT X (.Compare a [.Eq] [b] pos) sl (fun z => z = decide (k = l)) :=
  t_eqS ha hb fun x y h1 h2 => by
    rw [h1, h2, decide_eq_decide]
    exact ⟨wd_inj, fun e => by rw [e]⟩
theorem t_wdN {X : Cx} {sl : List Ent} {a b : Expr} {pos : Pos} {k l : Mt.Kind} (ha : Ev X a sl (iS k.wd)) (hb : Ev X b sl (iS l.wd)) : EvT X (.Compare a [.NotEq] [b] pos) sl (fun z => z = !decide (k = l)) :=
  t_neS ha hb fun x y h1 h2 => by
    rw [h1, h2]
    congr 1
    rw [decide_eq_decide]
    exact ⟨wd_inj, fun e => by rw [e]⟩
def F_is_gate (K : PySem.W.Frag) : Fn (Nat × Gate) := ⟨["lanes", "value"], fun z => [iI (z.1 : Int), iG K z.2], fun z => z.2.Ok z.1, fun _ => .v (iB true)⟩
theorem h_is_gate (T : Txt K mg) : Has P w K mg base 4 "is_gate" (F_is_gate K) := by
  refine has_df T.d_is_gate sc_is_gate b_is_gate rfl (fun _ => rfl) (k := 3) ?_
  intro f cdv A outer s H E z B L D hr hp hM q hN
  obtain ⟨n, g⟩ := z
  replace hp : g.Ok n := hp
  have ha : 0 ≤ (g.a : Int) ∧ (g.a : Int) < n := ⟨by omega, by have := hp.a; omega⟩
  refine w_ifNot (t_or (t_not (t_val (e_isi (e_var 1) ty_tup (e_bty (n := "tuple") (T.f "tuple") (by decide +kernel)) (T.f "isinstance") (kit_ty (r := true) (by decide +kernel))))) fun _ =>
    t_or (t_neI (P := fun z => z = false) (e_lenT (e_var 1) (T.f "len")) e_int fun x y h1 h2 => by rw [h1, h2]; rfl) fun _ =>
    t_or (t_not (t_val (e_isi (e_ixT (e_var 1) e_int rfl) ty_str (e_bty (n := "str") (T.f "str") (by decide +kernel)) (T.f "isinstance") (kit_ty (r := true) (by decide +kernel))))) fun _ =>
    t_or1 (t_not (t_val (e_call (h_is_lane T) hr ((n : Int), (g.a : Int)) (a2 (e_var 0) (e_ixT (e_var 1) e_int rfl)) trivial).v))).t (fun h => ?_) ?_
  · rcases h with ⟨_, ⟨_, ⟨_, h⟩ | ⟨h, _⟩⟩ | ⟨h, _⟩⟩ | ⟨h, _⟩
    · rw [decide_eq_true ha] at h; cases h
    · cases h
    · cases h
    · cases h
  · refine w_if (t_wd (l := .add) (e_ixT (e_var 1) e_int rfl) (e_word T.add)) (fun h => ?_) (fun h => ?_)
    · exact w_ret (r := .v (iB true)) (e_call (h_is_integer T) (hr.mono (by decide)) g.b (a1 (e_ixT (e_var 1) e_int rfl)) trivial).v hM q
    · refine w_end ?_
      have hk : g.k ≠ .add := of_decide_eq_false h.symm
      obtain ⟨b0, b1, b2⟩ := hp.b hk
      obtain ⟨pa, hpa, hsq⟩ := T.paired
      refine w_ret (r := .v (iB true)) (Ev.bool (e_and (P := fun z => z = true) (e_cmp op_in_seq (by rfl) (e_ixT (e_var 1) e_int rfl) (e_glob hpa (v := .ref pa) (R := rTup K ((["low", "high", "sort", "copy"] : List Str).map iS)) rfl fun G => ⟨pa, _, rfl, hsq G, PVs.ofStrs _⟩) ?_) fun _ =>
        e_and (e_call (h_is_lane T) hr ((n : Int), g.b) (a2 (e_var 0) (e_ixT (e_var 1) e_int rfl)) trivial).v fun _ => e_one (e_neI (P := fun z => z = true) (e_ixT (e_var 1) e_int rfl) (e_ixT (e_var 1) e_int rfl) fun x y h1 h2 => ?_)) ?_) hM q
      · rintro x y G H Q sm ⟨wd, rfl, rfl⟩ ⟨a, vs, rfl, h1, h2⟩ k
        have e2 := h2.strs
        subst e2
        refine ⟨a, _, rfl, .inr (Dl.Same.tup sm h1), rfl, rfl, k _ G H (.refl sm) ⟨_, rfl, ?_⟩⟩
        revert hk
        cases g.k <;> intro hk <;> first | decide +kernel | exact absurd rfl hk
      · rw [h1, h2, decide_eq_false b2]; rfl
      · rintro z (⟨_, ⟨_, h⟩ | ⟨h, _⟩⟩ | ⟨h, _⟩)
        · exact h
        · rw [decide_eq_true (show 0 ≤ g.b ∧ g.b < (n : Int) from ⟨b0, b1⟩)] at h; cases h
        · cases h
def F_want_gates (K : PySem.W.Frag) : Fn (Nat × List Gate) := ⟨["lanes", "gates"], fun z => [iI (z.1 : Int), rLst K (z.2.map (iG K))], fun z => ∀ g ∈ z.2, g.Ok z.1, fun _ => .v iN⟩
theorem h_want_gates (T : Txt K mg) : Has P w K mg base 5 "want_gates" (F_want_gates K) := by
  refine has_df T.d_want_gates sc_want_gates b_want_gates rfl (fun _ => rfl) (k := 4) ?_
  intro f cdv A outer s H E z B L D hr hp hM q hN
  obtain ⟨n, gs⟩ := z
  replace hp : ∀ g ∈ gs, g.Ok n := hp
  refine w_ifNot (t_not (t_val (e_call (h_is_list T) (hr.mono (by decide)) (rLst K (gs.map (iG K))) (a1 (e_var 1)) (.inl ty_lst)).v)) (fun h => nomatch h) ?_
  refine w_forE 2 3 sc_want_gates.nd (e_var 1) (T.f "enumerate") (fun _ sl => ∃ a b, sl = [.val (iI (n : Int)), .val (rLst K (gs.map (iG K))), a, b]) ⟨_, _, rfl⟩ ?_ ?_
  · rintro i g L' sl' hi ⟨a, b, rfl⟩
    refine w_ifNot (t_not (t_val (e_call (h_is_gate T) hr (n, g) (a2 (e_var 0) (e_var 3)) (hp g (List.mem_of_getElem? hi))).v)) (fun h => nomatch h) ?_
    exact w_turn' ⟨_, _, rfl⟩
  · rintro sl' ⟨a, b, rfl⟩
    exact w_none hM q hN
def F_want_few : Fn Int := ⟨["many"], fun n => [iI n], fun n => n ≤ 400, fun _ => .v iN⟩
theorem h_want_few (T : Txt K mg) : Has P w K mg base 1 "want_few" F_want_few := by
  refine has_df T.d_want_few sc_want_few b_want_few rfl (fun _ => rfl) (k := 0) ?_
  intro f cdv A outer s H E n B L D hr hp hM q hN
  replace hp : n ≤ 400 := hp
  obtain ⟨mc, c1, _, t, c2⟩ := T.crd
  refine w_ifNot (t_gtP (P := fun z => z = false) (e_var 0) (e_cval T.net c1 c2 (R := iI 400) fun _ => ⟨_, rfl, rfl⟩) fun x y h1 h2 => ?_) (fun h => nomatch h) (w_none hM q hN)
  rw [h1, h2]
  exact decide_eq_false (by omega)
end
end LT

set_option maxHeartbeats 2000000
namespace LT
open PySem PySem.Spec PyProof.Rows L2 Dl Mt ClX
section
variable {P : Program} {w : World} {K : PySem.W.Frag} {mg : Str → Option Value} {base : Heap}
theorem atI_int {xs : List Int} {j : Nat} (h : j < xs.length) : atI (xs.map iI) (j : Int) = some (iI (xs.getD j 0)) :=
  atI_nat (by rw [List.getElem?_map, List.getElem?_eq_getElem h, List.getD_eq_getElem?_getD, List.getElem?_eq_getElem h]; rfl)
theorem set_iI {xs : List Int} {j : Nat} {x : Int} : (xs.map iI).set j (iI x) = (xs.set j x).map iI := by rw [List.map_set]
theorem sort2 {x y : Int} {ms : List Int} (h1 : ms.Perm [x, y]) (h2 : ms.Pairwise (· ≤ ·)) : ms = [min x y, max x y] := by
  have h0 : [min x y, max x y].Perm [x, y] := by
    rcases Int.le_total x y with q | q
    · rw [Int.min_eq_left q, Int.max_eq_right q]
    · rw [Int.min_eq_right q, Int.max_eq_left q]; exact List.Perm.swap ..
  have h3 : [min x y, max x y].Pairwise (· ≤ ·) := by
    refine List.pairwise_cons.mpr ⟨fun z hz => ?_, List.pairwise_singleton ..⟩
    rw [List.mem_singleton] at hz
    subst hz
    omega
  exact List.Perm.eq_of_pairwise (fun a b _ _ h h' => Int.le_antisymm h h') h2 h3 (h1.trans h0.symm)
def F_do_gate (K : PySem.W.Frag) : FnM (Gate × List Int) := ⟨["here", "gate"], fun z => oL (z.2.map iI), fun z => [iG K z.1], fun z => z.1.Ok z.2.length, fun z => oL ((doG z.1 z.2).map iI)⟩
theorem h_do_gate (T : Txt K mg) : HasM P w K mg base 1 "do_gate" (F_do_gate K) := by
  refine hasM_df T.d_do_gate sc_do_gate b_do_gate rfl (fun _ => rfl) (by decide) (k := 0) ?_
  intro f cdv A outer s H E z p B L D hr hp hN
  obtain ⟨g, xs⟩ := z
  replace hp : g.Ok xs.length := hp
  have fin : ∀ (X : Cx) (ys : List Int) (es : List Ent), ys = doG g xs → Wp X B L [] D (.mu (oT (fun a => a = p ∧ True) (ys.map iI)) :: es) := fun X ys es e =>
    w_fallM (O := oL (ys.map iI)) hN (by rw [tie_oT]; rfl) fun G a o h => by rw [e] at h; exact h
  show Wp _ B L _ D (.mu (tie p (oL (xs.map iI))) :: _)
  rw [show tie p (oL (xs.map iI)) = oT (fun a => a = p ∧ True) (xs.map iI) from tie_oT]
  have h0 := hp.a
  refine w_un3 2 3 4 rfl sc_do_gate.nd (e_var 1) ?_
  have rlane : ∀ {X : Cx} {sl : List Ent} {pos : Pos}, True := trivial
  refine w_if (t_wd (l := .add) (e_var 2) (e_word T.add)) (fun h => ?_) (fun h => ?_)
  · have hk : g.k = .add := of_decide_eq_true h.symm
    refine w_store 0 rfl (R := iI (xs.getD g.a 0 + g.b)) (e_addP (e_ixO 0 rfl (e_var 3) (atI_int h0)) (e_var 4) fun x y h1 h2 => by rw [h1, h2]) (e_var 3) (by rw [List.length_map]; exact h0) ?_
    refine w_end ?_
    rw [set_iI]
    refine fin _ _ _ ?_
    unfold doG
    rw [hk]
  · have hk : g.k ≠ .add := of_decide_eq_false h.symm
    obtain ⟨b0, b1, b2⟩ := hp.b hk
    obtain ⟨b, hb⟩ : ∃ b : Nat, g.b = (b : Int) := ⟨g.b.toNat, by omega⟩
    have hbl : b < xs.length := by omega
    have hbt : g.b.toNat = b := by omega
    rw [hb]
    refine w_if (t_wd (l := .copy) (e_var 2) (e_word T.copy)) (fun h => ?_) (fun h => ?_)
    · have hk : g.k = .copy := of_decide_eq_true h.symm
      refine w_store 0 rfl (R := iI (xs.getD b 0)) (e_ixO 0 rfl (e_var 4) (atI_int hbl)) (e_var 3) (by rw [List.length_map]; exact h0) ?_
      refine w_end (w_end ?_)
      rw [set_iI]
      refine fin _ _ _ ?_
      unfold doG
      rw [hk, hbt]
    · have hk2 : g.k ≠ .copy := of_decide_eq_false h.symm
      refine w_unl2 (R1 := iI (min (xs.getD g.a 0) (xs.getD b 0))) (R2 := iI (max (xs.getD g.a 0) (xs.getD b 0))) 5 6 rfl sc_do_gate.nd (Ev.imp (e_sortedI (ns := [xs.getD g.a 0, xs.getD b 0]) (e_lst (a2 (e_ixO 0 rfl (e_var 3) (atI_int h0)) (e_ixO 0 rfl (e_var 4) (atI_int hbl))) (by show 2 ≤ 100000; decide)).lst (T.f "sorted") (by show 2 < 64; decide)).xl ?_) ?_
      · rintro G v ⟨ms, ⟨h1, h2⟩, r⟩
        rw [sort2 h1 h2] at r
        exact r
      · refine w_store 0 rfl (R := iI (if g.k = .high then max (xs.getD g.a 0) (xs.getD b 0) else min (xs.getD g.a 0) (xs.getD b 0))) (e_if (t_wd (l := .high) (e_var 2) (e_word T.high)) (fun h => ?_) (fun h => ?_)) (e_var 3) (by rw [List.length_map]; exact h0) ?_
        · rw [if_pos (of_decide_eq_true h.symm)]; exact e_var 6
        · rw [if_neg (of_decide_eq_false h.symm)]; exact e_var 5
        · rw [set_iI]
          refine w_if (t_wd (l := .sort) (e_var 2) (e_word T.sort)) (fun h => ?_) (fun h => ?_)
          · have hk3 : g.k = .sort := of_decide_eq_true h.symm
            refine w_store 0 rfl (R := iI (max (xs.getD g.a 0) (xs.getD b 0))) (e_var 6) (e_var 4) (by rw [List.length_map, List.length_set]; exact hbl) ?_
            rw [set_iI]
            refine w_end (w_end (w_end ?_))
            refine fin _ _ _ ?_
            unfold doG
            rw [hk3, hbt]
            rfl
          · have hk3 : g.k ≠ .sort := of_decide_eq_false h.symm
            refine w_end (w_end (w_end ?_))
            refine fin _ _ _ ?_
            unfold doG
            rw [hbt]
            revert hk hk2 hk3
            cases g.k <;> intro hk hk2 hk3 <;> first | rfl | exact absurd rfl hk | exact absurd rfl hk2 | exact absurd rfl hk3
end
end LT

set_option maxHeartbeats 2000000
namespace LT
open PySem PySem.Spec PyProof.Rows L2 Dl Mt ClX
section
variable {P : Program} {w : World} {K : PySem.W.Frag} {mg : Str → Option Value} {base : Heap}
theorem take_succ {α : Type} {l : List α} {i : Nat} {x : α} (h : l[i]? = some x) : l.take (i + 1) = l.take i ++ [x] := by
  rw [List.take_add_one, h]; rfl
theorem runG_take {gs : List Gate} {i : Nat} {g : Gate} {xs : List Int} (h : gs[i]? = some g) : runG (gs.take (i + 1)) xs = doG g (runG (gs.take i) xs) := by
  unfold runG
  rw [take_succ h, List.foldl_append]
  rfl
def F_told_by (K : PySem.W.Frag) : Fn (List Gate × List Int) := ⟨["gates", "content"], fun z => [rLst K (z.1.map (iG K)), rInts K z.2], fun z => ∀ g ∈ z.1, g.Ok z.2.length, fun z => .l ((runG z.1 z.2).map iI)⟩
theorem h_told_by (T : Txt K mg) : Has P w K mg base 2 "told_by" (F_told_by K) := by
  refine has_df T.d_told_by sc_told_by b_told_by rfl (fun _ => rfl) (k := 1) ?_
  intro f cdv A outer s H E z B L D hr hp hM q hN
  obtain ⟨gs, xs⟩ := z
  replace hp : ∀ g ∈ gs, g.Ok xs.length := hp
  refine w_setOwn 2 (e_listL (e_var 1) (T.f "list")) sc_told_by.nd ?_
  refine w_forL 3 sc_told_by.nd (e_var 0) (fun i sl => ∃ a, sl = [.val (rLst K (gs.map (iG K))), .val (rInts K xs), .own ((runG (gs.take i) xs).map iI), a]) ⟨_, rfl⟩ ?_ ?_
  · rintro i g L' sl' hi ⟨a, rfl⟩
    refine w_callM 2 (h_do_gate T) hr (g, runG (gs.take i) xs) rfl (a1 (e_var 3)) (by show g.Ok _; rw [runG_len]; exact hp g (List.mem_of_getElem? hi)) ?_
    refine w_turn' ?_
    dsimp only
    rw [runG_take hi]
    exact ⟨_, rfl⟩
  · rintro sl' ⟨a, rfl⟩
    refine w_retOwn 2 rfl hM ?_
    rw [List.take_length]
    exact q
/-! ### nets -/
abbrev nC (K : PySem.W.Frag) : Addr := He.ga K "Net"
abbrev nF (K : PySem.W.Frag) (n : Nat) (gs : List Gate) : List (Str × RV) := [("own_lanes", iI (n : Int)), ("own_gates", rTup K (gs.map (iG K)))]
abbrev iNet (K : PySem.W.Frag) (n : Nat) (gs : List Gate) : RV := rIns (nC K) (nF K n gs)
structure NetOk (n : Nat) (gs : List Gate) : Prop where
  n1 : 1 ≤ n
  n2 : n ≤ 12
  few : gs.length ≤ 400
  ok : ∀ g ∈ gs, g.Ok n
def F_init (K : PySem.W.Frag) : FnM (Nat × List Gate) := ⟨["self", "lanes", "gates"], fun _ => oI (nC K) [], fun z => [iI (z.1 : Int), rLst K (z.2.map (iG K))], fun z => NetOk z.1 z.2, fun z => oI (nC K) (nF K z.1 z.2)⟩
theorem h_Net (T : Txt K mg) : HasMk P w K mg base 6 (nC K) (F_init K) := by
  obtain ⟨f, fd, dvs, mk, hd, F⟩ := T.make
  have hb : ∃ ds, Vals (dvs.drop 1) ds ∧ Binds K fd ["self", "lanes", "gates"] ds := F.binds1 3 1 (fun e => by rw [e] at hd; cases hd) (by rw [hd]; rfl) fun T kV doc pm an cdv ct us its h1 h2 => by
    match us, h1 with
    | [_, _, _], _ =>
      rw [hd] at h2
      match its, h2 with
      | [_], _ => exact ⟨_, rfl, rfl⟩
  obtain ⟨ds, v1, b1⟩ := hb
  have e0 : dvs.drop 1 = [] := List.drop_of_length_le (by omega)
  rw [e0] at v1
  cases v1
  refine ⟨f, fd, mk, b1, fnOk_ofM (k := 5) F sc_Net_init (fun _ => rfl) (by decide) ?_⟩
  intro cdv A outer s H E z p B L D hr hp hN
  obtain ⟨n, gs⟩ := z
  replace hp : NetOk n gs := hp
  obtain ⟨mc, c1, ⟨t, c2⟩, _⟩ := T.crd
  have n1 := hp.n1
  have n2 := hp.n2
  refine w_ifNot (t_or (t_not (t_val (e_call (h_is_count T) (hr.mono (by decide)) (n : Int) (a1 (e_var 1)) trivial).v)) fun _ => t_or1 (t_not (t_chain (P := fun z => z = true) op_le op_le e_int (e_var 1) (e_cval T.net c1 c2 (R := iI 12) fun _ => ⟨_, rfl, rfl⟩) ?_ ?_ (by with_unfolding_all rfl)))).t (fun h => ?_) ?_
  · intro x y h1 h2 h3
    subst h1 h2
    have := of_decide_eq_false h3
    omega
  · intro x y z h1 h2 h3 h4
    subst h1 h2 h3
    exact decide_eq_true (by omega)
  · rcases h with ⟨_, h⟩ | ⟨h, _⟩
    · cases h
    · rw [decide_eq_true (show (0 : Int) ≤ (n : Int) by omega)] at h; cases h
  refine w_expr (e_call (h_want_gates T) hr (n, gs) (a2 (e_var 1) (e_var 2)) hp.ok).v ?_
  refine w_expr (e_call (h_want_few T) (hr.mono (by decide)) ((gs.map (iG K)).length : Int) (a1 (e_lenL (e_var 2) (T.f "len"))) (by show ((gs.map (iG K)).length : Int) ≤ 400; rw [List.length_map]; have := hp.few; omega)).v ?_
  refine w_fld 0 rfl (e_var 1) T.cls T.nL (by show 0 < 1000; decide) ?_
  refine w_fld 0 rfl (e_tupleL (e_var 2) (T.f "tuple")) T.cls T.nG (by show 1 < 1000; decide) ?_
  refine w_fallM (O := oI (nC K) (nF K n gs)) hN rfl fun G a o h => h
def F_lanes (K : PySem.W.Frag) : Fn (Nat × List Gate) := ⟨["self"], fun z => [iNet K z.1 z.2], fun _ => True, fun z => .v (iI (z.1 : Int))⟩
theorem h_lanes (T : Txt K mg) : HasPr P w K mg base 1 (nC K) "lanes" (F_lanes K) := by
  obtain ⟨q0, g, fd, hq, F⟩ := T.lanes
  refine ⟨q0, g, fd, hq, F.bindsN b_Net_lanes, fnOk_of (k := 0) F sc_Net_lanes (fun _ => rfl) ?_⟩
  intro cdv A outer s H E z B L D hr hp hM q hN
  exact w_ret (r := .v (iI (z.1 : Int))) (e_fld (e_var 0) T.cls T.nL rfl).r hM q
def F_gates (K : PySem.W.Frag) : Fn (Nat × List Gate) := ⟨["self"], fun z => [iNet K z.1 z.2], fun _ => True, fun z => .l (z.2.map (iG K))⟩
theorem h_gates (T : Txt K mg) : HasMe P w K mg base 1 (nC K) "gates" (F_gates K) := by
  obtain ⟨g, fd, hm, F⟩ := T.gates
  refine ⟨g, fd, hm, F.bindsN b_Net_gates, fnOk_of (k := 0) F sc_Net_gates (fun _ => rfl) ?_⟩
  intro cdv A outer s H E z B L D hr hp hM q hN
  exact w_ret (r := .l (z.2.map (iG K))) (e_listT (e_fld (e_var 0) T.cls T.nG rfl) (T.f "list")) hM q
/-! ### runs -/
theorem contG_succ : ∀ {gs : List Gate} {i : Nat} {g : Gate} {xs : List Int}, gs[i]? = some g → contG (gs.take (i + 1)) xs = contG (gs.take i) xs ++ [doG g (runG (gs.take i) xs)]
  | [], i, g, xs, h => by simp at h
  | g0 :: gs, 0, g, xs, h => by
    have e : g0 = g := Option.some.inj h
    subst e
    rfl
  | g0 :: gs, i + 1, g, xs, h => by
    show xs :: contG (gs.take (i + 1)) (doG g0 xs) = xs :: (contG (gs.take i) (doG g0 xs) ++ [doG g (runG (gs.take i) (doG g0 xs))])
    rw [contG_succ (gs := gs) (i := i) (g := g) h]
theorem contG_last : ∀ (gs : List Gate) (xs : List Int), ∃ l, contG gs xs = l ++ [runG gs xs]
  | [], xs => ⟨[], rfl⟩
  | g :: gs, xs => by
    obtain ⟨l, e⟩ := contG_last gs (doG g xs)
    exact ⟨xs :: l, by show xs :: contG gs (doG g xs) = _; rw [e]; rfl⟩
theorem contG_len : ∀ (gs : List Gate) (xs : List Int), (contG gs xs).length = gs.length + 1
  | [], _ => rfl
  | g :: gs, xs => by show (contG gs (doG g xs)).length + 1 = gs.length + 1 + 1; rw [contG_len gs]
def F_contents (K : PySem.W.Frag) : Fn (Nat × List Gate × List Int) := ⟨["net", "content"], fun z => [iNet K z.1 z.2.1, rInts K z.2.2], fun z => NetOk z.1 z.2.1 ∧ z.2.2.length = z.1, fun z => .l ((contG z.2.1 z.2.2).map (rInts K))⟩
theorem h_contents (T : Txt K mg) : Has P w K mg base 4 "contents" (F_contents K) := by
  refine has_df T.d_contents sc_contents b_contents rfl (fun _ => rfl) (k := 3) ?_
  intro f cdv A outer s H E z B L D hr hp hM q hN
  obtain ⟨n, gs, xs⟩ := z
  obtain ⟨ok, hl⟩ := hp
  replace ok : NetOk n gs := ok
  replace hl : xs.length = n := hl
  have n1 := ok.n1
  have n2 := ok.n2
  have few := ok.few
  refine w_expr (e_call (h_want_content_of T) hr ((n : Int), xs) (a2 (e_prop (h_lanes T) (hr.mono (by decide)) T.cls (n, gs) (e_var 0) rfl trivial).v (e_var 1)) ⟨⟨by show 1 ≤ xs.length; omega, by show xs.length ≤ 12; omega⟩, by show (n : Int) = (xs.length : Int); omega⟩).v ?_
  refine w_setOwn 2 (e_lst (a1 (e_listL (e_var 1) (T.f "list")).lst) (by show 1 ≤ 100000; decide)) sc_contents.nd ?_
  refine w_forL 3 sc_contents.nd (e_meth0 (h_gates T) (hr.mono (by decide)) T.cls (n, gs) (e_var 0) rfl rfl trivial).lst (fun i sl => ∃ a b, sl = [.val (iNet K n gs), .val (rInts K xs), .own ((contG (gs.take i) xs).map (rInts K)), a, b]) ⟨_, _, rfl⟩ ?_ ?_
  · rintro i g L' sl' hi ⟨a, b, rfl⟩
    have hil : i < gs.length := (List.getElem?_eq_some_iff.mp hi).1
    obtain ⟨l, el⟩ := contG_last (gs.take i) xs
    refine w_setOwn 4 (Rs := (runG (gs.take i) xs).map iI) (e_listL (e_ixO 2 rfl (e_negP (C := fun z => z = -1) e_int fun x h => by rw [h]) (by rw [el, List.map_append]; exact atI_last _ _)) (T.f "list")) sc_contents.nd ?_
    refine w_callM 4 (h_do_gate T) (hr.mono (by decide)) (g, runG (gs.take i) xs) rfl (a1 (e_var 3)) (by show g.Ok _; rw [runG_len, hl]; exact ok.ok g (List.mem_of_getElem? hi)) ?_
    refine w_freeze 4 hM rfl ?_
    refine w_append 2 rfl (e_var 4) (by rw [List.length_map, contG_len, List.length_take]; omega) ?_
    refine w_turn' ?_
    dsimp only
    rw [contG_succ hi, List.map_append]
    exact ⟨_, _, rfl⟩
  · rintro sl' ⟨a, b, rfl⟩
    refine w_retOwn 2 rfl hM ?_
    rw [List.take_length]
    exact q
/-- so many rounds, and those before -/
def passG (gs : List Gate) (n : Nat) (xs : List Int) : List (List Int) := (List.range (n + 1)).map fun i => rndG gs i xs
def F_passed (K : PySem.W.Frag) : Fn (Nat × List Gate × List Int × Nat) := ⟨["net", "content", "many"], fun z => [iNet K z.1 z.2.1, rInts K z.2.2.1, iI (z.2.2.2 : Int)], fun z => NetOk z.1 z.2.1 ∧ z.2.2.1.length = z.1 ∧ z.2.2.2 ≤ 1000, fun z => .l ((passG z.2.1 z.2.2.2 z.2.2.1).map (rInts K))⟩
theorem h_passed (T : Txt K mg) : Has P w K mg base 4 "passed" (F_passed K) := by
  refine has_df T.d_passed sc_passed b_passed rfl (fun _ => rfl) (k := 3) ?_
  intro f cdv A outer s H E z B L D hr hp hM q hN
  obtain ⟨n, gs, xs, m⟩ := z
  obtain ⟨ok, hl, hm⟩ := hp
  replace ok : NetOk n gs := ok
  replace hl : xs.length = n := hl
  replace hm : m ≤ 1000 := hm
  have n1 := ok.n1
  have n2 := ok.n2
  obtain ⟨t, hr1⟩ := T.rnds
  show Wp _ B L _ D [.val (iNet K n gs), .val (rInts K xs), .val (iI (m : Int)), .no, .no, .no]
  refine w_expr (e_call (h_want_content_of T) hr ((n : Int), xs) (a2 (e_prop (h_lanes T) (hr.mono (by decide)) T.cls (n, gs) (e_var 0) rfl trivial).v (e_var 1)) ⟨⟨by show 1 ≤ xs.length; omega, by show xs.length ≤ 12; omega⟩, by show (n : Int) = (xs.length : Int); omega⟩).v ?_
  refine w_expr (e_call (h_want_many T) hr (m : Int) (a1 (e_var 2)) (by show (0 : Int) ≤ (m : Int); omega)).v ?_
  refine w_ifNot (t_gtP (P := fun z => z = false) (e_var 2) (e_glob hr1 (v := .int 1000) (R := iI 1000) ⟨_, rfl⟩ fun _ => ⟨_, rfl, rfl⟩) fun x y h1 h2 => by rw [h1, h2]; exact decide_eq_false (by omega)) (fun h => nomatch h) ?_
  refine w_parO 3 4 rfl sc_passed.nd (e_lst (a1 (e_listL (e_var 1) (T.f "list")).lst) (by show 1 ≤ 100000; decide)) (e_meth0 (h_gates T) (hr.mono (by decide)) T.cls (n, gs) (e_var 0) rfl rfl trivial).lst ?_
  refine w_forR 5 sc_passed.nd (e_var 2) (by omega) (by omega) (T.f "range") (fun i sl => ∃ a, sl = [.val (iNet K n gs), .val (rInts K xs), .val (iI (m : Int)), .own ((passG gs i xs).map (rInts K)), .val (rLst K (gs.map (iG K))), a]) ⟨_, rfl⟩ ?_ ?_
  · rintro i L' sl' hi ⟨a, rfl⟩
    refine w_append 3 rfl (e_call (h_told_by T) (hr.mono (by decide)) (gs, rndG gs i xs) (a2 (e_var 4) (e_ixO 3 rfl (e_negP (C := fun z => z = -1) e_int fun x h => by rw [h]) ?_)) ?_).lst ?_ ?_
    · unfold passG
      rw [List.range_succ, List.map_append, List.map_append]
      exact atI_last _ _
    · show ∀ g ∈ gs, g.Ok (rndG gs i xs).length
      rw [rndG_len, hl]
      exact ok.ok
    · unfold passG
      rw [List.length_map, List.length_map, List.length_range]
      omega
    · refine w_turn' ?_
      dsimp only
      have e : passG gs (i + 1) xs = passG gs i xs ++ [runG gs (rndG gs i xs)] := by
        unfold passG
        rw [List.range_succ (n := i + 1), List.map_append]
        rfl
      rw [e, List.map_append]
      exact ⟨_, rfl⟩
  · rintro sl' ⟨a, rfl⟩
    exact w_retOwn 3 rfl hM q
def F_rounds (K : PySem.W.Frag) : Fn (Nat × List Gate × List Int × Nat) := ⟨["net", "content", "many"], fun z => [iNet K z.1 z.2.1, rInts K z.2.2.1, iI (z.2.2.2 : Int)], fun z => NetOk z.1 z.2.1 ∧ z.2.2.1.length = z.1 ∧ z.2.2.2 ≤ 1000, fun z => .v (rInts K (rndG z.2.1 z.2.2.2 z.2.2.1))⟩
theorem h_rounds (T : Txt K mg) : Has P w K mg base 5 "rounds" (F_rounds K) := by
  refine has_df T.d_rounds sc_rounds b_rounds rfl (fun _ => rfl) (k := 4) ?_
  intro f cdv A outer s H E z B L D hr hp hM q hN
  obtain ⟨n, gs, xs, m⟩ := z
  refine w_ret (r := .v (rInts K (rndG gs m xs))) (e_ixL (e_call (h_passed T) hr (n, gs, xs, m) (a_cons (e_var 0) (a2 (e_var 1) (e_var 2))) hp).lst (e_negP (C := fun z => z = -1) e_int fun x h => by rw [h]) ?_).r hM q
  show atI ((passG gs m xs).map (rInts K)) (-1) = _
  unfold passG
  rw [List.range_succ, List.map_append, List.map_append]
  exact atI_last _ _
end
end LT

set_option maxHeartbeats 2000000
namespace LT
open PySem PySem.Spec PyProof.Rows L2 Dl Mt ClX
section
variable {P : Program} {w : World} {K : PySem.W.Frag} {mg : Str → Option Value} {base : Heap}
/-! ### the pot -/
abbrev drawPs : List Str := ["_law_pot_here", "_law_size"]
theorem h_draw (T : Txt K mg) : Has P w K mg base 1 "_law_draw" (F_draw drawPs) := by
  obtain ⟨f, fd, F, hm⟩ := T.d_Ldraw
  refine ⟨f, fd, hm, F.kp, F.bindsN b_Ldraw, fnOk_draw rfl (fnOk_ofV (F := draw1 drawPs) (N := N_Ldraw) (k := 0) F sc_Ldraw (fun _ => rfl) (by decide) ?_)⟩
  intro cdv A outer s H E m p B L D hr hp hR
  replace hp : 0 < m ∧ m < 1073741824 := hp
  have fin : ∀ (D' : Ends) (hD : D'.rt = D.rt) (X : Cx) (Rs : List RV) (es : List Ent) (e : Expr) (pos : Pos) (rest : List Stmt), (∀ G a o, (oL Rs).r G a o → (oL potRs).r G a o) → Ev X e (.mu (oT (fun a => a = p ∧ True) Rs) :: es) (rInt fun d => 0 ≤ d ∧ d < m) → Wp X B L (.Return (some e) pos :: rest) D' (.mu (oT (fun a => a = p ∧ True) Rs) :: es) := fun D' hD X Rs es e pos rest h1 h2 =>
    w_retV (O := oL Rs) (fun v σ G' H' sl O a b c d => by rw [hD]; exact hR v σ G' H' sl O a b c d) h2 (by rw [tie_oT]; rfl) h1
  show Wp _ B L _ D (.mu (tie p (oL potRs)) :: _)
  rw [show tie p (oL potRs) = oT (fun a => a = p ∧ True) potRs from tie_oT]
  show Wp _ B L _ D [.mu (oT (fun a => a = p ∧ True) [rInt fun x => 0 ≤ x, rInt fun y => 0 ≤ y ∧ y < 4294967296]), .val (iI m), .no]
  refine w_if (P := fun _ => True) (t_gtP (e_ixO 0 rfl e_int rfl) e_int fun _ _ _ _ => trivial) (fun _ => ?_) (fun _ => w_end ?_)
  · refine w_unSub 0 2 (j := 0) (R1 := rInt fun x => 0 ≤ x) (R2 := rInt fun d => 0 ≤ d ∧ d < m) rfl sc_Ldraw.nd rfl (e_divmodP (e_ixO 0 rfl e_int rfl) (e_var 1) (T.f "divmod") ?_) e_int (by decide) ?_
    · rintro x y h1 rfl
      exact ⟨hp, Int.ediv_nonneg h1 (by omega), Int.emod_nonneg _ (by omega), Int.emod_lt_of_pos _ hp.1⟩
    · refine fin _ (by rfl) _ _ _ _ _ _ (fun G a o h => h) ?_
      exact e_var 2
  · refine w_store 0 rfl (j := 1) (R := rInt fun y => 0 ≤ y ∧ y < 4294967296) (e_modP (e_int1 (e_addP (C := fun z => 0 ≤ z) (e_mulP (C := fun z => 0 ≤ z) (e_ixO 0 rfl e_int rfl) e_int ?_) e_int ?_) (T.f "int")) e_int ?_) e_int (by decide) ?_
    · rintro x y ⟨h1, h2⟩ rfl
      exact ⟨.inr ⟨by decide, by decide⟩, Int.mul_nonneg h1 (by decide)⟩
    · rintro x y h1 rfl
      omega
    · rintro x y h1 rfl
      exact ⟨by decide, Int.emod_nonneg _ (by decide), Int.lt_trans (Int.emod_lt_of_pos _ (by decide)) (by decide)⟩
    · refine fin _ (by rfl) _ _ _ _ _ _ (fun G a o h => h) ?_
      refine e_modP (A := fun z => True) (e_int1 (e_divP (C := fun _ => True) (e_modP (C := fun _ => True) (e_int1 (e_mulP (C := fun _ => True) (e_ixO 0 rfl e_int rfl) (e_ixO 0 rfl e_int rfl) ?_) (T.f "int")) e_int ?_) e_int ?_) (T.f "int")) (e_var 1) ?_
      · rintro x y ⟨h1, h2⟩ ⟨h3, h4⟩
        exact ⟨.inr ⟨by omega, by omega⟩, trivial⟩
      · rintro x y _ rfl
        exact ⟨by decide, trivial⟩
      · rintro x y _ rfl
        exact ⟨⟨by decide, by decide⟩, trivial⟩
      · rintro x y _ rfl
        exact ⟨hp.1, Int.emod_nonneg _ (by omega), Int.emod_lt_of_pos _ hp.1⟩
def F_pot (K : PySem.W.Frag) : Fn (List Int × Nat) := ⟨["_law_script", "_law_k"], fun z => [rInts K z.1, iI (z.2 : Int)], fun z => z.2 < 10, fun _ => .v iPot⟩
theorem h_pot (T : Txt K mg) : Has P w K mg base 1 "_law_pot" (F_pot K) := by
  obtain ⟨f, fd, F, hm⟩ := T.d_Lpot
  refine ⟨f, fd, hm, F.kp, F.bindsN b_Lpot, fnOk_mkpot (fnOk_of (F := ⟨["_law_script", "_law_k"], fun (z : List Int × Nat) => [rInts K z.1, iI (z.2 : Int)], fun z => z.2 < 10, fun _ => .l potRs⟩) (N := N_Lpot) (k := 0) F sc_Lpot (fun _ => rfl) ?_)⟩
  intro cdv A outer s H E z B L D hr hp hM q hN
  obtain ⟨xs, k⟩ := z
  replace hp : k < 10 := hp
  show Wp _ B L _ D [.val (rInts K xs), .val (iI (k : Int)), .no]
  refine w_set 2 (R := rInt fun x => 0 ≤ x) (e_if (P := fun z => z = decide (k < xs.length)) (t_ltP (e_var 1) (e_lenL (e_var 0) (T.f "len")) ?_) (fun h => ?_) (fun _ => ?_)) sc_Lpot.nd ?_
  · rintro x y rfl rfl
    rw [List.length_map, decide_eq_decide]
    omega
  · have hk : k < xs.length := of_decide_eq_true h.symm
    refine e_abs (e_ixL (e_var 0) (e_var 1) (atI_int hk)) (T.f "abs") fun x _ => ?_
    split <;> omega
  · refine e_addP (C := fun z => 0 ≤ z) (e_mulP (C := fun z => 0 ≤ z) e_int (e_var 1) ?_) e_int ?_
    · rintro x y rfl rfl
      exact ⟨.inl ⟨by decide, by decide⟩, by omega⟩
    · rintro x y h rfl
      omega
  · refine w_ret (r := .l potRs) (e_lst (a2 (e_max2 rfl e_int (e_subP (C := fun _ => True) (e_var 2) (e_powP (C := fun _ => True) e_int e_int ?_) fun _ _ _ _ => trivial) (T.f "max") ?_) (e_addP (A := fun z => 0 ≤ z ∧ z < 2147483648) (e_modP (A := fun _ => True) (e_int1 (e_addP (C := fun _ => True) (e_addP (C := fun _ => True) (e_mulP (C := fun _ => True) (e_modP (C := fun _ => True) (e_int1 (e_var 2) (T.f "int")) e_int ?_) e_int ?_) (e_mulP (C := fun _ => True) e_int (e_var 1) ?_) fun _ _ _ _ => trivial) e_int fun _ _ _ _ => trivial) (T.f "int")) e_int ?_) e_int ?_)) (by show 2 ≤ 100000; decide)) hM q
    · rintro x y rfl rfl
      exact ⟨⟨by decide, by decide, by decide⟩, trivial⟩
    · rintro x y rfl _
      split <;> omega
    · rintro x y _ rfl
      exact ⟨by decide, trivial⟩
    · rintro x y _ rfl
      exact ⟨.inr ⟨by decide, by decide⟩, trivial⟩
    · rintro x y rfl _
      exact ⟨.inl ⟨by decide, by decide⟩, trivial⟩
    · rintro x y _ rfl
      exact ⟨by decide, Int.emod_nonneg _ (by decide), Int.lt_trans (Int.emod_lt_of_pos _ (by decide)) (by decide)⟩
    · rintro x y ⟨h1, h2⟩ rfl
      omega
end
end LT

set_option maxHeartbeats 2000000
namespace LT
open PySem PySem.Spec PyProof.Rows L2 Dl Mt ClX
section
variable {P : Program} {w : World} {K : PySem.W.Frag} {mg : Str → Option Value} {base : Heap}
/-- one of a list's items -/
def F_pick (K : PySem.W.Frag) : Fn (List RV × RV) := ⟨["_law_pot_here", "_law_some"], fun z => [iPot, rLst K z.1], fun z => 0 < z.1.length ∧ z.1.length < 1000 ∧ ∀ R ∈ z.1, R.le z.2, fun z => .v z.2⟩
theorem h_pick (T : Txt K mg) : Has P w K mg base 2 "_law_pick" (F_pick K) := by
  refine has_df T.d_Lpick sc_Lpick b_Lpick rfl (fun _ => rfl) (k := 1) ?_
  intro f cdv A outer s H E z B L D hr hp hM q hN
  obtain ⟨Rs, R⟩ := z
  obtain ⟨h1, h2, h3⟩ := hp
  replace h1 : 0 < Rs.length := h1
  replace h2 : Rs.length < 1000 := h2
  replace h3 : ∀ R' ∈ Rs, R'.le R := h3
  refine w_ret (r := .v R) (e_ixLP (e_var 1) (e_call (h_draw T) hr (Rs.length : Int) (a2 (e_var 0) (e_lenL (e_var 1) (T.f "len"))) ⟨by omega, by omega⟩).v ?_).r hM q
  rintro i ⟨i0, i1⟩
  obtain ⟨j, rfl⟩ : ∃ j : Nat, i = (j : Int) := ⟨i.toNat, by omega⟩
  have hj : j < Rs.length := by omega
  exact ⟨Rs[j], atI_nat (List.getElem?_eq_getElem hj), h3 _ (List.getElem_mem hj)⟩
theorem lT {C : Int → Prop} : (rInt C).le (rInt fun _ => True) := le_int fun _ _ => trivial
theorem lk {n : Nat} (k : Mt.Kind) (h : n ≤ 1 → k = .add) : (iS k.wd).le (rX (fun k : Mt.Kind => n ≤ 1 → k = .add) fun k => iS k.wd) := le_in (R := fun k : Mt.Kind => iS k.wd) (x := k) h
theorem le_nil {Q : RV} : ∀ R ∈ ([] : List RV), R.le Q := fun R h => nomatch h
theorem le_cons {a Q : RV} {as : List RV} (h : a.le Q) (k : ∀ R ∈ as, R.le Q) : ∀ R ∈ a :: as, R.le Q := fun R hR => by
  cases hR with
  | head => exact h
  | tail _ hR => exact k R hR
/-- a gate of so many lanes -/
def F_gate (K : PySem.W.Frag) : Fn Nat := ⟨["_law_pot_here", "_law_lanes"], fun n => [iPot, iI (n : Int)], fun n => 1 ≤ n ∧ n ≤ 12, fun n => .v (rX (fun g : Gate => g.Ok n) (iG K))⟩
theorem h_gate (T : Txt K mg) : Has P w K mg base 3 "_law_gate" (F_gate K) := by
  refine has_df T.d_Lgate sc_Lgate b_Lgate rfl (fun _ => rfl) (k := 2) ?_
  intro f cdv A outer s H E n B L D hr hp hM q hN
  obtain ⟨n1, n2⟩ := hp
  replace n1 : 1 ≤ n := n1
  replace n2 : n ≤ 12 := n2
  show Wp _ B L _ D [.val iPot, .val (iI (n : Int)), .no, .no]
  refine w_setX 2 (P := fun k : Mt.Kind => n ≤ 1 → k = .add) (R := fun k => iS k.wd) (e_if (P := fun z => z = decide (1 < n)) (t_gtP (e_var 1) e_int ?_) (fun h => ?_) (fun h => ?_)) sc_Lgate.nd ?_
  · rintro x y rfl rfl
    rw [decide_eq_decide]
    omega
  · have hn : 1 < n := of_decide_eq_true h.symm
    exact (e_call (h_pick T) hr ([iS "low", iS "high", iS "sort", iS "copy", iS "add"], rX (fun k : Mt.Kind => n ≤ 1 → k = .add) fun k => iS k.wd) (a2 (e_var 0) (e_lst (a_cons e_str (a_cons e_str (a_cons e_str (a2 e_str e_str)))) (by show 5 ≤ 100000; decide)).lst) ⟨by show 0 < 5; decide, by show 5 < 1000; decide, le_cons (lk .low fun h => absurd hn (Nat.not_lt.mpr h)) (le_cons (lk .high fun h => absurd hn (Nat.not_lt.mpr h)) (le_cons (lk .sort fun h => absurd hn (Nat.not_lt.mpr h)) (le_cons (lk .copy fun h => absurd hn (Nat.not_lt.mpr h)) (le_cons (lk .add fun _ => rfl) le_nil))))⟩).v
  · exact e_str.imp (lk .add fun _ => rfl)
  · intro k hk
    refine w_setX 3 (EvR.ofI (e_call (h_draw T) (hr.mono (by decide)) (n : Int) (a2 (e_var 0) (e_var 1)) ⟨by omega, by omega⟩).v) sc_Lgate.nd ?_
    rintro d ⟨d0, d1⟩
    obtain ⟨a, rfl⟩ : ∃ a : Nat, d = (a : Int) := ⟨d.toNat, by omega⟩
    refine w_if (t_wd (l := .add) (e_var 2) e_str) (fun h => ?_) (fun h => w_end ?_)
    · refine w_ret (r := .v _) (Ev.imp (e_tup (a_cons e_str (a2 (e_var 3) (e_call (h_pick T) hr ([rInt _, rInt _, rInt _, rInt _, rInt _, rInt _, rInt _], rInt fun _ => True) (a2 (e_var 0) (e_lst (a_cons e_int (a_cons e_int (a_cons (e_negP (C := fun z => z = -1) e_int fun x h => by rw [h]) (a_cons e_int (a_cons (e_negP (C := fun z => z = -9) e_int fun x h => by rw [h]) (a2 e_int (e_powP (C := fun z => z = 10 ^ 20) e_int e_int fun x y h1 h2 => by rw [h1, h2]; exact ⟨⟨by decide, by decide, by decide⟩, rfl⟩))))))) (by show 7 ≤ 100000; decide)).lst) ⟨by show 0 < 7; decide, by show 7 < 1000; decide, le_cons lT (le_cons lT (le_cons lT (le_cons lT (le_cons lT (le_cons lT (le_cons lT le_nil))))))⟩).v)) (by show 3 ≤ 100000; decide)) ?_).r hM q
      · rintro G v ⟨l, vs, e, h1, h2⟩
        cases h2 with
        | cons k1 h2 => cases h2 with
          | cons k2 h2 => cases h2 with
            | cons k3 h2 =>
              obtain ⟨b, eb, _⟩ := k3
              refine ⟨⟨.add, a, b⟩, ⟨by show a < n; omega, fun z => absurd rfl z⟩, l, _, e, h1, .cons k1 (.cons k2 (.cons ⟨b, eb, rfl⟩ h2))⟩
    · have hk2 : k ≠ .add := of_decide_eq_false h.symm
      have hn : 1 < n := by
        by_cases z : n ≤ 1
        · exact absurd (hk z) hk2
        · omega
      refine w_ret (r := .v _) (Ev.imp (e_tup (a_cons (e_var 2) (a2 (e_var 3) (e_modP (C := fun b => 0 ≤ b ∧ b < n ∧ (a : Int) ≠ b) (e_int1 (e_addP (C := fun z => (a : Int) + 1 ≤ z ∧ z < a + n) (e_addP (C := fun z => z = (a : Int) + 1) (e_var 3) e_int fun x y h1 h2 => by rw [h1, h2]) (e_call (h_draw T) (hr.mono (by decide)) ((n : Int) - 1) (a2 (e_var 0) (e_subP (C := fun z => z = (n : Int) - 1) (e_var 1) e_int fun x y h1 h2 => by rw [h1, h2])) ⟨by omega, by omega⟩).v ?_) (T.f "int")) (e_var 1) ?_))) (by show 3 ≤ 100000; decide)) ?_).r hM q
      · rintro x y rfl ⟨y0, y1⟩
        omega
      · rintro x y ⟨x0, x1⟩ rfl
        refine ⟨by omega, Int.emod_nonneg _ (by omega), Int.emod_lt_of_pos _ (by omega), ?_⟩
        by_cases c : x < n
        · rw [Int.emod_eq_of_lt (by omega) c]; omega
        · have e : x % n = x - n := by
            rw [← Int.sub_emod_right]
            exact Int.emod_eq_of_lt (by omega) (by omega)
          rw [e]; omega
      · rintro G v ⟨l, vs, e, h1, h2⟩
        cases h2 with
        | cons k1 h2 => cases h2 with
          | cons k2 h2 => cases h2 with
            | cons k3 h2 =>
              obtain ⟨b, eb, hb⟩ := k3
              exact ⟨⟨k, a, b⟩, ⟨by show a < n; omega, fun _ => hb⟩, l, _, e, h1, .cons k1 (.cons k2 (.cons ⟨b, eb, rfl⟩ h2))⟩
end
end LT

set_option maxHeartbeats 2000000
namespace LT
open PySem PySem.Spec PyProof.Rows L2 Dl Mt ClX
section
variable {P : Program} {w : World} {K : PySem.W.Frag} {mg : Str → Option Value} {base : Heap}
theorem Paired.right {α β : Type} {F : α → β → Prop} : ∀ {xs : List α} {ys : List β}, Paired F xs ys → ∀ y ∈ ys, ∃ x, x ∈ xs ∧ F x y
  | _, _, .nil, y, h => nomatch h
  | x :: xs, z :: ys, .cons a t, y, h => by
    rcases List.mem_cons.mp h with e | h
    · subst e; exact ⟨x, List.mem_cons_self .., a⟩
    · obtain ⟨x', h1, h2⟩ := Paired.right t y h
      exact ⟨x', List.mem_cons_of_mem _ h1, h2⟩
theorem e_pw {X : Cx} {sl : List Ent} {a b : Expr} {pos : Pos} {c n r : Int} (ha : Ev X a sl (iI c)) (hb : Ev X b sl (iI n)) (h : CPow c n) (hr : c ^ n.toNat = r) : Ev X (.BinOp a .Pow b pos) sl (iI r) := e_powP ha hb fun x y h1 h2 => by rw [h1, h2]; exact ⟨h, hr⟩
theorem lG {c : Int} {C : Int → Prop} (h : C c) : (iI c).le (rInt C) := le_int fun z e => by rw [e]; exact h
/-- so many gates -/
def F_Lgates (K : PySem.W.Frag) : Fn (Nat × Nat) := ⟨["_law_pot_here", "_law_lanes", "_law_most"], fun z => [iPot, iI (z.1 : Int), iI (z.2 : Int)], fun z => 1 ≤ z.1 ∧ z.1 ≤ 12 ∧ z.2 ≤ 400, fun z => .x (fun gs : List Gate => gs.length ≤ z.2 ∧ ∀ g ∈ gs, g.Ok z.1) fun gs => .l (gs.map (iG K))⟩
theorem h_Lgates (T : Txt K mg) : Has P w K mg base 4 "_law_gates" (F_Lgates K) := by
  refine has_df T.d_Lgates sc_Lgates b_Lgates rfl (fun _ => rfl) (k := 3) ?_
  intro f cdv A outer s H E z B L D hr hp hM q hN
  obtain ⟨n, m⟩ := z
  obtain ⟨n1, n2, n3⟩ := hp
  replace n1 : 1 ≤ n := n1
  replace n2 : n ≤ 12 := n2
  replace n3 : m ≤ 400 := n3
  show Wp _ B L _ D [.val iPot, .val (iI (n : Int)), .val (iI (m : Int)), .no]
  refine w_ret (EvR.ximp (EvR.opensX (P := fun _ _ g => g.Ok n) (R := iG K) (e_compRX 3 (fun _ _ => rX (fun g : Gate => g.Ok n) (iG K)) sc_Lgates.nd (e_call (h_draw T) (hr.mono (by decide)) ((m : Int) + 1) (a2 (e_var 0) (e_addP (C := fun z => z = (m : Int) + 1) (e_var 2) e_int fun x y h1 h2 => by rw [h1, h2])) ⟨by omega, by omega⟩).v (fun d hd => ⟨hd.1, by have := hd.2; omega⟩) (T.f "range") fun d i hd hi s H C cl fp => ?_) fun _ _ _ _ => fun G v h => h) ?_) hM q
  · exact (e_call (h_gate T) hr n (a2 (e_var 0) (e_var 1)) ⟨n1, n2⟩).v
  · rintro gs ⟨d, ⟨d0, d1⟩, pr⟩
    have hl := Paired.length pr
    rw [List.length_range] at hl
    refine ⟨by show gs.length ≤ m; omega, fun g hg => ?_⟩
    obtain ⟨_, _, h⟩ := Paired.right pr g hg
    exact h
/-- a content of so many lanes -/
def F_Lcontent (K : PySem.W.Frag) : Fn Nat := ⟨["_law_pot_here", "_law_lanes"], fun n => [iPot, iI (n : Int)], fun n => n ≤ 12, fun n => .x (fun xs : List Int => xs.length = n) fun xs => .l (xs.map iI)⟩
theorem h_Lcontent (T : Txt K mg) : Has P w K mg base 3 "_law_content" (F_Lcontent K) := by
  refine has_df T.d_Lcontent sc_Lcontent b_Lcontent rfl (fun _ => rfl) (k := 2) ?_
  intro f cdv A outer s H E n B L D hr hp hM q hN
  replace hp : n ≤ 12 := hp
  show Wp _ B L _ D [.val iPot, .val (iI (n : Int)), .no, .no]
  refine w_setX 2 (P := fun k : Int => 1 ≤ k) (R := iI) (EvR.ofI (e_call (h_pick T) hr ([rInt _, rInt _, rInt _, rInt _, iI 100000000000000000000000000000], rInt fun k => 1 ≤ k) (a2 (e_var 0) (e_lst (a_cons e_int (a_cons e_int (a_cons e_int (a2 e_int ?pw)))) (by show 5 ≤ 100000; decide)).lst) ⟨by show 0 < 5; decide, by show 5 < 1000; decide, le_cons (lG (by decide)) (le_cons (lG (by decide)) (le_cons (lG (by decide)) (le_cons (lG (by decide)) (le_cons (lG (by decide)) le_nil))))⟩).v) sc_Lcontent.nd ?_
  case pw => exact e_pw (c := 10) (n := 29) (r := 100000000000000000000000000000) e_int e_int ⟨by decide, by decide, by decide⟩ (by decide +kernel)
  intro k hk
  refine w_if (t_gtP (P := fun z => z = decide (30 < k)) (e_var 2) e_int fun x y h1 h2 => by rw [h1, h2]) (fun h => ?_) (fun h => w_end ?_)
  · refine w_ret (EvR.ximp (EvR.opens (P := fun _ _ => True) (R := iI) (e_compR 3 (fun _ => rInt fun _ => True) sc_Lcontent.nd (e_var 1) (by omega) (by omega) (T.f "range") fun i hi s H C cl fp => ?_) fun _ _ => le_xi) ?_) hM q
    · exact e_subP (e_addP (C := fun _ => True) (e_mulP (C := fun _ => True) (e_subP (C := fun x => -1 ≤ x ∧ x ≤ 1) (e_call (h_draw T) (hr.mono (by decide)) 3 (a2 (e_var 0) e_int) ⟨by decide, by decide⟩).v e_int fun x y h1 h2 => by rw [h2]; omega) (e_var 2) fun x y h1 h2 => ⟨.inl ⟨by omega, by omega⟩, trivial⟩) (e_call (h_draw T) (hr.mono (by decide)) 9 (a2 (e_var 0) e_int) ⟨by decide, by decide⟩).v fun _ _ _ _ => trivial) e_int fun _ _ _ _ => trivial
    · intro xs pr
      have hl := Paired.length pr
      rw [List.length_range] at hl
      show xs.length = n
      omega
  · have k30 : k ≤ 30 := by have := of_decide_eq_false h.symm; omega
    refine w_ret (EvR.ximp (EvR.opens (P := fun _ _ => True) (R := iI) (e_compR 3 (fun _ => rInt fun _ => True) sc_Lcontent.nd (e_var 1) (by omega) (by omega) (T.f "range") fun i hi s H C cl fp => ?_) fun _ _ => le_xi) ?_) hM q
    · exact e_subP (e_call (h_draw T) (hr.mono (by decide)) (2 * k) (a2 (e_var 0) (e_mulP (C := fun z => z = 2 * k) e_int (e_var 2) fun x y h1 h2 => by rw [h1, h2]; exact ⟨.inl ⟨by decide, by decide⟩, rfl⟩)) ⟨by omega, by omega⟩).v (e_var 2) fun _ _ _ _ => trivial
    · intro xs pr
      have hl := Paired.length pr
      rw [List.length_range] at hl
      show xs.length = n
      omega
/-- numbers, none below its fellow -/
def F_Labove (K : PySem.W.Frag) : Fn (List Int) := ⟨["_law_pot_here", "_law_content_here"], fun xs => [iPot, rInts K xs], fun xs => xs.length ≤ 12, fun xs => .x (fun ys : List Int => Paired (fun x y => x ≤ y) xs ys) fun ys => .l (ys.map iI)⟩
theorem h_Labove (T : Txt K mg) : Has P w K mg base 3 "_law_above" (F_Labove K) := by
  refine has_df T.d_Labove sc_Labove b_Labove rfl (fun _ => rfl) (k := 2) ?_
  intro f cdv A outer s H E xs B L D hr hp hM q hN
  replace hp : xs.length ≤ 12 := hp
  show Wp _ B L _ D [.val iPot, .val (rInts K xs), .no]
  refine w_ret (EvR.opens (P := fun x y : Int => x ≤ y) (R := iI) (e_compL 2 (fun x => rInt fun y => x ≤ y) sc_Labove.nd (e_var 1) (by omega) fun x hx s H C cl fp => ?_) fun _ _ => le_xi) hM q
  refine e_addP (e_var 2) (e_call (h_pick T) hr ([rInt _, rInt _, rInt _, rInt _, rInt _, iI 1000000000], rInt fun k => 0 ≤ k) (a2 (e_var 0) (e_lst (a_cons e_int (a_cons e_int (a_cons e_int (a_cons e_int (a2 e_int ?pw))))) (by show 6 ≤ 100000; decide)).lst) ⟨by show 0 < 6; decide, by show 6 < 1000; decide, le_cons (lG (by decide)) (le_cons (lG (by decide)) (le_cons (lG (by decide)) (le_cons (lG (by decide)) (le_cons (lG (by decide)) (le_cons (lG (by decide)) le_nil)))))⟩).v ?_
  case pw => exact e_pw (c := 10) (n := 9) (r := 1000000000) e_int e_int ⟨by decide, by decide, by decide⟩ (by decide +kernel)
  intro a b h1 h2
  rw [h1]
  omega
/-- by how much at most -/
def F_Llead (K : PySem.W.Frag) : Fn (List Int × List Int) := ⟨["_law_near", "_law_far"], fun z => [rInts K z.1, rInts K z.2], fun z => Cont z.1 ∧ z.2.length = z.1.length, fun z => .v (iI (leadF z.1 z.2))⟩
theorem h_Llead (T : Txt K mg) : Has P w K mg base 1 "_law_lead" (F_Llead K) := by
  refine has_df T.d_Llead sc_Llead b_Llead rfl (fun _ => rfl) (k := 0) ?_
  intro f cdv A outer s H E z B L D hr hp hM q hN
  refine w_ret (r := .v (iI (leadF z.1 z.2))) (e_maxL (ns := List.zipWith (fun a b => a - b) z.1 z.2) (C := fun m => m = _) rfl ?_ (T.f "max") ?_ fun m h1 h2 => maxF_eq h1 h2) hM q
  · unfold rInts
    rw [← zw_iI]
    refine (e_compZ 2 3 _ sc_Llead.nd (e_var 0) (e_var 1) (by have := hp.1.2; omega) (T.f "zip") fun i x y h1 h2 s H C cl fp => ?_).lst
    exact e_subP (e_var 2) (e_var 3) fun a b h1 h2 => by rw [h1, h2]
  · rw [List.length_zipWith]
    have := hp.1.1
    have := hp.2
    omega
end
end LT

set_option maxHeartbeats 2000000
namespace LT
open PySem PySem.Spec PyProof.Rows L2 Dl Mt ClX
section
variable {P : Program} {w : World} {K : PySem.W.Frag} {mg : Str → Option Value} {base : Heap}
theorem NetOk.len {n : Nat} {gs : List Gate} (ok : NetOk n gs) {xs : List Int} (h : xs.length = n) : ∀ g ∈ gs, g.Ok xs.length := by rw [h]; exact ok.ok
theorem NetOk.ct {n : Nat} {gs : List Gate} (ok : NetOk n gs) {xs : List Int} (h : xs.length = n) : Cont xs := ⟨by have := ok.n1; omega, by have := ok.n2; omega⟩
/-- what lies below stays below -/
def F_Lrising (K : PySem.W.Frag) : Fn (Nat × List Gate × List Int × List Int) := ⟨["_law_net", "_law_low", "_law_high"], fun z => [iNet K z.1 z.2.1, rInts K z.2.2.1, rInts K z.2.2.2], fun z => NetOk z.1 z.2.1 ∧ z.2.2.1.length = z.1 ∧ LeC 0 z.2.2.1 z.2.2.2, fun _ => .v (iB true)⟩
theorem h_Lrising (T : Txt K mg) : Has P w K mg base 6 "_law_rising_right" (F_Lrising K) := by
  refine has_df T.d_Lrising_right sc_Lrising_right b_Lrising_right rfl (fun _ => rfl) (k := 5) ?_
  intro f cdv A outer s H E z B L D hr hp hM q hN
  obtain ⟨n, gs, xs, ys⟩ := z
  obtain ⟨ok, hl, le⟩ := hp
  replace ok : NetOk n gs := ok
  replace hl : xs.length = n := hl
  replace le : LeC 0 xs ys := le
  have hl2 : ys.length = n := by rw [← le.1]; exact hl
  show Wp _ B L _ D [.val (iNet K n gs), .val (rInts K xs), .val (rInts K ys), .no, .no]
  refine w_ifNot (t_not (t_val (e_call (h_is_at_most T) hr (xs, ys) (a2 (e_var 1) (e_var 2)) ⟨ok.ct hl, le.1.symm⟩).v)) (fun h => ?_) ?_
  · rw [all_le le] at h; cases h
  refine w_forZ 3 4 sc_Lrising_right.nd (e_call (h_contents T) (hr.mono (by decide)) (n, gs, xs) (a2 (e_var 0) (e_var 1)) ⟨ok, hl⟩).lst (e_call (h_contents T) (hr.mono (by decide)) (n, gs, ys) (a2 (e_var 0) (e_var 2)) ⟨ok, hl2⟩).lst (T.f "zip") (fun i sl => ∃ a b, sl = [.val (iNet K n gs), .val (rInts K xs), .val (rInts K ys), a, b]) ⟨_, _, rfl⟩ ?_ ?_
  · rintro i r r' L' sl' h1 h2 ⟨a, b, rfl⟩
    obtain ⟨e1, _⟩ := contG_at h1
    obtain ⟨e2, _⟩ := contG_at h2
    have le2 : LeC 0 r r' := by rw [e1, e2]; exact runG_take_le (ok.len hl) le i
    have hr1 : r.length = n := by rw [e1, runG_len]; exact hl
    refine w_ifNot (t_not (t_val (e_call (h_is_at_most T) hr (r, r') (a2 (e_var 3) (e_var 4)) ⟨ok.ct hr1, le2.1.symm⟩).v)) (fun h => ?_) ?_
    · rw [all_le le2] at h; cases h
    · exact w_turn' ⟨_, _, rfl⟩
  · rintro sl' ⟨a, b, rfl⟩
    have le7 := rndG_le (ok.len hl) le 7
    refine w_ret (r := .v (iB true)) (Ev.bool (e_call (h_is_at_most T) hr (rndG gs 7 xs, rndG gs 7 ys) (a2 (e_call (h_rounds T) hr (n, gs, xs, 7) (a_cons (e_var 0) (a2 (e_var 1) e_int)) ⟨ok, hl, by show 7 ≤ 1000; decide⟩).v (e_call (h_rounds T) hr (n, gs, ys, 7) (a_cons (e_var 0) (a2 (e_var 2) e_int)) ⟨ok, hl2, by show 7 ≤ 1000; decide⟩).v) ⟨ok.ct (by rw [rndG_len]; exact hl), le7.1.symm⟩).v fun z h => ?_) hM q
    rw [h]
    exact all_le le7
/-- no farther apart -/
def F_Lapart (K : PySem.W.Frag) : Fn (Nat × List Gate × List Int × List Int) := ⟨["_law_net", "_law_one", "_law_other"], fun z => [iNet K z.1 z.2.1, rInts K z.2.2.1, rInts K z.2.2.2], fun z => NetOk z.1 z.2.1 ∧ z.2.2.1.length = z.1 ∧ z.2.2.2.length = z.1, fun _ => .v (iB true)⟩
theorem h_Lapart (T : Txt K mg) : Has P w K mg base 6 "_law_apart_right" (F_Lapart K) := by
  refine has_df T.d_Lapart_right sc_Lapart_right b_Lapart_right rfl (fun _ => rfl) (k := 5) ?_
  intro f cdv A outer s H E z B L D hr hp hM q hN
  obtain ⟨n, gs, xs, ys⟩ := z
  obtain ⟨ok, hl, hl2⟩ := hp
  replace ok : NetOk n gs := ok
  replace hl : xs.length = n := hl
  replace hl2 : ys.length = n := hl2
  have n1 := ok.n1
  have few := ok.few
  have hxy : xs.length = ys.length := by omega
  have f1 := farF_ge hxy
  have l1 := leadF_ge hxy
  have l2 := leadF_ge hxy.symm
  show Wp _ B L _ D [.val (iNet K n gs), .val (rInts K xs), .val (rInts K ys), .no, .no, .no, .no, .no]
  refine w_par 3 4 rfl sc_Lapart_right.nd (e_call (h_contents T) (hr.mono (by decide)) (n, gs, xs) (a2 (e_var 0) (e_var 1)) ⟨ok, hl⟩).lst (e_call (h_contents T) (hr.mono (by decide)) (n, gs, ys) (a2 (e_var 0) (e_var 2)) ⟨ok, hl2⟩).lst ?_
  refine w_forE 5 6 sc_Lapart_right.nd (e_var 3) (T.f "enumerate") (fun i sl => ∃ a b c, sl = [.val (iNet K n gs), .val (rInts K xs), .val (rInts K ys), .val (rLst K ((contG gs xs).map (rInts K))), .val (rLst K ((contG gs ys).map (rInts K))), a, b, c]) ⟨_, _, _, rfl⟩ ?_ ?_
  · rintro i r L' sl' h1 ⟨a, b, c, rfl⟩
    obtain ⟨e1, hi⟩ : r = runG (gs.take i) xs ∧ i ≤ gs.length := contG_at h1
    have hr1 : r.length = n := by rw [e1, runG_len]; exact hl
    obtain ⟨r', h2⟩ : ∃ r', (contG gs ys)[i]? = some r' := ⟨_, List.getElem?_eq_getElem (by rw [contG_len]; omega)⟩
    obtain ⟨e2, _⟩ := contG_at h2
    have hr2 : r'.length = n := by rw [e2, runG_len]; exact hl2
    have c1 : Cont xs := ok.ct hl
    have c2 : Cont ys := ok.ct hl2
    have d1 : Cont r := ok.ct hr1
    have d2 : Cont r' := ok.ct hr2
    have q1 : r'.length = r.length := by omega
    have q0 : 0 < r.length := by omega
    have q2 : 0 < r'.length := by omega
    refine w_set 7 (R := rInts K r') (e_ixLP (e_var 4) (e_var 5) fun j hj => ?_) sc_Lapart_right.nd ?_
    · subst hj
      exact ⟨rInts K r', atI_nat (by rw [List.getElem?_map, h2]; rfl), fun _ _ h => h⟩
    refine w_ifNot (t_or (t_gtP (P := fun z => z = false) (e_call (h_farthest T) hr (r, r') (a2 (e_var 6) (e_var 7)) ⟨d1, q1⟩).v (e_call (h_farthest T) hr (xs, ys) (a2 (e_var 1) (e_var 2)) ⟨c1, hxy.symm⟩).v ?_) fun _ => t_or1 (t_gtP (P := fun z => z = false) (e_call (h_Llead T) (hr.mono (by decide)) (r, r') (a2 (e_var 6) (e_var 7)) ⟨d1, q1⟩).v (e_call (h_Llead T) (hr.mono (by decide)) (xs, ys) (a2 (e_var 1) (e_var 2)) ⟨c1, hxy.symm⟩).v ?_)).t (fun h => ?_) ?_
    · rintro u v rfl rfl
      have le3 := farF_le (c := farF xs ys) (xs := r) (ys := r') (by rw [e1, e2]; exact runG_take_le (ok.len hl) f1.1 i) (by rw [e1, e2]; exact runG_take_le (ok.len hl2) f1.2 i) q0
      exact decide_eq_false (Int.not_lt.mpr le3)
    · rintro u v rfl rfl
      have le3 := leadF_le (c := leadF xs ys) (xs := r) (ys := r') (by rw [e1, e2]; exact runG_take_le (ok.len hl) l1 i) q0
      exact decide_eq_false (Int.not_lt.mpr le3)
    · rcases h with ⟨_, h⟩ | ⟨h, _⟩ <;> cases h
    refine w_ifNot (t_gtP (P := fun z => z = false) (e_call (h_Llead T) (hr.mono (by decide)) (r', r) (a2 (e_var 7) (e_var 6)) ⟨d2, q1.symm⟩).v (e_call (h_Llead T) (hr.mono (by decide)) (ys, xs) (a2 (e_var 2) (e_var 1)) ⟨c2, hxy⟩).v ?_) (fun h => by cases h) ?_
    · rintro u v rfl rfl
      have le3 := leadF_le (c := leadF ys xs) (xs := r') (ys := r) (by rw [e1, e2]; exact runG_take_le (ok.len hl2) l2 i) q2
      exact decide_eq_false (Int.not_lt.mpr le3)
    · exact w_turn' ⟨_, _, _, rfl⟩
  · rintro sl' ⟨a, b, c, rfl⟩
    have g1 : (rndG gs 9 xs).length = n := by rw [rndG_len]; exact hl
    have g2 : (rndG gs 9 ys).length = n := by rw [rndG_len]; exact hl2
    have c1 : Cont xs := ok.ct hl
    have d1 : Cont (rndG gs 9 xs) := ok.ct g1
    have q1 : (rndG gs 9 ys).length = (rndG gs 9 xs).length := by omega
    have q0 : 0 < (rndG gs 9 xs).length := by omega
    refine w_par 6 7 rfl sc_Lapart_right.nd (e_call (h_rounds T) hr (n, gs, xs, 9) (a_cons (e_var 0) (a2 (e_var 1) e_int)) ⟨ok, hl, by show 9 ≤ 1000; decide⟩).v (e_call (h_rounds T) hr (n, gs, ys, 9) (a_cons (e_var 0) (a2 (e_var 2) e_int)) ⟨ok, hl2, by show 9 ≤ 1000; decide⟩).v ?_
    refine w_ret (r := .v (iB true)) (Ev.bool (e_and (e_leP (P := fun z => z = true) (e_call (h_farthest T) hr (rndG gs 9 xs, rndG gs 9 ys) (a2 (e_var 6) (e_var 7)) ⟨d1, q1⟩).v (e_call (h_farthest T) hr (xs, ys) (a2 (e_var 1) (e_var 2)) ⟨c1, hxy.symm⟩).v ?_) fun _ => e_one (e_leP (P := fun z => z = true) (e_call (h_Llead T) (hr.mono (by decide)) (rndG gs 9 xs, rndG gs 9 ys) (a2 (e_var 6) (e_var 7)) ⟨d1, q1⟩).v (e_call (h_Llead T) (hr.mono (by decide)) (xs, ys) (a2 (e_var 1) (e_var 2)) ⟨c1, hxy.symm⟩).v ?_)) ?_) hM q
    · rintro u v rfl rfl
      exact decide_eq_true (farF_le (rndG_le (ok.len hl) f1.1 9) (rndG_le (ok.len hl2) f1.2 9) q0)
    · rintro u v rfl rfl
      exact decide_eq_true (leadF_le (rndG_le (ok.len hl) l1 9) q0)
    · rintro z (⟨_, h⟩ | ⟨h, _⟩)
      · exact h
      · cases h
end
end LT

set_option maxHeartbeats 2000000
namespace LT
open PySem PySem.Spec PyProof.Rows L2 Dl Mt ClX
section
variable {P : Program} {w : World} {K : PySem.W.Frag} {mg : Str → Option Value} {base : Heap}
theorem hu1 {A : Around} {k : Nat} (hr : Room k A) : A.units + 1 < cLine := by have := hr.un; omega
/-- raised with it -/
def F_Lraised (K : PySem.W.Frag) : Fn (Nat × List Gate × List Int × Int) := ⟨["_law_net", "_law_content_here", "_law_number"], fun z => [iNet K z.1 z.2.1, rInts K z.2.2.1, iI z.2.2.2], fun z => NetOk z.1 z.2.1 ∧ z.2.2.1.length = z.1, fun _ => .v (iB true)⟩
theorem h_Lraised (T : Txt K mg) : Has P w K mg base 6 "_law_raised_right" (F_Lraised K) := by
  refine has_df T.d_Lraised_right sc_Lraised_right b_Lraised_right rfl (fun _ => rfl) (k := 5) ?_
  intro f cdv A outer s H E z B L D hr hp hM q hN
  obtain ⟨n, gs, xs, c⟩ := z
  obtain ⟨ok, hl⟩ := hp
  replace ok : NetOk n gs := ok
  replace hl : xs.length = n := hl
  have n1 := ok.n1
  have few := ok.few
  have hl2 : (xs.map (· + c)).length = n := by rw [List.length_map]; exact hl
  have hm : contG gs (xs.map (· + c)) = (contG gs xs).map (List.map (· + c)) := contG_map ⟨ok.len hl, .inr ⟨c, rfl⟩⟩
  have c1 : Cont xs := ok.ct hl
  have row : ∀ r ∈ contG gs xs, Cont r := fun r h => by
    obtain ⟨i, e⟩ := contG_row h
    exact ok.ct (by rw [e, runG_len]; exact hl)
  have row2 : ∀ r ∈ contG gs (xs.map (· + c)), Cont r := fun r h => by
    obtain ⟨i, e⟩ := contG_row h
    exact ok.ct (by rw [e, runG_len]; exact hl2)
  have cl1 : (contG gs xs).length ≤ 90000 := by rw [contG_len]; omega
  have cl2 : (contG gs (xs.map (· + c))).length ≤ 90000 := by rw [contG_len]; omega
  show Wp _ B L _ D [.val (iNet K n gs), .val (rInts K xs), .val (iI c), .no, .no, .no]
  refine w_par 3 4 rfl sc_Lraised_right.nd (e_call (h_contents T) (hr.mono (by decide)) (n, gs, xs) (a2 (e_var 0) (e_var 1)) ⟨ok, hl⟩).lst (e_call (h_contents T) (hr.mono (by decide)) (n, gs, xs.map (· + c)) (a2 (e_var 0) (e_call (h_raised T) (hr.mono (by decide)) (xs, c) (a2 (e_var 1) (e_var 2)) c1).lst) ⟨ok, hl2⟩).lst ?_
  show Wp _ B L _ D [.val (iNet K n gs), .val (rInts K xs), .val (iI c), .val (rLst K ((contG gs xs).map (rInts K))), .val (rLst K ((contG gs (xs.map (· + c))).map (rInts K))), .no]
  refine w_ifNot (t_or (t_neY (hu64 hr) (e_compL 5 (fun r => rInts K (r.map (· + c))) sc_Lraised_right.nd (e_var 3) cl1 fun r hx s H C cl fp => (e_call (h_raised T) (hr.mono (by decide)) (r, c) (a2 (e_var 5) (e_var 2)) (row r hx)).lst).lst (e_var 4) (py_lst fun r _ => py_I (r.map (· + c))) ?_ (sh_list (sh_map fun r _ => sh_I (r.map (· + c))))) fun _ => t_or1 (t_neY (hu64 hr) (e_compL 5 (fun r => iI (maxF r - minF r)) sc_Lraised_right.nd (e_var 3) cl1 fun r hx s H C cl fp => (e_call (h_spread T) (hr.mono (by decide)) r (a1 (e_var 5)) (row r hx)).v).lst (e_compL 5 (fun r => iI (maxF r - minF r)) sc_Lraised_right.nd (e_var 4) cl2 fun r hx s H C cl fp => (e_call (h_spread T) (hr.mono (by decide)) r (a1 (e_var 5)) (row2 r hx)).v).lst (py_lst fun r _ => py_int (maxF r - minF r)) ?_ (sh_list (n := 0) (sh_map fun r _ => sh_int _)))).t (fun h => ?_) ?_
  · have := py_II (K := K) (contG gs (xs.map (· + c)))
    rw [hm, List.map_map (g := dI)] at this
    rw [hm]
    exact this
  · have := py_lst (K := K) (c := fun r => iI (maxF r - minF r)) (t := fun r => PyData.int (maxF r - minF r)) (xs := contG gs (xs.map (· + c))) fun r _ => py_int (maxF r - minF r)
    rw [hm, List.map_map (g := fun r => PyData.int (maxF r - minF r))] at this
    rw [hm]
    have e : (contG gs xs).map ((fun r => PyData.int (maxF r - minF r)) ∘ List.map (· + c)) = (contG gs xs).map fun r => PyData.int (maxF r - minF r) := List.map_congr_left fun r hx => by
      have h0 : 0 < r.length := (row r hx).1
      show PyData.int (maxF (r.map (· + c)) - minF (r.map (· + c))) = _
      rw [maxF_add h0, minF_add h0]
      congr 1
      omega
    rw [e] at this
    exact this
  · rcases h with ⟨_, h⟩ | ⟨h, _⟩ <;> cases h
  · have g1 : (rndG gs 5 xs).length = n := by rw [rndG_len]; exact hl
    refine w_ret (r := .v (iB true)) (e_eqY (hu64 hr) (e_call (h_rounds T) hr (n, gs, xs.map (· + c), 5) (a_cons (e_var 0) (a2 (e_call (h_raised T) (hr.mono (by decide)) (xs, c) (a2 (e_var 1) (e_var 2)) c1).lst e_int)) ⟨ok, hl2, by show 5 ≤ 1000; decide⟩).v (e_call (h_raised T) (hr.mono (by decide)) (rndG gs 5 xs, c) (a2 (e_call (h_rounds T) hr (n, gs, xs, 5) (a_cons (e_var 0) (a2 (e_var 1) e_int)) ⟨ok, hl, by show 5 ≤ 1000; decide⟩).v (e_var 2)) (ok.ct g1)).lst ?_ (py_I _) (sh_I _)) hM q
    show (rInts K (rndG gs 5 (xs.map (· + c)))).Py K (dI ((rndG gs 5 xs).map (· + c)))
    rw [rndG_add (ok.len hl)]
    exact py_I _
/-! ### a net's own words -/
abbrev dG (g : Gate) : PyData := .tuple [.str g.k.wd, .int g.a, .int g.b]
theorem py_G (g : Gate) : (iG K g).Py K (dG g) := fun G v ⟨a, vs, e, q, r⟩ => by
  subst e
  cases r with
  | cons r1 r => cases r with
    | cons r2 r => cases r with
      | cons r3 r =>
        cases r
        exact .tup q (.cons (py_str _ _ _ r1) (.cons (py_int _ _ _ r2) (.cons (py_int _ _ _ r3) .nil)))
theorem sh_G (g : Gate) : Sh 1 (dG g) := sh_tup (sh_cons (by cases g.k <;> exact sh_str) (sh_cons (sh_int _) (sh_cons (sh_int _) sh_nil)))
theorem h_eqNet (T : Txt K mg) : HasMe P w K mg base 1 (nC K) "__eq__" (F_eq (nC K) ["self", "other"] (fun z : Nat × List Gate => nF K z.1 z.2) fun _ => True) := by
  obtain ⟨g, fd, hm, F⟩ := T.eqm
  refine ⟨g, fd, hm, F.bindsN b_Net_eq, fnOk_of (k := 0) F sc_Net_eq (fun _ => rfl) ?_⟩
  intro cdv A outer s H E z B L D hr hp hM q hN
  obtain ⟨n, gs⟩ := z
  show Wp _ B L _ D [.val (iNet K n gs), .val (iNet K n gs)]
  refine w_ret (r := .v (iB true)) (Ev.bool (e_and (e_isC (e_var 1) T.net T.tyN (T.f "isinstance")) fun _ => e_and (e_eqI (P := fun z => z = true) (e_fld (e_var 0) T.cls T.nL rfl) (e_fld (e_var 1) T.cls T.nL rfl) fun x y h1 h2 => by rw [h1, h2]; exact decide_eq_true rfl) fun _ => e_one (e_eqY (hu64 hr) (e_fld (e_var 0) T.cls T.nG rfl) (e_fld (e_var 1) T.cls T.nG rfl) (py_tup fun g _ => py_G g) (py_tup fun g _ => py_G g) (sh_tup (sh_map fun g _ => sh_G g)))) ?_) hM q
  rintro z (⟨_, ⟨_, h⟩ | ⟨h, _⟩⟩ | ⟨h, _⟩)
  · exact h
  · cases h
  · cases h
def F_plain (K : PySem.W.Frag) : Fn (Nat × List Gate) := ⟨["self"], fun z => [iNet K z.1 z.2], fun z => z.2.length ≤ 400, fun z => .v (iB (!(z.2.any fun g => decide (g.k = .add))))⟩
theorem h_isPlain (T : Txt K mg) : HasPr P w K mg base 1 (nC K) "is_plain" (F_plain K) := by
  obtain ⟨q0, g, fd, hq, F⟩ := T.plain
  refine ⟨q0, g, fd, hq, F.bindsN b_Net_is_plain, fnOk_of (k := 0) F sc_Net_is_plain (fun _ => rfl) ?_⟩
  intro cdv A outer s H E z B L D hr hp hM q hN
  obtain ⟨n, gs⟩ := z
  replace hp : gs.length ≤ 400 := hp
  show Wp _ B L _ D [.val (iNet K n gs), .no]
  refine w_ret (r := .v (iB (!(gs.any fun g => decide (g.k = .add))))) (Ev.bool (e_not (e_anyM (e_compT 1 (fun g : Gate => iB (decide (g.k = .add))) sc_Net_is_plain.nd (e_fld (e_var 0) T.cls T.nG rfl) (by omega) fun g hg s H C cl fp => ?_).lst (T.f "any"))) ?_) hM q
  · refine e_eqS (A' := fun x => x = g.k.wd) (B' := fun x => x = Mt.Kind.add.wd) (e_ixT (e_var 1) e_int rfl) (e_word T.add) fun x y h1 h2 => ?_
    rw [h1, h2, decide_eq_decide]
    exact ⟨wd_inj, fun e => by rw [e]⟩
  · intro z h
    rw [← h, Bool.not_not]
end
end LT

set_option maxHeartbeats 2000000
namespace LT
open PySem PySem.Spec PyProof.Rows L2 Dl Mt ClX
section
variable {P : Program} {w : World} {K : PySem.W.Frag} {mg : Str → Option Value} {base : Heap}
/-! ### numbers for numbers, in rising order -/
abbrev kR (ps : List (Int × Int)) : List (Int × RV) := ps.map fun p => (p.1, iI p.2)
def lookF (ps : List (Int × Int)) (k : Int) : Int := ((ps.find? fun p => decide (p.1 = k)).map (·.2)).getD 0
def Ups (ps : List (Int × Int)) : Prop := ps.Pairwise fun p q => p.1 < q.1 ∧ p.2 ≤ q.2
theorem lookF_at : ∀ {ps : List (Int × Int)} {p : Int × Int}, Ups ps → p ∈ ps → lookF ps p.1 = p.2 ∧ getK (kR ps) p.1 = some (iI p.2)
  | [], p, _, h => nomatch h
  | q :: ps, p, u, h => by
    obtain ⟨u1, u2⟩ := List.pairwise_cons.mp u
    rcases List.mem_cons.mp h with e | h
    · subst e
      exact ⟨by simp [lookF, List.find?_cons], by simp [getK, kR, List.find?_cons]⟩
    · have ne : ¬ q.1 = p.1 := fun z => by have := (u1 p h).1; omega
      obtain ⟨h1, h2⟩ := lookF_at u2 h
      exact ⟨by simpa [lookF, List.find?_cons, ne] using h1, by simpa [getK, kR, List.find?_cons, ne] using h2⟩
theorem ups_le {ps : List (Int × Int)} (u : Ups ps) {p q : Int × Int} (hp : p ∈ ps) (hq : q ∈ ps) (h : p.1 ≤ q.1) : p.2 ≤ q.2 := by
  have key : ∀ {ps : List (Int × Int)}, Ups ps → p ∈ ps → q ∈ ps → p.2 ≤ q.2 := fun {ps} => by
    induction ps with
    | nil => intro _ hp; exact nomatch hp
    | cons r ps ih =>
      intro u hp hq
      obtain ⟨u1, u2⟩ := List.pairwise_cons.mp u
      rcases List.mem_cons.mp hp with e | hp
      · rcases List.mem_cons.mp hq with e2 | hq
        · rw [e, e2]; exact Int.le_refl _
        · rw [e]; exact (u1 q hq).2
      · rcases List.mem_cons.mp hq with e2 | hq
        · have := (u1 p hp).1
          rw [← e2] at this
          omega
        · exact ih u2 hp hq
  exact key u hp hq
/-- the keys are the members -/
structure Chg (xs : List Int) (ps : List (Int × Int)) : Prop where
  up : Ups ps
  all : ∀ k, k ∈ xs → k ∈ ps.map (·.1)
theorem Chg.get {xs : List Int} {ps : List (Int × Int)} (c : Chg xs ps) {k : Int} (h : k ∈ xs) : getK (kR ps) k = some (iI (lookF ps k)) := by
  obtain ⟨p, hp, rfl⟩ := List.mem_map.mp (c.all k h)
  obtain ⟨h1, h2⟩ := lookF_at c.up hp
  rw [h1, h2]
theorem Chg.rise {xs : List Int} {ps : List (Int × Int)} (c : Chg xs ps) : Rise (lookF ps) xs := fun u hu v hv h => by
  obtain ⟨p, hp, rfl⟩ := List.mem_map.mp (c.all u hu)
  obtain ⟨q, hq, rfl⟩ := List.mem_map.mp (c.all v hv)
  rw [(lookF_at c.up hp).1, (lookF_at c.up hq).1]
  exact ups_le c.up hp hq h
def F_Lchanges (K : PySem.W.Frag) : Fn (List Int) := ⟨["_law_pot_here", "_law_content_here"], fun xs => [iPot, rInts K xs], fun xs => xs.length ≤ 12, fun xs => .x (fun ps : List (Int × Int) => Chg xs ps) fun ps => .m (oD (kR ps))⟩
theorem h_Lchanges (T : Txt K mg) : Has P w K mg base 3 "_law_changes" (F_Lchanges K) := by
  refine has_df T.d_Lchanges sc_Lchanges b_Lchanges rfl (fun _ => rfl) (k := 2) ?_
  intro f cdv A outer s H E xs B L D hr hp hM q hN
  replace hp : xs.length ≤ 12 := hp
  show Wp _ B L _ D [.val iPot, .val (rInts K xs), .no, .no, .no, .no]
  refine w_par3M 2 3 4 rfl sc_Lchanges.nd e_dnew (R2 := rInt fun _ => True) (R3 := rBool fun _ => True) (e_subP (e_call (h_draw T) (hr.mono (by decide)) 21 (a2 (e_var 0) e_int) ⟨by decide, by decide⟩).v e_int fun _ _ _ _ => trivial) (e_eqI (e_call (h_draw T) (hr.mono (by decide)) 2 (a2 (e_var 0) e_int) ⟨by decide, by decide⟩).v e_int fun _ _ _ _ => trivial) ?_
  refine w_weak 3 rfl le_xi (w_open 3 rfl fun h0 _ => ?_)
  show Wp _ B L _ D [.val iPot, .val (rInts K xs), .mu (oD []), .val (iI h0), .val (rBool fun _ => True), .no]
  refine w_forLX 5 sc_Lchanges.nd (e_sortedS (e_setI (e_var 1) (T.f "set") (by omega)) (by omega) (T.f "sorted")).xl (fun ms i sl => ∃ ps h a, sl = [.val iPot, .val (rInts K xs), .mu (oD (kR ps)), .val (iI h), .val (rBool fun _ => True), a] ∧ ps.map (·.1) = ms.take i ∧ Ups ps ∧ ∀ p ∈ ps, p.2 ≤ h) ?_ ?_ ?_
  · intro ms hms
    exact ⟨[], h0, _, rfl, rfl, .nil, fun p hp => nomatch hp⟩
  · rintro ms i k L' sl' ⟨m1, m2, m3⟩ hi ⟨ps, h, a, rfl, e1, up, le⟩
    replace m1 : ms.Pairwise (· < ·) := m1
    have hil : i < ms.length := (List.getElem?_eq_some_iff.mp hi).1
    have tk : ms.take (i + 1) = ms.take i ++ [k] := take_succ hi
    have pw : (ms.take i ++ [k]).Pairwise (· < ·) := by rw [← tk]; exact m1.sublist (List.take_sublist _ _)
    have below : ∀ p ∈ ps, p.1 < k := fun p hp => (List.pairwise_append.mp pw).2.2 p.1 (by rw [← e1]; exact List.mem_map.mpr ⟨p, hp, rfl⟩) k (List.mem_singleton.mpr rfl)
    have hlen : ps.length ≤ 12 := by
      have := congrArg List.length e1
      rw [List.length_map, List.length_take] at this
      have := m3
      omega
    refine w_dput 2 rfl (hu1 hr) (e_var 3) (e_var 5) (by rw [List.length_map]; omega) (fun p hp => ?_) ?_
    · obtain ⟨p0, h1, rfl⟩ := List.mem_map.mp hp
      have := below p0 h1
      show p0.1 ≠ k
      omega
    refine w_setX 3 (P := fun z : Int => h ≤ z) (R := iI) (EvR.ofI (e_addP (e_var 3) (e_call (h_pick T) hr ([rInt fun z => 0 ≤ z, rInt fun z => 0 ≤ z, rInt fun z => 0 ≤ z, rInt fun z => 0 ≤ z], rInt fun z => 0 ≤ z) (a2 (e_var 0) (e_if (t_val (e_var 4)) (fun _ => (e_lst (a_cons (e_int.int fun z h => by omega) (a_cons (e_int.int fun z h => by omega) (a2 (e_int.int fun z h => by omega) ?pw))) (by show 4 ≤ 100000; decide)).lst) fun _ => (e_lst (a_cons (e_int.int fun z h => by omega) (a_cons (e_int.int fun z h => by omega) (a2 (e_int.int fun z h => by omega) (e_int.int fun z h => by omega)))) (by show 4 ≤ 100000; decide)).lst)) ⟨by show 0 < 4; decide, by show 4 < 1000; decide, le_cons (le_int fun _ h => h) (le_cons (le_int fun _ h => h) (le_cons (le_int fun _ h => h) (le_cons (le_int fun _ h => h) le_nil)))⟩).v ?ad)) sc_Lchanges.nd ?_
    case pw => exact (e_pw (c := 10) (n := 9) (r := 1000000000) e_int e_int ⟨by decide, by decide, by decide⟩ (by decide +kernel)).int fun z h => by omega
    case ad =>
      intro x y h1 h2
      subst h1
      omega
    intro h2 hle
    refine w_turn' ?_
    refine ⟨ps ++ [(k, h)], h2, .val (iI k), ?_, ?_, ?_, ?_⟩
    · show _ = ([.val iPot, .val (rInts K xs), .mu (oD ((ps ++ [(k, h)]).map fun p => (p.1, iI p.2))), .val (iI h2), .val (rBool fun _ => True), .val (iI k)] : List Ent)
      rw [List.map_append]
      rfl
    · rw [tk, List.map_append, e1]; rfl
    · refine List.pairwise_append.mpr ⟨up, List.pairwise_singleton _ _, fun p hp r hr => ?_⟩
      rw [List.mem_singleton.mp hr]
      exact ⟨below p hp, le p hp⟩
    · intro p hp
      rcases List.mem_append.mp hp with hp | hp
      · have := le p hp; omega
      · rw [List.mem_singleton.mp hp]; exact hle
  · rintro ms sl' ⟨m1, m2, m3⟩ ⟨ps, h, a, rfl, e1, up, le⟩
    refine w_retMu 2 rfl hM (q ps ⟨up, fun k hk => ?_⟩)
    rw [e1, List.take_length]
    exact (m2 k).mpr (decide_eq_true hk)
/-- plain nets and numbers for numbers -/
def F_Lplain (K : PySem.W.Frag) : Fn (Nat × List Gate × List Int × List (Int × Int)) := ⟨["_law_net", "_law_content_here", "_law_changes_here"], fun z => [iNet K z.1 z.2.1, rInts K z.2.2.1, rDct (kR z.2.2.2)], fun z => NetOk z.1 z.2.1 ∧ (∀ g ∈ z.2.1, g.k ≠ .add) ∧ z.2.2.1.length = z.1 ∧ Chg z.2.2.1 z.2.2.2, fun _ => .v (iB true)⟩
theorem h_Lplain (T : Txt K mg) : Has P w K mg base 5 "_law_plain_right" (F_Lplain K) := by
  refine has_df T.d_Lplain_right sc_Lplain_right b_Lplain_right rfl (fun _ => rfl) (k := 4) ?_
  intro f cdv A outer s H E z B L D hr hp hM q hN
  obtain ⟨n, gs, xs, ps⟩ := z
  obtain ⟨ok, np, hl, ch⟩ := hp
  replace ok : NetOk n gs := ok
  replace np : ∀ g ∈ gs, g.k ≠ .add := np
  replace hl : xs.length = n := hl
  replace ch : Chg xs ps := ch
  have n1 := ok.n1
  have n2 := ok.n2
  have few := ok.few
  have c1 : Cont xs := ok.ct hl
  have hl2 : (xs.map (lookF ps)).length = n := by rw [List.length_map]; exact hl
  have hm : contG gs (xs.map (lookF ps)) = (contG gs xs).map (List.map (lookF ps)) := contG_map ⟨ok.len hl, .inl ⟨ch.rise, np⟩⟩
  have row : ∀ r ∈ contG gs xs, Cont r ∧ ∀ v ∈ r, v ∈ xs := fun r h => by
    obtain ⟨i, e⟩ := contG_row h
    refine ⟨ok.ct (by rw [e, runG_len]; exact hl), fun v hv => ?_⟩
    rw [e] at hv
    exact runG_in (fun g hg => ⟨ok.len hl g (List.mem_of_mem_take hg), np g (List.mem_of_mem_take hg)⟩) v hv
  have cl1 : (contG gs xs).length ≤ 90000 := by rw [contG_len]; omega
  show Wp _ B L _ D [.val (iNet K n gs), .val (rInts K xs), .val (rDct (kR ps)), .no, .no, .no, .no, .no]
  refine w_setCompL 3 6 (fun k => iI (lookF ps k)) sc_Lplain_right.nd (e_var 1) (by omega) (fun k hk s H C cl fp => ?_) ?_
  · exact e_dget (hu1 hr) (e_var 2) (e_var 6) (ch.get hk) (by intro _ _; rfl)
  refine w_freeze 3 hM rfl ?_
  have em : xs.map (fun k => iI (lookF ps k)) = (xs.map (lookF ps)).map iI := by rw [List.map_map]; rfl
  rw [em]
  show Wp _ B L _ D [.val (iNet K n gs), .val (rInts K xs), .val (rDct (kR ps)), .val (rInts K (xs.map (lookF ps))), .no, .no, .no, .no]
  refine w_par 4 5 rfl sc_Lplain_right.nd (e_call (h_contents T) hr (n, gs, xs) (a2 (e_var 0) (e_var 1)) ⟨ok, hl⟩).lst (e_call (h_contents T) hr (n, gs, xs.map (lookF ps)) (a2 (e_var 0) (e_var 3)) ⟨ok, hl2⟩).lst ?_
  show Wp _ B L _ D [.val (iNet K n gs), .val (rInts K xs), .val (rDct (kR ps)), .val (rInts K (xs.map (lookF ps))), .val (rLst K ((contG gs xs).map (rInts K))), .val (rLst K ((contG gs (xs.map (lookF ps))).map (rInts K))), .no, .no]
  refine w_ifNot (t_neY (hu64 hr) (e_compL 7 (fun r => rInts K (r.map (lookF ps))) sc_Lplain_right.nd (e_var 4) cl1 fun r hx s H C cl fp => ?_).lst (e_var 5) (py_lst fun r _ => py_I (r.map (lookF ps))) ?_ (sh_list (sh_map fun r _ => sh_I (r.map (lookF ps))))) (fun h => by cases h) ?_
  · have em2 : (r.map (lookF ps)).map iI = r.map fun k => iI (lookF ps k) := by rw [List.map_map]; rfl
    show Ev _ _ _ (rLst K ((r.map (lookF ps)).map iI))
    rw [em2]
    refine EvR.lst (X := blkX _ _ s H C cl fp) (e_compL 6 (fun k => iI (lookF ps k)) sc_Lplain_right.nd (e_var 7) (by have := (row r hx).1.2; omega) fun k hk s H C cl fp => ?_)
    exact e_dget (hu1 hr) (e_var 2) (e_var 6) (ch.get ((row r hx).2 k hk)) (by intro _ _; rfl)
  · have := py_II (K := K) (contG gs (xs.map (lookF ps)))
    rw [hm, List.map_map (g := dI)] at this
    rw [hm]
    exact this
  · refine w_ret (r := .v (iB true)) (Ev.bool (e_allM (f := fun _ => true) (e_compL 7 (fun _ => iB true) sc_Lplain_right.nd (e_var 4) cl1 fun r hx s H C cl fp => ?_).lst (T.f "all")) ?_) hM q
    · refine e_leP (e_call (h_spread T) hr r (a1 (e_var 7)) (row r hx).1).v (e_call (h_spread T) hr xs (a1 (e_var 1)) c1).v fun x y h1 h2 => ?_
      rw [h1, h2]
      exact decide_eq_true (spread_le (row r hx).1.1 (row r hx).2)
    · intro z h
      rw [h]
      simp
end
end LT

set_option maxHeartbeats 2000000
namespace LT
open PySem PySem.Spec PyProof.Rows L2 Dl Mt ClX
section
variable {P : Program} {w : World} {K : PySem.W.Frag} {mg : Str → Option Value} {base : Heap}
theorem pv3 {G : Hp} {R1 R2 R3 : RV} {vs : List V} (h : PVs G [R1, R2, R3] vs) : ∃ a b c, vs = [a, b, c] ∧ R1.r G a ∧ R2.r G b ∧ R3.r G c := by
  cases h with
  | cons h1 h => cases h with
    | cons h2 h => cases h with
      | cons h3 h => cases h; exact ⟨_, _, _, rfl, h1, h2, h3⟩
theorem le_nat {a b : Int} (ha : 0 ≤ a) : (rInt fun z => a ≤ z ∧ z ≤ b).le (rX (fun n : Nat => a ≤ (n : Int) ∧ (n : Int) ≤ b) fun n => iI (n : Int)) := fun G v ⟨i, e, h1, h2⟩ => ⟨i.toNat, ⟨by omega, by omega⟩, i, e, by omega⟩
theorem max_zip : ∀ (xs ys : List Int), List.zipWith (fun a b => iI (if b > a then b else a)) xs ys = (List.zipWith max xs ys).map iI
  | [], _ => by simp
  | _ :: _, [] => by simp
  | x :: xs, y :: ys => by
    rw [List.zipWith_cons_cons, List.zipWith_cons_cons, List.map_cons, max_zip xs ys]
    have e : (if y > x then y else x) = max x y := by split <;> omega
    rw [e]
def plainGs (gs : List Gate) : List Gate := gs.filter fun g => !decide (g.k = .add)
theorem plain_ok {n : Nat} {gs : List Gate} (ok : NetOk n gs) : NetOk n (plainGs gs) ∧ (∀ g ∈ plainGs gs, g.k ≠ .add) ∧ ((plainGs gs).any fun g => decide (g.k = .add)) = false := by
  have hn : ∀ g ∈ plainGs gs, g ∈ gs ∧ g.k ≠ .add := fun g hg => by
    obtain ⟨h1, h2⟩ := List.mem_filter.mp hg
    exact ⟨h1, by simpa using h2⟩
  refine ⟨⟨ok.n1, ok.n2, Nat.le_trans (List.length_filter_le ..) ok.few, fun g hg => ok.ok g (hn g hg).1⟩, fun g hg => (hn g hg).2, ?_⟩
  rw [List.any_eq_false]
  intro g hg
  simpa using (hn g hg).2
def F_Lright : Fn Unit := ⟨["_law_pot_here"], fun _ => [iPot], fun _ => True, fun _ => .v (iB true)⟩
theorem h_Lright (T : Txt K mg) : Has P w K mg base 8 "_law_right" F_Lright := by
  refine has_df T.d_Lright sc_Lright b_Lright rfl (fun _ => rfl) (k := 7) ?_
  intro f cdv A outer s H E z B L D hr hp hM q hN
  show Wp _ B L _ D [.val iPot, .no, .no, .no, .no, .no, .no, .no, .no, .no, .no]
  refine w_setX 1 (P := fun n : Nat => 1 ≤ (n : Int) ∧ (n : Int) ≤ 12) (R := fun n => iI (n : Int)) (Ev.imp (e_call (h_pick T) (hr.mono (by decide)) ([rInt _, rInt _, rInt _, rInt _, rInt _, rInt _, rInt _, rInt _], rInt fun z => 1 ≤ z ∧ z ≤ 12) (a2 (e_var 0) (e_lst (a_cons e_int (a_cons e_int (a_cons e_int (a_cons e_int (a_cons e_int (a_cons e_int (a2 e_int e_int))))))) (by show 8 ≤ 100000; decide)).lst) ⟨by show 0 < 8; decide, by show 8 < 1000; decide, le_cons (lG (by decide)) (le_cons (lG (by decide)) (le_cons (lG (by decide)) (le_cons (lG (by decide)) (le_cons (lG (by decide)) (le_cons (lG (by decide)) (le_cons (lG (by decide)) (le_cons (lG (by decide)) le_nil)))))))⟩).v (le_nat (by decide))) sc_Lright.nd ?_
  rintro n ⟨n1, n2⟩
  replace n1 : 1 ≤ n := by omega
  replace n2 : n ≤ 12 := by omega
  have me : ((if n = 12 then 60 else 20 : Nat) : Int) = if n = 12 then 60 else 20 := by split <;> rfl
  refine w_setX 2 (e_call (h_Lgates T) (hr.mono (by decide)) (n, if n = 12 then 60 else 20) (a_cons (e_var 0) (a2 (e_var 1) (e_if (P := fun z => z = decide (n = 12)) (t_eqI (e_var 1) e_int ?_) (fun h => ?_) (fun h => ?_)))) ⟨n1, n2, by show (if n = 12 then 60 else 20) ≤ 400; split <;> decide⟩).xl sc_Lright.nd ?_
  · intro x y h1 h2
    rw [h1, h2, decide_eq_decide]
    omega
  · have e : n = 12 := of_decide_eq_true h.symm
    show Ev _ _ _ (iI ((if n = 12 then 60 else 20 : Nat) : Int))
    rw [if_pos e]
    exact e_int
  · have e : ¬ n = 12 := of_decide_eq_false h.symm
    show Ev _ _ _ (iI ((if n = 12 then 60 else 20 : Nat) : Int))
    rw [if_neg e]
    exact e_int
  rintro gs ⟨g1, g2⟩
  replace g2 : ∀ g ∈ gs, g.Ok n := g2
  have g3 : gs.length ≤ 60 := Nat.le_trans g1 (by show (if n = 12 then 60 else 20) ≤ 60; split <;> decide)
  have ok : NetOk n gs := ⟨n1, n2, by omega, g2⟩
  obtain ⟨okP, npP, anP⟩ := plain_ok ok
  show Wp _ B L _ D [.val iPot, .val (iI (n : Int)), .val (rLst K (gs.map (iG K))), .no, .no, .no, .no, .no, .no, .no, .no]
  refine w_par 3 4 rfl sc_Lright.nd (R1 := iNet K n gs) (R2 := iNet K n (plainGs gs)) (e_make (fs := fun z : Nat × List Gate => nF K z.1 z.2) (h_Net T) hr T.net (n, gs) (a2 (e_var 1) (e_var 2)) rfl rfl ok) (e_make (fs := fun z : Nat × List Gate => nF K z.1 z.2) (h_Net T) hr T.net (n, plainGs gs) (a2 (e_var 1) (e_compLT 8 (fun g => iG K g) (fun g => !decide (g.k = .add)) sc_Lright.nd (e_var 2) (by omega) (fun g hg s H C cl fp => ?_) (fun g hg _ s H C cl fp => e_var 8)).lst) rfl rfl okP) ?_
  · exact t_wdN (l := .add) (e_ixT (e_var 8) e_int rfl) e_str
  refine w_forR 5 (m := 2) sc_Lright.nd e_int (by decide) (by decide) (T.f "range") (fun i sl => ∃ a b c, sl = [.val iPot, .val (iI (n : Int)), .val (rLst K (gs.map (iG K))), .val (iNet K n gs), .val (iNet K n (plainGs gs)), a, b, c, .no, .no, .no]) ⟨_, _, _, rfl⟩ ?_ ?_
  · rintro i L' sl' hi ⟨a, b, c, rfl⟩
    refine w_par 6 7 rfl sc_Lright.nd (e_call (h_Lcontent T) (hr.mono (by decide)) n (a2 (e_var 0) (e_var 1)) n2).xl (e_call (h_Lcontent T) (hr.mono (by decide)) n (a2 (e_var 0) (e_var 1)) n2).xl ?_
    refine w_open 6 rfl fun xs hx => w_open 7 rfl fun ys hy => ?_
    replace hx : xs.length = n := hx
    replace hy : ys.length = n := hy
    show Wp _ B L' _ _ [.val iPot, .val (iI (n : Int)), .val (rLst K (gs.map (iG K))), .val (iNet K n gs), .val (iNet K n (plainGs gs)), .val (iI (i : Int)), .val (rInts K xs), .val (rInts K ys), .no, .no, .no]
    refine w_ifNot (t_not (t_val (e_callE (r := .v (iB true)) (h_Lrising T) (hr.mono (by decide)) (a_cons (e_var 3) (a2 (e_var 6) (e_call (h_Labove T) (hr.mono (by decide)) xs (a2 (e_var 0) (e_var 6)) (by show xs.length ≤ 12; omega)).xl)) fun G vs h => ?_).v)) (fun h => by cases h) ?_
    · obtain ⟨u, v, t, rfl, h1, h2, zs, pz, h3⟩ := pv3 h
      exact ⟨(n, gs, xs, zs), .cons h1 (.cons h2 (.cons h3 .nil)), ⟨ok, hx, le_of_paired pz⟩, rfl⟩
    refine w_ifNot (t_not (t_val (e_call (h_Lrising T) (hr.mono (by decide)) (n, gs, xs, List.zipWith max xs ys) (a_cons (e_var 3) (a2 (e_var 6) ?mx)) ⟨ok, hx, le_max (hx.trans hy.symm)⟩).v)) (fun h => by cases h) ?_
    case mx =>
      show Ev _ _ _ (rLst K ((List.zipWith max xs ys).map iI))
      rw [← max_zip]
      refine (e_compZ 9 10 _ sc_Lright.nd (e_var 6) (e_var 7) (by omega) (T.f "zip") fun i x y h1 h2 s H C cl fp => ?_).lst
      exact e_max2 rfl (e_var 9) (e_var 10) (T.f "max") fun a b h1 h2 => by rw [h1, h2]
    refine w_ifNot (t_or (t_not (t_val (e_call (h_Lapart T) (hr.mono (by decide)) (n, gs, xs, ys) (a_cons (e_var 3) (a2 (e_var 6) (e_var 7))) ⟨ok, hx, hy⟩).v)) fun _ => t_or1 (t_not (t_val (e_callE (r := .v (iB true)) (h_Lapart T) (hr.mono (by decide)) (a_cons (e_var 3) (a2 (e_var 7) (e_call (h_Labove T) (hr.mono (by decide)) ys (a2 (e_var 0) (e_var 7)) (by show ys.length ≤ 12; omega)).xl)) fun G vs h => ?_).v))).t (fun h => ?_) ?_
    · obtain ⟨u, v, t, rfl, h1, h2, zs, pz, h3⟩ := pv3 h
      exact ⟨(n, gs, ys, zs), .cons h1 (.cons h2 (.cons h3 .nil)), ⟨ok, hy, by have := Paired.length pz; show zs.length = n; omega⟩, rfl⟩
    · rcases h with ⟨_, h⟩ | ⟨h, _⟩ <;> cases h
    refine w_ifNot (t_not (t_val (e_callE (r := .v (iB true)) (h_Lraised T) (hr.mono (by decide)) (a_cons (e_var 3) (a2 (e_var 6) (e_subP (C := fun _ => True) (e_call (h_draw T) (hr.mono (by decide)) 2001 (a2 (e_var 0) e_int) ⟨by decide, by decide⟩).v e_int fun _ _ _ _ => trivial))) fun G vs h => ?_).v)) (fun h => by cases h) ?_
    · obtain ⟨u, v, t, rfl, h1, h2, c, ec, _⟩ := pv3 h
      exact ⟨(n, gs, xs, c), .cons h1 (.cons h2 (.cons ⟨c, ec, rfl⟩ .nil)), ⟨ok, hx⟩, rfl⟩
    refine w_ifNot (t_or (t_not (t_val (e_callE (r := .v (iB true)) (h_Lplain T) (hr.mono (by decide)) (a_cons (e_var 4) (a2 (e_var 6) (e_call (h_Lchanges T) (hr.mono (by decide)) xs (a2 (e_var 0) (e_var 6)) (by show xs.length ≤ 12; omega)).xdct)) fun G vs h => ?_).v)) fun _ => t_or1 (t_not (t_val (e_prop (h_isPlain T) (hr.mono (by decide)) T.cls (n, plainGs gs) (e_var 4) rfl (by show (plainGs gs).length ≤ 400; exact okP.few)).v))).t (fun h => ?_) ?_
    · obtain ⟨u, v, t, rfl, h1, h2, ps, hc, h3⟩ := pv3 h
      exact ⟨(n, plainGs gs, xs, ps), .cons h1 (.cons h2 (.cons h3 .nil)), ⟨okP, npP, hx, hc⟩, rfl⟩
    · rcases h with ⟨_, h⟩ | ⟨h, _⟩
      · rw [anP] at h; cases h
      · cases h
    exact w_turn' ⟨_, _, _, rfl⟩
  · rintro sl' ⟨a, b, c, rfl⟩
    exact w_ret (r := .v (iB true)) (e_eqC (h_eqNet T) (hr.mono (by decide)) (n, gs) trivial (e_var 3) (e_make (fs := fun z : Nat × List Gate => nF K z.1 z.2) (h_Net T) hr T.net (n, gs) (a2 (e_var 1) (e_var 2)) rfl rfl ok)) hM q
/-- how many turns -/
def turns (l : Int) : Int := if (if l < 3 then l else 3) > 1 then (if l < 3 then l else 3) else 1
theorem turns_ok (l : Int) : 1 ≤ turns l ∧ turns l ≤ 3 := by
  unfold turns
  split <;> split <;> omega
def F_law (K : PySem.W.Frag) : Fn (List Int) := ⟨["_law_script"], fun ns => [rInts K ns], fun _ => True, fun _ => .v (iB true)⟩
theorem ok_law (T : Txt K mg) {f : Addr} {fd : FuncData} (F : FnP K "law" "law" s_law f fd) : FnOk P w K mg base CX0 9 f fd ["_law_script"] (F_law K).sp := by
  refine fnOk_of (F := F_law K) (k := 8) F sc_law (fun _ => rfl) ?_
  intro cdv A outer s H E ns B L D hr hp hM q hN
  show Wp _ B L _ D [.val (rInts K ns), .no]
  have hb := turns_ok ((ns.map iI).length : Int)
  refine w_ret (r := .v (iB true)) (Ev.bool (e_allM (f := fun _ : Nat => true) (e_compR 1 (m := turns ((ns.map iI).length : Int)) (fun _ => iB true) sc_law.nd (e_max2 rfl e_int (e_min2 (C := fun m => m = if ((ns.map iI).length : Int) < 3 then ((ns.map iI).length : Int) else 3) rfl e_int (e_lenL (e_var 0) (T.f "len")) (T.f "min") ?_) (T.f "max") ?_) (by omega) (by omega) (T.f "range") fun i hi s H C cl fp => ?_).lst (T.f "all")) ?_) hM q
  · intro x y h1 h2
    rw [h1, h2]
  · intro x y h1 h2
    rw [h1, h2]
    rfl
  · exact (e_call (h_Lright T) hr () (a1 (e_call (h_pot T) (hr.mono (by decide)) (ns, i) (a2 (e_var 0) (e_var 1)) (by show i < 10; omega)).v) trivial).v
  · intro z h
    rw [h]
    simp
end
end LT

set_option maxHeartbeats 2000000
namespace Dl
open PySem PySem.Spec PyProof.Rows L2 ClX
/-! ### the head: defs by paths, and one test of one's own -/
structure DefP where
  path : PySem.W.Frag → Addr
  name : Str
  qual : Str
  st : Stmt
  dfl : List He.Dv := []
def DefP.val (d : DefP) : He.FnW := some (d.name, d.qual, defArgs d.st, FuncBody.stmts (defBody d.st), defScope d.st, mainGlobals, [], builtinsNs)
def obP (K : PySem.W.Frag) (a : Addr) : He.FnW :=
  match K.lookup a with
  | some ⟨_, _, .func z, _⟩ => some (z.name, z.qualname, z.params, z.body, z.scope, z.globals, z.closure, z.builtins)
  | _ => none
def DefP.dv (K : PySem.W.Frag) (d : DefP) : List V := d.dfl.map (He.Dv.v K)
def DefP.ok (K : PySem.W.Frag) (d : DefP) : Bool := PySem.W.keepIn K (.ref (d.path K)) &&
  match K.lookup (d.path K) with
  | some ⟨_, _, .func z, _⟩ => PySem.W.codeIn K z.code d.qual && He.dflB K z.defaults (d.dv K)
  | _ => false
theorem DefP.fun_ {K : PySem.W.Frag} {d : DefP} (e : obP K (d.path K) = d.val) (c : d.ok K = true) : ∃ fd, FunD K d.name d.qual (defArgs d.st) (defBody d.st) (defScope d.st) (d.dv K) [] (d.path K) fd := by
  unfold DefP.ok at c
  have ⟨kp, c2⟩ := He.ba c
  unfold obP at e
  generalize q : K.lookup (d.path K) = r at e c2
  match r, e, c2 with
  | none, _, c2 => cases c2
  | some ⟨oc, od, dt, osl⟩, e, c2 =>
    cases dt with
    | func z =>
      rcases z with ⟨n1, n2, n3, n4, n5, n6, n7, n8, n9, n10, n11, n12, n13, n14, n15⟩
      replace e : (some (n1, n2, n3, n4, n5, n6, n7, n15) : He.FnW) = some (d.name, d.qual, defArgs d.st, FuncBody.stmts (defBody d.st), defScope d.st, mainGlobals, [], builtinsNs) := e
      injection e with e
      simp only [Prod.mk.injEq] at e
      rcases e with ⟨e1, e2, e3, e4, e5, e6, e7, e8⟩
      subst e1 e2 e3 e4 e5 e6 e7 e8
      have ⟨k1, k2⟩ := He.ba (show (PySem.W.codeIn K n13 d.qual && He.dflB K n8 (d.dv K)) = true from c2)
      exact ⟨_, ⟨oc, od, n8, n9, n10, n11, n12, n13, n14, osl, rfl, q, k1, He.dflB_ok k2, .inl rfl⟩, kp⟩
    | _ => cases c2
def obsP (ex : PySem.W.Frag → Bool) (fn : List DefP) (K : PySem.W.Frag) : He.AlD := (ex K && fn.all (DefP.ok K), fn.map fun d => obP K (d.path K))
def valP (fn : List DefP) : He.AlD := (true, fn.map DefP.val)
def SaysP (ex : PySem.W.Frag → Bool) (fn : List DefP) (K : PySem.W.Frag) : Prop := obsP ex fn K = valP fn
def fragP (n : Nat) (g : Addr → Option Obj) : PySem.W.Frag := He.frG g (PySem.cStatics :: He.asD g n)
def hookP (n : Nat) (ex : PySem.W.Frag → Bool) (fn : List DefP) : PySem.W.Hook where
  α := He.AlD
  obs := fun s => obsP ex fn (fragP n s.heap.get?)
  val := fun _ => valP fn
  says := fun _ h => ∃ K : PySem.W.Frag, K.In h ∧ SaysP ex fn K
  of := fun _ _ e => ⟨_, He.frG_in, e⟩
  keeps := fun _ _ _ ⟨K, hK, c⟩ k => ⟨K, PySem.W.Frag.In.keeps hK k, c⟩
theorem obsP_eq {n : Nat} {ex : PySem.W.Frag → Bool} {fn : List DefP} {g : Addr → Option Obj} {s : Shared} (h : ∀ a, g a = s.heap.get? a) : obsP ex fn (fragP n g) = (hookP n ex fn).obs s := by
  show _ = obsP ex fn (fragP n s.heap.get?)
  rw [show g = s.heap.get? from funext h]
section
variable {ex : PySem.W.Frag → Bool} {fn : List DefP} {K : PySem.W.Frag}
theorem SaysP.test (c : SaysP ex fn K) : ex K = true := (He.ba (show (ex K && fn.all (DefP.ok K)) = true from congrArg Prod.fst c)).1
theorem SaysP.def_ (c : SaysP ex fn K) (i : Nat) {d : DefP} (h : fn[i]? = some d := by rfl) : ∃ fd, FunD K d.name d.qual (defArgs d.st) (defBody d.st) (defScope d.st) (d.dv K) [] (d.path K) fd := by
  have c2 := (He.ba (show (ex K && fn.all (DefP.ok K)) = true from congrArg Prod.fst c)).2
  have e : (fn.map fun d => obP K (d.path K))[i]? = (fn.map DefP.val)[i]? := congrArg (fun l : List He.FnW => l[i]?) (congrArg Prod.snd c)
  rw [List.getElem?_map, List.getElem?_map, h] at e
  exact DefP.fun_ (Option.some.inj e) (List.all_eq_true.mp c2 d (List.mem_of_getElem? h))
end
/-! ### tests -/
def gP (x : Str) : PySem.W.Frag → Addr := fun K => He.ga K x
def mP (x m : Str) : PySem.W.Frag → Addr := fun K => He.ma K (He.ga K x) m
/-- a property's getter -/
def pG (K : PySem.W.Frag) (C : Addr) (f : Str) : Addr :=
  match PySem.W.findIn K (.ref C) f with
  | some (some (.ref p)) => (match PySem.W.recIn K p "property" with | some (.ref g :: _) => g | _ => 0)
  | _ => 0
def pP (x f : Str) : PySem.W.Frag → Addr := fun K => pG K (He.ga K x) f
def propB (K : PySem.W.Frag) (C : Addr) (f : Str) : Bool :=
  match PySem.W.findIn K (.ref C) f with
  | some (some (.ref p)) => He.eqO (PySem.W.specialIn K (.ref p) "__get__") (some (some (.builtin "property.__get__"))) && (decide (PySem.W.takesIn K (.ref p) = some true) && match PySem.W.recIn K p "property" with | some (.ref _ :: _) => true | _ => false)
  | _ => false
theorem propB_ok {K : PySem.W.Frag} {C : Addr} {f : Str} (h : propB K C f = true) : ∃ p, PropOf K C f p (pG K C f) := by
  unfold propB at h
  unfold pG
  cases e1 : PySem.W.findIn K (.ref C) f with
  | none => rw [e1] at h; cases h
  | some r =>
    rw [e1] at h
    cases r with
    | none => cases h
    | some u =>
      cases u with
      | ref p =>
        have ⟨h1, h⟩ := He.ba h
        have ⟨h2, h3⟩ := He.ba h
        dsimp only
        cases e3 : PySem.W.recIn K p "property" with
        | none => rw [e3] at h3; cases h3
        | some l =>
          rw [e3] at h3
          cases l with
          | nil => cases h3
          | cons u rest =>
            cases u with
            | ref g => exact ⟨p, e1, He.eqO_ok h1, of_decide_eq_true h2, rest, e3⟩
            | _ => cases h3
      | _ => cases h
def creadB (K : PySem.W.Frag) (C : Addr) : Bool := PySem.W.readsIn K C (.type "type") && He.eqO (PySem.W.specialIn K (.ref C) "__getattribute__") (some (some (.builtin "type.__getattribute__")))
theorem creadB_ok {K : PySem.W.Frag} {C : Addr} (h : creadB K C = true) : CRead K C (.type "type") := ⟨(He.ba h).1, He.eqO_ok (He.ba h).2⟩
def cintB (K : PySem.W.Frag) (C : Addr) (f : Str) (i : Int) : Bool := match PySem.W.findCls K (.ref C) (.type "type") f with
  | some (.val (.int j _)) => decide (j = i)
  | _ => false
theorem cintB_ok {K : PySem.W.Frag} {C : Addr} {f : Str} {i : Int} (h : cintB K C f i = true) : ∃ t, CVal K C (.type "type") f (.int i) (.int i t) := by
  unfold cintB at h
  cases e : PySem.W.findCls K (.ref C) (.type "type") f with
  | none => rw [e] at h; cases h
  | some c =>
    rw [e] at h
    cases c with
    | get => cases h
    | val u =>
      cases u with
      | int j t =>
        have ej : j = i := of_decide_eq_true h
        rw [ej] at e
        exact ⟨t, e, t, rfl⟩
      | _ => cases h
def tyB (K : PySem.W.Frag) (C : Addr) : Bool := He.eqO (PySem.W.findIn K (.ref C) "__class__") (some (some (.builtin "object.__class__"))) && (He.eqO (PySem.W.specialIn K (.builtin "object.__class__") "__get__") (some (some (.builtin "getset_descriptor.__get__"))) && (decide (PySem.W.takesIn K (.builtin "object.__class__") = some true) && decide (PySem.W.mroIn K C (.type "object") = some true)))
theorem tyB_ok {K : PySem.W.Frag} {C : Addr} (c : Cls K C) (h : tyB K C = true) (H : Hp) (a dx : Addr) (fs : List (Str × V)) (e : H a = some (.ins C dx fs)) : TyOf K H (.ref a) (.ref C) := by
  have ⟨h1, h⟩ := He.ba h
  have ⟨h2, h⟩ := He.ba h
  have ⟨h3, h4⟩ := He.ba h
  exact .ins e c (He.eqO_ok h1) (He.eqO_ok h2) (of_decide_eq_true h3) (of_decide_eq_true h4)
end Dl

set_option maxHeartbeats 0
namespace LT
open PySem PySem.Spec PyProof.Rows L2 Dl Mt ClX
def p0 : DefP := ⟨gP "is_integer", "is_integer", "is_integer", s_is_integer, []⟩
def p1 : DefP := ⟨gP "is_count", "is_count", "is_count", s_is_count, []⟩
def p2 : DefP := ⟨gP "is_list", "is_list", "is_list", s_is_list, []⟩
def p3 : DefP := ⟨gP "is_content", "is_content", "is_content", s_is_content, []⟩
def p4 : DefP := ⟨gP "is_lane", "is_lane", "is_lane", s_is_lane, []⟩
def p5 : DefP := ⟨gP "want_content", "want_content", "want_content", s_want_content, []⟩
def p6 : DefP := ⟨gP "want_content_of", "want_content_of", "want_content_of", s_want_content_of, []⟩
def p7 : DefP := ⟨gP "want_number", "want_number", "want_number", s_want_number, []⟩
def p8 : DefP := ⟨gP "want_many", "want_many", "want_many", s_want_many, []⟩
def p9 : DefP := ⟨gP "want_other", "want_other", "want_other", s_want_other, []⟩
def p10 : DefP := ⟨gP "spread", "spread", "spread", s_spread, []⟩
def p11 : DefP := ⟨gP "farthest", "farthest", "farthest", s_farthest, []⟩
def p12 : DefP := ⟨gP "is_at_most", "is_at_most", "is_at_most", s_is_at_most, []⟩
def p13 : DefP := ⟨gP "raised", "raised", "raised", s_raised, []⟩
def p14 : DefP := ⟨gP "is_gate", "is_gate", "is_gate", s_is_gate, []⟩
def p15 : DefP := ⟨gP "want_gates", "want_gates", "want_gates", s_want_gates, []⟩
def p16 : DefP := ⟨gP "want_few", "want_few", "want_few", s_want_few, []⟩
def p17 : DefP := ⟨gP "want_position", "want_position", "want_position", s_want_position, []⟩
def p18 : DefP := ⟨gP "do_gate", "do_gate", "do_gate", s_do_gate, []⟩
def p19 : DefP := ⟨gP "told_by", "told_by", "told_by", s_told_by, []⟩
def p20 : DefP := ⟨gP "gate_turned", "gate_turned", "gate_turned", s_gate_turned, []⟩
def p21 : DefP := ⟨gP "contents", "contents", "contents", s_contents, []⟩
def p22 : DefP := ⟨gP "passed", "passed", "passed", s_passed, []⟩
def p23 : DefP := ⟨gP "rounds", "rounds", "rounds", s_rounds, []⟩
def p24 : DefP := ⟨gP "_law_pot", "_law_pot", "_law_pot", s_Lpot, []⟩
def p25 : DefP := ⟨gP "_law_draw", "_law_draw", "_law_draw", s_Ldraw, []⟩
def p26 : DefP := ⟨gP "_law_pick", "_law_pick", "_law_pick", s_Lpick, []⟩
def p27 : DefP := ⟨gP "_law_gate", "_law_gate", "_law_gate", s_Lgate, []⟩
def p28 : DefP := ⟨gP "_law_gates", "_law_gates", "_law_gates", s_Lgates, []⟩
def p29 : DefP := ⟨gP "_law_content", "_law_content", "_law_content", s_Lcontent, []⟩
def p30 : DefP := ⟨gP "_law_above", "_law_above", "_law_above", s_Labove, []⟩
def p31 : DefP := ⟨gP "_law_changes", "_law_changes", "_law_changes", s_Lchanges, []⟩
def p32 : DefP := ⟨gP "_law_rising_right", "_law_rising_right", "_law_rising_right", s_Lrising_right, []⟩
def p33 : DefP := ⟨gP "_law_lead", "_law_lead", "_law_lead", s_Llead, []⟩
def p34 : DefP := ⟨gP "_law_apart_right", "_law_apart_right", "_law_apart_right", s_Lapart_right, []⟩
def p35 : DefP := ⟨gP "_law_raised_right", "_law_raised_right", "_law_raised_right", s_Lraised_right, []⟩
def p36 : DefP := ⟨gP "_law_plain_right", "_law_plain_right", "_law_plain_right", s_Lplain_right, []⟩
def p37 : DefP := ⟨gP "_law_right", "_law_right", "_law_right", s_Lright, []⟩
def p38 : DefP := ⟨gP "law", "law", "law", s_law, []⟩
def p39 : DefP := ⟨mP "Net" "__init__", "__init__", "Net.__init__", s_Net_init, [.adr (He.dflAt ("Net", some "__init__") 0)]⟩
def p40 : DefP := ⟨mP "Net" "gates", "gates", "Net.gates", s_Net_gates, []⟩
def p41 : DefP := ⟨pP "Net" "lanes", "lanes", "Net.lanes", s_Net_lanes, []⟩
def p42 : DefP := ⟨pP "Net" "is_plain", "is_plain", "Net.is_plain", s_Net_is_plain, []⟩
def p43 : DefP := ⟨mP "Net" "__eq__", "__eq__", "Net.__eq__", s_Net_eq, []⟩
def fn : List DefP := [p0, p1, p2, p3, p4, p5, p6, p7, p8, p9, p10, p11, p12, p13, p14, p15, p16, p17, p18, p19, p20, p21, p22, p23, p24, p25, p26, p27, p28, p29, p30, p31, p32, p33, p34, p35, p36, p37, p38, p39, p40, p41, p42, p43]
def gl0 : List Str := [Str.ofString "is_integer", Str.ofString "is_count", Str.ofString "is_list", Str.ofString "is_content", Str.ofString "is_lane", Str.ofString "want_content", Str.ofString "want_content_of", Str.ofString "want_number", Str.ofString "want_many", Str.ofString "want_other", Str.ofString "spread", Str.ofString "farthest", Str.ofString "is_at_most", Str.ofString "raised", Str.ofString "is_gate", Str.ofString "want_gates", Str.ofString "want_few", Str.ofString "want_position", Str.ofString "do_gate", Str.ofString "told_by", Str.ofString "gate_turned", Str.ofString "contents", Str.ofString "passed", Str.ofString "rounds", Str.ofString "_law_pot", Str.ofString "_law_draw", Str.ofString "_law_pick", Str.ofString "_law_gate", Str.ofString "_law_gates", Str.ofString "_law_content"]
def gl1 : List Str := [Str.ofString "_law_above", Str.ofString "_law_changes", Str.ofString "_law_rising_right", Str.ofString "_law_lead", Str.ofString "_law_apart_right", Str.ofString "_law_raised_right", Str.ofString "_law_plain_right", Str.ofString "_law_right", Str.ofString "law", Str.ofString "PAIRED", Str.ofString "Net"]
def glos : List Str := gl0 ++ gl1
def fas : List He.Fa := [.int "MOST" 12, .int "MOST_ROUNDS" 1000, .str "LOW" "low", .str "HIGH" "high", .str "SORT" "sort", .str "COPY" "copy", .str "ADD" "add", .cls "Net", .noat "Net" "own_lanes", .noat "Net" "own_gates", .mkr "Net", .meth "Net" "gates", .meth "Net" "__eq__"]
def ex (K : PySem.W.Frag) : Bool := (glos.all fun x => (He.Fa.glo x).ok K) && ((frees.all fun x => (He.Fa.free x).ok K) && ((fas.all fun f => f.ok K) && (He.tupB K "PAIRED" [.str "low", .str "high", .str "sort", .str "copy"] && (creadB K (He.ga K "Net") && (cintB K (He.ga K "Net") "MOST_LANES" 12 && (cintB K (He.ga K "Net") "MOST_GATES" 400 && (propB K (He.ga K "Net") "lanes" && (propB K (He.ga K "Net") "is_plain" && tyB K (He.ga K "Net")))))))))
abbrev R : PySem.W.OpenRow := PySem.W.OpenLaw.row PySem.Challenge.rw_lanelots_k17_whole_facts_of_runs
abbrev hk : PySem.W.Hook := hookP 6 ex fn
def ob (s : PySem.W.SharedT) : He.AlD := obsP ex fn (fragP 6 (HandSHeadRun.getT s))
theorem ob_eq (s : PySem.W.SharedT) : ob s = hk.obs s.abs := obsP_eq (HandSHeadRun.getT_eq s)
def nm0 : List PySem.Str := [Str.ofString "_wall", Str.ofString "LaneError", Str.ofString "LimitError", Str.ofString "InvalidContent", Str.ofString "InvalidNumber", Str.ofString "InvalidMany", Str.ofString "InvalidLanes", Str.ofString "InvalidGates", Str.ofString "InvalidPosition", Str.ofString "InvalidOther", Str.ofString "TooMany", Str.ofString "MOST", Str.ofString "is_integer", Str.ofString "is_count", Str.ofString "is_list", Str.ofString "is_content", Str.ofString "is_lane", Str.ofString "want_content", Str.ofString "want_content_of", Str.ofString "want_number", Str.ofString "want_many", Str.ofString "want_other", Str.ofString "spread", Str.ofString "farthest", Str.ofString "is_at_most", Str.ofString "raised", Str.ofString "LOW", Str.ofString "HIGH", Str.ofString "SORT", Str.ofString "COPY", Str.ofString "ADD", Str.ofString "PAIRED", Str.ofString "is_gate", Str.ofString "want_gates", Str.ofString "want_few"]
def nm1 : List PySem.Str := [Str.ofString "want_position", Str.ofString "do_gate", Str.ofString "told_by", Str.ofString "gate_turned", Str.ofString "Net", Str.ofString "MOST_ROUNDS", Str.ofString "contents", Str.ofString "passed", Str.ofString "rounds", Str.ofString "_law_pot", Str.ofString "_law_draw", Str.ofString "_law_pick", Str.ofString "_law_gate", Str.ofString "_law_gates", Str.ofString "_law_content", Str.ofString "_law_above", Str.ofString "_law_changes", Str.ofString "_law_rising_right", Str.ofString "_law_lead", Str.ofString "_law_apart_right", Str.ofString "_law_raised_right", Str.ofString "_law_plain_right", Str.ofString "_law_right"]
def names : List PySem.Str := nm0 ++ nm1
theorem run (w : World) : HandSHeadRun.RunEq R (PySem.W.view R.prog [63]) hk ob 20000 names w := by
  intro os
  kernel_rfl
theorem txt {K : PySem.W.Frag} {h : Heap} {mg : Str → Option Value} (X : K.In h) (G : h.Ns mainGlobals mg) (c : SaysP ex fn K) : Txt K mg := by
  have ⟨t1, t⟩ := He.ba c.test
  have ⟨t2, t⟩ := He.ba t
  have ⟨t3, t⟩ := He.ba t
  have ⟨t4, t⟩ := He.ba t
  have ⟨t5, t⟩ := He.ba t
  have ⟨t6, t⟩ := He.ba t
  have ⟨t7, t⟩ := He.ba t
  have ⟨t8, t⟩ := He.ba t
  have ⟨t9, t10⟩ := He.ba t
  have g : ∀ (i : Nat) {x : Str}, glos[i]? = some x → mg x = some (.ref (He.ga K x)) := fun i x e => He.glo_ok X G (List.all_eq_true.mp t1 x (List.mem_of_getElem? e))
  have fc : ∀ (i : Nat) {f : He.Fa}, fas[i]? = some f → f.ok K = true := fun i f e => List.all_eq_true.mp t3 f (List.mem_of_getElem? e)
  have cl : Cls K (He.ga K "Net") := He.cls_ok (fc 7 rfl)
  refine { free := fun x hx => He.free_ok X G (List.all_eq_true.mp t2 x hx), most := He.int_ok X G (fc 0 rfl), rnds := He.int_ok X G (fc 1 rfl), low := He.str_ok X G (fc 2 rfl), high := He.str_ok X G (fc 3 rfl), sort := He.str_ok X G (fc 4 rfl), copy := He.str_ok X G (fc 5 rfl), add := He.str_ok X G (fc 6 rfl), paired := ⟨_, g 39 rfl, fun H => He.tupB_ok t4 H⟩, net := g 40 rfl, cls := cl, nL := He.noat_ok (fc 8 rfl), nG := He.noat_ok (fc 9 rfl), crd := ⟨_, creadB_ok t5, cintB_ok t6, cintB_ok t7⟩, tyN := tyB_ok cl t10, make := ?make, gates := ?gates, lanes := ?lanes, plain := ?plain, eqm := ?eqm, d_is_integer := ?k0, d_is_count := ?k1, d_is_list := ?k2, d_is_content := ?k3, d_is_lane := ?k4, d_want_content := ?k5, d_want_content_of := ?k6, d_want_number := ?k7, d_want_many := ?k8, d_want_other := ?k9, d_spread := ?k10, d_farthest := ?k11, d_is_at_most := ?k12, d_raised := ?k13, d_is_gate := ?k14, d_want_gates := ?k15, d_want_few := ?k16, d_want_position := ?k17, d_do_gate := ?k18, d_told_by := ?k19, d_gate_turned := ?k20, d_contents := ?k21, d_passed := ?k22, d_rounds := ?k23, d_Lpot := ?k24, d_Ldraw := ?k25, d_Lpick := ?k26, d_Lgate := ?k27, d_Lgates := ?k28, d_Lcontent := ?k29, d_Labove := ?k30, d_Lchanges := ?k31, d_Lrising_right := ?k32, d_Llead := ?k33, d_Lapart_right := ?k34, d_Lraised_right := ?k35, d_Lplain_right := ?k36, d_Lright := ?k37, d_law := ?k38 }
  case k0 => exact let ⟨fd, F⟩ := c.def_ 0 (d := p0) rfl; ⟨_, fd, F, g 0 rfl⟩
  case k1 => exact let ⟨fd, F⟩ := c.def_ 1 (d := p1) rfl; ⟨_, fd, F, g 1 rfl⟩
  case k2 => exact let ⟨fd, F⟩ := c.def_ 2 (d := p2) rfl; ⟨_, fd, F, g 2 rfl⟩
  case k3 => exact let ⟨fd, F⟩ := c.def_ 3 (d := p3) rfl; ⟨_, fd, F, g 3 rfl⟩
  case k4 => exact let ⟨fd, F⟩ := c.def_ 4 (d := p4) rfl; ⟨_, fd, F, g 4 rfl⟩
  case k5 => exact let ⟨fd, F⟩ := c.def_ 5 (d := p5) rfl; ⟨_, fd, F, g 5 rfl⟩
  case k6 => exact let ⟨fd, F⟩ := c.def_ 6 (d := p6) rfl; ⟨_, fd, F, g 6 rfl⟩
  case k7 => exact let ⟨fd, F⟩ := c.def_ 7 (d := p7) rfl; ⟨_, fd, F, g 7 rfl⟩
  case k8 => exact let ⟨fd, F⟩ := c.def_ 8 (d := p8) rfl; ⟨_, fd, F, g 8 rfl⟩
  case k9 => exact let ⟨fd, F⟩ := c.def_ 9 (d := p9) rfl; ⟨_, fd, F, g 9 rfl⟩
  case k10 => exact let ⟨fd, F⟩ := c.def_ 10 (d := p10) rfl; ⟨_, fd, F, g 10 rfl⟩
  case k11 => exact let ⟨fd, F⟩ := c.def_ 11 (d := p11) rfl; ⟨_, fd, F, g 11 rfl⟩
  case k12 => exact let ⟨fd, F⟩ := c.def_ 12 (d := p12) rfl; ⟨_, fd, F, g 12 rfl⟩
  case k13 => exact let ⟨fd, F⟩ := c.def_ 13 (d := p13) rfl; ⟨_, fd, F, g 13 rfl⟩
  case k14 => exact let ⟨fd, F⟩ := c.def_ 14 (d := p14) rfl; ⟨_, fd, F, g 14 rfl⟩
  case k15 => exact let ⟨fd, F⟩ := c.def_ 15 (d := p15) rfl; ⟨_, fd, F, g 15 rfl⟩
  case k16 => exact let ⟨fd, F⟩ := c.def_ 16 (d := p16) rfl; ⟨_, fd, F, g 16 rfl⟩
  case k17 => exact let ⟨fd, F⟩ := c.def_ 17 (d := p17) rfl; ⟨_, fd, F, g 17 rfl⟩
  case k18 => exact let ⟨fd, F⟩ := c.def_ 18 (d := p18) rfl; ⟨_, fd, F, g 18 rfl⟩
  case k19 => exact let ⟨fd, F⟩ := c.def_ 19 (d := p19) rfl; ⟨_, fd, F, g 19 rfl⟩
  case k20 => exact let ⟨fd, F⟩ := c.def_ 20 (d := p20) rfl; ⟨_, fd, F, g 20 rfl⟩
  case k21 => exact let ⟨fd, F⟩ := c.def_ 21 (d := p21) rfl; ⟨_, fd, F, g 21 rfl⟩
  case k22 => exact let ⟨fd, F⟩ := c.def_ 22 (d := p22) rfl; ⟨_, fd, F, g 22 rfl⟩
  case k23 => exact let ⟨fd, F⟩ := c.def_ 23 (d := p23) rfl; ⟨_, fd, F, g 23 rfl⟩
  case k24 => exact let ⟨fd, F⟩ := c.def_ 24 (d := p24) rfl; ⟨_, fd, F, g 24 rfl⟩
  case k25 => exact let ⟨fd, F⟩ := c.def_ 25 (d := p25) rfl; ⟨_, fd, F, g 25 rfl⟩
  case k26 => exact let ⟨fd, F⟩ := c.def_ 26 (d := p26) rfl; ⟨_, fd, F, g 26 rfl⟩
  case k27 => exact let ⟨fd, F⟩ := c.def_ 27 (d := p27) rfl; ⟨_, fd, F, g 27 rfl⟩
  case k28 => exact let ⟨fd, F⟩ := c.def_ 28 (d := p28) rfl; ⟨_, fd, F, g 28 rfl⟩
  case k29 => exact let ⟨fd, F⟩ := c.def_ 29 (d := p29) rfl; ⟨_, fd, F, g 29 rfl⟩
  case k30 => exact let ⟨fd, F⟩ := c.def_ 30 (d := p30) rfl; ⟨_, fd, F, g 30 rfl⟩
  case k31 => exact let ⟨fd, F⟩ := c.def_ 31 (d := p31) rfl; ⟨_, fd, F, g 31 rfl⟩
  case k32 => exact let ⟨fd, F⟩ := c.def_ 32 (d := p32) rfl; ⟨_, fd, F, g 32 rfl⟩
  case k33 => exact let ⟨fd, F⟩ := c.def_ 33 (d := p33) rfl; ⟨_, fd, F, g 33 rfl⟩
  case k34 => exact let ⟨fd, F⟩ := c.def_ 34 (d := p34) rfl; ⟨_, fd, F, g 34 rfl⟩
  case k35 => exact let ⟨fd, F⟩ := c.def_ 35 (d := p35) rfl; ⟨_, fd, F, g 35 rfl⟩
  case k36 => exact let ⟨fd, F⟩ := c.def_ 36 (d := p36) rfl; ⟨_, fd, F, g 36 rfl⟩
  case k37 => exact let ⟨fd, F⟩ := c.def_ 37 (d := p37) rfl; ⟨_, fd, F, g 37 rfl⟩
  case k38 => exact let ⟨fd, F⟩ := c.def_ 38 (d := p38) rfl; ⟨_, fd, F, g 38 rfl⟩
  case make => exact let ⟨fd, F⟩ := c.def_ 39 (d := p39) rfl; ⟨_, fd, _, He.mkr_ok (fc 10 rfl), rfl, F⟩
  case gates => exact let ⟨fd, F⟩ := c.def_ 40 (d := p40) rfl; ⟨_, fd, He.meth_ok (fc 11 rfl), F⟩
  case lanes =>
    obtain ⟨q, hq⟩ := propB_ok t8
    exact let ⟨fd, F⟩ := c.def_ 41 (d := p41) rfl; ⟨q, _, fd, hq, F⟩
  case plain =>
    obtain ⟨q, hq⟩ := propB_ok t9
    exact let ⟨fd, F⟩ := c.def_ 42 (d := p42) rfl; ⟨q, _, fd, hq, F⟩
  case eqm => exact let ⟨fd, F⟩ := c.def_ 43 (d := p43) rfl; ⟨_, fd, He.meth_ok (fc 12 rfl), F⟩
theorem start_ok {K : PySem.W.Frag} {H : Hp} {a : Addr} {ns : List Int} (hS : SqL K H a (ns.map V.int)) : (F_law K).sp [.ref a] H (fun v _ => v = .bl true) fun _ _ _ => False :=
  ⟨ns, H, Same.refl _, .cons ⟨a, _, rfl, hS, PVs.ofInts ns⟩ .nil, trivial, fun v G' H' _ ⟨b, e, hb⟩ => by rw [e, hb]⟩
theorem facts {P : Program} {w : World} {K : PySem.W.Frag} {h : Heap} {mg : Str → Option Value} {f : Addr} (X : K.In h) (G : h.Ns mainGlobals mg) (hf : mg ("law" : Str) = some (.ref f)) (c : SaysP ex fn K) :
    ∃ fd : FuncData, (∀ (s : Shared) (v : Value), BindsTo s fd ⟨[v], []⟩ [("_law_script", v)]) ∧ ∀ base : Heap, FnOk P w K mg base CX0 9 f fd ["_law_script"] (F_law K).sp := by
  have T := txt X G c
  obtain ⟨f0, fd0, F0, h0⟩ := T.d_law
  have e : f0 = f := by
    rw [h0] at hf
    injection hf with hf
    injection hf
  subst e
  have b := FunD.bindsA (ps := ["_law_script"]) F0 fun _ _ _ _ _ _ us hl => match us, hl with | [_], _ => rfl
  refine ⟨fd0, fun s v => b s [v] rfl, fun base => ?_⟩
  exact ok_law T F0
end LT
open PySem PySem.W PySem.Calls PyProof.Rows
theorem PySem.Challenge.cw_lanelots_k17_whole_facts_of_runs_holds : PySem.Challenge.rw_lanelots_k17_whole_facts_of_runs.Holds := by
  w_on; o_law
  refine HandSHeadRun.head_any (r := OpenLaw.row PySem.Challenge.rw_lanelots_k17_whole_facts_of_runs) (q := view (OpenLaw.row PySem.Challenge.rw_lanelots_k17_whole_facts_of_runs).prog [63]) (H := LT.hk) (ob := LT.ob) (M := 20000) (loose := LT.names) (d := HandSHeadRun.topDef (OpenLaw.row PySem.Challenge.rw_lanelots_k17_whole_facts_of_runs).prog 63) (kwd := []) LT.ob_eq
    (by kernel_rfl) (fun s => by kernel_rfl) LT.run (by kernel_rfl) (by kernel_rfl) (by kernel_rfl) (by rfl) (by first | assumption | decide +kernel) (by decide +kernel) ⟨rfl, rfl, rfl, rfl, rfl, by decide +kernel⟩ ?hw ?hc
  case hw => w_witness2
  case hc =>
    refine L2.walk_ofE (l := PySem.Challenge.rw_lanelots_k17_whole_facts_of_runs) (n := 63) (k := 9) (x := "_law_script") (CX := L2.CX0) rfl (by decide) (by kernel_rfl) ⟨rfl, by decide, by decide⟩ ?F (fun _ _ _ _ z => z)
    intro w mg f h Y G hmg0
    obtain ⟨K, KX, c⟩ := Y
    have hn : (HandSHeadRun.topDef (OpenLaw.row PySem.Challenge.rw_lanelots_k17_whole_facts_of_runs).prog 63).name = ("law" : PySem.Str) := by kernel_rfl
    rw [hn] at hmg0
    obtain ⟨fd, hb, hF⟩ := LT.facts (P := (PySem.Challenge.rw_lanelots_k17_whole_facts_of_runs).prog) (w := w) KX G hmg0 c
    exact ⟨K, fd, (LT.F_law K).sp, KX, hb, fun H a ns hl _ hS => LT.start_ok hS, fun base _ _ => hF base⟩
