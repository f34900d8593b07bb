import PyProof.Rows.All
import Wide.All
import OpenK.AllK
import Wide.FinOn
import HandS.ForMost
import HandS.IsInst
import HandS.Defaults
import HandS.Property
import HandS.ClsMeth
import HandS.NoneIn
import HandS.Style
import HandS.HeadHook1
import PySem.Challenge.RW_lanelots_k19_whole_layers_and_cones
import HandS.SetFor
import HandS.Strs
import HandS.OwnEq
import HandS.Head0
import HandS.Head1
import HandS.Head2
import HandS.HeadEnd
import HandS.HeadHook2
import HandS.Ends
import PyProof.ReprRoads
import KE.KOpsOwn
import KE.KCallOwn
import HandS.Conv
import KE.GoesMore
import HandS.TupAny
import HandS.FStr
import PyProof.InstNe
import HandS.Star
import KE.KStateDown
import HandS.TupMul
import HandS.MakeKwOnly
import HandS.SortInts
import PyProof.SumAny
import HandS.ExcValue
import HandS.Iter
import HandS.RaiseMore
set_option Elab.async false
set_option linter.all false
set_option maxRecDepth 100000
set_option maxHeartbeats 2000000
namespace Dl
open PySem PySem.Spec PyProof.Rows L2

/-! ### heaps that grow: G the part that is known, H the whole -/
structure Grow (M : Addr → Prop) (G H G' H' : Hp) : Prop where
  g : Same G G'
  h : ∀ a o, ¬ M a → H a = some o → H' a = some o
  t : ∀ a, H a ≠ none → H' a ≠ none
  s : Same G' H'
  n : ∀ a, H a ≠ none → G' a = G a
abbrev NoM : Addr → Prop := fun _ => False
abbrev Gr (G H G' H' : Hp) : Prop := Grow NoM G H G' H'
theorem Grow.refl {M : Addr → Prop} {G H : Hp} (s : Same G H) : Grow M G H G H := ⟨Same.refl _, fun _ _ _ e => e, fun _ e => e, s, fun _ _ => rfl⟩
theorem Grow.trans {M : Addr → Prop} {G H G1 H1 G2 H2 : Hp} (a : Grow M G H G1 H1) (b : Grow M G1 H1 G2 H2) : Grow M G H G2 H2 :=
  ⟨a.g.trans b.g, fun c o m e => b.h c o m (a.h c o m e), fun c e => b.t c (a.t c e), b.s, fun c e => (b.n c (a.t c e)).trans (a.n c e)⟩
theorem Grow.mono {M M' : Addr → Prop} {G H G1 H1 : Hp} (a : Grow M G H G1 H1) (h : ∀ b, M b → M' b) : Grow M' G H G1 H1 :=
  ⟨a.g, fun c o m e => a.h c o (fun z => m (h c z)) e, a.t, a.s, a.n⟩
theorem Grow.wide {M : Addr → Prop} {G H G1 H1 : Hp} (a : Gr G H G1 H1) : Grow M G H G1 H1 := a.mono fun _ z => z.elim
theorem Grow.hs {G H G' H' : Hp} (a : Gr G H G' H') : Same H H' := fun b o e => a.h b o (fun z => z) e
theorem Grow.gh {M : Addr → Prop} {G H G' H' : Hp} (a : Grow M G H G' H') : Same G H' := a.g.trans a.s
/-- what was unknown in the heap stays out of the known part -/
theorem Grow.out {M : Addr → Prop} {G H G' H' : Hp} {p : Addr} {o : HO} (a : Grow M G H G' H') (hp : H p = some o) (gp : G p = none) : G' p = none := by
  rw [a.n p (by rw [hp]; exact fun z => nomatch z)]
  exact gp
theorem same_new {H : Hp} {p : Addr} {o : HO} (h : H p = none) : Same H (upd H p o) := fun b x e => by
  rw [upd_ne (ne_of_none e h)]
  exact e
theorem Same.none {H H' : Hp} (e : Same H H') {p : Addr} (h : H' p = none) : H p = none := e.free h
/-- a new object, known from now on -/
theorem Gr.new {G H : Hp} {p : Addr} {o : HO} (s : Same G H) (h : H p = none) : Gr G H (upd G p o) (upd H p o) := by
  have gp : G p = none := s.free h
  refine ⟨same_new gp, fun a u _ e => same_new h a u e, fun a e z => ?_, fun a u e => ?_, fun a e => ?_⟩
  · cases q : H a with
    | none => exact e q
    | some u => rw [same_new h a u q] at z; cases z
  · by_cases q : a = p
    · subst q; rw [upd_same] at e ⊢; exact e
    · rw [upd_ne q] at e ⊢; exact s a u e
  · exact upd_ne fun q => e (by rw [q]; exact h)
/-- a new object that stays out of the known part (it is to be changed) -/
theorem Gr.newOut {G H : Hp} {p : Addr} {o : HO} (s : Same G H) (h : H p = none) : Gr G H G (upd H p o) :=
  ⟨Same.refl _, fun a u _ e => same_new h a u e, fun a e z => (by
    cases q : H a with
    | none => exact e q
    | some u =>
      rw [same_new h a u q] at z
      cases z), s.trans (same_new h), fun _ _ => rfl⟩
/-- what is in the heap and out of the known part is taken in -/
theorem Gr.take {G H G' H' : Hp} {p : Addr} {o : HO} (a : Gr G H G' H') (h : H p = none) (hp : H' p = some o) (gp : G' p = none) : Gr G H (upd G' p o) H' :=
  ⟨a.g.trans (same_new gp), a.h, a.t, fun b u e => by
    by_cases q : b = p
    · subst q; rw [upd_same] at e; rw [hp]; exact e
    · rw [upd_ne q] at e; exact a.s b u e, fun b e => by rw [upd_ne fun q => e (by rw [q]; exact h)]; exact a.n b e⟩

/-! ### what a value is, over the known part -/
structure RV where
  r : Hp → V → Prop
  m : ∀ {G G' : Hp} {v : V}, Same G G' → r G v → r G' v
theorem Paired.imp {α β : Type} {F F' : α → β → Prop} (h : ∀ a b, F a b → F' a b) : ∀ {l : List α} {m : List β}, Paired F l m → Paired F' l m
  | _, _, .nil => .nil
  | _, _, .cons a t => .cons (h _ _ a) (Paired.imp h t)
abbrev PVs (G : Hp) (Rs : List RV) (vs : List V) : Prop := Paired (fun (R : RV) v => R.r G v) Rs vs
theorem PVs.mono {G G' : Hp} (s : Same G G') {Rs : List RV} {vs : List V} (h : PVs G Rs vs) : PVs G' Rs vs := Paired.imp (fun R _ z => R.m s z) h
theorem PVs.len {G : Hp} {Rs : List RV} {vs : List V} (h : PVs G Rs vs) : Rs.length = vs.length := Paired.length h
theorem PVs.get {G : Hp} : ∀ {Rs : List RV} {vs : List V} {i : Nat} {R : RV}, PVs G Rs vs → Rs[i]? = some R → ∃ v, vs[i]? = some v ∧ R.r G v
  | _, _, _, _, .nil, e => by simp at e
  | _, _, 0, _, .cons r _, e => by simp at e; subst e; exact ⟨_, rfl, r⟩
  | _, _, i + 1, R, .cons _ t, e => by
    obtain ⟨u, h1, h2⟩ := PVs.get (i := i) (R := R) t (by simpa using e)
    exact ⟨u, by simpa using h1, h2⟩
theorem PVs.back {G : Hp} : ∀ {Rs : List RV} {vs : List V} {i : Nat} {v : V}, PVs G Rs vs → vs[i]? = some v → ∃ R, Rs[i]? = some R ∧ R.r G v
  | _, _, _, _, .nil, e => by simp at e
  | _, _, 0, _, .cons r _, e => by simp at e; subst e; exact ⟨_, rfl, r⟩
  | _, _, i + 1, R, .cons _ t, e => by
    obtain ⟨u, h1, h2⟩ := PVs.back (i := i) (v := R) t (by simpa using e)
    exact ⟨u, by simpa using h1, h2⟩
theorem PVs.app {G : Hp} : ∀ {Rs Rs' : List RV} {vs vs' : List V}, PVs G Rs vs → PVs G Rs' vs' → PVs G (Rs ++ Rs') (vs ++ vs')
  | _, _, _, _, .nil, h => h
  | _, _, _, _, .cons r t, h => .cons r (PVs.app t h)
theorem PVs.set {G : Hp} {R : RV} {v : V} (r : R.r G v) : ∀ {Rs : List RV} {vs : List V} (i : Nat), PVs G Rs vs → PVs G (Rs.set i R) (vs.set i v)
  | _, _, _, .nil => .nil
  | _, _, 0, .cons _ t => .cons r t
  | _, _, i + 1, .cons q t => .cons q (PVs.set r i t)

def rInt (P : Int → Prop) : RV := ⟨fun _ v => ∃ i, v = .int i ∧ P i, fun _ h => h⟩
def rBool (P : Bool → Prop) : RV := ⟨fun _ v => ∃ b, v = .bl b ∧ P b, fun _ h => h⟩
def rStr (P : Str → Prop) : RV := ⟨fun _ v => ∃ b, v = .str b ∧ P b, fun _ h => h⟩
abbrev iI (n : Int) : RV := rInt fun i => i = n
abbrev iB (b : Bool) : RV := rBool fun c => c = b
abbrev iS (z : Str) : RV := rStr fun c => c = z
def iN : RV := ⟨fun _ v => v = .non, fun _ h => h⟩
/-- one of several, told by what is true of it -/
def rX {α : Type} (P : α → Prop) (R : α → RV) : RV := ⟨fun G v => ∃ x, P x ∧ (R x).r G v, fun s ⟨x, p, h⟩ => ⟨x, p, (R x).m s h⟩⟩
def rLst (K : PySem.W.Frag) (Rs : List RV) : RV := ⟨fun G v => ∃ a vs, v = .ref a ∧ SqL K G a vs ∧ PVs G Rs vs, fun s ⟨a, vs, e, q, p⟩ => ⟨a, vs, e, s.seq q, p.mono s⟩⟩
theorem Same.tup {K : PySem.W.Frag} {H H' : Hp} {a : Addr} {xs : List V} (e : Same H H') (h : SqT K H a xs) : SqT K H' a xs := by
  rcases h with (h | ⟨o, h⟩) | h
  · exact .inl (.inl (e _ _ h))
  · exact .inl (.inr ⟨o, e _ _ h⟩)
  · exact .inr h
def rTup (K : PySem.W.Frag) (Rs : List RV) : RV := ⟨fun G v => ∃ a vs, v = .ref a ∧ SqT K G a vs ∧ PVs G Rs vs, fun s ⟨a, vs, e, q, p⟩ => ⟨a, vs, e, Same.tup s q, p.mono s⟩⟩
/-- R below R' -/
def RV.le (R R' : RV) : Prop := ∀ G v, R.r G v → R'.r G v

/-! ### slots -/
/-- what an object of one's own is, over the known part -/
structure OV where
  r : Hp → Addr → HO → Prop
  m : ∀ {G G' : Hp} {a : Addr} {o : HO}, Same G G' → r G a o → r G' a o
/-- a list, at an address that is so -/
def oT (t : Addr → Prop) (Rs : List RV) : OV := ⟨fun G a o => t a ∧ ∃ vs, o = .lst vs ∧ PVs G Rs vs, fun s ⟨ta, vs, e, p⟩ => ⟨ta, vs, e, p.mono s⟩⟩
abbrev oL (Rs : List RV) : OV := oT (fun _ => True) Rs
/-- .. the very object at p -/
def tie (p : Addr) (O : OV) : OV := ⟨fun G a o => a = p ∧ O.r G a o, fun s ⟨e, h⟩ => ⟨e, O.m s h⟩⟩
inductive Ent where
  | no
  | val (R : RV)
  | mu (O : OV)
abbrev Ent.own (Rs : List RV) : Ent := .mu (oL Rs)
structure Sat (sl : List Ent) (σ : L2.St) (G H : Hp) : Prop where
  sub : Same G H
  val : ∀ (i : Nat) R, sl[i]? = some (.val R) → ∃ v, σ[i]? = some (some v) ∧ R.r G v
  mu : ∀ (i : Nat) O, sl[i]? = some (.mu O) → ∃ p o, σ[i]? = some (some (.ref p)) ∧ H p = some o ∧ G p = none ∧ O.r G p o
  dis : ∀ (i j : Nat) O O', i ≠ j → sl[i]? = some (.mu O) → sl[j]? = some (.mu O') → σ[i]? ≠ σ[j]?
  len : sl.length = σ.length
theorem Sat.own {sl : List Ent} {σ : L2.St} {G H : Hp} (a : Sat sl σ G H) (i : Nat) {t : Addr → Prop} (Rs : List RV) (e : sl[i]? = some (.mu (oT t Rs))) : ∃ p vs, σ[i]? = some (some (.ref p)) ∧ H p = some (.lst vs) ∧ G p = none ∧ PVs G Rs vs := by
  obtain ⟨p, o, h1, h2, h3, _, vs, rfl, h4⟩ := a.mu i _ e
  exact ⟨p, vs, h1, h2, h3, h4⟩
theorem Sat.gr {sl : List Ent} {σ : L2.St} {G H G' H' : Hp} (a : Sat sl σ G H) (g : Gr G H G' H') : Sat sl σ G' H' where
  sub := g.s
  val := fun i R e => let ⟨v, h1, h2⟩ := a.val i R e; ⟨v, h1, R.m g.g h2⟩
  mu := fun i O e => let ⟨p, o, h1, h2, h3, h4⟩ := a.mu i O e; ⟨p, o, h1, g.hs _ _ h2, g.out h2 h3, O.m g.g h4⟩
  dis := a.dis
  len := a.len

/-! ### expressions -/
section
variable {X : Cx} {sl : List Ent}
def Ev (X : Cx) (e : Expr) (sl : List Ent) (R : RV) : Prop := ∀ (pins : List (Addr × Obj)) (s : Shared) (σ : L2.St) (G H : Hp) (Q : VK), Inv X pins σ H s → Sat sl σ G H → (∀ v G' H', Gr G H G' H' → R.r G' v → Q v H') →
  wpAny (model X.prog X.w) X.A (eval e X.env) (EP X pins σ Q) X.xe s
def can (X : Cx) (e : Expr) : TE := fun σ H Q => ∀ (pins : List (Addr × Obj)) (s : Shared), Inv X pins σ H s → wpAny (model X.prog X.w) X.A (eval e X.env) (EP X pins σ Q) X.xe s
theorem pcan {e : Expr} : PE X e (can X e) := ⟨fun pins s _ _ _ I h => h pins s I⟩
theorem Ev.can {e : Expr} {R : RV} {σ : L2.St} {G H : Hp} {Q : VK} (h : Ev X e sl R) (a : Sat sl σ G H) (k : ∀ v G' H', Gr G H G' H' → R.r G' v → Q v H') : can X e σ H Q := fun pins s I => h pins s σ G H Q I a k
theorem ev_of {e : Expr} {t : TE} {R : RV} (h : PE X e t) (r : ∀ σ G H Q, Sat sl σ G H → (∀ v G' H', Gr G H G' H' → R.r G' v → Q v H') → t σ H Q) : Ev X e sl R :=
  fun pins s σ G H Q I a k => h.run pins s σ H Q I (r σ G H Q a k)
theorem Ev.imp {e : Expr} {R R' : RV} (h : Ev X e sl R) (l : R.le R') : Ev X e sl R' := fun pins s σ G H Q I a k => h pins s σ G H Q I a fun v G' H' g r => k v G' H' g (l G' v r)
theorem le_int {P P' : Int → Prop} (h : ∀ z, P z → P' z) : (rInt P).le (rInt P') := fun _ _ ⟨i, e, p⟩ => ⟨i, e, h i p⟩
theorem le_bool {P P' : Bool → Prop} (h : ∀ z, P z → P' z) : (rBool P).le (rBool P') := fun _ _ ⟨i, e, p⟩ => ⟨i, e, h i p⟩
theorem le_x {α : Type} {P P' : α → Prop} {R : α → RV} (h : ∀ z, P z → P' z) : (rX P R).le (rX P' R) := fun _ _ ⟨i, p, e⟩ => ⟨i, h i p, e⟩
theorem le_xi {P : Int → Prop} : (rInt P).le (rX P iI) := fun _ _ ⟨i, e, p⟩ => ⟨i, p, i, e, rfl⟩
theorem le_xs {P : Str → Prop} : (rStr P).le (rX P iS) := fun _ _ ⟨i, e, p⟩ => ⟨i, p, i, e, rfl⟩
theorem le_xb {P : Bool → Prop} : (rBool P).le (rX P iB) := fun _ _ ⟨i, e, p⟩ => ⟨i, p, i, e, rfl⟩
theorem le_in {α : Type} {P : α → Prop} {R : α → RV} {x : α} (h : P x) : (R x).le (rX P R) := fun _ _ r => ⟨x, h, r⟩
theorem Ev.int {e : Expr} {P P' : Int → Prop} (h : Ev X e sl (rInt P)) (l : ∀ z, P z → P' z) : Ev X e sl (rInt P') := h.imp (le_int l)
theorem Ev.bool {e : Expr} {P P' : Bool → Prop} (h : Ev X e sl (rBool P)) (l : ∀ z, P z → P' z) : Ev X e sl (rBool P') := h.imp (le_bool l)
theorem Ev.toI {e : Expr} {n m : Int} (h : Ev X e sl (iI n)) (l : n = m) : Ev X e sl (iI m) := l ▸ h
theorem Ev.toB {e : Expr} {n m : Bool} (h : Ev X e sl (iB n)) (l : n = m) : Ev X e sl (iB m) := l ▸ h

/-- arguments -/
def EvA (X : Cx) (es : List Expr) (sl : List Ent) (Rs : List RV) : Prop := ∀ (pos : Pos) (pins : List (Addr × Obj)) (s : Shared) (σ : L2.St) (G H : Hp) (Q : List V → Hp → Prop), Inv X pins σ H s → Sat sl σ G H →
  (∀ vs G' H', Gr G H G' H' → PVs G' Rs vs → Q vs H') → wpAny (model X.prog X.w) X.A (spliced (backTo pos (starEach es X.env))) (AP X pins σ Q) X.xe s
def canA (X : Cx) (es : List Expr) : TA := fun σ H Q => ∀ (pos : Pos) (pins : List (Addr × Obj)) (s : Shared), Inv X pins σ H s → wpAny (model X.prog X.w) X.A (spliced (backTo pos (starEach es X.env))) (AP X pins σ Q) X.xe s
theorem pcanA {es : List Expr} : PA X es (canA X es) := ⟨fun pos pins s _ _ _ I h => h pos pins s I⟩
theorem EvA.can {es : List Expr} {Rs : List RV} {σ : L2.St} {G H : Hp} {Q : List V → Hp → Prop} (h : EvA X es sl Rs) (a : Sat sl σ G H) (k : ∀ vs G' H', Gr G H G' H' → PVs G' Rs vs → Q vs H') : canA X es σ H Q := fun pos pins s I => h pos pins s σ G H Q I a k
theorem a_nil : EvA X [] sl [] := fun pos pins s σ G H Q I a k => (pa_nil (X := X)).run pos pins s σ H Q I (k [] G H (.refl a.sub) .nil)
theorem a_cons {e : Expr} {es : List Expr} {R : RV} {Rs : List RV} (h : Ev X e sl R) (hs : EvA X es sl Rs) (he : starEach (e :: es) X.env = (false, eval e X.env) :: starEach es X.env := by rfl) : EvA X (e :: es) sl (R :: Rs) :=
  fun pos pins s σ G H Q I a k => (pa_cons (hs := he) (pcan (X := X) (e := e)) (pcanA (es := es))).run pos pins s σ H Q I
    (h.can a fun v G1 H1 g1 r1 => hs.can (a.gr g1) fun vs G2 H2 g2 r2 => k (v :: vs) G2 H2 (g1.trans g2) (.cons (R.m g2.g r1) r2))

/-- tests -/
def EvT (X : Cx) (e : Expr) (sl : List Ent) (P : Bool → Prop) : Prop := ∀ (pins : List (Addr × Obj)) (s : Shared) (σ : L2.St) (G H : Hp) (Q : Bool → Hp → Prop), Inv X pins σ H s → Sat sl σ G H →
  (∀ b G' H', Gr G H G' H' → P b → Q b H') → wpAny (model X.prog X.w) X.A (isTrue e X.env (eval e X.env)) (TP X pins σ Q) X.xe s
def canT (X : Cx) (e : Expr) : TT := fun σ H Q => ∀ (pins : List (Addr × Obj)) (s : Shared), Inv X pins σ H s → wpAny (model X.prog X.w) X.A (isTrue e X.env (eval e X.env)) (TP X pins σ Q) X.xe s
theorem pcanT {e : Expr} : PT X e (canT X e) := ⟨fun pins s _ _ _ I h => h pins s I⟩
theorem EvT.can {e : Expr} {P : Bool → Prop} {σ : L2.St} {G H : Hp} {Q : Bool → Hp → Prop} (h : EvT X e sl P) (a : Sat sl σ G H) (k : ∀ b G' H', Gr G H G' H' → P b → Q b H') : canT X e σ H Q := fun pins s I => h pins s σ G H Q I a k
theorem evT_of {e : Expr} {t : TT} {P : Bool → Prop} (h : PT X e t) (r : ∀ σ G H Q, Sat sl σ G H → (∀ b G' H', Gr G H G' H' → P b → Q b H') → t σ H Q) : EvT X e sl P :=
  fun pins s σ G H Q I a k => h.run pins s σ H Q I (r σ G H Q a k)
theorem EvT.imp {e : Expr} {P P' : Bool → Prop} (h : EvT X e sl P) (l : ∀ b, P b → P' b) : EvT X e sl P' := fun pins s σ G H Q I a k => h pins s σ G H Q I a fun v G' H' g r => k v G' H' g (l v r)
/-- and, or: whatever the whole is -/
def EvW (X : Cx) (e : Expr) (sl : List Ent) (P : Bool → Prop) : Prop := ∀ (whole : Sem Value) (pins : List (Addr × Obj)) (s : Shared) (σ : L2.St) (G H : Hp) (Q : Bool → Hp → Prop), Inv X pins σ H s → Sat sl σ G H →
  (∀ b G' H', Gr G H G' H' → P b → Q b H') → wpAny (model X.prog X.w) X.A (isTrue e X.env whole) (TP X pins σ Q) X.xe s
def canW (X : Cx) (e : Expr) : TT := fun σ H Q => ∀ (whole : Sem Value) (pins : List (Addr × Obj)) (s : Shared), Inv X pins σ H s → wpAny (model X.prog X.w) X.A (isTrue e X.env whole) (TP X pins σ Q) X.xe s
theorem pcanW {e : Expr} : PW X e (canW X e) := ⟨fun wh pins s _ _ _ I h => h wh pins s I⟩
theorem EvW.can {e : Expr} {P : Bool → Prop} {σ : L2.St} {G H : Hp} {Q : Bool → Hp → Prop} (h : EvW X e sl P) (a : Sat sl σ G H) (k : ∀ b G' H', Gr G H G' H' → P b → Q b H') : canW X e σ H Q := fun wh pins s I => h wh pins s σ G H Q I a k
theorem evW_of {e : Expr} {t : TT} {P : Bool → Prop} (h : PW X e t) (r : ∀ σ G H Q, Sat sl σ G H → (∀ b G' H', Gr G H G' H' → P b → Q b H') → t σ H Q) : EvW X e sl P :=
  fun wh pins s σ G H Q I a k => h.run wh pins s σ H Q I (r σ G H Q a k)
theorem EvW.t {e : Expr} {P : Bool → Prop} (h : EvW X e sl P) : EvT X e sl P := fun pins s σ G H Q I a k => h _ pins s σ G H Q I a k
variable {a b c : Expr} {rest : List Expr} {P P' : Bool → Prop} {pos : Pos}
theorem t_and1 (h : EvT X a sl P) : EvW X (.BoolOp .And [a] pos) sl P := evW_of (pw_and1 pcanT) fun σ G H Q z k => h.can z k
theorem t_or1 (h : EvT X a sl P) : EvW X (.BoolOp .Or [a] pos) sl P := evW_of (pw_or1 pcanT) fun σ G H Q z k => h.can z k
theorem t_and (h : EvT X a sl P) (h' : P true → EvW X (.BoolOp .And (b :: rest) pos) sl P') : EvW X (.BoolOp .And (a :: b :: rest) pos) sl (fun z => (P true ∧ P' z) ∨ (P false ∧ z = false)) :=
  evW_of (pw_and pcanT pcanW) fun σ G H Q z k => h.can z fun d G1 H1 g1 p1 => by
    cases d with
    | true => exact iteT ((h' p1).can (z.gr g1) fun d2 G2 H2 g2 p2 => k d2 G2 H2 (g1.trans g2) (.inl ⟨p1, p2⟩))
    | false => exact iteF (k false G1 H1 g1 (.inr ⟨p1, rfl⟩))
theorem t_or (h : EvT X a sl P) (h' : P false → EvW X (.BoolOp .Or (b :: rest) pos) sl P') : EvW X (.BoolOp .Or (a :: b :: rest) pos) sl (fun z => (P false ∧ P' z) ∨ (P true ∧ z = true)) :=
  evW_of (pw_or pcanT pcanW) fun σ G H Q z k => h.can z fun d G1 H1 g1 p1 => by
    cases d with
    | false => exact iteF ((h' p1).can (z.gr g1) fun d2 G2 H2 g2 p2 => k d2 G2 H2 (g1.trans g2) (.inl ⟨p1, p2⟩))
    | true => exact iteT (k true G1 H1 g1 (.inr ⟨p1, rfl⟩))
theorem t_not (h : EvT X a sl P) : EvT X (.UnaryOp .Not a pos) sl (fun z => P (!z)) := evT_of (pt_not pcanT) fun σ G H Q z k => h.can z fun d G1 H1 g1 p1 => k (!d) G1 H1 g1 (by rw [Bool.not_not]; exact p1)
theorem t_val (h : Ev X a sl (rBool P)) (he : ∀ whole, isTrue a X.env whole = (do let v ← whole; standAt a.pos; holding [v] (truthy v)) := by intro _; rfl) : EvT X a sl P :=
  evT_of (pt_val pcan he) fun σ G H Q z k => h.can z fun v G1 H1 g1 ⟨d, e, p⟩ => ⟨d, e, k d G1 H1 g1 p⟩
/-- values -/
theorem e_one {op} {R : RV} (h : Ev X a sl R) : Ev X (.BoolOp op [a] pos) sl R := ev_of (pe_one pcan) fun σ G H Q z k => h.can z k
theorem e_and (h : Ev X a sl (rBool P)) (h' : P true → Ev X (.BoolOp .And (b :: rest) pos) sl (rBool P')) : Ev X (.BoolOp .And (a :: b :: rest) pos) sl (rBool fun z => (P true ∧ P' z) ∨ (P false ∧ z = false)) :=
  ev_of (pe_and pcan pcan) fun σ G H Q z k => h.can z fun v G1 H1 g1 ⟨d, e, p1⟩ => ⟨d, e, by
    cases d with
    | true => exact iteT ((h' p1).can (z.gr g1) fun d2 G2 H2 g2 ⟨d3, e3, p2⟩ => k d2 G2 H2 (g1.trans g2) ⟨d3, e3, .inl ⟨p1, p2⟩⟩)
    | false => exact iteF (k _ G1 H1 g1 ⟨false, rfl, .inr ⟨p1, rfl⟩⟩)⟩
theorem e_or (h : Ev X a sl (rBool P)) (h' : P false → Ev X (.BoolOp .Or (b :: rest) pos) sl (rBool P')) : Ev X (.BoolOp .Or (a :: b :: rest) pos) sl (rBool fun z => (P false ∧ P' z) ∨ (P true ∧ z = true)) :=
  ev_of (pe_or pcan pcan) fun σ G H Q z k => h.can z fun v G1 H1 g1 ⟨d, e, p1⟩ => ⟨d, e, by
    cases d with
    | false => exact iteF ((h' p1).can (z.gr g1) fun d2 G2 H2 g2 ⟨d3, e3, p2⟩ => k d2 G2 H2 (g1.trans g2) ⟨d3, e3, .inl ⟨p1, p2⟩⟩)
    | true => exact iteT (k _ G1 H1 g1 ⟨true, rfl, .inr ⟨p1, rfl⟩⟩)⟩
theorem e_not (h : Ev X a sl (rBool P)) : Ev X (.UnaryOp .Not a pos) sl (rBool fun z => P (!z)) := ev_of (pe_not pcan) fun σ G H Q z k => h.can z fun v G1 H1 g1 ⟨d, e, p1⟩ => ⟨d, e, k _ G1 H1 g1 ⟨!d, rfl, by show P (!!d); rw [Bool.not_not]; exact p1⟩⟩
theorem e_if {R : RV} (h : EvT X c sl P) (h1 : P true → Ev X a sl R) (h2 : P false → Ev X b sl R) : Ev X (.IfExp c a b pos) sl R :=
  ev_of (pe_ifExp pcanT pcan pcan) fun σ G H Q z k => h.can z fun d G1 H1 g1 p1 => by
    cases d with
    | true => exact iteT ((h1 p1).can (z.gr g1) fun v G2 H2 g2 r => k v G2 H2 (g1.trans g2) r)
    | false => exact iteF ((h2 p1).can (z.gr g1) fun v G2 H2 g2 r => k v G2 H2 (g1.trans g2) r)
/-- names, constants -/
theorem e_var (i : Nat) {x : Str} {R : RV} (h : sl[i]? = some (.val R) := by rfl) (hN : X.N[i]? = some x := by rfl) (hv : Vis X.env.scope x := by first | exact Or.inl rfl | exact Or.inr (Or.inl rfl) | exact Or.inr (Or.inr rfl)) (hd : (x == ("__debug__" : Str)) = false := by decide)
    (hcd : (x == ("__classdict__" : Str)) = false := by decide) : Ev X (.Name x pos) sl R := ev_of (pe_var hN hv hd hcd) fun σ G H Q z k => by
  obtain ⟨v, e, r⟩ := z.val i R h
  exact ⟨v, e, k v G H (.refl z.sub) r⟩
theorem e_int {i : Int} {j} : Ev X (.Constant (.int i) j pos) sl (iI i) := ev_of pe_int fun σ G H Q z k => k _ G H (.refl z.sub) ⟨i, rfl, rfl⟩
theorem e_bl {i : Bool} {j} : Ev X (.Constant (.bool i) j pos) sl (iB i) := ev_of pe_bl fun σ G H Q z k => k _ G H (.refl z.sub) ⟨i, rfl, rfl⟩
theorem e_str {i : Str} {j} : Ev X (.Constant (.str i) j pos) sl (iS i) := ev_of pe_str fun σ G H Q z k => k _ G H (.refl z.sub) ⟨i, rfl, rfl⟩
theorem e_non {j} : Ev X (.Constant .none j pos) sl iN := ev_of pe_non fun σ G H Q z k => k _ G H (.refl z.sub) rfl
theorem e_glob {x : Str} {v : V} {u : Value} {R : RV} (hm : X.mg x = some u) (r : RelV v u) (hR : ∀ G, R.r G v) (hg : Gl X x := by rfl) (hd : (x == ("__debug__" : Str)) = false := by decide) : Ev X (.Name x pos) sl R :=
  ev_of (pe_glob hg hm r hd) fun σ G H Q z k => k _ G H (.refl z.sub) (hR G)
/-- two places -/
theorem e_bin {op : Operator} {r : R2} {Ra Rb R : RV} (ho : OpR X (binaryOp op) r) (ha : Ev X a sl Ra) (hb : Ev X b sl Rb)
    (hr : ∀ x y G H Q, Same G H → Ra.r G x → Rb.r G y → (∀ v G' H', Gr G H G' H' → R.r G' v → Q v H') → r x y H Q) : Ev X (.BinOp a op b pos) sl R :=
  ev_of (pe_op ho pcan pcan) fun σ G H Q z k => ha.can z fun x G1 H1 g1 rx => hb.can (z.gr g1) fun y G2 H2 g2 ry => hr x y G2 H2 Q g2.s (Ra.m g2.g rx) ry fun v G' H' g rv => k v G' H' ((g1.trans g2).trans g) rv
theorem e_cmp {op : CmpOp} {r : R2} {Ra Rb R : RV} (ho : OpR X (compareOp op) r) (hm : behindInMarks op b = false) (ha : Ev X a sl Ra) (hb : Ev X b sl Rb)
    (hr : ∀ x y G H Q, Same G H → Ra.r G x → Rb.r G y → (∀ v G' H', Gr G H G' H' → R.r G' v → Q v H') → r x y H Q) : Ev X (.Compare a [op] [b] pos) sl R :=
  ev_of (pe_cmpR ho pcan pcan hm) fun σ G H Q z k => ha.can z fun x G1 H1 g1 rx => hb.can (z.gr g1) fun y G2 H2 g2 ry => hr x y G2 H2 Q g2.s (Ra.m g2.g rx) ry fun v G' H' g rv => k v G' H' ((g1.trans g2).trans g) rv
theorem t_cmp {op : CmpOp} {r : R2} {Ra Rb : RV} (ho : OpR X (compareOp op) r) (hm : behindInMarks op b = false) (ha : Ev X a sl Ra) (hb : Ev X b sl Rb)
    (hr : ∀ x y G H Q, Same G H → Ra.r G x → Rb.r G y → (∀ v G' H', Gr G H G' H' → (rBool P).r G' v → Q v H') → r x y H Q) : EvT X (.Compare a [op] [b] pos) sl P :=
  evT_of (pt_cmpR ho pcan pcan hm) fun σ G H Q z k => ha.can z fun x G1 H1 g1 rx => hb.can (z.gr g1) fun y G2 H2 g2 ry => hr x y G2 H2 _ g2.s (Ra.m g2.g rx) ry fun v G' H' g ⟨d, e, p⟩ => ⟨d, e, k d G' H' ((g1.trans g2).trans g) p⟩
variable {A B C : Int → Prop}
theorem ri0 {g : Int → Int → Int} (h : ∀ x y, A x → B y → C (g x y)) : ∀ x y G H (Q : VK), Same G H → (rInt A).r G x → (rInt B).r G y → (∀ v G' H', Gr G H G' H' → (rInt C).r G' v → Q v H') → rI0 (fun i j => .int (g i j)) x y H Q :=
  fun _ _ G H Q s ⟨i, e, p⟩ ⟨j, e', p'⟩ k => ⟨i, j, e, e', k _ G H (.refl s) ⟨_, rfl, h i j p p'⟩⟩
theorem ri {c : Int → Int → Prop} {g : Int → Int → Int} (h : ∀ x y, A x → B y → c x y ∧ C (g x y)) : ∀ x y G H (Q : VK), Same G H → (rInt A).r G x → (rInt B).r G y → (∀ v G' H', Gr G H G' H' → (rInt C).r G' v → Q v H') → rI c (fun i j => .int (g i j)) x y H Q :=
  fun _ _ G H Q s ⟨i, e, p⟩ ⟨j, e', p'⟩ k => ⟨i, j, e, e', (h i j p p').1, k _ G H (.refl s) ⟨_, rfl, (h i j p p').2⟩⟩
theorem rb0 {g : Int → Int → Bool} (h : ∀ x y, A x → B y → P (g x y)) : ∀ x y G H (Q : VK), Same G H → (rInt A).r G x → (rInt B).r G y → (∀ v G' H', Gr G H G' H' → (rBool P).r G' v → Q v H') → rI0 (fun i j => .bl (g i j)) x y H Q :=
  fun _ _ G H Q s ⟨i, e, p⟩ ⟨j, e', p'⟩ k => ⟨i, j, e, e', k _ G H (.refl s) ⟨_, rfl, h i j p p'⟩⟩
theorem e_addP (ha : Ev X a sl (rInt A)) (hb : Ev X b sl (rInt B)) (h : ∀ x y, A x → B y → C (x + y)) : Ev X (.BinOp a .Add b pos) sl (rInt C) := e_bin op_add ha hb (ri0 h)
theorem e_subP (ha : Ev X a sl (rInt A)) (hb : Ev X b sl (rInt B)) (h : ∀ x y, A x → B y → C (x - y)) : Ev X (.BinOp a .Sub b pos) sl (rInt C) := e_bin op_sub ha hb (ri0 h)
theorem e_mulP (ha : Ev X a sl (rInt A)) (hb : Ev X b sl (rInt B)) (h : ∀ x y, A x → B y → CMul x y ∧ C (x * y)) : Ev X (.BinOp a .Mult b pos) sl (rInt C) := e_bin op_mul ha hb (ri h)
theorem e_modP (ha : Ev X a sl (rInt A)) (hb : Ev X b sl (rInt B)) (h : ∀ x y, A x → B y → 0 < y ∧ C (x % y)) : Ev X (.BinOp a .Mod b pos) sl (rInt C) := e_bin op_mod ha hb (ri h)
theorem e_divP (ha : Ev X a sl (rInt A)) (hb : Ev X b sl (rInt B)) (h : ∀ x y, A x → B y → CDiv x y ∧ C (x / y)) : Ev X (.BinOp a .FloorDiv b pos) sl (rInt C) := e_bin op_fdiv ha hb (ri h)
theorem e_powP (ha : Ev X a sl (rInt A)) (hb : Ev X b sl (rInt B)) (h : ∀ x y, A x → B y → CPow x y ∧ C (x ^ y.toNat)) : Ev X (.BinOp a .Pow b pos) sl (rInt C) := e_bin op_pow ha hb (ri h)
theorem e_negP (ha : Ev X a sl (rInt A)) (h : ∀ x, A x → C (-x)) : Ev X (.UnaryOp .USub a pos) sl (rInt C) := ev_of (pe_un un_neg pcan) fun σ G H Q z k => ha.can z fun x G1 H1 g1 ⟨i, e, p⟩ => ⟨i, e, k _ G1 H1 g1 ⟨_, rfl, h i p⟩⟩
theorem e_ltP (ha : Ev X a sl (rInt A)) (hb : Ev X b sl (rInt B)) (h : ∀ x y, A x → B y → P (decide (x < y))) : Ev X (.Compare a [.Lt] [b] pos) sl (rBool P) := e_cmp op_lt (nomark _) ha hb (rb0 h)
theorem e_leP (ha : Ev X a sl (rInt A)) (hb : Ev X b sl (rInt B)) (h : ∀ x y, A x → B y → P (decide (x ≤ y))) : Ev X (.Compare a [.LtE] [b] pos) sl (rBool P) := e_cmp op_le (nomark _) ha hb (rb0 h)
theorem e_gtP (ha : Ev X a sl (rInt A)) (hb : Ev X b sl (rInt B)) (h : ∀ x y, A x → B y → P (decide (y < x))) : Ev X (.Compare a [.Gt] [b] pos) sl (rBool P) := e_cmp op_gt (nomark _) ha hb (rb0 h)
theorem e_geP (ha : Ev X a sl (rInt A)) (hb : Ev X b sl (rInt B)) (h : ∀ x y, A x → B y → P (decide (y ≤ x))) : Ev X (.Compare a [.GtE] [b] pos) sl (rBool P) := e_cmp op_ge (nomark _) ha hb (rb0 h)
theorem t_ltP (ha : Ev X a sl (rInt A)) (hb : Ev X b sl (rInt B)) (h : ∀ x y, A x → B y → P (decide (x < y))) : EvT X (.Compare a [.Lt] [b] pos) sl P := t_cmp op_lt (nomark _) ha hb (rb0 h)
theorem t_leP (ha : Ev X a sl (rInt A)) (hb : Ev X b sl (rInt B)) (h : ∀ x y, A x → B y → P (decide (x ≤ y))) : EvT X (.Compare a [.LtE] [b] pos) sl P := t_cmp op_le (nomark _) ha hb (rb0 h)
theorem t_gtP (ha : Ev X a sl (rInt A)) (hb : Ev X b sl (rInt B)) (h : ∀ x y, A x → B y → P (decide (y < x))) : EvT X (.Compare a [.Gt] [b] pos) sl P := t_cmp op_gt (nomark _) ha hb (rb0 h)
theorem t_geP (ha : Ev X a sl (rInt A)) (hb : Ev X b sl (rInt B)) (h : ∀ x y, A x → B y → P (decide (y ≤ x))) : EvT X (.Compare a [.GtE] [b] pos) sl P := t_cmp op_ge (nomark _) ha hb (rb0 h)
theorem rEqI (h : ∀ x y, A x → B y → P (decide (x = y))) : ∀ x y G H (Q : VK), Same G H → (rInt A).r G x → (rInt B).r G y → (∀ v G' H', Gr G H G' H' → (rBool P).r G' v → Q v H') → rEq x y H Q := by
  rintro _ _ G H Q s ⟨i, rfl, p⟩ ⟨j, rfl, p'⟩ k
  refine ⟨rfl, k _ G H (.refl s) ⟨_, rfl, ?_⟩⟩
  have e : decide (V.int i = V.int j) = decide (i = j) := by
    by_cases q : i = j
    · subst q; rw [decide_eq_true rfl, decide_eq_true rfl]
    · rw [decide_eq_false q, decide_eq_false fun z => q (V.int.inj z)]
  rw [e]
  exact h i j p p'
theorem rNeI (h : ∀ x y, A x → B y → P (!decide (x = y))) : ∀ x y G H (Q : VK), Same G H → (rInt A).r G x → (rInt B).r G y → (∀ v G' H', Gr G H G' H' → (rBool P).r G' v → Q v H') → rNe x y H Q := by
  rintro _ _ G H Q s ⟨i, rfl, p⟩ ⟨j, rfl, p'⟩ k
  refine ⟨rfl, k _ G H (.refl s) ⟨_, rfl, ?_⟩⟩
  have e : decide (V.int i = V.int j) = decide (i = j) := by
    by_cases q : i = j
    · subst q; rw [decide_eq_true rfl, decide_eq_true rfl]
    · rw [decide_eq_false q, decide_eq_false fun z => q (V.int.inj z)]
  rw [e]
  exact h i j p p'
variable {A' B' : Str → Prop}
theorem rEqS (h : ∀ x y, A' x → B' y → P (decide (x = y))) : ∀ x y G H (Q : VK), Same G H → (rStr A').r G x → (rStr B').r G y → (∀ v G' H', Gr G H G' H' → (rBool P).r G' v → Q v H') → rEq x y H Q := by
  rintro _ _ G H Q s ⟨i, rfl, p⟩ ⟨j, rfl, p'⟩ k
  refine ⟨rfl, k _ G H (.refl s) ⟨_, rfl, ?_⟩⟩
  have e : decide (V.str i = V.str j) = decide (i = j) := by
    by_cases q : i = j
    · subst q; rw [decide_eq_true rfl, decide_eq_true rfl]
    · rw [decide_eq_false q, decide_eq_false fun z => q (V.str.inj z)]
  rw [e]
  exact h i j p p'
theorem rNeS (h : ∀ x y, A' x → B' y → P (!decide (x = y))) : ∀ x y G H (Q : VK), Same G H → (rStr A').r G x → (rStr B').r G y → (∀ v G' H', Gr G H G' H' → (rBool P).r G' v → Q v H') → rNe x y H Q := by
  rintro _ _ G H Q s ⟨i, rfl, p⟩ ⟨j, rfl, p'⟩ k
  refine ⟨rfl, k _ G H (.refl s) ⟨_, rfl, ?_⟩⟩
  have e : decide (V.str i = V.str j) = decide (i = j) := by
    by_cases q : i = j
    · subst q; rw [decide_eq_true rfl, decide_eq_true rfl]
    · rw [decide_eq_false q, decide_eq_false fun z => q (V.str.inj z)]
  rw [e]
  exact h i j p p'
theorem e_eqI (ha : Ev X a sl (rInt A)) (hb : Ev X b sl (rInt B)) (h : ∀ x y, A x → B y → P (decide (x = y))) : Ev X (.Compare a [.Eq] [b] pos) sl (rBool P) := e_cmp op_eq (nomark _) ha hb (rEqI h)
theorem t_eqI (ha : Ev X a sl (rInt A)) (hb : Ev X b sl (rInt B)) (h : ∀ x y, A x → B y → P (decide (x = y))) : EvT X (.Compare a [.Eq] [b] pos) sl P := t_cmp op_eq (nomark _) ha hb (rEqI h)
theorem e_neI (ha : Ev X a sl (rInt A)) (hb : Ev X b sl (rInt B)) (h : ∀ x y, A x → B y → P (!decide (x = y))) : Ev X (.Compare a [.NotEq] [b] pos) sl (rBool P) := e_cmp op_ne (nomark _) ha hb (rNeI h)
theorem t_neI (ha : Ev X a sl (rInt A)) (hb : Ev X b sl (rInt B)) (h : ∀ x y, A x → B y → P (!decide (x = y))) : EvT X (.Compare a [.NotEq] [b] pos) sl P := t_cmp op_ne (nomark _) ha hb (rNeI h)
theorem e_eqS (ha : Ev X a sl (rStr A')) (hb : Ev X b sl (rStr B')) (h : ∀ x y, A' x → B' y → P (decide (x = y))) : Ev X (.Compare a [.Eq] [b] pos) sl (rBool P) := e_cmp op_eq (nomark _) ha hb (rEqS h)
theorem t_eqS (ha : Ev X a sl (rStr A')) (hb : Ev X b sl (rStr B')) (h : ∀ x y, A' x → B' y → P (decide (x = y))) : EvT X (.Compare a [.Eq] [b] pos) sl P := t_cmp op_eq (nomark _) ha hb (rEqS h)
theorem e_neS (ha : Ev X a sl (rStr A')) (hb : Ev X b sl (rStr B')) (h : ∀ x y, A' x → B' y → P (!decide (x = y))) : Ev X (.Compare a [.NotEq] [b] pos) sl (rBool P) := e_cmp op_ne (nomark _) ha hb (rNeS h)
theorem t_neS (ha : Ev X a sl (rStr A')) (hb : Ev X b sl (rStr B')) (h : ∀ x y, A' x → B' y → P (!decide (x = y))) : EvT X (.Compare a [.NotEq] [b] pos) sl P := t_cmp op_ne (nomark _) ha hb (rNeS h)
end
end Dl


set_option Elab.async false
set_option linter.all false
set_option maxRecDepth 100000
set_option maxHeartbeats 2000000
namespace Dl
open PySem PySem.Spec PyProof.Rows L2

/-! ### results: a value, a new list that is nobody else's, one of several -/
inductive Res : Type 1 where
  | v (R : RV)
  | l (Rs : List RV)
  | m (O : OV)
  | x {α : Type} (P : α → Prop) (f : α → Res)
def Post (G H : Hp) (Q : VK) : Res → Prop
  | .v R => ∀ v G' H', Gr G H G' H' → R.r G' v → Q v H'
  | .l Rs => ∀ p vs G' H', Gr G H G' H' → H p = none → G' p = none → H' p = some (.lst vs) → PVs G' Rs vs → Q (.ref p) H'
  | .m O => ∀ p o G' H', Gr G H G' H' → H p = none → G' p = none → H' p = some o → O.r G' p o → Q (.ref p) H'
  | .x P f => ∀ x, P x → Post G H Q (f x)
theorem Post.gr {G H G1 H1 : Hp} {Q : VK} (g : Gr G H G1 H1) : ∀ {r : Res}, Post G H Q r → Post G1 H1 Q r
  | .v _, h => fun v G' H' g' r => h v G' H' (g.trans g') r
  | .l _, h => fun p vs G' H' g' n1 n2 e r => h p vs G' H' (g.trans g') (g.hs.free n1) n2 e r
  | .m _, h => fun p vs G' H' g' n1 n2 e r => h p vs G' H' (g.trans g') (g.hs.free n1) n2 e r
  | .x _ f, h => fun x p => Post.gr g (h x p)
theorem Post.imp {G H : Hp} {Q Q' : VK} (q : ∀ v H', Q v H' → Q' v H') : ∀ {r : Res}, Post G H Q r → Post G H Q' r
  | .v _, h => fun v G' H' g' r => q _ _ (h v G' H' g' r)
  | .l _, h => fun p vs G' H' g' n1 n2 e r => q _ _ (h p vs G' H' g' n1 n2 e r)
  | .m _, h => fun p vs G' H' g' n1 n2 e r => q _ _ (h p vs G' H' g' n1 n2 e r)
  | .x _ f, h => fun x p => Post.imp q (h x p)
section
variable {X : Cx} {sl : List Ent}
def EvR (X : Cx) (e : Expr) (sl : List Ent) (r : Res) : Prop := ∀ (pins : List (Addr × Obj)) (s : Shared) (σ : L2.St) (G H : Hp) (Q : VK), Inv X pins σ H s → Sat sl σ G H → Post G H Q r →
  wpAny (model X.prog X.w) X.A (eval e X.env) (EP X pins σ Q) X.xe s
theorem EvR.can {e : Expr} {r : Res} {σ : L2.St} {G H : Hp} {Q : VK} (h : EvR X e sl r) (a : Sat sl σ G H) (k : Post G H Q r) : can X e σ H Q := fun pins s I => h pins s σ G H Q I a k
theorem evR_of {e : Expr} {t : TE} {R : Res} (h : PE X e t) (r : ∀ σ G H Q, Sat sl σ G H → Post G H Q R → t σ H Q) : EvR X e sl R :=
  fun pins s σ G H Q I a k => h.run pins s σ H Q I (r σ G H Q a k)
theorem Ev.r {e : Expr} {R : RV} (h : Ev X e sl R) : EvR X e sl (.v R) := h
theorem EvR.v {e : Expr} {R : RV} (h : EvR X e sl (.v R)) : Ev X e sl R := h
/-- a new list as a value -/
theorem EvR.lst {e : Expr} {Rs : List RV} (h : EvR X e sl (.l Rs)) : Ev X e sl (rLst X.K Rs) := fun pins s σ G H Q I a k => h pins s σ G H Q I a fun p vs G' H' g n1 n2 e r =>
  k _ _ _ (Gr.take g n1 e n2) ⟨p, vs, rfl, SqL.of upd_same, r.mono (same_new n2)⟩
/-- one of several as a value -/
theorem EvR.x {e : Expr} {α : Type} {P : α → Prop} {R : α → RV} (h : EvR X e sl (.x P fun x => .v (R x))) : Ev X e sl (rX P R) := fun pins s σ G H Q I a k => h pins s σ G H Q I a fun x p v G' H' g r => k v G' H' g ⟨x, p, r⟩
theorem Ev.ofX {e : Expr} {α : Type} {P : α → Prop} {R : α → RV} (h : Ev X e sl (rX P R)) : EvR X e sl (.x P fun x => .v (R x)) := fun pins s σ G H Q I a k => h pins s σ G H Q I a fun v G' H' g ⟨x, p, r⟩ => k x p v G' H' g r
theorem EvR.xl {e : Expr} {α : Type} {P : α → Prop} {Rs : α → List RV} (h : EvR X e sl (.x P fun x => .l (Rs x))) : Ev X e sl (rX P fun x => rLst X.K (Rs x)) := fun pins s σ G H Q I a k => h pins s σ G H Q I a fun x px p vs G' H' g n1 n2 e r =>
  k _ _ _ (Gr.take g n1 e n2) ⟨x, px, p, vs, rfl, SqL.of upd_same, r.mono (same_new n2)⟩
end

/-! ### defs -/
structure Fn (α : Type) where
  ps : List Str
  args : α → List RV
  pre : α → Prop
  res : α → Res
def Fn.sp {α : Type} (F : Fn α) : Sp := fun vs H Q _ => ∃ x G, Same G H ∧ PVs G (F.args x) vs ∧ F.pre x ∧ Post G H Q (F.res x)
structure Has (P : Program) (w : World) (K : PySem.W.Frag) (mg : Str → Option Value) (base : Heap) (k : Nat) (x : Str) {α : Type} (F : Fn α) : Prop where
  ex : ∃ f fd, mg x = some (.ref f) ∧ PySem.W.keepIn K (.ref f) = true ∧ Binds K fd F.ps [] ∧ FnOk P w K mg base CX0 k f fd F.ps F.sp
section
variable {X : Cx} {sl : List Ent} {k : Nat} {x : Str} {α : Type} {F : Fn α} {p pos : Pos} {e : Expr} {es : List Expr}
theorem e_call (h : Has X.prog X.w X.K X.mg X.base k x F) (hr : Room k X.A) (z : α) (ha : EvA X (e :: es) sl (F.args z)) (hp : F.pre z) (hg : Gl X x := by rfl) (hdb : (x == ("__debug__" : Str)) = false := by decide)
    (he : starEach (e :: es) X.env = (false, eval e X.env) :: starEach es X.env := by rfl) (hpl : (backTo pos (starEach es X.env)).any (·.1) = false := by rfl) : EvR X (.Call (.Name x p) (e :: es) [] pos) sl (F.res z) := by
  obtain ⟨f, fd, hm, hk, hb, ok⟩ := h.ex
  refine evR_of (pe_call ok hr hg hm hk hb .nil pass0 pcanA hdb he hpl) fun σ G H Q a q => ?_
  refine ha.can a fun vs G' H' g r => ?_
  refine ⟨z, G', g.s, ?_, hp, q.gr g⟩
  rw [List.append_nil]
  exact r
theorem e_call0 (h : Has X.prog X.w X.K X.mg X.base k x F) (hr : Room k X.A) (z : α) (ha : F.args z = []) (hp : F.pre z) (hg : Gl X x := by rfl) (hdb : (x == ("__debug__" : Str)) = false := by decide) : EvR X (.Call (.Name x p) [] [] pos) sl (F.res z) := by
  obtain ⟨f, fd, hm, hk, hb, ok⟩ := h.ex
  refine evR_of (pe_call0 ok hr hg hm hk hb .nil pass0 hdb) fun σ G H Q a q => ?_
  exact ⟨z, G, a.sub, by rw [ha]; exact .nil, hp, q⟩
end

/-! ### statements -/
structure Base where
  G : Hp
  H : Hp
  M : Addr → Prop
structure At (B : Base) (L : Hp) (sl : List Ent) (σ : L2.St) (G H : Hp) : Prop where
  sat : Sat sl σ G H
  gr : Grow B.M B.G B.H G H
  lo : Same L G
  ow : ∀ (i : Nat) O p, sl[i]? = some (.mu O) → σ[i]? = some (some (.ref p)) → B.M p ∨ B.H p = none
theorem At.go {B : Base} {L : Hp} {sl : List Ent} {σ : L2.St} {G H G' H' : Hp} (a : At B L sl σ G H) (g : Gr G H G' H') : At B L sl σ G' H' := ⟨a.sat.gr g, a.gr.trans g.wide, a.lo.trans g.g, a.ow⟩
theorem At.down {B : Base} {L L' : Hp} {sl : List Ent} {σ : L2.St} {G H : Hp} (a : At B L sl σ G H) (h : Same L' L) : At B L' sl σ G H := ⟨a.sat, a.gr, h.trans a.lo, a.ow⟩
theorem getElem?_set_cases {α : Type} {l : List α} {i j : Nat} {x y : α} (h : (l.set i x)[j]? = some y) : (j = i ∧ y = x) ∨ (j ≠ i ∧ l[j]? = some y) := by
  by_cases e : j = i
  · subst e
    rw [List.getElem?_set] at h
    split at h
    · split at h
      · exact .inl ⟨rfl, (Option.some.inj h).symm⟩
      · cases h
    · rename_i q; exact absurd rfl q
  · rw [List.getElem?_set_ne (Ne.symm e)] at h
    exact .inr ⟨e, h⟩
theorem Sat.set {sl : List Ent} {σ : L2.St} {G H : Hp} (a : Sat sl σ G H) (i : Nat) {R : RV} {v : V} (r : R.r G v) : Sat (sl.set i (.val R)) (σ.set i (some v)) G H where
  sub := a.sub
  val := fun j R' e => by
    rcases getElem?_set_cases e with ⟨rfl, e2⟩ | ⟨ne, e2⟩
    · cases e2
      have hl : j < sl.length := by
        have := (List.getElem?_eq_some_iff.mp e).1
        rw [List.length_set] at this
        exact this
      exact ⟨v, by rw [List.getElem?_set_self (by rw [← a.len]; exact hl)], r⟩
    · obtain ⟨u, h1, h2⟩ := a.val j R' e2
      exact ⟨u, by rw [List.getElem?_set_ne (Ne.symm ne)]; exact h1, h2⟩
  mu := fun j Rs e => by
    rcases getElem?_set_cases e with ⟨rfl, e2⟩ | ⟨ne, e2⟩
    · cases e2
    · obtain ⟨p, vs, h1, h2⟩ := a.mu j Rs e2
      exact ⟨p, vs, by rw [List.getElem?_set_ne (Ne.symm ne)]; exact h1, h2⟩
  dis := fun j l Rs Rs' ne e1 e2 => by
    rcases getElem?_set_cases e1 with ⟨_, q⟩ | ⟨n1, q1⟩
    · cases q
    · rcases getElem?_set_cases e2 with ⟨_, q⟩ | ⟨n2, q2⟩
      · cases q
      · rw [List.getElem?_set_ne (Ne.symm n1), List.getElem?_set_ne (Ne.symm n2)]
        exact a.dis j l Rs Rs' ne q1 q2
  len := by rw [List.length_set, List.length_set]; exact a.len
theorem At.set {B : Base} {L : Hp} {sl : List Ent} {σ : L2.St} {G H : Hp} (a : At B L sl σ G H) (i : Nat) {R : RV} {v : V} (r : R.r G v) : At B L (sl.set i (.val R)) (σ.set i (some v)) G H :=
  ⟨a.sat.set i r, a.gr, a.lo, fun j Rs p e1 e2 => by
    rcases getElem?_set_cases e1 with ⟨_, q⟩ | ⟨n1, q1⟩
    · cases q
    · rw [List.getElem?_set_ne (Ne.symm n1)] at e2
      exact a.ow j Rs p q1 e2⟩
/-- a new list of one's own in a slot -/
theorem At.setMut {B : Base} {L : Hp} {sl : List Ent} {σ : L2.St} {G H G' H' : Hp} (a : At B L sl σ G H) (g : Gr G H G' H') (i : Nat) {O : OV} {p : Addr} {o : HO} (n1 : H p = none) (n2 : G' p = none) (e : H' p = some o) (r : O.r G' p o) :
    At B L (sl.set i (.mu O)) (σ.set i (some (.ref p))) G' H' := by
  have b := a.go g
  have hb : B.H p = none := by
    cases q : B.H p with
    | none => rfl
    | some o => exact absurd n1 (a.gr.t p (by rw [q]; exact fun z => nomatch z))
  have npo : ∀ (j : Nat) Rs', sl[j]? = some (.mu Rs') → σ[j]? ≠ some (some (.ref p)) := fun j Rs' ej z => by
    obtain ⟨q, ws, h1, h2, _⟩ := a.sat.mu j Rs' ej
    rw [h1] at z
    cases z
    rw [n1] at h2
    cases h2
  refine ⟨⟨b.sat.sub, fun j R ej => ?_, fun j Rs' ej => ?_, fun j l Rs1 Rs2 ne e1 e2 => ?_, by rw [List.length_set, List.length_set]; exact a.sat.len⟩, b.gr, b.lo, fun j Rs' q ej eq => ?_⟩
  · rcases getElem?_set_cases ej with ⟨_, z⟩ | ⟨n, z⟩
    · cases z
    · obtain ⟨u, h1, h2⟩ := b.sat.val j R z
      exact ⟨u, by rw [List.getElem?_set_ne (Ne.symm n)]; exact h1, h2⟩
  · rcases getElem?_set_cases ej with ⟨rfl, z⟩ | ⟨n, z⟩
    · cases z
      have hl : j < sl.length := by
        have := (List.getElem?_eq_some_iff.mp ej).1
        rw [List.length_set] at this
        exact this
      exact ⟨p, o, by rw [List.getElem?_set_self (by rw [← a.sat.len]; exact hl)], e, n2, r⟩
    · obtain ⟨q, ws, h1, h2⟩ := b.sat.mu j Rs' z
      exact ⟨q, ws, by rw [List.getElem?_set_ne (Ne.symm n)]; exact h1, h2⟩
  · rcases getElem?_set_cases e1 with ⟨rfl, z1⟩ | ⟨n1', z1⟩
    · rcases getElem?_set_cases e2 with ⟨rfl, z2⟩ | ⟨n2', z2⟩
      · exact absurd rfl ne
      · have hl : j < σ.length := by
          have := (List.getElem?_eq_some_iff.mp e1).1
          rw [List.length_set, a.sat.len] at this
          exact this
        rw [List.getElem?_set_self hl, List.getElem?_set_ne (Ne.symm n2')]
        exact fun z => npo l Rs2 z2 z.symm
    · rcases getElem?_set_cases e2 with ⟨rfl, z2⟩ | ⟨n2', z2⟩
      · have hl : l < σ.length := by
          have := (List.getElem?_eq_some_iff.mp e2).1
          rw [List.length_set, a.sat.len] at this
          exact this
        rw [List.getElem?_set_self hl, List.getElem?_set_ne (Ne.symm n1')]
        exact npo j Rs1 z1
      · rw [List.getElem?_set_ne (Ne.symm n1'), List.getElem?_set_ne (Ne.symm n2')]
        exact a.sat.dis j l Rs1 Rs2 ne z1 z2
  · rcases getElem?_set_cases ej with ⟨rfl, z⟩ | ⟨n, z⟩
    · have hl : j < σ.length := by
        have := (List.getElem?_eq_some_iff.mp ej).1
        rw [List.length_set, a.sat.len] at this
        exact this
      rw [List.getElem?_set_self hl] at eq
      cases eq
      exact .inr hb
    · rw [List.getElem?_set_ne (Ne.symm n)] at eq
      exact a.ow j Rs' q z eq
theorem At.setOwn {B : Base} {L : Hp} {sl : List Ent} {σ : L2.St} {G H G' H' : Hp} (a : At B L sl σ G H) (g : Gr G H G' H') (i : Nat) {Rs : List RV} {p : Addr} {vs : List V} (n1 : H p = none) (n2 : G' p = none) (e : H' p = some (.lst vs)) (r : PVs G' Rs vs) :
    At B L (sl.set i (.own Rs)) (σ.set i (some (.ref p))) G' H' := a.setMut g i n1 n2 e ⟨trivial, vs, rfl, r⟩
/-- the list of one's own in slot i is changed -/
theorem At.changeM {B : Base} {L : Hp} {sl : List Ent} {σ : L2.St} {G H : Hp} (a : At B L sl σ G H) {i : Nat} {Rs Rs' : OV} {p : Addr} {o' : HO} (ei : sl[i]? = some (.mu Rs)) (es : σ[i]? = some (some (.ref p))) (r : Rs'.r G p o') :
    At B L (sl.set i (.mu Rs')) σ G (upd H p o') := by
  obtain ⟨q, ws, h1, h2, h3, _⟩ := a.sat.mu i Rs ei
  rw [es] at h1
  cases h1
  have hm := a.ow i Rs p ei es
  have hil : i < sl.length := (List.getElem?_eq_some_iff.mp ei).1
  have sub : Same G (upd H p o') := fun b o e => by
    rw [upd_ne (fun z => by rw [z, h3] at e; cases e)]
    exact a.sat.sub b o e
  refine ⟨⟨sub, fun j R ej => ?_, fun j Rs2 ej => ?_, fun j l Rs1 Rs2 ne e1 e2 => ?_, by rw [List.length_set]; exact a.sat.len⟩, ⟨a.gr.g, fun b o m e => ?_, fun b e => ?_, sub, a.gr.n⟩, a.lo, fun j Rs2 q ej eq => ?_⟩
  · rcases getElem?_set_cases ej with ⟨_, z⟩ | ⟨n, z⟩
    · cases z
    · exact a.sat.val j R z
  · rcases getElem?_set_cases ej with ⟨rfl, z⟩ | ⟨n, z⟩
    · cases z
      exact ⟨p, o', es, upd_same, h3, r⟩
    · obtain ⟨q, us, k1, k2, k3, k4⟩ := a.sat.mu j Rs2 z
      refine ⟨q, us, k1, ?_, k3, k4⟩
      rw [upd_ne]
      · exact k2
      · intro e
        subst e
        exact a.sat.dis j i Rs2 Rs n z ei (k1.trans es.symm)
  · have f : ∀ (k : Nat) (R : OV), (sl.set i (.mu Rs'))[k]? = some (.mu R) → ∃ R', sl[k]? = some (.mu R') := fun k R ek => by
      rcases getElem?_set_cases ek with ⟨rfl, _⟩ | ⟨_, z⟩
      · exact ⟨_, ei⟩
      · exact ⟨_, z⟩
    obtain ⟨R1, k1⟩ := f j Rs1 e1
    obtain ⟨R2, k2⟩ := f l Rs2 e2
    exact a.sat.dis j l R1 R2 ne k1 k2
  · have nb : b ≠ p := fun z => by
      subst z
      rcases hm with q | q
      · exact m q
      · rw [q] at e; cases e
    rw [upd_ne nb]
    exact a.gr.h b o m e
  · by_cases nb : b = p
    · subst nb
      rw [upd_same]
      exact fun z => nomatch z
    · rw [upd_ne nb]
      exact a.gr.t b e
  · rcases getElem?_set_cases ej with ⟨rfl, _⟩ | ⟨_, z⟩
    · exact a.ow j Rs q ei eq
    · exact a.ow j Rs2 q z eq

theorem At.change {B : Base} {L : Hp} {sl : List Ent} {σ : L2.St} {G H : Hp} (a : At B L sl σ G H) {i : Nat} {t : Addr → Prop} {Rs Rs' : List RV} {p : Addr} {vs : List V} (ei : sl[i]? = some (.mu (oT t Rs))) (es : σ[i]? = some (some (.ref p))) (r : PVs G Rs' vs) :
    At B L (sl.set i (.mu (oT t Rs'))) σ G (upd H p (.lst vs)) := by
  obtain ⟨q, o, h1, _, _, ht, _⟩ := a.sat.mu i _ ei
  rw [es] at h1
  cases h1
  exact a.changeM ei es ⟨ht, vs, rfl, r⟩

section
variable {X : Cx} {B : Base} {L : Hp} {sl : List Ent} {D : Ends} {pos : Pos} {rest : List Stmt}
def canS (X : Cx) (st : List Stmt) (D : Ends) : L2.St → Hp → Prop := fun σ H => ∀ (pins : List (Addr × Obj)) (s : Shared), Inv X pins σ H s → wpAny (model X.prog X.w) X.A (execs st X.env) (SP X pins D) X.xe s
theorem pcanS {st : List Stmt} : PSs X st (fun D => canS X st D) := ⟨fun pins s _ _ _ I h => h pins s I⟩
def Wp (X : Cx) (B : Base) (L : Hp) (st : List Stmt) (D : Ends) (sl : List Ent) : Prop := ∀ (σ : L2.St) (G H : Hp), At B L sl σ G H → canS X st D σ H
/-- what follows a block that comes to its end -/
abbrev dgo (D : Ends) (X : Cx) (rest : List Stmt) : Ends := { D with nx := canS X rest D }
theorem wp_of {st : Stmt} {t : TS} (h : PS X st t) (r : ∀ σ G H, At B L sl σ G H → t (dgo D X rest) σ H) : Wp X B L (st :: rest) D sl :=
  fun σ G H a pins s I => (pss_cons h (pcanS (X := X) (st := rest))).run pins s σ H D I (r σ G H a)
/-- a block's end -/
theorem w_end (h : Wp X B L rest D sl) : Wp X B L [] (dgo D X rest) sl := fun σ G H a pins s I => (pss_nil (X := X)).run pins s σ H (dgo D X rest) I (h σ G H a)
/-- a loop's turn ends -/
def NX (B : Base) (L : Hp) (J : List Ent → Prop) : L2.St → Hp → Prop := fun σ H => ∃ sl G, J sl ∧ At B L sl σ G H
theorem w_turn {J : List Ent → Prop} (e : D.nx = NX B L J) (h : J sl) : Wp X B L [] D sl := fun σ G H a pins s I => (pss_nil (X := X)).run pins s σ H D I (by show D.nx σ H; rw [e]; exact ⟨sl, G, h, a⟩)
/-- a def's end -/
theorem w_fall (hM : ∀ a, ¬ B.M a) (h : Post B.G B.H (fun v H' => ∀ σ, v = .non → D.nx σ H') (.v iN)) : Wp X B L [] D sl := fun σ G H a pins s I => (pss_nil (X := X)).run pins s σ H D I
  (h .non G H ⟨a.gr.g, fun b o _ e => a.gr.h b o (hM b) e, a.gr.t, a.gr.s, a.gr.n⟩ rfl σ rfl)
theorem At.gr0 {σ : L2.St} {G H : Hp} (a : At B L sl σ G H) (hM : ∀ a, ¬ B.M a) : Gr B.G B.H G H := ⟨a.gr.g, fun b o _ e => a.gr.h b o (hM b) e, a.gr.t, a.gr.s, a.gr.n⟩
theorem w_ret {e : Expr} {r : Res} (h : EvR X e sl r) (hM : ∀ a, ¬ B.M a) (q : Post B.G B.H D.rt r) : Wp X B L (.Return (some e) pos :: rest) D sl :=
  wp_of (ps_ret pcan) fun σ G H a => h.can a.sat (q.gr (a.gr0 hM))
/-- the list of one's own in slot i is handed back -/
theorem w_retOwn (i : Nat) {x : Str} {p' : Pos} {t : Addr → Prop} {Rs : List RV} (ei : sl[i]? = some (.mu (oT t Rs))) (hM : ∀ a, ¬ B.M a) (q : Post B.G B.H D.rt (.l Rs)) (hN : X.N[i]? = some x := by rfl) (hv : Vis X.env.scope x := by first | exact Or.inl rfl | exact Or.inr (Or.inl rfl) | exact Or.inr (Or.inr rfl)) (hd : (x == ("__debug__" : Str)) = false := by decide)
    (hcd : (x == ("__classdict__" : Str)) = false := by decide) : Wp X B L (.Return (some (.Name x p')) pos :: rest) D sl :=
  wp_of (ps_ret (pe_var hN hv hd hcd)) fun σ G H a => by
    obtain ⟨p, vs, h1, h2, h3, h4⟩ := a.sat.own i Rs ei
    refine ⟨.ref p, h1, ?_⟩
    exact q p vs G H (a.gr0 hM) ((a.ow i _ p ei h1).resolve_left (hM p)) h3 h2 h4
/-- name = e -/
theorem w_set (i : Nat) {x : Str} {e : Expr} {p' : Pos} {R : RV} (he : Ev X e sl R) (hN : X.N.Nodup) (k : Wp X B L rest D (sl.set i (.val R))) (hi : X.N[i]? = some x := by rfl) (hx : Loc X.env.scope x := by first | exact Or.inl rfl | exact Or.inr rfl) (hs : swapsWith e (some (.Name x p')) pos.line X.env = pure false := by rfl)
    (hf : X.fn x = true ∨ X.env.scope.names.lookup x = some .local := by first | exact .inl rfl | exact .inr rfl | assumption) : Wp X B L (.Assign [.Name x p'] e pos :: rest) D sl :=
  wp_of (ps_set hN hi hx pcan hs hf) fun σ G H a => he.can a.sat fun v G' H' g r => k _ G' H' ((a.go g).set i r)
theorem w_setX (i : Nat) {x : Str} {e : Expr} {p' : Pos} {α : Type} {P : α → Prop} {R : α → RV} (he : Ev X e sl (rX P R)) (hN : X.N.Nodup) (k : ∀ z, P z → Wp X B L rest D (sl.set i (.val (R z)))) (hi : X.N[i]? = some x := by rfl) (hx : Loc X.env.scope x := by first | exact Or.inl rfl | exact Or.inr rfl) (hs : swapsWith e (some (.Name x p')) pos.line X.env = pure false := by rfl)
    (hf : X.fn x = true ∨ X.env.scope.names.lookup x = some .local := by first | exact .inl rfl | exact .inr rfl | assumption) : Wp X B L (.Assign [.Name x p'] e pos :: rest) D sl :=
  wp_of (ps_set hN hi hx pcan hs hf) fun σ G H a => he.can a.sat fun v G' H' g ⟨z, pz, r⟩ => k z pz _ G' H' ((a.go g).set i r)
theorem w_setOwn (i : Nat) {x : Str} {e : Expr} {p' : Pos} {Rs : List RV} (he : EvR X e sl (.l Rs)) (hN : X.N.Nodup) (k : Wp X B L rest D (sl.set i (.own Rs))) (hi : X.N[i]? = some x := by rfl) (hx : Loc X.env.scope x := by first | exact Or.inl rfl | exact Or.inr rfl) (hs : swapsWith e (some (.Name x p')) pos.line X.env = pure false := by rfl)
    (hf : X.fn x = true ∨ X.env.scope.names.lookup x = some .local := by first | exact .inl rfl | exact .inr rfl | assumption) : Wp X B L (.Assign [.Name x p'] e pos :: rest) D sl :=
  wp_of (ps_set hN hi hx pcan hs hf) fun σ G H a => he.can a.sat fun p vs G' H' g n1 n2 e r => k _ G' H' (a.setOwn g i n1 n2 e r)
/-- if -/
theorem w_if {c : Expr} {u v : List Stmt} {P : Bool → Prop} (h : EvT X c sl P) (h1 : P true → Wp X B L u (dgo D X rest) sl) (h2 : P false → Wp X B L v (dgo D X rest) sl) : Wp X B L (.If c u v pos :: rest) D sl :=
  wp_of (ps_if pcanT pcanS pcanS) fun σ G H a => h.can a.sat fun b G' H' g p => by
    cases b with
    | true => exact iteT (h1 p σ G' H' (a.go g))
    | false => exact iteF (h2 p σ G' H' (a.go g))
/-- if c: (what cannot be) -/
theorem w_ifNot {c : Expr} {u : List Stmt} {P : Bool → Prop} (h : EvT X c sl P) (hf : ¬ P true) (k : Wp X B L rest D sl) : Wp X B L (.If c u [] pos :: rest) D sl :=
  w_if h (fun p => absurd p hf) fun _ => w_end k
theorem w_expr {e : Expr} {R : RV} (h : Ev X e sl R) (k : Wp X B L rest D sl) (hs : swapsWith e none pos.line X.env = pure false := by rfl) : Wp X B L (.Expr e pos :: rest) D sl :=
  wp_of (ps_expr pcan hs) fun σ G H a => h.can a.sat fun v G' H' g _ => k σ G' H' (a.go g)
end

/-! ### a def, by its body -/
def ents (n : Nat) (Rs : List RV) : List Ent := Rs.map Ent.val ++ List.replicate (n - Rs.length) Ent.no
theorem sat_start {G H : Hp} {Rs : List RV} {vs : List V} {N : List Str} (s : Same G H) (r : PVs G Rs vs) : Sat (ents N.length Rs) (L2.start N vs) G H := by
  have hl := r.len
  refine ⟨s, fun i R e => ?_, fun i Rs' e => ?_, fun i j Rs1 Rs2 _ e _ => ?_, ?_⟩
  · unfold ents at e
    rw [List.getElem?_append] at e
    split at e
    · rename_i hi
      rw [List.getElem?_map] at e
      cases q : Rs[i]? with
      | none => rw [q] at e; cases e
      | some R' =>
        rw [q] at e
        cases e
        obtain ⟨v, h1, h2⟩ := r.get q
        refine ⟨v, ?_, h2⟩
        unfold L2.start
        rw [List.getElem?_append_left (by rw [List.length_map, ← hl]; simpa using hi), List.getElem?_map, h1]
        rfl
    · rw [List.getElem?_replicate] at e
      split at e <;> cases e
  · unfold ents at e
    rw [List.getElem?_append] at e
    split at e
    · rw [List.getElem?_map] at e
      cases q : Rs[i]? with
      | none => rw [q] at e; cases e
      | some R' => rw [q] at e; cases e
    · rw [List.getElem?_replicate] at e
      split at e <;> cases e
  · unfold ents at e
    rw [List.getElem?_append] at e
    split at e
    · rw [List.getElem?_map] at e
      cases q : Rs[i]? with
      | none => rw [q] at e; cases e
      | some R' => rw [q] at e; cases e
    · rw [List.getElem?_replicate] at e
      split at e <;> cases e
  · unfold ents L2.start
    rw [List.length_append, List.length_append, List.length_map, List.length_map, List.length_replicate, List.length_replicate, hl]
abbrev FnP (K : PySem.W.Frag) (x qual : Str) (st : Stmt) (f : Addr) (fd : FuncData) : Prop := FunD K x qual (defArgs st) (defBody st) (defScope st) [] [] f fd
section
variable {P : Program} {w : World} {K : PySem.W.Frag} {mg : Str → Option Value} {base : Heap}
/-- what a body is to show -/
def Body (P : Program) (w : World) (K : PySem.W.Frag) (mg : Str → Option Value) (base : Heap) (qual : Str) (st : Stmt) (f : Addr) (N : List Str) (k : Nat) {α : Type} (F : Fn α) : Prop :=
  ∀ (cdv : Value) (A : Around) (outer : List Env) (s : Shared) (H : Hp) (E : XK) (a : α) (B : Base) (L : Hp) (D : Ends), Room k (A.deeper (envOfC qual (defScope st) s.heap.objs.size f cdv)) → F.pre a → (∀ b, ¬ B.M b) → Post B.G B.H D.rt (F.res a) → (∀ σ H', D.rt .non H' → D.nx σ H') →
    Wp (cxOf CX0 P w K mg base N qual (defScope st) f cdv A outer s H E).nox B L (defBody st) D (ents N.length (F.args a))
theorem fnOk_of {qual x : Str} {st : Stmt} {f : Addr} {fd : FuncData} {N : List Str} {k : Nat} {α : Type} {F : Fn α} (F0 : FnP K x qual st f fd) (S : FnScope N F.ps (defScope st)) (hl : ∀ a, (F.args a).length = F.ps.length)
    (body : Body P w K mg base qual st f N k F) : FnOk P w K mg base CX0 (k + 1) f fd F.ps F.sp := by
  refine FunD.ok F0 S (fun vs H Q E h => ?_) (fun cdv A outer s H vs Q E hr h => ?_)
  · obtain ⟨a, G, _, r, _⟩ := h
    rw [← r.len, hl]
  · obtain ⟨a, G, sm, r, hp, q⟩ := h
    refine ⟨_, PSs.nox pcanS, ?_⟩
    refine body cdv A outer s H E a ⟨G, H, NoM⟩ G { nx := fun _ H' => Q .non H', rt := Q } hr hp (fun _ z => z) q (fun _ _ z => z) (L2.start N vs) G H ⟨sat_start sm r, Grow.refl sm, Same.refl _, fun i Rs p e _ => ?_⟩
    unfold ents at e
    rw [List.getElem?_append] at e
    split at e
    · rw [List.getElem?_map] at e
      cases q : (F.args a)[i]? with
      | none => rw [q] at e; cases e
      | some R' => rw [q] at e; cases e
    · rw [List.getElem?_replicate] at e
      split at e <;> cases e
theorem has_of {x : Str} {st : Stmt} {f : Addr} {fd : FuncData} {N : List Str} {k : Nat} {α : Type} {F : Fn α} (F0 : FnP K x x st f fd) (hm : mg x = some (.ref f)) (S : FnScope N F.ps (defScope st)) (hl : ∀ a, (F.args a).length = F.ps.length)
    (hb : ∀ (kV doc pm : Value) (an : Option Addr) (cdv ct : Value) (us : List Value), us.length = F.ps.length → bindArgs (PySem.W.fnOf x x (defArgs st) (defBody st) (defScope st) .none kV doc pm an cdv ct) ⟨us, []⟩ = pure (F.ps.zip us))
    (body : Body P w K mg base x st f N k F) : Has P w K mg base (k + 1) x F := ⟨f, fd, hm, F0.kp, F0.bindsN hb, fnOk_of F0 S hl body⟩
end
end Dl


set_option Elab.async false
set_option linter.all false
set_option maxRecDepth 100000
set_option maxHeartbeats 2000000
namespace Dl
open PySem PySem.Spec PyProof.Rows L2
/-! ### lists of plain values -/
theorem PVs.ints {G : Hp} : ∀ {ns : List Int} {vs : List V}, PVs G (ns.map iI) vs → vs = ns.map V.int
  | [], _, .nil => rfl
  | n :: ns, _, .cons ⟨i, e, p⟩ t => by rw [e, p, PVs.ints t]; rfl
theorem PVs.bools {G : Hp} : ∀ {ns : List Bool} {vs : List V}, PVs G (ns.map iB) vs → vs = ns.map V.bl
  | [], _, .nil => rfl
  | n :: ns, _, .cons ⟨i, e, p⟩ t => by rw [e, p, PVs.bools t]; rfl
theorem PVs.strs {G : Hp} : ∀ {ns : List Str} {vs : List V}, PVs G (ns.map iS) vs → vs = ns.map V.str
  | [], _, .nil => rfl
  | n :: ns, _, .cons ⟨i, e, p⟩ t => by rw [e, p, PVs.strs t]; rfl
theorem PVs.ofInts {G : Hp} : ∀ (ns : List Int), PVs G (ns.map iI) (ns.map V.int)
  | [] => .nil
  | n :: ns => .cons ⟨n, rfl, rfl⟩ (PVs.ofInts ns)
theorem PVs.ofStrs {G : Hp} : ∀ (ns : List Str), PVs G (ns.map iS) (ns.map V.str)
  | [] => .nil
  | n :: ns => .cons ⟨n, rfl, rfl⟩ (PVs.ofStrs ns)
theorem PVs.ofBools {G : Hp} : ∀ (ns : List Bool), PVs G (ns.map iB) (ns.map V.bl)
  | [] => .nil
  | n :: ns => .cons ⟨n, rfl, rfl⟩ (PVs.ofBools ns)
abbrev rInts (K : PySem.W.Frag) (ns : List Int) : RV := rLst K (ns.map iI)
/-- one of several in each place is a list of several -/
theorem le_lstX {K : PySem.W.Frag} {α β : Type} {P : α → β → Prop} {R : β → RV} {xs : List α} : (rLst K (xs.map fun x => rX (P x) R)).le (rX (fun ys => Paired P xs ys) fun ys => rLst K (ys.map R)) := by
  rintro G v ⟨a, vs, e, q, r⟩
  have main : ∀ (xs : List α) (vs : List V), PVs G (xs.map fun x => rX (P x) R) vs → ∃ ys, Paired P xs ys ∧ PVs G (ys.map R) vs := by
    intro xs
    induction xs with
    | nil => intro vs h; cases h; exact ⟨[], .nil, .nil⟩
    | cons x xs ih =>
      intro vs h
      cases h with
      | cons h t =>
        obtain ⟨y, p, r⟩ := h
        obtain ⟨ys, h1, h2⟩ := ih _ t
        exact ⟨y :: ys, .cons p h1, .cons r h2⟩
  obtain ⟨ys, h1, h2⟩ := main xs vs r
  exact ⟨ys, h1, a, vs, e, q, h2⟩
theorem le_lst {K : PySem.W.Frag} {α : Type} {c d : α → RV} {xs : List α} (h : ∀ x ∈ xs, (c x).le (d x)) : (rLst K (xs.map c)).le (rLst K (xs.map d)) := by
  rintro G v ⟨a, vs, e, q, r⟩
  refine ⟨a, vs, e, q, ?_⟩
  have main : ∀ (xs : List α) (vs : List V), (∀ x ∈ xs, (c x).le (d x)) → PVs G (xs.map c) vs → PVs G (xs.map d) vs := by
    intro xs
    induction xs with
    | nil => intro vs _ h; cases h; exact .nil
    | cons x xs ih =>
      intro vs hh h
      cases h with
      | cons h t => exact .cons (hh x (List.mem_cons_self ..) _ _ h) (ih _ (fun y hy => hh y (List.mem_cons_of_mem _ hy)) t)
  exact main xs vs h r

section
variable {X : Cx} {sl : List Ent} {x : Str} {p pos : Pos} {e a b c : Expr} {es : List Expr} {R : RV} {Rs : List RV} {P : Bool → Prop}
/-! ### built-ins -/
theorem e_cb {id : String} {r : List V → Hp → VK → Prop} {rs : Res} (hc : CallR X (.builtin id) r) (hm : X.mg x = none) (hv : bootBuiltins x = some (.builtin id)) (ha : EvA X (e :: es) sl Rs) (hr : ∀ vs G H Q, Same G H → PVs G Rs vs → Post G H Q rs → r vs H Q) (hg : Gl X x := by rfl)
    (hn : x ≠ "__name__" := by decide) (hdb : (x == ("__debug__" : Str)) = false := by decide) (he : starEach (e :: es) X.env = (false, eval e X.env) :: starEach es X.env := by rfl) (hpl : (backTo pos (starEach es X.env)).any (·.1) = false := by rfl) : EvR X (.Call (.Name x p) (e :: es) [] pos) sl rs :=
  evR_of (pe_callB hc hg hm hv pcanA hn hdb he hpl) fun σ G H Q a q => ha.can a fun vs G' H' g r => hr vs G' H' Q g.s r (q.gr g)
theorem e_ct {id : String} {r : List V → Hp → VK → Prop} {rs : Res} (hc : CallR X (.type id) r) (hm : X.mg x = none) (hv : bootBuiltins x = some (.type id)) (ha : EvA X (e :: es) sl Rs) (hr : ∀ vs G H Q, Same G H → PVs G Rs vs → Post G H Q rs → r vs H Q) (hg : Gl X x := by rfl)
    (hn : x ≠ "__name__" := by decide) (hdb : (x == ("__debug__" : Str)) = false := by decide) (he : starEach (e :: es) X.env = (false, eval e X.env) :: starEach es X.env := by rfl) (hpl : (backTo pos (starEach es X.env)).any (·.1) = false := by rfl) : EvR X (.Call (.Name x p) (e :: es) [] pos) sl rs :=
  evR_of (pe_callTy hc hg hm hv pcanA hn hdb he hpl) fun σ G H Q a q => ha.can a fun vs G' H' g r => hr vs G' H' Q g.s r (q.gr g)
theorem pv1 {G : Hp} {vs : List V} (h : PVs G [R] vs) : ∃ v, vs = [v] ∧ R.r G v := by
  cases h with
  | cons h t => cases t; exact ⟨_, rfl, h⟩
theorem pv2 {R' : RV} {G : Hp} {vs : List V} (h : PVs G [R, R'] vs) : ∃ v v', vs = [v, v'] ∧ R.r G v ∧ R'.r G v' := by
  cases h with
  | cons h t => cases t with
    | cons h' t => cases t; exact ⟨_, _, rfl, h, h'⟩
theorem a1 (h : Ev X a sl R) (he : starEach [a] X.env = [(false, eval a X.env)] := by rfl) : EvA X [a] sl [R] := a_cons h a_nil he
theorem a2 {R' : RV} (h : Ev X a sl R) (h' : Ev X b sl R') (he : starEach [a, b] X.env = (false, eval a X.env) :: starEach [b] X.env := by rfl) (he' : starEach [b] X.env = [(false, eval b X.env)] := by rfl) : EvA X [a, b] sl [R, R'] := a_cons h (a1 h' he') he
/-- len -/
theorem e_lenL (h : Ev X a sl (rLst X.K Rs)) (hm : X.mg "len" = none) (hg : Gl X "len" := by rfl) (he : starEach [a] X.env = [(false, eval a X.env)] := by rfl) : Ev X (.Call (.Name "len" p) [a] [] pos) sl (iI Rs.length) :=
  e_cb (rs := .v _) call_len_seq hm PySem.boot_len (a1 h he) (fun vs G H Q s r q => by
    obtain ⟨v, rfl, b, ws, rfl, h1, h2⟩ := pv1 r
    exact ⟨b, ws, rfl, .inl (s.seq h1), q _ G H (.refl s) ⟨_, rfl, by rw [h2.len]⟩⟩) hg (by decide) (by decide) he rfl
theorem e_lenT (h : Ev X a sl (rTup X.K Rs)) (hm : X.mg "len" = none) (hg : Gl X "len" := by rfl) (he : starEach [a] X.env = [(false, eval a X.env)] := by rfl) : Ev X (.Call (.Name "len" p) [a] [] pos) sl (iI Rs.length) :=
  e_cb (rs := .v _) call_len_seq hm PySem.boot_len (a1 h he) (fun vs G H Q s r q => by
    obtain ⟨v, rfl, b, ws, rfl, h1, h2⟩ := pv1 r
    exact ⟨b, ws, rfl, .inr (Same.tup s h1), q _ G H (.refl s) ⟨_, rfl, by rw [h2.len]⟩⟩) hg (by decide) (by decide) he rfl
variable {A B C : Int → Prop}
theorem e_abs (h : Ev X a sl (rInt A)) (hm : X.mg "abs" = none) (hA : ∀ x, A x → C (if x < 0 then -x else x)) (hg : Gl X "abs" := by rfl) (he : starEach [a] X.env = [(false, eval a X.env)] := by rfl) : Ev X (.Call (.Name "abs" p) [a] [] pos) sl (rInt C) :=
  e_cb (rs := .v _) call_abs hm (by decide +kernel) (a1 h he) (fun vs G H Q s r q => by
    obtain ⟨v, rfl, i, rfl, hi⟩ := pv1 r
    exact ⟨i, rfl, q _ G H (.refl s) ⟨_, rfl, hA i hi⟩⟩) hg (by decide) (by decide) he rfl
theorem e_max2 (hc : X.calm = true) (h : Ev X a sl (rInt A)) (h' : Ev X b sl (rInt B)) (hm : X.mg "max" = none) (hA : ∀ x y, A x → B y → C (if y > x then y else x)) (hg : Gl X "max" := by rfl) (he : starEach [a, b] X.env = (false, eval a X.env) :: starEach [b] X.env := by rfl) (he' : starEach [b] X.env = [(false, eval b X.env)] := by rfl) : Ev X (.Call (.Name "max" p) [a, b] [] pos) sl (rInt C) :=
  e_cb (rs := .v _) (call_max2 hc) hm (by decide +kernel) (a2 h h' he he') (fun vs G H Q s r q => by
    obtain ⟨v, v', rfl, ⟨i, rfl, hi⟩, ⟨j, rfl, hj⟩⟩ := pv2 r
    exact ⟨i, j, rfl, q _ G H (.refl s) ⟨_, rfl, hA i j hi hj⟩⟩) hg (by decide) (by decide) he (by rw [he']; rfl)
theorem e_min2 (hc : X.calm = true) (h : Ev X a sl (rInt A)) (h' : Ev X b sl (rInt B)) (hm : X.mg "min" = none) (hA : ∀ x y, A x → B y → C (if y < x then y else x)) (hg : Gl X "min" := by rfl) (he : starEach [a, b] X.env = (false, eval a X.env) :: starEach [b] X.env := by rfl) (he' : starEach [b] X.env = [(false, eval b X.env)] := by rfl) : Ev X (.Call (.Name "min" p) [a, b] [] pos) sl (rInt C) :=
  e_cb (rs := .v _) (call_min2 hc) hm (by decide +kernel) (a2 h h' he he') (fun vs G H Q s r q => by
    obtain ⟨v, v', rfl, ⟨i, rfl, hi⟩, ⟨j, rfl, hj⟩⟩ := pv2 r
    exact ⟨i, j, rfl, q _ G H (.refl s) ⟨_, rfl, hA i j hi hj⟩⟩) hg (by decide) (by decide) he (by rw [he']; rfl)
theorem e_int1 (h : Ev X a sl (rInt A)) (hm : X.mg "int" = none) (hg : Gl X "int" := by rfl) (he : starEach [a] X.env = [(false, eval a X.env)] := by rfl) : Ev X (.Call (.Name "int" p) [a] [] pos) sl (rInt A) :=
  e_ct (rs := .v _) call_int1 hm (by decide +kernel) (a1 h he) (fun vs G H Q s r q => by
    obtain ⟨v, rfl, i, rfl, hi⟩ := pv1 r
    exact .inl ⟨i, rfl, q _ G H (.refl s) ⟨_, rfl, hi⟩⟩) hg (by decide) (by decide) he rfl
theorem e_maxL (hc : X.calm = true) {ns : List Int} (h : Ev X a sl (rInts X.K ns)) (hm : X.mg "max" = none) (h0 : 0 < ns.length) (hC : ∀ m, m ∈ ns → (∀ y, y ∈ ns → y ≤ m) → C m) (hg : Gl X "max" := by rfl) (he : starEach [a] X.env = [(false, eval a X.env)] := by rfl) : Ev X (.Call (.Name "max" p) [a] [] pos) sl (rInt C) :=
  e_cb (rs := .v _) (cr_max hc) hm (by decide +kernel) (a1 h he) (fun vs G H Q s r q => by
    obtain ⟨v, rfl, b, ws, rfl, h1, h2⟩ := pv1 r
    rw [h2.ints] at h1
    exact ⟨b, ns, rfl, s.seq h1, h0, fun m h3 h4 => q _ G H (.refl s) ⟨_, rfl, hC m h3 h4⟩⟩) hg (by decide) (by decide) he rfl
theorem e_minL (hc : X.calm = true) {ns : List Int} (h : Ev X a sl (rInts X.K ns)) (hm : X.mg "min" = none) (h0 : 0 < ns.length) (hC : ∀ m, m ∈ ns → (∀ y, y ∈ ns → m ≤ y) → C m) (hg : Gl X "min" := by rfl) (he : starEach [a] X.env = [(false, eval a X.env)] := by rfl) : Ev X (.Call (.Name "min" p) [a] [] pos) sl (rInt C) :=
  e_cb (rs := .v _) (cr_min hc) hm (by decide +kernel) (a1 h he) (fun vs G H Q s r q => by
    obtain ⟨v, rfl, b, ws, rfl, h1, h2⟩ := pv1 r
    rw [h2.ints] at h1
    exact ⟨b, ns, rfl, s.seq h1, h0, fun m h3 h4 => q _ G H (.refl s) ⟨_, rfl, hC m h3 h4⟩⟩) hg (by decide) (by decide) he rfl
theorem e_sumL (hc : X.calm = true) {ns : List Int} (h : Ev X a sl (rInts X.K ns)) (hm : X.mg "sum" = none) (hg : Gl X "sum" := by rfl) (he : starEach [a] X.env = [(false, eval a X.env)] := by rfl) : Ev X (.Call (.Name "sum" p) [a] [] pos) sl (iI ns.sum) :=
  e_cb (rs := .v _) (cr_sum hc) hm (by decide +kernel) (a1 h he) (fun vs G H Q s r q => by
    obtain ⟨v, rfl, b, ws, rfl, h1, h2⟩ := pv1 r
    rw [h2.ints] at h1
    exact ⟨b, ns, rfl, s.seq h1, q _ G H (.refl s) ⟨_, rfl, rfl⟩⟩) hg (by decide) (by decide) he rfl
theorem e_all (hc : X.calm = true) {bs : List Bool} (h : Ev X a sl (rLst X.K (bs.map iB))) (hm : X.mg "all" = none) (hg : Gl X "all" := by rfl) (he : starEach [a] X.env = [(false, eval a X.env)] := by rfl) : Ev X (.Call (.Name "all" p) [a] [] pos) sl (iB (bs.all id)) :=
  e_cb (rs := .v _) (cr_all hc) hm (by decide +kernel) (a1 h he) (fun vs G H Q s r q => by
    obtain ⟨v, rfl, b, ws, rfl, h1, h2⟩ := pv1 r
    rw [h2.bools] at h1
    exact ⟨b, bs, rfl, s.seq h1, q _ G H (.refl s) ⟨_, rfl, rfl⟩⟩) hg (by decide) (by decide) he rfl
theorem e_any (hc : X.calm = true) {bs : List Bool} (h : Ev X a sl (rLst X.K (bs.map iB))) (hm : X.mg "any" = none) (hg : Gl X "any" := by rfl) (he : starEach [a] X.env = [(false, eval a X.env)] := by rfl) : Ev X (.Call (.Name "any" p) [a] [] pos) sl (iB (bs.any id)) :=
  e_cb (rs := .v _) (cr_any hc) hm (by decide +kernel) (a1 h he) (fun vs G H Q s r q => by
    obtain ⟨v, rfl, b, ws, rfl, h1, h2⟩ := pv1 r
    rw [h2.bools] at h1
    exact ⟨b, bs, rfl, s.seq h1, q _ G H (.refl s) ⟨_, rfl, rfl⟩⟩) hg (by decide) (by decide) he rfl
/-- list(..) of a list, a tuple -/
theorem e_listL (h : Ev X a sl (rLst X.K Rs)) (hm : X.mg "list" = none) (hg : Gl X "list" := by rfl) (he : starEach [a] X.env = [(false, eval a X.env)] := by rfl) : EvR X (.Call (.Name "list" p) [a] [] pos) sl (.l Rs) :=
  e_ct call_list_of hm (by decide +kernel) (a1 h he) (fun vs G H Q s r q => by
    obtain ⟨v, rfl, b, ws, rfl, h1, h2⟩ := pv1 r
    exact ⟨b, ws, rfl, .inl (s.seq h1), fun l hl => q l ws G _ (Gr.newOut s hl) hl (s.free hl) upd_same h2⟩) hg (by decide) (by decide) he rfl
theorem e_listT (h : Ev X a sl (rTup X.K Rs)) (hm : X.mg "list" = none) (hg : Gl X "list" := by rfl) (he : starEach [a] X.env = [(false, eval a X.env)] := by rfl) : EvR X (.Call (.Name "list" p) [a] [] pos) sl (.l Rs) :=
  e_ct call_list_of hm (by decide +kernel) (a1 h he) (fun vs G H Q s r q => by
    obtain ⟨v, rfl, b, ws, rfl, h1, h2⟩ := pv1 r
    exact ⟨b, ws, rfl, .inr (Same.tup s h1), fun l hl => q l ws G _ (Gr.newOut s hl) hl (s.free hl) upd_same h2⟩) hg (by decide) (by decide) he rfl
/-- sorted(..) of ints -/
theorem e_sortedI {ns : List Int} (h : Ev X a sl (rInts X.K ns)) (hm : X.mg "sorted" = none) (h64 : ns.length < 64) (hg : Gl X "sorted" := by rfl) (he : starEach [a] X.env = [(false, eval a X.env)] := by rfl) : EvR X (.Call (.Name "sorted" p) [a] [] pos) sl (.x (fun ms : List Int => ms.Perm ns ∧ ms.Pairwise (· ≤ ·)) fun ms => .l (ms.map iI)) :=
  e_cb cr_sorted hm (by decide +kernel) (a1 h he) (fun vs G H Q s r q => by
    obtain ⟨v, rfl, b, ws, rfl, h1, h2⟩ := pv1 r
    rw [h2.ints] at h1
    exact ⟨b, ns, rfl, s.seq h1, h64, fun ms l h3 h4 hl => q ms ⟨h3, h4⟩ l _ G _ (Gr.newOut s hl) hl (s.free hl) upd_same (PVs.ofInts ms)⟩) hg (by decide) (by decide) he rfl
/-- divmod -/
theorem e_divmod {n m : Int} (h : Ev X a sl (iI n)) (h' : Ev X b sl (iI m)) (hm : X.mg "divmod" = none) (hd : CDiv n m) (hg : Gl X "divmod" := by rfl) (he : starEach [a, b] X.env = (false, eval a X.env) :: starEach [b] X.env := by rfl) (he' : starEach [b] X.env = [(false, eval b X.env)] := by rfl) : Ev X (.Call (.Name "divmod" p) [a, b] [] pos) sl (rTup X.K [iI (n / m), iI (n % m)]) :=
  e_cb (rs := .v _) call_divmod hm (by decide +kernel) (a2 h h' he he') (fun vs G H Q s r q => by
    obtain ⟨v, v', rfl, ⟨i, rfl, rfl⟩, ⟨j, rfl, rfl⟩⟩ := pv2 r
    exact ⟨_, _, rfl, hd, fun l hl => q _ _ _ (Gr.new s hl) ⟨l, _, rfl, SqT.of upd_same, .cons ⟨_, rfl, rfl⟩ (.cons ⟨_, rfl, rfl⟩ .nil)⟩⟩) hg (by decide) (by decide) he (by rw [he']; rfl)

/-! ### displays, places -/
theorem sz {n : Nat} (h : n ≤ 100000) : n ≤ sizeLine := Nat.le_trans h (by decide)
theorem e_lst (h : EvA X es sl Rs) (hl : Rs.length ≤ 100000) : EvR X (.List es pos) sl (.l Rs) :=
  evR_of (pe_lst pcanA) fun σ G H Q a q => h.can a fun vs G' H' g r => ⟨by rw [← r.len]; exact sz hl, fun l hl => q l vs G' _ (g.trans (Gr.newOut g.s hl)) (g.hs.free hl) (g.s.free hl) upd_same r⟩
theorem e_tup {x1} (h : EvA X es sl Rs) (hl : Rs.length ≤ 100000) : Ev X (.Tuple es x1 pos) sl (rTup X.K Rs) :=
  ev_of (pe_tup pcanA) fun σ G H Q a q => h.can a fun vs G' H' g r => ⟨by rw [← r.len]; exact sz hl, fun l hl => q _ _ _ (g.trans (Gr.new g.s hl)) ⟨l, vs, rfl, SqT.of upd_same, r.mono (same_new (g.s.free hl))⟩⟩
theorem atI_pv {G : Hp} {vs : List V} {i : Int} (h : PVs G Rs vs) (e : atI Rs i = some R) : ∃ v, atI vs i = some v ∧ R.r G v := by
  unfold atI at e ⊢
  rw [← h.len]
  cases q : ixN Rs.length i with
  | none => rw [q] at e; cases e
  | some j =>
    rw [q] at e
    exact h.get e
/-- a[i] -/
theorem e_ixL {i : Int} (h : Ev X a sl (rLst X.K Rs)) (h' : Ev X b sl (iI i)) (hi : atI Rs i = some R) (hs : PlainIx b := by intro _ _; rfl) : Ev X (.Subscript a b pos) sl R :=
  ev_of (pe_ix ix_list pcan pcan hs) fun σ G H Q z k => h.can z fun v G1 H1 g1 ⟨l, vs, e1, h1, h2⟩ => h'.can (z.gr g1) fun u G2 H2 g2 ⟨j, e2, ej⟩ => by
    subst ej
    obtain ⟨w, h3, h4⟩ := atI_pv (h2.mono g2.g) hi
    exact ⟨l, vs, _, w, e1, e2, g2.s.seq (g2.g.seq h1), h3, k w G2 H2 (g1.trans g2) h4⟩
theorem e_ixT {i : Int} (h : Ev X a sl (rTup X.K Rs)) (h' : Ev X b sl (iI i)) (hi : atI Rs i = some R) (hs : PlainIx b := by intro _ _; rfl) : Ev X (.Subscript a b pos) sl R :=
  ev_of (pe_ix ix_tup pcan pcan hs) fun σ G H Q z k => h.can z fun v G1 H1 g1 ⟨l, vs, e1, h1, h2⟩ => h'.can (z.gr g1) fun u G2 H2 g2 ⟨j, e2, ej⟩ => by
    subst ej
    obtain ⟨w, h3, h4⟩ := atI_pv (h2.mono g2.g) hi
    exact ⟨l, vs, _, w, e1, e2, Same.tup g2.s (Same.tup g2.g h1), h3, k w G2 H2 (g1.trans g2) h4⟩
/-- .. at a place that is told by what is true of it -/
theorem e_ixLP (h : Ev X a sl (rLst X.K Rs)) (h' : Ev X b sl (rInt A)) (hi : ∀ i, A i → ∃ R', atI Rs i = some R' ∧ R'.le R) (hs : PlainIx b := by intro _ _; rfl) : Ev X (.Subscript a b pos) sl R :=
  ev_of (pe_ix ix_list pcan pcan hs) fun σ G H Q z k => h.can z fun v G1 H1 g1 ⟨l, vs, e1, h1, h2⟩ => h'.can (z.gr g1) fun u G2 H2 g2 ⟨j, e2, pj⟩ => by
    obtain ⟨R', e3, le⟩ := hi j pj
    obtain ⟨w, h3, h4⟩ := atI_pv (h2.mono g2.g) e3
    exact ⟨l, vs, _, w, e1, e2, g2.s.seq (g2.g.seq h1), h3, k w G2 H2 (g1.trans g2) (le _ _ h4)⟩
/-- a list of one's own, read at a place -/
theorem e_ixO (i : Nat) {y : Str} {p' : Pos} {t : Addr → Prop} {j : Int} (ei : sl[i]? = some (.mu (oT t Rs))) (h' : Ev X b sl (iI j)) (hi : atI Rs j = some R) (hs : PlainIx b := by intro _ _; rfl) (hN : X.N[i]? = some y := by rfl) (hv : Vis X.env.scope y := by first | exact Or.inl rfl | exact Or.inr (Or.inl rfl) | exact Or.inr (Or.inr rfl)) (hd : (y == ("__debug__" : Str)) = false := by decide)
    (hcd : (y == ("__classdict__" : Str)) = false := by decide) : Ev X (.Subscript (.Name y p') b pos) sl R :=
  ev_of (pe_ix ix_list (pe_var hN hv hd hcd) pcan hs) fun σ G H Q z k => by
    obtain ⟨l, vs, e1, h1, h2, h3⟩ := z.own i Rs ei
    refine ⟨_, e1, h'.can z fun u G2 H2 g2 ⟨m, e2, ej⟩ => ?_⟩
    subst ej
    obtain ⟨w, h4, h5⟩ := atI_pv (h3.mono g2.g) hi
    exact ⟨l, vs, _, w, rfl, e2, SqL.of (g2.hs _ _ h1), h4, k w G2 H2 g2 h5⟩
theorem e_lenO (i : Nat) {y : Str} {p' : Pos} {t : Addr → Prop} (ei : sl[i]? = some (.mu (oT t Rs))) (hm : X.mg "len" = none) (hg : Gl X "len" := by rfl) (hN : X.N[i]? = some y := by rfl) (hv : Vis X.env.scope y := by first | exact Or.inl rfl | exact Or.inr (Or.inl rfl) | exact Or.inr (Or.inr rfl)) (hd : (y == ("__debug__" : Str)) = false := by decide)
    (hcd : (y == ("__classdict__" : Str)) = false := by decide) (he : starEach [.Name y p'] X.env = [(false, eval (.Name y p') X.env)] := by rfl) : Ev X (.Call (.Name "len" p) [.Name y p'] [] pos) sl (iI Rs.length) :=
  ev_of (pe_callB call_len_seq hg hm PySem.boot_len (pa_cons (pe_var hN hv hd hcd) pa_nil he) (by decide) (by decide) he rfl) fun σ G H Q z k => by
    obtain ⟨l, vs, e1, h1, h2, h3⟩ := z.own i Rs ei
    exact ⟨_, e1, l, vs, rfl, .inl (SqL.of h1), k _ G H (.refl z.sub) ⟨_, rfl, by rw [h3.len]⟩⟩

/-! ### kinds -/
def RV.Ty (K : PySem.W.Frag) (R : RV) (t : Value) : Prop := ∀ G H v, Same G H → R.r G v → TyX K H v t
theorem ty_int {K : PySem.W.Frag} : (rInt A).Ty K (.type "int") := fun _ _ _ _ ⟨i, e, _⟩ => by subst e; exact .base (.int i)
theorem ty_str {K : PySem.W.Frag} {A : Str → Prop} : (rStr A).Ty K (.type "str") := fun _ _ _ _ ⟨i, e, _⟩ => by subst e; exact .base (.str i)
theorem ty_bool {K : PySem.W.Frag} : (rBool P).Ty K (.type "bool") := fun _ _ _ _ ⟨i, e, _⟩ => by subst e; exact .base (.bl i)
theorem ty_non {K : PySem.W.Frag} : iN.Ty K (.type "NoneType") := fun _ _ _ _ e => by cases (show _ = V.non from e); exact .base .non
theorem ty_lst {K : PySem.W.Frag} : (rLst K Rs).Ty K (.type "list") := fun G H _ s ⟨a, vs, e, q, _⟩ => by
  subst e
  rcases s.seq q with (h | ⟨o, h⟩) | ⟨o, its, n, h, hc, _⟩
  · exact .base (.lst h)
  · exact .base (.frz h)
  · exact .kList h hc
theorem ty_tup {K : PySem.W.Frag} : (rTup K Rs).Ty K (.type "tuple") := fun G H _ s ⟨a, vs, e, q, _⟩ => by
  subst e
  rcases Same.tup s q with (h | ⟨o, h⟩) | ⟨o, its, n, h, hc, _⟩
  · exact .base (.tup h)
  · exact .fTuple h
  · exact .kTuple h hc
/-- the name of a built-in class, as a value -/
def rTy (n : String) : RV := ⟨fun _ v => v = .ty n, fun _ h => h⟩
theorem e_bty {n : String} (hm : X.mg x = none) (hv : bootBuiltins x = some (.type n)) (hg : Gl X x := by rfl) (hn : x ≠ "__name__" := by decide) (hd : (x == ("__debug__" : Str)) = false := by decide) : Ev X (.Name x pos) sl (rTy n) :=
  ev_of (pe_bltn (v := .ty n) hg hm hv rfl hn hd) fun σ G H Q z k => k _ G H (.refl z.sub) rfl
theorem e_isi {t : Value} {n : String} {r : Bool} (h : Ev X a sl R) (ht : R.Ty X.K t) (h' : Ev X b sl (rTy n)) (hm : X.mg "isinstance" = none) (hk : PySem.W.kitOne X.K t (.type n) = some r) (hg : Gl X "isinstance" := by rfl) (he : starEach [a, b] X.env = (false, eval a X.env) :: starEach [b] X.env := by rfl) (he' : starEach [b] X.env = [(false, eval b X.env)] := by rfl) : Ev X (.Call (.Name "isinstance" p) [a, b] [] pos) sl (iB r) :=
  e_cb (rs := .v _) call_isi hm (by decide +kernel) (a2 h h' he he') (fun vs G H Q s rr q => by
    obtain ⟨v, v', rfl, h1, h2⟩ := pv2 rr
    cases (show v' = V.ty n from h2)
    exact ⟨v, .ty n, t, .type n, r, rfl, .ty n, ht G H v s h1, hk, q _ G H (.refl s) ⟨_, rfl, rfl⟩⟩) hg (by decide) (by decide) he (by rw [he']; rfl)
theorem e_isi2 {t : Value} {n m : String} {r : Bool} {c d : Expr} {x1} {p1 : Pos} (h : Ev X a sl R) (ht : R.Ty X.K t) (h1 : Ev X c sl (rTy n)) (h2 : Ev X d sl (rTy m)) (hm : X.mg "isinstance" = none) (hk : PySem.W.kitAny X.K t [.type n, .type m] = some r) (hg : Gl X "isinstance" := by rfl) (he : starEach [a, .Tuple [c, d] x1 p1] X.env = (false, eval a X.env) :: starEach [.Tuple [c, d] x1 p1] X.env := by rfl) (he' : starEach [.Tuple [c, d] x1 p1] X.env = [(false, eval (.Tuple [c, d] x1 p1) X.env)] := by rfl)
    (hc1 : starEach [c, d] X.env = (false, eval c X.env) :: starEach [d] X.env := by rfl) (hc2 : starEach [d] X.env = [(false, eval d X.env)] := by rfl) : Ev X (.Call (.Name "isinstance" p) [a, .Tuple [c, d] x1 p1] [] pos) sl (iB r) :=
  ev_of (pe_callB call_isiT hg hm (by decide +kernel) (pa_cons pcan (pa_cons (pe_tup pcanA) pa_nil he') he) (by decide) (by decide) he (by rw [he']; rfl)) fun σ G H Q z k => h.can z fun v G1 H1 g1 r1 =>
    (a2 h1 h2 hc1 hc2).can (z.gr g1) fun vs G2 H2 g2 r2 => by
      obtain ⟨v1, v2, rfl, e1, e2⟩ := pv2 r2
      cases (show v1 = V.ty n from e1)
      cases (show v2 = V.ty m from e2)
      refine ⟨by show 2 ≤ sizeLine; decide, fun l hl => ?_⟩
      exact ⟨v, l, _, t, _, r, rfl, upd_same, .cons (.ty n) (.cons (.ty m) .nil), ht G2 _ v (g2.s.trans (same_new hl)) (R.m g2.g r1), hk, k _ _ _ ((g1.trans g2).trans (Gr.new g2.s hl)) ⟨_, rfl, rfl⟩⟩
end

/-! ### stores into a list of one's own -/
section
variable {X : Cx} {B : Base} {L : Hp} {sl : List Ent} {D : Ends} {pos : Pos} {rest : List Stmt} {R : RV} {Rs : List RV}
/-- y.append(e) -/
theorem w_append (i : Nat) {y : Str} {p1 p2 p3 : Pos} {t : Addr → Prop} {e : Expr} (ei : sl[i]? = some (.mu (oT t Rs))) (h : Ev X e sl R) (hz : Rs.length < 100000) (k : Wp X B L rest D (sl.set i (.mu (oT t (Rs ++ [R]))))) (hN : X.N[i]? = some y := by rfl) (hv : Vis X.env.scope y := by first | exact Or.inl rfl | exact Or.inr (Or.inl rfl) | exact Or.inr (Or.inr rfl)) (hd : (y == ("__debug__" : Str)) = false := by decide)
    (hcd : (y == ("__classdict__" : Str)) = false := by decide)
    (hp : PE X (.Call (.Attribute (.Name y p1) "append" p2) [e] [] p3) (tBM X.K "list" rAppend (tVar i) (tCons (can X e) tNil)) := by exact pe_bm PySem.F.plainAttrs_list PySem.F.slot_list_append PySem.F.type_list_append mt_append (pv _) (pa_cons pcan pa_nil)) (hs : swapsWith (.Call (.Attribute (.Name y p1) "append" p2) [e] [] p3) none pos.line X.env = pure false := by rfl) :
    Wp X B L (.Expr (.Call (.Attribute (.Name y p1) "append" p2) [e] [] p3) pos :: rest) D sl :=
  wp_of (ps_expr hp hs) fun σ G H a => by
    obtain ⟨l, vs, e1, h1, h2, h3⟩ := a.sat.own i Rs ei
    refine ⟨.ref l, e1, .inl ⟨rfl, _, SqL.of h1⟩, h.can a.sat fun v G2 H2 g2 r2 => ?_⟩
    refine ⟨l, vs, v, rfl, rfl, g2.hs _ _ h1, by rw [← h3.len]; exact Nat.lt_of_lt_of_le hz (by decide), ?_⟩
    exact k σ G2 _ ((a.go g2).change ei e1 ((h3.mono g2.g).app (.cons r2 .nil)))
/-- y[j] = e -/
theorem w_store (i : Nat) {y : Str} {p1 p2 : Pos} {t : Addr → Prop} {b e : Expr} {j : Nat} (ei : sl[i]? = some (.mu (oT t Rs))) (h : Ev X e sl R) (hj : Ev X b sl (iI (j : Int))) (hlt : j < Rs.length) (k : Wp X B L rest D (sl.set i (.mu (oT t (Rs.set j R))))) (hN : X.N[i]? = some y := by rfl) (hv : Vis X.env.scope y := by first | exact Or.inl rfl | exact Or.inr (Or.inl rfl) | exact Or.inr (Or.inr rfl)) (hd : (y == ("__debug__" : Str)) = false := by decide)
    (hcd : (y == ("__classdict__" : Str)) = false := by decide)
    (hg : PG X (.Subscript (.Name y p1) b p2) (gSub (tVar i) (can X b) rSetL) := by exact pg_sub (pv _) pcan set_list) (hs : swapsWithSole [.Subscript (.Name y p1) b p2] e pos.line X.env = pure false := by rfl) (hw : swappedStores [.Subscript (.Name y p1) b p2] e X.env = pure none := by rfl)
    (h1 : (assignEach [.Subscript (.Name y p1) b p2] X.env).map (·.2) = [assign (.Subscript (.Name y p1) b p2) X.env] := by rfl) :
    Wp X B L (.Assign [.Subscript (.Name y p1) b p2] e pos :: rest) D sl :=
  wp_of (ps_asg pcan hg hs hw h1) fun σ G H a => h.can a.sat fun v G1 H1 g1 r1 => by
    obtain ⟨l, vs, e1, q1, q2, q3⟩ := (a.sat.gr g1).own i Rs ei
    refine ⟨.ref l, e1, hj.can (a.sat.gr g1) fun u G2 H2 g2 ⟨m, e2, ej⟩ => ?_⟩
    subst ej
    have hl : j < vs.length := by rw [← q3.len]; exact hlt
    refine ⟨l, vs, (j : Int), j, rfl, e2, g2.hs _ _ q1, ?_, ?_⟩
    · unfold ixN
      rw [if_pos (by omega), if_pos (by omega)]
      simp
    · exact k σ G2 _ (((a.go g1).go g2).change ei e1 ((q3.mono g2.g).set (R.m g2.g r1) j))
end
end Dl


set_option Elab.async false
set_option linter.all false
set_option maxRecDepth 100000
set_option maxHeartbeats 2000000
namespace Dl
open PySem PySem.Spec PyProof.Rows L2
/-! ### what is walked: at turn i the slots js get values that are Rs i -/
def setS : L2.St → List Nat → List V → L2.St
  | σ, j :: js, v :: vs => setS (σ.set j (some v)) js vs
  | σ, _, _ => σ
def setE : List Ent → List Nat → List RV → List Ent
  | sl, j :: js, R :: Rs => setE (sl.set j (.val R)) js Rs
  | sl, _, _ => sl
theorem At.setS {B : Base} {L : Hp} {G H : Hp} : ∀ {js : List Nat} {Rs : List RV} {vs : List V} {sl : List Ent} {σ : L2.St}, At B L sl σ G H → PVs G Rs vs → At B L (setE sl js Rs) (setS σ js vs) G H
  | [], _, _, _, _, a, _ => by unfold setE Dl.setS; exact a
  | _ :: _, _, _, _, _, a, .nil => by unfold setE Dl.setS; exact a
  | j :: js, _, _, _, _, a, .cons r t => by unfold setE Dl.setS; exact At.setS (a.set j r) t
theorem Sat.setS {G H : Hp} : ∀ {js : List Nat} {Rs : List RV} {vs : List V} {sl : List Ent} {σ : L2.St}, Sat sl σ G H → PVs G Rs vs → Sat (setE sl js Rs) (setS σ js vs) G H
  | [], _, _, _, _, a, _ => by unfold setE Dl.setS; exact a
  | _ :: _, _, _, _, _, a, .nil => by unfold setE Dl.setS; exact a
  | j :: js, _, _, _, _, a, .cons r t => by unfold setE Dl.setS; exact Sat.setS (a.set j r) t
theorem wipe_at {σ : L2.St} {k : Nat} : ∀ {vs : List Nat}, k ∈ vs → k < σ.length → (wipe σ vs)[k]? = some none
  | v :: vs, h, hl => by
    unfold wipe
    by_cases e : k = v
    · subst e
      exact List.getElem?_set_self (by rw [wipe_length]; exact hl)
    · rw [List.getElem?_set_ne (Ne.symm e)]
      exact wipe_at (by cases h with | head => exact absurd rfl e | tail _ h => exact h) hl
theorem setS_len : ∀ (js : List Nat) (vs : List V) (σ : L2.St), (setS σ js vs).length = σ.length
  | [], _, _ => by unfold setS; rfl
  | _ :: _, [], _ => by unfold setS; rfl
  | j :: js, v :: vs, σ => by unfold setS; rw [setS_len js vs, List.length_set]
theorem setS_out : ∀ {js : List Nat} {vs : List V} {σ : L2.St} {k : Nat}, k ∉ js → (setS σ js vs)[k]? = σ[k]?
  | [], _, _, _, _ => by unfold setS; rfl
  | _ :: _, [], _, _, _ => by unfold setS; rfl
  | j :: js, v :: vs, σ, k, h => by
    unfold setS
    rw [setS_out fun z => h (List.mem_cons_of_mem _ z), List.getElem?_set_ne]
    intro e
    exact h (by rw [e]; exact List.mem_cons_self ..)
theorem wipe_setS {σ : L2.St} {js own : List Nat} {vs : List V} (h : ∀ j ∈ js, j ∈ own) : wipe (setS (wipe σ own) js vs) own = wipe σ own := by
  apply List.ext_getElem?
  intro k
  by_cases hk : k ∈ own
  · by_cases hl : k < σ.length
    · rw [wipe_at hk (by rw [setS_len, wipe_length]; exact hl), wipe_at hk hl]
    · rw [List.getElem?_eq_none (by rw [wipe_length, setS_len, wipe_length]; omega), List.getElem?_eq_none (by rw [wipe_length]; omega)]
  · rw [wipe_out hk, setS_out (fun z => hk (h k z)), wipe_out hk]
def wipeE (sl : List Ent) : List Nat → List Ent
  | [] => sl
  | v :: vs => (wipeE sl vs).set v .no
theorem wipeE_len (sl : List Ent) : ∀ vs, (wipeE sl vs).length = sl.length
  | [] => rfl
  | v :: vs => by unfold wipeE; rw [List.length_set, wipeE_len sl vs]
theorem wipeE_some {sl : List Ent} {i : Nat} {x : Ent} (hx : x ≠ .no) : ∀ {vs : List Nat}, (wipeE sl vs)[i]? = some x → sl[i]? = some x ∧ i ∉ vs
  | [], h => ⟨h, by simp⟩
  | v :: vs, h => by
    unfold wipeE at h
    rcases getElem?_set_cases h with ⟨_, e⟩ | ⟨n, e⟩
    · exact absurd e hx
    · obtain ⟨h1, h2⟩ := wipeE_some hx e
      exact ⟨h1, fun z => by cases z with | head => exact n rfl | tail _ z => exact h2 z⟩
theorem Sat.wipe {sl : List Ent} {σ : L2.St} {G H : Hp} (a : Sat sl σ G H) (vs : List Nat) : Sat (wipeE sl vs) (wipe σ vs) G H where
  sub := a.sub
  val := fun i R e => by
    obtain ⟨h1, h2⟩ := wipeE_some (by intro z; cases z) e
    obtain ⟨v, h3, h4⟩ := a.val i R h1
    exact ⟨v, by rw [wipe_out h2]; exact h3, h4⟩
  mu := fun i R e => by
    obtain ⟨h1, h2⟩ := wipeE_some (by intro z; cases z) e
    obtain ⟨p, v, h3, h4⟩ := a.mu i R h1
    exact ⟨p, v, by rw [wipe_out h2]; exact h3, h4⟩
  dis := fun i j Rs Rs' ne e1 e2 => by
    obtain ⟨h1, h2⟩ := wipeE_some (by intro z; cases z) e1
    obtain ⟨h3, h4⟩ := wipeE_some (by intro z; cases z) e2
    rw [wipe_out h2, wipe_out h4]
    exact a.dis i j Rs Rs' ne h1 h3
  len := by rw [wipeE_len, wipe_length]; exact a.len

structure Goes (J : It) (g : TG) (G1 : Hp) (n : Nat) (js : List Nat) (Rs : Nat → List RV) : Prop where
  go : ∀ i G H, i < n → Same G1 G → Same G H → J.go i H
  stop : ∀ G H, Same G1 G → Same G H → J.stop n H
  yld : ∀ i σ G H x H' (K : L2.St → Hp → Prop), i < n → Same G1 G → Same G H → J.yld i H x H' → (∀ vs G2 H2, Gr G H G2 H2 → PVs G2 (Rs i) vs → K (setS σ js vs) H2) → g x σ H' K
/-- the source wi, stored by g -/
def Src (wi : TI) (g : TG) (sl : List Ent) (n : Nat) (js : List Nat) (Rs : Nat → List RV) : Prop :=
  ∀ σ G H R, Sat sl σ G H → (∀ J G1 H1, Gr G H G1 H1 → Goes J g G1 n js Rs → R J H1) → wi σ H R

section
variable {X : Cx} {B : Base} {L : Hp} {sl : List Ent} {D : Ends} {pos : Pos} {rest : List Stmt} {n : Nat} {js : List Nat} {Rs : Nat → List RV} {wi : TI} {g : TG} {tg iter : Expr}
/-- the ends of a loop's body -/
abbrev dturn (D : Ends) (X : Cx) (rest : List Stmt) (B : Base) (L : Hp) (J : List Ent → Prop) : Ends := { D with nx := NX B L J, ct := NX B L J, bk := canS X rest D }
theorem w_for {body : List Stmt} (hc : X.calm = true) (hp : PassesOwn (model X.prog X.w) X.A X.env X.xe) (hi : PI X tg iter wi) (hg : PG X tg g) (hs : Src wi g sl n js Rs) (J : Nat → List Ent → Prop) (h0 : J 0 sl)
    (turn : ∀ i L' sl', i < n → J i sl' → Wp X B L' body (dturn D X rest B L' (J (i + 1))) (setE sl' js (Rs i))) (done : ∀ sl', J n sl' → Wp X B L rest D sl')
    (hf : ∀ x, foldedSetIterable iter X.env x = pure x := by intro _; rfl) : Wp X B L (.For tg iter body [] pos :: rest) D sl :=
  wp_of (ps_for hp hc hi hg pcanS hf) fun σ G H a => hs σ G H _ a.sat fun It G1 H1 g1 gs => by
    refine ⟨fun i m σ' H' => m = n - i ∧ i ≤ n ∧ NX B G1 (J i) σ' H', ⟨n, by simp, Nat.zero_le _, sl, G1, h0, ⟨(a.go g1).sat, (a.go g1).gr, Same.refl _, a.ow⟩⟩, ?_⟩
    rintro i m σ' H' ⟨rfl, hin, sl', G', hj, b⟩
    by_cases hlt : i < n
    · refine .inr ⟨gs.go i G' H' hlt b.lo b.sat.sub, NX B G1 (J (i + 1)), fun σ2 H2 nx => ⟨n - (i + 1), by omega, rfl, hlt, nx⟩, fun x H'' y => ?_⟩
      exact gs.yld i σ' G' H' x H'' _ hlt b.lo b.sat.sub y fun vs G2 H2 g2 r => turn i G1 sl' hlt hj _ G2 H2 ((b.go g2).setS r)
    · have e : i = n := by omega
      subst e
      exact .inl ⟨gs.stop G' H' b.lo b.sat.sub, done sl' hj σ' G' H' (b.down (a.lo.trans g1.g))⟩
/-- a list comprehension without a test -/
theorem e_lc {elt : Expr} {scope : Scope} {own : List (Str × Nat)} (hc : X.calm = true) (hN : X.N.Nodup) (hi : PI X tg iter wi) (ok : BlkOk X.N X.env.scope scope own)
    (hg : ∀ (s : Shared) (H : Hp) (C : Addr) (cl : List (Str × Addr)) (fp : List Addr), PG (X.blk s H scope (compEnvC scope cl C X.env) fp) tg g) (hs : Src wi g sl n js Rs) (hj : ∀ j ∈ js, j ∈ own.map (·.2)) (hn : n ≤ 90000) (d : Nat → RV)
    (he : ∀ i, i < n → ∀ (s : Shared) (H : Hp) (C : Addr) (cl : List (Str × Addr)) (fp : List Addr), Ev (X.blk s H scope (compEnvC scope cl C X.env) fp) elt (setE (wipeE sl (own.map (·.2))) js (Rs i)) (d i))
    (hf : ∀ x, foldedSetIterable iter X.env x = pure x := by intro _; rfl) : EvR X (.ListComp elt [⟨tg, iter, [], 0⟩] scope pos) sl (.l ((List.range n).map d)) :=
  evR_of (pe_lc (tt := tYes) (te := fun σ H Q => ∀ (s : Shared) (H0 : Hp) (C : Addr) (cl : List (Str × Addr)) (fp : List Addr), can (X.blk s H0 scope (compEnvC scope cl C X.env) fp) elt σ H Q) hc hN hi ok hg (fun _ _ _ _ _ => pts_nil) (fun s H C cl fp => ⟨fun pins s' σ' H' Q I h => h s H C cl fp pins s' I⟩) hf) fun σ G H Q a q => hs σ G H _ a fun It G1 H1 g1 gs D hD => by
    refine ⟨fun i m H' => m = n - i ∧ i ≤ n ∧ ∃ G' vs, Gr G1 H1 G' (upd H' D (.lst vs)) ∧ G' D = none ∧ H' D = some (.lst vs) ∧ PVs G' ((List.range i).map d) vs, ⟨n, by simp, Nat.zero_le _, G1, [], ?_, g1.s.free hD, upd_same, .nil⟩, ?_⟩
    · rw [upd_upd]; exact Gr.newOut g1.s hD
    · rintro i m H' ⟨rfl, hin, G', vs, g2, h1, h2, h3⟩
      have eH : upd H' D (.lst vs) = H' := by
        funext b
        by_cases e : b = D
        · subst e; rw [upd_same, h2]
        · rw [upd_ne e]
      rw [eH] at g2
      by_cases hlt : i < n
      · refine .inr ⟨gs.go i G' H' hlt g2.g g2.s, fun H'' => ∃ G' vs, Gr G1 H1 G' (upd H'' D (.lst vs)) ∧ G' D = none ∧ H'' D = some (.lst vs) ∧ PVs G' ((List.range (i + 1)).map d) vs, fun H'' hh => ⟨n - (i + 1), by omega, rfl, hlt, hh⟩, fun x H'' y => ?_⟩
        refine gs.yld i _ G' H' x H'' _ hlt g2.g g2.s y fun ws G2 H2 g3 r => ⟨wipe_setS hj, ?_⟩
        unfold tYes; dsimp only
        rw [if_pos rfl]
        intro s H0 C cl fp
        have sa : Sat (setE (wipeE sl (own.map (·.2))) js (Rs i)) (setS (wipe σ (own.map (·.2))) js ws) G2 H2 := Sat.setS (((a.wipe _).gr g1).gr (g2.trans g3)) r
        refine (he i hlt s H0 C cl fp).can sa fun v G3 H3 g4 rv => ?_
        have hD3 : H3 D = some (.lst vs) := g4.hs _ _ (g3.hs _ _ h2)
        have gD3 : G3 D = none := (g3.trans g4).out h2 h1
        have lv : vs.length = i := by have := h3.len; rw [List.length_map, List.length_range] at this; exact this.symm
        refine ⟨vs, hD3, Nat.lt_of_le_of_lt (by omega : vs.length ≤ 90000) (by decide), G3, vs ++ [v], ?_, gD3, upd_same, ?_⟩
        · rw [upd_upd]
          have gt : Gr G1 H1 G3 H3 := (g2.trans g3).trans g4
          refine ⟨gt.g, fun b o m e => ?_, fun b e => ?_, fun b o e => ?_, gt.n⟩
          · rw [upd_ne (ne_of_none e hD)]; exact gt.h b o m e
          · by_cases eb : b = D
            · rw [eb, upd_same]; exact fun z => nomatch z
            · rw [upd_ne eb]; exact gt.t b e
          · rw [upd_ne (fun z => by rw [z, gD3] at e; cases e)]; exact gt.s b o e
        · rw [List.range_succ, List.map_append]
          exact (h3.mono (g3.g.trans g4.g)).app (.cons rv .nil)
      · have e : i = n := by omega
        subst e
        exact .inl ⟨gs.stop G' H' g2.g g2.s, q D vs G' H' (g1.trans g2) (g1.hs.free hD) h1 h2 h3⟩
/-- a list comprehension with a test that is decided -/
theorem e_lcT {elt tst : Expr} {scope : Scope} {own : List (Str × Nat)} (hc : X.calm = true) (hN : X.N.Nodup) (hi : PI X tg iter wi) (ok : BlkOk X.N X.env.scope scope own)
    (hg : ∀ (s : Shared) (H : Hp) (C : Addr) (cl : List (Str × Addr)) (fp : List Addr), PG (X.blk s H scope (compEnvC scope cl C X.env) fp) tg g) (hs : Src wi g sl n js Rs) (hj : ∀ j ∈ js, j ∈ own.map (·.2)) (hn : n ≤ 90000) (t : Nat → Bool) (d : Nat → RV)
    (ht : ∀ i, i < n → ∀ (s : Shared) (H : Hp) (C : Addr) (cl : List (Str × Addr)) (fp : List Addr), EvT (X.blk s H scope (compEnvC scope cl C X.env) fp) tst (setE (wipeE sl (own.map (·.2))) js (Rs i)) (fun b => b = t i))
    (he : ∀ i, i < n → t i = true → ∀ (s : Shared) (H : Hp) (C : Addr) (cl : List (Str × Addr)) (fp : List Addr), Ev (X.blk s H scope (compEnvC scope cl C X.env) fp) elt (setE (wipeE sl (own.map (·.2))) js (Rs i)) (d i))
    (hf : ∀ x, foldedSetIterable iter X.env x = pure x := by intro _; rfl) : EvR X (.ListComp elt [⟨tg, iter, [tst], 0⟩] scope pos) sl (.l (((List.range n).filter t).map d)) :=
  evR_of (pe_lc (tt := fun σ H Q => ∀ (s : Shared) (H0 : Hp) (C : Addr) (cl : List (Str × Addr)) (fp : List Addr), canT (X.blk s H0 scope (compEnvC scope cl C X.env) fp) tst σ H Q) (te := fun σ H Q => ∀ (s : Shared) (H0 : Hp) (C : Addr) (cl : List (Str × Addr)) (fp : List Addr), can (X.blk s H0 scope (compEnvC scope cl C X.env) fp) elt σ H Q) hc hN hi ok hg
      (fun s H C cl fp => pts_one ⟨fun pins s' σ' H' Q I h => h s H C cl fp pins s' I⟩) (fun s H C cl fp => ⟨fun pins s' σ' H' Q I h => h s H C cl fp pins s' I⟩) hf) fun σ G H Q a q => hs σ G H _ a fun It G1 H1 g1 gs D hD => by
    refine ⟨fun i m H' => m = n - i ∧ i ≤ n ∧ ∃ G' vs, Gr G1 H1 G' (upd H' D (.lst vs)) ∧ G' D = none ∧ H' D = some (.lst vs) ∧ PVs G' (((List.range i).filter t).map d) vs, ⟨n, by simp, Nat.zero_le _, G1, [], ?_, g1.s.free hD, upd_same, .nil⟩, ?_⟩
    · rw [upd_upd]; exact Gr.newOut g1.s hD
    · rintro i m H' ⟨rfl, hin, G', vs, g2, h1, h2, h3⟩
      have eH : upd H' D (.lst vs) = H' := by
        funext b
        by_cases e : b = D
        · subst e; rw [upd_same, h2]
        · rw [upd_ne e]
      rw [eH] at g2
      by_cases hlt : i < n
      · refine .inr ⟨gs.go i G' H' hlt g2.g g2.s, fun H'' => ∃ G' vs, Gr G1 H1 G' (upd H'' D (.lst vs)) ∧ G' D = none ∧ H'' D = some (.lst vs) ∧ PVs G' (((List.range (i + 1)).filter t).map d) vs, fun H'' hh => ⟨n - (i + 1), by omega, rfl, hlt, hh⟩, fun x H'' y => ?_⟩
        refine gs.yld i _ G' H' x H'' _ hlt g2.g g2.s y fun ws G2 H2 g3 r => ⟨wipe_setS hj, fun s0 H00 C0 cl0 fp0 => ?_⟩
        have sa : Sat (setE (wipeE sl (own.map (·.2))) js (Rs i)) (setS (wipe σ (own.map (·.2))) js ws) G2 H2 := Sat.setS (((a.wipe _).gr g1).gr (g2.trans g3)) r
        refine (ht i hlt s0 H00 C0 cl0 fp0).can sa fun bb G3 H3 g4 eb => ?_
        subst eb
        have lv : vs.length ≤ i := by
          have := h3.len
          rw [List.length_map] at this
          have h5 := List.length_filter_le t (List.range i)
          rw [List.length_range] at h5
          omega
        cases et : t i with
        | true =>
          refine iteT fun s H0 C cl fp => ?_
          refine (he i hlt et s H0 C cl fp).can (sa.gr g4) fun v G4 H4 g5 rv => ?_
          have g45 := g4.trans g5
          have hD3 : H4 D = some (.lst vs) := g45.hs _ _ (g3.hs _ _ h2)
          have gD3 : G4 D = none := (g3.trans g45).out h2 h1
          refine ⟨vs, hD3, Nat.lt_of_le_of_lt (by omega : vs.length ≤ 90000) (by decide), G4, vs ++ [v], ?_, gD3, upd_same, ?_⟩
          · rw [upd_upd]
            have gt : Gr G1 H1 G4 H4 := (g2.trans g3).trans g45
            refine ⟨gt.g, fun b o m e => ?_, fun b e => ?_, fun b o e => ?_, gt.n⟩
            · rw [upd_ne (ne_of_none e hD)]; exact gt.h b o m e
            · by_cases eb : b = D
              · rw [eb, upd_same]; exact fun z => nomatch z
              · rw [upd_ne eb]; exact gt.t b e
            · rw [upd_ne (fun z => by rw [z, gD3] at e; cases e)]; exact gt.s b o e
          · rw [List.range_succ, List.filter_append, List.map_append, List.filter_cons, if_pos et]
            exact (h3.mono (g3.g.trans g45.g)).app (.cons rv .nil)
        | false =>
          refine iteF ?_
          have gt : Gr G1 H1 G3 H3 := (g2.trans g3).trans g4
          have hD3 : H3 D = some (.lst vs) := g4.hs _ _ (g3.hs _ _ h2)
          have gD3 : G3 D = none := (g3.trans g4).out h2 h1
          refine ⟨G3, vs, ?_, gD3, hD3, ?_⟩
          · have eH3 : upd H3 D (.lst vs) = H3 := by
              funext b
              by_cases e : b = D
              · subst e; rw [upd_same, hD3]
              · rw [upd_ne e]
            rw [eH3]
            exact gt
          · rw [List.range_succ, List.filter_append, List.filter_cons, if_neg (by rw [et]; decide)]
            show PVs G3 (((List.range i).filter t ++ []).map d) vs
            rw [List.append_nil]
            exact h3.mono (g3.g.trans g4.g)
      · have e : i = n := by omega
        subst e
        exact .inl ⟨gs.stop G' H' g2.g g2.s, q D vs G' H' (g1.trans g2) (g1.hs.free hD) h1 h2 h3⟩
end

/-! ### sources -/
section
variable {K : PySem.W.Frag} {sl : List Ent} {X : Cx}
theorem SqL.inj2 {G H : Hp} {l : Addr} {vs : List V} : True := trivial
theorem src_list {e : Expr} {Rs : List RV} {j : Nat} {d : RV} (h : Ev X e sl (rLst X.K Rs)) : Src (iList X.K (can X e)) (gName j) sl Rs.length [j] (fun i => [Rs.getD i d]) := fun σ G H R a k => h.can a fun v G1 H1 g1 ⟨l, vs, ev, q, r⟩ => by
  refine ⟨l, ev, ⟨vs, g1.s.seq q⟩, k _ G1 H1 g1 ⟨fun i G2 H2 hi s1 s2 => ?_, fun G2 H2 s1 s2 => ⟨vs, s2.seq (s1.seq q), by rw [r.len]; exact Nat.le_refl _⟩, fun i σ G2 H2 x H' K hi s1 s2 y kk => ?_⟩⟩
  · have hl : i < vs.length := by rw [← r.len]; exact hi
    exact ⟨vs, vs[i], s2.seq (s1.seq q), List.getElem?_eq_getElem hl⟩
  · obtain ⟨rfl, f⟩ := y
    have e1 := f vs (s2.seq (s1.seq q))
    obtain ⟨R', h1, h2⟩ := r.back e1
    refine kk [x] G2 H' (.refl s2) (.cons ?_ .nil)
    rw [List.getD_eq_getElem?_getD, h1]
    exact R'.m s1 h2
theorem src_tup {e : Expr} {Rs : List RV} {j : Nat} {d : RV} (h : Ev X e sl (rTup X.K Rs)) : Src (iTup X.K (can X e)) (gName j) sl Rs.length [j] (fun i => [Rs.getD i d]) := fun σ G H R a k => h.can a fun v G1 H1 g1 ⟨l, vs, ev, q, r⟩ => by
  refine ⟨l, ev, ⟨vs, Same.tup g1.s q⟩, k _ G1 H1 g1 ⟨fun i G2 H2 hi s1 s2 => ?_, fun G2 H2 s1 s2 => ⟨vs, Same.tup s2 (Same.tup s1 q), by rw [r.len]; exact Nat.le_refl _⟩, fun i σ G2 H2 x H' K hi s1 s2 y kk => ?_⟩⟩
  · have hl : i < vs.length := by rw [← r.len]; exact hi
    exact ⟨vs, vs[i], Same.tup s2 (Same.tup s1 q), List.getElem?_eq_getElem hl⟩
  · obtain ⟨rfl, f⟩ := y
    have e1 := f vs (Same.tup s2 (Same.tup s1 q))
    obtain ⟨R', h1, h2⟩ := r.back e1
    refine kk [x] G2 H' (.refl s2) (.cons ?_ .nil)
    rw [List.getD_eq_getElem?_getD, h1]
    exact R'.m s1 h2
theorem src_range {a : Expr} {m : Int} {j : Nat} (h : Ev X a sl (iI m)) (h1 : m < 2 ^ 62) (h2 : -(2 ^ 62) ≤ m) (he : starEach [a] X.env = [(false, eval a X.env)] := by rfl) : Src (iRng1 (canA X [a])) (gName j) sl m.toNat [j] (fun i => [iI (i : Int)]) := fun σ G H R z k => (a1 h he).can z fun vs G1 H1 g1 r => by
  obtain ⟨v, rfl, i, rfl, rfl⟩ := pv1 r
  refine ⟨_, rfl, h2, h1, k _ G1 H1 g1 ⟨fun i G2 H2 hi s1 s2 => hi, fun G2 H2 s1 s2 => Nat.le_refl _, fun i σ G2 H2 x H' K hi s1 s2 y kk => ?_⟩⟩
  obtain ⟨rfl, rfl⟩ := y
  exact kk _ G2 H' (.refl s2) (.cons ⟨_, rfl, by simp⟩ .nil)
/-- a pair that is stored into two names -/
theorem g_pair {G H : Hp} {j1 j2 : Nat} {T : Addr} {x y : V} {R1 R2 : RV} {σ : L2.St} {KK : L2.St → Hp → Prop} (s : Same G H) (hT : H T = none) (r1 : R1.r G x) (r2 : R2.r G y) (kk : ∀ vs G2 H2, Gr G H G2 H2 → PVs G2 [R1, R2] vs → KK (setS σ [j1, j2] vs) H2) :
    gTup K 2 (gCons (gName j1) (gCons (gName j2) gNil)) (.ref T) σ (upd H T (.tup [x, y])) KK :=
  ⟨T, [x, y], rfl, SqT.of upd_same, rfl, x, [y], rfl, y, [], rfl, rfl, kk [x, y] _ _ (Gr.new s hT) (.cons (R1.m (same_new (s.free hT)) r1) (.cons (R2.m (same_new (s.free hT)) r2) .nil))⟩
theorem src_enum {e : Expr} {Rs : List RV} {j1 j2 : Nat} {d : RV} (h : Ev X e sl (rLst X.K Rs)) (he : starEach [e] X.env = [(false, eval e X.env)] := by rfl) : Src (iEnum X.K (canA X [e])) (gTup X.K 2 (gCons (gName j1) (gCons (gName j2) gNil))) sl Rs.length [j1, j2] (fun i => [iI (i : Int), Rs.getD i d]) := fun σ G H R a k => (a1 h he).can a fun vs' G1 H1 g1 r' => by
  obtain ⟨v, rfl, l, vs, rfl, q, r⟩ := pv1 r'
  refine ⟨l, vs, rfl, g1.s.seq q, k _ G1 H1 g1 ⟨fun i G2 H2 hi s1 s2 => ?_, fun G2 H2 s1 s2 => ⟨vs, s2.seq (s1.seq q), by rw [r.len]; exact Nat.le_refl _⟩, fun i σ G2 H2 x H' K hi s1 s2 y kk => ?_⟩⟩
  · have hl : i < vs.length := by rw [← r.len]; exact hi
    exact ⟨vs, vs[i], s2.seq (s1.seq q), List.getElem?_eq_getElem hl⟩
  · obtain ⟨T, z, rfl, hT, rfl, f⟩ := y
    have e1 := f vs (s2.seq (s1.seq q))
    obtain ⟨R', h1, h2⟩ := r.back e1
    refine g_pair (R1 := iI (i : Int)) s2 hT ⟨_, rfl, rfl⟩ ?_ kk
    rw [List.getD_eq_getElem?_getD, h1]
    exact R'.m s1 h2
theorem src_zip {e e2 : Expr} {Rs Rs' : List RV} {j1 j2 : Nat} {d d' : RV} (h : Ev X e sl (rLst X.K Rs)) (h' : Ev X e2 sl (rLst X.K Rs')) (he : starEach [e, e2] X.env = (false, eval e X.env) :: starEach [e2] X.env := by rfl) (he' : starEach [e2] X.env = [(false, eval e2 X.env)] := by rfl) :
    Src (iZip X.K (canA X [e, e2])) (gTup X.K 2 (gCons (gName j1) (gCons (gName j2) gNil))) sl (min Rs.length Rs'.length) [j1, j2] (fun i => [Rs.getD i d, Rs'.getD i d']) := fun σ G H R a k => (a2 h h' he he').can a fun vs' G1 H1 g1 r' => by
  obtain ⟨v, v', rfl, ⟨l, vs, rfl, q, r⟩, ⟨l', ws, rfl, q', t⟩⟩ := pv2 r'
  have l1 := r.len
  have l2 := t.len
  refine ⟨l, l', vs, ws, rfl, g1.s.seq q, g1.s.seq q', k _ G1 H1 g1 ⟨fun i G2 H2 hi s1 s2 => ?_, fun G2 H2 s1 s2 => ⟨vs, ws, s2.seq (s1.seq q), s2.seq (s1.seq q'), by omega⟩, fun i σ G2 H2 x H' K hi s1 s2 y kk => ?_⟩⟩
  · have hl : i < vs.length := by omega
    have hl' : i < ws.length := by omega
    exact ⟨vs, ws, vs[i], ws[i], s2.seq (s1.seq q), s2.seq (s1.seq q'), List.getElem?_eq_getElem hl, List.getElem?_eq_getElem hl'⟩
  · obtain ⟨T, z, z', rfl, hT, rfl, f, f'⟩ := y
    obtain ⟨R1, h1, h2⟩ := r.back (f vs (s2.seq (s1.seq q)))
    obtain ⟨R2, h3, h4⟩ := t.back (f' ws (s2.seq (s1.seq q')))
    refine g_pair s2 hT ?_ ?_ kk
    · rw [List.getD_eq_getElem?_getD, h1]
      exact R1.m s1 h2
    · rw [List.getD_eq_getElem?_getD, h3]
      exact R2.m s1 h4
/-- a list of pairs, each stored into two names -/
theorem src_pairs {e : Expr} {R1 R2 : List RV} {j1 j2 : Nat} {d : RV} (h : Ev X e sl (rLst X.K (List.zipWith (fun a b => rTup X.K [a, b]) R1 R2))) : Src (iList X.K (can X e)) (gTup X.K 2 (gCons (gName j1) (gCons (gName j2) gNil))) sl (min R1.length R2.length) [j1, j2] (fun i => [R1.getD i d, R2.getD i d]) := fun σ G H R a k => h.can a fun v G1 H1 g1 ⟨l, vs, ev, q, r⟩ => by
  have lz := r.len
  rw [List.length_zipWith] at lz
  refine ⟨l, ev, ⟨vs, g1.s.seq q⟩, k _ G1 H1 g1 ⟨fun i G2 H2 hi s1 s2 => ?_, fun G2 H2 s1 s2 => ⟨vs, s2.seq (s1.seq q), by omega⟩, fun i σ G2 H2 x H' KK hi s1 s2 y kk => ?_⟩⟩
  · have hl : i < vs.length := by omega
    exact ⟨vs, vs[i], s2.seq (s1.seq q), List.getElem?_eq_getElem hl⟩
  · obtain ⟨rfl, f⟩ := y
    have e1 := f vs (s2.seq (s1.seq q))
    obtain ⟨R', h1, h2⟩ := r.back e1
    rw [List.getElem?_zipWith] at h1
    have i1 : i < R1.length := by omega
    have i2 : i < R2.length := by omega
    rw [List.getElem?_eq_getElem i1, List.getElem?_eq_getElem i2] at h1
    cases h1
    obtain ⟨T, ws, rfl, hT, hw⟩ := h2
    obtain ⟨z1, z2, rfl, k1, k2⟩ := pv2 hw
    refine ⟨T, _, rfl, Same.tup s2 (Same.tup s1 hT), rfl, z1, [z2], rfl, z2, [], rfl, rfl, kk [z1, z2] G2 H' (.refl s2) (.cons ?_ (.cons ?_ .nil))⟩
    · rw [List.getD_eq_getElem?_getD, List.getElem?_eq_getElem i1]
      exact RV.m _ s1 k1
    · rw [List.getD_eq_getElem?_getD, List.getElem?_eq_getElem i2]
      exact RV.m _ s1 k2
end
end Dl


set_option Elab.async false
set_option linter.all false
set_option maxRecDepth 100000
set_option maxHeartbeats 2000000
namespace Dl
open PySem PySem.Spec PyProof.Rows L2 ClX
/-! ### defs by names -/
def Df (K : PySem.W.Frag) (mg : Str → Option Value) (x : Str) (st : Stmt) : Prop := ∃ f fd, FnP K x x st f fd ∧ mg x = some (.ref f)
section
variable {P : Program} {w : World} {K : PySem.W.Frag} {mg : Str → Option Value} {base : Heap}
theorem has_df {x : Str} {st : Stmt} {N ps : List Str} {k : Nat} {α : Type} {F : Fn α} (d : Df K mg x st) (S : FnScope N ps (defScope st))
    (hb : ∀ (kV doc pm : Value) (an : Option Addr) (cdv ct : Value) (us : List Value), us.length = ps.length → bindArgs (PySem.W.fnOf x x (defArgs st) (defBody st) (defScope st) .none kV doc pm an cdv ct) ⟨us, []⟩ = pure (ps.zip us)) (hps : F.ps = ps) (hl : ∀ a, (F.args a).length = F.ps.length)
    (body : ∀ f, Body P w K mg base x st f N k F) : Has P w K mg base (k + 1) x F := by
  obtain ⟨f, fd, h1, h2⟩ := d
  subst hps
  exact has_of h1 h2 S hl hb (body f)
end

/-! ### a def that changes its first argument and tells nothing -/
structure FnM (α : Type) where
  ps : List Str
  o0 : α → OV
  args : α → List RV
  pre : α → Prop
  o1 : α → OV
def FnM.sp {α : Type} (F : FnM α) : Sp := fun vs H Q _ => ∃ z G p o ws, Same G H ∧ vs = .ref p :: ws ∧ H p = some o ∧ G p = none ∧ (F.o0 z).r G p o ∧ PVs G (F.args z) ws ∧ F.pre z ∧
  ∀ G' H' o', Grow (fun a => a = p) G H G' H' → H' p = some o' → G' p = none → (F.o1 z).r G' p o' → Q .non H'
structure HasM (P : Program) (w : World) (K : PySem.W.Frag) (mg : Str → Option Value) (base : Heap) (k : Nat) (x : Str) {α : Type} (F : FnM α) : Prop where
  ex : ∃ f fd, mg x = some (.ref f) ∧ PySem.W.keepIn K (.ref f) = true ∧ Binds K fd F.ps [] ∧ FnOk P w K mg base CX0 k f fd F.ps F.sp
section
variable {P : Program} {w : World} {K : PySem.W.Frag} {mg : Str → Option Value} {base : Heap}
def BodyM (P : Program) (w : World) (K : PySem.W.Frag) (mg : Str → Option Value) (base : Heap) (qual : Str) (st : Stmt) (f : Addr) (N : List Str) (k : Nat) {α : Type} (F : FnM α) : Prop :=
  ∀ (cdv : Value) (A : Around) (outer : List Env) (s : Shared) (H : Hp) (E : XK) (z : α) (p : Addr) (B : Base) (L : Hp) (D : Ends), Room k (A.deeper (envOfC qual (defScope st) s.heap.objs.size f cdv)) → F.pre z →
    (∀ σ G' H' sl O, At B L sl σ G' H' → sl[0]? = some (.mu (tie p O)) → (∀ G a o, O.r G a o → (F.o1 z).r G a o) → D.nx σ H') →
    Wp (cxOf CX0 P w K mg base N qual (defScope st) f cdv A outer s H E).nox B L (defBody st) D (.mu (tie p (F.o0 z)) :: ents (N.length - 1) (F.args z))
theorem fnOk_ofM {qual x : Str} {params : Arguments} {dvs : List V} {st : Stmt} {f : Addr} {fd : FuncData} {N : List Str} {k : Nat} {α : Type} {F : FnM α} (F0 : FunD K x qual params (defBody st) (defScope st) dvs [] f fd) (S : FnScope N F.ps (defScope st)) (hl : ∀ a, (F.args a).length + 1 = F.ps.length) (hN : 0 < N.length)
    (body : BodyM P w K mg base qual st f N k F) : FnOk P w K mg base CX0 (k + 1) f fd F.ps F.sp := by
  refine FunD.ok F0 S (fun vs H Q E h => ?_) (fun cdv A outer s H vs Q E hr h => ?_)
  · obtain ⟨z, G, p, o, ws, _, rfl, _, _, _, r, _⟩ := h
    rw [List.length_cons, ← r.len, hl]
  · obtain ⟨z, G, p, o, ws, sm, rfl, hp, gp, ho, r, hpre, q⟩ := h
    refine ⟨_, PSs.nox pcanS, ?_⟩
    have ss : Sat (ents (N.length - 1) (F.args z)) (ws.map some ++ List.replicate (N.length - 1 - ws.length) none) G H := by
      have := sat_start (N := N.tail) (H := H) sm r
      unfold L2.start at this
      rw [List.length_tail] at this
      exact this
    have no : ∀ (i : Nat) O, (ents (N.length - 1) (F.args z))[i]? ≠ some (.mu O) := fun i O e => by
      unfold ents at e
      rw [List.getElem?_append] at e
      split at e
      · rw [List.getElem?_map] at e
        cases q : (F.args z)[i]? with
        | none => rw [q] at e; cases e
        | some R' => rw [q] at e; cases e
      · rw [List.getElem?_replicate] at e
        split at e <;> cases e
    have st0 : L2.start N (.ref p :: ws) = some (.ref p) :: (ws.map some ++ List.replicate (N.length - 1 - ws.length) none) := by
      unfold L2.start
      rw [List.map_cons, List.cons_append, List.length_cons, Nat.sub_add_eq, Nat.sub_right_comm]
    have sat : Sat (.mu (tie p (F.o0 z)) :: ents (N.length - 1) (F.args z)) (L2.start N (.ref p :: ws)) G H := by
      rw [st0]
      refine ⟨sm, fun i R e => ?_, fun i O e => ?_, fun i j O O' ne e1 e2 => ?_, by rw [List.length_cons, List.length_cons, ss.len]⟩
      · cases i with
        | zero => cases e
        | succ i => exact ss.val i R e
      · cases i with
        | zero => cases e; exact ⟨p, o, rfl, hp, gp, rfl, ho⟩
        | succ i => exact absurd e (no i O)
      · cases i with
        | succ i => exact absurd e1 (no i O)
        | zero => cases j with
          | zero => exact absurd rfl ne
          | succ j => exact absurd e2 (no j O')
    refine body cdv A outer s H E z p ⟨G, H, fun a => a = p⟩ G { nx := fun _ H' => Q .non H', rt := Q } hr hpre (fun σ G' H' sl O a e ho1 => ?_) (L2.start N (.ref p :: ws)) G H ⟨sat, Grow.refl sm, Same.refl _, fun i O q e eq => ?_⟩
    · obtain ⟨p', o', h1, h2, h3, rfl, h4⟩ := a.sat.mu 0 _ e
      exact q G' H' o' a.gr h2 h3 (ho1 _ _ _ h4)
    · cases i with
      | zero =>
        rw [st0] at eq
        cases eq
        exact .inl rfl
      | succ i => exact absurd e (no i O)
theorem hasM_df {x : Str} {st : Stmt} {N ps : List Str} {k : Nat} {α : Type} {F : FnM α} (d : Df K mg x st) (S : FnScope N ps (defScope st))
    (hb : ∀ (kV doc pm : Value) (an : Option Addr) (cdv ct : Value) (us : List Value), us.length = ps.length → bindArgs (PySem.W.fnOf x x (defArgs st) (defBody st) (defScope st) .none kV doc pm an cdv ct) ⟨us, []⟩ = pure (ps.zip us)) (hps : F.ps = ps) (hl : ∀ a, (F.args a).length + 1 = F.ps.length) (hN : 0 < N.length)
    (body : ∀ f, BodyM P w K mg base x st f N k F) : HasM P w K mg base (k + 1) x F := by
  obtain ⟨f, fd, h1, h2⟩ := d
  subst hps
  exact ⟨f, fd, h2, h1.kp, h1.bindsN hb, fnOk_ofM h1 S hl hN (body f)⟩
end
section
variable {X : Cx} {B : Base} {L : Hp} {sl : List Ent} {D : Ends} {pos : Pos} {rest : List Stmt} {R : RV} {Rs : List RV}
/-- the end of such a def -/
theorem w_fallM {O : OV} {p : Addr} {α : Type} {F : FnM α} {z : α} (hN : ∀ σ G' H' sl O, At B L sl σ G' H' → sl[0]? = some (.mu (tie p O)) → (∀ G a o, O.r G a o → (F.o1 z).r G a o) → D.nx σ H') (e : sl[0]? = some (.mu (tie p O))) (h : ∀ G a o, O.r G a o → (F.o1 z).r G a o) : Wp X B L [] D sl :=
  fun σ G H a pins s I => (pss_nil (X := X)).run pins s σ H D I (hN σ G H sl O a e h)
/-- what is behind a change of an object of one's own, in a call -/
theorem At.called {σ : L2.St} {G H G' H' : Hp} (a : At B L sl σ G H) {i : Nat} {O O' : OV} {p : Addr} {o : HO} (ei : sl[i]? = some (.mu O)) (es : σ[i]? = some (some (.ref p))) (g : Grow (fun b => b = p) G H G' H') (hp : H' p = some o) (gp : G' p = none) (r : O'.r G' p o) : At B L (sl.set i (.mu O')) σ G' H' := by
  obtain ⟨q, o0, h1, h2, h3, _⟩ := a.sat.mu i O ei
  rw [es] at h1
  cases h1
  have hm := a.ow i O p ei es
  refine ⟨⟨g.s, fun j R ej => ?_, fun j O2 ej => ?_, fun j l O1 O2 ne e1 e2 => ?_, by rw [List.length_set]; exact a.sat.len⟩, ⟨a.gr.g.trans g.g, fun b u m e => ?_, fun b e => g.t b (a.gr.t b e), g.s, fun b e => (g.n b (a.gr.t b e)).trans (a.gr.n b e)⟩, a.lo.trans g.g, fun j O2 q ej eq => ?_⟩
  · rcases getElem?_set_cases ej with ⟨_, z⟩ | ⟨n, z⟩
    · cases z
    · obtain ⟨v, k1, k2⟩ := a.sat.val j R z
      exact ⟨v, k1, R.m g.g k2⟩
  · rcases getElem?_set_cases ej with ⟨rfl, z⟩ | ⟨n, z⟩
    · cases z
      exact ⟨p, o, es, hp, gp, r⟩
    · obtain ⟨q, u, k1, k2, k3, k4⟩ := a.sat.mu j O2 z
      have nq : q ≠ p := fun e => by
        subst e
        exact a.sat.dis j i O2 O n z ei (k1.trans es.symm)
      exact ⟨q, u, k1, g.h q u nq k2, g.out k2 k3, O2.m g.g k4⟩
  · have f : ∀ (k : Nat) (R : OV), (sl.set i (.mu O'))[k]? = some (.mu R) → ∃ R', sl[k]? = some (.mu R') := fun k R ek => by
      rcases getElem?_set_cases ek with ⟨rfl, _⟩ | ⟨_, z⟩
      · exact ⟨_, ei⟩
      · exact ⟨_, z⟩
    obtain ⟨R1, k1⟩ := f j O1 e1
    obtain ⟨R2, k2⟩ := f l O2 e2
    exact a.sat.dis j l R1 R2 ne k1 k2
  · have k := a.gr.h b u m e
    refine g.h b u (fun z => ?_) k
    subst z
    rcases hm with z | z
    · exact m z
    · rw [z] at e; cases e
  · rcases getElem?_set_cases ej with ⟨rfl, _⟩ | ⟨_, z⟩
    · exact a.ow j O q ei eq
    · exact a.ow j O2 q z eq
/-- f(y, e, ..) as a statement, y changed -/
theorem w_callM (i : Nat) {x y : Str} {p p1 p2 : Pos} {es : List Expr} {k : Nat} {α : Type} {F : FnM α} (h : HasM X.prog X.w X.K X.mg X.base k x F) (hr : Room k X.A) (z : α) (ei : sl[i]? = some (.mu (F.o0 z))) (ha : EvA X es sl (F.args z)) (hp : F.pre z) (kk : Wp X B L rest D (sl.set i (.mu (F.o1 z)))) (hg : Gl X x := by rfl) (hdb : (x == ("__debug__" : Str)) = false := by decide)
    (hN : X.N[i]? = some y := by rfl) (hv : Vis X.env.scope y := by first | exact Or.inl rfl | exact Or.inr (Or.inl rfl) | exact Or.inr (Or.inr rfl)) (hd : (y == ("__debug__" : Str)) = false := by decide) (hcd : (y == ("__classdict__" : Str)) = false := by decide)
    (he : starEach (.Name y p1 :: es) X.env = (false, eval (.Name y p1) X.env) :: starEach es X.env := by rfl) (hpl : (backTo p2 (starEach es X.env)).any (·.1) = false := by rfl) (hs : swapsWith (.Call (.Name x p) (.Name y p1 :: es) [] p2) none pos.line X.env = pure false := by rfl) :
    Wp X B L (.Expr (.Call (.Name x p) (.Name y p1 :: es) [] p2) pos :: rest) D sl := by
  obtain ⟨f, fd, hm, hk, hb, ok⟩ := h.ex
  refine wp_of (ps_expr (pe_call ok hr hg hm hk hb .nil pass0 (pa_cons (pe_var hN hv hd hcd) pcanA he) hdb he hpl) hs) fun σ G H a => ?_
  obtain ⟨q, o, h1, h2, h3, h4⟩ := a.sat.mu i _ ei
  refine ⟨.ref q, h1, ha.can a.sat fun vs G1 H1 g1 r1 => ?_⟩
  show F.sp ((.ref q :: vs) ++ []) H1 _ E0
  rw [List.append_nil]
  have a1 := a.go g1
  refine ⟨z, G1, q, o, vs, g1.s, rfl, g1.hs _ _ h2, g1.out h2 h3, OV.m _ g1.g h4, r1, hp, fun G2 H2 o2 g2 k1 k2 k3 => ?_⟩
  exact kk σ G2 H2 (a1.called ei h1 g2 k1 k2 k3)

/-! ### slots that are opened -/
theorem w_open (i : Nat) {st : List Stmt} {α : Type} {P : α → Prop} {R : α → RV} (e : sl[i]? = some (.val (rX P R))) (k : ∀ x, P x → Wp X B L st D (sl.set i (.val (R x)))) : Wp X B L st D sl := fun σ G H a => by
  obtain ⟨v, h1, x, px, r⟩ := a.sat.val i _ e
  have b := a.set i (R := R x) r
  have es : σ.set i (some v) = σ := by
    apply List.ext_getElem?
    intro j
    by_cases q : j = i
    · subst q
      rw [h1]
      exact List.getElem?_set_self (List.getElem?_eq_some_iff.mp h1).1
    · rw [List.getElem?_set_ne (Ne.symm q)]
  rw [es] at b
  exact k x px σ G H b
theorem w_weak (i : Nat) {st : List Stmt} {R R' : RV} (e : sl[i]? = some (.val R)) (h : R.le R') (k : Wp X B L st D (sl.set i (.val R'))) : Wp X B L st D sl := fun σ G H a => by
  obtain ⟨v, h1, r⟩ := a.sat.val i _ e
  have b := a.set i (R := R') (h _ _ r)
  have es : σ.set i (some v) = σ := by
    apply List.ext_getElem?
    intro j
    by_cases q : j = i
    · subst q
      rw [h1]
      exact List.getElem?_set_self (List.getElem?_eq_some_iff.mp h1).1
    · rw [List.getElem?_set_ne (Ne.symm q)]
  rw [es] at b
  exact k σ G H b
/-- x, y = e1, e2 -/
theorem w_par (i j : Nat) {x y : Str} {a b : Expr} {px py pt : Pos} {kt k2 pt2} {R1 R2 : RV} (hc : X.calm = true) (hN : X.N.Nodup) (h1 : Ev X a sl R1) (h2 : Ev X b sl R2) (k : Wp X B L rest D ((sl.set i (.val R1)).set j (.val R2))) (hi : X.N[i]? = some x := by rfl) (hj : X.N[j]? = some y := by rfl) (hij : i ≠ j := by decide)
    (hx : X.env.scope.names.lookup x = some .local := by rfl) (hy : X.env.scope.names.lookup y = some .local := by rfl) (hw : swappedStores [.Tuple [.Name x px, .Name y py] kt pt] (.Tuple [a, b] k2 pt2) X.env = pure (some [x, y]) := by rfl)
    (hs : swapsWithSole [.Tuple [.Name x px, .Name y py] kt pt] (.Tuple [a, b] k2 pt2) pos.line X.env = pure false := by rfl) (he : starEach [a, b] X.env = (false, eval a X.env) :: starEach [b] X.env := by rfl) (he' : starEach [b] X.env = [(false, eval b X.env)] := by rfl) :
    Wp X B L (.Assign [.Tuple [.Name x px, .Name y py] kt pt] (.Tuple [a, b] k2 pt2) pos :: rest) D sl :=
  wp_of (ps_par hc hN hi hj hij hx hy (pa_cons pcan (pa_cons pcan pa_nil he') he) hw hs) fun σ G H z => h1.can z.sat fun v G1 H1 g1 r1 => h2.can (z.sat.gr g1) fun u G2 H2 g2 r2 =>
    ⟨v, u, rfl, k _ G2 H2 ((((z.go g1).go g2).set i (R1.m g2.g r1)).set j r2)⟩
/-- .., the first one a list of one's own -/
theorem w_parO (i j : Nat) {x y : Str} {a b : Expr} {px py pt : Pos} {kt k2 pt2} {R2 : RV} (hc : X.calm = true) (hN : X.N.Nodup) (h1 : EvR X a sl (.l Rs)) (h2 : Ev X b sl R2) (k : Wp X B L rest D ((sl.set i (.own Rs)).set j (.val R2))) (hi : X.N[i]? = some x := by rfl) (hj : X.N[j]? = some y := by rfl) (hij : i ≠ j := by decide)
    (hx : X.env.scope.names.lookup x = some .local := by rfl) (hy : X.env.scope.names.lookup y = some .local := by rfl) (hw : swappedStores [.Tuple [.Name x px, .Name y py] kt pt] (.Tuple [a, b] k2 pt2) X.env = pure (some [x, y]) := by rfl)
    (hs : swapsWithSole [.Tuple [.Name x px, .Name y py] kt pt] (.Tuple [a, b] k2 pt2) pos.line X.env = pure false := by rfl) (he : starEach [a, b] X.env = (false, eval a X.env) :: starEach [b] X.env := by rfl) (he' : starEach [b] X.env = [(false, eval b X.env)] := by rfl) :
    Wp X B L (.Assign [.Tuple [.Name x px, .Name y py] kt pt] (.Tuple [a, b] k2 pt2) pos :: rest) D sl :=
  wp_of (ps_par hc hN hi hj hij hx hy (pa_cons pcan (pa_cons pcan pa_nil he') he) hw hs) fun σ G H z => h1.can z.sat fun p vs G1 H1 g1 n1 n2 e1 r1 => h2.can (z.sat.gr g1) fun u G2 H2 g2 r2 =>
    ⟨.ref p, u, rfl, k _ G2 H2 ((z.setOwn (g1.trans g2) i n1 (g2.out e1 n2) (g2.hs _ _ e1) (r1.mono g2.g)).set j r2)⟩
/-- x, y, z = e, a tuple of three -/
theorem w_un3 (i j l : Nat) {x y z : Str} {e : Expr} {px py pz pt : Pos} {kt} {R1 R2 R3 : RV} (hc : X.calm = true) (hN : X.N.Nodup) (h : Ev X e sl (rTup X.K [R1, R2, R3])) (k : Wp X B L rest D (((sl.set i (.val R1)).set j (.val R2)).set l (.val R3))) (hi : X.N[i]? = some x := by rfl) (hj : X.N[j]? = some y := by rfl) (hl : X.N[l]? = some z := by rfl)
    (hx : X.env.scope.names.lookup x = some .local := by rfl) (hy : X.env.scope.names.lookup y = some .local := by rfl) (hz : X.env.scope.names.lookup z = some .local := by rfl)
    (hs : swapsWithSole [.Tuple [.Name x px, .Name y py, .Name z pz] kt pt] e pos.line X.env = pure false := by rfl) (hw : swappedStores [.Tuple [.Name x px, .Name y py, .Name z pz] kt pt] e X.env = pure none := by rfl)
    (h1 : (assignEach [.Tuple [.Name x px, .Name y py, .Name z pz] kt pt] X.env).map (·.2) = [assign (.Tuple [.Name x px, .Name y py, .Name z pz] kt pt) X.env] := by rfl) : Wp X B L (.Assign [.Tuple [.Name x px, .Name y py, .Name z pz] kt pt] e pos :: rest) D sl :=
  wp_of (ps_asg pcan (pg_tup hc (pgs_cons (pg_name (i := i) hN hi (.inl hx) (.inr hx)) (pgs_cons (pg_name (i := j) hN hj (.inl hy) (.inr hy)) (pgs_cons (pg_name (i := l) hN hl (.inl hz) (.inr hz)) pgs_nil)))) hs hw h1) fun σ G H a => h.can a.sat fun v G1 H1 g1 ⟨t, vs, e1, q1, r1⟩ => by
    cases r1 with
    | cons k1 r1 => cases r1 with
      | cons k2 r1 => cases r1 with
        | cons k3 r1 =>
          cases r1
          exact ⟨t, _, e1, Same.tup g1.s q1, rfl, _, _, rfl, _, _, rfl, _, _, rfl, rfl, k _ G1 H1 ((((a.go g1).set i k1).set j k2).set l k3)⟩
/-- x, y = e, a tuple of two -/
theorem w_un2 (i j : Nat) {x y : Str} {e : Expr} {px py pt : Pos} {kt} {R1 R2 : RV} (hc : X.calm = true) (hN : X.N.Nodup) (h : Ev X e sl (rTup X.K [R1, R2])) (k : Wp X B L rest D ((sl.set i (.val R1)).set j (.val R2))) (hi : X.N[i]? = some x := by rfl) (hj : X.N[j]? = some y := by rfl)
    (hx : X.env.scope.names.lookup x = some .local := by rfl) (hy : X.env.scope.names.lookup y = some .local := by rfl)
    (hs : swapsWithSole [.Tuple [.Name x px, .Name y py] kt pt] e pos.line X.env = pure false := by rfl) (hw : swappedStores [.Tuple [.Name x px, .Name y py] kt pt] e X.env = pure none := by rfl)
    (h1 : (assignEach [.Tuple [.Name x px, .Name y py] kt pt] X.env).map (·.2) = [assign (.Tuple [.Name x px, .Name y py] kt pt) X.env] := by rfl) : Wp X B L (.Assign [.Tuple [.Name x px, .Name y py] kt pt] e pos :: rest) D sl :=
  wp_of (ps_asg pcan (pg_tup hc (pgs_cons (pg_name (i := i) hN hi (.inl hx) (.inr hx)) (pgs_cons (pg_name (i := j) hN hj (.inl hy) (.inr hy)) pgs_nil))) hs hw h1) fun σ G H a => h.can a.sat fun v G1 H1 g1 ⟨t, vs, e1, q1, r1⟩ => by
    obtain ⟨u1, u2, rfl, k1, k2⟩ := pv2 r1
    exact ⟨t, _, e1, Same.tup g1.s q1, rfl, _, _, rfl, _, _, rfl, rfl, k _ G1 H1 (((a.go g1).set i k1).set j k2)⟩
/-- x, y = e, a list of two -/
theorem w_unl2 (i j : Nat) {x y : Str} {e : Expr} {px py pt : Pos} {kt} {R1 R2 : RV} (hc : X.calm = true) (hN : X.N.Nodup) (h : Ev X e sl (rLst X.K [R1, R2])) (k : Wp X B L rest D ((sl.set i (.val R1)).set j (.val R2))) (hi : X.N[i]? = some x := by rfl) (hj : X.N[j]? = some y := by rfl)
    (hx : X.env.scope.names.lookup x = some .local := by rfl) (hy : X.env.scope.names.lookup y = some .local := by rfl)
    (hs : swapsWithSole [.Tuple [.Name x px, .Name y py] kt pt] e pos.line X.env = pure false := by rfl) (hw : swappedStores [.Tuple [.Name x px, .Name y py] kt pt] e X.env = pure none := by rfl)
    (h1 : (assignEach [.Tuple [.Name x px, .Name y py] kt pt] X.env).map (·.2) = [assign (.Tuple [.Name x px, .Name y py] kt pt) X.env] := by rfl) : Wp X B L (.Assign [.Tuple [.Name x px, .Name y py] kt pt] e pos :: rest) D sl :=
  wp_of (ps_asg pcan (pg_unl hc (pgs_cons (pg_name (i := i) hN hi (.inl hx) (.inr hx)) (pgs_cons (pg_name (i := j) hN hj (.inl hy) (.inr hy)) pgs_nil))) hs hw h1) fun σ G H a => h.can a.sat fun v G1 H1 g1 ⟨t, vs, e1, q1, r1⟩ => by
    obtain ⟨u1, u2, rfl, k1, k2⟩ := pv2 r1
    exact ⟨t, _, e1, g1.s.seq q1, rfl, _, _, rfl, _, _, rfl, rfl, k _ G1 H1 (((a.go g1).set i k1).set j k2)⟩
/-- name = [..] -/
theorem w_setLc (i : Nat) {x : Str} {elt tg iter : Expr} {ifs : List Expr} {scope : Scope} {p' p2 : Pos} {r : Res} (J : L2.St → Hp → VK → Prop) {own : List (Str × Nat)} {wi : TI} {g : TG} {tt : TT} {te : TE} (hc : X.calm = true) (hN : X.N.Nodup) (hi : X.N[i]? = some x) (hx : X.env.scope.names.lookup x = some .local)
    (hsw : swapsWith (.ListComp elt [⟨tg, iter, ifs, 0⟩] scope p2) (some (.Name x p')) pos.line X.env = pure true) : True := trivial
end

/-! ### instances -/
abbrev PFs (G : Hp) (fs : List (Str × RV)) (vs : List (Str × V)) : Prop := Paired (fun (a : Str × RV) (b : Str × V) => a.1 = b.1 ∧ a.2.r G b.2) fs vs
theorem PFs.mono {G G' : Hp} (s : Same G G') {fs : List (Str × RV)} {vs : List (Str × V)} (h : PFs G fs vs) : PFs G' fs vs := Paired.imp (fun R _ ⟨e, z⟩ => ⟨e, R.2.m s z⟩) h
theorem PFs.look {G : Hp} {f : Str} : ∀ {fs : List (Str × RV)} {vs : List (Str × V)} {R : RV}, PFs G fs vs → fs.lookup f = some R → ∃ v, vs.lookup f = some v ∧ R.r G v
  | _, _, _, .nil, e => by cases e
  | (g, R0) :: _, (g', v0) :: _, R, .cons ⟨e1, r⟩ t, e => by
    have e1' : g = g' := e1
    subst e1'
    cases q : (f == g) with
    | true =>
      simp only [List.lookup, q] at e ⊢
      cases e
      exact ⟨v0, rfl, r⟩
    | false =>
      simp only [List.lookup, q] at e ⊢
      exact PFs.look t e
theorem PFs.miss {G : Hp} {f : Str} : ∀ {fs : List (Str × RV)} {vs : List (Str × V)}, PFs G fs vs → fs.lookup f = none → vs.lookup f = none
  | _, _, .nil, _ => rfl
  | (g, R0) :: _, (g', v0) :: _, .cons ⟨e1, r⟩ t, e => by
    have e1' : g = g' := e1
    subst e1'
    cases q : (f == g) with
    | true => simp only [List.lookup, q] at e; cases e
    | false =>
      simp only [List.lookup, q] at e ⊢
      exact PFs.miss t e
def putR (f : Str) (R : RV) : List (Str × RV) → List (Str × RV)
  | [] => [(f, R)]
  | (g, x) :: r => if g = f then (g, R) :: r else (g, x) :: putR f R r
theorem PFs.put {G : Hp} {f : Str} {R : RV} {v : V} (r : R.r G v) : ∀ {fs : List (Str × RV)} {vs : List (Str × V)}, PFs G fs vs → PFs G (putR f R fs) (putF f v vs)
  | _, _, .nil => .cons ⟨rfl, r⟩ .nil
  | (g, R0) :: _, (g', v0) :: _, .cons ⟨e1, r0⟩ t => by
    have e1' : g = g' := e1
    subst e1'
    unfold putR putF
    by_cases q : g = f
    · rw [if_pos q, if_pos q]; exact .cons ⟨rfl, r⟩ t
    · rw [if_neg q, if_neg q]; exact .cons ⟨rfl, r0⟩ (PFs.put r t)
def oI (C : Addr) (fs : List (Str × RV)) : OV := ⟨fun G _ o => ∃ dx vs, o = .ins C dx vs ∧ PFs G fs vs, fun s ⟨dx, vs, e, p⟩ => ⟨dx, vs, e, p.mono s⟩⟩
def rIns (C : Addr) (fs : List (Str × RV)) : RV := ⟨fun G v => ∃ a dx vs, v = .ref a ∧ G a = some (.ins C dx vs) ∧ PFs G fs vs, fun s ⟨a, dx, vs, e, h, p⟩ => ⟨a, dx, vs, e, s _ _ h, p.mono s⟩⟩
section
variable {X : Cx} {sl : List Ent} {C : Addr} {fs : List (Str × RV)} {f : Str} {R : RV} {Rs : List RV} {o e a b c : Expr} {es : List Expr} {pos apos p : Pos} {k : Nat} {α : Type}
theorem e_fld (h : Ev X o sl (rIns C fs)) (c : Cls X.K C) (n : NoAttr X.K C f) (hl : fs.lookup f = some R) (hb : attributeBase o f X.env (eval o X.env) = eval o X.env := by rfl) : Ev X (.Attribute o f pos) sl R :=
  ev_of (pe_fld pcan hb) fun σ G H Q z k => h.can z fun v G1 H1 g1 ⟨a, dx, vs, e1, h1, h2⟩ => by
    obtain ⟨u, k1, k2⟩ := h2.look hl
    exact ⟨a, C, dx, vs, u, e1, g1.s _ _ h1, c, n, k1, k u G1 H1 g1 k2⟩
structure HasMe (P : Program) (w : World) (K : PySem.W.Frag) (mg : Str → Option Value) (base : Heap) (k : Nat) (C : Addr) (m : Str) (F : Fn α) : Prop where
  ex : ∃ f fd, Meth K C m f ∧ Binds K fd F.ps [] ∧ FnOk P w K mg base CX0 k f fd F.ps F.sp
theorem e_meth0 {F : Fn α} (h : HasMe X.prog X.w X.K X.mg X.base k C f F) (hr : Room k X.A) (c : Cls X.K C) (z : α) (ho : Ev X o sl (rIns C fs)) (hz : F.args z = [rIns C fs]) (hl : fs.lookup f = none) (hp : F.pre z) {pl : Sem Bool}
    (ht : eval (.Call (.Attribute o f apos) [] [] pos) X.env = (do
      let ov ← eval o X.env
      standAt apos.atName
      let (f, first) ← holding [ov] (getMethod ov f pl)
      callWith pos f first (backTo pos (starEach [] X.env)) (backToKw pos (keywordEach [] X.env))) := by rfl) : EvR X (.Call (.Attribute o f apos) [] [] pos) sl (F.res z) := by
  obtain ⟨g, fd, hm, hb, ok⟩ := h.ex
  refine evR_of (pe_meth0 pcan c hm ok hr hb .nil pass0 ht) fun σ G H Q s q => ho.can s fun v G1 H1 g1 r => ?_
  obtain ⟨a, dx, vs, e1, h1, h2⟩ := id r
  refine ⟨a, dx, vs, e1, g1.s _ _ h1, h2.miss hl, z, G1, g1.s, ?_, hp, q.gr g1⟩
  rw [hz]
  exact .cons r .nil
theorem e_meth {F : Fn α} (h : HasMe X.prog X.w X.K X.mg X.base k C f F) (hr : Room k X.A) (c : Cls X.K C) (z : α) (ho : Ev X o sl (rIns C fs)) (ha : EvA X (e :: es) sl Rs) (hz : F.args z = rIns C fs :: Rs) (hl : fs.lookup f = none) (hp : F.pre z) {pl : Sem Bool}
    (hst : starEach (e :: es) X.env = (false, eval e X.env) :: starEach es X.env := by rfl) (hpl : (backTo pos (starEach es X.env)).any (·.1) = false := by rfl)
    (ht : eval (.Call (.Attribute o f apos) (e :: es) [] pos) X.env = (do
      let ov ← eval o X.env
      standAt apos.atName
      let (f, first) ← holding [ov] (getMethod ov f pl)
      callWith pos f first (backTo pos (starEach (e :: es) X.env)) (backToKw pos (keywordEach [] X.env))) := by rfl) : EvR X (.Call (.Attribute o f apos) (e :: es) [] pos) sl (F.res z) := by
  obtain ⟨g, fd, hm, hb, ok⟩ := h.ex
  refine evR_of (pe_meth pcan c hm ok hr hb .nil pass0 pcanA hst hpl ht) fun σ G H Q s q => ho.can s fun v G1 H1 g1 r => ?_
  obtain ⟨a, dx, vs, e1, h1, h2⟩ := id r
  refine ⟨a, dx, vs, e1, g1.s _ _ h1, h2.miss hl, ha.can (s.gr g1) fun ws G2 H2 g2 r2 => ⟨z, G2, g2.s, ?_, hp, (q.gr g1).gr g2⟩⟩
  rw [hz, List.append_nil]
  exact .cons ((rIns C fs).m g2.g r) r2
structure HasPr (P : Program) (w : World) (K : PySem.W.Frag) (mg : Str → Option Value) (base : Heap) (k : Nat) (C : Addr) (m : Str) (F : Fn α) : Prop where
  ex : ∃ q g fd, PropOf K C m q g ∧ Binds K fd F.ps [] ∧ FnOk P w K mg base CX0 k g fd F.ps F.sp
theorem e_prop {F : Fn α} (h : HasPr X.prog X.w X.K X.mg X.base k C f F) (hr : Room (k + 1) X.A) (c : Cls X.K C) (z : α) (ho : Ev X o sl (rIns C fs)) (hz : F.args z = [rIns C fs]) (hp : F.pre z) (hab : attributeBase o f X.env (eval o X.env) = eval o X.env := by rfl) : EvR X (.Attribute o f pos) sl (F.res z) := by
  obtain ⟨q, g, fd, hq, hb, ok⟩ := h.ex
  refine evR_of (pe_prop pcan c hq ok hr hb .nil pass0 hab) fun σ G H Q s q => ho.can s fun v G1 H1 g1 r => ?_
  obtain ⟨a, dx, vs, e1, h1, h2⟩ := id r
  refine ⟨a, dx, vs, e1, g1.s _ _ h1, z, G1, g1.s, ?_, hp, q.gr g1⟩
  rw [hz]
  rw [e1] at r
  exact .cons r .nil
/-- a constant of a class -/
theorem e_cval {x : Str} {v : V} {mc u : Value} (hm : X.mg x = some (.ref C)) (r : CRead X.K C mc) (cv : CVal X.K C mc f v u) (hR : ∀ G, R.r G v) (hg : Gl X x := by rfl) (hd : (x == ("__debug__" : Str)) = false := by decide) (hb : attributeBase (.Name x p) f X.env (eval (.Name x p) X.env) = eval (.Name x p) X.env := by rfl) : Ev X (.Attribute (.Name x p) f pos) sl R :=
  ev_of (pe_cval (pe_glob (v := .ref C) hg hm rfl hd) hb) fun σ G H Q z k => ⟨C, mc, v, u, rfl, r, cv, k v G H (.refl z.sub) (hR G)⟩
/-- C(e, ..) -/
structure HasMk (P : Program) (w : World) (K : PySem.W.Frag) (mg : Str → Option Value) (base : Heap) (k : Nat) (C : Addr) (F : FnM α) : Prop where
  ex : ∃ f fd, Mk K C f ∧ Binds K fd F.ps [] ∧ FnOk P w K mg base CX0 k f fd F.ps F.sp
theorem e_make {x : Str} {F : FnM α} {fs : α → List (Str × RV)} (h : HasMk X.prog X.w X.K X.mg X.base k C F) (hr : Room (k + 1) X.A) (hm : X.mg x = some (.ref C)) (z : α) (ha : EvA X (e :: es) sl (F.args z)) (h0 : F.o0 z = oI C []) (h1 : F.o1 z = oI C (fs z)) (hp : F.pre z) (hg : Gl X x := by rfl) (hdb : (x == ("__debug__" : Str)) = false := by decide)
    (he : starEach (e :: es) X.env = (false, eval e X.env) :: starEach es X.env := by rfl) (hpl : (backTo pos (starEach es X.env)).any (·.1) = false := by rfl) : Ev X (.Call (.Name x p) (e :: es) [] pos) sl (rIns C (fs z)) := by
  obtain ⟨f, fd, mk, hb, ok⟩ := h.ex
  refine ev_of (pe_make mk ok hr hg hm hb .nil pass0 pcanA hdb he hpl) fun σ G H Q s q => ha.can s fun vs G1 H1 g1 r1 x dx nx nd ne => ?_
  rw [List.append_nil]
  have gx : G1 x = none := g1.s.free nx
  have gd : G1 dx = none := g1.s.free nd
  have s1 : Same H1 (upd (upd H1 dx (.own x)) x (.ins C dx [])) := fun b o e => by
    rw [upd_ne (ne_of_none e nx), upd_ne (ne_of_none e nd)]
    exact e
  refine ⟨z, G1, x, _, vs, g1.s.trans s1, rfl, upd_same, gx, by rw [h0]; exact ⟨dx, [], rfl, .nil⟩, r1, hp, fun G2 H2 o2 g2 k1 k2 k3 => ⟨rfl, ?_⟩⟩
  rw [h1] at k3
  obtain ⟨dx2, ws, rfl, k4⟩ := k3
  refine q (.ref x) (upd G2 x (.ins C dx2 ws)) H2 (g1.trans ⟨g2.g.trans (same_new k2), fun b u _ e => ?_, fun b e => ?_, fun b u e => ?_, fun b e => ?_⟩) ⟨x, dx2, ws, rfl, upd_same, k4.mono (same_new k2)⟩
  · exact g2.h b u (ne_of_none e nx) (s1 b u e)
  · cases qq : H1 b with
    | none => exact absurd qq e
    | some u => exact g2.t b (by rw [s1 b u qq]; exact fun z => nomatch z)
  · by_cases qb : b = x
    · subst qb; rw [upd_same] at e; rw [k1]; exact e
    · rw [upd_ne qb] at e; exact g2.s b u e
  · cases qq : H1 b with
    | none => exact absurd qq e
    | some u =>
      rw [upd_ne (ne_of_none qq nx)]
      exact g2.n b (by rw [s1 b u qq]; exact fun z => nomatch z)
end
section
variable {X : Cx} {B : Base} {L : Hp} {sl : List Ent} {D : Ends} {pos : Pos} {rest : List Stmt} {R : RV} {C : Addr} {fs : List (Str × RV)}
/-- self.f = e -/
theorem w_fld (i : Nat) {y f : Str} {e : Expr} {p1 p2 : Pos} {p : Addr} (ei : sl[i]? = some (.mu (tie p (oI C fs)))) (h : Ev X e sl R) (c : Cls X.K C) (n : NoAttr X.K C f) (hz : fs.length < 1000) (k : Wp X B L rest D (sl.set i (.mu (tie p (oI C (putR f R fs)))))) (hN : X.N[i]? = some y := by rfl) (hv : Vis X.env.scope y := by first | exact Or.inl rfl | exact Or.inr (Or.inl rfl) | exact Or.inr (Or.inr rfl)) (hd : (y == ("__debug__" : Str)) = false := by decide) (hcd : (y == ("__classdict__" : Str)) = false := by decide)
    (hs : swapsWith e (some (.Attribute (.Name y p1) f p2)) pos.line X.env = pure false := by rfl) : Wp X B L (.Assign [.Attribute (.Name y p1) f p2] e pos :: rest) D sl :=
  wp_of (ps_fld (pe_var hN hv hd hcd) pcan hs) fun σ G H a => h.can a.sat fun v G1 H1 g1 r1 => by
    obtain ⟨q, o, h1, h2, h3, rfl, dx, vs, rfl, h4⟩ := a.sat.mu i _ ei
    have h4' := h4.mono g1.g
    refine ⟨.ref q, h1, q, C, dx, vs, rfl, g1.hs _ _ h2, c, n, ?_, ?_⟩
    · have : fs.length = vs.length := Paired.length h4
      omega
    · exact k σ G1 _ ((a.go g1).changeM ei h1 ⟨rfl, dx, _, rfl, h4'.put r1⟩)
end

/-! ### equality of data -/
def RV.Py (K : PySem.W.Frag) (R : RV) (d : PyData) : Prop := ∀ G v, R.r G v → Dp K G v d
theorem Dp.same {K : PySem.W.Frag} {G H : Hp} (s : Same G H) : ∀ (d : PyData) (v : V), Dp K G v d → Dp K H v d := by
  intro d v h
  refine Dp.rec (motive_1 := fun v d _ => Dp K H v d) (motive_2 := fun vs ds _ => DpAll K H vs ds) .non .bl .int .str (fun h _ ih => .lst (s.seq h) ih) (fun h _ ih => .tup (Same.tup s h) ih) .nil (fun _ _ h1 h2 => .cons h1 h2) h
theorem py_int {K : PySem.W.Frag} (n : Int) : (iI n).Py K (.int n) := fun _ _ ⟨i, e, p⟩ => by subst e; subst p; exact .int _
theorem py_str {K : PySem.W.Frag} (n : Str) : (iS n).Py K (.str n) := fun _ _ ⟨i, e, p⟩ => by subst e; subst p; exact .str _
theorem py_bool {K : PySem.W.Frag} (n : Bool) : (iB n).Py K (.bool n) := fun _ _ ⟨i, e, p⟩ => by subst e; subst p; exact .bl _
theorem py_non {K : PySem.W.Frag} : iN.Py K .none := fun _ _ e => by cases (show _ = V.non from e); exact .non
theorem py_all {K : PySem.W.Frag} {α : Type} {c : α → RV} {t : α → PyData} {G : Hp} : ∀ {xs : List α} {vs : List V}, (∀ x ∈ xs, (c x).Py K (t x)) → PVs G (xs.map c) vs → DpAll K G vs (xs.map t)
  | [], _, _, .nil => .nil
  | x :: xs, _, h, .cons r q => .cons (h x (List.mem_cons_self ..) _ _ r) (py_all (fun y hy => h y (List.mem_cons_of_mem _ hy)) q)
theorem py_lst {K : PySem.W.Frag} {α : Type} {c : α → RV} {t : α → PyData} {xs : List α} (h : ∀ x ∈ xs, (c x).Py K (t x)) : (rLst K (xs.map c)).Py K (.list (xs.map t)) := fun G v ⟨a, vs, e, q, r⟩ => by subst e; exact .lst q (py_all h r)
theorem py_tup {K : PySem.W.Frag} {α : Type} {c : α → RV} {t : α → PyData} {xs : List α} (h : ∀ x ∈ xs, (c x).Py K (t x)) : (rTup K (xs.map c)).Py K (.tuple (xs.map t)) := fun G v ⟨a, vs, e, q, r⟩ => by subst e; exact .tup q (py_all h r)
section
variable {X : Cx} {sl : List Ent} {a b : Expr} {pos : Pos} {Ra Rb : RV} {d e : PyData} {P : Bool → Prop}
theorem e_eqD (hu : X.A.units + 64 < cLine) (ha : Ev X a sl Ra) (hb : Ev X b sl Rb) (pa : Ra.Py X.K d) (pb : Rb.Py X.K e) (sd : SeqAt.shaped d = true) (se : SeqAt.shaped e = true) : Ev X (.Compare a [.Eq] [b] pos) sl (iB (PyData.eqv d e)) :=
  e_cmp (op_eqD hu) (nomark _) ha hb fun x y G H Q s rx ry k => ⟨d, e, Dp.same s _ _ (pa _ _ rx), Dp.same s _ _ (pb _ _ ry), sd, se, k _ G H (.refl s) ⟨_, rfl, rfl⟩⟩
theorem t_eqD (hu : X.A.units + 64 < cLine) (ha : Ev X a sl Ra) (hb : Ev X b sl Rb) (pa : Ra.Py X.K d) (pb : Rb.Py X.K e) (sd : SeqAt.shaped d = true) (se : SeqAt.shaped e = true) : EvT X (.Compare a [.Eq] [b] pos) sl (fun z => z = PyData.eqv d e) :=
  t_cmp (op_eqD hu) (nomark _) ha hb fun x y G H Q s rx ry k => ⟨d, e, Dp.same s _ _ (pa _ _ rx), Dp.same s _ _ (pb _ _ ry), sd, se, k _ G H (.refl s) ⟨_, rfl, rfl⟩⟩
theorem e_neD (hu : X.A.units + 64 < cLine) (ha : Ev X a sl Ra) (hb : Ev X b sl Rb) (pa : Ra.Py X.K d) (pb : Rb.Py X.K e) (sd : SeqAt.shaped d = true) (se : SeqAt.shaped e = true) : Ev X (.Compare a [.NotEq] [b] pos) sl (iB (!PyData.eqv d e)) :=
  e_cmp (op_neD hu) (nomark _) ha hb fun x y G H Q s rx ry k => ⟨d, e, Dp.same s _ _ (pa _ _ rx), Dp.same s _ _ (pb _ _ ry), sd, se, k _ G H (.refl s) ⟨_, rfl, rfl⟩⟩
theorem t_neD (hu : X.A.units + 64 < cLine) (ha : Ev X a sl Ra) (hb : Ev X b sl Rb) (pa : Ra.Py X.K d) (pb : Rb.Py X.K e) (sd : SeqAt.shaped d = true) (se : SeqAt.shaped e = true) : EvT X (.Compare a [.NotEq] [b] pos) sl (fun z => z = !PyData.eqv d e) :=
  t_cmp (op_neD hu) (nomark _) ha hb fun x y G H Q s rx ry k => ⟨d, e, Dp.same s _ _ (pa _ _ rx), Dp.same s _ _ (pb _ _ ry), sd, se, k _ G H (.refl s) ⟨_, rfl, rfl⟩⟩
variable {c : Expr} {A B C : Int → Prop}
/-- chains of two comparisons of ints -/
theorem e_chain {op op' : CmpOp} {f g : Int → Int → Bool} (ho : OpR X (compareOp op) (rI0 fun i j => .bl (f i j))) (ho' : OpR X (compareOp op') (rI0 fun i j => .bl (g i j))) (ha : Ev X a sl (rInt A)) (hb : Ev X b sl (rInt B)) (hc : Ev X c sl (rInt C)) (h1 : ∀ x y, A x → B y → f x y = false → P false) (h2 : ∀ x y z, A x → B y → C z → f x y = true → P (g y z)) (hm : lastMarks [op, op'] [b, c] = false) : Ev X (.Compare a [op, op'] [b, c] pos) sl (rBool P) :=
  ev_of (pe_chain ho ho' pcan pcan pcan hm) fun σ G H Q z k => ha.can z fun x G1 H1 g1 ⟨i, e1, p1⟩ => hb.can (z.gr g1) fun y G2 H2 g2 ⟨j, e2, p2⟩ => ⟨i, j, e1, e2, f i j, rfl, by
    cases q : f i j with
    | true => exact iteT (hc.can (z.gr (g1.trans g2)) fun w G3 H3 g3 ⟨l, e3, p3⟩ => ⟨j, l, e2, e3, k _ G3 H3 ((g1.trans g2).trans g3) ⟨_, rfl, h2 i j l p1 p2 p3 q⟩⟩)
    | false => exact iteF (k _ G2 H2 (g1.trans g2) ⟨_, rfl, h1 i j p1 p2 q⟩)⟩
theorem t_chain {op op' : CmpOp} {f g : Int → Int → Bool} (ho : OpR X (compareOp op) (rI0 fun i j => .bl (f i j))) (ho' : OpR X (compareOp op') (rI0 fun i j => .bl (g i j))) (ha : Ev X a sl (rInt A)) (hb : Ev X b sl (rInt B)) (hc : Ev X c sl (rInt C)) (h1 : ∀ x y, A x → B y → f x y = false → P false) (h2 : ∀ x y z, A x → B y → C z → f x y = true → P (g y z)) (hm : lastMarks [op, op'] [b, c] = false) : EvT X (.Compare a [op, op'] [b, c] pos) sl P :=
  evT_of (pt_chain ho ho' pcan pcan pcan hm) fun σ G H Q z k => ha.can z fun x G1 H1 g1 ⟨i, e1, p1⟩ => hb.can (z.gr g1) fun y G2 H2 g2 ⟨j, e2, p2⟩ => ⟨i, j, e1, e2, f i j, rfl, by
    cases q : f i j with
    | true => exact iteT (hc.can (z.gr (g1.trans g2)) fun w G3 H3 g3 ⟨l, e3, p3⟩ => ⟨j, l, e2, e3, _, rfl, k _ G3 H3 ((g1.trans g2).trans g3) (h2 i j l p1 p2 p3 q)⟩)
    | false => exact iteF ⟨_, rfl, k _ G2 H2 (g1.trans g2) (h1 i j p1 p2 q)⟩⟩
end
end Dl


set_option Elab.async false
set_option linter.all false
set_option maxRecDepth 100000
set_option maxHeartbeats 2000000
namespace Dl
open PySem PySem.Spec PyProof.Rows L2
theorem tie_oT {p : Addr} {t : Addr → Prop} {Rs : List RV} : tie p (oT t Rs) = oT (fun a => a = p ∧ t a) Rs := by
  have e : (tie p (oT t Rs)).r = (oT (fun a => a = p ∧ t a) Rs).r := by
    funext G a o
    exact propext ⟨fun ⟨h1, h2, h3⟩ => ⟨⟨h1, h2⟩, h3⟩, fun ⟨⟨h1, h2⟩, h3⟩ => ⟨h1, h2, h3⟩⟩
  unfold tie oT at e ⊢
  congr
/-! ### typed walks -/
theorem map_getD {α β : Type} [Inhabited α] (f : α → β) : ∀ xs : List α, (List.range xs.length).map (fun i => f (xs.getD i default)) = xs.map f := by
  intro xs
  apply List.ext_getElem?
  intro i
  rw [List.getElem?_map, List.getElem?_map]
  by_cases h : i < xs.length
  · rw [List.getElem?_range h, List.getElem?_eq_getElem h]
    show some (f (xs.getD i default)) = some (f xs[i])
    rw [List.getD_eq_getElem?_getD, List.getElem?_eq_getElem h]
    rfl
  · rw [List.getElem?_eq_none (by rw [List.length_range]; omega), List.getElem?_eq_none (by omega)]
    rfl
theorem filter_getD {α β : Type} [Inhabited α] (p : α → Bool) (f : α → β) : ∀ xs : List α, ((List.range xs.length).filter fun i => p (xs.getD i default)).map (fun i => f (xs.getD i default)) = (xs.filter p).map f := by
  intro xs
  have h1 := map_getD id xs
  have e1 : (List.range xs.length).map (fun i => xs.getD i default) = xs := by
    have := h1
    rw [List.map_id] at this
    exact this
  have e2 : (xs.filter p).map f = (((List.range xs.length).map (fun i => xs.getD i default)).filter p).map f := by rw [e1]
  rw [e2, List.filter_map, List.map_map]
  rfl
theorem getD_mem {α : Type} [Inhabited α] {xs : List α} {i : Nat} (h : i < xs.length) : xs.getD i default ∈ xs := by
  rw [List.getD_eq_getElem?_getD, List.getElem?_eq_getElem h]
  exact List.getElem_mem h
theorem getD_get {α : Type} [Inhabited α] {xs : List α} {i : Nat} (h : i < xs.length) : xs[i]? = some (xs.getD i default) := by
  rw [List.getD_eq_getElem?_getD, List.getElem?_eq_getElem h]
  rfl
section
variable {X : Cx} {sl : List Ent} {α β : Type} [Inhabited α] [Inhabited β]
theorem src_L {e : Expr} {xs : List α} {c : α → RV} {j : Nat} (h : Ev X e sl (rLst X.K (xs.map c))) : Src (iList X.K (can X e)) (gName j) sl xs.length [j] (fun i => [c (xs.getD i default)]) := by
  intro σ G H R a k
  refine src_list (j := j) (d := c default) h σ G H R a fun J G1 H1 g1 gs => k J G1 H1 g1 ?_
  rw [List.length_map] at gs
  refine ⟨gs.go, gs.stop, fun i σ' G' H' x H'' KK hi s1 s2 y kk => gs.yld i σ' G' H' x H'' KK hi s1 s2 y fun vs G2 H2 g2 r => kk vs G2 H2 g2 ?_⟩
  rw [List.getD_eq_getElem?_getD, List.getElem?_map, getD_get hi] at r
  exact r
theorem src_T {e : Expr} {xs : List α} {c : α → RV} {j : Nat} (h : Ev X e sl (rTup X.K (xs.map c))) : Src (iTup X.K (can X e)) (gName j) sl xs.length [j] (fun i => [c (xs.getD i default)]) := by
  intro σ G H R a k
  refine src_tup (j := j) (d := c default) h σ G H R a fun J G1 H1 g1 gs => k J G1 H1 g1 ?_
  rw [List.length_map] at gs
  refine ⟨gs.go, gs.stop, fun i σ' G' H' x H'' KK hi s1 s2 y kk => gs.yld i σ' G' H' x H'' KK hi s1 s2 y fun vs G2 H2 g2 r => kk vs G2 H2 g2 ?_⟩
  rw [List.getD_eq_getElem?_getD, List.getElem?_map, getD_get hi] at r
  exact r
theorem src_E {e : Expr} {xs : List α} {c : α → RV} {j1 j2 : Nat} (h : Ev X e sl (rLst X.K (xs.map c))) (he : starEach [e] X.env = [(false, eval e X.env)] := by rfl) : Src (iEnum X.K (canA X [e])) (gTup X.K 2 (gCons (gName j1) (gCons (gName j2) gNil))) sl xs.length [j1, j2] (fun i => [iI (i : Int), c (xs.getD i default)]) := by
  intro σ G H R a k
  refine src_enum (j1 := j1) (j2 := j2) (d := c default) h he σ G H R a fun J G1 H1 g1 gs => k J G1 H1 g1 ?_
  rw [List.length_map] at gs
  refine ⟨gs.go, gs.stop, fun i σ' G' H' x H'' KK hi s1 s2 y kk => gs.yld i σ' G' H' x H'' KK hi s1 s2 y fun vs G2 H2 g2 r => kk vs G2 H2 g2 ?_⟩
  rw [List.getD_eq_getElem?_getD, List.getElem?_map, getD_get hi] at r
  exact r
theorem src_Z {e e2 : Expr} {xs : List α} {ys : List β} {c : α → RV} {c2 : β → RV} {j1 j2 : Nat} (h : Ev X e sl (rLst X.K (xs.map c))) (h' : Ev X e2 sl (rLst X.K (ys.map c2))) (he : starEach [e, e2] X.env = (false, eval e X.env) :: starEach [e2] X.env := by rfl) (he' : starEach [e2] X.env = [(false, eval e2 X.env)] := by rfl) :
    Src (iZip X.K (canA X [e, e2])) (gTup X.K 2 (gCons (gName j1) (gCons (gName j2) gNil))) sl (min xs.length ys.length) [j1, j2] (fun i => [c (xs.getD i default), c2 (ys.getD i default)]) := by
  intro σ G H R a k
  refine src_zip (j1 := j1) (j2 := j2) (d := c default) (d' := c2 default) h h' he he' σ G H R a fun J G1 H1 g1 gs => k J G1 H1 g1 ?_
  rw [List.length_map, List.length_map] at gs
  refine ⟨gs.go, gs.stop, fun i σ' G' H' x H'' KK hi s1 s2 y kk => gs.yld i σ' G' H' x H'' KK hi s1 s2 y fun vs G2 H2 g2 r => kk vs G2 H2 g2 ?_⟩
  have i1 : i < xs.length := by omega
  have i2 : i < ys.length := by omega
  have r1 : (xs.map c).getD i (c default) = c (xs.getD i default) := by rw [List.getD_eq_getElem?_getD, List.getElem?_map, getD_get i1]; rfl
  have r2 : (ys.map c2).getD i (c2 default) = c2 (ys.getD i default) := by rw [List.getD_eq_getElem?_getD, List.getElem?_map, getD_get i2]; rfl
  rw [r1, r2] at r
  exact r
/-- a list of pairs, each stored into two names -/
theorem src_P {e : Expr} {xs : List α} {c c2 : α → RV} {j1 j2 : Nat} (h : Ev X e sl (rLst X.K (xs.map fun x => rTup X.K [c x, c2 x]))) : Src (iList X.K (can X e)) (gTup X.K 2 (gCons (gName j1) (gCons (gName j2) gNil))) sl xs.length [j1, j2] (fun i => [c (xs.getD i default), c2 (xs.getD i default)]) := by
  intro σ G H R a k
  have e1 : (xs.map fun x => rTup X.K [c x, c2 x]) = List.zipWith (fun a b => rTup X.K [a, b]) (xs.map c) (xs.map c2) := by
    rw [List.zipWith_map]
    clear h k
    induction xs with
    | nil => rfl
    | cons x xs ih => rw [List.map_cons, List.zipWith_cons_cons, ih]
  rw [e1] at h
  refine src_pairs (j1 := j1) (j2 := j2) (d := c default) h σ G H R a fun J G1 H1 g1 gs => k J G1 H1 g1 ?_
  rw [List.length_map, List.length_map, Nat.min_self] at gs
  refine ⟨gs.go, gs.stop, fun i σ' G' H' x H'' KK hi s1 s2 y kk => gs.yld i σ' G' H' x H'' KK hi s1 s2 y fun vs G2 H2 g2 r => kk vs G2 H2 g2 ?_⟩
  have r1 : (xs.map c).getD i (c default) = c (xs.getD i default) := by rw [List.getD_eq_getElem?_getD, List.getElem?_map, getD_get hi]; rfl
  have r2 : (xs.map c2).getD i (c default) = c2 (xs.getD i default) := by rw [List.getD_eq_getElem?_getD, List.getElem?_map, getD_get hi]; rfl
  rw [r1, r2] at r
  exact r

/-! ### comprehensions -/
abbrev blkX (X : Cx) (scope : Scope) (s : Shared) (H : Hp) (C : Addr) (cl : List (Str × Addr)) (fp : List Addr) : Cx := X.blk s H scope (compEnvC scope cl C X.env) fp
variable {elt it tst : Expr} {y y2 : Str} {py pt pos : Pos} {scope : Scope} {xs : List α} {c : α → RV} {kt : Nat}
theorem e_compL (j : Nat) (d : α → RV) (hN : X.N.Nodup) (src : Ev X it sl (rLst X.K (xs.map c))) (hn : xs.length ≤ 90000)
    (el : ∀ x ∈ xs, ∀ s H C cl fp, Ev (blkX X scope s H C cl fp) elt (setE (wipeE sl [j]) [j] [c x]) (d x)) (hc : X.calm = true := by rfl) (hj : X.N[j]? = some y := by rfl) (hl : (relabel scope X.env).names.lookup y = some .local := by rfl) (hb : blkC X.N X.env.scope scope [(y, j)] = true := by kernel_rfl)
    (hf : ∀ x, foldedSetIterable it X.env x = pure x := by intro _; rfl) : EvR X (.ListComp elt [⟨.Name y py, it, [], 0⟩] scope pos) sl (.l (xs.map d)) := by
  have := e_lc (own := [(y, j)]) (pos := pos) (tg := .Name y py) (g := gName j) hc hN (pi_list pcan) (blkOk_by hb) (fun s H C cl fp => pg_name hN hj (.inl hl) (.inr hl)) (src_L src) (by simp) hn (fun i => d (xs.getD i default)) (fun i hi s H C cl fp => el _ (getD_mem hi) s H C cl fp) hf (elt := elt)
  rw [map_getD d xs] at this
  exact this
theorem e_compT (j : Nat) (d : α → RV) (hN : X.N.Nodup) (src : Ev X it sl (rTup X.K (xs.map c))) (hn : xs.length ≤ 90000)
    (el : ∀ x ∈ xs, ∀ s H C cl fp, Ev (blkX X scope s H C cl fp) elt (setE (wipeE sl [j]) [j] [c x]) (d x)) (hc : X.calm = true := by rfl) (hj : X.N[j]? = some y := by rfl) (hl : (relabel scope X.env).names.lookup y = some .local := by rfl) (hb : blkC X.N X.env.scope scope [(y, j)] = true := by kernel_rfl)
    (hf : ∀ x, foldedSetIterable it X.env x = pure x := by intro _; rfl) : EvR X (.ListComp elt [⟨.Name y py, it, [], 0⟩] scope pos) sl (.l (xs.map d)) := by
  have := e_lc (own := [(y, j)]) (pos := pos) (tg := .Name y py) (g := gName j) hc hN (pi_tup pcan) (blkOk_by hb) (fun s H C cl fp => pg_name hN hj (.inl hl) (.inr hl)) (src_T src) (by simp) hn (fun i => d (xs.getD i default)) (fun i hi s H C cl fp => el _ (getD_mem hi) s H C cl fp) hf (elt := elt)
  rw [map_getD d xs] at this
  exact this
theorem e_compLT (j : Nat) (d : α → RV) (p : α → Bool) (hN : X.N.Nodup) (src : Ev X it sl (rLst X.K (xs.map c))) (hn : xs.length ≤ 90000)
    (ts : ∀ x ∈ xs, ∀ s H C cl fp, EvT (blkX X scope s H C cl fp) tst (setE (wipeE sl [j]) [j] [c x]) (fun b => b = p x))
    (el : ∀ x ∈ xs, p x = true → ∀ s H C cl fp, Ev (blkX X scope s H C cl fp) elt (setE (wipeE sl [j]) [j] [c x]) (d x)) (hc : X.calm = true := by rfl) (hj : X.N[j]? = some y := by rfl) (hl : (relabel scope X.env).names.lookup y = some .local := by rfl) (hb : blkC X.N X.env.scope scope [(y, j)] = true := by kernel_rfl)
    (hf : ∀ x, foldedSetIterable it X.env x = pure x := by intro _; rfl) : EvR X (.ListComp elt [⟨.Name y py, it, [tst], 0⟩] scope pos) sl (.l ((xs.filter p).map d)) := by
  have := e_lcT (own := [(y, j)]) (pos := pos) (tg := .Name y py) (g := gName j) (tst := tst) hc hN (pi_list pcan) (blkOk_by hb) (fun s H C cl fp => pg_name hN hj (.inl hl) (.inr hl)) (src_L src) (by simp) hn (fun i => p (xs.getD i default)) (fun i => d (xs.getD i default)) (fun i hi s H C cl fp => ts _ (getD_mem hi) s H C cl fp) (fun i hi hp s H C cl fp => el _ (getD_mem hi) hp s H C cl fp) hf (elt := elt)
  rw [filter_getD p d xs] at this
  exact this
theorem e_compR (j : Nat) (d : Nat → RV) {a : Expr} {m : Int} {p1 p2 : Pos} (hN : X.N.Nodup) (src : Ev X a sl (iI m)) (hn : m ≤ 90000) (hn0 : 0 ≤ m) (hm : X.mg "range" = none)
    (el : ∀ i : Nat, (i : Int) < m → ∀ s H C cl fp, Ev (blkX X scope s H C cl fp) elt (setE (wipeE sl [j]) [j] [iI (i : Int)]) (d i)) (hc : X.calm = true := by rfl) (hg : Gl X "range" := by rfl) (he : starEach [a] X.env = [(false, eval a X.env)] := by rfl) (hj : X.N[j]? = some y := by rfl) (hl : (relabel scope X.env).names.lookup y = some .local := by rfl) (hb : blkC X.N X.env.scope scope [(y, j)] = true := by kernel_rfl)
    (hf : ∀ x, foldedSetIterable (.Call (.Name "range" p1) [a] [] p2) X.env x = pure x := by intro _; rfl) : EvR X (.ListComp elt [⟨.Name y py, .Call (.Name "range" p1) [a] [] p2, [], 0⟩] scope pos) sl (.l ((List.range m.toNat).map d)) :=
  e_lc (own := [(y, j)]) (pos := pos) (g := gName j) hc hN (pi_range1 hg hm pcanA he) (blkOk_by hb) (fun s H C cl fp => pg_name hN hj (.inl hl) (.inr hl)) (src_range src (by omega) (by omega) he) (by simp) (by omega) d (fun i hi s H C cl fp => el i (by omega) s H C cl fp) hf (elt := elt)
theorem e_compZ (j1 j2 : Nat) {b : Expr} {ys : List β} {c2 : β → RV} {p1 p2 py2 : Pos} (d : α → β → RV) (hN : X.N.Nodup) (src : Ev X it sl (rLst X.K (xs.map c))) (src2 : Ev X b sl (rLst X.K (ys.map c2))) (hn : xs.length ≤ 90000) (hm : X.mg "zip" = none)
    (el : ∀ (i : Nat) x z, xs[i]? = some x → ys[i]? = some z → ∀ s H C cl fp, Ev (blkX X scope s H C cl fp) elt (setE (wipeE sl [j1, j2]) [j1, j2] [c x, c2 z]) (d x z)) (hc : X.calm = true := by rfl) (hg : Gl X "zip" := by rfl) (he : starEach [it, b] X.env = (false, eval it X.env) :: starEach [b] X.env := by rfl) (he' : starEach [b] X.env = [(false, eval b X.env)] := by rfl) (hpl : (backTo p2 (starEach [b] X.env)).any (·.1) = false := by rfl)
    (hj : X.N[j1]? = some y := by rfl) (hj2 : X.N[j2]? = some y2 := by rfl) (hl : (relabel scope X.env).names.lookup y = some .local := by rfl) (hl2 : (relabel scope X.env).names.lookup y2 = some .local := by rfl) (hb : blkC X.N X.env.scope scope [(y, j1), (y2, j2)] = true := by kernel_rfl)
    (ha : ∀ s H C cl fp, (assignEach [Expr.Name y py, Expr.Name y2 py2] (blkX X scope s H C cl fp).env).map (·.2) = assign (.Name y py) (blkX X scope s H C cl fp).env :: (assignEach [Expr.Name y2 py2] (blkX X scope s H C cl fp).env).map (·.2) := by intros; rfl)
    (hf : ∀ x, foldedSetIterable (.Call (.Name "zip" p1) [it, b] [] p2) X.env x = pure x := by intro _; rfl) : EvR X (.ListComp elt [⟨.Tuple [.Name y py, .Name y2 py2] kt pt, .Call (.Name "zip" p1) [it, b] [] p2, [], 0⟩] scope pos) sl (.l (List.zipWith d xs ys)) := by
  have := e_lc (own := [(y, j1), (y2, j2)]) (pos := pos) (tg := .Tuple [.Name y py, .Name y2 py2] kt pt) hc hN (pi_zip hg hm pcanA he hpl) (blkOk_by hb) (fun s H C cl fp => pg_tup (X := blkX X scope s H C cl fp) hc (pgs_cons (pg_name (i := j1) hN hj (.inl hl) (.inr hl)) (pgs_cons (pg_name (i := j2) hN hj2 (.inl hl2) (.inr hl2)) pgs_nil) (ha s H C cl fp))) (src_Z src src2 he he') (by simp) (by omega) (fun i => d (xs.getD i default) (ys.getD i default))
    (fun i hi s H C cl fp => el i _ _ (getD_get (by omega)) (getD_get (by omega)) s H C cl fp) hf (elt := elt)
  have e1 : (List.range (min xs.length ys.length)).map (fun i => d (xs.getD i default) (ys.getD i default)) = List.zipWith d xs ys := by
    apply List.ext_getElem?
    intro i
    rw [List.getElem?_map, List.getElem?_zipWith]
    by_cases h : i < min xs.length ys.length
    · have i1 : i < xs.length := by omega
      have i2 : i < ys.length := by omega
      rw [List.getElem?_range h, List.getElem?_eq_getElem i1, List.getElem?_eq_getElem i2]
      show some (d (xs.getD i default) (ys.getD i default)) = some (d xs[i] ys[i])
      rw [List.getD_eq_getElem?_getD, List.getD_eq_getElem?_getD, List.getElem?_eq_getElem i1, List.getElem?_eq_getElem i2]
      rfl
    · rw [List.getElem?_eq_none (by rw [List.length_range]; omega)]
      by_cases q : i < xs.length
      · rw [List.getElem?_eq_none (l := ys) (by omega)]
        cases xs[i]? <;> rfl
      · rw [List.getElem?_eq_none (l := xs) (by omega)]
        rfl
  rw [e1] at this
  exact this
/-- [e for a, b in a list of pairs] -/
theorem e_compP (j1 j2 : Nat) {c2 : α → RV} {py2 : Pos} (d : α → RV) (hN : X.N.Nodup) (src : Ev X it sl (rLst X.K (xs.map fun x => rTup X.K [c x, c2 x]))) (hn : xs.length ≤ 90000)
    (el : ∀ x ∈ xs, ∀ s H C cl fp, Ev (blkX X scope s H C cl fp) elt (setE (wipeE sl [j1, j2]) [j1, j2] [c x, c2 x]) (d x)) (hc : X.calm = true := by rfl)
    (hj : X.N[j1]? = some y := by rfl) (hj2 : X.N[j2]? = some y2 := by rfl) (hl : (relabel scope X.env).names.lookup y = some .local := by rfl) (hl2 : (relabel scope X.env).names.lookup y2 = some .local := by rfl) (hb : blkC X.N X.env.scope scope [(y, j1), (y2, j2)] = true := by kernel_rfl)
    (ha : ∀ s H C cl fp, (assignEach [Expr.Name y py, Expr.Name y2 py2] (blkX X scope s H C cl fp).env).map (·.2) = assign (.Name y py) (blkX X scope s H C cl fp).env :: (assignEach [Expr.Name y2 py2] (blkX X scope s H C cl fp).env).map (·.2) := by intros; rfl)
    (hf : ∀ x, foldedSetIterable it X.env x = pure x := by intro _; rfl) : EvR X (.ListComp elt [⟨.Tuple [.Name y py, .Name y2 py2] kt pt, it, [], 0⟩] scope pos) sl (.l (xs.map d)) := by
  have := e_lc (own := [(y, j1), (y2, j2)]) (pos := pos) (tg := .Tuple [.Name y py, .Name y2 py2] kt pt) hc hN (pi_list pcan) (blkOk_by hb) (fun s H C cl fp => pg_tup (X := blkX X scope s H C cl fp) hc (pgs_cons (pg_name (i := j1) hN hj (.inl hl) (.inr hl)) (pgs_cons (pg_name (i := j2) hN hj2 (.inl hl2) (.inr hl2)) pgs_nil) (ha s H C cl fp))) (src_P src) (by simp) hn (fun i => d (xs.getD i default))
    (fun i hi s H C cl fp => el _ (getD_mem hi) s H C cl fp) hf (elt := elt)
  rw [map_getD d xs] at this
  exact this
end

/-! ### all, any, max, min over made lists -/
section
variable {X : Cx} {sl : List Ent} {α : Type} {a : Expr} {p pos : Pos} {xs : List α}
theorem e_tupleL {Rs : List RV} (h : Ev X a sl (rLst X.K Rs)) (hm : X.mg "tuple" = none) (hg : Gl X "tuple" := by rfl) (he : starEach [a] X.env = [(false, eval a X.env)] := by rfl) : Ev X (.Call (.Name "tuple" p) [a] [] pos) sl (rTup X.K Rs) :=
  e_ct (rs := .v _) call_tuple_of hm (by decide +kernel) (a1 h he) (fun vs G H Q s r q => by
    obtain ⟨v, rfl, b, ws, rfl, h1, h2⟩ := pv1 r
    exact ⟨b, ws, rfl, .inl ⟨s.seq h1, fun l hl => q _ _ _ (Gr.new s hl) ⟨l, ws, rfl, SqT.of upd_same, h2.mono (same_new (s.free hl))⟩⟩⟩) hg (by decide) (by decide) he rfl
theorem e_tupleT {Rs : List RV} (h : Ev X a sl (rTup X.K Rs)) (hm : X.mg "tuple" = none) (hg : Gl X "tuple" := by rfl) (he : starEach [a] X.env = [(false, eval a X.env)] := by rfl) : Ev X (.Call (.Name "tuple" p) [a] [] pos) sl (rTup X.K Rs) :=
  e_ct (rs := .v _) call_tuple_of hm (by decide +kernel) (a1 h he) (fun vs G H Q s r q => by
    obtain ⟨v, rfl, b, ws, rfl, h1, h2⟩ := pv1 r
    exact ⟨b, ws, rfl, .inr ⟨Same.tup s h1, q _ G H (.refl s) ⟨b, ws, rfl, h1, h2⟩⟩⟩) hg (by decide) (by decide) he rfl
theorem e_allM {f : α → Bool} (h : Ev X a sl (rLst X.K (xs.map fun x => iB (f x)))) (hm : X.mg "all" = none) (hc : X.calm = true := by rfl) (hg : Gl X "all" := by rfl) (he : starEach [a] X.env = [(false, eval a X.env)] := by rfl) : Ev X (.Call (.Name "all" p) [a] [] pos) sl (iB (xs.all f)) := by
  have e1 : (xs.map fun x => iB (f x)) = (xs.map f).map iB := by rw [List.map_map]; rfl
  rw [e1] at h
  have := e_all (p := p) (pos := pos) hc h hm hg he
  rw [List.all_map] at this
  exact this
theorem e_anyM {f : α → Bool} (h : Ev X a sl (rLst X.K (xs.map fun x => iB (f x)))) (hm : X.mg "any" = none) (hc : X.calm = true := by rfl) (hg : Gl X "any" := by rfl) (he : starEach [a] X.env = [(false, eval a X.env)] := by rfl) : Ev X (.Call (.Name "any" p) [a] [] pos) sl (iB (xs.any f)) := by
  have e1 : (xs.map fun x => iB (f x)) = (xs.map f).map iB := by rw [List.map_map]; rfl
  rw [e1] at h
  have := e_any (p := p) (pos := pos) hc h hm hg he
  rw [List.any_map] at this
  exact this
end

/-! ### loops -/
section
variable {X : Cx} {B : Base} {L : Hp} {sl : List Ent} {D : Ends} {pos : Pos} {rest body : List Stmt} {α β : Type} [Inhabited α] [Inhabited β] {it b : Expr} {y y2 : Str} {py py2 pt p1 p2 : Pos} {xs : List α} {ys : List β} {c : α → RV} {c2 : β → RV} {kt : Nat}
theorem w_forL (j : Nat) (hN : X.N.Nodup) (src : Ev X it sl (rLst X.K (xs.map c))) (J : Nat → List Ent → Prop) (h0 : J 0 sl)
    (turn : ∀ (i : Nat) x L' sl', xs[i]? = some x → J i sl' → Wp X B L' body (dturn D X rest B L' (J (i + 1))) (sl'.set j (.val (c x)))) (done : ∀ sl', J xs.length sl' → Wp X B L rest D sl')
    (hp : PassesOwn (model X.prog X.w) X.A X.env X.xe := by exact PassesOwn.never) (hc : X.calm = true := by rfl) (hj : X.N[j]? = some y := by rfl) (hl : Loc X.env.scope y := by first | exact Or.inl rfl | exact Or.inr rfl) (hfn : X.fn y = true ∨ X.env.scope.names.lookup y = some .local := by first | exact .inl rfl | exact .inr rfl)
    (hf : ∀ x, foldedSetIterable it X.env x = pure x := by intro _; rfl) : Wp X B L (.For (.Name y py) it body [] pos :: rest) D sl :=
  w_for hc hp (pi_list pcan) (pg_name hN hj hl hfn) (src_L (j := j) src) J h0 (fun i L' sl' hi hj => turn i _ L' sl' (getD_get hi) hj) done hf
theorem w_forT (j : Nat) (hN : X.N.Nodup) (src : Ev X it sl (rTup X.K (xs.map c))) (J : Nat → List Ent → Prop) (h0 : J 0 sl)
    (turn : ∀ (i : Nat) x L' sl', xs[i]? = some x → J i sl' → Wp X B L' body (dturn D X rest B L' (J (i + 1))) (sl'.set j (.val (c x)))) (done : ∀ sl', J xs.length sl' → Wp X B L rest D sl')
    (hp : PassesOwn (model X.prog X.w) X.A X.env X.xe := by exact PassesOwn.never) (hc : X.calm = true := by rfl) (hj : X.N[j]? = some y := by rfl) (hl : Loc X.env.scope y := by first | exact Or.inl rfl | exact Or.inr rfl) (hfn : X.fn y = true ∨ X.env.scope.names.lookup y = some .local := by first | exact .inl rfl | exact .inr rfl)
    (hf : ∀ x, foldedSetIterable it X.env x = pure x := by intro _; rfl) : Wp X B L (.For (.Name y py) it body [] pos :: rest) D sl :=
  w_for hc hp (pi_tup pcan) (pg_name hN hj hl hfn) (src_T (j := j) src) J h0 (fun i L' sl' hi hj => turn i _ L' sl' (getD_get hi) hj) done hf
theorem w_forR (j : Nat) {a : Expr} {m : Int} (hN : X.N.Nodup) (src : Ev X a sl (iI m)) (h0m : 0 ≤ m) (h1m : m < 2 ^ 62) (hm : X.mg "range" = none) (J : Nat → List Ent → Prop) (h0 : J 0 sl)
    (turn : ∀ (i : Nat) L' sl', (i : Int) < m → J i sl' → Wp X B L' body (dturn D X rest B L' (J (i + 1))) (sl'.set j (.val (iI (i : Int))))) (done : ∀ sl', J m.toNat sl' → Wp X B L rest D sl')
    (hp : PassesOwn (model X.prog X.w) X.A X.env X.xe := by exact PassesOwn.never) (hc : X.calm = true := by rfl) (hg : Gl X "range" := by rfl) (he : starEach [a] X.env = [(false, eval a X.env)] := by rfl) (hj : X.N[j]? = some y := by rfl) (hl : Loc X.env.scope y := by first | exact Or.inl rfl | exact Or.inr rfl) (hfn : X.fn y = true ∨ X.env.scope.names.lookup y = some .local := by first | exact .inl rfl | exact .inr rfl)
    (hf : ∀ x, foldedSetIterable (.Call (.Name "range" p1) [a] [] p2) X.env x = pure x := by intro _; rfl) : Wp X B L (.For (.Name y py) (.Call (.Name "range" p1) [a] [] p2) body [] pos :: rest) D sl :=
  w_for hc hp (pi_range1 hg hm pcanA he) (pg_name hN hj hl hfn) (src_range (j := j) src h1m (by omega) he) J h0 (fun i L' sl' hi hj => turn i L' sl' (by omega) hj) done hf
theorem w_forE (j1 j2 : Nat) (hN : X.N.Nodup) (src : Ev X it sl (rLst X.K (xs.map c))) (hm : X.mg "enumerate" = none) (J : Nat → List Ent → Prop) (h0 : J 0 sl)
    (turn : ∀ (i : Nat) x L' sl', xs[i]? = some x → J i sl' → Wp X B L' body (dturn D X rest B L' (J (i + 1))) ((sl'.set j1 (.val (iI (i : Int)))).set j2 (.val (c x)))) (done : ∀ sl', J xs.length sl' → Wp X B L rest D sl')
    (hp : PassesOwn (model X.prog X.w) X.A X.env X.xe := by exact PassesOwn.never) (hc : X.calm = true := by rfl) (hg : Gl X "enumerate" := by rfl) (he : starEach [it] X.env = [(false, eval it X.env)] := by rfl) (hj : X.N[j1]? = some y := by rfl) (hj2 : X.N[j2]? = some y2 := by rfl) (hl : X.env.scope.names.lookup y = some .local := by rfl) (hl2 : X.env.scope.names.lookup y2 = some .local := by rfl)
    (ha : (assignEach [Expr.Name y py, Expr.Name y2 py2] X.env).map (·.2) = assign (.Name y py) X.env :: (assignEach [Expr.Name y2 py2] X.env).map (·.2) := by rfl)
    (hf : ∀ x, foldedSetIterable (.Call (.Name "enumerate" p1) [it] [] p2) X.env x = pure x := by intro _; rfl) : Wp X B L (.For (.Tuple [.Name y py, .Name y2 py2] kt pt) (.Call (.Name "enumerate" p1) [it] [] p2) body [] pos :: rest) D sl :=
  w_for hc hp (pi_enum hg hm pcanA he) (pg_tup hc (pgs_cons (pg_name (i := j1) hN hj (.inl hl) (.inr hl)) (pgs_cons (pg_name (i := j2) hN hj2 (.inl hl2) (.inr hl2)) pgs_nil) ha)) (src_E src he) J h0 (fun i L' sl' hi hj => turn i _ L' sl' (getD_get hi) hj) done hf
theorem w_forZ (j1 j2 : Nat) (hN : X.N.Nodup) (src : Ev X it sl (rLst X.K (xs.map c))) (src2 : Ev X b sl (rLst X.K (ys.map c2))) (hm : X.mg "zip" = none) (J : Nat → List Ent → Prop) (h0 : J 0 sl)
    (turn : ∀ (i : Nat) x z L' sl', xs[i]? = some x → ys[i]? = some z → J i sl' → Wp X B L' body (dturn D X rest B L' (J (i + 1))) ((sl'.set j1 (.val (c x))).set j2 (.val (c2 z)))) (done : ∀ sl', J (min xs.length ys.length) sl' → Wp X B L rest D sl')
    (hp : PassesOwn (model X.prog X.w) X.A X.env X.xe := by exact PassesOwn.never) (hc : X.calm = true := by rfl) (hg : Gl X "zip" := by rfl) (he : starEach [it, b] X.env = (false, eval it X.env) :: starEach [b] X.env := by rfl) (he' : starEach [b] X.env = [(false, eval b X.env)] := by rfl) (hpl : (backTo p2 (starEach [b] X.env)).any (·.1) = false := by rfl) (hj : X.N[j1]? = some y := by rfl) (hj2 : X.N[j2]? = some y2 := by rfl) (hl : X.env.scope.names.lookup y = some .local := by rfl) (hl2 : X.env.scope.names.lookup y2 = some .local := by rfl)
    (ha : (assignEach [Expr.Name y py, Expr.Name y2 py2] X.env).map (·.2) = assign (.Name y py) X.env :: (assignEach [Expr.Name y2 py2] X.env).map (·.2) := by rfl)
    (hf : ∀ x, foldedSetIterable (.Call (.Name "zip" p1) [it, b] [] p2) X.env x = pure x := by intro _; rfl) : Wp X B L (.For (.Tuple [.Name y py, .Name y2 py2] kt pt) (.Call (.Name "zip" p1) [it, b] [] p2) body [] pos :: rest) D sl :=
  w_for hc hp (pi_zip hg hm pcanA he hpl) (pg_tup hc (pgs_cons (pg_name (i := j1) hN hj (.inl hl) (.inr hl)) (pgs_cons (pg_name (i := j2) hN hj2 (.inl hl2) (.inr hl2)) pgs_nil) ha)) (src_Z src src2 he he') J h0 (fun i L' sl' hi hj => turn i _ _ L' sl' (getD_get (by omega)) (getD_get (by omega)) hj) done hf
/-- a list of one's own is changed no more -/
theorem w_freeze (i : Nat) {st : List Stmt} {t : Addr → Prop} {Rs : List RV} (hM : ∀ a, ¬ B.M a) (ei : sl[i]? = some (.mu (oT t Rs))) (k : Wp X B L st D (sl.set i (.val (rLst X.K Rs)))) : Wp X B L st D sl := fun σ G H a => by
  obtain ⟨p, vs, h1, h2, h3, h4⟩ := a.sat.own i Rs ei
  have hb : B.H p = none := (a.ow i _ p ei h1).resolve_left (hM p)
  have sg : Same G (upd G p (.lst vs)) := same_new h3
  have sh : Same (upd G p (.lst vs)) H := fun b u e => by
    by_cases q : b = p
    · subst q; rw [upd_same] at e; rw [h2]; exact e
    · rw [upd_ne q] at e; exact a.sat.sub b u e
  refine k σ (upd G p (.lst vs)) H ⟨⟨sh, fun j R e => ?_, fun j O e => ?_, fun j l O O' ne e1 e2 => ?_, by rw [List.length_set]; exact a.sat.len⟩, ⟨a.gr.g.trans sg, a.gr.h, a.gr.t, sh, fun b e => ?_⟩, a.lo.trans sg, fun j O q e eq => ?_⟩
  · rcases getElem?_set_cases e with ⟨rfl, e2⟩ | ⟨ne, e2⟩
    · cases e2
      exact ⟨.ref p, h1, p, vs, rfl, SqL.of upd_same, h4.mono sg⟩
    · obtain ⟨v, k1, k2⟩ := a.sat.val j R e2
      exact ⟨v, k1, R.m sg k2⟩
  · rcases getElem?_set_cases e with ⟨rfl, e2⟩ | ⟨ne, e2⟩
    · cases e2
    · obtain ⟨q, o, k1, k2, k3, k4⟩ := a.sat.mu j O e2
      have nq : q ≠ p := fun z => by
        subst z
        exact a.sat.dis j i _ _ ne e2 ei (k1.trans h1.symm)
      exact ⟨q, o, k1, k2, by rw [upd_ne nq]; exact k3, O.m sg k4⟩
  · rcases getElem?_set_cases e1 with ⟨_, z⟩ | ⟨_, z1⟩
    · cases z
    · rcases getElem?_set_cases e2 with ⟨_, z⟩ | ⟨_, z2⟩
      · cases z
      · exact a.sat.dis j l O O' ne z1 z2
  · rw [upd_ne (fun z => e (by rw [z]; exact hb))]
    exact a.gr.n b e
  · rcases getElem?_set_cases e with ⟨_, z⟩ | ⟨_, z1⟩
    · cases z
    · exact a.ow j O q z1 eq
/-- a def's end, None -/
theorem w_none (hM : ∀ a, ¬ B.M a) (q : Post B.G B.H D.rt (.v iN)) (hN : ∀ σ H', D.rt .non H' → D.nx σ H') : Wp X B L [] D sl := fun σ G H a pins s I => (pss_nil (X := X)).run pins s σ H D I
  (hN σ H (q .non G H (a.gr0 hM) rfl))
/-- a loop's turn ends, as a rule for the body's end -/
theorem w_turn' {J : List Ent → Prop} (h : J sl) : Wp X B L [] (dturn D X rest B L J) sl := w_turn rfl h
end
end Dl


set_option Elab.async false
set_option linter.all false
set_option maxRecDepth 100000
set_option maxHeartbeats 2000000
namespace LT
open PySem PySem.Spec PyProof.Rows L2 Dl
def topS (i : Nat) : Stmt := PySem.Challenge.pw_lanelots_k19_whole_layers_and_cones.main.body.getD i (.Pass ⟨0, 0, 0, 0⟩)
abbrev s_is_integer : Stmt := topS 14
abbrev N_is_integer : List Str := ["value"]
theorem sc_is_integer : FnScope N_is_integer ["value"] (defScope s_is_integer) := ⟨rfl, rfl, rfl, by decide +kernel, rfl, by decide +kernel, by decide +kernel⟩
theorem b_is_integer (kV doc pm : Value) (an : Option Addr) (cdv ct : Value) (us : List Value) (hl : us.length = (["value"] : List Str).length) : bindArgs (PySem.W.fnOf "is_integer" "is_integer" (defArgs s_is_integer) (defBody s_is_integer) (defScope s_is_integer) .none kV doc pm an cdv ct) ⟨us, []⟩ = pure ((["value"] : List Str).zip us) := match us, hl with | [_], _ => rfl
abbrev s_is_count : Stmt := topS 15
abbrev N_is_count : List Str := ["value"]
theorem sc_is_count : FnScope N_is_count ["value"] (defScope s_is_count) := ⟨rfl, rfl, rfl, by decide +kernel, rfl, by decide +kernel, by decide +kernel⟩
theorem b_is_count (kV doc pm : Value) (an : Option Addr) (cdv ct : Value) (us : List Value) (hl : us.length = (["value"] : List Str).length) : bindArgs (PySem.W.fnOf "is_count" "is_count" (defArgs s_is_count) (defBody s_is_count) (defScope s_is_count) .none kV doc pm an cdv ct) ⟨us, []⟩ = pure ((["value"] : List Str).zip us) := match us, hl with | [_], _ => rfl
abbrev s_is_list : Stmt := topS 16
abbrev N_is_list : List Str := ["value"]
theorem sc_is_list : FnScope N_is_list ["value"] (defScope s_is_list) := ⟨rfl, rfl, rfl, by decide +kernel, rfl, by decide +kernel, by decide +kernel⟩
theorem b_is_list (kV doc pm : Value) (an : Option Addr) (cdv ct : Value) (us : List Value) (hl : us.length = (["value"] : List Str).length) : bindArgs (PySem.W.fnOf "is_list" "is_list" (defArgs s_is_list) (defBody s_is_list) (defScope s_is_list) .none kV doc pm an cdv ct) ⟨us, []⟩ = pure ((["value"] : List Str).zip us) := match us, hl with | [_], _ => rfl
abbrev s_is_content : Stmt := topS 17
abbrev N_is_content : List Str := ["value", "number"]
theorem sc_is_content : FnScope N_is_content ["value"] (defScope s_is_content) := ⟨rfl, rfl, rfl, by decide +kernel, rfl, by decide +kernel, by decide +kernel⟩
theorem b_is_content (kV doc pm : Value) (an : Option Addr) (cdv ct : Value) (us : List Value) (hl : us.length = (["value"] : List Str).length) : bindArgs (PySem.W.fnOf "is_content" "is_content" (defArgs s_is_content) (defBody s_is_content) (defScope s_is_content) .none kV doc pm an cdv ct) ⟨us, []⟩ = pure ((["value"] : List Str).zip us) := match us, hl with | [_], _ => rfl
abbrev s_is_lane : Stmt := topS 18
abbrev N_is_lane : List Str := ["lanes", "value"]
theorem sc_is_lane : FnScope N_is_lane ["lanes", "value"] (defScope s_is_lane) := ⟨rfl, rfl, rfl, by decide +kernel, rfl, by decide +kernel, by decide +kernel⟩
theorem b_is_lane (kV doc pm : Value) (an : Option Addr) (cdv ct : Value) (us : List Value) (hl : us.length = (["lanes", "value"] : List Str).length) : bindArgs (PySem.W.fnOf "is_lane" "is_lane" (defArgs s_is_lane) (defBody s_is_lane) (defScope s_is_lane) .none kV doc pm an cdv ct) ⟨us, []⟩ = pure ((["lanes", "value"] : List Str).zip us) := match us, hl with | [_, _], _ => rfl
abbrev s_want_content_of : Stmt := topS 19
abbrev N_want_content_of : List Str := ["lanes", "value"]
theorem sc_want_content_of : FnScope N_want_content_of ["lanes", "value"] (defScope s_want_content_of) := ⟨rfl, rfl, rfl, by decide +kernel, rfl, by decide +kernel, by decide +kernel⟩
theorem b_want_content_of (kV doc pm : Value) (an : Option Addr) (cdv ct : Value) (us : List Value) (hl : us.length = (["lanes", "value"] : List Str).length) : bindArgs (PySem.W.fnOf "want_content_of" "want_content_of" (defArgs s_want_content_of) (defBody s_want_content_of) (defScope s_want_content_of) .none kV doc pm an cdv ct) ⟨us, []⟩ = pure ((["lanes", "value"] : List Str).zip us) := match us, hl with | [_, _], _ => rfl
abbrev s_want_lane : Stmt := topS 20
abbrev N_want_lane : List Str := ["lanes", "value"]
theorem sc_want_lane : FnScope N_want_lane ["lanes", "value"] (defScope s_want_lane) := ⟨rfl, rfl, rfl, by decide +kernel, rfl, by decide +kernel, by decide +kernel⟩
theorem b_want_lane (kV doc pm : Value) (an : Option Addr) (cdv ct : Value) (us : List Value) (hl : us.length = (["lanes", "value"] : List Str).length) : bindArgs (PySem.W.fnOf "want_lane" "want_lane" (defArgs s_want_lane) (defBody s_want_lane) (defScope s_want_lane) .none kV doc pm an cdv ct) ⟨us, []⟩ = pure ((["lanes", "value"] : List Str).zip us) := match us, hl with | [_, _], _ => rfl
abbrev s_want_many : Stmt := topS 21
abbrev N_want_many : List Str := ["value"]
theorem sc_want_many : FnScope N_want_many ["value"] (defScope s_want_many) := ⟨rfl, rfl, rfl, by decide +kernel, rfl, by decide +kernel, by decide +kernel⟩
theorem b_want_many (kV doc pm : Value) (an : Option Addr) (cdv ct : Value) (us : List Value) (hl : us.length = (["value"] : List Str).length) : bindArgs (PySem.W.fnOf "want_many" "want_many" (defArgs s_want_many) (defBody s_want_many) (defScope s_want_many) .none kV doc pm an cdv ct) ⟨us, []⟩ = pure ((["value"] : List Str).zip us) := match us, hl with | [_], _ => rfl
abbrev s_is_gate : Stmt := topS 29
abbrev N_is_gate : List Str := ["lanes", "value"]
theorem sc_is_gate : FnScope N_is_gate ["lanes", "value"] (defScope s_is_gate) := ⟨rfl, rfl, rfl, by decide +kernel, rfl, by decide +kernel, by decide +kernel⟩
theorem b_is_gate (kV doc pm : Value) (an : Option Addr) (cdv ct : Value) (us : List Value) (hl : us.length = (["lanes", "value"] : List Str).length) : bindArgs (PySem.W.fnOf "is_gate" "is_gate" (defArgs s_is_gate) (defBody s_is_gate) (defScope s_is_gate) .none kV doc pm an cdv ct) ⟨us, []⟩ = pure ((["lanes", "value"] : List Str).zip us) := match us, hl with | [_, _], _ => rfl
abbrev s_want_gates : Stmt := topS 30
abbrev N_want_gates : List Str := ["lanes", "gates", "position", "gate"]
theorem sc_want_gates : FnScope N_want_gates ["lanes", "gates"] (defScope s_want_gates) := ⟨rfl, rfl, rfl, by decide +kernel, rfl, by decide +kernel, by decide +kernel⟩
theorem b_want_gates (kV doc pm : Value) (an : Option Addr) (cdv ct : Value) (us : List Value) (hl : us.length = (["lanes", "gates"] : List Str).length) : bindArgs (PySem.W.fnOf "want_gates" "want_gates" (defArgs s_want_gates) (defBody s_want_gates) (defScope s_want_gates) .none kV doc pm an cdv ct) ⟨us, []⟩ = pure ((["lanes", "gates"] : List Str).zip us) := match us, hl with | [_, _], _ => rfl
abbrev s_want_few : Stmt := topS 31
abbrev N_want_few : List Str := ["many"]
theorem sc_want_few : FnScope N_want_few ["many"] (defScope s_want_few) := ⟨rfl, rfl, rfl, by decide +kernel, rfl, by decide +kernel, by decide +kernel⟩
theorem b_want_few (kV doc pm : Value) (an : Option Addr) (cdv ct : Value) (us : List Value) (hl : us.length = (["many"] : List Str).length) : bindArgs (PySem.W.fnOf "want_few" "want_few" (defArgs s_want_few) (defBody s_want_few) (defScope s_want_few) .none kV doc pm an cdv ct) ⟨us, []⟩ = pure ((["many"] : List Str).zip us) := match us, hl with | [_], _ => rfl
abbrev s_want_position : Stmt := topS 32
abbrev N_want_position : List Str := ["many", "value"]
theorem sc_want_position : FnScope N_want_position ["many", "value"] (defScope s_want_position) := ⟨rfl, rfl, rfl, by decide +kernel, rfl, by decide +kernel, by decide +kernel⟩
theorem b_want_position (kV doc pm : Value) (an : Option Addr) (cdv ct : Value) (us : List Value) (hl : us.length = (["many", "value"] : List Str).length) : bindArgs (PySem.W.fnOf "want_position" "want_position" (defArgs s_want_position) (defBody s_want_position) (defScope s_want_position) .none kV doc pm an cdv ct) ⟨us, []⟩ = pure ((["many", "value"] : List Str).zip us) := match us, hl with | [_, _], _ => rfl
abbrev s_want_net : Stmt := topS 33
abbrev N_want_net : List Str := ["value"]
theorem sc_want_net : FnScope N_want_net ["value"] (defScope s_want_net) := ⟨rfl, rfl, rfl, by decide +kernel, rfl, by decide +kernel, by decide +kernel⟩
theorem b_want_net (kV doc pm : Value) (an : Option Addr) (cdv ct : Value) (us : List Value) (hl : us.length = (["value"] : List Str).length) : bindArgs (PySem.W.fnOf "want_net" "want_net" (defArgs s_want_net) (defBody s_want_net) (defScope s_want_net) .none kV doc pm an cdv ct) ⟨us, []⟩ = pure ((["value"] : List Str).zip us) := match us, hl with | [_], _ => rfl
abbrev s_do_gate : Stmt := topS 34
abbrev N_do_gate : List Str := ["here", "gate", "word", "lane", "last", "lesser", "greater"]
theorem sc_do_gate : FnScope N_do_gate ["here", "gate"] (defScope s_do_gate) := ⟨rfl, rfl, rfl, by decide +kernel, rfl, by decide +kernel, by decide +kernel⟩
theorem b_do_gate (kV doc pm : Value) (an : Option Addr) (cdv ct : Value) (us : List Value) (hl : us.length = (["here", "gate"] : List Str).length) : bindArgs (PySem.W.fnOf "do_gate" "do_gate" (defArgs s_do_gate) (defBody s_do_gate) (defScope s_do_gate) .none kV doc pm an cdv ct) ⟨us, []⟩ = pure ((["here", "gate"] : List Str).zip us) := match us, hl with | [_, _], _ => rfl
abbrev s_told_by : Stmt := topS 35
abbrev N_told_by : List Str := ["gates", "content", "here", "gate"]
theorem sc_told_by : FnScope N_told_by ["gates", "content"] (defScope s_told_by) := ⟨rfl, rfl, rfl, by decide +kernel, rfl, by decide +kernel, by decide +kernel⟩
theorem b_told_by (kV doc pm : Value) (an : Option Addr) (cdv ct : Value) (us : List Value) (hl : us.length = (["gates", "content"] : List Str).length) : bindArgs (PySem.W.fnOf "told_by" "told_by" (defArgs s_told_by) (defBody s_told_by) (defScope s_told_by) .none kV doc pm an cdv ct) ⟨us, []⟩ = pure ((["gates", "content"] : List Str).zip us) := match us, hl with | [_, _], _ => rfl
abbrev s_lanes_of : Stmt := topS 36
abbrev N_lanes_of : List Str := ["gate"]
theorem sc_lanes_of : FnScope N_lanes_of ["gate"] (defScope s_lanes_of) := ⟨rfl, rfl, rfl, by decide +kernel, rfl, by decide +kernel, by decide +kernel⟩
theorem b_lanes_of (kV doc pm : Value) (an : Option Addr) (cdv ct : Value) (us : List Value) (hl : us.length = (["gate"] : List Str).length) : bindArgs (PySem.W.fnOf "lanes_of" "lanes_of" (defArgs s_lanes_of) (defBody s_lanes_of) (defScope s_lanes_of) .none kV doc pm an cdv ct) ⟨us, []⟩ = pure ((["gate"] : List Str).zip us) := match us, hl with | [_], _ => rfl
abbrev s_gate_turned : Stmt := topS 37
abbrev N_gate_turned : List Str := ["gate", "word", "lane", "last"]
theorem sc_gate_turned : FnScope N_gate_turned ["gate"] (defScope s_gate_turned) := ⟨rfl, rfl, rfl, by decide +kernel, rfl, by decide +kernel, by decide +kernel⟩
theorem b_gate_turned (kV doc pm : Value) (an : Option Addr) (cdv ct : Value) (us : List Value) (hl : us.length = (["gate"] : List Str).length) : bindArgs (PySem.W.fnOf "gate_turned" "gate_turned" (defArgs s_gate_turned) (defBody s_gate_turned) (defScope s_gate_turned) .none kV doc pm an cdv ct) ⟨us, []⟩ = pure ((["gate"] : List Str).zip us) := match us, hl with | [_], _ => rfl
abbrev s_Net_init : Stmt := inClass (topS 38) 2
abbrev N_Net_init : List Str := ["self", "lanes", "gates"]
theorem sc_Net_init : FnScope N_Net_init ["self", "lanes", "gates"] (defScope s_Net_init) := ⟨rfl, rfl, rfl, by decide +kernel, rfl, by decide +kernel, by decide +kernel⟩
abbrev s_Net_of : Stmt := inClass (topS 38) 3
abbrev N_Net_of : List Str := ["cls", "lanes", "gates"]
theorem sc_Net_of : FnScope N_Net_of ["cls", "lanes", "gates"] (defScope s_Net_of) := ⟨rfl, rfl, rfl, by decide +kernel, rfl, by decide +kernel, by decide +kernel⟩
abbrev s_Net_lanes : Stmt := inClass (topS 38) 4
abbrev N_Net_lanes : List Str := ["self"]
theorem sc_Net_lanes : FnScope N_Net_lanes ["self"] (defScope s_Net_lanes) := ⟨rfl, rfl, rfl, by decide +kernel, rfl, by decide +kernel, by decide +kernel⟩
theorem b_Net_lanes (kV doc pm : Value) (an : Option Addr) (cdv ct : Value) (us : List Value) (hl : us.length = (["self"] : List Str).length) : bindArgs (PySem.W.fnOf "lanes" "Net.lanes" (defArgs s_Net_lanes) (defBody s_Net_lanes) (defScope s_Net_lanes) .none kV doc pm an cdv ct) ⟨us, []⟩ = pure ((["self"] : List Str).zip us) := match us, hl with | [_], _ => rfl
abbrev s_Net_gates : Stmt := inClass (topS 38) 6
abbrev N_Net_gates : List Str := ["self"]
theorem sc_Net_gates : FnScope N_Net_gates ["self"] (defScope s_Net_gates) := ⟨rfl, rfl, rfl, by decide +kernel, rfl, by decide +kernel, by decide +kernel⟩
theorem b_Net_gates (kV doc pm : Value) (an : Option Addr) (cdv ct : Value) (us : List Value) (hl : us.length = (["self"] : List Str).length) : bindArgs (PySem.W.fnOf "gates" "Net.gates" (defArgs s_Net_gates) (defBody s_Net_gates) (defScope s_Net_gates) .none kV doc pm an cdv ct) ⟨us, []⟩ = pure ((["self"] : List Str).zip us) := match us, hl with | [_], _ => rfl
abbrev s_Net_len : Stmt := inClass (topS 38) 7
abbrev N_Net_len : List Str := ["self"]
theorem sc_Net_len : FnScope N_Net_len ["self"] (defScope s_Net_len) := ⟨rfl, rfl, rfl, by decide +kernel, rfl, by decide +kernel, by decide +kernel⟩
theorem b_Net_len (kV doc pm : Value) (an : Option Addr) (cdv ct : Value) (us : List Value) (hl : us.length = (["self"] : List Str).length) : bindArgs (PySem.W.fnOf "__len__" "Net.__len__" (defArgs s_Net_len) (defBody s_Net_len) (defScope s_Net_len) .none kV doc pm an cdv ct) ⟨us, []⟩ = pure ((["self"] : List Str).zip us) := match us, hl with | [_], _ => rfl
abbrev s_Net_iter : Stmt := inClass (topS 38) 8
abbrev N_Net_iter : List Str := ["self"]
theorem sc_Net_iter : FnScope N_Net_iter ["self"] (defScope s_Net_iter) := ⟨rfl, rfl, rfl, by decide +kernel, rfl, by decide +kernel, by decide +kernel⟩
theorem b_Net_iter (kV doc pm : Value) (an : Option Addr) (cdv ct : Value) (us : List Value) (hl : us.length = (["self"] : List Str).length) : bindArgs (PySem.W.fnOf "__iter__" "Net.__iter__" (defArgs s_Net_iter) (defBody s_Net_iter) (defScope s_Net_iter) .none kV doc pm an cdv ct) ⟨us, []⟩ = pure ((["self"] : List Str).zip us) := match us, hl with | [_], _ => rfl
abbrev s_Net_getitem : Stmt := inClass (topS 38) 9
abbrev N_Net_getitem : List Str := ["self", "position"]
theorem sc_Net_getitem : FnScope N_Net_getitem ["self", "position"] (defScope s_Net_getitem) := ⟨rfl, rfl, rfl, by decide +kernel, rfl, by decide +kernel, by decide +kernel⟩
theorem b_Net_getitem (kV doc pm : Value) (an : Option Addr) (cdv ct : Value) (us : List Value) (hl : us.length = (["self", "position"] : List Str).length) : bindArgs (PySem.W.fnOf "__getitem__" "Net.__getitem__" (defArgs s_Net_getitem) (defBody s_Net_getitem) (defScope s_Net_getitem) .none kV doc pm an cdv ct) ⟨us, []⟩ = pure ((["self", "position"] : List Str).zip us) := match us, hl with | [_, _], _ => rfl
abbrev s_Net_call : Stmt := inClass (topS 38) 10
abbrev N_Net_call : List Str := ["self", "content"]
theorem sc_Net_call : FnScope N_Net_call ["self", "content"] (defScope s_Net_call) := ⟨rfl, rfl, rfl, by decide +kernel, rfl, by decide +kernel, by decide +kernel⟩
theorem b_Net_call (kV doc pm : Value) (an : Option Addr) (cdv ct : Value) (us : List Value) (hl : us.length = (["self", "content"] : List Str).length) : bindArgs (PySem.W.fnOf "__call__" "Net.__call__" (defArgs s_Net_call) (defBody s_Net_call) (defScope s_Net_call) .none kV doc pm an cdv ct) ⟨us, []⟩ = pure ((["self", "content"] : List Str).zip us) := match us, hl with | [_, _], _ => rfl
abbrev s_Net_add : Stmt := inClass (topS 38) 11
abbrev N_Net_add : List Str := ["self", "other"]
theorem sc_Net_add : FnScope N_Net_add ["self", "other"] (defScope s_Net_add) := ⟨rfl, rfl, rfl, by decide +kernel, rfl, by decide +kernel, by decide +kernel⟩
theorem b_Net_add (kV doc pm : Value) (an : Option Addr) (cdv ct : Value) (us : List Value) (hl : us.length = (["self", "other"] : List Str).length) : bindArgs (PySem.W.fnOf "__add__" "Net.__add__" (defArgs s_Net_add) (defBody s_Net_add) (defScope s_Net_add) .none kV doc pm an cdv ct) ⟨us, []⟩ = pure ((["self", "other"] : List Str).zip us) := match us, hl with | [_, _], _ => rfl
abbrev s_Net_mul : Stmt := inClass (topS 38) 12
abbrev N_Net_mul : List Str := ["self", "many"]
theorem sc_Net_mul : FnScope N_Net_mul ["self", "many"] (defScope s_Net_mul) := ⟨rfl, rfl, rfl, by decide +kernel, rfl, by decide +kernel, by decide +kernel⟩
theorem b_Net_mul (kV doc pm : Value) (an : Option Addr) (cdv ct : Value) (us : List Value) (hl : us.length = (["self", "many"] : List Str).length) : bindArgs (PySem.W.fnOf "__mul__" "Net.__mul__" (defArgs s_Net_mul) (defBody s_Net_mul) (defScope s_Net_mul) .none kV doc pm an cdv ct) ⟨us, []⟩ = pure ((["self", "many"] : List Str).zip us) := match us, hl with | [_, _], _ => rfl
abbrev s_Net_neg : Stmt := inClass (topS 38) 13
abbrev N_Net_neg : List Str := ["self", "gate"]
theorem sc_Net_neg : FnScope N_Net_neg ["self"] (defScope s_Net_neg) := ⟨rfl, rfl, rfl, by decide +kernel, rfl, by decide +kernel, by decide +kernel⟩
theorem b_Net_neg (kV doc pm : Value) (an : Option Addr) (cdv ct : Value) (us : List Value) (hl : us.length = (["self"] : List Str).length) : bindArgs (PySem.W.fnOf "__neg__" "Net.__neg__" (defArgs s_Net_neg) (defBody s_Net_neg) (defScope s_Net_neg) .none kV doc pm an cdv ct) ⟨us, []⟩ = pure ((["self"] : List Str).zip us) := match us, hl with | [_], _ => rfl
abbrev s_Net_eq : Stmt := inClass (topS 38) 14
abbrev N_Net_eq : List Str := ["self", "other"]
theorem sc_Net_eq : FnScope N_Net_eq ["self", "other"] (defScope s_Net_eq) := ⟨rfl, rfl, rfl, by decide +kernel, rfl, by decide +kernel, by decide +kernel⟩
theorem b_Net_eq (kV doc pm : Value) (an : Option Addr) (cdv ct : Value) (us : List Value) (hl : us.length = (["self", "other"] : List Str).length) : bindArgs (PySem.W.fnOf "__eq__" "Net.__eq__" (defArgs s_Net_eq) (defBody s_Net_eq) (defScope s_Net_eq) .none kV doc pm an cdv ct) ⟨us, []⟩ = pure ((["self", "other"] : List Str).zip us) := match us, hl with | [_, _], _ => rfl
abbrev s_Net_repr : Stmt := inClass (topS 38) 15
abbrev N_Net_repr : List Str := ["self"]
theorem sc_Net_repr : FnScope N_Net_repr ["self"] (defScope s_Net_repr) := ⟨rfl, rfl, rfl, by decide +kernel, rfl, by decide +kernel, by decide +kernel⟩
theorem b_Net_repr (kV doc pm : Value) (an : Option Addr) (cdv ct : Value) (us : List Value) (hl : us.length = (["self"] : List Str).length) : bindArgs (PySem.W.fnOf "__repr__" "Net.__repr__" (defArgs s_Net_repr) (defBody s_Net_repr) (defScope s_Net_repr) .none kV doc pm an cdv ct) ⟨us, []⟩ = pure ((["self"] : List Str).zip us) := match us, hl with | [_], _ => rfl
abbrev s_Net_without : Stmt := inClass (topS 38) 20
abbrev N_Net_without : List Str := ["self", "position"]
theorem sc_Net_without : FnScope N_Net_without ["self", "position"] (defScope s_Net_without) := ⟨rfl, rfl, rfl, by decide +kernel, rfl, by decide +kernel, by decide +kernel⟩
theorem b_Net_without (kV doc pm : Value) (an : Option Addr) (cdv ct : Value) (us : List Value) (hl : us.length = (["self", "position"] : List Str).length) : bindArgs (PySem.W.fnOf "without" "Net.without" (defArgs s_Net_without) (defBody s_Net_without) (defScope s_Net_without) .none kV doc pm an cdv ct) ⟨us, []⟩ = pure ((["self", "position"] : List Str).zip us) := match us, hl with | [_, _], _ => rfl
theorem kb_Net_without (kV doc pm : Value) (an : Option Addr) (cdv ct : Value) (us ws : List Value) (h1 : us.length = 1) (h2 : ws.length = (["position"] : List Str).length) : bindArgs (PySem.W.fnOf "without" "Net.without" (defArgs s_Net_without) (defBody s_Net_without) (defScope s_Net_without) .none kV doc pm an cdv ct) ⟨us, (["position"] : List Str).zip ws⟩ = pure ((["self", "position"] : List Str).zip (us ++ ws.reverse)) := match us, ws, h1, h2 with | [_], [_], _, _ => rfl
abbrev s_of_lane : Stmt := topS 40
abbrev N_of_lane : List Str := ["net", "lane", "gate"]
theorem sc_of_lane : FnScope N_of_lane ["net", "lane"] (defScope s_of_lane) := ⟨rfl, rfl, rfl, by decide +kernel, rfl, by decide +kernel, by decide +kernel⟩
theorem b_of_lane (kV doc pm : Value) (an : Option Addr) (cdv ct : Value) (us : List Value) (hl : us.length = (["net", "lane"] : List Str).length) : bindArgs (PySem.W.fnOf "of_lane" "of_lane" (defArgs s_of_lane) (defBody s_of_lane) (defScope s_of_lane) .none kV doc pm an cdv ct) ⟨us, []⟩ = pure ((["net", "lane"] : List Str).zip us) := match us, hl with | [_, _], _ => rfl
abbrev s_layers : Stmt := topS 41
abbrev N_layers : List Str := ["net", "found", "levels", "position", "gate", "level", "lane"]
theorem sc_layers : FnScope N_layers ["net"] (defScope s_layers) := ⟨rfl, rfl, rfl, by decide +kernel, rfl, by decide +kernel, by decide +kernel⟩
theorem b_layers (kV doc pm : Value) (an : Option Addr) (cdv ct : Value) (us : List Value) (hl : us.length = (["net"] : List Str).length) : bindArgs (PySem.W.fnOf "layers" "layers" (defArgs s_layers) (defBody s_layers) (defScope s_layers) .none kV doc pm an cdv ct) ⟨us, []⟩ = pure ((["net"] : List Str).zip us) := match us, hl with | [_], _ => rfl
theorem kb_layers (kV doc pm : Value) (an : Option Addr) (cdv ct : Value) (us ws : List Value) (h1 : us.length = 0) (h2 : ws.length = (["net"] : List Str).length) : bindArgs (PySem.W.fnOf "layers" "layers" (defArgs s_layers) (defBody s_layers) (defScope s_layers) .none kV doc pm an cdv ct) ⟨us, (["net"] : List Str).zip ws⟩ = pure ((["net"] : List Str).zip (us ++ ws.reverse)) := match us, ws, h1, h2 with | [], [_], _, _ => rfl
abbrev s_by_layers : Stmt := topS 42
abbrev N_by_layers : List Str := ["net", "gates", "places", "position"]
theorem sc_by_layers : FnScope N_by_layers ["net"] (defScope s_by_layers) := ⟨rfl, rfl, rfl, by decide +kernel, rfl, by decide +kernel, by decide +kernel⟩
theorem b_by_layers (kV doc pm : Value) (an : Option Addr) (cdv ct : Value) (us : List Value) (hl : us.length = (["net"] : List Str).length) : bindArgs (PySem.W.fnOf "by_layers" "by_layers" (defArgs s_by_layers) (defBody s_by_layers) (defScope s_by_layers) .none kV doc pm an cdv ct) ⟨us, []⟩ = pure ((["net"] : List Str).zip us) := match us, hl with | [_], _ => rfl
theorem kb_by_layers (kV doc pm : Value) (an : Option Addr) (cdv ct : Value) (us ws : List Value) (h1 : us.length = 0) (h2 : ws.length = (["net"] : List Str).length) : bindArgs (PySem.W.fnOf "by_layers" "by_layers" (defArgs s_by_layers) (defBody s_by_layers) (defScope s_by_layers) .none kV doc pm an cdv ct) ⟨us, (["net"] : List Str).zip ws⟩ = pure ((["net"] : List Str).zip (us ++ ws.reverse)) := match us, ws, h1, h2 with | [], [_], _, _ => rfl
abbrev s_looked_back : Stmt := topS 43
abbrev N_looked_back : List Str := ["net", "lane", "found", "seen", "position", "word", "goal", "last"]
theorem sc_looked_back : FnScope N_looked_back ["net", "lane"] (defScope s_looked_back) := ⟨rfl, rfl, rfl, by decide +kernel, rfl, by decide +kernel, by decide +kernel⟩
theorem b_looked_back (kV doc pm : Value) (an : Option Addr) (cdv ct : Value) (us : List Value) (hl : us.length = (["net", "lane"] : List Str).length) : bindArgs (PySem.W.fnOf "looked_back" "looked_back" (defArgs s_looked_back) (defBody s_looked_back) (defScope s_looked_back) .none kV doc pm an cdv ct) ⟨us, []⟩ = pure ((["net", "lane"] : List Str).zip us) := match us, hl with | [_, _], _ => rfl
abbrev s_cone : Stmt := topS 44
abbrev N_cone : List Str := ["net", "lane"]
theorem sc_cone : FnScope N_cone ["net", "lane"] (defScope s_cone) := ⟨rfl, rfl, rfl, by decide +kernel, rfl, by decide +kernel, by decide +kernel⟩
theorem b_cone (kV doc pm : Value) (an : Option Addr) (cdv ct : Value) (us : List Value) (hl : us.length = (["net", "lane"] : List Str).length) : bindArgs (PySem.W.fnOf "cone" "cone" (defArgs s_cone) (defBody s_cone) (defScope s_cone) .none kV doc pm an cdv ct) ⟨us, []⟩ = pure ((["net", "lane"] : List Str).zip us) := match us, hl with | [_, _], _ => rfl
theorem kb_cone (kV doc pm : Value) (an : Option Addr) (cdv ct : Value) (us ws : List Value) (h1 : us.length = 0) (h2 : ws.length = (["lane", "net"] : List Str).length) : bindArgs (PySem.W.fnOf "cone" "cone" (defArgs s_cone) (defBody s_cone) (defScope s_cone) .none kV doc pm an cdv ct) ⟨us, (["lane", "net"] : List Str).zip ws⟩ = pure ((["net", "lane"] : List Str).zip (us ++ ws.reverse)) := match us, ws, h1, h2 with | [], [_, _], _, _ => rfl
abbrev s_looked_at : Stmt := topS 45
abbrev N_looked_at : List Str := ["net", "lane"]
theorem sc_looked_at : FnScope N_looked_at ["net", "lane"] (defScope s_looked_at) := ⟨rfl, rfl, rfl, by decide +kernel, rfl, by decide +kernel, by decide +kernel⟩
theorem b_looked_at (kV doc pm : Value) (an : Option Addr) (cdv ct : Value) (us : List Value) (hl : us.length = (["net", "lane"] : List Str).length) : bindArgs (PySem.W.fnOf "looked_at" "looked_at" (defArgs s_looked_at) (defBody s_looked_at) (defScope s_looked_at) .none kV doc pm an cdv ct) ⟨us, []⟩ = pure ((["net", "lane"] : List Str).zip us) := match us, hl with | [_, _], _ => rfl
theorem kb_looked_at (kV doc pm : Value) (an : Option Addr) (cdv ct : Value) (us ws : List Value) (h1 : us.length = 0) (h2 : ws.length = (["lane", "net"] : List Str).length) : bindArgs (PySem.W.fnOf "looked_at" "looked_at" (defArgs s_looked_at) (defBody s_looked_at) (defScope s_looked_at) .none kV doc pm an cdv ct) ⟨us, (["lane", "net"] : List Str).zip ws⟩ = pure ((["net", "lane"] : List Str).zip (us ++ ws.reverse)) := match us, ws, h1, h2 with | [], [_, _], _, _ => rfl
abbrev s_cone_net : Stmt := topS 46
abbrev N_cone_net : List Str := ["net", "lane", "position"]
theorem sc_cone_net : FnScope N_cone_net ["net", "lane"] (defScope s_cone_net) := ⟨rfl, rfl, rfl, by decide +kernel, rfl, by decide +kernel, by decide +kernel⟩
theorem b_cone_net (kV doc pm : Value) (an : Option Addr) (cdv ct : Value) (us : List Value) (hl : us.length = (["net", "lane"] : List Str).length) : bindArgs (PySem.W.fnOf "cone_net" "cone_net" (defArgs s_cone_net) (defBody s_cone_net) (defScope s_cone_net) .none kV doc pm an cdv ct) ⟨us, []⟩ = pure ((["net", "lane"] : List Str).zip us) := match us, hl with | [_, _], _ => rfl
theorem kb_cone_net (kV doc pm : Value) (an : Option Addr) (cdv ct : Value) (us ws : List Value) (h1 : us.length = 0) (h2 : ws.length = (["lane", "net"] : List Str).length) : bindArgs (PySem.W.fnOf "cone_net" "cone_net" (defArgs s_cone_net) (defBody s_cone_net) (defScope s_cone_net) .none kV doc pm an cdv ct) ⟨us, (["lane", "net"] : List Str).zip ws⟩ = pure ((["net", "lane"] : List Str).zip (us ++ ws.reverse)) := match us, ws, h1, h2 with | [], [_, _], _, _ => rfl
abbrev s_are_alike : Stmt := topS 47
abbrev N_are_alike : List Str := ["net", "other", "lane"]
theorem sc_are_alike : FnScope N_are_alike ["net", "other"] (defScope s_are_alike) := ⟨rfl, rfl, rfl, by decide +kernel, rfl, by decide +kernel, by decide +kernel⟩
theorem b_are_alike (kV doc pm : Value) (an : Option Addr) (cdv ct : Value) (us : List Value) (hl : us.length = (["net", "other"] : List Str).length) : bindArgs (PySem.W.fnOf "are_alike" "are_alike" (defArgs s_are_alike) (defBody s_are_alike) (defScope s_are_alike) .none kV doc pm an cdv ct) ⟨us, []⟩ = pure ((["net", "other"] : List Str).zip us) := match us, hl with | [_, _], _ => rfl
abbrev s_is_shuffle : Stmt := topS 48
abbrev N_is_shuffle : List Str := ["net", "other"]
theorem sc_is_shuffle : FnScope N_is_shuffle ["net", "other"] (defScope s_is_shuffle) := ⟨rfl, rfl, rfl, by decide +kernel, rfl, by decide +kernel, by decide +kernel⟩
theorem b_is_shuffle (kV doc pm : Value) (an : Option Addr) (cdv ct : Value) (us : List Value) (hl : us.length = (["net", "other"] : List Str).length) : bindArgs (PySem.W.fnOf "is_shuffle" "is_shuffle" (defArgs s_is_shuffle) (defBody s_is_shuffle) (defScope s_is_shuffle) .none kV doc pm an cdv ct) ⟨us, []⟩ = pure ((["net", "other"] : List Str).zip us) := match us, hl with | [_, _], _ => rfl
abbrev s_Lpot : Stmt := topS 50
abbrev N_Lpot : List Str := ["_law_script", "_law_k", "_law_cell"]
theorem sc_Lpot : FnScope N_Lpot ["_law_script", "_law_k"] (defScope s_Lpot) := ⟨rfl, rfl, rfl, by decide +kernel, rfl, by decide +kernel, by decide +kernel⟩
theorem b_Lpot (kV doc pm : Value) (an : Option Addr) (cdv ct : Value) (us : List Value) (hl : us.length = (["_law_script", "_law_k"] : List Str).length) : bindArgs (PySem.W.fnOf "_law_pot" "_law_pot" (defArgs s_Lpot) (defBody s_Lpot) (defScope s_Lpot) .none kV doc pm an cdv ct) ⟨us, []⟩ = pure ((["_law_script", "_law_k"] : List Str).zip us) := match us, hl with | [_, _], _ => rfl
abbrev s_Ldraw : Stmt := topS 51
abbrev N_Ldraw : List Str := ["_law_pot_here", "_law_size", "_law_digit"]
theorem sc_Ldraw : FnScope N_Ldraw ["_law_pot_here", "_law_size"] (defScope s_Ldraw) := ⟨rfl, rfl, rfl, by decide +kernel, rfl, by decide +kernel, by decide +kernel⟩
theorem b_Ldraw (kV doc pm : Value) (an : Option Addr) (cdv ct : Value) (us : List Value) (hl : us.length = (["_law_pot_here", "_law_size"] : List Str).length) : bindArgs (PySem.W.fnOf "_law_draw" "_law_draw" (defArgs s_Ldraw) (defBody s_Ldraw) (defScope s_Ldraw) .none kV doc pm an cdv ct) ⟨us, []⟩ = pure ((["_law_pot_here", "_law_size"] : List Str).zip us) := match us, hl with | [_, _], _ => rfl
abbrev s_Lpick : Stmt := topS 52
abbrev N_Lpick : List Str := ["_law_pot_here", "_law_some"]
theorem sc_Lpick : FnScope N_Lpick ["_law_pot_here", "_law_some"] (defScope s_Lpick) := ⟨rfl, rfl, rfl, by decide +kernel, rfl, by decide +kernel, by decide +kernel⟩
theorem b_Lpick (kV doc pm : Value) (an : Option Addr) (cdv ct : Value) (us : List Value) (hl : us.length = (["_law_pot_here", "_law_some"] : List Str).length) : bindArgs (PySem.W.fnOf "_law_pick" "_law_pick" (defArgs s_Lpick) (defBody s_Lpick) (defScope s_Lpick) .none kV doc pm an cdv ct) ⟨us, []⟩ = pure ((["_law_pot_here", "_law_some"] : List Str).zip us) := match us, hl with | [_, _], _ => rfl
abbrev s_Lmixed : Stmt := topS 53
abbrev N_Lmixed : List Str := ["_law_pot_here", "_law_some", "_law_left", "_law_turn"]
theorem sc_Lmixed : FnScope N_Lmixed ["_law_pot_here", "_law_some"] (defScope s_Lmixed) := ⟨rfl, rfl, rfl, by decide +kernel, rfl, by decide +kernel, by decide +kernel⟩
theorem b_Lmixed (kV doc pm : Value) (an : Option Addr) (cdv ct : Value) (us : List Value) (hl : us.length = (["_law_pot_here", "_law_some"] : List Str).length) : bindArgs (PySem.W.fnOf "_law_mixed" "_law_mixed" (defArgs s_Lmixed) (defBody s_Lmixed) (defScope s_Lmixed) .none kV doc pm an cdv ct) ⟨us, []⟩ = pure ((["_law_pot_here", "_law_some"] : List Str).zip us) := match us, hl with | [_, _], _ => rfl
abbrev s_Lgate : Stmt := topS 54
abbrev N_Lgate : List Str := ["_law_pot_here", "_law_lanes_here", "_law_kind", "_law_one"]
theorem sc_Lgate : FnScope N_Lgate ["_law_pot_here", "_law_lanes_here"] (defScope s_Lgate) := ⟨rfl, rfl, rfl, by decide +kernel, rfl, by decide +kernel, by decide +kernel⟩
theorem b_Lgate (kV doc pm : Value) (an : Option Addr) (cdv ct : Value) (us : List Value) (hl : us.length = (["_law_pot_here", "_law_lanes_here"] : List Str).length) : bindArgs (PySem.W.fnOf "_law_gate" "_law_gate" (defArgs s_Lgate) (defBody s_Lgate) (defScope s_Lgate) .none kV doc pm an cdv ct) ⟨us, []⟩ = pure ((["_law_pot_here", "_law_lanes_here"] : List Str).zip us) := match us, hl with | [_, _], _ => rfl
abbrev s_Lgates : Stmt := topS 55
abbrev N_Lgates : List Str := ["_law_pot_here", "_law_lanes_here", "_law_most", "_law_turn"]
theorem sc_Lgates : FnScope N_Lgates ["_law_pot_here", "_law_lanes_here", "_law_most"] (defScope s_Lgates) := ⟨rfl, rfl, rfl, by decide +kernel, rfl, by decide +kernel, by decide +kernel⟩
theorem b_Lgates (kV doc pm : Value) (an : Option Addr) (cdv ct : Value) (us : List Value) (hl : us.length = (["_law_pot_here", "_law_lanes_here", "_law_most"] : List Str).length) : bindArgs (PySem.W.fnOf "_law_gates" "_law_gates" (defArgs s_Lgates) (defBody s_Lgates) (defScope s_Lgates) .none kV doc pm an cdv ct) ⟨us, []⟩ = pure ((["_law_pot_here", "_law_lanes_here", "_law_most"] : List Str).zip us) := match us, hl with | [_, _, _], _ => rfl
abbrev s_Lcontent : Stmt := topS 56
abbrev N_Lcontent : List Str := ["_law_pot_here", "_law_lanes_here", "_law_wide", "_law_lane"]
theorem sc_Lcontent : FnScope N_Lcontent ["_law_pot_here", "_law_lanes_here"] (defScope s_Lcontent) := ⟨rfl, rfl, rfl, by decide +kernel, rfl, by decide +kernel, by decide +kernel⟩
theorem b_Lcontent (kV doc pm : Value) (an : Option Addr) (cdv ct : Value) (us : List Value) (hl : us.length = (["_law_pot_here", "_law_lanes_here"] : List Str).length) : bindArgs (PySem.W.fnOf "_law_content" "_law_content" (defArgs s_Lcontent) (defBody s_Lcontent) (defScope s_Lcontent) .none kV doc pm an cdv ct) ⟨us, []⟩ = pure ((["_law_pot_here", "_law_lanes_here"] : List Str).zip us) := match us, hl with | [_, _], _ => rfl
abbrev s_Llanes : Stmt := topS 57
abbrev N_Llanes : List Str := ["_law_gate_here"]
theorem sc_Llanes : FnScope N_Llanes ["_law_gate_here"] (defScope s_Llanes) := ⟨rfl, rfl, rfl, by decide +kernel, rfl, by decide +kernel, by decide +kernel⟩
theorem b_Llanes (kV doc pm : Value) (an : Option Addr) (cdv ct : Value) (us : List Value) (hl : us.length = (["_law_gate_here"] : List Str).length) : bindArgs (PySem.W.fnOf "_law_lanes" "_law_lanes" (defArgs s_Llanes) (defBody s_Llanes) (defScope s_Llanes) .none kV doc pm an cdv ct) ⟨us, []⟩ = pure ((["_law_gate_here"] : List Str).zip us) := match us, hl with | [_], _ => rfl
abbrev s_Ldo_touch : Stmt := topS 58
abbrev N_Ldo_touch : List Str := ["_law_one", "_law_other", "_law_lane"]
theorem sc_Ldo_touch : FnScope N_Ldo_touch ["_law_one", "_law_other"] (defScope s_Ldo_touch) := ⟨rfl, rfl, rfl, by decide +kernel, rfl, by decide +kernel, by decide +kernel⟩
theorem b_Ldo_touch (kV doc pm : Value) (an : Option Addr) (cdv ct : Value) (us : List Value) (hl : us.length = (["_law_one", "_law_other"] : List Str).length) : bindArgs (PySem.W.fnOf "_law_do_touch" "_law_do_touch" (defArgs s_Ldo_touch) (defBody s_Ldo_touch) (defScope s_Ldo_touch) .none kV doc pm an cdv ct) ⟨us, []⟩ = pure ((["_law_one", "_law_other"] : List Str).zip us) := match us, hl with | [_, _], _ => rfl
abbrev s_Llayers : Stmt := topS 59
abbrev N_Llayers : List Str := ["_law_gates_here", "_law_levels", "_law_found", "_law_place", "_law_gate_here", "_law_near", "_law_level", "_law_at"]
theorem sc_Llayers : FnScope N_Llayers ["_law_gates_here"] (defScope s_Llayers) := ⟨rfl, rfl, rfl, by decide +kernel, rfl, by decide +kernel, by decide +kernel⟩
theorem b_Llayers (kV doc pm : Value) (an : Option Addr) (cdv ct : Value) (us : List Value) (hl : us.length = (["_law_gates_here"] : List Str).length) : bindArgs (PySem.W.fnOf "_law_layers" "_law_layers" (defArgs s_Llayers) (defBody s_Llayers) (defScope s_Llayers) .none kV doc pm an cdv ct) ⟨us, []⟩ = pure ((["_law_gates_here"] : List Str).zip us) := match us, hl with | [_], _ => rfl
abbrev s_Llongest : Stmt := topS 60
abbrev N_Llongest : List Str := ["_law_gates_here", "_law_most", "_law_place", "_law_gate_here", "_law_at"]
theorem sc_Llongest : FnScope N_Llongest ["_law_gates_here"] (defScope s_Llongest) := ⟨rfl, rfl, rfl, by decide +kernel, rfl, by decide +kernel, by decide +kernel⟩
theorem b_Llongest (kV doc pm : Value) (an : Option Addr) (cdv ct : Value) (us : List Value) (hl : us.length = (["_law_gates_here"] : List Str).length) : bindArgs (PySem.W.fnOf "_law_longest" "_law_longest" (defArgs s_Llongest) (defBody s_Llongest) (defScope s_Llongest) .none kV doc pm an cdv ct) ⟨us, []⟩ = pure ((["_law_gates_here"] : List Str).zip us) := match us, hl with | [_], _ => rfl
abbrev s_Lcone : Stmt := topS 61
abbrev N_Lcone : List Str := ["_law_gates_here", "_law_lane", "_law_found", "_law_seen", "_law_place", "_law_kind", "_law_one", "_law_two", "_law_fresh", "_law_near"]
theorem sc_Lcone : FnScope N_Lcone ["_law_gates_here", "_law_lane"] (defScope s_Lcone) := ⟨rfl, rfl, rfl, by decide +kernel, rfl, by decide +kernel, by decide +kernel⟩
theorem b_Lcone (kV doc pm : Value) (an : Option Addr) (cdv ct : Value) (us : List Value) (hl : us.length = (["_law_gates_here", "_law_lane"] : List Str).length) : bindArgs (PySem.W.fnOf "_law_cone" "_law_cone" (defArgs s_Lcone) (defBody s_Lcone) (defScope s_Lcone) .none kV doc pm an cdv ct) ⟨us, []⟩ = pure ((["_law_gates_here", "_law_lane"] : List Str).zip us) := match us, hl with | [_, _], _ => rfl
abbrev s_Llayers_right : Stmt := topS 62
abbrev N_Llayers_right : List Str := ["_law_pot_here", "_law_net", "_law_lanes_here", "_law_gates_here", "_law_due", "_law_told", "_law_row", "_law_made", "_law_mixed_here", "_law_content_here", "_law_at", "_law_blocks", "_law_place"]
theorem sc_Llayers_right : FnScope N_Llayers_right ["_law_pot_here", "_law_net", "_law_lanes_here", "_law_gates_here"] (defScope s_Llayers_right) := ⟨rfl, rfl, rfl, by decide +kernel, rfl, by decide +kernel, by decide +kernel⟩
theorem b_Llayers_right (kV doc pm : Value) (an : Option Addr) (cdv ct : Value) (us : List Value) (hl : us.length = (["_law_pot_here", "_law_net", "_law_lanes_here", "_law_gates_here"] : List Str).length) : bindArgs (PySem.W.fnOf "_law_layers_right" "_law_layers_right" (defArgs s_Llayers_right) (defBody s_Llayers_right) (defScope s_Llayers_right) .none kV doc pm an cdv ct) ⟨us, []⟩ = pure ((["_law_pot_here", "_law_net", "_law_lanes_here", "_law_gates_here"] : List Str).zip us) := match us, hl with | [_, _, _, _], _ => rfl
abbrev s_Lcone_right : Stmt := topS 63
abbrev N_Lcone_right : List Str := ["_law_pot_here", "_law_net", "_law_lanes_here", "_law_gates_here", "_law_lane", "_law_places", "_law_seen", "_law_made", "_law_turn", "_law_content_here", "_law_other", "_law_mixed_here", "_law_told", "_law_place", "_law_near"]
theorem sc_Lcone_right : FnScope N_Lcone_right ["_law_pot_here", "_law_net", "_law_lanes_here", "_law_gates_here", "_law_lane"] (defScope s_Lcone_right) := ⟨rfl, rfl, rfl, by decide +kernel, rfl, by decide +kernel, by decide +kernel⟩
theorem b_Lcone_right (kV doc pm : Value) (an : Option Addr) (cdv ct : Value) (us : List Value) (hl : us.length = (["_law_pot_here", "_law_net", "_law_lanes_here", "_law_gates_here", "_law_lane"] : List Str).length) : bindArgs (PySem.W.fnOf "_law_cone_right" "_law_cone_right" (defArgs s_Lcone_right) (defBody s_Lcone_right) (defScope s_Lcone_right) .none kV doc pm an cdv ct) ⟨us, []⟩ = pure ((["_law_pot_here", "_law_net", "_law_lanes_here", "_law_gates_here", "_law_lane"] : List Str).zip us) := match us, hl with | [_, _, _, _, _], _ => rfl
abbrev s_Lknown_right : Stmt := topS 64
abbrev N_Lknown_right : List Str := ["_law_chain", "_law_pairs", "_law_copied", "_law_lane", "_law_place", "_law_at"]
theorem sc_Lknown_right : FnScope N_Lknown_right [] (defScope s_Lknown_right) := ⟨rfl, rfl, rfl, by decide +kernel, rfl, by decide +kernel, by decide +kernel⟩
theorem b_Lknown_right (kV doc pm : Value) (an : Option Addr) (cdv ct : Value) (us : List Value) (hl : us.length = ([] : List Str).length) : bindArgs (PySem.W.fnOf "_law_known_right" "_law_known_right" (defArgs s_Lknown_right) (defBody s_Lknown_right) (defScope s_Lknown_right) .none kV doc pm an cdv ct) ⟨us, []⟩ = pure (([] : List Str).zip us) := match us, hl with | [], _ => rfl
abbrev s_Lright : Stmt := topS 65
abbrev N_Lright : List Str := ["_law_pot_here", "_law_lanes_here", "_law_gates_here", "_law_net", "_law_lane"]
theorem sc_Lright : FnScope N_Lright ["_law_pot_here"] (defScope s_Lright) := ⟨rfl, rfl, rfl, by decide +kernel, rfl, by decide +kernel, by decide +kernel⟩
theorem b_Lright (kV doc pm : Value) (an : Option Addr) (cdv ct : Value) (us : List Value) (hl : us.length = (["_law_pot_here"] : List Str).length) : bindArgs (PySem.W.fnOf "_law_right" "_law_right" (defArgs s_Lright) (defBody s_Lright) (defScope s_Lright) .none kV doc pm an cdv ct) ⟨us, []⟩ = pure ((["_law_pot_here"] : List Str).zip us) := match us, hl with | [_], _ => rfl
abbrev s_law : Stmt := topS 66
abbrev N_law : List Str := ["_law_script", "_law_k"]
theorem sc_law : FnScope N_law ["_law_script"] (defScope s_law) := ⟨rfl, rfl, rfl, by decide +kernel, rfl, by decide +kernel, by decide +kernel⟩
theorem b_law (kV doc pm : Value) (an : Option Addr) (cdv ct : Value) (us : List Value) (hl : us.length = (["_law_script"] : List Str).length) : bindArgs (PySem.W.fnOf "law" "law" (defArgs s_law) (defBody s_law) (defScope s_law) .none kV doc pm an cdv ct) ⟨us, []⟩ = pure ((["_law_script"] : List Str).zip us) := match us, hl with | [_], _ => rfl
/-- the plain defs -/
structure Dfs (K : PySem.W.Frag) (mg : Str → Option Value) : Prop where
  d_is_integer : Df K mg "is_integer" s_is_integer
  d_is_count : Df K mg "is_count" s_is_count
  d_is_list : Df K mg "is_list" s_is_list
  d_is_content : Df K mg "is_content" s_is_content
  d_is_lane : Df K mg "is_lane" s_is_lane
  d_want_content_of : Df K mg "want_content_of" s_want_content_of
  d_want_lane : Df K mg "want_lane" s_want_lane
  d_want_many : Df K mg "want_many" s_want_many
  d_is_gate : Df K mg "is_gate" s_is_gate
  d_want_gates : Df K mg "want_gates" s_want_gates
  d_want_few : Df K mg "want_few" s_want_few
  d_want_position : Df K mg "want_position" s_want_position
  d_want_net : Df K mg "want_net" s_want_net
  d_do_gate : Df K mg "do_gate" s_do_gate
  d_told_by : Df K mg "told_by" s_told_by
  d_lanes_of : Df K mg "lanes_of" s_lanes_of
  d_gate_turned : Df K mg "gate_turned" s_gate_turned
  d_of_lane : Df K mg "of_lane" s_of_lane
  d_layers : Df K mg "layers" s_layers
  d_by_layers : Df K mg "by_layers" s_by_layers
  d_looked_back : Df K mg "looked_back" s_looked_back
  d_cone : Df K mg "cone" s_cone
  d_looked_at : Df K mg "looked_at" s_looked_at
  d_cone_net : Df K mg "cone_net" s_cone_net
  d_are_alike : Df K mg "are_alike" s_are_alike
  d_is_shuffle : Df K mg "is_shuffle" s_is_shuffle
  d_Lpot : Df K mg "_law_pot" s_Lpot
  d_Ldraw : Df K mg "_law_draw" s_Ldraw
  d_Lpick : Df K mg "_law_pick" s_Lpick
  d_Lmixed : Df K mg "_law_mixed" s_Lmixed
  d_Lgate : Df K mg "_law_gate" s_Lgate
  d_Lgates : Df K mg "_law_gates" s_Lgates
  d_Lcontent : Df K mg "_law_content" s_Lcontent
  d_Llanes : Df K mg "_law_lanes" s_Llanes
  d_Ldo_touch : Df K mg "_law_do_touch" s_Ldo_touch
  d_Llayers : Df K mg "_law_layers" s_Llayers
  d_Llongest : Df K mg "_law_longest" s_Llongest
  d_Lcone : Df K mg "_law_cone" s_Lcone
  d_Llayers_right : Df K mg "_law_layers_right" s_Llayers_right
  d_Lcone_right : Df K mg "_law_cone_right" s_Lcone_right
  d_Lknown_right : Df K mg "_law_known_right" s_Lknown_right
  d_Lright : Df K mg "_law_right" s_Lright
  d_law : Df K mg "law" s_law
end LT


set_option Elab.async false
set_option linter.all false
set_option maxRecDepth 100000
set_option maxHeartbeats 2000000
namespace Dl
open PySem PySem.Spec PyProof.Rows L2
/-! ### a def that changes its first argument and tells a value -/
structure FnV (α : Type) where
  ps : List Str
  o0 : α → OV
  args : α → List RV
  pre : α → Prop
  o1 : α → OV
  res : α → RV
def FnV.sp {α : Type} (F : FnV α) : Sp := fun vs H Q _ => ∃ z G p o ws, Same G H ∧ vs = .ref p :: ws ∧ H p = some o ∧ G p = none ∧ (F.o0 z).r G p o ∧ PVs G (F.args z) ws ∧ F.pre z ∧
  ∀ v G' H' o', Grow (fun a => a = p) G H G' H' → H' p = some o' → G' p = none → (F.o1 z).r G' p o' → (F.res z).r G' v → Q v H'
section
variable {P : Program} {w : World} {K : PySem.W.Frag} {mg : Str → Option Value} {base : Heap}
def BodyV (P : Program) (w : World) (K : PySem.W.Frag) (mg : Str → Option Value) (base : Heap) (qual : Str) (st : Stmt) (f : Addr) (N : List Str) (k : Nat) {α : Type} (F : FnV α) : Prop :=
  ∀ (cdv : Value) (A : Around) (outer : List Env) (s : Shared) (H : Hp) (E : XK) (z : α) (p : Addr) (B : Base) (L : Hp) (D : Ends), Room k (A.deeper (envOfC qual (defScope st) s.heap.objs.size f cdv)) → F.pre z →
    (∀ v σ G' H' sl O, At B L sl σ G' H' → sl[0]? = some (.mu (tie p O)) → (∀ G a o, O.r G a o → (F.o1 z).r G a o) → (F.res z).r G' v → D.rt v H') →
    Wp (cxOf CX0 P w K mg base N qual (defScope st) f cdv A outer s H E).nox B L (defBody st) D (.mu (tie p (F.o0 z)) :: ents (N.length - 1) (F.args z))
theorem fnOk_ofV {qual x : Str} {params : Arguments} {dvs : List V} {st : Stmt} {f : Addr} {fd : FuncData} {N : List Str} {k : Nat} {α : Type} {F : FnV α} (F0 : FunD K x qual params (defBody st) (defScope st) dvs [] f fd) (S : FnScope N F.ps (defScope st)) (hl : ∀ a, (F.args a).length + 1 = F.ps.length) (hN : 0 < N.length)
    (body : BodyV P w K mg base qual st f N k F) : FnOk P w K mg base CX0 (k + 1) f fd F.ps F.sp := by
  refine FunD.ok F0 S (fun vs H Q E h => ?_) (fun cdv A outer s H vs Q E hr h => ?_)
  · obtain ⟨z, G, p, o, ws, _, rfl, _, _, _, r, _⟩ := h
    rw [List.length_cons, ← r.len, hl]
  · obtain ⟨z, G, p, o, ws, sm, rfl, hp, gp, ho, r, hpre, q⟩ := h
    refine ⟨_, PSs.nox pcanS, ?_⟩
    have ss : Sat (ents (N.length - 1) (F.args z)) (ws.map some ++ List.replicate (N.length - 1 - ws.length) none) G H := by
      have := sat_start (N := N.tail) (H := H) sm r
      unfold L2.start at this
      rw [List.length_tail] at this
      exact this
    have no : ∀ (i : Nat) O, (ents (N.length - 1) (F.args z))[i]? ≠ some (.mu O) := fun i O e => by
      unfold ents at e
      rw [List.getElem?_append] at e
      split at e
      · rw [List.getElem?_map] at e
        cases q : (F.args z)[i]? with
        | none => rw [q] at e; cases e
        | some R' => rw [q] at e; cases e
      · rw [List.getElem?_replicate] at e
        split at e <;> cases e
    have st0 : L2.start N (.ref p :: ws) = some (.ref p) :: (ws.map some ++ List.replicate (N.length - 1 - ws.length) none) := by
      unfold L2.start
      rw [List.map_cons, List.cons_append, List.length_cons, Nat.sub_add_eq, Nat.sub_right_comm]
    have sat : Sat (.mu (tie p (F.o0 z)) :: ents (N.length - 1) (F.args z)) (L2.start N (.ref p :: ws)) G H := by
      rw [st0]
      refine ⟨sm, fun i R e => ?_, fun i O e => ?_, fun i j O O' ne e1 e2 => ?_, by rw [List.length_cons, List.length_cons, ss.len]⟩
      · cases i with
        | zero => cases e
        | succ i => exact ss.val i R e
      · cases i with
        | zero => cases e; exact ⟨p, o, rfl, hp, gp, rfl, ho⟩
        | succ i => exact absurd e (no i O)
      · cases i with
        | succ i => exact absurd e1 (no i O)
        | zero => cases j with
          | zero => exact absurd rfl ne
          | succ j => exact absurd e2 (no j O')
    refine body cdv A outer s H E z p ⟨G, H, fun a => a = p⟩ G { nx := fun _ H' => Q .non H', rt := Q } hr hpre (fun v σ G' H' sl O a e ho1 rv => ?_) (L2.start N (.ref p :: ws)) G H ⟨sat, Grow.refl sm, Same.refl _, fun i O q e eq => ?_⟩
    · obtain ⟨p', o', h1, h2, h3, rfl, h4⟩ := a.sat.mu 0 _ e
      exact q v G' H' o' a.gr h2 h3 (ho1 _ _ _ h4) rv
    · cases i with
      | zero =>
        rw [st0] at eq
        cases eq
        exact .inl rfl
      | succ i => exact absurd e (no i O)
end
section
variable {X : Cx} {B : Base} {L : Hp} {sl : List Ent} {D : Ends} {pos : Pos} {rest : List Stmt} {R : RV} {Rs : List RV}
theorem w_retV {O : OV} {p : Addr} {e : Expr} {α : Type} {F : FnV α} {z : α} (hR : ∀ v σ G' H' sl O, At B L sl σ G' H' → sl[0]? = some (.mu (tie p O)) → (∀ G a o, O.r G a o → (F.o1 z).r G a o) → (F.res z).r G' v → D.rt v H') (h : Ev X e sl (F.res z)) (e0 : sl[0]? = some (.mu (tie p O))) (ho : ∀ G a o, O.r G a o → (F.o1 z).r G a o) : Wp X B L (.Return (some e) pos :: rest) D sl :=
  wp_of (ps_ret pcan) fun σ G H a => h.can a.sat fun v G' H' g r => hR v σ G' H' sl O (a.go g) e0 ho r
/-- y[j], x = e, a tuple of two -/
theorem w_unSub (i l : Nat) {y x : Str} {e b : Expr} {p1 p2 px pt : Pos} {kt} {t : Addr → Prop} {j : Nat} {R1 R2 : RV} (hc : X.calm = true) (hN : X.N.Nodup) (ei : sl[i]? = some (.mu (oT t Rs))) (h : Ev X e sl (rTup X.K [R1, R2])) (hj : Ev X b sl (iI (j : Int))) (hlt : j < Rs.length) (k : Wp X B L rest D ((sl.set i (.mu (oT t (Rs.set j R1)))).set l (.val R2)))
    (hy : X.N[i]? = some y := by rfl) (hl : X.N[l]? = some x := by rfl) (hx : X.env.scope.names.lookup x = some .local := by rfl)
    (hg : PG X (.Subscript (.Name y p1) b p2) (gSub (tVar i) (can X b) rSetL) := by exact pg_sub (pv _) pcan set_list) (hs : swapsWithSole [.Tuple [.Subscript (.Name y p1) b p2, .Name x px] kt pt] e pos.line X.env = pure false := by rfl) (hw : swappedStores [.Tuple [.Subscript (.Name y p1) b p2, .Name x px] kt pt] e X.env = pure none := by rfl)
    (h1 : (assignEach [.Tuple [.Subscript (.Name y p1) b p2, .Name x px] kt pt] X.env).map (·.2) = [assign (.Tuple [.Subscript (.Name y p1) b p2, .Name x px] kt pt) X.env] := by rfl)
    (h2 : (assignEach [Expr.Subscript (.Name y p1) b p2, Expr.Name x px] X.env).map (·.2) = assign (.Subscript (.Name y p1) b p2) X.env :: (assignEach [Expr.Name x px] X.env).map (·.2) := by rfl)
    (h3 : (assignEach [Expr.Subscript (.Name y p1) b p2, Expr.Name x px] X.env).length = 2 := by rfl) (h4 : (assignEach [Expr.Subscript (.Name y p1) b p2, Expr.Name x px] X.env).findIdx? (·.1) = none := by rfl) :
    Wp X B L (.Assign [.Tuple [.Subscript (.Name y p1) b p2, .Name x px] kt pt] e pos :: rest) D sl :=
  wp_of (ps_asg pcan (pg_tup hc (pgs_cons hg (pgs_cons (pg_name (i := l) hN hl (.inl hx) (.inr hx)) pgs_nil) h2) h3 h4) hs hw h1) fun σ G H a => h.can a.sat fun v G1 H1 g1 ⟨tp, vs, e1, q1, r1⟩ => by
    obtain ⟨u1, u2, rfl, k1, k2⟩ := pv2 r1
    refine ⟨tp, _, e1, Same.tup g1.s q1, rfl, u1, _, rfl, ?_⟩
    obtain ⟨pl, ws, m1, m2, m3, m4⟩ := (a.sat.gr g1).own i Rs ei
    refine ⟨.ref pl, m1, hj.can (a.sat.gr g1) fun u G2 H2 g2 ⟨m, e2, ej⟩ => ?_⟩
    subst ej
    have hlw : j < ws.length := by rw [← m4.len]; exact hlt
    refine ⟨pl, ws, (j : Int), j, rfl, e2, g2.hs _ _ m2, ?_, u2, _, rfl, rfl, ?_⟩
    · unfold ixN
      rw [if_pos (by omega), if_pos (by omega)]
      simp
    · exact k _ G2 _ ((((a.go g1).go g2).change ei m1 ((m4.mono g2.g).set (R1.m g2.g k1) j)).set l (R2.m g2.g k2))
end

section
variable {X : Cx} {sl : List Ent} {a b : Expr} {p pos : Pos} {A B C C' : Int → Prop}
theorem e_divmodP (h : Ev X a sl (rInt A)) (h' : Ev X b sl (rInt B)) (hm : X.mg "divmod" = none) (hd : ∀ x y, A x → B y → CDiv x y ∧ C (x / y) ∧ C' (x % y)) (hg : Gl X "divmod" := by rfl) (he : starEach [a, b] X.env = (false, eval a X.env) :: starEach [b] X.env := by rfl) (he' : starEach [b] X.env = [(false, eval b X.env)] := by rfl) : Ev X (.Call (.Name "divmod" p) [a, b] [] pos) sl (rTup X.K [rInt C, rInt C']) :=
  e_cb (rs := .v _) call_divmod hm (by decide +kernel) (a2 h h' he he') (fun vs G H Q s r q => by
    obtain ⟨v, v', rfl, ⟨i, rfl, hi⟩, ⟨j, rfl, hj⟩⟩ := pv2 r
    obtain ⟨h1, h2, h3⟩ := hd i j hi hj
    exact ⟨_, _, rfl, h1, fun l hl => q _ _ _ (Gr.new s hl) ⟨l, _, rfl, SqT.of upd_same, .cons ⟨_, rfl, h2⟩ (.cons ⟨_, rfl, h3⟩ .nil)⟩⟩) hg (by decide) (by decide) he (by rw [he']; rfl)
end
section
variable {X : Cx} {sl : List Ent} {e : Expr}
theorem PVs.opens {α β : Type} {P : α → β → Prop} {d : α → RV} {R : β → RV} {G : Hp} : ∀ {xs : List α} {vs : List V}, (∀ x ∈ xs, (d x).le (rX (P x) R)) → PVs G (xs.map d) vs → ∃ ys, Paired P xs ys ∧ PVs G (ys.map R) vs
  | [], _, _, .nil => ⟨[], .nil, .nil⟩
  | x :: xs, _, h, .cons r t => by
    obtain ⟨y, p, r'⟩ := h x (List.mem_cons_self ..) _ _ r
    obtain ⟨ys, h1, h2⟩ := PVs.opens (fun z hz => h z (List.mem_cons_of_mem _ hz)) t
    exact ⟨y :: ys, .cons p h1, .cons r' h2⟩
/-- a new list, told place by place -/
theorem EvR.opens {α β : Type} {P : α → β → Prop} {d : α → RV} {R : β → RV} {xs : List α} (h : EvR X e sl (.l (xs.map d))) (hd : ∀ x ∈ xs, (d x).le (rX (P x) R)) : EvR X e sl (.x (fun ys => Paired P xs ys) fun ys => .l (ys.map R)) :=
  fun pins s σ G H Q I a k => h pins s σ G H Q I a fun p vs G' H' g n1 n2 e r => by
    obtain ⟨ys, h1, h2⟩ := PVs.opens hd r
    exact k ys h1 p vs G' H' g n1 n2 e h2
theorem EvR.ximp {α : Type} {P P' : α → Prop} {f : α → Res} (h : EvR X e sl (.x P f)) (l : ∀ x, P x → P' x) : EvR X e sl (.x P' f) := fun pins s σ G H Q I a k => h pins s σ G H Q I a fun x p => k x (l x p)
/-- a def's value, one of several -/
theorem EvR.ofI {P : Int → Prop} (h : Ev X e sl (rInt P)) : Ev X e sl (rX P iI) := h.imp le_xi
end
/-! ### the pot: a list of two ints, whatever they are -/
def PotI (p : Addr) : Heap → Prop := fun h => ∃ x y t u n, h.get? p = some { cls := .type "list", data := .seq #[.int x t, .int y u] n } ∧ 0 ≤ x ∧ 0 ≤ y ∧ y < 4294967296
def iPot : RV := ⟨fun G v => ∃ p, v = .ref p ∧ G p = some (.ext (PotI p)), fun s ⟨p, e, h⟩ => ⟨p, e, s _ _ h⟩⟩
def potRs : List RV := [rInt fun x => 0 ≤ x, rInt fun y => 0 ≤ y ∧ y < 4294967296]
section
variable {P : Program} {w : World} {K : PySem.W.Frag} {mg : Str → Option Value} {base : Heap}
theorem pot_out {H : Hp} {h : Heap} {p : Addr} (ok : HOk P w H h) (hp : H p = some (.ext (PotI p))) : ∃ x y, 0 ≤ x ∧ 0 ≤ y ∧ y < 4294967296 ∧ HOk P w (upd H p (.lst [.int x, .int y])) h := by
  obtain ⟨⟨x, y, t, u, n, e, h1, h2, h3⟩, _, _⟩ := ok p _ hp
  refine ⟨x, y, h1, h2, h3, fun b o eb => ?_⟩
  by_cases q : b = p
  · subst q
    rw [upd_same] at eb
    cases eb
    exact ⟨by show 2 ≤ sizeLine; decide, [.int x t, .int y u], n, .cons ⟨t, rfl⟩ (.cons ⟨u, rfl⟩ .nil), e⟩
  · rw [upd_ne q] at eb
    refine (ok b o eb).stay (fun _ _ _ z => z) (fun c z => ?_) fun c xs z => ?_
    · rw [upd_ne (fun w => by rw [w, hp] at z; cases z)]; exact z
    · rw [upd_ne (fun w => by rw [w, hp] at z; cases z)]; exact z
theorem pot_in {H : Hp} {h : Heap} {p : Addr} {x y : Int} (ok : HOk P w H h) (hp : H p = some (.lst [.int x, .int y])) (h1 : 0 ≤ x) (h2 : 0 ≤ y) (h3 : y < 4294967296) : HOk P w (upd H p (.ext (PotI p))) h := by
  obtain ⟨_, its, n, r, e⟩ := ok p _ hp
  cases r with
  | cons a r => cases r with
    | cons b r =>
      cases r
      obtain ⟨t, rfl⟩ := a
      obtain ⟨u, rfl⟩ := b
      intro b o eb
      by_cases q : b = p
      · subst q
        rw [upd_same] at eb
        cases eb
        refine ⟨⟨x, y, t, u, n, e, h1, h2, h3⟩, ⟨_, e⟩, fun ha hb ⟨x, y, t, u, n, e, q⟩ k => ⟨x, y, t, u, n, k _ e, q⟩⟩
      · rw [upd_ne q] at eb
        refine (ok b o eb).stay (fun _ _ _ z => z) (fun c z => ?_) fun c xs z => ?_
        · rw [upd_ne (fun w => by rw [w, hp] at z; cases z)]; exact z
        · rw [upd_ne (fun w => by rw [w, hp] at z; cases z)]; exact z
/-- draw(pot, size), over the list itself; over the pot -/
def draw1 (ps : List Str) : FnV Int := ⟨ps, fun _ => oL potRs, fun m => [iI m], fun m => 0 < m ∧ m < 1073741824, fun _ => oL potRs, fun m => rInt fun d => 0 ≤ d ∧ d < m⟩
def F_draw (ps : List Str) : Fn Int := ⟨ps, fun m => [iPot, iI m], fun m => 0 < m ∧ m < 1073741824, fun m => .v (rInt fun d => 0 ≤ d ∧ d < m)⟩
def del (G : Hp) (p : Addr) : Hp := fun a => if a = p then none else G a
theorem del_at {G : Hp} {p : Addr} : del G p p = none := if_pos rfl
theorem del_ne {G : Hp} {p a : Addr} (h : a ≠ p) : del G p a = G a := if_neg h
theorem fnOk_draw {k : Nat} {f : Addr} {fd : FuncData} {ps : List Str} (hl : ps.length = 2) (ok : FnOk P w K mg base CX0 k f fd ps (draw1 ps).sp) : FnOk P w K mg base CX0 k f fd ps (F_draw ps).sp := by
  refine ⟨fun vs H Q E h => ?_, fun A outer s H args us vs Q E hr e0 hb hv h => ?_⟩
  · obtain ⟨z, G, sm, r, hp, q⟩ := h
    rw [← r.len, hl]
    rfl
  · obtain ⟨m, G, sm, r, hp, q⟩ := h
    obtain ⟨v1, v2, rfl, ⟨p, rfl, hG⟩, ⟨m', rfl, rfl⟩⟩ := pv2 r
    have hH := sm _ _ hG
    obtain ⟨x, y, h1, h2, h3, hok⟩ := pot_out e0.hok hH
    have hsome : ∀ b, H b = none → b ≠ p := fun b e z => by rw [z, hH] at e; cases e
    have e1 : Env0 P w K mg base A outer s (upd H p (.lst [.int x, .int y])) := ⟨e0.frames, e0.mod, fun b o e => ⟨(e0.bs b o e).1, by rw [upd_ne (hsome b (e0.bs b o e).2)]; exact (e0.bs b o e).2⟩, e0.bsz, e0.funs, fun b hb => by rw [upd_ne (hsome b (e0.frf b hb))]; exact e0.frf b hb, hok, e0.bare⟩
    have sd : Same (del G p) (upd H p (.lst [.int x, .int y])) := fun a o e => by
      by_cases qa : a = p
      · rw [qa, del_at] at e; cases e
      · rw [del_ne qa] at e
        rw [upd_ne qa]
        exact sm _ _ e
    refine codeAny_mono (ok.run A outer s (upd H p (.lst [.int x, .int y])) args us _ (fun v H' => Q v (upd H' p (.ext (PotI p))) ∧ ∃ x y, H' p = some (.lst [.int x, .int y]) ∧ 0 ≤ x ∧ 0 ≤ y ∧ y < 4294967296) (fun _ _ _ => False) hr e1 hb hv ⟨m', del G p, p, _, [.int m'], sd, rfl, upd_same, del_at, ⟨trivial, _, rfl, .cons ⟨x, rfl, h1⟩ (.cons ⟨y, rfl, h2, h3⟩ .nil)⟩, .cons ⟨m', rfl, rfl⟩ .nil, hp, fun v G' H' o' g hp' gp' ho' rv => ?_⟩) fun r s' hq => ?_
    · obtain ⟨_, ws, rfl, hw⟩ := ho'
      obtain ⟨a1, a2, rfl, ⟨x', rfl, hx'⟩, ⟨y', rfl, hy', hy2⟩⟩ := pv2 hw
      refine ⟨?_, x', y', hp', hx', hy', hy2⟩
      refine q v (upd G' p (.ext (PotI p))) _ ⟨fun a o e => ?_, fun a o _ e => ?_, fun a e => ?_, fun a o e => ?_, fun a e => ?_⟩ rv
      · by_cases qa : a = p
        · subst qa; rw [upd_same, ← e, hG]
        · rw [upd_ne qa]; exact g.g a o (by rw [del_ne qa]; exact e)
      · by_cases qa : a = p
        · subst qa; rw [upd_same, ← e, hH]
        · rw [upd_ne qa]; exact g.h a o qa (by rw [upd_ne qa]; exact e)
      · by_cases qa : a = p
        · subst qa; rw [upd_same]; exact fun z => nomatch z
        · rw [upd_ne qa]; exact g.t a (by rw [upd_ne qa]; exact e)
      · by_cases qa : a = p
        · subst qa; rw [upd_same] at e ⊢; exact e
        · rw [upd_ne qa] at e ⊢; exact g.s a o e
      · by_cases qa : a = p
        · subst qa; rw [upd_same, hG]
        · rw [upd_ne qa, g.n a (by rw [upd_ne qa]; exact e), del_ne qa]
    · cases r with
      | error e => exact hq
      | ok fl =>
        cases fl with
        | ret u =>
          obtain ⟨v, H', os, bare, un, hok', rv, qq⟩ := hq
          obtain ⟨qq, x', y', hp', hx', hy', hy2⟩ := qq
          refine ⟨v, upd H' p (.ext (PotI p)), os, bare, ⟨fun b o e n hb hx => un.keep b o e (by rw [upd_ne (hsome b n)]; exact n) hb hx, fun b o e n hb hx => un.slot b o e (by rw [upd_ne (hsome b n)]; exact n) hb hx, fun b o e n hx => ?_, un.there, fun b xs e => ?_, fun b o u e => ?_, fun b ps e => ?_⟩, pot_in hok' hp' hx' hy' hy2, rv, qq⟩
          · rw [upd_ne (hsome b n)]
            exact un.free b o e (by rw [upd_ne (hsome b n)]; exact n) hx
          · have qb : b ≠ p := fun z => by rw [z, hH] at e; cases e
            rw [upd_ne qb]
            exact un.tups b xs (by rw [upd_ne qb]; exact e)
          · have qb : b ≠ p := fun z => by rw [z, hH] at e; cases e
            rw [upd_ne qb]
            exact un.frzs b o u (by rw [upd_ne qb]; exact e)
          · have qb : b ≠ p := fun z => by rw [z, hH] at e; cases e
            rw [upd_ne qb]
            exact un.tbls b ps (by rw [upd_ne qb]; exact e)
        | next => exact hq
        | brk => exact hq
        | cont => exact hq
/-- a def that makes such a list makes a pot -/
theorem fnOk_mkpot {k : Nat} {f : Addr} {fd : FuncData} {α : Type} {ps : List Str} {args : α → List RV} {pre : α → Prop} (ok : FnOk P w K mg base CX0 k f fd ps (Fn.sp ⟨ps, args, pre, fun _ => .l potRs⟩)) : FnOk P w K mg base CX0 k f fd ps (Fn.sp ⟨ps, args, pre, fun _ => .v iPot⟩) := by
  refine ⟨fun vs H Q E h => ?_, fun A outer s H us' us vs Q E hr e0 hb hv h => ?_⟩
  · obtain ⟨z, G, sm, r, hp, q⟩ := h
    exact ok.len vs H (fun _ _ => True) E ⟨z, G, sm, r, hp, fun _ _ _ _ _ _ _ _ _ => trivial⟩
  · obtain ⟨m, G, sm, r, hp, q⟩ := h
    refine codeAny_mono (ok.run A outer s H us' us vs (fun v H' => ∃ p x y, H' p = some (.lst [.int x, .int y]) ∧ 0 ≤ x ∧ 0 ≤ y ∧ y < 4294967296 ∧ Q v (upd H' p (.ext (PotI p)))) (fun _ _ _ => False) hr e0 hb hv ⟨m, G, sm, r, hp, fun p ws G' H' g n1 n2 e hw => ?_⟩) fun r s' hq => ?_
    · obtain ⟨a1, a2, rfl, ⟨x', rfl, hx'⟩, ⟨y', rfl, hy', hy2⟩⟩ := pv2 hw
      refine ⟨p, x', y', e, hx', hy', hy2, ?_⟩
      refine q (.ref p) (upd G' p (.ext (PotI p))) _ ⟨g.g.trans (same_new n2), fun a o _ ea => ?_, fun a ea => ?_, fun a o ea => ?_, fun a ea => ?_⟩ ⟨p, rfl, upd_same⟩
      · rw [upd_ne (ne_of_none ea n1)]; exact g.h a o (fun z => z) ea
      · by_cases qa : a = p
        · subst qa; rw [upd_same]; exact fun z => nomatch z
        · rw [upd_ne qa]; exact g.t a ea
      · by_cases qa : a = p
        · subst qa; rw [upd_same] at ea ⊢; exact ea
        · rw [upd_ne qa] at ea ⊢; exact g.s a o ea
      · rw [upd_ne (fun z => ea (by rw [z]; exact n1))]; exact g.n a ea
    · cases r with
      | error e => exact hq
      | ok fl =>
        cases fl with
        | ret u =>
          obtain ⟨v, H', os, bare, un, hok', rv, p, x', y', hp', hx', hy', hy2, qq⟩ := hq
          have ne : ∀ b, H' b = none → b ≠ p := fun b e z => by rw [z, hp'] at e; cases e
          refine ⟨v, upd H' p (.ext (PotI p)), os, bare, ⟨un.keep, un.slot, fun b o e n hx => ?_, un.there, fun b xs e => ?_, fun b o u e => ?_, fun b ps e => ?_⟩, pot_in hok' hp' hx' hy' hy2, rv, qq⟩
          · have := un.free b o e n hx
            rw [upd_ne (ne b this)]
            exact this
          · have := un.tups b xs e
            rw [upd_ne (fun z => by rw [z, hp'] at this; cases this)]
            exact this
          · have := un.frzs b o u e
            rw [upd_ne (fun z => by rw [z, hp'] at this; cases this)]
            exact this
          · obtain ⟨more, this⟩ := un.tbls b ps e
            refine ⟨more, ?_⟩
            rw [upd_ne (fun z => by rw [z, hp'] at this; cases this)]
            exact this
        | next => exact hq
        | brk => exact hq
        | cont => exact hq
end
end Dl


set_option Elab.async false
set_option linter.all false
set_option maxRecDepth 100000
set_option maxHeartbeats 2000000
namespace Dl
open PySem PySem.Spec PyProof.Rows L2
/-! ### a comprehension over so many turns, their number one of several -/
def SrcX {β : Type} (wi : TI) (g : TG) (sl : List Ent) (Pb : β → Prop) (n : β → Nat) (js : List Nat) (Rs : β → Nat → List RV) : Prop :=
  ∀ σ G H R, Sat sl σ G H → (∀ b J G1 H1, Pb b → Gr G H G1 H1 → Goes J g G1 (n b) js (Rs b) → R J H1) → wi σ H R
section
variable {X : Cx} {B : Base} {L : Hp} {sl : List Ent} {D : Ends} {pos : Pos} {rest : List Stmt} {β : Type} {Pb : β → Prop} {n : β → Nat} {js : List Nat} {Rs : β → Nat → List RV} {wi : TI} {g : TG} {tg iter : Expr}
/-- the element, at each turn -/
def teC (X : Cx) (scope : Scope) (elt : Expr) : TE := fun σ H Q => ∀ (s : Shared) (H0 : Hp) (C : Addr) (cl : List (Str × Addr)) (fp : List Addr), can (X.blk s H0 scope (compEnvC scope cl C X.env) fp) elt σ H Q
theorem pteC {elt : Expr} {scope : Scope} (s : Shared) (H : Hp) (C : Addr) (cl : List (Str × Addr)) (fp : List Addr) : PE (X.blk s H scope (compEnvC scope cl C X.env) fp) elt (teC X scope elt) := ⟨fun pins s' σ' H' Q I h => h s H C cl fp pins s' I⟩
theorem lc_semX {elt : Expr} {scope : Scope} {own : List (Str × Nat)} (hs : SrcX wi g sl Pb n js Rs) (hj : ∀ j ∈ js, j ∈ own.map (·.2)) (hn : ∀ b, Pb b → n b ≤ 90000) (d : β → Nat → RV)
    (he : ∀ b i, Pb b → i < n b → ∀ (s : Shared) (H : Hp) (C : Addr) (cl : List (Str × Addr)) (fp : List Addr), Ev (X.blk s H scope (compEnvC scope cl C X.env) fp) elt (setE (wipeE sl (own.map (·.2))) js (Rs b i)) (d b i)) :
    ∀ σ G H Q, Sat sl σ G H → Post G H Q (.x Pb fun b => .l ((List.range (n b)).map (d b))) → tLc wi g tYes (teC X scope elt) (own.map (·.2)) σ H Q :=
  fun σ G H Q a q => hs σ G H _ a fun bb It G1 H1 pb g1 gs D hD => by
    refine ⟨fun i m H' => m = n bb - i ∧ i ≤ n bb ∧ ∃ G' vs, Gr G1 H1 G' (upd H' D (.lst vs)) ∧ G' D = none ∧ H' D = some (.lst vs) ∧ PVs G' ((List.range i).map (d bb)) vs, ⟨n bb, by simp, Nat.zero_le _, G1, [], ?_, g1.s.free hD, upd_same, .nil⟩, ?_⟩
    · rw [upd_upd]; exact Gr.newOut g1.s hD
    · rintro i m H' ⟨rfl, hin, G', vs, g2, h1, h2, h3⟩
      have eH : upd H' D (.lst vs) = H' := by
        funext b
        by_cases e : b = D
        · subst e; rw [upd_same, h2]
        · rw [upd_ne e]
      rw [eH] at g2
      by_cases hlt : i < n bb
      · refine .inr ⟨gs.go i G' H' hlt g2.g g2.s, fun H'' => ∃ G' vs, Gr G1 H1 G' (upd H'' D (.lst vs)) ∧ G' D = none ∧ H'' D = some (.lst vs) ∧ PVs G' ((List.range (i + 1)).map (d bb)) vs, fun H'' hh => ⟨n bb - (i + 1), by omega, rfl, hlt, hh⟩, fun x H'' y => ?_⟩
        refine gs.yld i _ G' H' x H'' _ hlt g2.g g2.s y fun ws G2 H2 g3 r => ⟨wipe_setS hj, ?_⟩
        unfold tYes; dsimp only
        rw [if_pos rfl]
        intro s H0 C cl fp
        have sa : Sat (setE (wipeE sl (own.map (·.2))) js (Rs bb i)) (setS (wipe σ (own.map (·.2))) js ws) G2 H2 := Sat.setS (((a.wipe _).gr g1).gr (g2.trans g3)) r
        refine (he bb i pb hlt s H0 C cl fp).can sa fun v G3 H3 g4 rv => ?_
        have hD3 : H3 D = some (.lst vs) := g4.hs _ _ (g3.hs _ _ h2)
        have gD3 : G3 D = none := (g3.trans g4).out h2 h1
        have lv : vs.length = i := by have := h3.len; rw [List.length_map, List.length_range] at this; exact this.symm
        have nb := hn bb pb
        refine ⟨vs, hD3, Nat.lt_of_le_of_lt (by omega : vs.length ≤ 90000) (by decide), G3, vs ++ [v], ?_, gD3, upd_same, ?_⟩
        · rw [upd_upd]
          have gt : Gr G1 H1 G3 H3 := (g2.trans g3).trans g4
          refine ⟨gt.g, fun b o m e => ?_, fun b e => ?_, fun b o e => ?_, gt.n⟩
          · rw [upd_ne (ne_of_none e hD)]; exact gt.h b o m e
          · by_cases eb : b = D
            · rw [eb, upd_same]; exact fun z => nomatch z
            · rw [upd_ne eb]; exact gt.t b e
          · rw [upd_ne (fun z => by rw [z, gD3] at e; cases e)]; exact gt.s b o e
        · rw [List.range_succ, List.map_append]
          exact (h3.mono (g3.g.trans g4.g)).app (.cons rv .nil)
      · have e : i = n bb := by omega
        subst e
        exact .inl ⟨gs.stop G' H' g2.g g2.s, q bb pb D vs G' H' (g1.trans g2) (g1.hs.free hD) h1 h2 h3⟩
theorem e_lcX {elt : Expr} {scope : Scope} {own : List (Str × Nat)} (hc : X.calm = true) (hN : X.N.Nodup) (hi : PI X tg iter wi) (ok : BlkOk X.N X.env.scope scope own)
    (hg : ∀ (s : Shared) (H : Hp) (C : Addr) (cl : List (Str × Addr)) (fp : List Addr), PG (X.blk s H scope (compEnvC scope cl C X.env) fp) tg g) (hs : SrcX wi g sl Pb n js Rs) (hj : ∀ j ∈ js, j ∈ own.map (·.2)) (hn : ∀ b, Pb b → n b ≤ 90000) (d : β → Nat → RV)
    (he : ∀ b i, Pb b → i < n b → ∀ (s : Shared) (H : Hp) (C : Addr) (cl : List (Str × Addr)) (fp : List Addr), Ev (X.blk s H scope (compEnvC scope cl C X.env) fp) elt (setE (wipeE sl (own.map (·.2))) js (Rs b i)) (d b i))
    (hf : ∀ x, foldedSetIterable iter X.env x = pure x := by intro _; rfl) : EvR X (.ListComp elt [⟨tg, iter, [], 0⟩] scope pos) sl (.x Pb fun b => .l ((List.range (n b)).map (d b))) :=
  evR_of (pe_lc hc hN hi ok hg (fun _ _ _ _ _ => pts_nil) pteC hf) (lc_semX hs hj hn d he)
/-- name = [..] on one line -/
theorem w_setLcX (i : Nat) {y : Str} {py spos : Pos} {elt : Expr} {scope : Scope} {own : List (Str × Nat)} (hc : X.calm = true) (hN : X.N.Nodup) (hi : PI X tg iter wi) (ok : BlkOk X.N X.env.scope scope own)
    (hg : ∀ (s : Shared) (H : Hp) (C : Addr) (cl : List (Str × Addr)) (fp : List Addr), PG (X.blk s H scope (compEnvC scope cl C X.env) fp) tg g) (hs : SrcX wi g sl Pb n js Rs) (hj : ∀ j ∈ js, j ∈ own.map (·.2)) (hn : ∀ b, Pb b → n b ≤ 90000) (d : β → Nat → RV)
    (he : ∀ b i, Pb b → i < n b → ∀ (s : Shared) (H : Hp) (C : Addr) (cl : List (Str × Addr)) (fp : List Addr), Ev (X.blk s H scope (compEnvC scope cl C X.env) fp) elt (setE (wipeE sl (own.map (·.2))) js (Rs b i)) (d b i))
    (k : ∀ b, Pb b → Wp X B L rest D (sl.set i (.own ((List.range (n b)).map (d b))))) (hy : X.N[i]? = some y) (hyl : X.env.scope.names.lookup y = some .local) (hsw : swapsWith (.ListComp elt [⟨tg, iter, [], 0⟩] scope pos) (some (.Name y py)) spos.line X.env = pure true)
    (hf : ∀ x, foldedSetIterable iter X.env x = pure x := by intro _; rfl) : Wp X B L (.Assign [.Name y py] (.ListComp elt [⟨tg, iter, [], 0⟩] scope pos) spos :: rest) D sl :=
  wp_of (ps_setLc hc hN hy hyl hsw hi ok hg (fun _ _ _ _ _ => pts_nil) pteC hf) fun σ G H a => lc_semX hs hj hn d he σ G H _ a.sat fun b pb p vs G' H' g' n1 n2 e r => k b pb _ G' H' (a.setOwn g' i n1 n2 e r)
theorem Src.x {n : Nat} {Rs : Nat → List RV} (h : Src wi g sl n js Rs) : SrcX wi g sl (fun _ : Unit => True) (fun _ => n) js (fun _ => Rs) := fun σ G H R a k => h σ G H R a fun J G1 H1 g1 gs => k () J G1 H1 trivial g1 gs
/-- name = [e for y in xs] -/
theorem w_setCompL {α : Type} [Inhabited α] {elt it : Expr} {x y : Str} {px py spos : Pos} {scope : Scope} {xs : List α} {c : α → RV} (i j : Nat) (d : α → RV) (hN : X.N.Nodup) (src : Ev X it sl (rLst X.K (xs.map c))) (hn : xs.length ≤ 90000)
    (el : ∀ x ∈ xs, ∀ s H C cl fp, Ev (blkX X scope s H C cl fp) elt (setE (wipeE sl [j]) [j] [c x]) (d x)) (k : Wp X B L rest D (sl.set i (.own (xs.map d)))) (hc : X.calm = true := by rfl) (hj : X.N[j]? = some y := by rfl) (hl : (relabel scope X.env).names.lookup y = some .local := by rfl) (hb : blkC X.N X.env.scope scope [(y, j)] = true := by kernel_rfl)
    (hx : X.N[i]? = some x := by rfl) (hxl : X.env.scope.names.lookup x = some .local := by rfl) (hsw : swapsWith (.ListComp elt [⟨.Name y py, it, [], 0⟩] scope pos) (some (.Name x px)) spos.line X.env = pure true := by exact sw_true rfl rfl (by decide) (by decide +kernel))
    (hf : ∀ x, foldedSetIterable it X.env x = pure x := by intro _; rfl) : Wp X B L (.Assign [.Name x px] (.ListComp elt [⟨.Name y py, it, [], 0⟩] scope pos) spos :: rest) D sl := by
  refine w_setLcX (own := [(y, j)]) (g := gName j) i hc hN (pi_list pcan) (blkOk_by hb) (fun s H C cl fp => pg_name hN hj (.inl hl) (.inr hl)) (src_L src).x (by simp) (fun _ _ => hn) (fun _ i => d (xs.getD i default)) (fun _ i _ hi s H C cl fp => el _ (getD_mem hi) s H C cl fp) (fun _ _ => ?_) hx hxl hsw hf
  rw [map_getD d xs]
  exact k
theorem src_rangeX {a : Expr} {Pm : Int → Prop} {j : Nat} (h : Ev X a sl (rInt Pm)) (h1 : ∀ m, Pm m → m < 2 ^ 62 ∧ -(2 ^ 62) ≤ m) (he : starEach [a] X.env = [(false, eval a X.env)] := by rfl) : SrcX (iRng1 (canA X [a])) (gName j) sl Pm (fun m => m.toNat) [j] (fun _ i => [iI (i : Int)]) := fun σ G H R z k => (a1 h he).can z fun vs G1 H1 g1 r => by
  obtain ⟨v, rfl, m, rfl, pm⟩ := pv1 r
  obtain ⟨b1, b2⟩ := h1 m pm
  refine ⟨_, rfl, b2, b1, k m _ G1 H1 pm g1 ⟨fun i G2 H2 hi s1 s2 => hi, fun G2 H2 s1 s2 => Nat.le_refl _, fun i σ G2 H2 x H' K hi s1 s2 y kk => ?_⟩⟩
  obtain ⟨rfl, rfl⟩ := y
  exact kk _ G2 H' (.refl s2) (.cons ⟨_, rfl, by simp⟩ .nil)
variable {elt : Expr} {y : Str} {py : Pos} {scope : Scope}
theorem e_compRX (j : Nat) (d : Int → Nat → RV) {a : Expr} {Pm : Int → Prop} {p1 p2 : Pos} (hN : X.N.Nodup) (src : Ev X a sl (rInt Pm)) (hn : ∀ m, Pm m → 0 ≤ m ∧ m ≤ 90000) (hm : X.mg "range" = none)
    (el : ∀ (m : Int) (i : Nat), Pm m → (i : Int) < m → ∀ s H C cl fp, Ev (blkX X scope s H C cl fp) elt (setE (wipeE sl [j]) [j] [iI (i : Int)]) (d m i)) (hc : X.calm = true := by rfl) (hg : Gl X "range" := by rfl) (he : starEach [a] X.env = [(false, eval a X.env)] := by rfl) (hj : X.N[j]? = some y := by rfl) (hl : (relabel scope X.env).names.lookup y = some .local := by rfl) (hb : blkC X.N X.env.scope scope [(y, j)] = true := by kernel_rfl)
    (hf : ∀ x, foldedSetIterable (.Call (.Name "range" p1) [a] [] p2) X.env x = pure x := by intro _; rfl) : EvR X (.ListComp elt [⟨.Name y py, .Call (.Name "range" p1) [a] [] p2, [], 0⟩] scope pos) sl (.x Pm fun m => .l ((List.range m.toNat).map (d m))) :=
  e_lcX (own := [(y, j)]) (pos := pos) (g := gName j) hc hN (pi_range1 hg hm pcanA he) (blkOk_by hb) (fun s H C cl fp => pg_name hN hj (.inl hl) (.inr hl)) (src_rangeX src (fun m pm => by have := hn m pm; omega) he) (by simp) (fun m pm => by have := hn m pm; omega) d (fun m i pm hi s H C cl fp => el m i pm (by omega) s H C cl fp) hf (elt := elt)
/-- each item one of several: the list is one of several -/
theorem EvR.opensX {α γ δ : Type} {Pa : α → Prop} {xs : α → List γ} {P : α → γ → δ → Prop} {d : α → γ → RV} {R : δ → RV} {e : Expr} (h : EvR X e sl (.x Pa fun a => .l ((xs a).map (d a)))) (hd : ∀ a, Pa a → ∀ x ∈ xs a, (d a x).le (rX (P a x) R)) : EvR X e sl (.x (fun ys => ∃ a, Pa a ∧ Paired (P a) (xs a) ys) fun ys => .l (ys.map R)) :=
  fun pins s σ G H Q I z k => h pins s σ G H Q I z fun a pa p vs G' H' g n1 n2 e r => by
    obtain ⟨ys, h1, h2⟩ := PVs.opens (hd a pa) r
    exact k ys ⟨a, pa, h1⟩ p vs G' H' g n1 n2 e h2
end
/-! ### dicts of one's own, their keys ints -/
abbrev PKs (G : Hp) (ks : List (Int × RV)) (kvs : List (Key × V)) : Prop := Paired (fun (p : Int × RV) (q : Key × V) => q.1 = Sum.inl p.1 ∧ p.2.r G q.2) ks kvs
theorem PKs.mono {G G' : Hp} {ks : List (Int × RV)} {kvs : List (Key × V)} (s : Same G G') (h : PKs G ks kvs) : PKs G' ks kvs := Paired.imp (fun p q z => ⟨z.1, p.2.m s z.2⟩) h
def oD (ks : List (Int × RV)) : OV := ⟨fun G _ o => ∃ kvs, o = .dK kvs ∧ PKs G ks kvs, fun s ⟨kvs, e, h⟩ => ⟨kvs, e, h.mono s⟩⟩
/-- a dict as a value -/
def rDct (ks : List (Int × RV)) : RV := ⟨fun G v => ∃ a kvs, v = .ref a ∧ G a = some (.dK kvs) ∧ PKs G ks kvs, fun s ⟨a, kvs, e, h1, h2⟩ => ⟨a, kvs, e, s _ _ h1, h2.mono s⟩⟩
def getK (ks : List (Int × RV)) (k : Int) : Option RV := (ks.find? fun p => decide (p.1 = k)).map (·.2)
theorem PKs.get {G : Hp} : ∀ {ks : List (Int × RV)} {kvs : List (Key × V)} {k : Int} {R : RV}, PKs G ks kvs → getK ks k = some R → ∃ v, valV kvs (Sum.inl k) = some v ∧ R.r G v
  | _, _, _, _, .nil, e => by simp [getK] at e
  | (k0, R0) :: ks, (k1, v1) :: kvs, k, R, .cons ⟨h1, h2⟩ t, e => by
    replace h1 : k1 = Sum.inl k0 := h1
    subst h1
    by_cases c : k0 = k
    · subst c
      have e2 : R0 = R := by simpa [getK, List.find?_cons] using e
      subst e2
      exact ⟨v1, valV_pos rfl, h2⟩
    · have e2 : getK ks k = some R := by simpa [getK, List.find?_cons, c] using e
      obtain ⟨v, g1, g2⟩ := PKs.get t e2
      exact ⟨v, by rw [valV_neg (fun z => c (Sum.inl.inj z))]; exact g1, g2⟩
theorem PKs.miss {G : Hp} : ∀ {ks : List (Int × RV)} {kvs : List (Key × V)} {k : Int}, PKs G ks kvs → (∀ p ∈ ks, p.1 ≠ k) → valV kvs (Sum.inl k) = none
  | _, _, _, .nil, _ => rfl
  | (k0, R0) :: ks, (k1, v1) :: kvs, k, .cons ⟨h1, h2⟩ t, n => by
    replace h1 : k1 = Sum.inl k0 := h1
    subst h1
    rw [valV_neg (fun z => n (k0, R0) (List.mem_cons_self ..) (Sum.inl.inj z))]
    exact PKs.miss t fun p hp => n p (List.mem_cons_of_mem _ hp)
theorem PKs.snoc {G : Hp} {k : Int} {R : RV} {v : V} (r : R.r G v) : ∀ {ks : List (Int × RV)} {kvs : List (Key × V)}, PKs G ks kvs → PKs G (ks ++ [(k, R)]) (kvs ++ [(Sum.inl k, v)])
  | _, _, .nil => .cons ⟨rfl, r⟩ .nil
  | _, _, .cons a t => .cons a (PKs.snoc r t)
section
variable {X : Cx} {B : Base} {L : Hp} {sl : List Ent} {D : Ends} {pos : Pos} {rest : List Stmt}
theorem e_dnew : EvR X (.Dict [] [] pos) sl (.m (oD [])) := evR_of pe_dnewK fun σ G H Q a q p hp => q p _ G _ (Gr.newOut a.sub hp) hp (a.sub.free hp) upd_same ⟨[], rfl, .nil⟩
theorem EvR.dct {e : Expr} {ks : List (Int × RV)} (h : EvR X e sl (.m (oD ks))) : Ev X e sl (rDct ks) := fun pins s σ G H Q I a k => h pins s σ G H Q I a fun p o G' H' g n1 n2 e ⟨kvs, eo, r⟩ => by
  subst eo
  exact k _ _ _ (Gr.take g n1 e n2) ⟨p, kvs, rfl, upd_same, r.mono (same_new n2)⟩
theorem EvR.xdct {e : Expr} {α : Type} {P : α → Prop} {ks : α → List (Int × RV)} (h : EvR X e sl (.x P fun x => .m (oD (ks x)))) : Ev X e sl (rX P fun x => rDct (ks x)) := fun pins s σ G H Q I a k => h pins s σ G H Q I a fun x px p o G' H' g n1 n2 e ⟨kvs, eo, r⟩ => by
  subst eo
  exact k _ _ _ (Gr.take g n1 e n2) ⟨x, px, p, kvs, rfl, upd_same, r.mono (same_new n2)⟩
/-- a thing of one's own is handed back -/
theorem w_retMu (i : Nat) {x : Str} {p' : Pos} {O : OV} (ei : sl[i]? = some (.mu O)) (hM : ∀ a, ¬ B.M a) (q : Post B.G B.H D.rt (.m O)) (hN : X.N[i]? = some x := by rfl) (hv : Vis X.env.scope x := by first | exact Or.inl rfl | exact Or.inr (Or.inl rfl) | exact Or.inr (Or.inr rfl)) (hd : (x == ("__debug__" : Str)) = false := by decide)
    (hcd : (x == ("__classdict__" : Str)) = false := by decide) : Wp X B L (.Return (some (.Name x p')) pos :: rest) D sl :=
  wp_of (ps_ret (pe_var hN hv hd hcd)) fun σ G H a => by
    obtain ⟨p, o, h1, h2, h3, h4⟩ := a.sat.mu i O ei
    exact ⟨.ref p, h1, q p o G H (a.gr0 hM) ((a.ow i _ p ei h1).resolve_left (hM p)) h3 h2 h4⟩
/-- d[k] = v, a new key -/
theorem w_dput (i : Nat) {y : Str} {p1 p2 : Pos} {b e : Expr} {ks : List (Int × RV)} {k0 : Int} {R : RV} (ei : sl[i]? = some (.mu (oD ks))) (hu : X.A.units + 1 < cLine) (h : Ev X e sl R) (hk : Ev X b sl (iI k0)) (hl : ks.length < 100000) (new : ∀ p ∈ ks, p.1 ≠ k0) (k : Wp X B L rest D (sl.set i (.mu (oD (ks ++ [(k0, R)]))))) (hN : X.N[i]? = some y := by rfl) (hv : Vis X.env.scope y := by first | exact Or.inl rfl | exact Or.inr (Or.inl rfl) | exact Or.inr (Or.inr rfl)) (hd : (y == ("__debug__" : Str)) = false := by decide)
    (hcd : (y == ("__classdict__" : Str)) = false := by decide) (hs : swapsWith e (some (.Subscript (.Name y p1) b p2)) pos.line X.env = pure false := by rfl) : Wp X B L (.Assign [.Subscript (.Name y p1) b p2] e pos :: rest) D sl :=
  wp_of (ps_dput hu (pe_var hN hv hd hcd) pcan pcan hs) fun σ G H a => h.can a.sat fun v G1 H1 g1 r1 => by
    have a1 := a.go g1
    obtain ⟨p, o, h1, h2, h3, kvs, rfl, h4⟩ := a1.sat.mu i _ ei
    refine ⟨.ref p, h1, hk.can a1.sat fun u G2 H2 g2 ⟨z, e2, ez⟩ => ?_⟩
    subst e2 ez
    have a2 := a1.go g2
    have h4' := h4.mono g2.g
    have hlen : kvs.length = ks.length := (Paired.length h4').symm
    refine ⟨p, _, rfl, DPut.k (k := Sum.inl z) (g2.hs _ _ h2) (by rw [hlen]; exact Nat.lt_of_lt_of_le hl (by decide)), ?_⟩
    refine k σ G2 _ (a2.changeM ei h1 ⟨_, rfl, ?_⟩)
    unfold putK
    rw [valV_any, h4'.miss new]
    exact h4'.snoc (R.m g2.g r1)
/-- d[k] -/
theorem e_dget {o i : Expr} {ks : List (Int × RV)} {k0 : Int} {R : RV} (hu : X.A.units + 1 < cLine) (h : Ev X o sl (rDct ks)) (hi : Ev X i sl (iI k0)) (hg : getK ks k0 = some R) (hs : NoSl i := by exact fun _ => rfl) : Ev X (.Subscript o i pos) sl R :=
  ev_of (pe_dget hu pcan pcan hs) fun σ G H Q z q => h.can z fun v G1 H1 g1 ⟨a, kvs, e1, h1, h2⟩ => hi.can (z.gr g1) fun u G2 H2 g2 ⟨n, e2, en⟩ => by
    subst e1 e2 en
    obtain ⟨v, r1, r2⟩ := (h2.mono g2.g).get hg
    exact ⟨a, v, rfl, .inl ⟨kvs, Sum.inl n, .inl ((g1.trans g2).s _ _ (g2.g _ _ h1)), rfl, r1.symm⟩, q v G2 H2 (g1.trans g2) r2⟩
/-- a, b, c = x, y, z; the first a thing of one's own -/
theorem w_par3M (i j l : Nat) {x y z : Str} {a b c : Expr} {px py pz pt : Pos} {kt k2 pt2} {O : OV} {R2 R3 : RV} (hc : X.calm = true) (hN : X.N.Nodup) (h1 : EvR X a sl (.m O)) (h2 : Ev X b sl R2) (h3 : Ev X c sl R3) (k : Wp X B L rest D (((sl.set i (.mu O)).set j (.val R2)).set l (.val R3))) (hi : X.N[i]? = some x := by rfl) (hj : X.N[j]? = some y := by rfl) (hl : X.N[l]? = some z := by rfl) (hij : i ≠ j := by decide) (hil : i ≠ l := by decide) (hjl : j ≠ l := by decide)
    (hx : X.env.scope.names.lookup x = some .local := by rfl) (hy : X.env.scope.names.lookup y = some .local := by rfl) (hz : X.env.scope.names.lookup z = some .local := by rfl) (hw : swappedStores [.Tuple [.Name x px, .Name y py, .Name z pz] kt pt] (.Tuple [a, b, c] k2 pt2) X.env = pure (some [x, y, z]) := by rfl)
    (hs : swapsWithSole [.Tuple [.Name x px, .Name y py, .Name z pz] kt pt] (.Tuple [a, b, c] k2 pt2) pos.line X.env = pure false := by rfl) (he : starEach [a, b, c] X.env = (false, eval a X.env) :: starEach [b, c] X.env := by rfl) (he1 : starEach [b, c] X.env = (false, eval b X.env) :: starEach [c] X.env := by rfl) (he' : starEach [c] X.env = [(false, eval c X.env)] := by rfl) :
    Wp X B L (.Assign [.Tuple [.Name x px, .Name y py, .Name z pz] kt pt] (.Tuple [a, b, c] k2 pt2) pos :: rest) D sl :=
  wp_of (ps_par3 hc hN hi hj hl hij hil hjl hx hy hz (pa_cons pcan (pa_cons pcan (pa_cons pcan pa_nil he') he1) he) hw hs) fun σ G H w => h1.can w.sat fun p o G1 H1 g1 n1 n2 e1 r1 => h2.can (w.sat.gr g1) fun u G2 H2 g2 r2 => h3.can ((w.sat.gr g1).gr g2) fun v G3 H3 g3 r3 => by
    have g23 := g2.trans g3
    refine ⟨_, _, _, rfl, k _ G3 H3 (((w.setMut (g1.trans g23) i n1 (g23.out e1 n2) (g23.hs _ _ e1) (O.m g23.g r1)).set j (R2.m g3.g r2)).set l r3)⟩
end
end Dl


set_option Elab.async false
set_option linter.all false
set_option maxRecDepth 100000
set_option maxHeartbeats 4000000
namespace Dl
open PySem PySem.Spec PyProof.Rows L2
/-! ### set(xs), xs a list of ints, as a set that can be walked -/
/-- what set.__new__ lays down -/
abbrev ob0 (w : World) : Obj := { cls := .type "set", dict := none, data := .set #[] 0 (.fresh 0 0 (!w.params.followText "set-order")) }
section
variable {P : Program} {w : World} {A : Around} {E : Value → Shared → Prop} {s : Shared}
theorem set_of_ints {l : Addr} {its : Array Value} {ns : List Int} {Q : Value → Shared → Prop} (free : A.handled = none) (isl : s.heap.IsList l its) (isInts : IntsAre its.toList ns) (small : ns.length + 1 < scanBound)
    (fin : ∀ (h2 : Heap) (t2 c : Nat), SetR w h2 s.heap.objs.size (fun j => decide (j ∈ ns)) c → c ≤ ns.length → (∀ b u, s.heap.get? b = some u → h2.get? b = some u) → Q (.ref s.heap.objs.size) { s with heap := h2, toks := t2 }) :
    wpAny (model P w) A (call (.type "set") [.ref l]) Q E s := by
  have size : its.size = ns.length := (Array.length_toList (xs := its)).symm.trans (IntsAre.length isInts)
  have ⟨cc, tt, kin⟩ := F.called_set.mro
  have made0 := F.called_set.made
  have sub0 := F.called_set.sub
  have not0 := F.called_set.notType
  have can0 := F.called_set.canCreate
  have arg0 := F.typeCall_set_1 (.ref l)
  apply wpAny_call
  apply codeAny_of_tree
  show wpAny _ _ (callAny (.type "set") _) _ _ _
  apply wpAny_pure
  refine ⟨Code.quiet_builtin _ (by decide +kernel), codeAny_builtin (b := _) F.entry_type_call ?_⟩
  rw [Around.under_plain (weight_type_call_type "set" [Value.ref l] []) (by rfl)]
  repeat (any_goals (first | wp_step | assumption))
  apply codeAny_mono (code_set_led1 (Value.ref l) (E := E) (Q₁ := fun v st => v = Value.ref s.heap.objs.size ∧ st = { s with heap := s.heap.push (ob0 w) }) ⟨rfl, rfl⟩)
  intro r1 st hr1
  match r1, hr1 with
  | .error _, z => exact z
  | .ok (.ret v), z =>
    obtain ⟨rfl, rfl⟩ := z
    have at0 : (s.heap.push (ob0 w)).get? s.heap.objs.size = some (ob0 w) := Heap.get?_push_size _ rfl
    have ty0 : Shared.TypeIs { s with heap := s.heap.push (ob0 w) } (.ref s.heap.objs.size) "set" := ⟨_, at0, rfl⟩
    have look0 := F.called_set.init.lookup
    have bind0 := F.called_set.init.bind (Value.ref s.heap.objs.size)
    repeat (any_goals (first | wp_step | assumption))
    apply codeAny_mono (codeAny_call_builtin (R := wants (fun v st => v = .none ∧ ∃ h2 t2 c, st = { s with heap := h2, toks := t2 } ∧ SetR w h2 s.heap.objs.size (fun j => decide (j ∈ ns)) c ∧ c ≤ ns.length ∧ ∀ b u, s.heap.get? b = some u → h2.get? b = some u) E)
      F.called_set.init.plain F.entry_set_init (check_set_init_1 ty0 ?_))
    · intro r2 st2 hr2
      match r2, hr2 with
      | .error _, z => exact z
      | .ok (.ret v2), z =>
        obtain ⟨rfl, h2, t2, c, rfl, z1, z2, z3⟩ := z
        repeat (any_goals (first | wp_step | assumption))
        exact fin h2 t2 c z1 z2 z3
    · have ⟨ol, gl, cl, nl, dl⟩ := isl
      rcases ol with ⟨c1, c2, c3, c4⟩
      dsimp only at cl dl
      subst cl dl
      have gl1 : (s.heap.push (ob0 w)).get? l = some { cls := .type "list", dict := c2, data := .seq its nl, slots := c4 } := Heap.get?_push_of_some _ gl
      have no1 := F.sub_list_set
      have no2 := F.sub_list_frozenset
      have no3 : (Value.type "list" == Value.type "dict") = false := by decide
      have isl1 : (s.heap.push (ob0 w)).IsList l its := ⟨_, gl1, rfl, nl, rfl⟩
      unfold Builtin.«set.__init__» Builtin.Frozenset.updateFrom noKeywords
      generalize eq : pyIter = PI
      wp_walk
      subst eq
      apply wpAny_pyIter_list isl1
      apply wpAny_bind
      apply wpAny_runValue
      have low : l < s.heap.objs.size := Heap.lt_size gl
      have free3 : A.in1.in1.in1.handled = none := by simp [free]
      have top : (s.heap.push (ob0 w)).objs.size = s.heap.objs.size + 1 := Heap.size_push ..
      have ne1 : l ≠ (s.heap.push (ob0 w)).objs.size := by rw [top]; exact Nat.ne_of_lt (Nat.lt_succ_of_lt low)
      have ne2 : s.heap.objs.size ∉ [(s.heap.push (ob0 w)).objs.size, l] := by
        rw [top]
        intro z
        rcases List.mem_cons.mp z with z | z
        · exact absurd z (Nat.ne_of_lt (Nat.lt_succ_self _))
        · exact absurd (List.mem_singleton.mp z) (Nat.ne_of_gt low)
      have vals : ∀ (i : Nat) (v : Value), its[i]? = some v → ∃ k t, ns[i]? = some k ∧ v = .int k t := fun i v e => by
        have hi : i < ns.length := by rw [← size]; exact (Array.getElem?_eq_some_iff.mp e).1
        have ⟨t, e2⟩ := PyProof.Rows.IntsAre.int_at isInts i v (by rw [Array.getElem?_toList]; exact e)
        refine ⟨ns[i], t, List.getElem?_eq_getElem hi, ?_⟩
        rw [e2, List.getD_eq_getElem?_getD, List.getElem?_eq_getElem hi, Option.getD_some]
      refine set_update_ints (ns := ns) (Walks.list free3 _ l ne1 its).toS s.heap.objs.size ne2 size small vals (its.size - 0) 0 _ (by omega) (by omega) ⟨⟨_, Heap.get?_push_size _ rfl, rfl, rfl⟩, isl1.push _⟩ ⟨0, by omega, setR_new_at (Heap.get?_push_of_some _ at0)⟩ ?_
      rintro ⟨h2, g2, d2, t2, o2⟩ c mv hc2 hs2
      have eg : g2 = s.gens := mv.gens
      have ed : d2 = s.drawn := mv.drawn
      have eo : o2 = s.os := mv.os
      cases eg
      cases ed
      cases eo
      show wpAny _ _ _ _ _ _
      apply wpAny_pure
      show wpAny _ _ (ret .none) _ _ _
      apply wpAny_pure
      refine ⟨rfl, h2, t2, c, rfl, hs2, by omega, fun b u e => ?_⟩
      have lo := Heap.lt_size e
      refine mv.heap b u (fun z => ?_) (Heap.get?_push_of_some _ (Heap.get?_push_of_some _ e))
      rcases List.mem_cons.mp z with z | z
      · exact absurd z (Nat.ne_of_lt lo)
      · have z := List.mem_singleton.mp z
        rw [top] at z
        exact absurd z (Nat.ne_of_lt (Nat.lt_succ_of_lt lo))
end
section
variable {X : Cx} {sl : List Ent} {a : Expr} {p pos : Pos}
/-- set(xs) -/
def rSetI (K : PySem.W.Frag) (w : World) : List V → Hp → VK → Prop := fun xs H Q => ∃ (l : Addr) (ns : List Int), xs = [V.ref l] ∧ SqL K H l (ns.map V.int) ∧ ns.length < 4000 ∧
  ∀ c q, c ≤ ns.length → H q = none → Q (.ref q) (upd H q (SetO w q (fun j => decide (j ∈ ns)) c))
theorem cr_setI (hc : X.calm = true) : CallR X (.type "set") (rSetI X.K X.w) := by
  intro pins s σ H xs us Q I r h
  obtain ⟨l, ns, rfl, hq, hl, q⟩ := h
  rw [Vals.ref1 r]
  obtain ⟨its, r2, pl, hz⟩ := I.list hq
  refine set_of_ints (I.ok.hd hc) pl.isList (by simpa using r2.ints) (by unfold scanBound; omega) fun h2 t2 c R hcn k => ?_
  exact ⟨.ref _, upd H s.heap.objs.size (SetO X.w s.heap.objs.size (fun j => decide (j ∈ ns)) c), I.laid (t' := t2) k (Nat.le_refl _) (setO_new R), rfl, q _ _ hcn (I.hok.fresh (Nat.le_refl _))⟩
/-- a set of one's own -/
def oSet (w : World) (m : Nat) (S : Int → Bool) : OV := ⟨fun _ p o => ∃ c, c ≤ m ∧ o = SetO w p S c, fun _ h => h⟩
theorem e_setI {ns : List Int} (h : Ev X a sl (rInts X.K ns)) (hm : X.mg "set" = none) (hl : ns.length < 4000) (hc : X.calm = true := by rfl) (hg : Gl X "set" := by rfl) (he : starEach [a] X.env = [(false, eval a X.env)] := by rfl) : EvR X (.Call (.Name "set" p) [a] [] pos) sl (.m (oSet X.w ns.length fun j => decide (j ∈ ns))) :=
  e_ct (cr_setI hc) hm (by decide +kernel) (a1 h he) (fun vs G H Q s r q => by
    obtain ⟨v, rfl, b, ws, rfl, h1, h2⟩ := pv1 r
    rw [h2.ints] at h1
    exact ⟨b, ns, rfl, s.seq h1, hl, fun c p hcn hp => q p _ G _ (Gr.newOut s hp) hp (s.free hp) upd_same ⟨c, hcn, rfl⟩⟩) hg (by decide) (by decide) he rfl
theorem e_sortedS {m : Nat} {S : Int → Bool} (h : EvR X a sl (.m (oSet X.w m S))) (h64 : m < 64) (hm : X.mg "sorted" = none) (hc : X.calm = true := by rfl) (hg : Gl X "sorted" := by rfl) (he : starEach [a] X.env = [(false, eval a X.env)] := by rfl) : EvR X (.Call (.Name "sorted" p) [a] [] pos) sl (.x (fun ms : List Int => ms.Pairwise (· < ·) ∧ (∀ k, k ∈ ms ↔ S k = true) ∧ ms.length ≤ m) fun ms => .l (ms.map iI)) :=
  evR_of (pe_callB (cr_sortedSet hc) hg hm (by decide +kernel) (pa_cons pcan pa_nil he) (by decide) (by decide) he rfl) fun σ G H Q z q => h.can z fun b o G1 H1 g1 n1 n2 e1 ⟨c, hcm, ho⟩ => by
    subst ho
    refine ⟨b, S, c, rfl, e1, by omega, fun ns l h1 h2 h3 hl => ?_⟩
    exact q ns ⟨h1, h2, by omega⟩ l _ G1 _ (g1.trans (Gr.newOut g1.s hl)) (g1.hs.free hl) (g1.s.free hl) upd_same (PVs.ofInts ns)
end
end Dl


set_option Elab.async false
set_option linter.all false
set_option maxRecDepth 100000
set_option maxHeartbeats 2000000
namespace Dl
open PySem PySem.Spec PyProof.Rows L2 ClX
section
variable {X : Cx} {sl : List Ent} {C : Addr} {fs gs : List (Str × RV)} {a b : Expr} {pos p : Pos} {k : Nat} {α : Type}
/-- isinstance(a, C) for an instance of C -/
theorem e_isC {x : Str} {p' : Pos} (h : Ev X a sl (rIns C fs)) (hx : X.mg x = some (.ref C)) (ty : ∀ (H : Hp) (y dx : Addr) (vs : List (Str × V)), H y = some (.ins C dx vs) → TyOf X.K H (.ref y) (.ref C)) (hm : X.mg "isinstance" = none) (hgx : Gl X x := by rfl) (hdx : (x == ("__debug__" : Str)) = false := by decide) (hg : Gl X "isinstance" := by rfl) (he : starEach [a, .Name x p'] X.env = (false, eval a X.env) :: starEach [.Name x p'] X.env := by rfl) (he' : starEach [.Name x p'] X.env = [(false, eval (.Name x p') X.env)] := by rfl) : Ev X (.Call (.Name "isinstance" p) [a, .Name x p'] [] pos) sl (iB true) :=
  ev_of (pe_callB call_isi hg hm (by decide +kernel) (pa_cons pcan (pa_cons (pe_glob (v := .ref C) hgx hx rfl hdx) pa_nil he') he) (by decide) (by decide) he (by rw [he']; rfl)) fun σ G H Q z q => h.can z fun v G1 H1 g1 ⟨y, dx, vs, e1, h1, h2⟩ => by
    subst e1
    exact ⟨_, _, .ref C, .ref C, true, rfl, .own C, .base (ty H1 y dx vs (g1.s _ _ h1)), by unfold PySem.W.kitOne; rw [if_pos (by exact beq_self_eq_true _)], q _ G1 H1 g1 ⟨_, rfl, rfl⟩⟩
/-- the own == of two that are equal -/
def F_eq (C : Addr) (ps : List Str) (fs : α → List (Str × RV)) (pre : α → Prop) : Fn α := ⟨ps, fun z => [rIns C (fs z), rIns C (fs z)], pre, fun _ => .v (iB true)⟩
def RelC (C : Addr) (fs : α → List (Str × RV)) (pre : α → Prop) : Addr → Addr → Hp → Prop := fun x y H => ∃ z G, Same G H ∧ pre z ∧ (rIns C (fs z)).r G (.ref x) ∧ (rIns C (fs z)).r G (.ref y)
theorem e_eqC {ps : List Str} {fs : α → List (Str × RV)} {pre : α → Prop} (h : HasMe X.prog X.w X.K X.mg X.base k C "__eq__" (F_eq C ps fs pre)) (hr : Room k X.A) (z : α) (hp : pre z) (ha : Ev X a sl (rIns C (fs z))) (hb : Ev X b sl (rIns C (fs z))) : Ev X (.Compare a [.Eq] [b] pos) sl (iB true) := by
  obtain ⟨f, fd, hm, hbn, ok⟩ := h.ex
  have ok2 : FnOk X.prog X.w X.K X.mg X.base CX0 k f fd ps (spEq (RelC C fs pre)) := ok.imp fun vs H Q E ⟨x, y, e, ⟨z, G, s1, p1, r1, r2⟩, q⟩ => by
    subst e
    refine ⟨z, G, s1, .cons r1 (.cons r2 .nil), p1, fun v G' H' g ⟨c, ec, hc⟩ => ?_⟩
    subst ec hc
    exact q H' g.hs
  have rc : RcG X k (DIns C (RelC C fs pre)) := rcG_ins (E := fun _ _ _ => False) ok2 hm.at_ hm.fn hbn pass0
  refine ev_of (pe_cmpR (op_eqG rc hr) pcan pcan (nomark _)) fun σ G H Q s q => ha.can s fun v G1 H1 g1 r1 => hb.can (s.gr g1) fun u G2 H2 g2 r2 => ?_
  obtain ⟨x, dx, vs, e1, h1, _⟩ := id r1
  obtain ⟨y, dy, ws, e2, h2, _⟩ := id r2
  subst e1 e2
  refine ⟨⟨x, y, dx, dy, vs, ws, rfl, rfl, g2.s _ _ (g2.g _ _ h1), g2.s _ _ h2, z, G2, g2.s, hp, (rIns C (fs z)).m g2.g r1, r2⟩, fun H3 ex => ?_⟩
  refine q _ G2 H3 ((g1.trans g2).trans ⟨Same.refl _, fun c o _ e => ex c o e, fun c e z => ?_, fun c o e => ex c o (g2.s c o e), fun _ _ => rfl⟩) ⟨_, rfl, rfl⟩
  cases q : H2 c with
  | none => exact e q
  | some o => rw [ex c o q] at z; cases z
end
end Dl


set_option Elab.async false
set_option linter.all false
set_option maxRecDepth 100000
set_option maxHeartbeats 2000000
namespace Dl
open PySem PySem.Spec PyProof.Rows L2 ClX
/-! ### data that can be compared -/
structure Sh (n : Nat) (d : PyData) : Prop where
  lay : d.canLay0 = true
  dep : d.depth ≤ n
theorem Sh.ok {n : Nat} {d : PyData} (h : Sh n d) (hn : n ≤ 64 := by decide) : SeqAt.shaped d = true := by
  unfold SeqAt.shaped
  rw [h.lay, decide_eq_true (Nat.le_trans h.dep hn)]
  rfl
theorem sh_int {n : Nat} (i : Int) : Sh n (.int i) := ⟨by simp [PyData.canLay0], by simp [PyData.depth]⟩
theorem sh_bool {n : Nat} (i : Bool) : Sh n (.bool i) := ⟨by simp [PyData.canLay0], by simp [PyData.depth]⟩
theorem sh_none {n : Nat} : Sh n .none := ⟨by simp [PyData.canLay0], by simp [PyData.depth]⟩
theorem sh_str {n : Nat} {x : Str} (h : (PyData.str x).canLay0 = true := by decide +kernel) : Sh n (.str x) := ⟨h, by simp [PyData.depth]⟩
theorem sh_all {n : Nat} : ∀ {ds : List PyData}, (∀ d ∈ ds, Sh n d) → PyData.canLayAll0 ds = true ∧ PyData.depthAll ds ≤ n
  | [], _ => ⟨by simp [PyData.canLayAll0], by simp [PyData.depthAll]⟩
  | d :: ds, h => by
    have h1 := h d (List.mem_cons_self ..)
    have h2 := sh_all fun e he => h e (List.mem_cons_of_mem _ he)
    exact ⟨by rw [PyData.canLayAll0, h1.lay, h2.1]; rfl, by rw [PyData.depthAll]; have := h1.dep; have := h2.2; omega⟩
theorem sh_list {n : Nat} {ds : List PyData} (h : ∀ d ∈ ds, Sh n d) : Sh (n + 1) (.list ds) := by
  obtain ⟨h1, h2⟩ := sh_all h
  exact ⟨by rw [PyData.canLay0]; exact h1, by rw [PyData.depth]; omega⟩
theorem sh_tup {n : Nat} {ds : List PyData} (h : ∀ d ∈ ds, Sh n d) : Sh (n + 1) (.tuple ds) := by
  obtain ⟨h1, h2⟩ := sh_all h
  exact ⟨by rw [PyData.canLay0]; exact h1, by rw [PyData.depth]; omega⟩
theorem sh_map {n : Nat} {α : Type} {t : α → PyData} {xs : List α} (h : ∀ x ∈ xs, Sh n (t x)) : ∀ d ∈ xs.map t, Sh n d := fun d hd => by
  obtain ⟨x, hx, rfl⟩ := List.mem_map.mp hd
  exact h x hx
theorem sh_nil {n : Nat} : ∀ d ∈ ([] : List PyData), Sh n d := fun _ h => nomatch h
theorem sh_cons {n : Nat} {a : PyData} {ds : List PyData} (h : Sh n a) (k : ∀ d ∈ ds, Sh n d) : ∀ d ∈ a :: ds, Sh n d := fun d hd => by
  cases hd with
  | head => exact h
  | tail _ hd => exact k d hd
/-- a list of ints -/
abbrev dI (xs : List Int) : PyData := .list (xs.map PyData.int)
theorem py_I {K : PySem.W.Frag} (xs : List Int) : (rInts K xs).Py K (dI xs) := py_lst fun x _ => py_int x
theorem sh_I (xs : List Int) : Sh 1 (dI xs) := sh_list (sh_map fun x _ => sh_int x)
theorem py_II {K : PySem.W.Frag} (xs : List (List Int)) : (rLst K (xs.map (rInts K))).Py K (.list (xs.map dI)) := py_lst fun x _ => py_I x
theorem sh_II (xs : List (List Int)) : Sh 2 (.list (xs.map dI)) := sh_list (sh_map fun x _ => sh_I x)
section
variable {X : Cx} {sl : List Ent} {a b : Expr} {pos : Pos} {Ra Rb : RV} {d : PyData} {n : Nat}
theorem e_eqY (hu : X.A.units + 64 < cLine) (ha : Ev X a sl Ra) (hb : Ev X b sl Rb) (pa : Ra.Py X.K d) (pb : Rb.Py X.K d) (sd : Sh n d) (hn : n ≤ 64 := by decide) : Ev X (.Compare a [.Eq] [b] pos) sl (iB true) := by
  have h := e_eqD (pos := pos) hu ha hb pa pb (sd.ok hn) (sd.ok hn)
  rw [SeqAt.eqv_refl d sd.lay] at h
  exact h
theorem t_neY (hu : X.A.units + 64 < cLine) (ha : Ev X a sl Ra) (hb : Ev X b sl Rb) (pa : Ra.Py X.K d) (pb : Rb.Py X.K d) (sd : Sh n d) (hn : n ≤ 64 := by decide) : EvT X (.Compare a [.NotEq] [b] pos) sl (fun z => z = false) := by
  have h := t_neD (pos := pos) hu ha hb pa pb (sd.ok hn) (sd.ok hn)
  rw [SeqAt.eqv_refl d sd.lay] at h
  exact h
end
end Dl


set_option Elab.async false
set_option linter.all false
set_option maxRecDepth 100000
set_option maxHeartbeats 2000000
namespace Dl
open PySem PySem.Spec PyProof.Rows L2 ClX
section
variable {X : Cx} {B : Base} {L : Hp} {sl : List Ent} {D : Ends} {pos : Pos} {rest : List Stmt} {β : Type} {Pb : β → Prop} {n : β → Nat} {js : List Nat} {Rs : β → Nat → List RV} {wi : TI} {g : TG} {tg iter : Expr}
/-- a loop over one of several sources -/
theorem w_forX {body : List Stmt} (hc : X.calm = true) (hp : PassesOwn (model X.prog X.w) X.A X.env X.xe) (hi : PI X tg iter wi) (hg : PG X tg g) (hs : SrcX wi g sl Pb n js Rs) (J : β → Nat → List Ent → Prop) (h0 : ∀ b, Pb b → J b 0 sl)
    (turn : ∀ b i L' sl', Pb b → i < n b → J b i sl' → Wp X B L' body (dturn D X rest B L' (J b (i + 1))) (setE sl' js (Rs b i))) (done : ∀ b sl', Pb b → J b (n b) sl' → Wp X B L rest D sl')
    (hf : ∀ x, foldedSetIterable iter X.env x = pure x := by intro _; rfl) : Wp X B L (.For tg iter body [] pos :: rest) D sl :=
  wp_of (ps_for hp hc hi hg pcanS hf) fun σ G H a => hs σ G H _ a.sat fun b It G1 H1 pb g1 gs => by
    refine ⟨fun i m σ' H' => m = n b - i ∧ i ≤ n b ∧ NX B G1 (J b i) σ' H', ⟨n b, by simp, Nat.zero_le _, sl, G1, h0 b pb, ⟨(a.go g1).sat, (a.go g1).gr, Same.refl _, a.ow⟩⟩, ?_⟩
    rintro i m σ' H' ⟨rfl, hin, sl', G', hj, c⟩
    by_cases hlt : i < n b
    · refine .inr ⟨gs.go i G' H' hlt c.lo c.sat.sub, NX B G1 (J b (i + 1)), fun σ2 H2 nx => ⟨n b - (i + 1), by omega, rfl, hlt, nx⟩, fun x H'' y => ?_⟩
      exact gs.yld i σ' G' H' x H'' _ hlt c.lo c.sat.sub y fun vs G2 H2 g2 r => turn b i G1 sl' pb hlt hj _ G2 H2 ((c.go g2).setS r)
    · have e : i = n b := by omega
      subst e
      exact .inl ⟨gs.stop G' H' c.lo c.sat.sub, done b sl' pb hj σ' G' H' (c.down (a.lo.trans g1.g))⟩
theorem src_LX {α : Type} [Inhabited α] {e : Expr} {xs : β → List α} {c : β → α → RV} {j : Nat} (h : Ev X e sl (rX Pb fun b => rLst X.K ((xs b).map (c b)))) : SrcX (iList X.K (can X e)) (gName j) sl Pb (fun b => (xs b).length) [j] (fun b i => [c b ((xs b).getD i default)]) := fun σ G H R a k => h.can a fun v G1 H1 g1 ⟨b, pb, l, vs, ev, q, r⟩ => by
  have hlen : (xs b).length = vs.length := by rw [← r.len, List.length_map]
  refine ⟨l, ev, ⟨vs, g1.s.seq q⟩, k b _ G1 H1 pb g1 ⟨fun i G2 H2 hi s1 s2 => ?_, fun G2 H2 s1 s2 => ⟨vs, s2.seq (s1.seq q), Nat.le_of_eq hlen.symm⟩, fun i σ G2 H2 x H' K hi s1 s2 y kk => ?_⟩⟩
  · have hl : i < vs.length := Nat.lt_of_lt_of_eq hi hlen
    exact ⟨vs, vs[i], s2.seq (s1.seq q), List.getElem?_eq_getElem hl⟩
  · obtain ⟨rfl, f⟩ := y
    obtain ⟨R', h1, h2⟩ := r.back (f vs (s2.seq (s1.seq q)))
    refine kk [x] G2 H' (.refl s2) (.cons ?_ .nil)
    rw [List.getElem?_map, getD_get hi] at h1
    cases h1
    exact RV.m _ s1 h2
/-- for y in (one of several lists) -/
theorem w_forLX {α : Type} [Inhabited α] {xs : β → List α} {c : β → α → RV} {y : Str} {py : Pos} {body : List Stmt} (j : Nat) (hN : X.N.Nodup) (src : Ev X iter sl (rX Pb fun b => rLst X.K ((xs b).map (c b)))) (J : β → Nat → List Ent → Prop) (h0 : ∀ b, Pb b → J b 0 sl)
    (turn : ∀ b (i : Nat) x L' sl', Pb b → (xs b)[i]? = some x → J b i sl' → Wp X B L' body (dturn D X rest B L' (J b (i + 1))) (sl'.set j (.val (c b x)))) (done : ∀ b sl', Pb b → J b (xs b).length sl' → Wp X B L rest D sl')
    (hp : PassesOwn (model X.prog X.w) X.A X.env X.xe := by exact PassesOwn.never) (hc : X.calm = true := by rfl) (hj : X.N[j]? = some y := by rfl) (hl : X.env.scope.names.lookup y = some .local := by rfl) (hf : ∀ x, foldedSetIterable iter X.env x = pure x := by intro _; rfl) : Wp X B L (.For (.Name y py) iter body [] pos :: rest) D sl :=
  w_forX hc hp (pi_list pcan) (pg_name (i := j) hN hj (.inl hl) (.inr hl)) (src_LX src) J h0 (fun b i L' sl' pb hi hj => turn b i _ L' sl' pb (getD_get hi) hj) done hf
end
section
variable {X : Cx} {sl : List Ent} {k : Nat} {x : Str} {α : Type} {F : Fn α} {p pos : Pos} {e : Expr} {es : List Expr} {Rs : List RV} {r : Res}
/-- a call whose arguments are one of several -/
theorem e_callE (h : Has X.prog X.w X.K X.mg X.base k x F) (hr : Room k X.A) (ha : EvA X (e :: es) sl Rs) (op : ∀ G vs, PVs G Rs vs → ∃ z, PVs G (F.args z) vs ∧ F.pre z ∧ F.res z = r) (hg : Gl X x := by rfl) (hdb : (x == ("__debug__" : Str)) = false := by decide)
    (he : starEach (e :: es) X.env = (false, eval e X.env) :: starEach es X.env := by rfl) (hpl : (backTo pos (starEach es X.env)).any (·.1) = false := by rfl) : EvR X (.Call (.Name x p) (e :: es) [] pos) sl r := by
  obtain ⟨f, fd, hm, hk, hb, ok⟩ := h.ex
  refine evR_of (pe_call ok hr hg hm hk hb .nil pass0 pcanA hdb he hpl) fun σ G H Q a q => ?_
  refine ha.can a fun vs G' H' g rr => ?_
  obtain ⟨z, h1, h2, h3⟩ := op G' vs rr
  refine ⟨z, G', g.s, ?_, h2, ?_⟩
  · rw [List.append_nil]; exact h1
  · rw [h3]; exact q.gr g
end
end Dl


set_option Elab.async false
set_option linter.all false
set_option maxRecDepth 100000
set_option maxHeartbeats 2000000
namespace Dl
open PySem PySem.Spec PyProof.Rows L2 ClX
/-! ### the head: defs by paths, and one test of one's own -/
structure DefP where
  path : PySem.W.Frag → Addr
  name : Str
  qual : Str
  st : Stmt
  dfl : List He.Dv := []
def DefP.val (d : DefP) : He.FnW := some (d.name, d.qual, defArgs d.st, FuncBody.stmts (defBody d.st), defScope d.st, mainGlobals, [], builtinsNs)
def obP (K : PySem.W.Frag) (a : Addr) : He.FnW :=
  match K.lookup a with
  | some ⟨_, _, .func z, _⟩ => some (z.name, z.qualname, z.params, z.body, z.scope, z.globals, z.closure, z.builtins)
  | _ => none
def DefP.dv (K : PySem.W.Frag) (d : DefP) : List V := d.dfl.map (He.Dv.v K)
def DefP.ok (K : PySem.W.Frag) (d : DefP) : Bool := PySem.W.keepIn K (.ref (d.path K)) &&
  match K.lookup (d.path K) with
  | some ⟨_, _, .func z, _⟩ => PySem.W.codeIn K z.code d.qual && He.dflB K z.defaults (d.dv K)
  | _ => false
theorem DefP.fun_ {K : PySem.W.Frag} {d : DefP} (e : obP K (d.path K) = d.val) (c : d.ok K = true) : ∃ fd, FunD K d.name d.qual (defArgs d.st) (defBody d.st) (defScope d.st) (d.dv K) [] (d.path K) fd := by
  unfold DefP.ok at c
  have ⟨kp, c2⟩ := He.ba c
  unfold obP at e
  generalize q : K.lookup (d.path K) = r at e c2
  match r, e, c2 with
  | none, _, c2 => cases c2
  | some ⟨oc, od, dt, osl⟩, e, c2 =>
    cases dt with
    | func z =>
      rcases z with ⟨n1, n2, n3, n4, n5, n6, n7, n8, n9, n10, n11, n12, n13, n14, n15⟩
      replace e : (some (n1, n2, n3, n4, n5, n6, n7, n15) : He.FnW) = some (d.name, d.qual, defArgs d.st, FuncBody.stmts (defBody d.st), defScope d.st, mainGlobals, [], builtinsNs) := e
      injection e with e
      simp only [Prod.mk.injEq] at e
      rcases e with ⟨e1, e2, e3, e4, e5, e6, e7, e8⟩
      subst e1 e2 e3 e4 e5 e6 e7 e8
      have ⟨k1, k2⟩ := He.ba (show (PySem.W.codeIn K n13 d.qual && He.dflB K n8 (d.dv K)) = true from c2)
      exact ⟨_, ⟨oc, od, n8, n9, n10, n11, n12, n13, n14, osl, rfl, q, k1, He.dflB_ok k2, .inl rfl⟩, kp⟩
    | _ => cases c2
def obsP (ex : PySem.W.Frag → Bool) (fn : List DefP) (K : PySem.W.Frag) : He.AlD := (ex K && fn.all (DefP.ok K), fn.map fun d => obP K (d.path K))
def valP (fn : List DefP) : He.AlD := (true, fn.map DefP.val)
def SaysP (ex : PySem.W.Frag → Bool) (fn : List DefP) (K : PySem.W.Frag) : Prop := obsP ex fn K = valP fn
def fragP (n : Nat) (g : Addr → Option Obj) : PySem.W.Frag := He.frG g (PySem.cStatics :: He.asD g n)
def hookP (n : Nat) (ex : PySem.W.Frag → Bool) (fn : List DefP) : PySem.W.Hook where
  α := He.AlD
  obs := fun s => obsP ex fn (fragP n s.heap.get?)
  val := fun _ => valP fn
  says := fun _ h => ∃ K : PySem.W.Frag, K.In h ∧ SaysP ex fn K
  of := fun _ _ e => ⟨_, He.frG_in, e⟩
  keeps := fun _ _ _ ⟨K, hK, c⟩ k => ⟨K, PySem.W.Frag.In.keeps hK k, c⟩
theorem obsP_eq {n : Nat} {ex : PySem.W.Frag → Bool} {fn : List DefP} {g : Addr → Option Obj} {s : Shared} (h : ∀ a, g a = s.heap.get? a) : obsP ex fn (fragP n g) = (hookP n ex fn).obs s := by
  show _ = obsP ex fn (fragP n s.heap.get?)
  rw [show g = s.heap.get? from funext h]
section
variable {ex : PySem.W.Frag → Bool} {fn : List DefP} {K : PySem.W.Frag}
theorem SaysP.test (c : SaysP ex fn K) : ex K = true := (He.ba (show (ex K && fn.all (DefP.ok K)) = true from congrArg Prod.fst c)).1
theorem SaysP.def_ (c : SaysP ex fn K) (i : Nat) {d : DefP} (h : fn[i]? = some d := by rfl) : ∃ fd, FunD K d.name d.qual (defArgs d.st) (defBody d.st) (defScope d.st) (d.dv K) [] (d.path K) fd := by
  have c2 := (He.ba (show (ex K && fn.all (DefP.ok K)) = true from congrArg Prod.fst c)).2
  have e : (fn.map fun d => obP K (d.path K))[i]? = (fn.map DefP.val)[i]? := congrArg (fun l : List He.FnW => l[i]?) (congrArg Prod.snd c)
  rw [List.getElem?_map, List.getElem?_map, h] at e
  exact DefP.fun_ (Option.some.inj e) (List.all_eq_true.mp c2 d (List.mem_of_getElem? h))
end
/-! ### tests -/
def gP (x : Str) : PySem.W.Frag → Addr := fun K => He.ga K x
def mP (x m : Str) : PySem.W.Frag → Addr := fun K => He.ma K (He.ga K x) m
/-- a property's getter -/
def pG (K : PySem.W.Frag) (C : Addr) (f : Str) : Addr :=
  match PySem.W.findIn K (.ref C) f with
  | some (some (.ref p)) => (match PySem.W.recIn K p "property" with | some (.ref g :: _) => g | _ => 0)
  | _ => 0
def pP (x f : Str) : PySem.W.Frag → Addr := fun K => pG K (He.ga K x) f
def propB (K : PySem.W.Frag) (C : Addr) (f : Str) : Bool :=
  match PySem.W.findIn K (.ref C) f with
  | some (some (.ref p)) => He.eqO (PySem.W.specialIn K (.ref p) "__get__") (some (some (.builtin "property.__get__"))) && (decide (PySem.W.takesIn K (.ref p) = some true) && match PySem.W.recIn K p "property" with | some (.ref _ :: _) => true | _ => false)
  | _ => false
theorem propB_ok {K : PySem.W.Frag} {C : Addr} {f : Str} (h : propB K C f = true) : ∃ p, PropOf K C f p (pG K C f) := by
  unfold propB at h
  unfold pG
  cases e1 : PySem.W.findIn K (.ref C) f with
  | none => rw [e1] at h; cases h
  | some r =>
    rw [e1] at h
    cases r with
    | none => cases h
    | some u =>
      cases u with
      | ref p =>
        have ⟨h1, h⟩ := He.ba h
        have ⟨h2, h3⟩ := He.ba h
        dsimp only
        cases e3 : PySem.W.recIn K p "property" with
        | none => rw [e3] at h3; cases h3
        | some l =>
          rw [e3] at h3
          cases l with
          | nil => cases h3
          | cons u rest =>
            cases u with
            | ref g => exact ⟨p, e1, He.eqO_ok h1, of_decide_eq_true h2, rest, e3⟩
            | _ => cases h3
      | _ => cases h
def creadB (K : PySem.W.Frag) (C : Addr) : Bool := PySem.W.readsIn K C (.type "type") && He.eqO (PySem.W.specialIn K (.ref C) "__getattribute__") (some (some (.builtin "type.__getattribute__")))
theorem creadB_ok {K : PySem.W.Frag} {C : Addr} (h : creadB K C = true) : CRead K C (.type "type") := ⟨(He.ba h).1, He.eqO_ok (He.ba h).2⟩
def cintB (K : PySem.W.Frag) (C : Addr) (f : Str) (i : Int) : Bool := match PySem.W.findCls K (.ref C) (.type "type") f with
  | some (.val (.int j _)) => decide (j = i)
  | _ => false
theorem cintB_ok {K : PySem.W.Frag} {C : Addr} {f : Str} {i : Int} (h : cintB K C f i = true) : ∃ t, CVal K C (.type "type") f (.int i) (.int i t) := by
  unfold cintB at h
  cases e : PySem.W.findCls K (.ref C) (.type "type") f with
  | none => rw [e] at h; cases h
  | some c =>
    rw [e] at h
    cases c with
    | get => cases h
    | val u =>
      cases u with
      | int j t =>
        have ej : j = i := of_decide_eq_true h
        rw [ej] at e
        exact ⟨t, e, t, rfl⟩
      | _ => cases h
def tyB (K : PySem.W.Frag) (C : Addr) : Bool := He.eqO (PySem.W.findIn K (.ref C) "__class__") (some (some (.builtin "object.__class__"))) && (He.eqO (PySem.W.specialIn K (.builtin "object.__class__") "__get__") (some (some (.builtin "getset_descriptor.__get__"))) && (decide (PySem.W.takesIn K (.builtin "object.__class__") = some true) && decide (PySem.W.mroIn K C (.type "object") = some true)))
theorem tyB_ok {K : PySem.W.Frag} {C : Addr} (c : Cls K C) (h : tyB K C = true) (H : Hp) (a dx : Addr) (fs : List (Str × V)) (e : H a = some (.ins C dx fs)) : TyOf K H (.ref a) (.ref C) := by
  have ⟨h1, h⟩ := He.ba h
  have ⟨h2, h⟩ := He.ba h
  have ⟨h3, h4⟩ := He.ba h
  exact .ins e c (He.eqO_ok h1) (He.eqO_ok h2) (of_decide_eq_true h3) (of_decide_eq_true h4)
end Dl


set_option Elab.async false
set_option linter.all false
set_option maxRecDepth 100000
set_option maxHeartbeats 2000000
namespace Dl
open PySem PySem.Spec PyProof.Rows L2 ClX
/-! ### defs that are called where no repr is under way -/
structure FnG (P : Program) (w : World) (K : PySem.W.Frag) (mg : Str → Option Value) (base : Heap) (k : Nat) (f : Addr) (fd : FuncData) (ps : List Str) (sp : Sp) : Prop where
  len : ∀ vs H Q E, sp vs H Q E → vs.length = ps.length
  run : ∀ (A : Around) (outer : List Env) (s : Shared) (H : Hp) (args : Args) (us : List Value) (vs : List V) (Q : VK) (E : XK), A.guards = some [] → Room k A → Env0 P w K mg base A outer s H → BindsTo s fd args (ps.zip us) → Vals vs us → sp vs H Q E →
    codeAny (model P w) A (.call (.ref f) args) (CR CX0 outer P w H s Q E) s
theorem FunD.okG {P : Program} {w : World} {K : PySem.W.Frag} {mg : Str → Option Value} {base : Heap} {x qual : Str} {params : Arguments} {body : List Stmt} {scope : Scope} {dvs : List V} {kws : List (Str × V)} {f : Addr} {fd : FuncData} {N ps : List Str} {k : Nat} {sp : Sp}
    (F : FunD K x qual params body scope dvs kws f fd) (S : FnScope N ps scope) (hlen : ∀ vs H Q E, sp vs H Q E → vs.length = ps.length)
    (hbody : ∀ (cdv : Value) (A : Around) (outer : List Env) (s : Shared) (H : Hp) (vs : List V) (Q : VK) (E : XK), A.guards = some [] → Room k (A.deeper (envOfC qual scope s.heap.objs.size f cdv)) → sp vs H Q E →
      ∃ t, PSs (cxOf CX0 P w K mg base N qual scope f cdv A outer s H E) body t ∧ t { nx := fun _ H' => Q .non H', rt := Q } (L2.start N vs) H) : FnG P w K mg base (k + 1) f fd ps sp := by
  obtain ⟨oc, od, dV, kV, doc, pm, an, cdv, ct, osl, rfl, lk, hcd, _, _⟩ := F.ex
  constructor
  · exact hlen
  intro A outer s H args us vs Q E hgd hr e0 hb r hsp
  have inK : K.In s.heap := e0.mod.kin.keeps fun b o e => (e0.bs b o e).1
  have noLim : s.heap.NoLimit := e0.mod.nolimit.keeps fun b o e => (e0.bs b o e).1
  have kinds : ∀ y ∈ ps.zip us, scope.names.lookup y.1 = some .local ∨ (scope.names.lookup y.1 = some .cell ∧ ((cellsFrom (s.heap.objs.size + 1) scope.names []).lookup y.1).isSome = true) := fun y hy =>
    (S.par y.1 (List.of_mem_zip (a := y.1) (b := y.2) hy).1).imp id fun q => ⟨q, PySem.W.cellsFrom_some _ _ _ (.inl q)⟩
  apply codeAny_call_function hr.depth (inK _ _ lk) rfl S.co S.gen rfl (PySem.W.codeRec_of inK hcd)
  apply hb
  apply wpAny_newFunctionEnv_cells S.kind kinds
  rintro env rfl s1 x
  refine ⟨noLim.keeps x.toInCall.keep, codeAny_func ?_⟩
  obtain ⟨t, ht, hq⟩ := hbody cdv A outer s H vs Q E hgd (hr.deeper _) hsp
  have I : Inv (cxOf CX0 P w K mg base N qual scope f cdv A outer s H E) [] (L2.start N vs) H s1 := inv_start S hr.hd e0 (hlen _ _ _ _ hsp) r x
  apply wpAny_mono (ht.run [] s1 (L2.start N vs) H _ I hq) _ fun _ _ z => z
  intro fl s' hs
  have fin : ∀ {τ : L2.St} {H' : Hp} {v : V} {u : Value}, Inv (cxOf CX0 P w K mg base N qual scope f cdv A outer s H E) [] τ H' s' → RelV v u → Q v H' → CE outer P w H s Q u s' := fun {_ H' v _} J rv q => ⟨v, H', J.os, J.bare, J.base, J.hok, rv, q⟩
  match fl, hs with
  | .ret u, ⟨v, τ, H', J, rv, q⟩ => exact fin J rv q
  | .next, ⟨τ, H', J, q⟩ => exact fin (v := V.non) (u := Value.none) J rfl q
  | .brk, ⟨_, _, _, q⟩ => exact q.elim
  | .cont, ⟨_, _, _, q⟩ => exact q.elim
structure HasG (P : Program) (w : World) (K : PySem.W.Frag) (mg : Str → Option Value) (base : Heap) (k : Nat) (x : Str) {α : Type} (F : Fn α) : Prop where
  ex : ∃ f fd, mg x = some (.ref f) ∧ PySem.W.keepIn K (.ref f) = true ∧ Binds K fd F.ps [] ∧ FnG P w K mg base k f fd F.ps F.sp
section
variable {X : Cx} {sl : List Ent} {k : Nat} {x : Str} {α : Type} {F : Fn α} {p pos : Pos} {e : Expr} {es : List Expr} {Rs : List RV} {r : Res}
theorem run_fnG {f : Addr} {fd : FuncData} {ps : List Str} {sp : Sp} {pins : List (Addr × Obj)} {σ : L2.St} {H : Hp} {s : Shared} {Q : VK} {us : List Value} {vs : List V} (F : FnG X.prog X.w X.K X.mg X.base k f fd ps sp) (hgd : X.A.guards = some []) (hr : Room k X.A) (hb : Binds X.K fd ps [])
    (I : Inv X pins σ H s) (rv : Vals vs us) (h : sp vs H Q (fun _ _ _ => False)) : wpAny (model X.prog X.w) X.A (call (.ref f) us) (EP X pins σ Q) X.xe s := by
  have hl : us.length = ps.length := by rw [← rv.length]; exact F.len _ _ _ _ h
  have hb' := hb s us I.kIn (by rw [List.append_nil]; exact hl)
  rw [List.append_nil] at hb'
  apply wpAny_call
  apply codeAny_mono (F.run X.A X.stack s H ⟨us, []⟩ us vs Q _ hgd hr I.env0 hb' rv h)
  intro r1 s' hq
  match r1, hq with
  | .error e, hq => exact pass0 pins σ H s e s' I hq
  | .ok (.ret u), hq => exact I.after hq
  | .ok .next, hq => exact False.elim hq
  | .ok .brk, hq => exact False.elim hq
  | .ok .cont, hq => exact False.elim hq
/-- a call whose arguments are one of several -/
theorem e_callGE (h : HasG X.prog X.w X.K X.mg X.base k x F) (hgd : X.A.guards = some []) (hr : Room k X.A) (ha : EvA X (e :: es) sl Rs) (op : ∀ G vs, PVs G Rs vs → ∃ z, PVs G (F.args z) vs ∧ F.pre z ∧ F.res z = r) (hg : Gl X x := by rfl) (hdb : (x == ("__debug__" : Str)) = false := by decide)
    (he : starEach (e :: es) X.env = (false, eval e X.env) :: starEach es X.env := by rfl) (hpl : (backTo pos (starEach es X.env)).any (·.1) = false := by rfl) : EvR X (.Call (.Name x p) (e :: es) [] pos) sl r := by
  obtain ⟨f, fd, hm, hk, hb, ok⟩ := h.ex
  intro pins s σ G H Q I a q
  apply wpAny_Call_Name_kw (ld_glob I hg hm _ hdb)
  refine PySem.W.callWith_K (h₀ := X.base) I.ok.mod.kin hk (thn ((pcanA (X := X) (es := e :: es)).run pos pins s σ H _ I (ha.can a (Q := fun vs H1 => F.sp vs H1 Q fun _ _ _ => False) fun vs G' H' g rr => ?_)) fun us s1 ⟨vs, H1, I1, rv, q1⟩ => ⟨I1.kIn, ?_⟩) he hpl
  · obtain ⟨z, h1, h2, h3⟩ := op G' vs rr
    refine ⟨z, G', g.s, h1, h2, ?_⟩
    rw [h3]
    exact q.gr g
  · exact run_fnG ok hgd hr hb I1 rv q1
theorem e_callG (h : HasG X.prog X.w X.K X.mg X.base k x F) (hgd : X.A.guards = some []) (hr : Room k X.A) (z : α) (ha : EvA X (e :: es) sl (F.args z)) (hp : F.pre z) (hg : Gl X x := by rfl) (hdb : (x == ("__debug__" : Str)) = false := by decide)
    (he : starEach (e :: es) X.env = (false, eval e X.env) :: starEach es X.env := by rfl) (hpl : (backTo pos (starEach es X.env)).any (·.1) = false := by rfl) : EvR X (.Call (.Name x p) (e :: es) [] pos) sl (F.res z) :=
  e_callGE h hgd hr ha (fun G vs r => ⟨z, r, hp, rfl⟩) hg hdb he hpl
end
section
variable {P : Program} {w : World} {K : PySem.W.Frag} {mg : Str → Option Value} {base : Heap}
def BodyG (P : Program) (w : World) (K : PySem.W.Frag) (mg : Str → Option Value) (base : Heap) (qual : Str) (st : Stmt) (f : Addr) (N : List Str) (k : Nat) {α : Type} (F : Fn α) : Prop :=
  ∀ (cdv : Value) (A : Around) (outer : List Env) (s : Shared) (H : Hp) (E : XK) (a : α) (B : Base) (L : Hp) (D : Ends), A.guards = some [] → Room k (A.deeper (envOfC qual (defScope st) s.heap.objs.size f cdv)) → F.pre a → (∀ b, ¬ B.M b) → Post B.G B.H D.rt (F.res a) → (∀ σ H', D.rt .non H' → D.nx σ H') →
    Wp (cxOf CX0 P w K mg base N qual (defScope st) f cdv A outer s H E).nox B L (defBody st) D (ents N.length (F.args a))
theorem fnG_of {qual x : Str} {st : Stmt} {f : Addr} {fd : FuncData} {N : List Str} {k : Nat} {α : Type} {F : Fn α} (F0 : FnP K x qual st f fd) (S : FnScope N F.ps (defScope st)) (hl : ∀ a, (F.args a).length = F.ps.length)
    (body : BodyG P w K mg base qual st f N k F) : FnG P w K mg base (k + 1) f fd F.ps F.sp := by
  refine FunD.okG F0 S (fun vs H Q E h => ?_) (fun cdv A outer s H vs Q E hgd hr h => ?_)
  · obtain ⟨a, G, _, r, _⟩ := h
    rw [← r.len, hl]
  · obtain ⟨a, G, sm, r, hp, q⟩ := h
    refine ⟨_, PSs.nox pcanS, ?_⟩
    refine body cdv A outer s H E a ⟨G, H, NoM⟩ G { nx := fun _ H' => Q .non H', rt := Q } hgd hr hp (fun _ z => z) q (fun _ _ z => z) (L2.start N vs) G H ⟨sat_start sm r, Grow.refl sm, Same.refl _, fun i Rs p e _ => ?_⟩
    unfold ents at e
    rw [List.getElem?_append] at e
    split at e
    · rw [List.getElem?_map] at e
      cases q : (F.args a)[i]? with
      | none => rw [q] at e; cases e
      | some R' => rw [q] at e; cases e
    · rw [List.getElem?_replicate] at e
      split at e <;> cases e
theorem hasG_df {x : Str} {st : Stmt} {N ps : List Str} {k : Nat} {α : Type} {F : Fn α} (d : Df K mg x st) (S : FnScope N ps (defScope st))
    (hb : ∀ (kV doc pm : Value) (an : Option Addr) (cdv ct : Value) (us : List Value), us.length = ps.length → bindArgs (PySem.W.fnOf x x (defArgs st) (defBody st) (defScope st) .none kV doc pm an cdv ct) ⟨us, []⟩ = pure (ps.zip us)) (hps : F.ps = ps) (hl : ∀ a, (F.args a).length = F.ps.length)
    (body : ∀ f, BodyG P w K mg base x st f N k F) : HasG P w K mg base (k + 1) x F := by
  obtain ⟨f, fd, F0, hm⟩ := d
  subst hps
  exact ⟨f, fd, hm, F0.kp, F0.bindsN hb, fnG_of F0 S hl (body f)⟩
end
end Dl


set_option Elab.async false
set_option linter.all false
set_option maxRecDepth 100000
set_option maxHeartbeats 2000000
namespace Dl
open PySem PySem.Spec PyProof.Rows L2 ClX
/-! ### repr of data -/
/-- data of depth at most n that is shown by at most c signs -/
structure Show (n c : Nat) (d : PyData) : Prop where
  able : d.showable = true
  nodict : d.hasDict = false
  dep : d.depth ≤ n
  size : d.shown.length ≤ c
theorem sw_int {n : Nat} {i : Int} (h : i.natAbs.log2 < 1920) : Show n 1930 (.int i) := by
  refine ⟨by simp [PyData.showable, h], by simp [PyData.hasDict], by simp [PyData.depth], ?_⟩
  have e := int_text_length_le (k := 1920) (by decide) h
  show (Str.ofString (toString i)).length ≤ 1930
  rw [PySem.ofString_length]
  omega
theorem textFrom_le : ∀ (ts : List Str) (k : Nat) (acc : Str), (textFrom k acc ts).length ≤ acc.length + piled ts
  | [], k, acc => by show acc.length ≤ acc.length + 0; omega
  | t :: r, k, acc => by
    have ih := textFrom_le r (k + 1) (acc ++ (if k > 0 then ", " else "" : String) ++ t)
    have e : (acc ++ (if k > 0 then ", " else "" : String) ++ t).length ≤ acc.length + 2 + t.length := by
      rw [strLen_append, strLen_append]
      split
      · have e2 : ((", " : String) : Str).length = 2 := rfl
        omega
      · have e2 : (("" : String) : Str).length = 0 := rfl
        omega
    rw [piled_cons]
    show (textFrom (k + 1) _ r).length ≤ _
    omega
theorem sw_all {n c : Nat} : ∀ {ds : List PyData}, (∀ d ∈ ds, Show n c d) → PyData.showableAll ds = true ∧ PyData.hasDictAll ds = false ∧ PyData.depthAll ds ≤ n ∧ piled (PyData.shownAll ds) ≤ ds.length * (c + 2) ∧ (PyData.shownAll ds).length = ds.length
  | [], _ => ⟨by simp [PyData.showableAll], by simp [PyData.hasDictAll], by simp [PyData.depthAll], by simp [PyData.shownAll, piled], by simp [PyData.shownAll]⟩
  | d :: ds, h => by
    have h1 := h d (List.mem_cons_self ..)
    obtain ⟨k1, k2, k3, k4, k5⟩ := sw_all fun e he => h e (List.mem_cons_of_mem _ he)
    refine ⟨by rw [PyData.showableAll, h1.able, k1]; rfl, by rw [PyData.hasDictAll, h1.nodict, k2]; rfl, by rw [PyData.depthAll]; have := h1.dep; omega, ?_, by rw [PyData.shownAll, List.length_cons, List.length_cons, k5]⟩
    rw [PyData.shownAll, piled_cons, List.length_cons, Nat.succ_mul]
    have := h1.size
    omega
theorem sw_list {n c : Nat} {ds : List PyData} (h : ∀ d ∈ ds, Show n c d) {m : Nat} (hm : ds.length * (c + 2) + 2 ≤ m) : Show (n + 1) m (.list ds) := by
  obtain ⟨k1, k2, k3, k4, k5⟩ := sw_all h
  refine ⟨by rw [PyData.showable]; exact k1, by rw [PyData.hasDict]; exact k2, by rw [PyData.depth]; omega, ?_⟩
  rw [PyData.shown]
  unfold listText
  have e := textFrom_le (PyData.shownAll ds) 0 (("[" : String) : Str)
  have e1 : (("[" : String) : Str).length = 1 := rfl
  have e2 : (("]" : String) : Str).length = 1 := rfl
  rw [strLen_append]
  omega
theorem sw_tup {n c : Nat} {ds : List PyData} (h : ∀ d ∈ ds, Show n c d) {m : Nat} (hm : ds.length * (c + 2) + 3 ≤ m) : Show (n + 1) m (.tuple ds) := by
  obtain ⟨k1, k2, k3, k4, k5⟩ := sw_all h
  refine ⟨by rw [PyData.showable]; exact k1, by rw [PyData.hasDict]; exact k2, by rw [PyData.depth]; omega, ?_⟩
  rw [PyData.shown]
  unfold tupleText
  have e1 : (("(" : String) : Str).length = 1 := rfl
  have e3 : ((((if (PyData.shownAll ds).length == 1 then ",)" else ")" : String)) : Str)).length ≤ 2 := by split <;> decide
  rw [strLen_append, strLen_append]
  by_cases hn : PyData.shownAll ds = []
  · rw [hn] at e3 ⊢
    have e4 : (Str.join ", " ([] : List Str)).length = 0 := rfl
    omega
  · have := join_length_add (PyData.shownAll ds) hn
    omega
theorem sw_map {n c : Nat} {α : Type} {t : α → PyData} {xs : List α} (h : ∀ x ∈ xs, Show n c (t x)) : ∀ d ∈ xs.map t, Show n c d := fun d hd => by
  obtain ⟨x, hx, rfl⟩ := List.mem_map.mp hd
  exact h x hx
section
variable {X : Cx} {sl : List Ent} {a : Expr} {p pos : Pos} {R : RV} {d : PyData} {n c : Nat}
theorem call_reprD (hgd : X.A.guards = some []) (hu : X.A.units + 64 < cLine) : CallR X (.builtin "repr") (fun xs H Q => ∃ (b : Addr) (d : PyData), xs = [.ref b] ∧ Dp X.K H (.ref b) d ∧ Show 60 16000000 d ∧ Q (.str d.shown) H) := by
  intro pins s σ H xs us Q I r h
  obtain ⟨b, d, rfl, hd, sw, q⟩ := h
  rw [Vals.ref1 r]
  obtain ⟨as, rd⟩ := Dp.reads I d (.ref b) (.ref b) hd rfl
  have h1 := sw.dep
  have h2 := sw.size
  refine repr_of_reads' rd sw.able (fun z => by rw [sw.nodict] at z; cases z) hgd (by omega) (fun _ _ e => e) (fun h' u tk hk => ⟨.str d.shown, H, I.kept hk, ⟨u, rfl⟩, q⟩) (by rw [sizeLine_eq]; omega)
/-- repr(e) of a list or a tuple -/
theorem e_repr (hgd : X.A.guards = some []) (hu : X.A.units + 64 < cLine) (h : Ev X a sl R) (py : R.Py X.K d) (hr : ∀ G v, R.r G v → ∃ b, v = .ref b) (sw : Show n c d) (hm : X.mg "repr" = none) (hn : n ≤ 60 := by decide) (hc : c ≤ 16000000 := by decide) (hg : Gl X "repr" := by rfl) (he : starEach [a] X.env = [(false, eval a X.env)] := by rfl) : Ev X (.Call (.Name "repr" p) [a] [] pos) sl (iS d.shown) :=
  e_cb (rs := .v _) (call_reprD hgd hu) hm (by decide +kernel) (a1 h he) (fun vs G H Q s r q => by
    obtain ⟨v, rfl, hv⟩ := pv1 r
    obtain ⟨b, rfl⟩ := hr G v hv
    exact ⟨b, d, rfl, Dp.same s _ _ (py G _ hv), ⟨sw.able, sw.nodict, Nat.le_trans sw.dep hn, Nat.le_trans sw.size hc⟩, q _ G H (.refl s) ⟨_, rfl, rfl⟩⟩) hg (by decide) (by decide) he rfl
theorem ref_lst {K : PySem.W.Frag} {Rs : List RV} : ∀ G v, (rLst K Rs).r G v → ∃ b, v = .ref b := fun _ _ ⟨b, _, e, _⟩ => ⟨b, e⟩
theorem ref_tup {K : PySem.W.Frag} {Rs : List RV} : ∀ G v, (rTup K Rs).r G v → ∃ b, v = .ref b := fun _ _ ⟨b, _, e, _⟩ => ⟨b, e⟩
end
end Dl


set_option Elab.async false
set_option linter.all false
set_option maxRecDepth 100000
set_option maxHeartbeats 2000000
namespace Dl
open PySem PySem.Spec PyProof.Rows L2 ClX
section
variable {X : Cx} {sl : List Ent} {C : Addr} {fs gs : List (Str × RV)} {a b e : Expr} {es : List Expr} {pos p : Pos} {k : Nat} {α : Type} {F : Fn α} {Rs : List RV}
theorem instAt {pins : List (Addr × Obj)} {σ : L2.St} {H : Hp} {s : Shared} {x dx : Addr} {vs : List (Str × V)} (I : Inv X pins σ H s) (h : H x = some (.ins C dx vs)) : ∃ od, PySem.W.InstAt s.heap x (PySem.W.instObj C dx) C od := by
  obtain ⟨mA, J, _⟩ := ins_get I.hok h
  obtain ⟨od, J, _⟩ := J.look
  exact ⟨od, J⟩
theorem back_of {v : V} {u : Value} {Q : Value → Shared → Prop} {s : Shared} (r : RelV v u) (q : Q u s) : PySem.W.CmpBack Q u s := by
  cases v with
  | int i => obtain ⟨t, rfl⟩ := r; exact q
  | str i => obtain ⟨t, rfl⟩ := r; exact q
  | flt i => obtain ⟨t, rfl⟩ := r; exact q
  | byt i => obtain ⟨t, rfl⟩ := r; exact q
  | _ => cases r; exact q
/-- -x, an own one -/
theorem e_negC (h : HasMe X.prog X.w X.K X.mg X.base k C "__neg__" F) (hr : Room k X.A) (z : α) (ha : Ev X a sl (rIns C fs)) (hz : F.args z = [rIns C fs]) (hp : F.pre z) : EvR X (.UnaryOp .USub a pos) sl (F.res z) := by
  obtain ⟨f, fd, hm, hb, ok⟩ := h.ex
  have un : UnR X (unaryOp .USub) (fun x H Q => ∃ y dx vs, x = .ref y ∧ H y = some (.ins C dx vs) ∧ F.sp [.ref y] H Q fun _ _ _ => False) := by
    intro pins s σ H x v Q I rx ⟨y, dx, vs, ex, hy, q⟩
    subst ex
    cases rx
    obtain ⟨od, J⟩ := instAt I hy
    obtain ⟨m, hF⟩ := I.fr
    refine PySem.W.ksp_neg hF I.ok.mod.kin J hm.at_ hm.fn ?_
    exact run_fn (dvs := []) (ds := []) (E := fun _ _ _ => False) ok hr hb .nil pass0 I (vs := [.ref y]) (.cons rfl .nil) (by rw [List.append_nil]; exact q)
  refine evR_of (pe_un un pcan) fun σ G H Q s q => ha.can s fun v G1 H1 g1 r => ?_
  obtain ⟨y, dx, vs, e1, h1, _⟩ := id r
  subst e1
  exact ⟨y, dx, vs, rfl, g1.s _ _ h1, z, G1, g1.s, by rw [hz]; exact .cons r .nil, hp, q.gr g1⟩
/-- x + y of one own class -/
theorem e_addC {op : Operator} (h : HasMe X.prog X.w X.K X.mg X.base k C (PySem.dunder op.info.2) F) (hf : PySem.W.selfFirst X.K C = true) (hr : Room k X.A) (z : α) (ha : Ev X a sl (rIns C fs)) (hb' : Ev X b sl (rIns C gs)) (hz : F.args z = [rIns C fs, rIns C gs]) (hp : F.pre z) : EvR X (.BinOp a op b pos) sl (F.res z) := by
  obtain ⟨f, fd, hm, hb, ok⟩ := h.ex
  have bin : OpR X (binaryOp op) (fun x y H Q => ∃ x1 dx xs y1 dy ys, x = .ref x1 ∧ y = .ref y1 ∧ H x1 = some (.ins C dx xs) ∧ H y1 = some (.ins C dy ys) ∧ F.sp [.ref x1, .ref y1] H Q fun _ _ _ => False) := by
    intro pins s σ H x y v u Q I rx ry ⟨x1, dx, xs, y1, dy, ys, ex, ey, h1, h2, q⟩
    subst ex ey
    cases rx
    cases ry
    obtain ⟨od, J⟩ := instAt I h1
    obtain ⟨od2, J2⟩ := instAt I h2
    obtain ⟨m, hF⟩ := I.fr
    refine PySem.W.binop_K hF I.ok.mod.kin J J2.type hf hm.at_ hm.fn ?_
    refine wpAny_mono (run_fn (dvs := []) (ds := []) (E := fun _ _ _ => False) ok hr hb .nil pass0 I (vs := [.ref x1, .ref y1]) (.cons rfl (.cons rfl .nil)) (by rw [List.append_nil]; exact q)) (fun r s' hq => ?_) fun _ _ z => z
    obtain ⟨v', H', I', rv, q'⟩ := hq
    exact back_of rv ⟨v', H', I', rv, q'⟩
  refine evR_of (pe_op bin pcan pcan) fun σ G H Q s q => ha.can s fun v G1 H1 g1 r1 => hb'.can (s.gr g1) fun u G2 H2 g2 r2 => ?_
  obtain ⟨x1, dx, xs, e1, h1, _⟩ := id r1
  obtain ⟨y1, dy, ys, e2, h2, _⟩ := id r2
  subst e1 e2
  exact ⟨x1, dx, xs, y1, dy, ys, rfl, rfl, g2.s _ _ (g2.g _ _ h1), g2.s _ _ h2, z, G2, g2.s, by rw [hz]; exact .cons ((rIns C fs).m g2.g r1) (.cons r2 .nil), hp, (q.gr g1).gr g2⟩
/-- a call of an instance, its arguments done -/
theorem callWith_inst {M : Model} {A : Around} {E : Value → Shared → Prop} {s : Shared} {x : Addr} {ox : Obj} {args : List (Bool × Sem Value)} {Q : Value → Shared → Prop} (hd : ox.data = .plain) (hpl : (args.any (·.1) || false) = false)
    (h : wpAny M A (evalArgs (.ref x) true args []) (fun w s1 => (∃ od, PySem.W.InstAt s1.heap x ox C od) ∧ wpAny M A (call (.ref x) w.pos w.kw) Q E s1) E s) : wpAny M A (callWith pos (.ref x) [] args []) Q E s := by
  unfold callWith
  apply wpAny_bind
  apply wpAny_holding
  apply wpAny_mono h _ fun _ _ y => y
  rintro w s1 ⟨⟨od, J⟩, q⟩
  apply wpAny_bind
  apply wpAny_standAt
  have look := PySem.W.kco_keeper (M := M) J hd
  have e0 : (args.any (·.1) || ([] : List (Option Str × Sem Value)).any (·.1.isNone)) = false := hpl
  simp only [e0]
  refine wpAny_bind (look.here ?_)
  have fin : ∀ {t : Sem Value}, wpAny M A t Q E s1 → wpAny M A (t >>= fun r => holding [r] point >>= fun _ => pure r) Q E s1 := fun ht => wpAny_bind (wpAny_mono ht (fun _ _ hr => wpAny_bind (wpAny_holding (wpAny_point (wpAny_pure hr)))) fun _ _ y => y)
  exact fin (wpAny_operateT q)
/-- x(e, ..), x a name that holds an instance with an own __call__ -/
theorem e_callC {x : Str} (h : HasMe X.prog X.w X.K X.mg X.base k C "__call__" F) (hfi : ∀ f, PySem.W.findIn X.K (.ref C) "__call__" = some (some (.ref f)) → PySem.W.fnIn X.K f = true) (hr : Room k X.A) (z : α) (ho : Ev X (.Name x p) sl (rIns C fs)) (ha : EvA X (e :: es) sl Rs) (hz : F.args z = rIns C fs :: Rs) (hp : F.pre z)
    (he : starEach (e :: es) X.env = (false, eval e X.env) :: starEach es X.env := by rfl) (hpl : (backTo pos (starEach es X.env)).any (·.1) = false := by rfl) : EvR X (.Call (.Name x p) (e :: es) [] pos) sl (F.res z) := by
  obtain ⟨f, fd, hm, hb, ok⟩ := h.ex
  intro pins s σ G H Q I a q
  apply wpAny_Call_Name_kw
  refine thn (ho pins s σ G H (fun v H1 => ∃ G1, Gr G H G1 H1 ∧ (rIns C fs).r G1 v) I a fun v G1 H1 g1 r1 => ⟨G1, g1, r1⟩) fun u s1 ⟨v, H1, I1, ru, G1, g1, r1⟩ => ?_
  obtain ⟨y, dx, vs, e1, h1, _⟩ := id r1
  subst e1
  cases ru
  have pl : ((backTo pos (starEach (e :: es) X.env)).any (·.1) || false) = false := by
    rw [he]
    show ((false || (backTo pos (starEach es X.env)).any (·.1)) || false) = false
    rw [hpl]
    rfl
  refine callWith_inst (C := C) (ox := PySem.W.instObj C dx) rfl pl ?_
  have run : wpAny (model X.prog X.w) X.A (spliced (backTo pos (starEach (e :: es) X.env))) (fun us s2 => (∃ od, PySem.W.InstAt s2.heap y (PySem.W.instObj C dx) C od) ∧ wpAny (model X.prog X.w) X.A (call (.ref y) us) (EP X pins σ Q) X.xe s2) X.xe s1 := by
    refine thn ((pcanA (X := X) (es := e :: es)).run pos pins s1 σ H1 _ I1 (ha.can (a.gr g1) (Q := fun ws H2 => H2 y = some (.ins C dx vs) ∧ F.sp (.ref y :: ws) H2 Q fun _ _ _ => False) fun ws G2 H2 g2 r2 => ⟨g2.s _ _ (g2.g _ _ h1), z, G2, g2.s, ?_, hp, (q.gr g1).gr g2⟩)) fun us s2 ⟨ws, H2, I2, rv, hy, q2⟩ => ?_
    · rw [hz]; exact .cons ((rIns C fs).m g2.g r1) r2
    · obtain ⟨od, J⟩ := instAt I2 hy
      refine ⟨⟨od, J⟩, ?_⟩
      have hb' := hb s2 (.ref y :: us) I2.kIn (by rw [List.append_nil]; have := ok.len _ _ _ _ q2; rw [List.length_cons, rv.length] at this; rw [List.length_cons]; exact this)
      rw [List.append_nil] at hb'
      apply wpAny_call
      refine PySem.W.kco_code I2.kIn J rfl hm.at_ hm.fn (hfi f hm.at_) ?_
      refine codeAny_mono (ok.run X.A X.stack s2 H2 ⟨.ref y :: us, []⟩ (.ref y :: us) (.ref y :: ws) Q (fun _ _ _ => False) hr I2.env0 hb' (.cons rfl rv) q2) fun r1 s' hq => ?_
      match r1, hq with
      | .error e, hq => exact pass0 pins σ H2 s2 e s' I2 hq
      | .ok (.ret u), hq => exact I2.after hq
      | .ok .next, hq => exact False.elim hq
      | .ok .brk, hq => exact False.elim hq
      | .ok .cont, hq => exact False.elim hq
  rw [he] at run ⊢
  exact PySem.Calls.evalArgs_plain run
end
end Dl


set_option Elab.async false
set_option linter.all false
set_option maxRecDepth 100000
set_option maxHeartbeats 2000000
namespace Dl
open PySem PySem.Spec PyProof.Rows L2 ClX
/-! ### a def of a value and two own objects: the first is read, the second changed -/
structure FnT (α : Type) where
  ps : List Str
  arg : α → RV
  o1 : α → OV
  o0 : α → OV
  pre : α → Prop
  o2 : α → OV
def FnT.sp {α : Type} (F : FnT α) : Sp := fun vs H Q _ => ∃ z G u p1 c1 p o, Same G H ∧ vs = [u, .ref p1, .ref p] ∧ (F.arg z).r G u ∧ H p1 = some c1 ∧ G p1 = none ∧ (F.o1 z).r G p1 c1 ∧ H p = some o ∧ G p = none ∧ (F.o0 z).r G p o ∧ p1 ≠ p ∧ F.pre z ∧
  ∀ G' H' c' o', Grow (fun a => a = p1 ∨ a = p) G H G' H' → H' p1 = some c' → G' p1 = none → (F.o1 z).r G' p1 c' → H' p = some o' → G' p = none → (F.o2 z).r G' p o' → Q .non H'
structure HasT (P : Program) (w : World) (K : PySem.W.Frag) (mg : Str → Option Value) (base : Heap) (k : Nat) (x : Str) {α : Type} (F : FnT α) : Prop where
  ex : ∃ f fd, mg x = some (.ref f) ∧ PySem.W.keepIn K (.ref f) = true ∧ Binds K fd F.ps [] ∧ FnOk P w K mg base CX0 k f fd F.ps F.sp
section
variable {P : Program} {w : World} {K : PySem.W.Frag} {mg : Str → Option Value} {base : Heap}
def BodyT (P : Program) (w : World) (K : PySem.W.Frag) (mg : Str → Option Value) (base : Heap) (qual : Str) (st : Stmt) (f : Addr) (N : List Str) (k : Nat) {α : Type} (F : FnT α) : Prop :=
  ∀ (cdv : Value) (A : Around) (outer : List Env) (s : Shared) (H : Hp) (E : XK) (z : α) (p1 p : Addr) (B : Base) (L : Hp) (D : Ends), Room k (A.deeper (envOfC qual (defScope st) s.heap.objs.size f cdv)) → F.pre z →
    (∀ σ G' H' sl O, At B L sl σ G' H' → sl[1]? = some (.mu (tie p1 (F.o1 z))) → sl[2]? = some (.mu (tie p O)) → (∀ G a o, O.r G a o → (F.o2 z).r G a o) → D.nx σ H') →
    Wp (cxOf CX0 P w K mg base N qual (defScope st) f cdv A outer s H E).nox B L (defBody st) D (.val (F.arg z) :: .mu (tie p1 (F.o1 z)) :: .mu (tie p (F.o0 z)) :: List.replicate (N.length - 3) .no)
theorem fnOk_ofT {qual x : Str} {params : Arguments} {dvs : List V} {st : Stmt} {f : Addr} {fd : FuncData} {N : List Str} {k : Nat} {α : Type} {F : FnT α} (F0 : FunD K x qual params (defBody st) (defScope st) dvs [] f fd) (S : FnScope N F.ps (defScope st)) (hl : F.ps.length = 3)
    (body : BodyT P w K mg base qual st f N k F) : FnOk P w K mg base CX0 (k + 1) f fd F.ps F.sp := by
  refine FunD.ok F0 S (fun vs H Q E h => ?_) (fun cdv A outer s H vs Q E hr h => ?_)
  · obtain ⟨z, G, u, p1, c1, p, o, _, rfl, _⟩ := h
    exact hl.symm
  · obtain ⟨z, G, u, p1, c1, p, o, sm, rfl, hu, h1, g1, r1, h2, g2, r2, ne, hpre, q⟩ := h
    refine ⟨_, PSs.nox pcanS, ?_⟩
    have st0 : L2.start N [u, .ref p1, .ref p] = some u :: some (.ref p1) :: some (.ref p) :: List.replicate (N.length - 3) none := rfl
    have no : ∀ (i : Nat) (x : Ent), (List.replicate (N.length - 3) Ent.no)[i]? = some x → x = .no := fun i x e => by
      rw [List.getElem?_replicate] at e
      split at e
      · exact (Option.some.inj e).symm
      · cases e
    have sat : Sat (.val (F.arg z) :: .mu (tie p1 (F.o1 z)) :: .mu (tie p (F.o0 z)) :: List.replicate (N.length - 3) .no) (L2.start N [u, .ref p1, .ref p]) G H := by
      rw [st0]
      refine ⟨sm, fun i R e => ?_, fun i O e => ?_, fun i j O O' nij e1 e2 => ?_, by simp⟩
      · match i, e with
        | 0, e => cases e; exact ⟨u, rfl, hu⟩
        | 1, e => cases e
        | 2, e => cases e
        | i + 3, e => exact absurd (no i _ e) (by intro z; cases z)
      · match i, e with
        | 0, e => cases e
        | 1, e => cases e; exact ⟨p1, c1, rfl, h1, g1, rfl, r1⟩
        | 2, e => cases e; exact ⟨p, o, rfl, h2, g2, rfl, r2⟩
        | i + 3, e => exact absurd (no i _ e) (by intro z; cases z)
      · match i, j, e1, e2 with
        | 0, _, e1, _ => cases e1
        | _, 0, _, e2 => cases e2
        | 1, 1, _, _ => exact absurd rfl nij
        | 2, 2, _, _ => exact absurd rfl nij
        | 1, 2, _, _ => intro z; cases z; exact ne rfl
        | 2, 1, _, _ => intro z; cases z; exact ne rfl
        | i + 3, _, e1, _ => exact absurd (no i _ e1) (by intro z; cases z)
        | _, j + 3, _, e2 => exact absurd (no j _ e2) (by intro z; cases z)
    refine body cdv A outer s H E z p1 p ⟨G, H, fun a => a = p1 ∨ a = p⟩ G { nx := fun _ H' => Q .non H', rt := Q } hr hpre (fun σ G' H' sl O a e1 e2 ho => ?_) _ G H ⟨sat, Grow.refl sm, Same.refl _, fun i O q e eq => ?_⟩
    · obtain ⟨q1, c', k1, k2, k3, rfl, k4⟩ := a.sat.mu 1 _ e1
      obtain ⟨q2, o', m1, m2, m3, rfl, m4⟩ := a.sat.mu 2 _ e2
      exact q G' H' c' o' a.gr k2 k3 k4 m2 m3 (ho _ _ _ m4)
    · rw [st0] at eq
      match i, e, eq with
      | 0, e, _ => cases e
      | 1, e, eq => cases eq; exact .inl (.inl rfl)
      | 2, e, eq => cases eq; exact .inl (.inr rfl)
      | i + 3, e, _ => exact absurd (no i _ e) (by intro z; cases z)
theorem hasT_df {x : Str} {st : Stmt} {N ps : List Str} {k : Nat} {α : Type} {F : FnT α} (d : Df K mg x st) (S : FnScope N ps (defScope st))
    (hb : ∀ (kV doc pm : Value) (an : Option Addr) (cdv ct : Value) (us : List Value), us.length = ps.length → bindArgs (PySem.W.fnOf x x (defArgs st) (defBody st) (defScope st) .none kV doc pm an cdv ct) ⟨us, []⟩ = pure (ps.zip us)) (hps : F.ps = ps) (hl : F.ps.length = 3)
    (body : ∀ f, BodyT P w K mg base x st f N k F) : HasT P w K mg base (k + 1) x F := by
  obtain ⟨f, fd, h1, h2⟩ := d
  subst hps
  exact ⟨f, fd, h2, h1.kp, h1.bindsN hb, fnOk_ofT h1 S hl (body f)⟩
end
section
variable {X : Cx} {B : Base} {L : Hp} {sl : List Ent} {D : Ends} {pos : Pos} {rest : List Stmt} {R : RV} {Rs : List RV}
theorem w_fallT {O : OV} {p1 p : Addr} {α : Type} {F : FnT α} {z : α} (hN : ∀ σ G' H' sl O, At B L sl σ G' H' → sl[1]? = some (.mu (tie p1 (F.o1 z))) → sl[2]? = some (.mu (tie p O)) → (∀ G a o, O.r G a o → (F.o2 z).r G a o) → D.nx σ H') (e1 : sl[1]? = some (.mu (tie p1 (F.o1 z)))) (e : sl[2]? = some (.mu (tie p O))) (h : ∀ G a o, O.r G a o → (F.o2 z).r G a o) : Wp X B L [] D sl :=
  fun σ G H a pins s I => (pss_nil (X := X)).run pins s σ H D I (hN σ G H sl O a e1 e h)
theorem At.called2 {σ : L2.St} {G H G' H' : Hp} (a : At B L sl σ G H) {i j : Nat} {O1 O O' : OV} {p1 p : Addr} {c o : HO} (ei : sl[i]? = some (.mu O1)) (esi : σ[i]? = some (some (.ref p1))) (ej : sl[j]? = some (.mu O)) (esj : σ[j]? = some (some (.ref p))) (g : Grow (fun b => b = p1 ∨ b = p) G H G' H')
    (hc : H' p1 = some c) (gc : G' p1 = none) (rc : O1.r G' p1 c) (hp : H' p = some o) (gp : G' p = none) (r : O'.r G' p o) : At B L (sl.set j (.mu O')) σ G' H' := by
  have mi := a.ow i O1 p1 ei esi
  have mj := a.ow j O p ej esj
  refine ⟨⟨g.s, fun l R el => ?_, fun l O2 el => ?_, fun l m O2 O3 ne e1 e2 => ?_, by rw [List.length_set]; exact a.sat.len⟩, ⟨a.gr.g.trans g.g, fun b u m e => ?_, fun b e => g.t b (a.gr.t b e), g.s, fun b e => (g.n b (a.gr.t b e)).trans (a.gr.n b e)⟩, a.lo.trans g.g, fun l O2 q el eq => ?_⟩
  · rcases getElem?_set_cases el with ⟨_, z⟩ | ⟨n, z⟩
    · cases z
    · obtain ⟨v, k1, k2⟩ := a.sat.val l R z
      exact ⟨v, k1, R.m g.g k2⟩
  · rcases getElem?_set_cases el with ⟨rfl, z⟩ | ⟨n, z⟩
    · cases z
      exact ⟨p, o, esj, hp, gp, r⟩
    · obtain ⟨q, u, k1, k2, k3, k4⟩ := a.sat.mu l O2 z
      by_cases li : l = i
      · subst li
        rw [ei] at z
        cases z
        rw [esi] at k1
        cases k1
        exact ⟨_, c, esi, hc, gc, rc⟩
      · have n1 : q ≠ p1 := fun e => by
          subst e
          exact a.sat.dis l i O2 O1 li z ei (k1.trans esi.symm)
        have n2 : q ≠ p := fun e => by
          subst e
          exact a.sat.dis l j O2 O n z ej (k1.trans esj.symm)
        exact ⟨q, u, k1, g.h q u (fun z => z.elim n1 n2) k2, g.out k2 k3, O2.m g.g k4⟩
  · have f : ∀ (k : Nat) (R : OV), (sl.set j (.mu O'))[k]? = some (.mu R) → ∃ R', sl[k]? = some (.mu R') := fun k R ek => by
      rcases getElem?_set_cases ek with ⟨rfl, _⟩ | ⟨_, z⟩
      · exact ⟨_, ej⟩
      · exact ⟨_, z⟩
    obtain ⟨R1, k1⟩ := f l O2 e1
    obtain ⟨R2, k2⟩ := f m O3 e2
    exact a.sat.dis l m R1 R2 ne k1 k2
  · have k := a.gr.h b u m e
    refine g.h b u (fun z => ?_) k
    have out : ∀ {y : Addr}, B.M y ∨ B.H y = none → b = y → False := fun h z => by
      subst z
      rcases h with h | h
      · exact m h
      · rw [h] at e; cases e
    exact z.elim (out mi) (out mj)
  · rcases getElem?_set_cases el with ⟨rfl, _⟩ | ⟨_, z⟩
    · exact a.ow l O q ej eq
    · exact a.ow l O2 q z eq
/-- f(e, y1, y2) as a statement, y2 changed -/
theorem w_callT (i j : Nat) {x y1 y2 : Str} {e : Expr} {p q1 q2 p2 : Pos} {k : Nat} {α : Type} {F : FnT α} (h : HasT X.prog X.w X.K X.mg X.base k x F) (hr : Room k X.A) (z : α) (ei : sl[i]? = some (.mu (F.o1 z))) (ej : sl[j]? = some (.mu (F.o0 z))) (hij : i ≠ j) (ha : Ev X e sl (F.arg z)) (hp : F.pre z) (kk : Wp X B L rest D (sl.set j (.mu (F.o2 z)))) (hg : Gl X x := by rfl) (hdb : (x == ("__debug__" : Str)) = false := by decide)
    (hN1 : X.N[i]? = some y1 := by rfl) (hN2 : X.N[j]? = some y2 := by rfl) (hv1 : Vis X.env.scope y1 := by first | exact Or.inl rfl | exact Or.inr (Or.inl rfl) | exact Or.inr (Or.inr rfl)) (hv2 : Vis X.env.scope y2 := by first | exact Or.inl rfl | exact Or.inr (Or.inl rfl) | exact Or.inr (Or.inr rfl)) (hd1 : (y1 == ("__debug__" : Str)) = false := by decide) (hd2 : (y2 == ("__debug__" : Str)) = false := by decide) (hcd1 : (y1 == ("__classdict__" : Str)) = false := by decide) (hcd2 : (y2 == ("__classdict__" : Str)) = false := by decide)
    (he : starEach [e, .Name y1 q1, .Name y2 q2] X.env = (false, eval e X.env) :: starEach [.Name y1 q1, .Name y2 q2] X.env := by rfl) (he1 : starEach [.Name y1 q1, .Name y2 q2] X.env = (false, eval (.Name y1 q1) X.env) :: starEach [.Name y2 q2] X.env := by rfl) (he2 : starEach [.Name y2 q2] X.env = [(false, eval (.Name y2 q2) X.env)] := by rfl) (hpl : (backTo p2 (starEach [.Name y1 q1, .Name y2 q2] X.env)).any (·.1) = false := by rfl) (hs : swapsWith (.Call (.Name x p) [e, .Name y1 q1, .Name y2 q2] [] p2) none pos.line X.env = pure false := by rfl) :
    Wp X B L (.Expr (.Call (.Name x p) [e, .Name y1 q1, .Name y2 q2] [] p2) pos :: rest) D sl := by
  obtain ⟨f, fd, hm, hk, hb, ok⟩ := h.ex
  refine wp_of (ps_expr (pe_call ok hr hg hm hk hb .nil pass0 (pa_cons pcan (pa_cons (pe_var hN1 hv1 hd1 hcd1) (pa_cons (pe_var hN2 hv2 hd2 hcd2) pa_nil he2) he1) he) hdb he hpl) hs) fun σ G H a => ha.can a.sat fun u G1 H1 g1 r1 => ?_
  have a1 := a.go g1
  obtain ⟨p1, c1, k1, k2, k3, k4⟩ := a1.sat.mu i _ ei
  obtain ⟨p0, o, m1, m2, m3, m4⟩ := a1.sat.mu j _ ej
  refine ⟨.ref p1, k1, .ref p0, m1, ?_⟩
  refine show F.sp [u, .ref p1, .ref p0] H1 (fun _ H1 => (dgo D X rest).nx σ H1) E0 from ?_
  refine ⟨z, G1, u, p1, c1, p0, o, g1.s, rfl, r1, k2, k3, k4, m2, m3, m4, fun e => ?_, hp, fun G2 H2 c' o' g2 b1 b2 b3 b4 b5 b6 => ?_⟩
  · subst e
    exact a1.sat.dis i j _ _ hij ei ej (k1.trans m1.symm)
  · exact kk σ G2 H2 (a1.called2 ei k1 ej m1 g2 b1 b2 b3 b4 b5 b6)
/-- y[j], y[l] = e, e2 -/
theorem w_swap (i : Nat) {y : Str} {e e2 b b2 : Expr} {p1 p2 p3 p4 pt pt2 : Pos} {kt k2} {t : Addr → Prop} {j l : Nat} {R1 R2 : RV} (hc : X.calm = true) (ei : sl[i]? = some (.mu (oT t Rs))) (h : Ev X e sl R1) (h' : Ev X e2 sl R2) (hj : Ev X b sl (iI (j : Int))) (hl : Ev X b2 sl (iI (l : Int))) (hlt : j < Rs.length) (hlt2 : l < Rs.length)
    (hj' : ∀ Rs', Ev X b2 (sl.set i (.mu (oT t Rs'))) (iI (l : Int))) (k : Wp X B L rest D (sl.set i (.mu (oT t ((Rs.set j R1).set l R2)))))
    (hg : PG X (.Subscript (.Name y p1) b p2) (gSub (tVar i) (can X b) rSetL) := by exact pg_sub (pv _) pcan set_list) (hg2 : PG X (.Subscript (.Name y p3) b2 p4) (gSub (tVar i) (can X b2) rSetL) := by exact pg_sub (pv _) pcan set_list)
    (hs : swapsWithSole [.Tuple [.Subscript (.Name y p1) b p2, .Subscript (.Name y p3) b2 p4] kt pt] (.Tuple [e, e2] k2 pt2) pos.line X.env = pure false := by rfl) (hw : swappedStores [.Tuple [.Subscript (.Name y p1) b p2, .Subscript (.Name y p3) b2 p4] kt pt] (.Tuple [e, e2] k2 pt2) X.env = pure none := by rfl)
    (h1 : (assignEach [.Tuple [.Subscript (.Name y p1) b p2, .Subscript (.Name y p3) b2 p4] kt pt] X.env).map (·.2) = [assign (.Tuple [.Subscript (.Name y p1) b p2, .Subscript (.Name y p3) b2 p4] kt pt) X.env] := by rfl)
    (h2 : (assignEach [Expr.Subscript (.Name y p1) b p2, Expr.Subscript (.Name y p3) b2 p4] X.env).map (·.2) = assign (.Subscript (.Name y p1) b p2) X.env :: (assignEach [Expr.Subscript (.Name y p3) b2 p4] X.env).map (·.2) := by rfl) (h2' : (assignEach [Expr.Subscript (.Name y p3) b2 p4] X.env).map (·.2) = [assign (.Subscript (.Name y p3) b2 p4) X.env] := by rfl)
    (h3 : (assignEach [Expr.Subscript (.Name y p1) b p2, Expr.Subscript (.Name y p3) b2 p4] X.env).length = 2 := by rfl) (h4 : (assignEach [Expr.Subscript (.Name y p1) b p2, Expr.Subscript (.Name y p3) b2 p4] X.env).findIdx? (·.1) = none := by rfl)
    (he : starEach [e, e2] X.env = (false, eval e X.env) :: starEach [e2] X.env := by rfl) (he' : starEach [e2] X.env = [(false, eval e2 X.env)] := by rfl) :
    Wp X B L (.Assign [.Tuple [.Subscript (.Name y p1) b p2, .Subscript (.Name y p3) b2 p4] kt pt] (.Tuple [e, e2] k2 pt2) pos :: rest) D sl :=
  wp_of (ps_asg (pe_tup pcanA) (pg_tup hc (pgs_cons hg (pgs_cons hg2 pgs_nil h2') h2) h3 h4) hs hw h1) fun σ G H a => (a2 h h' he he').can a.sat fun vs G0 H0 g0 r0 => by
    refine ⟨by rw [← r0.len]; show 2 ≤ sizeLine; decide, fun tp htp => ?_⟩
    obtain ⟨u1, u2, rfl, k1, k2⟩ := pv2 r0
    have gN : Gr G H (upd G0 tp (.tup [u1, u2])) (upd H0 tp (.tup [u1, u2])) := g0.trans (Gr.new g0.s htp)
    have an := a.go gN
    have s0 : Same G0 (upd G0 tp (.tup [u1, u2])) := same_new (g0.s.free htp)
    refine ⟨tp, _, rfl, SqT.of upd_same, rfl, u1, _, rfl, ?_⟩
    obtain ⟨pl, ws, m1, m2, m3, m4⟩ := an.sat.own i Rs ei
    refine ⟨.ref pl, m1, hj.can an.sat fun u G2 H2 g2 ⟨m, e2, ej⟩ => ?_⟩
    subst ej
    have hlw : j < ws.length := by rw [← m4.len]; exact hlt
    refine ⟨pl, ws, (j : Int), j, rfl, e2, g2.hs _ _ m2, ?_, u2, _, rfl, ?_⟩
    · unfold ixN
      rw [if_pos (by omega), if_pos (by omega)]
      simp
    · have a3 := (an.go g2).change ei m1 ((m4.mono g2.g).set (R1.m (s0.trans g2.g) k1) j)
      have hil : i < sl.length := (List.getElem?_eq_some_iff.mp ei).1
      have ei3 : (sl.set i (.mu (oT t (Rs.set j R1))))[i]? = some (.mu (oT t (Rs.set j R1))) := List.getElem?_set_self hil
      obtain ⟨pl3, ws3, n1, n2, n3, n4⟩ := a3.sat.own i _ ei3
      rw [m1] at n1
      cases n1
      refine ⟨.ref pl, m1, (hj' _).can a3.sat fun u G4 H4 g4 ⟨m', e4, ej4⟩ => ?_⟩
      subst ej4
      have hlw3 : l < ws3.length := by rw [← n4.len, List.length_set]; exact hlt2
      refine ⟨pl, ws3, (l : Int), l, rfl, e4, g4.hs _ _ n2, ?_, rfl, ?_⟩
      · unfold ixN
        rw [if_pos (by omega), if_pos (by omega)]
        simp
      · have a5 := (a3.go g4).change ei3 m1 ((n4.mono g4.g).set (R2.m ((s0.trans g2.g).trans g4.g) k2) l)
        rw [List.set_set] at a5
        exact k σ G4 _ a5
end
end Dl


set_option Elab.async false
set_option linter.all false
set_option maxRecDepth 100000
set_option maxHeartbeats 2000000
namespace Dl
open PySem PySem.Spec PyProof.Rows L2 ClX
section
variable {X : Cx} {sl : List Ent} {a b : Expr} {p p2 pos : Pos} {Rs Rs' : List RV}
theorem PVs.rep {G : Hp} {vs : List V} (h : PVs G Rs vs) : ∀ n : Nat, PVs G (List.replicate n Rs).flatten (List.replicate n vs).flatten
  | 0 => .nil
  | n + 1 => by
    rw [List.replicate_succ, List.replicate_succ, List.flatten_cons, List.flatten_cons]
    exact h.app (PVs.rep h n)
/-- a new list times a number -/
theorem e_rep {n : Nat} (h : EvR X a sl (.l Rs)) (h' : Ev X b sl (iI (n : Int))) (hn : n < 100000) (hl : Rs.length * n ≤ 100000) : EvR X (.BinOp a .Mult b pos) sl (.l (List.replicate n Rs).flatten) :=
  evR_of (pe_op op_rep pcan pcan) fun σ G H Q z q => h.can z fun l vs G1 H1 g1 n1 n2 e1 r1 => h'.can (z.gr g1) fun u G2 H2 g2 ⟨m, em, hm⟩ => by
    subst em hm
    have r2 : PVs G2 Rs vs := r1.mono g2.g
    refine ⟨l, (n : Int), vs, rfl, rfl, g2.hs _ _ e1, by omega, by omega, ?_, fun w hw => ?_⟩
    · rw [← r2.len, Int.toNat_natCast]
      exact Nat.le_trans hl (by decide)
    · rw [Int.toNat_natCast]
      exact q w _ G2 _ ((g1.trans g2).trans (Gr.newOut g2.s hw)) ((g1.trans g2).hs.free hw) (g2.s.free hw) upd_same (PVs.rep r2 n)
/-- two new lists, one behind the other -/
theorem e_cat (h : EvR X a sl (.l Rs)) (h' : EvR X b sl (.l Rs')) (hl : Rs.length + Rs'.length ≤ 100000) : EvR X (.BinOp a .Add b pos) sl (.l (Rs ++ Rs')) :=
  evR_of (pe_op op_cat pcan pcan) fun σ G H Q z q => h.can z fun l vs G1 H1 g1 n1 n2 e1 r1 => h'.can (z.gr g1) fun m ws G2 H2 g2 n3 n4 e2 r2 => by
    have r1' := r1.mono g2.g
    refine ⟨l, m, vs, ws, rfl, rfl, g2.hs _ _ e1, e2, ?_, fun w hw => ?_⟩
    · rw [← r1.len, ← r2.len]
      exact Nat.le_trans hl (by decide)
    · exact q w _ G2 _ ((g1.trans g2).trans (Gr.newOut g2.s hw)) ((g1.trans g2).hs.free hw) (g2.s.free hw) upd_same (r1'.app r2)
/-- list(range(n)) -/
theorem e_listRg {n : Nat} {p0 : Pos} (h : Ev X a sl (iI (n : Int))) (hn : n ≤ 100000) (hml : X.mg "list" = none) (hmr : X.mg "range" = none) (hc : X.calm = true := by rfl) (hgl : Gl X "list" := by rfl) (hgr : Gl X "range" := by rfl) (he : starEach [a] X.env = [(false, eval a X.env)] := by rfl) (he2 : starEach [.Call (.Name "range" p2) [a] [] p] X.env = [(false, eval (.Call (.Name "range" p2) [a] [] p) X.env)] := by rfl) :
    EvR X (.Call (.Name "list" p0) [.Call (.Name "range" p2) [a] [] p] [] pos) sl (.l ((List.range n).map fun i : Nat => iI (i : Int))) :=
  evR_of (pe_listRg hc hgl hml (prg_1 hgr hmr pcan he) he2) fun σ G H Q z q => h.can z fun v G1 H1 g1 ⟨m, em, hm⟩ => by
    subst em hm
    refine ⟨_, rfl, RgOk.of_le (by omega) (by omega) (by omega) (by omega), fun w hw => ?_⟩
    refine q w _ G1 _ (g1.trans (Gr.newOut g1.s hw)) (g1.hs.free hw) (g1.s.free hw) upd_same ?_
    have e : rgV 0 (n : Int) = (List.range n).map fun i : Nat => V.int (i : Int) := by
      unfold rgV
      rw [show ((n : Int) - 0).toNat = n by omega]
      exact List.map_congr_left fun i _ => by rw [Int.zero_add]
    rw [e]
    have all : ∀ l : List Nat, PVs G1 (l.map fun i : Nat => iI (i : Int)) (l.map fun i : Nat => V.int (i : Int)) := fun l => by
      induction l with
      | nil => exact .nil
      | cons x l ih => exact .cons ⟨_, rfl, rfl⟩ ih
    exact all _
end
end Dl


set_option Elab.async false
set_option linter.all false
set_option maxRecDepth 100000
set_option maxHeartbeats 2000000
namespace Dl
open PySem PySem.Spec PyProof.Rows L2 ClX
open AutoSeq1 (wpAny_loadPart')
/-! ### enumerate(t), t a tuple -/
/-- the tuple's iterator as it is laid -/
abbrev obI (l : Addr) : Obj := { cls := .type "tuple_iterator", data := .fields #[.ref l, .int 0 0] }
/-- enumerate's object over the iterator at i -/
abbrev obE (i : Addr) : Obj := { cls := .type "enumerate", data := .fields #[.none, .bool false, .ref i, rawInt 0, .none, .none] }
theorem meets_enumT (l : Addr) (its : Array Value) (n : Nat) (dct : Option Addr) (sl : Array (Option Value)) :
    Meets (Builtin.«enumerate.__new__» ⟨[.type "enumerate", .ref l], []⟩) (fun _ R s => s.heap.get? l = some { cls := .type "tuple", dict := dct, data := .seq its n, slots := sl } ∧
      R (.ok (.ret (.ref (s.heap.push (obI l)).objs.size))) { s with heap := (s.heap.push (obI l)).push (obE s.heap.objs.size) }) :=
  .of_wp fun prog w A R s h => by
    rcases s with ⟨hp, g, d, tk, os⟩
    rcases h with ⟨hl, h⟩
    have isSub := sub_enumerate
    have isT : Heap.IsTuple (Shared.heap ⟨hp, g, d, tk, os⟩) l its := ⟨_, hl, rfl, n, rfl⟩
    wp_walk using wpAny_loadPart' hl
    apply wpAny_stack_any
    intro st
    apply wpAny_pure
    split
    · rename_i c _ _ _ _ _
      cases (c == Value.type "enumerate") <;>
      · wp_walk using wpAny_loadPart' hl, wpAny_pyIter_tuple isT
        exact ⟨_, rfl, h⟩
    · wp_walk using wpAny_loadPart' hl, wpAny_pyIter_tuple isT
      exact ⟨_, rfl, h⟩
section
variable {prog : Program} {w : World} {A : Around} {E : Value → Shared → Prop} {s : Shared}
theorem call_enumT {l : Addr} {its : Array Value} {Q : Value → Shared → Prop} (isT : s.heap.IsTuple l its)
    (h : ∀ h', IsEnum h' (s.heap.objs.size + 1) s.heap.objs.size 0 .none → h'.IsTupleIter s.heap.objs.size l 0 → h'.objs.size = s.heap.objs.size + 2 → (∀ b o, s.heap.get? b = some o → h'.get? b = some o) → Q (.ref (s.heap.objs.size + 1)) { s with heap := h' }) :
    wpAny (model prog w) A (call (.type "enumerate") [.ref l]) Q E s := by
  rcases isT with ⟨⟨c, dct, dt, sl⟩, hl, hc, n, hd⟩
  cases (show c = .type "tuple" from hc)
  cases (show dt = .seq its n from hd)
  apply callType_new F.called_enumerate (by decide) (F.typeCall_enumerate_1 _) (F.newCall_enumerate_1 _) (fun obj => F.args_object_init_2 obj _) F.entry_enumerate_new (meets_enumT l its n dct sl)
  refine ⟨hl, ?_⟩
  have size : (s.heap.push (obI l)).objs.size = s.heap.objs.size + 1 := Heap.size_push ..
  have he : IsEnum ((s.heap.push (obI l)).push (obE s.heap.objs.size)) (s.heap.objs.size + 1) s.heap.objs.size 0 .none := by
    have e := Heap.get?_push_size (s.heap.push (obI l)) (o := obE s.heap.objs.size) rfl
    rw [size] at e
    exact e
  show _ ∧ _
  rw [size]
  exact ⟨⟨_, he, rfl⟩, h _ he ⟨_, Heap.get?_push_of_some _ (Heap.get?_push_size _ rfl), rfl, rfl⟩ (by rw [Heap.size_push, size]) fun b o x => Heap.get?_push_of_some _ (Heap.get?_push_of_some _ x)⟩
end
/-- the tuple at a, each item in a new pair -/
def IteT (K : PySem.W.Frag) (a : Addr) : It :=
  ⟨fun i H => ∃ (xs : List V) (x : V), SqT K H a xs ∧ xs[i]? = some x, fun i H v H' => ∃ T x, v = .ref T ∧ H T = none ∧ H' = upd H T (.tup [.int (i : Nat), x]) ∧ ∀ xs, SqT K H a xs → xs[i]? = some x, fun i H => ∃ xs : List V, SqT K H a xs ∧ xs.length = i⟩
theorem turn_enumT {P : Program} {w : World} {K : PySem.W.Frag} {elts : List Expr} {kk : Nat} {tpos : Pos} (a e it : Addr) (nt : a ≠ it) :
    Turn P w K (.Tuple elts kk tpos) (IteT K a) [e, it] e (fun i h => (∃ old, IsEnum h e it ((i : Nat) : Int) old) ∧ h.IsTupleIter it a i ∧ e ≠ it ∧ e ≠ a) where
  mem := by simp
  obj := fun i h st b hb => by
    rcases st with ⟨⟨old, he⟩, ⟨o, ho, hc, hd⟩, _⟩
    rcases List.mem_cons.mp hb with z | z
    · rw [z]; exact ⟨_, he, fun v q => nomatch q⟩
    · rw [List.mem_singleton.mp z]; exact ⟨o, ho, fun v q => by rw [hd] at q; cases q⟩
  keep := fun i h h' st k => let ⟨⟨old, he⟩, hi, hne, hea⟩ := st; ⟨⟨old, k e (by simp) _ he⟩, hi.at fun o q => k it (by simp) o q, hne, hea⟩
  item := by
    intro X hP hw hK hc i pins s σ H E I hf st hg
    subst hP hw hK
    rcases st with ⟨⟨old, he⟩, hit, hne, hea⟩
    rcases hg with ⟨xs, x, hq, hx⟩
    obtain ⟨its, rv, p, hz⟩ := I.tuple hq
    obtain ⟨u, hu, ru⟩ := rv.get hx
    have hel : e < s.heap.objs.size := Heap.lt_size he
    have hil : it < s.heap.objs.size := by rcases hit with ⟨_, q, _⟩; exact Heap.lt_size q
    have hsz : i < its.toArray.size := by
      have := (List.getElem?_eq_some_iff.mp hu).1
      simpa using this
    have dr := Draws.tuple (prog := X.prog) (w := X.w) (A := X.A.in1) (by exact I.ok.hd hc) it a nt its.toArray
    refine wpAny_pyNext_enum_itemD dr he ⟨hit, p⟩ hsz hne (by simp [hne, hea]) fun y h' tk hy ho hit' hT hs' hk => ?_
    have ey : y = u := by
      have h1 : its[i]? = some y := by simpa using hy
      rw [hu] at h1
      exact (Option.some.inj h1).symm
    subst ey
    refine ⟨_, rfl, wpAny_letOwnedTupleGo_enum (s := { s with heap := h', toks := tk + 1 }) ho fun h2 he' sb => ?_⟩
    have hT2 : h2.get? s.heap.objs.size = some { cls := .type "tuple", data := .seq #[.int i tk, y] } := (sb.2 _ (Nat.ne_of_gt hel)).trans hT
    have new : ObjOk X.prog X.w (upd H s.heap.objs.size (.tup [.int (i : Nat), x])) h2 s.heap.objs.size (.tup [.int (i : Nat), x]) :=
      ⟨by show 2 ≤ sizeLine; decide, [.int i tk, y], .cons ⟨_, rfl⟩ (.cons ru .nil), ⟨_, hT2, rfl, _, rfl⟩⟩
    have J : Inv X pins σ (upd H s.heap.objs.size (.tup [.int (i : Nat), x])) { s with heap := h2, toks := tk + 1 } :=
      I.turnedNew (ch := [e, it]) (fun b ob hb q => (sb.2 b (fun z => hb (by simp [z]))).trans (hk b ob (fun z => hb (by simp [z])) (fun z => hb (by simp [z])) q)) hf (Nat.le_refl _) new
    refine ⟨.ref s.heap.objs.size, _, J, rfl, ⟨_, x, rfl, I.hok.fresh (Nat.le_refl _), rfl, fun ys hy => by rw [I.tuple_inj hy hq]; exact hx⟩, ⟨⟨y, ?_⟩, hit'.1.at fun o q => (sb.2 it (Ne.symm hne)).trans q, hne, hea⟩, fun b hb => ?_⟩
    · rw [show ((i + 1 : Nat) : Int) = (i : Int) + 1 by omega]
      exact he'
    · have hb' : b < s.heap.objs.size := by
        rcases List.mem_cons.mp hb with z | z
        · rw [z]; exact hel
        · rw [List.mem_singleton.mp z]; exact hil
      rw [upd_ne (Nat.ne_of_lt hb')]
      exact (hf b hb).1
  done := by
    intro X hP hw hK hc i pins s σ H E I hf st hg
    subst hP hw hK
    rcases st with ⟨⟨old, he⟩, hit, hne, hea⟩
    rcases hg with ⟨xs, hq, hx⟩
    obtain ⟨its, rv, p, hz⟩ := I.tuple hq
    obtain ⟨f0, f1, f2, f3, f4, f5⟩ := hf it (by simp)
    have hn : its.toArray.size = i := by rw [List.size_toArray, ← rv.length]; exact hx
    have dr := Draws.tuple (prog := X.prog) (w := X.w) (A := X.A.in1) (by exact I.ok.hd hc) it a nt its.toArray
    refine wpAny_pyNext_enum_endD dr he (by rw [hn]; exact ⟨hit, p⟩) fun h' eb => ⟨rfl, I.turned (t' := s.toks) (fun b o hb q => eb b o hb q) f0 f1 f3 f4 f5⟩
  self := fun A i s Q E st h => let ⟨⟨_, he⟩, _⟩ := st; wpAny_pyIter_enum he h
def iEnumT (K : PySem.W.Frag) (ta : TA) : TI := fun σ H R => ta σ H fun vs H1 => ∃ a xs, vs = [.ref a] ∧ SqT K H1 a xs ∧ R (IteT K a) H1
theorem pi_enumT {X : Cx} {e : Expr} {ta : TA} {p pos tpos : Pos} {elts : List Expr} {kk : Nat} (hg : Gl X "enumerate") (hm : X.mg "enumerate" = none) (ha : PA X [e] ta) (hs : starEach [e] X.env = [(false, eval e X.env)] := by rfl) : PI X (.Tuple elts kk tpos) (.Call (.Name "enumerate" p) [e] [] pos) (iEnumT X.K ta) := by
  constructor
  intro pins s σ H R I h
  refine Call_ (ld_blt I hg hm boot_enumerate (PyProof.Rows.callWith_type1 (thn (ha.run pos pins s σ H _ I h) fun us s1 ⟨vs, H1, I1, r1, a, xs, ex, hq, q⟩ => ?_) hs rfl))
  subst ex
  rw [Vals.ref1 r1]
  obtain ⟨its, rv, p', hz⟩ := I1.tuple hq
  have low : a < s1.heap.objs.size := p'.lt
  refine call_enumT p' fun h' he hit hs' hk => wpAny_pyIter_enum he ?_
  have I2 : Inv X pins σ H1 { s1 with heap := h' } := I1.kept (t' := s1.toks) hk
  refine ⟨s1.heap.objs.size + 1, [s1.heap.objs.size + 1, s1.heap.objs.size], _, _, H1, rfl, I2, turn_enumT a (s1.heap.objs.size + 1) s1.heap.objs.size (Nat.ne_of_lt low), ⟨⟨.none, he⟩, hit, Nat.succ_ne_self _, Nat.ne_of_gt (Nat.lt_succ_of_lt low)⟩, fun b hb => ?_, q⟩
  have hle : s1.heap.objs.size ≤ b := by
    rcases List.mem_cons.mp hb with z | z
    · rw [z]; exact Nat.le_add_right _ _
    · rw [List.mem_singleton.mp z]; exact Nat.le_refl _
  exact I1.fpOk hle (I1.hok.fresh hle)
section
variable {X : Cx} {B : Base} {L : Hp} {sl : List Ent} {D : Ends} {pos : Pos} {rest : List Stmt} {α : Type} [Inhabited α]
theorem src_enumT {e : Expr} {xs : List α} {c : α → RV} {j1 j2 : Nat} (h : Ev X e sl (rTup X.K (xs.map c))) (he : starEach [e] X.env = [(false, eval e X.env)] := by rfl) : Src (iEnumT X.K (canA X [e])) (gTup X.K 2 (gCons (gName j1) (gCons (gName j2) gNil))) sl xs.length [j1, j2] (fun i => [iI (i : Int), c (xs.getD i default)]) := fun σ G H R a k => (a1 h he).can a fun vs' G1 H1 g1 r' => by
  obtain ⟨v, rfl, l, vs, rfl, q, r⟩ := pv1 r'
  have hlen : xs.length = vs.length := by rw [← r.len, List.length_map]
  refine ⟨l, vs, rfl, Same.tup g1.s q, k _ G1 H1 g1 ⟨fun i G2 H2 hi s1 s2 => ?_, fun G2 H2 s1 s2 => ⟨vs, Same.tup s2 (Same.tup s1 q), hlen.symm⟩, fun i σ G2 H2 x H' K hi s1 s2 y kk => ?_⟩⟩
  · have hl : i < vs.length := by omega
    exact ⟨vs, vs[i], Same.tup s2 (Same.tup s1 q), List.getElem?_eq_getElem hl⟩
  · obtain ⟨T, z, rfl, hT, rfl, f⟩ := y
    obtain ⟨R', h1, h2⟩ := r.back (f vs (Same.tup s2 (Same.tup s1 q)))
    rw [List.getElem?_map, getD_get hi] at h1
    cases h1
    exact g_pair (R1 := iI (i : Int)) s2 hT ⟨_, rfl, rfl⟩ (RV.m _ s1 h2) kk
/-- for i, y in enumerate(t) -/
theorem w_forET {it : Expr} {xs : List α} {c : α → RV} {y y2 : Str} {p1 p2 py py2 pt : Pos} {kt : Nat} {body : List Stmt} (j1 j2 : Nat) (hN : X.N.Nodup) (src : Ev X it sl (rTup X.K (xs.map c))) (hm : X.mg "enumerate" = none) (J : Nat → List Ent → Prop) (h0 : J 0 sl)
    (turn : ∀ (i : Nat) x L' sl', xs[i]? = some x → J i sl' → Wp X B L' body (dturn D X rest B L' (J (i + 1))) ((sl'.set j1 (.val (iI (i : Int)))).set j2 (.val (c x)))) (done : ∀ sl', J xs.length sl' → Wp X B L rest D sl')
    (hp : PassesOwn (model X.prog X.w) X.A X.env X.xe := by exact PassesOwn.never) (hc : X.calm = true := by rfl) (hg : Gl X "enumerate" := by rfl) (he : starEach [it] X.env = [(false, eval it X.env)] := by rfl) (hj : X.N[j1]? = some y := by rfl) (hj2 : X.N[j2]? = some y2 := by rfl) (hl : X.env.scope.names.lookup y = some .local := by rfl) (hl2 : X.env.scope.names.lookup y2 = some .local := by rfl)
    (ha : (assignEach [Expr.Name y py, Expr.Name y2 py2] X.env).map (·.2) = assign (.Name y py) X.env :: (assignEach [Expr.Name y2 py2] X.env).map (·.2) := by rfl)
    (hf : ∀ x, foldedSetIterable (.Call (.Name "enumerate" p1) [it] [] p2) X.env x = pure x := by intro _; rfl) : Wp X B L (.For (.Tuple [.Name y py, .Name y2 py2] kt pt) (.Call (.Name "enumerate" p1) [it] [] p2) body [] pos :: rest) D sl :=
  w_for hc hp (pi_enumT hg hm pcanA he) (pg_tup hc (pgs_cons (pg_name (i := j1) hN hj (.inl hl) (.inr hl)) (pgs_cons (pg_name (i := j2) hN hj2 (.inl hl2) (.inr hl2)) pgs_nil) ha)) (src_enumT src he) J h0 (fun i L' sl' hi hj => turn i _ L' sl' (getD_get hi) hj) done hf
end
end Dl


set_option Elab.async false
set_option linter.all false
set_option maxRecDepth 100000
set_option maxHeartbeats 2000000
namespace Dl
open PySem PySem.Spec PyProof.Rows L2 ClX
section
variable {X : Cx} {sl : List Ent} {a b : Expr} {pos : Pos} {Rs Rs' : List RV}
theorem pvs_nil {G : Hp} {vs : List V} (h : PVs G Rs vs) (e : vs = []) : Rs = [] := List.eq_nil_of_length_eq_zero (by rw [h.len, e]; rfl)
/-- t + u, tuples -/
theorem e_catT (h : Ev X a sl (rTup X.K Rs)) (h' : Ev X b sl (rTup X.K Rs')) (hl : Rs.length + Rs'.length ≤ 100000) : Ev X (.BinOp a .Add b pos) sl (rTup X.K (Rs ++ Rs')) :=
  ev_of (pe_op op_catA pcan pcan) fun σ G H Q z q => h.can z fun v G1 H1 g1 ⟨t, vs, e1, q1, r1⟩ => h'.can (z.gr g1) fun u G2 H2 g2 ⟨t2, ws, e2, q2, r2⟩ => by
    have r1' := r1.mono g2.g
    have k1 : SqT X.K G2 t vs := Same.tup g2.g q1
    have sz : vs.length + ws.length ≤ sizeLine := by rw [← r1.len, ← r2.len]; exact Nat.le_trans hl (by decide)
    subst e1 e2
    refine ⟨t, t2, vs, ws, rfl, rfl, Same.tup g2.s k1, Same.tup g2.s q2, sz, fun e => ?_, fun _ e => ?_, fun _ _ w hw => ?_⟩
    · subst e
      rw [pvs_nil r1 rfl, List.nil_append] at q
      exact q _ G2 H2 (g1.trans g2) ⟨t2, ws, rfl, q2, r2⟩
    · subst e
      rw [pvs_nil r2 rfl, List.append_nil] at q
      exact q _ G2 H2 (g1.trans g2) ⟨t, vs, rfl, k1, r1'⟩
    · exact q _ _ _ ((g1.trans g2).trans (Gr.new g2.s hw)) ⟨w, vs ++ ws, rfl, SqT.of upd_same, (r1'.app r2).mono (same_new (g2.s.free hw))⟩
end
end Dl


set_option Elab.async false
set_option linter.all false
set_option maxRecDepth 100000
set_option maxHeartbeats 2000000
namespace Dl
open PySem PySem.Spec PyProof.Rows L2 ClX
/-! ### a list or a tuple -/
def rSq (K : PySem.W.Frag) (b : Bool) (Rs : List RV) : RV := match b with
  | true => rTup K Rs
  | false => rLst K Rs
section
variable {X : Cx} {B : Base} {L : Hp} {sl : List Ent} {D : Ends} {pos p p1 p2 py py2 pt : Pos} {kt : Nat} {rest body : List Stmt} {α : Type} [Inhabited α] {a it elt : Expr} {y y2 : Str} {scope : Scope} {xs : List α} {c : α → RV} {b : Bool} {Rs : List RV}
theorem e_lenS (h : Ev X a sl (rSq X.K b Rs)) (hm : X.mg "len" = none) (hg : Gl X "len" := by rfl) (he : starEach [a] X.env = [(false, eval a X.env)] := by rfl) : Ev X (.Call (.Name "len" p) [a] [] pos) sl (iI Rs.length) := by
  cases b
  · exact e_lenL h hm hg he
  · exact e_lenT h hm hg he
theorem e_listS (h : Ev X a sl (rSq X.K b Rs)) (hm : X.mg "list" = none) (hg : Gl X "list" := by rfl) (he : starEach [a] X.env = [(false, eval a X.env)] := by rfl) : EvR X (.Call (.Name "list" p) [a] [] pos) sl (.l Rs) := by
  cases b
  · exact e_listL h hm hg he
  · exact e_listT h hm hg he
theorem e_tupleS (h : Ev X a sl (rSq X.K b Rs)) (hm : X.mg "tuple" = none) (hg : Gl X "tuple" := by rfl) (he : starEach [a] X.env = [(false, eval a X.env)] := by rfl) : Ev X (.Call (.Name "tuple" p) [a] [] pos) sl (rTup X.K Rs) := by
  cases b
  · exact e_tupleL h hm hg he
  · exact e_tupleT h hm hg he
theorem e_compS (j : Nat) (d : α → RV) (hN : X.N.Nodup) (src : Ev X it sl (rSq X.K b (xs.map c))) (hn : xs.length ≤ 90000)
    (el : ∀ x ∈ xs, ∀ s H C cl fp, Ev (blkX X scope s H C cl fp) elt (setE (wipeE sl [j]) [j] [c x]) (d x)) (hc : X.calm = true := by rfl) (hj : X.N[j]? = some y := by rfl) (hl : (relabel scope X.env).names.lookup y = some .local := by rfl) (hb : blkC X.N X.env.scope scope [(y, j)] = true := by kernel_rfl)
    (hf : ∀ x, foldedSetIterable it X.env x = pure x := by intro _; rfl) : EvR X (.ListComp elt [⟨.Name y py, it, [], 0⟩] scope pos) sl (.l (xs.map d)) := by
  cases b
  · exact e_compL j d hN src hn el hc hj hl hb hf
  · exact e_compT j d hN src hn el hc hj hl hb hf
theorem w_forS (j : Nat) (hN : X.N.Nodup) (src : Ev X it sl (rSq X.K b (xs.map c))) (J : Nat → List Ent → Prop) (h0 : J 0 sl)
    (turn : ∀ (i : Nat) x L' sl', xs[i]? = some x → J i sl' → Wp X B L' body (dturn D X rest B L' (J (i + 1))) (sl'.set j (.val (c x)))) (done : ∀ sl', J xs.length sl' → Wp X B L rest D sl')
    (hp : PassesOwn (model X.prog X.w) X.A X.env X.xe := by exact PassesOwn.never) (hc : X.calm = true := by rfl) (hj : X.N[j]? = some y := by rfl) (hl : Loc X.env.scope y := by first | exact Or.inl rfl | exact Or.inr rfl) (hfn : X.fn y = true ∨ X.env.scope.names.lookup y = some .local := by first | exact .inl rfl | exact .inr rfl)
    (hf : ∀ x, foldedSetIterable it X.env x = pure x := by intro _; rfl) : Wp X B L (.For (.Name y py) it body [] pos :: rest) D sl := by
  cases b
  · exact w_forL j hN src J h0 turn done hp hc hj hl hfn hf
  · exact w_forT j hN src J h0 turn done hp hc hj hl hfn hf
theorem w_forES (j1 j2 : Nat) (hN : X.N.Nodup) (src : Ev X it sl (rSq X.K b (xs.map c))) (hm : X.mg "enumerate" = none) (J : Nat → List Ent → Prop) (h0 : J 0 sl)
    (turn : ∀ (i : Nat) x L' sl', xs[i]? = some x → J i sl' → Wp X B L' body (dturn D X rest B L' (J (i + 1))) ((sl'.set j1 (.val (iI (i : Int)))).set j2 (.val (c x)))) (done : ∀ sl', J xs.length sl' → Wp X B L rest D sl')
    (hp : PassesOwn (model X.prog X.w) X.A X.env X.xe := by exact PassesOwn.never) (hc : X.calm = true := by rfl) (hg : Gl X "enumerate" := by rfl) (he : starEach [it] X.env = [(false, eval it X.env)] := by rfl) (hj : X.N[j1]? = some y := by rfl) (hj2 : X.N[j2]? = some y2 := by rfl) (hl : X.env.scope.names.lookup y = some .local := by rfl) (hl2 : X.env.scope.names.lookup y2 = some .local := by rfl)
    (ha : (assignEach [Expr.Name y py, Expr.Name y2 py2] X.env).map (·.2) = assign (.Name y py) X.env :: (assignEach [Expr.Name y2 py2] X.env).map (·.2) := by rfl)
    (hf : ∀ x, foldedSetIterable (.Call (.Name "enumerate" p1) [it] [] p2) X.env x = pure x := by intro _; rfl) : Wp X B L (.For (.Tuple [.Name y py, .Name y2 py2] kt pt) (.Call (.Name "enumerate" p1) [it] [] p2) body [] pos :: rest) D sl := by
  cases b
  · exact w_forE j1 j2 hN src hm J h0 turn done hp hc hg he hj hj2 hl hl2 ha hf
  · exact w_forET j1 j2 hN src hm J h0 turn done hp hc hg he hj hj2 hl hl2 ha hf
end
theorem ty_sq {K : PySem.W.Frag} {b : Bool} {Rs : List RV} : (rSq K b Rs).Ty K (.type "list") ∨ (rSq K b Rs).Ty K (.type "tuple") := by
  cases b
  · exact .inl ty_lst
  · exact .inr ty_tup
end Dl


set_option Elab.async false
set_option linter.all false
set_option maxRecDepth 100000
set_option maxHeartbeats 2000000
namespace Dl
open PySem PySem.Spec PyProof.Rows L2 ClX
/-! ### an own list that is only read for a while -/
section
variable {X : Cx} {sl : List Ent} {B : Base} {L : Hp} {D : Ends} {rest : List Stmt} {pos : Pos}
theorem Sat.lend {K : PySem.W.Frag} {σ : L2.St} {G H : Hp} (a : Sat sl σ G H) (i : Nat) {t : Addr → Prop} {Rs : List RV} (ei : sl[i]? = some (.mu (oT t Rs))) : ∃ G1, Same G G1 ∧ Sat (sl.set i (.val (rLst K Rs))) σ G1 H := by
  obtain ⟨p, vs, h1, h2, h3, h4⟩ := a.own i Rs ei
  have sg : Same G (upd G p (.lst vs)) := same_new h3
  have sh : Same (upd G p (.lst vs)) H := fun b u e => by
    by_cases q : b = p
    · rw [q, upd_same] at e; rw [q, h2]; exact e
    · rw [upd_ne q] at e; exact a.sub b u e
  refine ⟨_, sg, sh, fun j R e => ?_, fun j O e => ?_, fun j l O O' ne e1 e2 => ?_, by rw [List.length_set]; exact a.len⟩
  · rcases getElem?_set_cases e with ⟨rfl, e2⟩ | ⟨ne, e2⟩
    · cases e2
      exact ⟨.ref p, h1, p, vs, rfl, SqL.of upd_same, h4.mono sg⟩
    · obtain ⟨v, k1, k2⟩ := a.val j R e2
      exact ⟨v, k1, R.m sg k2⟩
  · rcases getElem?_set_cases e with ⟨rfl, e2⟩ | ⟨ne, e2⟩
    · cases e2
    · obtain ⟨q, o, k1, k2, k3, k4⟩ := a.mu j O e2
      have nq : q ≠ p := fun z => a.dis j i _ _ ne e2 ei (by rw [k1, h1, z])
      exact ⟨q, o, k1, k2, by rw [upd_ne nq]; exact k3, O.m sg k4⟩
  · rcases getElem?_set_cases e1 with ⟨_, z⟩ | ⟨_, z1⟩
    · cases z
    · rcases getElem?_set_cases e2 with ⟨_, z⟩ | ⟨_, z2⟩
      · cases z
      · exact a.dis j l O O' ne z1 z2
theorem Gr.back {G G1 H G' H' : Hp} (sg : Same G G1) (g : Gr G1 H G' H') : Gr G H G H' := ⟨Same.refl _, g.h, g.t, (sg.trans g.g).trans g.s, fun _ _ => rfl⟩
theorem t_lend (i : Nat) {e : Expr} {t : Addr → Prop} {Rs : List RV} {P : Bool → Prop} (ei : sl[i]? = some (.mu (oT t Rs))) (h : EvT X e (sl.set i (.val (rLst X.K Rs))) P) : EvT X e sl P := fun pins s σ G H Q I a k => by
  obtain ⟨G1, sg, a1⟩ := a.lend (K := X.K) i ei
  exact h pins s σ G1 H Q I a1 fun b G' H' g r => k b G H' (Gr.back sg g) r
/-- x, y = e1, e2: two lists of one's own -/
theorem w_parOO (i j : Nat) {x y : Str} {a b : Expr} {px py pt : Pos} {kt k2 pt2} {Rs Rs2 : List RV} (hc : X.calm = true) (hN : X.N.Nodup) (h1 : EvR X a sl (.l Rs)) (h2 : EvR X b sl (.l Rs2)) (k : Wp X B L rest D ((sl.set i (.own Rs)).set j (.own Rs2))) (hi : X.N[i]? = some x := by rfl) (hj : X.N[j]? = some y := by rfl) (hij : i ≠ j := by decide)
    (hx : X.env.scope.names.lookup x = some .local := by rfl) (hy : X.env.scope.names.lookup y = some .local := by rfl) (hw : swappedStores [.Tuple [.Name x px, .Name y py] kt pt] (.Tuple [a, b] k2 pt2) X.env = pure (some [x, y]) := by rfl)
    (hs : swapsWithSole [.Tuple [.Name x px, .Name y py] kt pt] (.Tuple [a, b] k2 pt2) pos.line X.env = pure false := by rfl) (he : starEach [a, b] X.env = (false, eval a X.env) :: starEach [b] X.env := by rfl) (he' : starEach [b] X.env = [(false, eval b X.env)] := by rfl) :
    Wp X B L (.Assign [.Tuple [.Name x px, .Name y py] kt pt] (.Tuple [a, b] k2 pt2) pos :: rest) D sl :=
  wp_of (ps_par hc hN hi hj hij hx hy (pa_cons pcan (pa_cons pcan pa_nil he') he) hw hs) fun σ G H z => h1.can z.sat fun p vs G1 H1 g1 n1 n2 e1 r1 => h2.can (z.sat.gr g1) fun p2 vs2 G2 H2 g2 m1 m2 e2 r2 =>
    ⟨.ref p, .ref p2, rfl, k _ G2 H2 ((z.setOwn g1 i n1 n2 e1 r1).setOwn g2 j m1 m2 e2 r2)⟩
/-- if c: the own list is changed -/
theorem w_ifD (i : Nat) {c : Expr} {u : List Stmt} {t : Addr → Prop} {Rs Rs' : List RV} {p : Prop} [Decidable p] (ei : sl[i]? = some (.mu (oT t Rs))) (h : EvT X c sl (fun z => z = decide p)) (h1 : p → Wp X B L [] (dgo D X rest) (sl.set i (.mu (oT t Rs'))) → Wp X B L u (dgo D X rest) sl) (k : Wp X B L rest D (sl.set i (.mu (oT t (if p then Rs' else Rs))))) : Wp X B L (.If c u [] pos :: rest) D sl := by
  refine w_if h (fun z => ?_) (fun z => w_end ?_)
  · have hp : p := of_decide_eq_true z.symm
    rw [if_pos hp] at k
    exact h1 hp (w_end k)
  · have hp : ¬ p := of_decide_eq_false z.symm
    rw [if_neg hp] at k
    have e : sl.set i (.mu (oT t Rs)) = sl := by
      apply List.ext_getElem?
      intro j
      by_cases q : j = i
      · rw [q, ei]
        exact List.getElem?_set_self (List.getElem?_eq_some_iff.mp ei).1
      · rw [List.getElem?_set_ne (Ne.symm q)]
    rwa [e] at k
end
end Dl


set_option Elab.async false
set_option linter.all false
set_option maxRecDepth 100000
set_option maxHeartbeats 2000000
namespace Dl
open PySem PySem.Spec PyProof.Rows L2 ClX
section
variable {X : Cx} {sl : List Ent} {B : Base} {L : Hp} {D : Ends} {rest : List Stmt} {pos : Pos}
/-- name = [.. for x, y in pairs] on one line -/
theorem w_setCompP {α : Type} [Inhabited α] {elt it : Expr} {x y y2 : Str} {px py py2 pt spos : Pos} {kt : Nat} {scope : Scope} {xs : List α} {c c2 : α → RV} (i j1 j2 : Nat) (d : α → RV) (hN : X.N.Nodup) (src : Ev X it sl (rLst X.K (xs.map fun x => rTup X.K [c x, c2 x]))) (hn : xs.length ≤ 90000)
    (el : ∀ x ∈ xs, ∀ s H C cl fp, Ev (blkX X scope s H C cl fp) elt (setE (wipeE sl [j1, j2]) [j1, j2] [c x, c2 x]) (d x)) (k : Wp X B L rest D (sl.set i (.own (xs.map d)))) (hc : X.calm = true := by rfl) (hj : X.N[j1]? = some y := by rfl) (hj2 : X.N[j2]? = some y2 := by rfl) (hl : (relabel scope X.env).names.lookup y = some .local := by rfl) (hl2 : (relabel scope X.env).names.lookup y2 = some .local := by rfl) (hb : blkC X.N X.env.scope scope [(y, j1), (y2, j2)] = true := by kernel_rfl)
    (ha : ∀ s H C cl fp, (assignEach [Expr.Name y py, Expr.Name y2 py2] (blkX X scope s H C cl fp).env).map (·.2) = assign (.Name y py) (blkX X scope s H C cl fp).env :: (assignEach [Expr.Name y2 py2] (blkX X scope s H C cl fp).env).map (·.2) := by intros; rfl)
    (hx : X.N[i]? = some x := by rfl) (hxl : X.env.scope.names.lookup x = some .local := by rfl) (hsw : swapsWith (.ListComp elt [⟨.Tuple [.Name y py, .Name y2 py2] kt pt, it, [], 0⟩] scope pos) (some (.Name x px)) spos.line X.env = pure true := by exact sw_true rfl rfl (by decide) (by decide +kernel))
    (hf : ∀ x, foldedSetIterable it X.env x = pure x := by intro _; rfl) : Wp X B L (.Assign [.Name x px] (.ListComp elt [⟨.Tuple [.Name y py, .Name y2 py2] kt pt, it, [], 0⟩] scope pos) spos :: rest) D sl := by
  refine w_setLcX (own := [(y, j1), (y2, j2)]) (tg := .Tuple [.Name y py, .Name y2 py2] kt pt) i hc hN (pi_list pcan) (blkOk_by hb) (fun s H C cl fp => pg_tup (X := blkX X scope s H C cl fp) hc (pgs_cons (pg_name (i := j1) hN hj (.inl hl) (.inr hl)) (pgs_cons (pg_name (i := j2) hN hj2 (.inl hl2) (.inr hl2)) pgs_nil) (ha s H C cl fp))) (src_P src).x (by simp) (fun _ _ => hn) (fun _ i => d (xs.getD i default)) (fun _ i _ hi s H C cl fp => el _ (getD_mem hi) s H C cl fp) (fun _ _ => ?_) hx hxl hsw hf
  rw [map_getD d xs]
  exact k
/-- x, y = e, a tuple of two, the names held in cells or not -/
theorem w_un2C (i j : Nat) {x y : Str} {e : Expr} {px py pt : Pos} {kt} {R1 R2 : RV} (hc : X.calm = true) (hN : X.N.Nodup) (h : Ev X e sl (rTup X.K [R1, R2])) (k : Wp X B L rest D ((sl.set i (.val R1)).set j (.val R2))) (hi : X.N[i]? = some x := by rfl) (hj : X.N[j]? = some y := by rfl)
    (hx : Loc X.env.scope x := by first | exact Or.inl rfl | exact Or.inr rfl) (hy : Loc X.env.scope y := by first | exact Or.inl rfl | exact Or.inr rfl) (fx : X.fn x = true ∨ X.env.scope.names.lookup x = some .local := by first | exact .inl rfl | exact .inr rfl) (fy : X.fn y = true ∨ X.env.scope.names.lookup y = some .local := by first | exact .inl rfl | exact .inr rfl)
    (hs : swapsWithSole [.Tuple [.Name x px, .Name y py] kt pt] e pos.line X.env = pure false := by rfl) (hw : swappedStores [.Tuple [.Name x px, .Name y py] kt pt] e X.env = pure none := by rfl)
    (h1 : (assignEach [.Tuple [.Name x px, .Name y py] kt pt] X.env).map (·.2) = [assign (.Tuple [.Name x px, .Name y py] kt pt) X.env] := by rfl) : Wp X B L (.Assign [.Tuple [.Name x px, .Name y py] kt pt] e pos :: rest) D sl :=
  wp_of (ps_asg pcan (pg_tup hc (pgs_cons (pg_name (i := i) hN hi hx fx) (pgs_cons (pg_name (i := j) hN hj hy fy) pgs_nil))) hs hw h1) fun σ G H a => h.can a.sat fun v G1 H1 g1 ⟨t, vs, e1, q1, r1⟩ => by
    obtain ⟨u1, u2, rfl, k1, k2⟩ := pv2 r1
    exact ⟨t, _, e1, Same.tup g1.s q1, rfl, _, _, rfl, _, _, rfl, rfl, k _ G1 H1 (((a.go g1).set i k1).set j k2)⟩
end
end Dl


set_option Elab.async false
set_option linter.all false
set_option maxRecDepth 100000
set_option maxHeartbeats 2000000
namespace Dl
open PySem PySem.Spec PyProof.Rows L2 ClX
section
variable {X : Cx} {B : Base} {L : Hp} {sl : List Ent} {D : Ends} {pos : Pos} {rest : List Stmt} {n : Nat} {js : List Nat} {Rs : Nat → List RV} {wi : TI} {g : TG} {tg iter : Expr}
/-- the test, at each turn -/
def ttC (X : Cx) (scope : Scope) (tst : Expr) : TT := fun σ H Q => ∀ (s : Shared) (H0 : Hp) (C : Addr) (cl : List (Str × Addr)) (fp : List Addr), canT (X.blk s H0 scope (compEnvC scope cl C X.env) fp) tst σ H Q
theorem pttC {tst : Expr} {scope : Scope} (s : Shared) (H : Hp) (C : Addr) (cl : List (Str × Addr)) (fp : List Addr) : PT (X.blk s H scope (compEnvC scope cl C X.env) fp) tst (ttC X scope tst) := ⟨fun pins s' σ' H' Q I h => h s H C cl fp pins s' I⟩
theorem lc_semT {elt tst : Expr} {scope : Scope} {own : List (Str × Nat)} (hs : Src wi g sl n js Rs) (hj : ∀ j ∈ js, j ∈ own.map (·.2)) (hn : n ≤ 90000) (t : Nat → Bool) (d : Nat → RV)
    (ht : ∀ i, i < n → ∀ (s : Shared) (H : Hp) (C : Addr) (cl : List (Str × Addr)) (fp : List Addr), EvT (X.blk s H scope (compEnvC scope cl C X.env) fp) tst (setE (wipeE sl (own.map (·.2))) js (Rs i)) (fun b => b = t i))
    (he : ∀ i, i < n → t i = true → ∀ (s : Shared) (H : Hp) (C : Addr) (cl : List (Str × Addr)) (fp : List Addr), Ev (X.blk s H scope (compEnvC scope cl C X.env) fp) elt (setE (wipeE sl (own.map (·.2))) js (Rs i)) (d i)) :
    ∀ σ G H Q, Sat sl σ G H → Post G H Q (.l (((List.range n).filter t).map d)) → tLc wi g (ttC X scope tst) (teC X scope elt) (own.map (·.2)) σ H Q :=
  fun σ G H Q a q => hs σ G H _ a fun It G1 H1 g1 gs D hD => by
    refine ⟨fun i m H' => m = n - i ∧ i ≤ n ∧ ∃ G' vs, Gr G1 H1 G' (upd H' D (.lst vs)) ∧ G' D = none ∧ H' D = some (.lst vs) ∧ PVs G' (((List.range i).filter t).map d) vs, ⟨n, by simp, Nat.zero_le _, G1, [], ?_, g1.s.free hD, upd_same, .nil⟩, ?_⟩
    · rw [upd_upd]; exact Gr.newOut g1.s hD
    · rintro i m H' ⟨rfl, hin, G', vs, g2, h1, h2, h3⟩
      have eH : upd H' D (.lst vs) = H' := by
        funext b
        by_cases e : b = D
        · rw [e, upd_same, h2]
        · rw [upd_ne e]
      rw [eH] at g2
      by_cases hlt : i < n
      · refine .inr ⟨gs.go i G' H' hlt g2.g g2.s, fun H'' => ∃ G' vs, Gr G1 H1 G' (upd H'' D (.lst vs)) ∧ G' D = none ∧ H'' D = some (.lst vs) ∧ PVs G' (((List.range (i + 1)).filter t).map d) vs, fun H'' hh => ⟨n - (i + 1), by omega, rfl, hlt, hh⟩, fun x H'' y => ?_⟩
        refine gs.yld i _ G' H' x H'' _ hlt g2.g g2.s y fun ws G2 H2 g3 r => ⟨wipe_setS hj, fun s0 H00 C0 cl0 fp0 => ?_⟩
        have sa : Sat (setE (wipeE sl (own.map (·.2))) js (Rs i)) (setS (wipe σ (own.map (·.2))) js ws) G2 H2 := Sat.setS (((a.wipe _).gr g1).gr (g2.trans g3)) r
        refine (ht i hlt s0 H00 C0 cl0 fp0).can sa fun bb G3 H3 g4 eb => ?_
        subst eb
        have lv : vs.length ≤ i := by
          have h4 := h3.len
          rw [List.length_map] at h4
          have h5 := List.length_filter_le t (List.range i)
          rw [List.length_range] at h5
          omega
        cases et : t i with
        | true =>
          refine iteT fun s H0 C cl fp => ?_
          refine (he i hlt et s H0 C cl fp).can (sa.gr g4) fun v G4 H4 g5 rv => ?_
          have g45 := g4.trans g5
          have hD3 : H4 D = some (.lst vs) := g45.hs _ _ (g3.hs _ _ h2)
          have gD3 : G4 D = none := (g3.trans g45).out h2 h1
          refine ⟨vs, hD3, Nat.lt_of_le_of_lt (by omega : vs.length ≤ 90000) (by decide), G4, vs ++ [v], ?_, gD3, upd_same, ?_⟩
          · rw [upd_upd]
            have gt : Gr G1 H1 G4 H4 := (g2.trans g3).trans g45
            refine ⟨gt.g, fun b o m e => ?_, fun b e => ?_, fun b o e => ?_, gt.n⟩
            · rw [upd_ne (ne_of_none e hD)]; exact gt.h b o m e
            · by_cases eb : b = D
              · rw [eb, upd_same]; exact fun z => nomatch z
              · rw [upd_ne eb]; exact gt.t b e
            · rw [upd_ne (fun z => by rw [z, gD3] at e; cases e)]; exact gt.s b o e
          · rw [List.range_succ, List.filter_append, List.map_append, List.filter_cons, if_pos et]
            exact (h3.mono (g3.g.trans g45.g)).app (.cons rv .nil)
        | false =>
          refine iteF ?_
          have gt : Gr G1 H1 G3 H3 := (g2.trans g3).trans g4
          have hD3 : H3 D = some (.lst vs) := g4.hs _ _ (g3.hs _ _ h2)
          have gD3 : G3 D = none := (g3.trans g4).out h2 h1
          refine ⟨G3, vs, ?_, gD3, hD3, ?_⟩
          · have eH3 : upd H3 D (.lst vs) = H3 := by
              funext b
              by_cases e : b = D
              · rw [e, upd_same, hD3]
              · rw [upd_ne e]
            rw [eH3]
            exact gt
          · rw [List.range_succ, List.filter_append, List.filter_cons, if_neg (by rw [et]; decide)]
            show PVs G3 (((List.range i).filter t ++ []).map d) vs
            rw [List.append_nil]
            exact h3.mono (g3.g.trans g4.g)
      · have e : i = n := by omega
        subst e
        exact .inl ⟨gs.stop G' H' g2.g g2.s, q D vs G' H' (g1.trans g2) (g1.hs.free hD) h1 h2 h3⟩
/-- name = [.. if ..] on one line -/
theorem w_setCompLT {α : Type} [Inhabited α] {elt it tst : Expr} {x y : Str} {px py spos : Pos} {scope : Scope} {xs : List α} {c : α → RV} (i j : Nat) (d : α → RV) (p : α → Bool) (hN : X.N.Nodup) (src : Ev X it sl (rLst X.K (xs.map c))) (hn : xs.length ≤ 90000)
    (ts : ∀ x ∈ xs, ∀ s H C cl fp, EvT (blkX X scope s H C cl fp) tst (setE (wipeE sl [j]) [j] [c x]) (fun b => b = p x))
    (el : ∀ x ∈ xs, p x = true → ∀ s H C cl fp, Ev (blkX X scope s H C cl fp) elt (setE (wipeE sl [j]) [j] [c x]) (d x)) (k : Wp X B L rest D (sl.set i (.own ((xs.filter p).map d)))) (hc : X.calm = true := by rfl) (hj : X.N[j]? = some y := by rfl) (hl : (relabel scope X.env).names.lookup y = some .local := by rfl) (hb : blkC X.N X.env.scope scope [(y, j)] = true := by kernel_rfl)
    (hx : X.N[i]? = some x := by rfl) (hxl : X.env.scope.names.lookup x = some .local := by rfl) (hsw : swapsWith (.ListComp elt [⟨.Name y py, it, [tst], 0⟩] scope pos) (some (.Name x px)) spos.line X.env = pure true := by exact sw_true rfl rfl (by decide) (by decide +kernel))
    (hf : ∀ x, foldedSetIterable it X.env x = pure x := by intro _; rfl) : Wp X B L (.Assign [.Name x px] (.ListComp elt [⟨.Name y py, it, [tst], 0⟩] scope pos) spos :: rest) D sl := by
  refine wp_of (ps_setLc (own := [(y, j)]) (g := gName j) (tt := ttC X scope tst) hc hN hx hxl hsw (pi_list pcan) (blkOk_by hb) (fun s H C cl fp => pg_name hN hj (.inl hl) (.inr hl)) (fun s H C cl fp => pts_one (pttC s H C cl fp)) pteC hf) fun σ G H a => lc_semT (own := [(y, j)]) (src_L src) (by simp) hn (fun i => p (xs.getD i default)) (fun i => d (xs.getD i default)) (fun i hi s H C cl fp => ts _ (getD_mem hi) s H C cl fp) (fun i hi hp s H C cl fp => el _ (getD_mem hi) hp s H C cl fp) σ G H _ a.sat fun q vs G' H' g' n1 n2 e r => ?_
  rw [filter_getD p d xs] at r
  exact k _ G' H' (a.setOwn g' i n1 n2 e r)
/-- if c: a value is set anew -/
theorem w_ifV (i : Nat) {c : Expr} {u : List Stmt} {α : Type} {P : α → Prop} {R : α → RV} {Pb : Bool → Prop} (x0 : α) (ei : sl[i]? = some (.val (R x0))) (px : P x0) (h : EvT X c sl Pb) (h1 : Pb true → (∀ x, P x → Wp X B L [] (dgo D X rest) (sl.set i (.val (R x)))) → Wp X B L u (dgo D X rest) sl) (k : ∀ x, P x → Wp X B L rest D (sl.set i (.val (R x)))) : Wp X B L (.If c u [] pos :: rest) D sl := by
  refine w_if h (fun z => h1 z fun x px => w_end (k x px)) (fun z => w_end ?_)
  have e : sl.set i (.val (R x0)) = sl := by
    apply List.ext_getElem?
    intro j
    by_cases q : j = i
    · rw [q, ei]
      exact List.getElem?_set_self (List.getElem?_eq_some_iff.mp ei).1
    · rw [List.getElem?_set_ne (Ne.symm q)]
  have := k x0 px
  rwa [e] at this
end
end Dl


set_option Elab.async false
set_option linter.all false
set_option maxRecDepth 100000
set_option maxHeartbeats 2000000
namespace Dl
open PySem PySem.Spec PyProof.Rows L2 ClX
/-! ### the written form of lists that hold instances with an own __repr__ -/
/-- what is under way: lists that hold an instance, so no data -/
def Held (H : Hp) (g : List Code) : Prop := ∀ id v rest kw, Code.builtin id ⟨v :: rest, kw⟩ ∈ g → ∃ a vs x C dx fs, v = .ref a ∧ H a = some (.lst vs) ∧ V.ref x ∈ vs ∧ H x = some (.ins C dx fs)
theorem Held.nil {H : Hp} : Held H [] := fun _ _ _ _ h => nomatch h
theorem Held.mono {H H' : Hp} {g : List Code} (h : Held H g) (s : Same H H') : Held H' g := fun id v rest kw hm => by
  obtain ⟨a, vs, x, C, dx, fs, e, h1, h2, h3⟩ := h id v rest kw hm
  exact ⟨a, vs, x, C, dx, fs, e, s _ _ h1, h2, s _ _ h3⟩
theorem Held.cons {H : Hp} {g : List Code} {a x C dx : Addr} {vs : List V} {fs : List (Str × V)} {id : String} {rest : List Value} {kw : List (Str × Value)} (h : Held H g) (h1 : H a = some (.lst vs)) (h2 : V.ref x ∈ vs) (h3 : H x = some (.ins C dx fs)) : Held H (.builtin id ⟨.ref a :: rest, kw⟩ :: g) := fun id' v' rest' kw' hm => by
  rcases List.mem_cons.mp hm with e | hm
  · injection e with e1 e2
    injection e2 with e3 e4
    injection e3 with e5 e6
    exact ⟨a, vs, x, C, dx, fs, e5, h1, h2, h3⟩
  · exact h id' v' rest' kw' hm
theorem vals_ref {x : Addr} : ∀ {vs : List V} {us : List Value}, Vals vs us → V.ref x ∈ vs → Value.ref x ∈ us
  | _, _, .nil, h => nomatch h
  | v :: vs, u :: us, .cons r t, h => by
    rcases List.mem_cons.mp h with e | h
    · subst e
      cases r
      exact List.mem_cons_self ..
    · exact List.mem_cons_of_mem _ (vals_ref t h)
theorem reads_mem {h : Heap} {v : Value} : ∀ {vs : List Value} {ds : List PyData} {as : List Addr}, ReadsAll h vs ds as → v ∈ vs → ∃ d bs, Reads h v d bs
  | _, _, _, .nil, m => nomatch m
  | _, _, _, .cons r t, m => by
    rcases List.mem_cons.mp m with e | m
    · exact ⟨_, _, e ▸ r⟩
    · exact reads_mem t m
section
variable {X : Cx} {pins : List (Addr × Obj)} {σ : L2.St} {H : Hp} {s : Shared}
theorem Held.clear {g : List Code} {b : Addr} {d : PyData} {as : List Addr} (h : Held H g) (I : Inv X pins σ H s) (r : Reads s.heap (.ref b) d as) : Clear g b := fun id v rest kw hm e => by
  obtain ⟨a, vs, x, C, dx, fs, e1, h1, h2, h3⟩ := h id v rest kw hm
  rw [e1] at e
  cases e
  obtain ⟨its, n, rv, ho, _⟩ := I.lst h1
  obtain ⟨od, io⟩ := instAt I h3
  have hx := vals_ref rv h2
  have no : ∀ d bs, ¬ Reads s.heap (.ref x) d bs := fun d bs q => by
    have hq := io.at_
    cases q with
    | list q1 q2 => rw [hq] at q1; cases q1; cases q2
    | tuple q1 q2 => rw [hq] at q1; cases q1; cases q2
    | dict q1 q2 => rw [hq] at q1; cases q1; cases q2
  cases r with
  | list q1 q2 q3 q4 =>
    rw [ho] at q1
    cases q1
    cases q3
    obtain ⟨d', bs', q⟩ := reads_mem (v := .ref x) q4 (by simpa using hx)
    exact no _ _ q
  | tuple q1 q2 =>
    rw [ho] at q1
    cases q1
    have z : Value.type "list" = Value.type "tuple" := q2
    injection z with z
    exact absurd z (by decide)
  | dict q1 q2 =>
    rw [ho] at q1
    cases q1
    have z : Value.type "list" = Value.type "dict" := q2
    injection z with z
    exact absurd z (by decide)
end
/-- what an element's written form is, while others are under way -/
def ReprE (X : Cx) (n : Nat) (R : RV) (t : Str) : Prop := ∀ (b0 : Nat), b0 + t.length ≤ sizeLine → ∀ (A : Around) (g : List Code) (pins : List (Addr × Obj)) (s : Shared) (σ : L2.St) (G H : Hp) (v : V) (u : Value) (Q : Str → Shared → Prop) (E : Value → Shared → Prop),
  A.guards = some g → Held H g → A.frames = X.A.frames → Room n A → Inv X pins σ H s → Same G H → R.r G v → RelV v u → (∀ G' H' s', Gr G H G' H' → Inv X pins σ H' s' → Q t s') → wpAny (model X.prog X.w) A (pyReprUnder b0 u) Q E s
section
variable {X : Cx}
theorem ReprE.mono {n m : Nat} {R : RV} {t : Str} (h : ReprE X n R t) (l : n ≤ m) : ReprE X m R t := fun b0 hb A g pins s σ G H v u Q E h1 h2 h3 h4 => h b0 hb A g pins s σ G H v u Q E h1 h2 h3 (h4.mono l)
theorem reprE_data {R : RV} {d : PyData} {n c : Nat} (py : R.Py X.K d) (sw : Show n c d) (hn : n ≤ 60 := by decide) (hc : c ≤ 16000000 := by decide) : ReprE X 0 R d.shown := by
  intro b0 hb A g pins s σ G H v u Q E hg held hf hr I sm r rel k
  obtain ⟨as, rd⟩ := Dp.reads I d v u (Dp.same sm d v (py G v r)) rel
  have h1 := sw.dep
  have h2 := sw.size
  have h3 := hr.un
  obtain ⟨bs, hbs, rk⟩ := ReprK.of_reads (prog := X.prog) (w := X.w) rd sw.able (fun z => by rw [sw.nodict] at z; cases z) (by rw [sizeLine_eq]; omega)
  exact rk b0 hb A g E s Q hg (fun b hb => by obtain ⟨d', as', q, _⟩ := hbs b hb; exact held.clear I q) (by omega) (fun _ _ e => e) fun h' tk hk => k G H _ (.refl sm) (I.kept hk)
end
/-- defs that are called where such a written form is under way -/
structure FnR (P : Program) (w : World) (K : PySem.W.Frag) (mg : Str → Option Value) (base : Heap) (k : Nat) (f : Addr) (fd : FuncData) (ps : List Str) (sp : Sp) : Prop where
  len : ∀ vs H Q E, sp vs H Q E → vs.length = ps.length
  run : ∀ (A : Around) (outer : List Env) (s : Shared) (H : Hp) (args : Args) (us : List Value) (vs : List V) (Q : VK) (E : XK) (g : List Code), A.guards = some g → Held H g → Room k A → Env0 P w K mg base A outer s H → BindsTo s fd args (ps.zip us) → Vals vs us → sp vs H Q E →
    codeAny (model P w) A (.call (.ref f) args) (CR CX0 outer P w H s Q E) s
section
variable {P : Program} {w : World} {K : PySem.W.Frag} {mg : Str → Option Value} {base : Heap}
theorem FunD.okR {x qual : Str} {params : Arguments} {body : List Stmt} {scope : Scope} {dvs : List V} {kws : List (Str × V)} {f : Addr} {fd : FuncData} {N ps : List Str} {k : Nat} {sp : Sp}
    (F : FunD K x qual params body scope dvs kws f fd) (S : FnScope N ps scope) (hlen : ∀ vs H Q E, sp vs H Q E → vs.length = ps.length)
    (hbody : ∀ (cdv : Value) (A : Around) (outer : List Env) (s : Shared) (H : Hp) (vs : List V) (Q : VK) (E : XK) (g : List Code), A.guards = some g → Held H g → Room k (A.deeper (envOfC qual scope s.heap.objs.size f cdv)) → sp vs H Q E →
      ∃ t, PSs (cxOf CX0 P w K mg base N qual scope f cdv A outer s H E) body t ∧ t { nx := fun _ H' => Q .non H', rt := Q } (L2.start N vs) H) : FnR P w K mg base (k + 1) f fd ps sp := by
  obtain ⟨oc, od, dV, kV, doc, pm, an, cdv, ct, osl, rfl, lk, hcd, _, _⟩ := F.ex
  refine ⟨hlen, ?_⟩
  intro A outer s H args us vs Q E g hgd held hr e0 hb r hsp
  have inK : K.In s.heap := e0.mod.kin.keeps fun b o e => (e0.bs b o e).1
  have noLim : s.heap.NoLimit := e0.mod.nolimit.keeps fun b o e => (e0.bs b o e).1
  have kinds : ∀ y ∈ ps.zip us, scope.names.lookup y.1 = some .local ∨ (scope.names.lookup y.1 = some .cell ∧ ((cellsFrom (s.heap.objs.size + 1) scope.names []).lookup y.1).isSome = true) := fun y hy =>
    (S.par y.1 (List.of_mem_zip (a := y.1) (b := y.2) hy).1).imp id fun q => ⟨q, PySem.W.cellsFrom_some _ _ _ (.inl q)⟩
  apply codeAny_call_function hr.depth (inK _ _ lk) rfl S.co S.gen rfl (PySem.W.codeRec_of inK hcd)
  apply hb
  apply wpAny_newFunctionEnv_cells S.kind kinds
  rintro env rfl s1 x
  refine ⟨noLim.keeps x.toInCall.keep, codeAny_func ?_⟩
  obtain ⟨t, ht, hq⟩ := hbody cdv A outer s H vs Q E g hgd held (hr.deeper _) hsp
  have I : Inv (cxOf CX0 P w K mg base N qual scope f cdv A outer s H E) [] (L2.start N vs) H s1 := inv_start S hr.hd e0 (hlen _ _ _ _ hsp) r x
  apply wpAny_mono (ht.run [] s1 (L2.start N vs) H _ I hq) _ fun _ _ z => z
  intro fl s' hs
  have fin : ∀ {τ : L2.St} {H' : Hp} {v : V} {u : Value}, Inv (cxOf CX0 P w K mg base N qual scope f cdv A outer s H E) [] τ H' s' → RelV v u → Q v H' → CE outer P w H s Q u s' := fun {_ H' v _} J rv q => ⟨v, H', J.os, J.bare, J.base, J.hok, rv, q⟩
  match fl, hs with
  | .ret u, ⟨v, τ, H', J, rv, q⟩ => exact fin J rv q
  | .next, ⟨τ, H', J, q⟩ => exact fin (v := V.non) (u := Value.none) J rfl q
  | .brk, ⟨_, _, _, q⟩ => exact q.elim
  | .cont, ⟨_, _, _, q⟩ => exact q.elim
def BodyR (P : Program) (w : World) (K : PySem.W.Frag) (mg : Str → Option Value) (base : Heap) (qual : Str) (st : Stmt) (f : Addr) (N : List Str) (k : Nat) {α : Type} (F : Fn α) : Prop :=
  ∀ (cdv : Value) (A : Around) (outer : List Env) (s : Shared) (H : Hp) (E : XK) (a : α) (B : Base) (L : Hp) (D : Ends) (g : List Code), A.guards = some g → Held B.H g → Room k (A.deeper (envOfC qual (defScope st) s.heap.objs.size f cdv)) → F.pre a → (∀ b, ¬ B.M b) → Post B.G B.H D.rt (F.res a) → (∀ σ H', D.rt .non H' → D.nx σ H') →
    Wp (cxOf CX0 P w K mg base N qual (defScope st) f cdv A outer s H E).nox B L (defBody st) D (ents N.length (F.args a))
theorem fnR_of {qual x : Str} {st : Stmt} {f : Addr} {fd : FuncData} {N : List Str} {k : Nat} {α : Type} {F : Fn α} (F0 : FnP K x qual st f fd) (S : FnScope N F.ps (defScope st)) (hl : ∀ a, (F.args a).length = F.ps.length)
    (body : BodyR P w K mg base qual st f N k F) : FnR P w K mg base (k + 1) f fd F.ps F.sp := by
  refine FunD.okR F0 S (fun vs H Q E h => ?_) (fun cdv A outer s H vs Q E g hgd held hr h => ?_)
  · obtain ⟨a, G, _, r, _⟩ := h
    rw [← r.len, hl]
  · obtain ⟨a, G, sm, r, hp, q⟩ := h
    refine ⟨_, PSs.nox pcanS, ?_⟩
    refine body cdv A outer s H E a ⟨G, H, NoM⟩ G { nx := fun _ H' => Q .non H', rt := Q } g hgd held hr hp (fun _ z => z) q (fun _ _ z => z) (L2.start N vs) G H ⟨sat_start sm r, Grow.refl sm, Same.refl _, fun i Rs p e _ => ?_⟩
    unfold ents at e
    rw [List.getElem?_append] at e
    split at e
    · rw [List.getElem?_map] at e
      cases q : (F.args a)[i]? with
      | none => rw [q] at e; cases e
      | some R' => rw [q] at e; cases e
    · rw [List.getElem?_replicate] at e
      split at e <;> cases e
structure HasR (P : Program) (w : World) (K : PySem.W.Frag) (mg : Str → Option Value) (base : Heap) (k : Nat) (C : Addr) {α : Type} (F : Fn α) : Prop where
  ex : ∃ f fd, Meth K C "__repr__" f ∧ Binds K fd F.ps [] ∧ FnR P w K mg base k f fd F.ps F.sp
end
section
variable {X : Cx}
theorem boundBy_K {M : Model} {A : Around} {E : Value → Shared → Prop} {s : Shared} {K : PySem.W.Frag} {x C f : Addr} {ox : Obj} {od : Option Obj} {name : Str} {last : Value → List Value → Sem Value} {Q : Option Value → Shared → Prop} (kin : K.In s.heap) (io : PySem.W.InstAt s.heap x ox C od) (hs : PySem.W.findIn K (.ref C) name = some (some (.ref f))) (hf : PySem.W.isFn K (.ref f) = true)
    (h : wpAny M A (last (.ref f) [.ref x]) (fun v => Q (some v)) E s) : wpAny M A (callSpecialIfBoundBy? last (.ref x) name) Q E s := by
  have fin : wpAny M A (last (.ref f) [.ref x] >>= fun v => pure (some v)) Q E s := wpAny_bind (wpAny_mono h (fun v s' z => wpAny_pure z) fun _ _ z => z)
  simp only [callSpecialIfBoundBy?, bindSpecialIfBound?]
  refine wpAny_holding (wpAny_bind (wpAny_bind (wpAny_bind (io.type.here ((PySem.W.looks_findIn kin hs).here ?_)))))
  refine wpAny_bind (wpAny_askSetting (wpAny_ite ?_))
  split
  · exact wpAny_bind ((PySem.W.bind_fn kin _ (beq_iff_eq.mp hf)).here (wpAny_pure (by exact fin)))
  · exact wpAny_tryCatch (wpAny_bind ((PySem.W.bind_fn kin _ (beq_iff_eq.mp hf)).here (wpAny_pure (by exact fin))))
theorem reprE_ins {k : Nat} {C : Addr} {α : Type} {F : Fn α} {fs : List (Str × RV)} {t : Str} (h : HasR X.prog X.w X.K X.mg X.base k C F) (z : α) (hz : F.args z = [rIns C fs]) (hp : F.pre z) (hres : F.res z = .v (iS t)) : ReprE X k (rIns C fs) t := by
  intro b0 hb A g pins s σ G H v u Q E hg held hf hr I sm r rel kk
  obtain ⟨y, dx, vs, e, h1, p1⟩ := id r
  subst e
  cases rel
  obtain ⟨f, fd, hm, hbi, ok⟩ := h.ex
  obtain ⟨od, io⟩ := instAt I (sm _ _ h1)
  have hu := hr.un
  refine wpAny_pyReprUnder_ref (by omega) ?_
  unfold pyReprObjUnder pyReprObjBy
  refine wpAny_bind (wpAny_cRoomFor (by omega) ?_)
  refine wpAny_bind (m := specialOf (.ref y) (Str.ofString "__repr__")) (wpAny_bind (io.type.here ((PySem.W.looks_findIn I.kIn hm.at_).here ?_)))
  refine wpAny_bind (m := callSpecialIfBoundBy? _ (.ref y) (Str.ofString "__repr__")) (boundBy_K I.kIn io hm.at_ hm.fn ?_)
  show wpAny (model X.prog X.w) A (call (.ref f) ([.ref y] ++ [])) _ _ _
  have hl : ([Value.ref y] : List Value).length = F.ps.length := by
    have := ok.len [.ref y] H (fun _ _ => True) (fun _ _ _ => False) ⟨z, G, sm, by rw [hz]; exact .cons r .nil, hp, by rw [hres]; exact fun _ _ _ _ _ => trivial⟩
    exact this
  have hb' := hbi s [.ref y] I.kIn (by rw [List.append_nil]; exact hl)
  rw [List.append_nil] at hb'
  apply wpAny_call
  have e0 := I.env0
  refine codeAny_mono (ok.run A X.stack s H ⟨[.ref y], []⟩ [.ref y] [.ref y] (fun v H' => v = .str t ∧ ∃ G', Gr G H G' H') (fun _ _ _ => False) g hg held hr ⟨hf.trans e0.frames, e0.mod, e0.bs, e0.bsz, e0.funs, e0.frf, e0.hok, e0.bare⟩ hb' (.cons rfl .nil) ⟨z, G, sm, by rw [hz]; exact .cons r .nil, hp, ?_⟩) fun r1 s' hq => ?_
  · rw [hres]
    rintro v G' H' gr ⟨y', e1, e2⟩
    subst e2
    exact ⟨e1, G', gr⟩
  · match r1, hq with
    | .error e, hq => exact hq.elim
    | .ok (.ret u), hq =>
      obtain ⟨v', H', I', rv, e1, G', gr⟩ := I.after hq
      subst e1
      obtain ⟨tk, rfl⟩ := rv
      exact wpAny_bind (wpAny_isInstance (T := "str") (b := true) rfl isSubtype_str_str (wpAny_pure ⟨_, _, rfl, kk G' H' s' gr I'⟩))
    | .ok .next, hq => exact False.elim hq
    | .ok .brk, hq => exact False.elim hq
    | .ok .cont, hq => exact False.elim hq
end
end Dl


set_option Elab.async false
set_option linter.all false
set_option maxRecDepth 100000
set_option maxHeartbeats 2000000
namespace Dl
open PySem PySem.Spec PyProof.Rows L2 ClX
theorem vals_strs : ∀ {done : List Str} {us : List Value}, Vals (done.map V.str) us → ∃ l : List (Str × Tok), us = strValues l ∧ l.map (·.1) = done
  | [], _, h => by cases h; exact ⟨[], rfl, rfl⟩
  | t :: done, _, h => by
    cases h with
    | cons r h =>
      obtain ⟨tk, rfl⟩ := r
      obtain ⟨l, rfl, e⟩ := vals_strs h
      exact ⟨(t, tk) :: l, rfl, by rw [List.map_cons, e]⟩
theorem vals_at : ∀ {vs : List V} {us : List Value} {i : Nat} {v : V}, Vals vs us → vs[i]? = some v → ∃ u, us[i]? = some u ∧ RelV v u
  | _, _, _, _, .nil, e => by simp at e
  | _, _, 0, _, .cons r _, e => by simp at e; subst e; exact ⟨_, rfl, r⟩
  | _, _, i + 1, _, .cons _ t, e => by
    obtain ⟨u, h1, h2⟩ := vals_at (i := i) t (by simpa using e)
    exact ⟨u, by simpa using h1, h2⟩
section
variable {X : Cx} {pins : List (Addr × Obj)} {σ : L2.St} {G0 H0 : Hp} {a p x C dx : Addr} {vs : List V} {fs : List (Str × V)} {Rs : List RV} {ts : List Str} {n b0 : Nat} {A : Around} {g : List Code} {R : Result → Shared → Prop}
theorem room_loop {args : Args} (hr : Room (n + 1) A) : Room n (A.under (.builtin "list.__repr__.loop" args)) := by
  refine ⟨hr.hd, ?_, ?_⟩
  · have h1 := hr.dp
    have h2 : (Code.builtin "list.__repr__.loop" args).weight ≤ 3 := by
      unfold Code.weight Code.frames Code.isCreation Code.isCaller
      simp [isGuard_list_loop]
      split <;> omega
    show A.depth + (Code.builtin "list.__repr__.loop" args).weight + 3 * n + 5 < recursionLimit
    omega
  · have h1 := hr.un
    rw [units_under_list_loop]
    omega
theorem frames_loop {args : Args} : (A.under (.builtin "list.__repr__.loop" args)).frames = A.frames := by
  simp [Around.under, Code.envs, Code.isFrame, pushEnvs]
theorem loopI (hg : A.guards = some g) (held : Held H0 g) (hf : A.frames = X.A.frames) (hr : Room (n + 1) A) (sm : Same G0 H0) (ha : H0 a = some (.lst vs)) (hx : V.ref x ∈ vs) (hix : H0 x = some (.ins C dx fs)) (hp0 : H0 p = none) (hl : ts.length = vs.length) (rr : PVs G0 Rs vs)
    (hT : ∀ (i : Nat) (Q : RV) (t : Str), Rs[i]? = some Q → ts[i]? = some t → ReprE X n Q t) (hsz : b0 + (listText ts).length ≤ sizeLine)
    (hR : ∀ G H s u, Gr G0 H0 G H → Inv X pins σ H s → R (.ok (.ret (.str (listText ts) u))) s) :
    ∀ (k i : Nat) (s : Shared) (G H : Hp) (done : List Str), vs.length - i = k → i ≤ vs.length → Inv X pins σ H s → Gr G0 H0 G H → H p = some (.lst (done.map V.str)) → G p = none → done = ts.take i →
    codeAny (model X.prog X.w) A (.builtin "list.__repr__.loop" ⟨[.ref a, rawInt i, .ref p, rawInt ((b0 + piled (ts.take i) : Nat) : Int)], []⟩) R s := by
  have hX : (listText ts).length = (textFrom 0 "[" ts).length + 1 := by
    show (textFrom 0 "[" ts ++ "]").length = _
    rw [strLen_append]; rfl
  have hL := textFrom_len ts 0 "["
  have sz1 : ts.length ≤ sizeLine := by
    have h1 := hL.1
    rw [if_neg (Nat.lt_irrefl 0)] at h1
    omega
  have sz2 : ∀ t ∈ ts, t.length ≤ sizeLine := fun t ht => by have h2 := hL.2.1 t ht; omega
  have hp3 := piled_le_listText ts
  intro k
  induction k with
  | zero =>
    intro i s G H done hk hi I gr hp gp hd
    have hin : i = vs.length := by omega
    obtain ⟨its, m, rv, ho, _⟩ := I.lst (gr.hs _ _ ha)
    obtain ⟨acc, m2, rv2, ho2, _⟩ := I.lst hp
    obtain ⟨l, el, ed⟩ := vals_strs rv2
    have hil : its.length = vs.length := rv.length.symm
    refine codeAny_builtin F.entry_list_repr_loop ?_
    show wpAny _ _ (Builtin.«list.__repr__.loop» ⟨[.ref a, .int i 0, .ref p, .int ((b0 + piled (ts.take i) : Nat) : Int) 0], []⟩) _ _ s
    rw [repr_loop_tree]
    refine wpAny_bind (wpAny_listItems ho rfl ?_)
    have hn : its.toArray[(i : Int).toNat]? = none := by simp [hin, hil]
    simp only [hn]
    unfold reprEnd
    refine wpAny_bind (wpAny_listItems ho2 rfl ?_)
    rw [show acc.toArray.toList = strValues l from by rw [el], repr_fold]
    refine wpAny_bind (wpAny_pure ?_)
    have hall : l.map (·.1) = ts := by rw [ed, hd, hin, ← hl, List.take_length]
    rw [hall]
    have hsz3 : (listText ts).length ≤ sizeLine := by omega
    refine wpAny_bind (wpAny_mkStr (wpAny_pure ?_) hsz3)
    exact hR G H _ _ gr (I.tok _)
  | succ k ih =>
    intro i s G H done hk hi I gr hp gp hd
    have hlt : i < vs.length := by omega
    obtain ⟨its, m, rv, ho, _⟩ := I.lst (gr.hs _ _ ha)
    have hil : its.length = vs.length := rv.length.symm
    obtain ⟨Q, eQ, rQ⟩ := rr.back (i := i) (v := vs[i]) (List.getElem?_eq_getElem hlt)
    obtain ⟨u, eu, ru⟩ := vals_at rv (i := i) (v := vs[i]) (List.getElem?_eq_getElem hlt)
    have ht : ts[i]? = some (ts[i]'(by omega)) := List.getElem?_eq_getElem (by omega)
    generalize ts[i]'(by omega) = t at ht
    have hp1 := piled_take_succ ht
    have hp2 := piled_take_le ts (i + 1)
    refine codeAny_builtin F.entry_list_repr_loop ?_
    show wpAny _ _ (Builtin.«list.__repr__.loop» ⟨[.ref a, .int i 0, .ref p, .int ((b0 + piled (ts.take i) : Nat) : Int) 0], []⟩) _ _ s
    rw [repr_loop_tree]
    refine wpAny_bind (wpAny_listItems ho rfl ?_)
    have hsome : its.toArray[(i : Int).toNat]? = some u := by rw [Int.toNat_natCast]; simpa using eu
    simp only [hsome]
    rw [Int.toNat_natCast]
    refine wpAny_bind (wpAny_holding (hT i Q t eQ ht (b0 + piled (ts.take i) + 1) (by omega) _ _ pins _ σ G H vs[i] u _ _ (guards_under_guard (isGuard_list_loop _) hg) ((held.mono gr.hs).cons (gr.hs _ _ ha) hx (gr.hs _ _ hix)) (frames_loop.trans hf) (room_loop hr) I gr.s (Q.m gr.g rQ) ru fun G2 H2 s2 g2 I2 => ?_))
    have gr2 := gr.trans g2
    have hp2' : H2 p = some (.lst (done.map V.str)) := g2.hs _ _ hp
    obtain ⟨acc, m2, rv2, ho2, hz2⟩ := I2.lst hp2'
    have hal : acc.length = done.length := by rw [← rv2.length, List.length_map]
    have hdl : done.length ≤ i := by rw [hd, List.length_take]; omega
    refine wpAny_bind (wpAny_mkStr ?_ (sz2 t (List.mem_of_getElem? ht)))
    refine wpAny_bind ?_
    show wpAny _ _ (updateSeq p _) _ _ _
    refine wpAny_updateSeq ho2 rfl (wpAny_pure ⟨F.quiet_list_repr_loop _, ?_⟩) (by rw [List.size_toArray]; omega)
    have e1 : ((i : Int) + 1) = ((i + 1 : Nat) : Int) := by omega
    have e2 : b0 + piled (ts.take i) + (t.length + 2) = b0 + piled (ts.take (i + 1)) := by omega
    rw [e1, e2]
    have J := I2.tok (s2.toks + 1) |>.lstUpd (f := Obj.mapSeq (·.push (.str t s2.toks))) (its' := acc ++ [.str t s2.toks]) (n' := m2 + 1) (ys := (done ++ [t]).map V.str) hp2' ho2 (by simp [Obj.mapSeq]) (by rw [List.map_append]; exact rv2.append (.cons ⟨_, rfl⟩ .nil)) (by rw [List.length_map, List.length_append, List.length_singleton]; omega) (s2.toks + 1)
    refine ih (i + 1) _ G2 _ (done ++ [t]) (by omega) hlt J ⟨gr2.g, fun b o nm e => ?_, fun b e => ?_, fun b o e => ?_, gr2.n⟩ upd_same (g2.out hp gp) (by rw [List.take_add_one, ht, hd]; rfl)
    · rw [upd_ne (ne_of_none e hp0)]; exact gr2.h b o nm e
    · by_cases q : b = p
      · rw [q, upd_same]; exact fun z => nomatch z
      · rw [upd_ne q]; exact gr2.t b e
    · have np : b ≠ p := fun z => by rw [z, g2.out hp gp] at e; cases e
      rw [upd_ne np]; exact gr2.s b o e
end
end Dl


set_option Elab.async false
set_option linter.all false
set_option maxRecDepth 100000
set_option maxHeartbeats 2000000
namespace Dl
open PySem PySem.Spec PyProof.Rows L2 ClX
/-- a list that is known as it is -/
def rLs (Rs : List RV) : RV := ⟨fun G v => ∃ a vs, v = .ref a ∧ G a = some (.lst vs) ∧ PVs G Rs vs, fun s ⟨a, vs, e, q, p⟩ => ⟨a, vs, e, s _ _ q, p.mono s⟩⟩
section
variable {X : Cx} {sl : List Ent} {e : Expr} {p pos : Pos} {Rs : List RV} {ts : List Str} {n : Nat}
theorem EvR.ls (h : EvR X e sl (.l Rs)) : Ev X e sl (rLs Rs) := fun pins s σ G H Q I a k => h pins s σ G H Q I a fun b vs G' H' g n1 n2 e1 r =>
  k _ _ _ (Gr.take g n1 e1 n2) ⟨b, vs, rfl, upd_same, r.mono (same_new n2)⟩
theorem call_reprI (hgd : X.A.guards = some []) (hr : Room (n + 2) X.A) (hl : ts.length = Rs.length) (hT : ∀ (i : Nat) (Q : RV) (t : Str), Rs[i]? = some Q → ts[i]? = some t → ReprE X n Q t) (hsz : (listText ts).length ≤ sizeLine) :
    CallR X (.builtin "repr") (fun xs H Q => ∃ b vs G x C dx fs, xs = [.ref b] ∧ H b = some (.lst vs) ∧ Same G H ∧ PVs G Rs vs ∧ V.ref x ∈ vs ∧ H x = some (.ins C dx fs) ∧ ∀ G' H', Gr G H G' H' → Q (.str (listText ts)) H') := by
  intro pins s σ H xs us Q I r h
  obtain ⟨b, vs, G, x, C, dx, fs, rfl, hb, sm, rr, hx, hix, q⟩ := h
  rw [Vals.ref1 r]
  obtain ⟨its, m, rv, ho, _⟩ := I.lst hb
  have hu := hr.un
  have hr1 : Room (n + 1) X.A.in1 := ⟨hr.hd, by have := hr.dp; show X.A.depth + 3 * (n + 1) + 5 < _; omega, by show X.A.units + 1 + 16 * (n + 1) + 200 < _; omega⟩
  have ty : s.TypeIs (.ref b) "list" := ⟨_, ho, rfl⟩
  refine call_repr_slot (by omega) ty F.slot_list_repr.toG ?_
  refine wpAny_call (codeAny_call_builtin F.slot_list_repr.plain F.entry_list_repr (F.slot_list_repr.check _ _ _ _ _ _ _ _ ty (F.args_list_repr_1 _) ?_))
  have hf : H s.heap.objs.size = none := I.hok.fresh (Nat.le_refl _)
  have gf : G s.heap.objs.size = none := sm.free hf
  obtain ⟨u0, l, el⟩ : ∃ u0 l, its = u0 :: l := by
    have := vals_ref rv hx
    cases its with
    | nil => cases this
    | cons u0 l => exact ⟨u0, l, rfl⟩
  subst el
  show wpAny (model X.prog X.w) X.A.in1.in1 (Builtin.listReprAt 0 ⟨[.ref b], []⟩) _ _ s
  refine wpAny_list_repr_head (A := X.A.in1.in1) hgd (fun v rest kw hm => nomatch hm) ho rfl ?_
  refine wpAny_bind (m := newList []) (wpAny_newObj_type ?_)
  refine wpAny_pure ⟨F.quiet_list_repr_loop _, ?_⟩
  have J : Inv X pins σ (upd H s.heap.objs.size (.lst [])) { s with heap := s.heap.push { cls := .type "list", data := .seq #[] } } := I.laid (t' := s.toks) (fun b u e => Heap.get?_push_of_some _ e) (Nat.le_refl _) ⟨by show 0 ≤ sizeLine; omega, [], 0, .nil, Heap.get?_push_size _ rfl⟩
  refine loopI (X := X) (pins := pins) (σ := σ) (A := X.A.in1) (G0 := G) (H0 := H) (a := b) (p := s.heap.objs.size) (Rs := Rs) (ts := ts) (b0 := 0) (n := n) hgd .nil rfl hr1 sm hb hx hix hf (by rw [hl, rr.len]) rr hT (by omega) (fun G' H' s' u gr I' => ?_) vs.length 0 _ G _ [] (by omega) (Nat.zero_le _) J (Gr.newOut sm hf) upd_same gf rfl
  exact ⟨_, _, rfl, ⟨.str (listText ts), H', I', ⟨_, rfl⟩, q G' H' gr⟩⟩
/-- repr([..]) where one is an instance -/
theorem e_reprI (hgd : X.A.guards = some []) (hr : Room (n + 2) X.A) (h : EvR X e sl (.l Rs)) {j : Nat} {C : Addr} {fs : List (Str × RV)} (hi : Rs[j]? = some (rIns C fs)) (hl : ts.length = Rs.length) (hT : ∀ (i : Nat) (Q : RV) (t : Str), Rs[i]? = some Q → ts[i]? = some t → ReprE X n Q t) (hsz : (listText ts).length ≤ sizeLine) (hm : X.mg "repr" = none) (hg : Gl X "repr" := by rfl) (he : starEach [e] X.env = [(false, eval e X.env)] := by rfl) : Ev X (.Call (.Name "repr" p) [e] [] pos) sl (iS (listText ts)) :=
  e_cb (rs := .v _) (call_reprI hgd hr hl hT hsz) hm (by decide +kernel) (a1 h.ls he) (fun vs G H Q s r q => by
    obtain ⟨v, rfl, b, ws, e1, h1, h2⟩ := pv1 r
    obtain ⟨v2, hv2, y, dx, fs', e2, h3, _⟩ := h2.get hi
    subst e1 e2
    exact ⟨b, ws, G, y, C, dx, fs', rfl, s _ _ h1, s, h2, List.mem_of_getElem? hv2, s _ _ h3, fun G' H' gr => q _ G' H' gr ⟨_, rfl, rfl⟩⟩) hg (by decide) (by decide) he rfl
end
/-! ### a def that ends with the written form of an instance -/
section
variable {X : Cx} {sl : List Ent} {B : Base} {L : Hp} {D : Ends} {rest : List Stmt} {p1 p2 p3 q1 q2 pos pos' : Pos} {e1 e2 : Expr} {R : RV} {ds : List PyData} {n : Int} {m c : Nat} {g : List Code} {z1 z2 z3 : Str}
/-- {x!r} of a list of data -/
def tFmtL (X : Cx) (g : List Code) (te : TE) : TE := fun σ H Q => te σ H fun x H1 => ∃ b ds, x = .ref b ∧ Dp X.K H1 (.ref b) (.list ds) ∧ Show 59 8000000 (.list ds) ∧ Held H1 g ∧ Q (.str (PyData.list ds).shown) H1
theorem pe_fmtL {e : Expr} {te : TE} {pos : Pos} (hgd : X.A.guards = some g) (hu : X.A.units + 80 < cLine) (he : PE X e te) : PE X (.FormattedValue e 114 none pos) (tFmtL X g te) := by
  refine ⟨fun pins s σ H Q I h => ?_⟩
  refine wpAny_FormattedValue_repr (thn (he.run pins s σ H _ I h) fun v s1 hv => ?_)
  obtain ⟨x, H1, I1, r1, b, ds, rfl, hd, sw, held, q⟩ := hv
  cases r1
  obtain ⟨as, rd⟩ := Dp.reads I1 _ (.ref b) (.ref b) hd rfl
  have w1 := sw.able
  have w2 := sw.nodict
  have w3 := sw.dep
  have w4 := sw.size
  have hz : (PyData.list ds).shown.length ≤ sizeLine := by rw [sizeLine_eq]; omega
  have rb : Reads s1.heap (.ref b) (.list ds) as := rd
  have fin : ∀ (h' : Heap) (u : Tok) (tk : Nat), (∀ b o, s1.heap.get? b = some o → h'.get? b = some o) → wpAny (model X.prog X.w) X.A (formatField (.str (PyData.list ds).shown u) _) (EP X pins σ Q) X.xe { s1 with heap := h', toks := tk } := fun h' u tk hk =>
    wpAny_formatField_str ⟨.str (PyData.list ds).shown, H1, I1.kept hk, ⟨_, rfl⟩, q⟩ ⟨.str (PyData.list ds).shown, H1, (I1.kept hk).tok _, ⟨_, rfl⟩, q⟩ hz
  cases rd with
  | list k1 k2 k3 k4 =>
    rename_i o vs n bs0
    have hz' : (listText (PyData.shownAll ds)).length ≤ sizeLine := by simpa only [PyData.shown] using hz
    obtain ⟨bs, hb, hk⟩ := ReprAllK.of_readsAll (prog := X.prog) (w := X.w) k4 (by simpa [PyData.showable] using w1) (fun hx => by rw [show PyData.hasDictAll ds = false from by simpa [PyData.hasDict] using w2] at hx; cases hx) (fun t ht => Nat.le_trans (listText_mem_le ht) hz')
    have hna : b ∉ bs := not_mem_of_deeper rb (by simp only [PyData.depth]; omega) hb
    simp only [PyData.depth] at w3
    obtain ⟨l⟩ := vs
    cases l with
    | nil =>
      have k4' : ReadsAll s1.heap [] ds _ := k4
      cases k4'
      have e : (PyData.list []).shown = "[]" := by simp only [PyData.shown, PyData.shownAll, listText_nil]
      rw [e] at fin
      exact wpAny_pyReprObj_list_empty ⟨o, k1, k2⟩ (by omega) k1 k3 (fin s1.heap _ _ fun _ _ z => z)
    | cons x l =>
      refine wpAny_pyReprObj_listK (as := bs) k1 k2 k3 hna (by simpa using hk.length_eq) (fun i y e => hk.item i y (by simpa using e)) hgd (fun b' hb' => ?_) (by omega) (fun _ _ z => z) (fun h' u tk hk => ?_) hz'
      · rcases List.mem_cons.mp hb' with e | hb'
        · rw [e]; exact held.clear I1 rb
        · obtain ⟨d', as', q', _⟩ := hb b' hb'
          exact held.clear I1 q'
      · have := fin h' u tk hk
        simp only [PyData.shown] at this
        exact this
end
end Dl


set_option Elab.async false
set_option linter.all false
set_option maxRecDepth 100000
set_option maxHeartbeats 2000000
namespace Dl
open PySem PySem.Spec PyProof.Rows L2 ClX
section
variable {X : Cx} {sl : List Ent} {B : Base} {L : Hp} {D : Ends} {rest : List Stmt} {p1 p2 p3 q1 q2 pos pos' : Pos} {e1 e2 : Expr} {R : RV} {ds : List PyData} {n : Int} {g : List Code} {z1 z2 z3 : Str}
/-- z1{e1}z2{e2!r}z3 -/
def fText (z1 z2 z3 : Str) (n : Int) (ds : List PyData) : Str := ((((Str.empty ++ z1) ++ (toString n : Str)) ++ z2) ++ (PyData.list ds).shown) ++ z3
theorem w_retF {j1 j2 j3} (hgd : X.A.guards = some g) (hu : X.A.units + 80 < cLine) (held : Held B.H g) (hM : ∀ a, ¬ B.M a) (h1 : Ev X e1 sl (iI n)) (hn : n.natAbs.log2 < 1920) (h2 : Ev X e2 sl R) (py : R.Py X.K (.list ds)) (hr : ∀ G v, R.r G v → ∃ b, v = .ref b) (sw : Show 59 8000000 (.list ds)) (hz : (fText z1 z2 z3 n ds).length ≤ sizeLine) (q : Post B.G B.H D.rt (.v (iS (fText z1 z2 z3 n ds)))) :
    Wp X B L (.Return (some (.JoinedStr [.Constant (.str z1) j1 p1, .FormattedValue e1 (-1) none q1, .Constant (.str z2) j2 p2, .FormattedValue e2 114 none q2, .Constant (.str z3) j3 p3] pos)) pos' :: rest) D sl := by
  have l1 : ∀ a b : Str, (a ++ b).length = a.length + b.length := fun a b => strLen_append a b
  have hz' := hz
  unfold fText at hz'
  simp only [l1] at hz'
  refine wp_of (ps_ret (pe_joined (.cons pe_str (.cons (pe_fmt pcan) (.cons pe_str (.cons (pe_fmtL hgd hu pcan) (.cons pe_str .nil))))))) fun σ G H a => ?_
  refine ⟨z1, rfl, by rw [l1]; omega, h1.can a.sat fun v G1 H1 g1 ⟨i, ei, hi⟩ => .inr ⟨i, ei, by rw [hi]; exact hn, toString i, rfl, by rw [hi]; simp only [l1]; omega, z2, rfl, by rw [hi]; simp only [l1]; omega, h2.can (a.sat.gr g1) fun v2 G2 H2 g2 r2 => ?_⟩⟩
  obtain ⟨b, rfl⟩ := hr G2 v2 r2
  have g3 := (a.gr0 hM).trans (g1.trans g2)
  refine ⟨b, ds, rfl, Dp.same g2.s _ _ (py G2 _ r2), sw, held.mono g3.hs, (PyData.list ds).shown, rfl, by rw [hi]; simp only [l1]; omega, z3, rfl, by rw [hi]; simp only [l1]; omega, ?_⟩
  exact q _ G2 H2 g3 ⟨_, rfl, by rw [hi]; rfl⟩
end
end Dl


set_option Elab.async false
set_option linter.all false
set_option maxRecDepth 100000
set_option maxHeartbeats 2000000
namespace Dl
open PySem PySem.Spec PyProof.Rows L2 ClX
section
variable {X : Cx} {sl : List Ent} {k : Nat} {C : Addr} {α : Type} {F : Fn α} {fs : List (Str × RV)} {Rs : List RV} {e fe a b : Expr} {es : List Expr} {pos p1 p2 : Pos}
/-- fe(e, ..), fe no name and no attribute: an instance with an own __call__ -/
theorem e_callX (h : HasMe X.prog X.w X.K X.mg X.base k C "__call__" F) (hfi : ∀ f, PySem.W.findIn X.K (.ref C) "__call__" = some (some (.ref f)) → PySem.W.fnIn X.K f = true) (hr : Room k X.A) (z : α) (ho : Ev X fe sl (rIns C fs)) (ha : EvA X (e :: es) sl Rs) (hz : F.args z = rIns C fs :: Rs) (hp : F.pre z)
    (hev : eval (.Call fe (e :: es) [] pos) X.env = (do callWith pos (← eval fe X.env) [] (backTo pos (starEach (e :: es) X.env)) (backToKw pos (keywordEach [] X.env))) := by rfl)
    (he : starEach (e :: es) X.env = (false, eval e X.env) :: starEach es X.env := by rfl) (hpl : (backTo pos (starEach es X.env)).any (·.1) = false := by rfl) : EvR X (.Call fe (e :: es) [] pos) sl (F.res z) := by
  obtain ⟨f, fd, hm, hb, ok⟩ := h.ex
  intro pins s σ G H Q I a q
  rw [hev]
  apply wpAny_bind
  refine thn (ho pins s σ G H (fun v H1 => ∃ G1, Gr G H G1 H1 ∧ (rIns C fs).r G1 v) I a fun v G1 H1 g1 r1 => ⟨G1, g1, r1⟩) fun u s1 ⟨v, H1, I1, ru, G1, g1, r1⟩ => ?_
  obtain ⟨y, dx, vs, e1, h1, _⟩ := id r1
  subst e1
  cases ru
  have pl : ((backTo pos (starEach (e :: es) X.env)).any (·.1) || false) = false := by
    rw [he]
    show ((false || (backTo pos (starEach es X.env)).any (·.1)) || false) = false
    rw [hpl]
    rfl
  refine callWith_inst (C := C) (ox := PySem.W.instObj C dx) rfl pl ?_
  have run : wpAny (model X.prog X.w) X.A (spliced (backTo pos (starEach (e :: es) X.env))) (fun us s2 => (∃ od, PySem.W.InstAt s2.heap y (PySem.W.instObj C dx) C od) ∧ wpAny (model X.prog X.w) X.A (call (.ref y) us) (EP X pins σ Q) X.xe s2) X.xe s1 := by
    refine thn ((pcanA (X := X) (es := e :: es)).run pos pins s1 σ H1 _ I1 (ha.can (a.gr g1) (Q := fun ws H2 => H2 y = some (.ins C dx vs) ∧ F.sp (.ref y :: ws) H2 Q fun _ _ _ => False) fun ws G2 H2 g2 r2 => ⟨g2.s _ _ (g2.g _ _ h1), z, G2, g2.s, ?_, hp, (q.gr g1).gr g2⟩)) fun us s2 ⟨ws, H2, I2, rv, hy, q2⟩ => ?_
    · rw [hz]; exact .cons ((rIns C fs).m g2.g r1) r2
    · obtain ⟨od, J⟩ := instAt I2 hy
      refine ⟨⟨od, J⟩, ?_⟩
      have hb' := hb s2 (.ref y :: us) I2.kIn (by rw [List.append_nil]; have := ok.len _ _ _ _ q2; rw [List.length_cons, rv.length] at this; rw [List.length_cons]; exact this)
      rw [List.append_nil] at hb'
      apply wpAny_call
      refine PySem.W.kco_code I2.kIn J rfl hm.at_ hm.fn (hfi f hm.at_) ?_
      refine codeAny_mono (ok.run X.A X.stack s2 H2 ⟨.ref y :: us, []⟩ (.ref y :: us) (.ref y :: ws) Q (fun _ _ _ => False) hr I2.env0 hb' (.cons rfl rv) q2) fun r1 s' hq => ?_
      match r1, hq with
      | .error e, hq => exact pass0 pins σ H2 s2 e s' I2 hq
      | .ok (.ret u), hq => exact I2.after hq
      | .ok .next, hq => exact False.elim hq
      | .ok .brk, hq => exact False.elim hq
      | .ok .cont, hq => exact False.elim hq
  rw [he] at run ⊢
  exact PySem.Calls.evalArgs_plain run
/-- x * n, x of an own class, n an int -/
theorem e_mulC {op : Operator} {n : Int} {fo ro rc : Option Value} (h : HasMe X.prog X.w X.K X.mg X.base k C (PySem.dunder op.info.2) F) (hf : PySem.W.selfFirst X.K C = true) (hrc : PySem.W.findIn X.K (.ref C) (dunderR op.info.2) = some rc) (hro : rc = none ∨ ∃ g : Addr, rc = some (.ref g)) (h1 : PySem.W.findIn X.K (.type "int") (PySem.dunder op.info.2) = some fo) (h2 : PySem.W.findIn X.K (.type "int") (dunderR op.info.2) = some ro) (hsub : PySem.W.subIn X.K (.type "int") (.ref C) = some false)
    (hr : Room k X.A) (z : α) (ha : Ev X a sl (rIns C fs)) (hb' : Ev X b sl (iI n)) (hz : F.args z = [rIns C fs, iI n]) (hp : F.pre z) : EvR X (.BinOp a op b pos) sl (F.res z) := by
  obtain ⟨f, fd, hm, hb, ok⟩ := h.ex
  have bin : OpR X (binaryOp op) (fun x y H Q => ∃ x1 dx xs, x = .ref x1 ∧ y = .int n ∧ H x1 = some (.ins C dx xs) ∧ F.sp [.ref x1, .int n] H Q fun _ _ _ => False) := by
    intro pins s σ H x y v u Q I rx ry ⟨x1, dx, xs, ex, ey, q1, q⟩
    subst ex ey
    cases rx
    obtain ⟨tk, rfl⟩ := ry
    obtain ⟨od, J⟩ := instAt I q1
    obtain ⟨m, hF⟩ := I.fr
    refine PySem.W.ksp_binT (T := "int") hF I.ok.mod.kin J rfl hf hm.at_ hm.fn hrc hro h1 h2 hsub ?_
    refine wpAny_mono (run_fn (dvs := []) (ds := []) (E := fun _ _ _ => False) ok hr hb .nil pass0 I (vs := [.ref x1, .int n]) (us := [.ref x1, .int n tk]) (.cons rfl (.cons ⟨_, rfl⟩ .nil)) (by rw [List.append_nil]; exact q)) (fun r s' hq => ?_) fun _ _ y => y
    obtain ⟨v', H', I', rv, hq'⟩ := id hq
    exact back_of rv hq
  refine evR_of (pe_op bin pcan pcan) fun σ G H Q s q => ha.can s fun v G1 H1 g1 r => hb'.can (s.gr g1) fun w G2 H2 g2 r2 => ?_
  obtain ⟨y, dx, vs, e1, q1, _⟩ := id r
  obtain ⟨i, e2, hi⟩ := id r2
  subst e1 e2 hi
  exact ⟨y, dx, vs, rfl, rfl, g2.s _ _ (g2.g _ _ q1), z, G2, g2.s, by rw [hz]; exact .cons ((rIns C fs).m g2.g r) (.cons r2 .nil), hp, (q.gr g1).gr g2⟩
theorem op_catL : OpR X (binaryOp .Add) (fun x y H Q => ∃ l b xs zs, x = .ref l ∧ y = .ref b ∧ SqL X.K H l xs ∧ SqL X.K H b zs ∧ xs.length + zs.length ≤ sizeLine ∧ ∀ p, H p = none → Q (.ref p) (upd H p (.lst (xs ++ zs)))) := by
  intro pins s σ H x y v u Q I rx ry h
  obtain ⟨l, b, xs, zs, rfl, rfl, hl, hb, hz, q⟩ := h
  cases rx
  cases ry
  obtain ⟨its, r, ⟨⟨cl1, dd1, dt1, sl1⟩, n1, e1, c1, d1, t1⟩, _⟩ := I.list hl
  obtain ⟨its2, r2, ⟨⟨cl2, dd2, dt2, sl2⟩, n2, e2, c2, d2, t2⟩, _⟩ := I.list hb
  simp only at c1 d1 t1 c2 d2 t2
  subst c1 d1 t1 c2 d2 t2
  have w1 := r.length
  have w2 := r2.length
  refine concat_meets ⟨_, e1, rfl⟩ ⟨_, e2, rfl⟩ PySem.noFill_list_add PySem.seq_list_add PySem.F.slot_list_add PySem.F.entry_list_add (PySem.F.args_list_add_2 _ _) (list_addW l b its.toArray its2.toArray n1 n2 none none sl1 sl2 (by rw [List.size_toArray, List.size_toArray]; omega)) ⟨e1, e2, ?_⟩
  have ea : its.toArray ++ its2.toArray = (its ++ its2).toArray := by simp
  rw [ea]
  exact ⟨.ref _, _, I.lnew (t' := s.toks) (r.append r2) (by rw [List.length_append]; omega), rfl, q _ I.fresh⟩
/-- a list and another one -/
theorem e_catL {Rs' : List RV} (h : Ev X a sl (rLst X.K Rs)) (h' : Ev X b sl (rLst X.K Rs')) (hl : Rs.length + Rs'.length ≤ 100000) : EvR X (.BinOp a .Add b pos) sl (.l (Rs ++ Rs')) :=
  evR_of (pe_op op_catL pcan pcan) fun σ G H Q z q => h.can z fun v G1 H1 g1 ⟨x, vs, e1, q1, r1⟩ => h'.can (z.gr g1) fun u G2 H2 g2 ⟨y, ws, e2, q2, r2⟩ => by
    subst e1 e2
    have w1 := r1.len
    have w2 := r2.len
    refine ⟨x, y, vs, ws, rfl, rfl, (g2.g.trans g2.s).seq q1, g2.s.seq q2, by rw [sizeLine_eq]; omega, fun p hp => ?_⟩
    exact q p _ G2 _ ((g1.trans g2).trans (Gr.newOut g2.s hp)) ((g1.trans g2).hs.free hp) (g2.s.free hp) upd_same ((r1.mono g2.g).app r2)
end
end Dl


set_option Elab.async false
set_option linter.all false
set_option maxRecDepth 100000
set_option maxHeartbeats 2000000
namespace Dl
open PySem PySem.Spec PyProof.Rows L2 ClX
section
variable {prog : Program} {w : World} {A : Around} {E : Value → Shared → Prop} {s : Shared} {K : PySem.W.Frag} {x y C f : Addr} {ox oy : Obj} {od od' : Option Obj}
open Builtin in
theorem neEntry {Q : Fin → Shared → Prop} (hu : A.units < cLine) (kin : K.In s.heap) (io : PySem.W.InstAt s.heap x ox C od) (hs : PySem.W.findIn K (.ref C) "__eq__" = some (some (.ref f))) (hf : PySem.W.isFn K (.ref f) = true)
    (h : wpAny (model prog w) A (call (.ref f) [.ref x, .ref y]) (fun v s' => v = .bool true ∧ Q (.done (.ret (.bool false))) s') E s) : wpAny (model prog w) A (Builtin.«object.__ne__» ⟨[.ref x, .ref y], []⟩) Q E s := by
  unfold Builtin.«object.__ne__»
  repeat (first
    | with_reducible refine wpAny_cRoomFor hu ?_
    | (refine wpAny_bind (m := callSpecialIfBound? (.ref x) (Str.ofString "__eq__") [.ref y]) (PySem.W.ifBound_K kin io hs hf (wpAny_mono h (fun r s' hr => by
          obtain ⟨hv, hq⟩ := hr
          subst hv
          repeat (first | exact hq | exact wpAny_pure hq | exact wpAny_truthy_bool hq | (refine wpAny_bind (m := truthy (.bool _)) (wpAny_truthy_bool ?_)) | wp_step)) fun _ _ z => z)))
    | wp_step)
theorem neTry {Q : Option Value → Shared → Prop} (hu : A.units + 1 < cLine) (kin : K.In s.heap) (io : PySem.W.InstAt s.heap x ox C od) (hm : PySem.W.mroIn K C (.type "object") = some true) (hn : PySem.W.findIn K (.ref C) "__ne__" = some (some (.builtin "object.__ne__"))) (hs : PySem.W.findIn K (.ref C) "__eq__" = some (some (.ref f))) (hf : PySem.W.isFn K (.ref f) = true)
    (h : wpAny (model prog w) A.in1 (call (.ref f) [.ref x, .ref y]) (fun v s' => v = .bool true ∧ Q (some (.bool false)) s') E s) : wpAny (model prog w) A (tryCompare (.ref x) "__ne__" (.ref y)) Q E s := by
  have go : wpAny (model prog w) A (call (.builtin "object.__ne__") [.ref x, .ref y]) (fun v s' => v = .bool false ∧ Q (some (.bool false)) s') E s := by
    refine wpAny_call (codeAny_call_builtin (by decide +kernel) PySem.F.cmpEntry_ne (PySem.W.check_slot (i := "object.__ne__") (owner := "object") (n := "__ne__") PySem.F.cmpKind_ne PySem.F.cmpSplit_ne (io.type.andThen (PySem.W.looks_mroIn kin hm)) (PySem.F.cmpArgs_ne _ _) ?_))
    refine neEntry (A := A.in1) hu kin io hs hf (wpAny_mono h (fun v s' hv => ?_) fun _ _ z => z)
    exact ⟨hv.1, rfl, hv.2⟩
  simp only [tryCompare]
  refine wpAny_bind ?_
  simp only [callSpecialIfBound?, bindSpecialIfBound?]
  refine wpAny_holding (wpAny_bind (wpAny_bind (wpAny_bind (io.type.here ((PySem.W.looks_findIn kin hn).here ?_)))))
  refine wpAny_bind (wpAny_askSetting (wpAny_ite ?_))
  have fin : ∀ {R : Option Value → Shared → Prop}, (∀ s', Q (some (.bool false)) s' → R (some (.bool false)) s') → wpAny (model prog w) A (call (.builtin "object.__ne__") ([.ref x] ++ [.ref y]) >>= fun v => pure (some v)) R E s := fun hR => wpAny_bind (wpAny_mono go (fun v s' z => by obtain ⟨e, z⟩ := z; subst e; exact wpAny_pure (hR s' z)) fun _ _ z => z)
  split
  · exact wpAny_bind (wpAny_pure (wpAny_pure (fin fun s' z => wpAny_pure z)))
  · exact wpAny_tryCatch (wpAny_bind (wpAny_pure (wpAny_pure (fin fun s' z => wpAny_pure z))))
theorem neRich {Q : Value → Shared → Prop} (hu : A.units + 1 < cLine) (kin : K.In s.heap) (io : PySem.W.InstAt s.heap x ox C od) (iy : PySem.W.InstAt s.heap y oy C od') (hm : PySem.W.mroIn K C (.type "object") = some true) (hn : PySem.W.findIn K (.ref C) "__ne__" = some (some (.builtin "object.__ne__"))) (hs : PySem.W.findIn K (.ref C) "__eq__" = some (some (.ref f))) (hf : PySem.W.isFn K (.ref f) = true)
    (h : wpAny (model prog w) A.in1 (call (.ref f) [.ref x, .ref y]) (fun v s' => v = .bool true ∧ Q (.bool false) s') E s) : wpAny (model prog w) A (richCompare .NotEq (.ref x) (.ref y)) Q E s := by
  unfold richCompare
  simp only [oneThing_ref]
  refine wpAny_holding ?_
  refine wpAny_bind (wpAny_cRoomFor (by omega) ?_)
  rw [cmpInfo_NotEq]
  dsimp only
  refine wpAny_bind (io.type.here ?_)
  refine wpAny_bind (iy.type.here ?_)
  rw [show (Value.ref C != Value.ref C) = false from by simp]
  simp only [Bool.false_eq_true, if_false]
  refine wpAny_bind (wpAny_pure ?_)
  simp only [Bool.false_eq_true, if_false]
  refine wpAny_bind (neTry hu kin io hm hn hs hf (wpAny_mono h (fun v s' hv => ?_) fun _ _ z => z))
  first | exact ⟨hv.1, wpAny_pure hv.2⟩ | exact ⟨hv.1, wpAny_pure (wpAny_pure hv.2)⟩
end
section
variable {X : Cx} {sl : List Ent} {k : Nat} {C : Addr} {α : Type} {a b : Expr} {pos : Pos}
/-- own != where == is True -/
theorem t_neC {ps : List Str} {fs : α → List (Str × RV)} {pre : α → Prop} (h : HasMe X.prog X.w X.K X.mg X.base k C "__eq__" (F_eq C ps fs pre)) (hm : PySem.W.mroIn X.K C (.type "object") = some true) (hn : PySem.W.findIn X.K (.ref C) "__ne__" = some (some (.builtin "object.__ne__"))) (hr : Room (k + 1) X.A) (z : α) (hp : pre z) (ha : Ev X a sl (rIns C (fs z))) (hb : Ev X b sl (rIns C (fs z))) : EvT X (.Compare a [.NotEq] [b] pos) sl (fun z => z = false) := by
  obtain ⟨f, fd, hmt, hbn, ok⟩ := h.ex
  have hu := hr.un
  have op : OpR X (compareOp .NotEq) (fun x y H Q => ∃ x1 y1 G, x = .ref x1 ∧ y = .ref y1 ∧ Same G H ∧ (rIns C (fs z)).r G x ∧ (rIns C (fs z)).r G y ∧ ∀ G' H', Gr G H G' H' → Q (.bl false) H') := by
    intro pins s σ H x y v u Q I rx ry hq
    obtain ⟨x1, y1, G, ex, ey, sm, r1, r2, q⟩ := hq
    subst ex ey
    cases rx
    cases ry
    obtain ⟨_, dx, vs, e1, h1, _⟩ := id r1
    obtain ⟨_, dy, ws, e2, h2, _⟩ := id r2
    cases e1
    cases e2
    obtain ⟨od, J⟩ := instAt I (sm _ _ h1)
    obtain ⟨od', J'⟩ := instAt I (sm _ _ h2)
    show wpAny (model X.prog X.w) X.A (richCompare .NotEq (.ref x1) (.ref y1)) (EP X pins σ Q) X.xe s
    refine neRich (by omega) I.kIn J J' hm hn hmt.at_ hmt.fn ?_
    have hl : ([Value.ref x1, Value.ref y1] : List Value).length = ps.length := ok.len [.ref x1, .ref y1] H (fun _ _ => True) (fun _ _ _ => False) ⟨z, G, sm, .cons r1 (.cons r2 .nil), hp, fun _ _ _ _ _ => trivial⟩
    have hb' := hbn s [.ref x1, .ref y1] I.kIn (by rw [List.append_nil]; exact hl)
    rw [List.append_nil] at hb'
    have e0 := I.env0
    have hr1 : Room k X.A.in1 := ⟨hr.hd, by have := hr.dp; show X.A.depth + 3 * k + 5 < _; omega, by show X.A.units + 1 + 16 * k + 200 < _; omega⟩
    apply wpAny_call
    refine codeAny_mono (ok.run X.A.in1 X.stack s H ⟨[.ref x1, .ref y1], []⟩ [.ref x1, .ref y1] [.ref x1, .ref y1] (fun v H' => v = .bl true ∧ ∃ G', Gr G H G' H') (fun _ _ _ => False) hr1 e0.in1 hb' (.cons rfl (.cons rfl .nil)) ⟨z, G, sm, .cons r1 (.cons r2 .nil), hp, ?_⟩) fun r3 s' hq => ?_
    · rintro v G' H' gr ⟨c, ec, hc⟩
      subst hc
      exact ⟨ec, G', gr⟩
    · match r3, hq with
      | .error e, hq => exact hq.elim
      | .ok (.ret u), hq =>
        obtain ⟨v', H', I', rv, e1, G', gr⟩ := I.after hq
        subst e1
        cases rv
        exact ⟨rfl, ⟨.bl false, H', I', rfl, q G' H' gr⟩⟩
      | .ok .next, hq => exact False.elim hq
      | .ok .brk, hq => exact False.elim hq
      | .ok .cont, hq => exact False.elim hq
  refine evT_of (pt_cmpR op pcan pcan (nomark _)) fun σ G H Q s q => ha.can s fun v G1 H1 g1 r1 => hb.can (s.gr g1) fun u G2 H2 g2 r2 => ?_
  obtain ⟨x, dx, vs, e1, h1, _⟩ := id r1
  obtain ⟨y, dy, ws, e2, h2, _⟩ := id r2
  subst e1 e2
  exact ⟨x, y, G2, rfl, rfl, g2.s, (rIns C (fs z)).m g2.g r1, r2, fun G' H' gr => ⟨false, rfl, q false G' H' ((g1.trans g2).trans gr) rfl⟩⟩
end
end Dl


set_option Elab.async false
set_option linter.all false
set_option maxRecDepth 100000
set_option maxHeartbeats 2000000
namespace Dl
open PySem PySem.Spec PyProof.Rows L2 ClX
theorem PVs.take {G : Hp} : ∀ {Rs : List RV} {vs : List V} (m : Nat), PVs G Rs vs → PVs G (Rs.take m) (vs.take m)
  | _, _, 0, _ => by rw [List.take_zero, List.take_zero]; exact .nil
  | _, _, m + 1, .nil => .nil
  | _, _, m + 1, .cons r t => .cons r (PVs.take m t)
theorem PVs.drop {G : Hp} : ∀ {Rs : List RV} {vs : List V} (m : Nat), PVs G Rs vs → PVs G (Rs.drop m) (vs.drop m)
  | _, _, 0, h => h
  | _, _, m + 1, .nil => .nil
  | _, _, m + 1, .cons r t => PVs.drop m t
section
variable {X : Cx} {sl : List Ent} {B : Base} {L : Hp} {D : Ends} {rest : List Stmt} {a b : Expr} {pos p2 : Pos} {Rs : List RV} {m : Nat}
theorem cut_to {vs : List V} (h : m ≤ vs.length) : cutV vs none (some (m : Int)) = vs.take m := by
  unfold cutV
  rw [HT.sIx_none, HT.sIx_nat, List.drop_zero, Nat.min_eq_left h, Nat.sub_zero]
theorem cut_from {vs : List V} (h : m ≤ vs.length) : cutV vs (some (m : Int)) none = vs.drop m := by
  unfold cutV
  rw [HT.sIx_none, HT.sIx_nat, Nat.min_eq_left h]
  exact List.take_of_length_le (by rw [List.length_drop]; omega)
/-- t[:m], t a tuple -/
theorem e_slTo (h : Ev X a sl (rTup X.K Rs)) (h' : Ev X b sl (iI (m : Int))) (hm : m ≤ Rs.length) : Ev X (.Subscript a (.Slice none (some b) none p2) pos) sl (rTup X.K (Rs.take m)) :=
  ev_of (pe_slice sl_tupA pcan po_none (po_some pcan)) fun σ G H Q z k => h.can z fun v G1 H1 g1 ⟨t, vs, e1, q1, r1⟩ => h'.can (z.gr g1) fun u G2 H2 g2 ⟨i, e2, hi⟩ => by
    subst e1 hi
    have w := r1.len
    refine ⟨(m : Int), e2, t, vs, rfl, Dl.Same.tup (g2.g.trans g2.s) q1, fun c => ?_, fun _ p hp => ?_⟩
    · rw [HT.sIx_nat] at c
      have : m = vs.length := by have := c.2; omega
      refine k _ G2 H2 (g1.trans g2) ⟨t, vs, rfl, Dl.Same.tup g2.g q1, ?_⟩
      rw [this, ← w, List.take_length]
      exact r1.mono g2.g
    · refine k _ _ _ ((g1.trans g2).trans (Gr.new g2.s hp)) ⟨p, vs.take m, rfl, ?_, ?_⟩
      · rw [cut_to (by omega)]; exact SqT.of upd_same
      · exact ((r1.mono g2.g).mono (same_new (g2.s.free hp))).take m
/-- t[m:], t a tuple -/
theorem e_slFrom (h : Ev X a sl (rTup X.K Rs)) (h' : Ev X b sl (iI (m : Int))) (hm : m ≤ Rs.length) : Ev X (.Subscript a (.Slice (some b) none none p2) pos) sl (rTup X.K (Rs.drop m)) :=
  ev_of (pe_slice sl_tupA pcan (po_some pcan) po_none) fun σ G H Q z k => h.can z fun v G1 H1 g1 ⟨t, vs, e1, q1, r1⟩ => h'.can (z.gr g1) fun u G2 H2 g2 ⟨i, e2, hi⟩ => by
    subst e1 hi
    have w := r1.len
    refine ⟨(m : Int), e2, t, vs, rfl, Dl.Same.tup (g2.g.trans g2.s) q1, fun c => ?_, fun _ p hp => ?_⟩
    · rw [HT.sIx_nat] at c
      refine k _ G2 H2 (g1.trans g2) ⟨t, vs, rfl, Dl.Same.tup g2.g q1, ?_⟩
      have e0 : m = 0 ∨ vs.length = 0 := by have := c.1; omega
      have ed : Rs.drop m = Rs := by
        rcases e0 with e0 | e0
        · rw [e0, List.drop_zero]
        · rw [List.eq_nil_of_length_eq_zero (by omega : Rs.length = 0), List.drop_nil]
      rw [ed]
      exact r1.mono g2.g
    · refine k _ _ _ ((g1.trans g2).trans (Gr.new g2.s hp)) ⟨p, vs.drop m, rfl, ?_, ?_⟩
      · rw [cut_from (by omega)]; exact SqT.of upd_same
      · exact ((r1.mono g2.g).mono (same_new (g2.s.free hp))).drop m
/-! ### y[j:l] = a new list -/
def gSl (tl th : TE) (i : Nat) : TG := fun v σ H Q => tVar i σ H fun o H1 => tl σ H1 fun x H2 => th σ H2 fun y H3 => ∃ (l b : Addr) (xs ys : List V) (c d : Int), o = .ref l ∧ v = .ref b ∧ x = .int c ∧ y = .int d ∧ H3 l = some (.lst xs) ∧ H3 b = some (.lst ys) ∧ l ≠ b ∧ 0 ≤ c ∧ c ≤ d ∧ d ≤ xs.length ∧ xs.length + ys.length ≤ sizeLine ∧ Q σ (upd H3 l (.lst (xs.take c.toNat ++ ys ++ xs.drop d.toNat)))
theorem pg_sl {i : Nat} {y : Str} {p1 : Pos} {tl th : TE} (ho : PE X (.Name y p1) (tVar i)) (hl : PE X a tl) (hh : PE X b th)
    (ha : ∀ v, assign (.Subscript (.Name y p1) (.Slice (some a) (some b) none p2) pos) X.env v = (do
      let ov ← holding [v] (eval (.Name y p1) X.env)
      let iv ← holding [v, ov] (eval (.Slice (some a) (some b) none p2) X.env)
      standAt pos
      holding [v, ov, iv] (setItem ov iv v)
      release [iv, v, ov] []) := by intro _; rfl) : PG X (.Subscript (.Name y p1) (.Slice (some a) (some b) none p2) pos) (gSl tl th i) := by
  refine ⟨fun pins s σ H v u Q I r h => ?_⟩
  rw [ha]
  refine wpAny_bind (wpAny_holding (thn (ho.run pins s σ H _ I h) fun ov s1 ⟨o, H1, I1, r1, q1⟩ => ?_))
  refine wpAny_bind (wpAny_holding (wpAny_Slice ?_))
  rw [evalPart_some]
  refine thn (hl.run pins s1 σ H1 _ I1 q1) fun vl s2 ⟨x, H2, I2, pl, q2⟩ => ?_
  rw [evalPart_some]
  refine thn (hh.run pins s2 σ H2 _ I2 q2) fun vu s3 ⟨w, H3, I3, pu, q3⟩ => ?_
  rw [evalPart_none]
  refine wpAny_pure ?_
  obtain ⟨l, b', xs, ys, c, d, rfl, rfl, rfl, rfl, h1, h2, hne, h3, h4, h5, h6, q⟩ := q3
  cases r1
  cases r
  have I4 : Inv X pins σ H3 { s3 with heap := s3.heap.push { cls := .type "slice", data := .fields #[vl, vu, .none] } } := I3.kept (t' := s3.toks) fun b ob q => Heap.get?_push_of_some _ q
  refine wpAny_bind (wpAny_standAt (wpAny_bind (wpAny_holding ?_)))
  refine set_slice I4 h1 h2 hne (Heap.IsSliceOf.new ..) pl pu h3 h4 h5 h6 fun s' I5 => ?_
  exact wpAny_release ⟨σ, _, I5, q⟩
theorem w_storeSl (i : Nat) {y : Str} {p1 : Pos} {e : Expr} {t : Addr → Prop} {j l : Nat} {Rs2 : List RV} (ei : sl[i]? = some (.mu (oT t Rs))) (h : EvR X e sl (.l Rs2)) (hj : Ev X a sl (iI (j : Int))) (hl : Ev X b sl (iI (l : Int))) (hjl : j ≤ l) (hlt : l ≤ Rs.length) (hz : Rs.length + Rs2.length ≤ 100000) (k : Wp X B L rest D (sl.set i (.mu (oT t (Rs.take j ++ Rs2 ++ Rs.drop l)))))
    (hg : PG X (.Subscript (.Name y p1) (.Slice (some a) (some b) none p2) pos) (gSl (can X a) (can X b) i) := by exact pg_sl (pv _) pcan pcan) {pos' : Pos} (hs : swapsWithSole [.Subscript (.Name y p1) (.Slice (some a) (some b) none p2) pos] e pos'.line X.env = pure false := by rfl) (hw : swappedStores [.Subscript (.Name y p1) (.Slice (some a) (some b) none p2) pos] e X.env = pure none := by rfl)
    (h1 : (assignEach [.Subscript (.Name y p1) (.Slice (some a) (some b) none p2) pos] X.env).map (·.2) = [assign (.Subscript (.Name y p1) (.Slice (some a) (some b) none p2) pos) X.env] := by rfl) :
    Wp X B L (.Assign [.Subscript (.Name y p1) (.Slice (some a) (some b) none p2) pos] e pos' :: rest) D sl :=
  wp_of (ps_asg pcan hg hs hw h1) fun σ G H z => h.can z.sat fun q ws G1 H1 g1 n1 n2 e1 r1 => by
    obtain ⟨o, vs, es, q1, q2, q3⟩ := z.sat.own i Rs ei
    have q1' := g1.hs _ _ q1
    refine ⟨.ref o, es, hj.can (z.sat.gr g1) fun u G2 H2 g2 ⟨c, e2, hc⟩ => hl.can ((z.sat.gr g1).gr g2) fun u' G3 H3 g3 ⟨d, e3, hd⟩ => ?_⟩
    subst hc hd
    have g23 := g2.trans g3
    have w1 := q3.len
    have w2 := r1.len
    refine ⟨o, q, vs, ws, (j : Int), (l : Int), rfl, rfl, e2, e3, g23.hs _ _ q1', g23.hs _ _ e1, (fun c => by rw [c, n1] at q1; cases q1), by omega, by omega, by omega, by rw [sizeLine_eq]; omega, ?_⟩
    rw [Int.toNat_natCast, Int.toNat_natCast]
    exact k σ G3 _ ((((z.go g1).go g2).go g3).change ei es (((((q3.mono g1.g).mono g23.g).take j).app (r1.mono g23.g)).app (((q3.mono g1.g).mono g23.g).drop l)))
/-! ### y.index(e), len(x) and x[e] of an own class -/
theorem e_index {o : Expr} {apos : Pos} {ns : List Int} {n : Int} {j : Nat} (h : Ev X o sl (rInts X.K ns)) (h' : Ev X b sl (iI n)) (hj : ns[j]? = some n) (hno : ∀ m, m < j → ns[m]? ≠ some n)
    (hp : PE X (.Call (.Attribute o "index" apos) [b] [] pos) (tBM X.K "list" (rIndex X.K) (can X o) (tCons (can X b) tNil)) := by exact pe_bm PySem.F.plainAttrs_list PySem.F.slot_list_index PySem.F.type_list_index mt_index pcan (pa_cons pcan pa_nil)) : Ev X (.Call (.Attribute o "index" apos) [b] [] pos) sl (iI (j : Int)) :=
  ev_of hp fun σ G H Q z k => h.can z fun v G1 H1 g1 ⟨x, vs, e1, q1, r1⟩ => by
    subst e1
    have ev := r1.ints
    subst ev
    refine ⟨.inl ⟨rfl, _, g1.s.seq q1⟩, h'.can (z.gr g1) fun u G2 H2 g2 ⟨c, e2, hc⟩ => ?_⟩
    subst e2 hc
    refine ⟨x, ns.map V.int, .int c, j, .int c, rfl, rfl, (g2.g.trans g2.s).seq q1, rfl, ?_, ?_, ?_, ?_, k _ G2 H2 (g1.trans g2) ⟨_, rfl, rfl⟩⟩
    · rw [List.all_map]; exact List.all_eq_true.mpr fun _ _ => rfl
    · rw [List.getElem?_map, hj]; rfl
    · show (c == c) = true
      simp
    · intro m z' hm hz
      rw [List.getElem?_map] at hz
      obtain ⟨y, hy, rfl⟩ := Option.map_eq_some_iff.mp hz
      show (y == c) = false
      have : y ≠ c := fun e => hno m hm (by rw [hy, e])
      simpa using this
/-- len(x), x of an own class -/
theorem e_lenC {k : Nat} {C : Addr} {α : Type} {F : Fn α} {fs : List (Str × RV)} {n : Int} {p : Pos} (h : HasMe X.prog X.w X.K X.mg X.base k C "__len__" F) (hr : Room (k + 1) X.A) (z : α) (ha : Ev X a sl (rIns C fs)) (hz : F.args z = [rIns C fs]) (hp : F.pre z) (hres : F.res z = .v (iI n)) (h0 : 0 ≤ n) (h1 : n < 2 ^ 62) (hm : X.mg "len" = none) (hg : Gl X "len" := by rfl) (he : starEach [a] X.env = [(false, eval a X.env)] := by rfl) : Ev X (.Call (.Name "len" p) [a] [] pos) sl (iI n) := by
  obtain ⟨f, fd, hmt, hb, ok⟩ := h.ex
  have cr : CallR X (.builtin "len") (fun xs H Q => ∃ x1 G, xs = [.ref x1] ∧ Same G H ∧ (rIns C fs).r G (.ref x1) ∧ ∀ G' H', Gr G H G' H' → Q (.int n) H') := by
    intro pins s σ H xs us Q I r hq
    obtain ⟨x1, G, rfl, sm, r1, q⟩ := hq
    rw [Vals.ref1 r]
    obtain ⟨_, dx, vs, e1, q1, _⟩ := id r1
    cases e1
    obtain ⟨od, J⟩ := instAt I (sm _ _ q1)
    obtain ⟨m, hF⟩ := I.fr
    refine PySem.W.len_K hF I.ok.mod.kin J hmt.at_ hmt.fn ?_
    have hl : ([Value.ref x1] : List Value).length = F.ps.length := ok.len [.ref x1] H (fun _ _ => True) (fun _ _ _ => False) ⟨z, G, sm, by rw [hz]; exact .cons r1 .nil, hp, by rw [hres]; exact fun _ _ _ _ _ => trivial⟩
    have hb' := hb s [.ref x1] I.kIn (by rw [List.append_nil]; exact hl)
    rw [List.append_nil] at hb'
    have e0 := I.env0
    have hu := hr.un
    have hr1 : Room k X.A.in1 := ⟨hr.hd, by have := hr.dp; show X.A.depth + 3 * k + 5 < _; omega, by show X.A.units + 1 + 16 * k + 200 < _; omega⟩
    apply wpAny_call
    refine codeAny_mono (ok.run X.A.in1 X.stack s H ⟨[.ref x1], []⟩ [.ref x1] [.ref x1] (fun v H' => v = .int n ∧ ∃ G', Gr G H G' H') (fun _ _ _ => False) hr1 e0.in1 hb' (.cons rfl .nil) ⟨z, G, sm, by rw [hz]; exact .cons r1 .nil, hp, ?_⟩) fun r3 s' hq => ?_
    · rw [hres]
      rintro v G' H' gr ⟨c, ec, hc⟩
      subst hc
      exact ⟨ec, G', gr⟩
    · match r3, hq with
      | .error e, hq => exact hq.elim
      | .ok (.ret u), hq =>
        obtain ⟨v', H', I', rv, e1, G', gr⟩ := I.after hq
        subst e1
        obtain ⟨tk, rfl⟩ := rv
        exact ⟨⟨h0, by omega⟩, ⟨.int n, H', I'.tok _, ⟨_, rfl⟩, q G' H' gr⟩⟩
      | .ok .next, hq => exact False.elim hq
      | .ok .brk, hq => exact False.elim hq
      | .ok .cont, hq => exact False.elim hq
  exact e_cb (rs := .v _) cr hm PySem.boot_len (a1 ha he) (fun vs G H Q s r q => by
    obtain ⟨v, rfl, hv⟩ := pv1 r
    obtain ⟨y, dx, ws, e1, q1, _⟩ := id hv
    subst e1
    exact ⟨y, G, rfl, s, hv, fun G' H' gr => q _ G' H' gr ⟨_, rfl, rfl⟩⟩) hg (by decide) (by decide) he rfl
end
end Dl


set_option Elab.async false
set_option linter.all false
set_option maxRecDepth 100000
set_option maxHeartbeats 2000000
namespace Dl
open PySem PySem.Spec PyProof.Rows L2 ClX
section
variable {X : Cx} {sl : List Ent} {a b : Expr} {pos : Pos} {k : Nat} {C : Addr} {α : Type} {F : Fn α} {fs : List (Str × RV)} {R2 : RV}
/-- x[e], x of an own class -/
theorem e_subC (h : HasMe X.prog X.w X.K X.mg X.base k C "__getitem__" F) (hfi : ∀ f, PySem.W.findIn X.K (.ref C) "__getitem__" = some (some (.ref f)) → PySem.W.fnIn X.K f = true) (hr : Room (k + 1) X.A) (z : α) (ha : Ev X a sl (rIns C fs)) (hb : Ev X b sl R2) (hz : F.args z = [rIns C fs, R2]) (hp : F.pre z)
    (hsl : ∀ (x : Addr) (i : Value), subscripted b true (.ref x) i = runValue (.builtin "lifetime.subscript" ⟨[.ref x, i], []⟩) := by intro _ _; with_unfolding_all rfl) : EvR X (.Subscript a b pos) sl (F.res z) := by
  obtain ⟨f, fd, hmt, hbn, ok⟩ := h.ex
  intro pins s σ G H Q I st q
  refine Subscript_ (thn (ha pins s σ G H (fun v H1 => ∃ G1, Gr G H G1 H1 ∧ (rIns C fs).r G1 v) I st fun v G1 H1 g1 r1 => ⟨G1, g1, r1⟩) fun u s1 ⟨v, H1, I1, ru, G1, g1, r1⟩ => ?_)
  obtain ⟨y, dx, vs, e1, h1, _⟩ := id r1
  subst e1
  cases ru
  refine thn (hb pins s1 σ G1 H1 (fun v H2 => ∃ G2, Gr G1 H1 G2 H2 ∧ R2.r G2 v) I1 (st.gr g1) fun v G2 H2 g2 r2 => ⟨G2, g2, r2⟩) fun iv s2 ⟨w, H2, I2, rw', G2, g2, r2⟩ => ?_
  show wpAny (model X.prog X.w) X.A (subscriptTail a b (.ref y) iv) _ X.xe s2
  obtain ⟨od, J⟩ := instAt I2 (g2.s _ _ (g2.g _ _ h1))
  obtain ⟨m, hF⟩ := I2.fr
  refine PySem.W.sub_K hF I2.ok.mod.kin J hmt.at_ (hfi f hmt.at_) hmt.fn ?_ (hsl y iv)
  have hsp : F.sp [.ref y, w] H2 Q (fun _ _ _ => False) := ⟨z, G2, g2.s, by rw [hz]; exact .cons ((rIns C fs).m g2.g r1) (.cons r2 .nil), hp, (q.gr g1).gr g2⟩
  have hl : ([Value.ref y, iv] : List Value).length = F.ps.length := ok.len _ _ _ _ hsp
  have hb' := hbn s2 [.ref y, iv] I2.kIn (by rw [List.append_nil]; exact hl)
  rw [List.append_nil] at hb'
  have hu := hr.un
  have hr1 : Room k X.A.in1 := ⟨hr.hd, by have := hr.dp; show X.A.depth + 3 * k + 5 < _; omega, by show X.A.units + 1 + 16 * k + 200 < _; omega⟩
  apply wpAny_call
  refine codeAny_mono (ok.run X.A.in1 X.stack s2 H2 ⟨[.ref y, iv], []⟩ [.ref y, iv] [.ref y, w] Q (fun _ _ _ => False) hr1 I2.env0.in1 hb' (.cons rfl (.cons rw' .nil)) hsp) fun r3 s' hq => ?_
  match r3, hq with
  | .error e, hq => exact pass0 pins σ H2 s2 e s' I2 hq
  | .ok (.ret u), hq => exact I2.after hq
  | .ok .next, hq => exact False.elim hq
  | .ok .brk, hq => exact False.elim hq
  | .ok .cont, hq => exact False.elim hq
end
end Dl


set_option Elab.async false
set_option linter.all false
set_option maxRecDepth 100000
set_option maxHeartbeats 2000000
namespace Dl
open PySem PySem.Spec PyProof.Rows L2 ClX
/-- the class itself -/
def rCls (C : Addr) : RV := ⟨fun _ v => v = .ref C, fun _ h => h⟩
section
variable {P : Program} {w : World} {K : PySem.W.Frag} {mg : Str → Option Value} {base : Heap}
theorem body_pss {qual : Str} {st : Stmt} {f : Addr} {N : List Str} {k : Nat} {α : Type} {F : Fn α} (body : Body P w K mg base qual st f N k F) (cdv : Value) (A : Around) (outer : List Env) (s : Shared) (H : Hp) (vs : List V) (Q : VK) (E : XK) (hr : Room k (A.deeper (envOfC qual (defScope st) s.heap.objs.size f cdv))) (h : F.sp vs H Q E) :
    ∃ t, PSs (cxOf CX0 P w K mg base N qual (defScope st) f cdv A outer s H E) (defBody st) t ∧ t { nx := fun _ H' => Q .non H', rt := Q } (L2.start N vs) H := by
  obtain ⟨a, G, sm, r, hp, q⟩ := h
  refine ⟨_, PSs.nox pcanS, ?_⟩
  refine body cdv A outer s H E a ⟨G, H, NoM⟩ G { nx := fun _ H' => Q .non H', rt := Q } hr hp (fun _ z => z) q (fun _ _ z => z) (L2.start N vs) G H ⟨sat_start sm r, Grow.refl sm, Same.refl _, fun i Rs p e _ => ?_⟩
  unfold ents at e
  rw [List.getElem?_append] at e
  split at e
  · rw [List.getElem?_map] at e
    cases q : (F.args a)[i]? with
    | none => rw [q] at e; cases e
    | some R' => rw [q] at e; cases e
  · rw [List.getElem?_replicate] at e
    split at e <;> cases e
/-- what a classmethod with a star parameter promises -/
def starSp {α : Type} (F : Fn α) (n : Nat) : Sp := fun vs H Q E => ∃ ws rest, vs = ws ++ rest ∧ ws.length = n ∧ rest.length ≤ sizeLine ∧ ∀ p, H p = Option.none → F.sp (ws ++ [V.ref p]) (upd H p (.tup rest)) Q E
structure HasOf (P : Program) (w : World) (K : PySem.W.Frag) (mg : Str → Option Value) (base : Heap) (k : Nat) (C : Addr) (m : Str) {α : Type} (F : Fn α) : Prop where
  ex : ∃ mc p g, CRead K C mc ∧ CMet K C mc m p g ∧ L2.FnR P w K mg base CX0 k g (starSp F 2)
theorem starOf {x qual : Str} {st : Stmt} {f : Addr} {fd : FuncData} {N : List Str} {k : Nat} {α : Type} {F : Fn α} {p1 p2 pv : Str} (F0 : FunD K x qual (defArgs st) (defBody st) (defScope st) [] [] f fd) (hps : F.ps = [p1, p2, pv]) (S : FnScope N F.ps (defScope st))
    (hb : ∀ (kV doc pm : Value) (an : Option Addr) (cdv ct : Value) (us rest : List Value), us.length = 2 → bindArgs (PySem.W.fnOf x qual (defArgs st) (defBody st) (defScope st) .none kV doc pm an cdv ct) ⟨us ++ rest, []⟩ = (newTuple rest >>= fun t => pure ([p1, p2].zip us ++ [(pv, t)])))
    (body : Body P w K mg base qual st f N k F) : L2.FnR P w K mg base CX0 (k + 1) f (starSp F 2) := by
  obtain ⟨oc, od, dV, kV, doc, pm, an, cdv, ct, osl, rfl, lk, hcd, dfl, _⟩ := F0.ex
  rcases dfl with ⟨_, rfl⟩ | ⟨z, _⟩
  · exact StX.fn_star (ps := [p1, p2]) lk hcd (by rw [hps] at S; exact S) StX.cxUp_none (fun us rest hl => hb kV doc pm an cdv ct us rest hl) fun A outer s H vs Q E hr h => body_pss body cdv A outer s H vs Q E hr h
  · exact absurd rfl z
end
section
variable {X : Cx} {sl : List Ent} {k : Nat} {C : Addr} {m x : Str} {α : Type} {F : Fn α} {e : Expr} {es : List Expr} {R1 : RV} {Rs : List RV} {p apos pos : Pos}
/-- C.m(e, ..), m a classmethod with a star parameter -/
theorem e_of (h : HasOf X.prog X.w X.K X.mg X.base k C m F) (hr : Room k X.A) (hm : X.mg x = some (.ref C)) (z : α) (ha : EvA X (e :: es) sl (R1 :: Rs)) (hz : F.args z = [rCls C, R1, rTup X.K Rs]) (hp : F.pre z) (hl : Rs.length ≤ 100000) (hg : Gl X x := by rfl) (hd : (x == ("__debug__" : Str)) = false := by decide) {pl : Sem Bool}
    (hst : starEach (e :: es) X.env = (false, eval e X.env) :: starEach es X.env := by rfl) (hpl : (backTo pos (starEach es X.env)).any (·.1) = false := by rfl)
    (ht : eval (.Call (.Attribute (.Name x p) m apos) (e :: es) [] pos) X.env = (do
      let ov ← eval (.Name x p) X.env
      standAt apos.atName
      let (f, first) ← holding [ov] (getMethod ov m pl)
      callWith pos f first (backTo pos (starEach (e :: es) X.env)) (backToKw pos (keywordEach [] X.env))) := by rfl) : EvR X (.Call (.Attribute (.Name x p) m apos) (e :: es) [] pos) sl (F.res z) := by
  obtain ⟨mc, q, g, cr, cm, fr⟩ := h.ex
  refine evR_of (pe_cmeth (pe_glob (v := .ref C) hg hm rfl hd) cr cm fr hr (E := fun _ _ _ => False) pass0 pcanA hst hpl ht) fun σ G H Q s qq => ⟨rfl, ha.can s fun vs G1 H1 g1 r1 => ?_⟩
  cases r1 with
  | cons k1 k2 =>
    rename_i v1 ws
    refine ⟨[.ref C, v1], ws, rfl, rfl, by have := PVs.len k2; rw [sizeLine_eq]; omega, fun a ha => ?_⟩
    have gn := Gr.new (o := .tup ws) g1.s ha
    refine ⟨z, _, gn.s, ?_, hp, (qq.gr g1).gr gn⟩
    rw [hz]
    exact .cons rfl (.cons (R1.m gn.g k1) (.cons ⟨a, ws, rfl, SqT.of upd_same, PVs.mono gn.g k2⟩ .nil))
end
/-! ### C(e), the last parameter left to its default -/
section
variable {P : Program} {w : World} {K : PySem.W.Frag} {mg : Str → Option Value} {base : Heap}
structure HasMkD (P : Program) (w : World) (K : PySem.W.Frag) (mg : Str → Option Value) (base : Heap) (k : Nat) (C : Addr) {α : Type} (F : FnM α) (Ds : List RV) : Prop where
  ex : ∃ f fd dvs ds, Mk K C f ∧ Vals dvs ds ∧ Binds K fd F.ps ds ∧ (∀ G, PVs G Ds dvs) ∧ FnOk P w K mg base CX0 k f fd F.ps F.sp
variable {X : Cx} {sl : List Ent} {k : Nat} {C : Addr} {α : Type} {e : Expr} {es : List Expr} {p pos : Pos} {Rs Ds : List RV}
theorem e_makeD {x : Str} {F : FnM α} {fs : α → List (Str × RV)} (h : HasMkD X.prog X.w X.K X.mg X.base k C F Ds) (hr : Room (k + 1) X.A) (hm : X.mg x = some (.ref C)) (z : α) (ha : EvA X (e :: es) sl Rs) (hz : F.args z = Rs ++ Ds) (h0 : F.o0 z = oI C []) (h1 : F.o1 z = oI C (fs z)) (hp : F.pre z) (hg : Gl X x := by rfl) (hdb : (x == ("__debug__" : Str)) = false := by decide)
    (he : starEach (e :: es) X.env = (false, eval e X.env) :: starEach es X.env := by rfl) (hpl : (backTo pos (starEach es X.env)).any (·.1) = false := by rfl) : Ev X (.Call (.Name x p) (e :: es) [] pos) sl (rIns C (fs z)) := by
  obtain ⟨f, fd, dvs, ds, mk, vd, hb, hds, ok⟩ := h.ex
  refine ev_of (pe_make mk ok hr hg hm hb vd pass0 pcanA hdb he hpl) fun σ G H Q s q => ha.can s fun vs G1 H1 g1 r1 y dx nx nd ne => ?_
  have gx : G1 y = none := g1.s.free nx
  have s1 : Same H1 (upd (upd H1 dx (.own y)) y (.ins C dx [])) := fun b o e => by
    rw [upd_ne (ne_of_none e nx), upd_ne (ne_of_none e nd)]
    exact e
  refine ⟨z, G1, y, _, vs ++ dvs, g1.s.trans s1, rfl, upd_same, gx, by rw [h0]; exact ⟨dx, [], rfl, .nil⟩, by rw [hz]; exact r1.app (hds G1), hp, fun G2 H2 o2 g2 k1 k2 k3 => ⟨rfl, ?_⟩⟩
  rw [h1] at k3
  obtain ⟨dx2, ws, rfl, k4⟩ := k3
  refine q (.ref y) (upd G2 y (.ins C dx2 ws)) H2 (g1.trans ⟨g2.g.trans (same_new k2), fun b u _ e => ?_, fun b e => ?_, fun b u e => ?_, fun b e => ?_⟩) ⟨y, dx2, ws, rfl, upd_same, k4.mono (same_new k2)⟩
  · exact g2.h b u (ne_of_none e nx) (s1 b u e)
  · cases qq : H1 b with
    | none => exact absurd qq e
    | some u => exact g2.t b (by rw [s1 b u qq]; exact fun z => nomatch z)
  · by_cases qb : b = y
    · rw [qb, upd_same] at e; rw [qb, k1]; exact e
    · rw [upd_ne qb] at e; exact g2.s b u e
  · cases qq : H1 b with
    | none => exact absurd qq e
    | some u =>
      rw [upd_ne (ne_of_none qq nx)]
      exact g2.n b (by rw [s1 b u qq]; exact fun z => nomatch z)
end
end Dl


set_option Elab.async false
set_option linter.all false
set_option maxRecDepth 100000
set_option maxHeartbeats 2000000
namespace Dl
open PySem PySem.Spec PyProof.Rows L2 ClX
/-! ### more tests for the head -/
/-- a classmethod's def -/
def cmG (K : PySem.W.Frag) (C : Addr) (f : Str) : Addr := match PySem.W.findCls K (.ref C) (.type "type") f with
  | some (.get _ (.ref p) _ _) => (match PySem.W.recIn K p "classmethod" with | some (.ref g :: _) => g | _ => 0)
  | _ => 0
def cP (x f : Str) : PySem.W.Frag → Addr := fun K => cmG K (He.ga K x) f
def cmetB (K : PySem.W.Frag) (C : Addr) (f : Str) : Bool := match PySem.W.findCls K (.ref C) (.type "type") f with
  | some (.get (.builtin i) (.ref p) .none (.ref c)) => decide (i = "classmethod.__get__") && (decide (c = C) && (match PySem.W.recIn K p "classmethod" with | some (.ref g :: _) => PySem.W.fnIn K g | _ => false))
  | _ => false
theorem cmetB_ok {K : PySem.W.Frag} {C : Addr} {f : Str} (h : cmetB K C f = true) : ∃ p, CMet K C (.type "type") f p (cmG K C f) := by
  unfold cmetB at h
  unfold cmG
  split at h
  · rename_i i p c e1
    have ⟨h1, h0⟩ := He.ba h
    have ⟨h2, h9⟩ := He.ba h0
    clear h h0
    have h1 := of_decide_eq_true h1
    have h2 := of_decide_eq_true h2
    subst h1 h2
    rw [e1]
    dsimp only
    cases e3 : PySem.W.recIn K p "classmethod" with
    | none => rw [e3] at h9; cases h9
    | some l =>
      rw [e3] at h9
      cases l with
      | nil => cases h9
      | cons u rest =>
        cases u with
        | ref g => exact ⟨p, e1, ⟨rest, e3⟩, h9⟩
        | _ => cases h9
  · cases h
def nilB (K : PySem.W.Frag) (a : Addr) : Bool := match K.lookup a with
  | some ⟨.type c, _, .seq its _, _⟩ => decide (c = "tuple") && its.toList.isEmpty
  | _ => false
theorem nilB_ok {K : PySem.W.Frag} {a : Addr} (h : nilB K a = true) (H : Hp) : SqT K H a [] := by
  unfold nilB at h
  split at h
  · rename_i c d its n sl e
    have ⟨h1, h2⟩ := He.ba h
    have h1 := of_decide_eq_true h1
    subst h1
    have h3 : its.toList = [] := List.isEmpty_iff.mp h2
    refine .inr ⟨_, its, n, e, rfl, rfl, ?_, ?_⟩
    · have : its.size = 0 := by rw [← Array.length_toList, h3]; rfl
      omega
    · rw [h3]; exact .nil
  · cases h
def rmulB (K : PySem.W.Frag) (C : Addr) : Bool := match PySem.W.findIn K (.ref C) (dunderR Operator.Mult.info.2) with
  | some none => true
  | some (some (.ref _)) => true
  | _ => false
theorem rmulB_ok {K : PySem.W.Frag} {C : Addr} (h : rmulB K C = true) : ∃ rc, PySem.W.findIn K (.ref C) (dunderR Operator.Mult.info.2) = some rc ∧ (rc = none ∨ ∃ g : Addr, rc = some (.ref g)) := by
  unfold rmulB at h
  split at h
  · rename_i e; exact ⟨_, e, .inl rfl⟩
  · rename_i g e; exact ⟨_, e, .inr ⟨g, rfl⟩⟩
  · cases h
theorem some_ok {α : Type} {o : Option α} (h : o.isSome = true) : ∃ x, o = some x := Option.isSome_iff_exists.mp h
end Dl


set_option Elab.async false
set_option linter.all false
set_option maxRecDepth 100000
set_option maxHeartbeats 2000000
namespace Dl
open PySem PySem.Spec PyProof.Rows L2 ClX
/-! ### the law's own call, where no repr is under way -/
section
variable {P : Program} {w : World} {K : PySem.W.Frag} {mg mb : Str → Option Value} {k : Nat} {fa a : Addr} {fd : FuncData} {x : Str} {sp : Sp} {s1 : Shared} {vs : List Value} {ns : List Int}
theorem lawG_core (inK : K.In s1.heap) (glob : s1.heap.Ns mainGlobals mg) (blt : s1.heap.Ns builtinsNs mb) (bb : ∀ x : Str, x ≠ "__name__" → mb x = bootBuiltins x) (lim : s1.heap.NoLimit) (gens : s1.gens = #[]) (atA : s1.heap.get? a = some { cls := .type "list", data := .seq vs.toArray }) (hr : Room k callerA)
    (F : ∀ base : Heap, FnG P w K mg base k fa fd [x] sp) (bind : ∀ (s : Shared) (u : Value), BindsTo s fd ⟨[u], []⟩ [(x, u)]) (H : Hp) (only : Only H) (hok : HOk P w H s1.heap) (isA : ∀ b, H b ≠ none → b = a) (noK : H a ≠ none → K.lookup a = none) (hsp : sp [.ref a] H (fun v _ => v = .bl true) fun _ _ _ => False) :
    codeAny (model P w) callerA (.call (.ref fa) ⟨[.ref a], []⟩) (fun r s' => r = .ok (.ret (.bool true)) ∧ PySem.OldK s1.heap s'.heap ∧ s'.os = s1.os ∧ AllBare s'.gens) s1 := by
  have free : ∀ {b : Addr}, b ≠ a → H b = none := fun {b} ne => by
    cases q : H b with
    | none => rfl
    | some u => exact absurd (isA b (by rw [q]; exact fun z => nomatch z)) ne
  have keep : ∀ {b : Addr} {o : Obj}, s1.heap.get? b = some o → H b = none → (hidT s1.heap H).get? b = some o := fun e n => hidT_get e n
  have nsA : ∀ {b : Addr} {m : Str → Option Value}, s1.heap.Ns b m → (hidT s1.heap H).Ns b m := fun {b m} ⟨o, es, ep, e, d, r⟩ => ⟨o, es, ep, keep e (free fun z => by
    subst z
    rw [atA] at e
    cases e
    cases d), d, r⟩
  have inB : K.In (hidT s1.heap H) := fun b o e => keep (inK b o e) (by
    cases q : H b with
    | none => rfl
    | some u =>
      have z := isA b (by rw [q]; exact fun z => nomatch z)
      subst z
      rw [noK (by rw [q]; exact fun z => nomatch z)] at e
      cases e)
  have md : Mod K mg (hidT s1.heap H) := ⟨inB, nsA glob, ⟨mb, nsA blt, bb⟩, let ⟨mc, h1, h2⟩ := lim; ⟨mc, nsA h1, h2⟩⟩
  have env : Env0 P w K mg (hidT s1.heap H) callerA [] s1 H := ⟨rfl, md, fun b o e => of_hidT e, Nat.le_of_eq (hidT_size _ _), trivial, fun b hb => absurd (show b ∈ ([] : List Addr) from hb) (by simp), hok, .of_eq gens⟩
  apply codeAny_mono ((F (hidT s1.heap H)).run callerA [] s1 H ⟨[.ref a], []⟩ [.ref a] [.ref a] _ _ rfl hr env (bind s1 (.ref a)) (.cons rfl .nil) hsp)
  intro r s' h
  match r, h with
  | .error e, h => exact False.elim h
  | .ok .next, h => exact False.elim h
  | .ok .brk, h => exact False.elim h
  | .ok .cont, h => exact False.elim h
  | .ok (.ret u), h =>
    obtain ⟨v, H', os, bare, un, hok', rv, q⟩ := h
    have ev : v = .bl true := q
    subst ev
    cases (show u = Value.bool true from rv)
    refine ⟨rfl, PySem.OldK.of_keep fun b o e => ?_, os, bare⟩
    rcases only b with z | ⟨ob, xs, z⟩
    · exact un.keep b o e z (by intro y; exact absurd (show b ∈ ([] : List Addr) from y) (by simp)) (by simp)
    · have z2 := un.frzs b ob _ z
      have h1 := (hok b _ z).1
      have h2 := (hok' b _ z2).1
      rw [e] at h1
      cases h1
      exact h2
theorem lawG (inK : K.In s1.heap) (glob : s1.heap.Ns mainGlobals mg) (blt : s1.heap.Ns builtinsNs mb) (bb : ∀ x : Str, x ≠ "__name__" → mb x = bootBuiltins x) (lim : s1.heap.NoLimit) (gens : s1.gens = #[]) (atA : s1.heap.get? a = some { cls := .type "list", data := .seq vs.toArray }) (isI : IntsAre vs ns) (hl : ns.length ≤ sizeLine) (hr : Room k callerA)
    (F : ∀ base : Heap, FnG P w K mg base k fa fd [x] sp) (bind : ∀ (s : Shared) (u : Value), BindsTo s fd ⟨[u], []⟩ [(x, u)]) (hsp : ∀ H : Hp, SqL K H a (ns.map V.int) → sp [.ref a] H (fun v _ => v = .bl true) fun _ _ _ => False) :
    codeAny (model P w) callerA (.call (.ref fa) ⟨[.ref a], []⟩) (fun r s' => r = .ok (.ret (.bool true)) ∧ PySem.OldK s1.heap s'.heap ∧ s'.os = s1.os ∧ AllBare s'.gens) s1 := by
  have rel := vals_ints isI
  have len := isI.length
  cases hk : K.lookup a with
  | some o =>
    have e := inK a o hk
    rw [atA] at e
    cases e
    exact lawG_core inK glob blt bb lim gens atA hr F bind (fun _ => none) (fun _ => .inl rfl) (fun b u z => nomatch (show (none : Option HO) = some u from z)) (fun b z => absurd rfl z) (fun z => absurd rfl z) (hsp _ (.inr ⟨_, vs.toArray, _, hk, rfl, rfl, rfl, by rw [List.size_toArray, len]; exact hl, by simpa using rel⟩))
  | none =>
    refine lawG_core inK glob blt bb lim gens atA hr F bind (upd (fun _ => none) a (.frz { cls := .type "list", data := .seq vs.toArray } (.lst (ns.map V.int)))) (fun b => ?_) (fun b u z => ?_) (fun b z => ?_) (fun _ => hk) (hsp _ (.inl (.inr ⟨_, upd_same⟩)))
    · by_cases hb : b = a
      · subst hb; exact .inr ⟨_, _, upd_same⟩
      · exact .inl (upd_ne hb)
    · by_cases hb : b = a
      · subst hb
        rw [upd_same] at z
        cases z
        exact ⟨atA, by rw [List.length_map]; exact hl, vs, _, rel, atA⟩
      · rw [upd_ne hb] at z
        cases z
    · by_cases hb : b = a
      · exact hb
      · exact absurd (upd_ne hb) z
end
/-- a law's end -/
theorem walk_ofG {l : PySem.W.OpenLaw} {n k : Nat} {q : Program} {loose : List Str} {XP : (Str → Option Value) → Heap → Prop} {YP : World → Heap → Prop} {d : DefRec} {x : Str} (hn : l.most = some n) (hn2 : n ≤ sizeLine) (hdf : d.params.defaults = []) (hr : Room k callerA)
    (F : ∀ (w : World) (mg : Str → Option Value) (fa : Addr) (h : Heap), YP w h → h.Ns mainGlobals mg → mg d.name = some (.ref fa) → ∃ (K : PySem.W.Frag) (fd : FuncData) (sp : Sp), K.In h ∧ (∀ (s : Shared) (u : Value), BindsTo s fd ⟨[u], []⟩ [(x, u)]) ∧
      (∀ (H : Hp) (a : Addr) (ns : List Int), SqL K H a (ns.map V.int) → sp [.ref a] H (fun v _ => v = .bl true) fun _ _ _ => False) ∧ ∀ base : Heap, FnG l.prog w K mg base k fa fd [x] sp) :
    PySem.W.WalkO q loose XP YP l.row.toRowW d [] (fun f vs => PySem.call f vs) := by
  apply Att.attach_call hn hdf
  intro w s0 s1 mg mb fa o pm cd doc a vs ns G Y ho hd hcd hmg hobj hints hlen hg
  obtain ⟨K, fd, sp, KX, hb, hsp, hF⟩ := F w mg fa _ Y G.T.g hmg
  exact lawG KX G.T.g G.T.b G.T.builtins G.T.nolimit hg hobj hints (Nat.le_trans hlen hn2) hr hF hb fun H hS => hsp H a ns hS
end Dl


set_option Elab.async false
set_option linter.all false
set_option maxRecDepth 100000
set_option maxHeartbeats 0
namespace LT
open PySem PySem.Spec PyProof.Rows L2 Dl ClX
abbrev freesH : List Str := ["len", "int", "abs", "max", "min", "sorted", "set", "zip", "enumerate", "all", "any", "range", "list", "tuple", "isinstance", "bool", "str", "divmod", "repr", "sum", "dict"]
def p0 : DefP := ⟨gP "is_integer", "is_integer", "is_integer", s_is_integer, []⟩
def p1 : DefP := ⟨gP "is_count", "is_count", "is_count", s_is_count, []⟩
def p2 : DefP := ⟨gP "is_list", "is_list", "is_list", s_is_list, []⟩
def p3 : DefP := ⟨gP "is_content", "is_content", "is_content", s_is_content, []⟩
def p4 : DefP := ⟨gP "is_lane", "is_lane", "is_lane", s_is_lane, []⟩
def p5 : DefP := ⟨gP "want_content_of", "want_content_of", "want_content_of", s_want_content_of, []⟩
def p6 : DefP := ⟨gP "want_lane", "want_lane", "want_lane", s_want_lane, []⟩
def p7 : DefP := ⟨gP "want_many", "want_many", "want_many", s_want_many, []⟩
def p8 : DefP := ⟨gP "is_gate", "is_gate", "is_gate", s_is_gate, []⟩
def p9 : DefP := ⟨gP "want_gates", "want_gates", "want_gates", s_want_gates, []⟩
def p10 : DefP := ⟨gP "want_few", "want_few", "want_few", s_want_few, []⟩
def p11 : DefP := ⟨gP "want_position", "want_position", "want_position", s_want_position, []⟩
def p12 : DefP := ⟨gP "want_net", "want_net", "want_net", s_want_net, []⟩
def p13 : DefP := ⟨gP "do_gate", "do_gate", "do_gate", s_do_gate, []⟩
def p14 : DefP := ⟨gP "told_by", "told_by", "told_by", s_told_by, []⟩
def p15 : DefP := ⟨gP "lanes_of", "lanes_of", "lanes_of", s_lanes_of, []⟩
def p16 : DefP := ⟨gP "gate_turned", "gate_turned", "gate_turned", s_gate_turned, []⟩
def p17 : DefP := ⟨gP "of_lane", "of_lane", "of_lane", s_of_lane, []⟩
def p18 : DefP := ⟨gP "layers", "layers", "layers", s_layers, []⟩
def p19 : DefP := ⟨gP "by_layers", "by_layers", "by_layers", s_by_layers, []⟩
def p20 : DefP := ⟨gP "looked_back", "looked_back", "looked_back", s_looked_back, []⟩
def p21 : DefP := ⟨gP "cone", "cone", "cone", s_cone, []⟩
def p22 : DefP := ⟨gP "looked_at", "looked_at", "looked_at", s_looked_at, []⟩
def p23 : DefP := ⟨gP "cone_net", "cone_net", "cone_net", s_cone_net, []⟩
def p24 : DefP := ⟨gP "are_alike", "are_alike", "are_alike", s_are_alike, []⟩
def p25 : DefP := ⟨gP "is_shuffle", "is_shuffle", "is_shuffle", s_is_shuffle, []⟩
def p26 : DefP := ⟨gP "_law_pot", "_law_pot", "_law_pot", s_Lpot, []⟩
def p27 : DefP := ⟨gP "_law_draw", "_law_draw", "_law_draw", s_Ldraw, []⟩
def p28 : DefP := ⟨gP "_law_pick", "_law_pick", "_law_pick", s_Lpick, []⟩
def p29 : DefP := ⟨gP "_law_mixed", "_law_mixed", "_law_mixed", s_Lmixed, []⟩
def p30 : DefP := ⟨gP "_law_gate", "_law_gate", "_law_gate", s_Lgate, []⟩
def p31 : DefP := ⟨gP "_law_gates", "_law_gates", "_law_gates", s_Lgates, []⟩
def p32 : DefP := ⟨gP "_law_content", "_law_content", "_law_content", s_Lcontent, []⟩
def p33 : DefP := ⟨gP "_law_lanes", "_law_lanes", "_law_lanes", s_Llanes, []⟩
def p34 : DefP := ⟨gP "_law_do_touch", "_law_do_touch", "_law_do_touch", s_Ldo_touch, []⟩
def p35 : DefP := ⟨gP "_law_layers", "_law_layers", "_law_layers", s_Llayers, []⟩
def p36 : DefP := ⟨gP "_law_longest", "_law_longest", "_law_longest", s_Llongest, []⟩
def p37 : DefP := ⟨gP "_law_cone", "_law_cone", "_law_cone", s_Lcone, []⟩
def p38 : DefP := ⟨gP "_law_layers_right", "_law_layers_right", "_law_layers_right", s_Llayers_right, []⟩
def p39 : DefP := ⟨gP "_law_cone_right", "_law_cone_right", "_law_cone_right", s_Lcone_right, []⟩
def p40 : DefP := ⟨gP "_law_known_right", "_law_known_right", "_law_known_right", s_Lknown_right, []⟩
def p41 : DefP := ⟨gP "_law_right", "_law_right", "_law_right", s_Lright, []⟩
def p42 : DefP := ⟨gP "law", "law", "law", s_law, []⟩
def p43 : DefP := ⟨mP "Net" "__init__", "__init__", "Net.__init__", s_Net_init, [.adr (He.dflAt ("Net", some "__init__") 0)]⟩
def p44 : DefP := ⟨mP "Net" "gates", "gates", "Net.gates", s_Net_gates, []⟩
def p45 : DefP := ⟨mP "Net" "__eq__", "__eq__", "Net.__eq__", s_Net_eq, []⟩
def p46 : DefP := ⟨mP "Net" "__call__", "__call__", "Net.__call__", s_Net_call, []⟩
def p47 : DefP := ⟨mP "Net" "__len__", "__len__", "Net.__len__", s_Net_len, []⟩
def p48 : DefP := ⟨mP "Net" "__getitem__", "__getitem__", "Net.__getitem__", s_Net_getitem, []⟩
def p49 : DefP := ⟨cP "Net" "of", "of", "Net.of", s_Net_of, []⟩
def p50 : DefP := ⟨pP "Net" "lanes", "lanes", "Net.lanes", s_Net_lanes, []⟩
def fn : List DefP := [p0, p1, p2, p3, p4, p5, p6, p7, p8, p9, p10, p11, p12, p13, p14, p15, p16, p17, p18, p19, p20, p21, p22, p23, p24, p25, p26, p27, p28, p29, p30, p31, p32, p33, p34, p35, p36, p37, p38, p39, p40, p41, p42, p43, p44, p45, p46, p47, p48, p49, p50]
def gl0 : List Str := [Str.ofString "is_integer", Str.ofString "is_count", Str.ofString "is_list", Str.ofString "is_content", Str.ofString "is_lane", Str.ofString "want_content_of", Str.ofString "want_lane", Str.ofString "want_many", Str.ofString "is_gate", Str.ofString "want_gates", Str.ofString "want_few", Str.ofString "want_position", Str.ofString "want_net", Str.ofString "do_gate", Str.ofString "told_by", Str.ofString "lanes_of", Str.ofString "gate_turned", Str.ofString "of_lane", Str.ofString "layers", Str.ofString "by_layers", Str.ofString "looked_back", Str.ofString "cone", Str.ofString "looked_at", Str.ofString "cone_net", Str.ofString "are_alike", Str.ofString "is_shuffle", Str.ofString "_law_pot", Str.ofString "_law_draw", Str.ofString "_law_pick", Str.ofString "_law_mixed"]
def gl1 : List Str := [Str.ofString "_law_gate", Str.ofString "_law_gates", Str.ofString "_law_content", Str.ofString "_law_lanes", Str.ofString "_law_do_touch", Str.ofString "_law_layers", Str.ofString "_law_longest", Str.ofString "_law_cone", Str.ofString "_law_layers_right", Str.ofString "_law_cone_right", Str.ofString "_law_known_right", Str.ofString "_law_right", Str.ofString "law", Str.ofString "PAIRED", Str.ofString "Net"]
def glos : List Str := gl0 ++ gl1
def fas : List He.Fa := [.int "MOST" 12, .str "LOW" "low", .str "HIGH" "high", .str "SORT" "sort", .str "COPY" "copy", .str "ADD" "add", .cls "Net", .noat "Net" "own_lanes", .noat "Net" "own_gates", .mkr "Net", .meth "Net" "gates", .meth "Net" "__eq__", .meth "Net" "__call__", .meth "Net" "__len__", .meth "Net" "__getitem__"]
def ex (K : PySem.W.Frag) : Bool := (glos.all fun x => (He.Fa.glo x).ok K) && ((freesH.all fun x => (He.Fa.free x).ok K) && ((fas.all fun f => f.ok K) && (He.tupB K "PAIRED" [.str "low", .str "high", .str "sort", .str "copy"] && (creadB K (He.ga K "Net") && (cintB K (He.ga K "Net") "MOST_LANES" 12 && (cintB K (He.ga K "Net") "MOST_GATES" 400 && (propB K (He.ga K "Net") "lanes" && (cmetB K (He.ga K "Net") "of" && (tyB K (He.ga K "Net") && (PySem.W.selfFirst K (He.ga K "Net") && (PySem.W.fnIn K (mP "Net" "__call__" K) && (PySem.W.fnIn K (mP "Net" "__getitem__" K) && (nilB K (He.dflAt ("Net", some "__init__") 0 K) && (He.eqO (PySem.W.findIn K (.ref (He.ga K "Net")) "__ne__") (some (some (.builtin "object.__ne__"))) && (decide (PySem.W.mroIn K (He.ga K "Net") (.type "object") = some true) && (rmulB K (He.ga K "Net") && ((PySem.W.findIn K (.type "int") (PySem.dunder Operator.Mult.info.2)).isSome && ((PySem.W.findIn K (.type "int") (dunderR Operator.Mult.info.2)).isSome && decide (PySem.W.subIn K (.type "int") (.ref (He.ga K "Net")) = some false)))))))))))))))))))
abbrev R : PySem.W.OpenRow := PySem.W.OpenLaw.row PySem.Challenge.rw_lanelots_k19_whole_layers_and_cones
abbrev hk : PySem.W.Hook := hookP 6 ex fn
def ob (s : PySem.W.SharedT) : He.AlD := obsP ex fn (fragP 6 (HandSHeadRun.getT s))
theorem ob_eq (s : PySem.W.SharedT) : ob s = hk.obs s.abs := obsP_eq (HandSHeadRun.getT_eq s)
def nm0 : List PySem.Str := [Str.ofString "_wall", Str.ofString "LaneError", Str.ofString "LimitError", Str.ofString "InvalidContent", Str.ofString "InvalidLane", Str.ofString "InvalidMany", Str.ofString "InvalidLanes", Str.ofString "InvalidGates", Str.ofString "InvalidPosition", Str.ofString "InvalidOther", Str.ofString "TooMany", Str.ofString "MOST", Str.ofString "is_integer", Str.ofString "is_count", Str.ofString "is_list", Str.ofString "is_content", Str.ofString "is_lane", Str.ofString "want_content_of", Str.ofString "want_lane", Str.ofString "want_many", Str.ofString "LOW", Str.ofString "HIGH", Str.ofString "SORT", Str.ofString "COPY", Str.ofString "ADD", Str.ofString "PAIRED", Str.ofString "is_gate", Str.ofString "want_gates", Str.ofString "want_few", Str.ofString "want_position", Str.ofString "want_net", Str.ofString "do_gate", Str.ofString "told_by", Str.ofString "lanes_of", Str.ofString "gate_turned"]
def nm1 : List PySem.Str := [Str.ofString "Net", Str.ofString "of_lane", Str.ofString "layers", Str.ofString "by_layers", Str.ofString "looked_back", Str.ofString "cone", Str.ofString "looked_at", Str.ofString "cone_net", Str.ofString "are_alike", Str.ofString "is_shuffle", Str.ofString "_law_pot", Str.ofString "_law_draw", Str.ofString "_law_pick", Str.ofString "_law_mixed", Str.ofString "_law_gate", Str.ofString "_law_gates", Str.ofString "_law_content", Str.ofString "_law_lanes", Str.ofString "_law_do_touch", Str.ofString "_law_layers", Str.ofString "_law_longest", Str.ofString "_law_cone", Str.ofString "_law_layers_right", Str.ofString "_law_cone_right", Str.ofString "_law_known_right", Str.ofString "_law_right"]
def names : List PySem.Str := nm0 ++ nm1
theorem run (w : World) : HandSHeadRun.RunEq R (PySem.W.view R.prog [66]) hk ob 20000 names w := by
  intro os
  kernel_rfl
theorem headed (F : ∀ (w : World) (mg : Str → Option Value) (fa : Addr) (K : PySem.W.Frag) (h : Heap), K.In h → SaysP ex fn K → h.Ns mainGlobals mg → mg ("law" : Str) = some (.ref fa) → ∃ (fd : FuncData) (sp : Sp), (∀ (s : Shared) (u : Value), BindsTo s fd ⟨[u], []⟩ [("_law_script", u)]) ∧ (∀ (H : Hp) (a : Addr) (ns : List Int), SqL K H a (ns.map V.int) → sp [.ref a] H (fun v _ => v = .bl true) fun _ _ _ => False) ∧ ∀ base : Heap, FnG (PySem.Challenge.rw_lanelots_k19_whole_layers_and_cones).prog w K mg base 11 fa fd ["_law_script"] sp) : PySem.Challenge.rw_lanelots_k19_whole_layers_and_cones.Holds := by
  w_on; o_law
  refine HandSHeadRun.head_any (r := PySem.W.OpenLaw.row PySem.Challenge.rw_lanelots_k19_whole_layers_and_cones) (q := PySem.W.view (PySem.W.OpenLaw.row PySem.Challenge.rw_lanelots_k19_whole_layers_and_cones).prog [66]) (H := LT.hk) (ob := LT.ob) (M := 20000) (loose := LT.names) (d := HandSHeadRun.topDef (PySem.W.OpenLaw.row PySem.Challenge.rw_lanelots_k19_whole_layers_and_cones).prog 66) (kwd := []) LT.ob_eq
    (by kernel_rfl) (fun s => by kernel_rfl) LT.run (by kernel_rfl) (by kernel_rfl) (by kernel_rfl) (by rfl) (by first | assumption | decide +kernel) (by decide +kernel) ⟨rfl, rfl, rfl, rfl, rfl, by decide +kernel⟩ ?hw ?hc
  case hw => w_witness2
  case hc =>
    refine Dl.walk_ofG (l := PySem.Challenge.rw_lanelots_k19_whole_layers_and_cones) (n := 63) (k := 11) (x := "_law_script") rfl (by decide) (by kernel_rfl) ⟨rfl, by decide, by decide⟩ ?F
    intro w mg f h Y G hmg0
    obtain ⟨K, KX, c⟩ := Y
    have hn : (HandSHeadRun.topDef (PySem.W.OpenLaw.row PySem.Challenge.rw_lanelots_k19_whole_layers_and_cones).prog 66).name = ("law" : PySem.Str) := by kernel_rfl
    rw [hn] at hmg0
    obtain ⟨fd, sp, hb, hs, hF⟩ := F w mg f K h KX c G hmg0
    exact ⟨K, fd, sp, KX, hb, hs, hF⟩
end LT


set_option Elab.async false
set_option linter.all false
set_option maxRecDepth 100000
set_option maxHeartbeats 2000000
namespace Dl
open PySem PySem.Spec PyProof.Rows L2 ClX
section
variable {X : Cx} {B : Base} {L : Hp} {sl : List Ent} {D : Ends} {pos pos' : Pos} {rest : List Stmt}
/-- an object that no slot holds is changed -/
theorem At.side {σ : L2.St} {G H : Hp} {q : Addr} {o : HO} (a : At B L sl σ G H) (gq : G q = none) (bq : B.H q = none) (nq : ∀ (i : Nat) O p, sl[i]? = some (.mu O) → σ[i]? = some (some (.ref p)) → p ≠ q) : At B L sl σ G (upd H q o) := by
  have sub : Same G (upd H q o) := fun b u e => by
    rw [upd_ne (fun z => by rw [z, gq] at e; cases e)]
    exact a.sat.sub b u e
  refine ⟨⟨sub, a.sat.val, fun i O e => ?_, a.sat.dis, a.sat.len⟩, ⟨a.gr.g, fun b u m e => ?_, fun b e => ?_, sub, a.gr.n⟩, a.lo, a.ow⟩
  · obtain ⟨p, u, k1, k2, k3, k4⟩ := a.sat.mu i O e
    exact ⟨p, u, k1, by rw [upd_ne (nq i O p e k1)]; exact k2, k3, k4⟩
  · rw [upd_ne (ne_of_none e bq)]
    exact a.gr.h b u m e
  · by_cases z : b = q
    · subst z; rw [upd_same]; exact fun z => nomatch z
    · rw [upd_ne z]; exact a.gr.t b e
theorem erase_map : ∀ (ls : List Int) (k : Nat), (ls.map V.int).eraseIdx k = (ls.eraseIdx k).map V.int
  | [], _ => rfl
  | _ :: _, 0 => rfl
  | x :: ls, k + 1 => by
    show V.int x :: (ls.map V.int).eraseIdx k = V.int x :: (ls.eraseIdx k).map V.int
    rw [erase_map ls k]
theorem perm_erase : ∀ {ls : List Int} {k : Nat} {v : Int}, ls[k]? = some v → ([v] ++ ls.eraseIdx k).Perm ls
  | [], k, v, h => by simp at h
  | x :: ls, 0, v, h => by
    have e : x = v := by simpa using h
    rw [e]
    exact List.Perm.refl _
  | x :: ls, k + 1, v, h => by
    have ih := perm_erase (ls := ls) (k := k) (v := v) (by simpa using h)
    exact (List.Perm.swap x v (ls.eraseIdx k)).trans (ih.cons x)
theorem perm_pop {ms ls xs : List Int} {k : Nat} {v : Int} (h : (ms ++ ls).Perm xs) (hv : ls[k]? = some v) : ((ms ++ [v]) ++ ls.eraseIdx k).Perm xs := by
  refine List.Perm.trans ?_ h
  rw [List.append_assoc]
  refine List.Perm.append_left ms ?_
  exact perm_erase hv
/-- return [y.pop(e) for v in range(n)]: the numbers of y in some sequence -/
theorem w_retPop (io j : Nat) {y v : Str} {ix m : Expr} {p1 p2 p3 pv' q1 q2 : Pos} {scope : Scope} {xs : List Int} (hN : X.N.Nodup) (ei : sl[io]? = some (.own (xs.map iI))) (hij : io ≠ j) (src : Ev X m sl (iI (xs.length : Int))) (hx : xs.length ≤ 90000) (hmr : X.mg "range" = none)
    (el : ∀ (ls : List Int) (i : Nat), 0 < ls.length → ls.length ≤ xs.length → ∀ s H C cl fp, Ev (blkX X scope s H C cl fp) ix (setE (wipeE (sl.set io (.own (ls.map iI))) [j]) [j] [iI (i : Int)]) (rInt fun d => 0 ≤ d ∧ d < ls.length))
    (hM : ∀ a, ¬ B.M a) (q : Post B.G B.H D.rt (.x (fun ms : List Int => ms.Perm xs) fun ms => .l (ms.map iI)))
    (hc : X.calm = true := by rfl) (hg : Gl X "range" := by rfl) (he : starEach [m] X.env = [(false, eval m X.env)] := by rfl) (hj : X.N[j]? = some v := by rfl) (hl : (relabel scope X.env).names.lookup v = some .local := by rfl) (hb : blkC X.N X.env.scope scope [(v, j)] = true := by kernel_rfl)
    (hp : ∀ s H C cl fp, PE (blkX X scope s H C cl fp) (.Call (.Attribute (.Name y p1) "pop" p2) [ix] [] p3) (tBM X.K "list" rPopAt (tVar io) (tCons (can (blkX X scope s H C cl fp) ix) tNil)) := by intros; exact pe_bm PySem.F.plainAttrs_list PySem.F.slot_list_pop PySem.F.type_list_pop mt_popAt (pv _) (pa_cons pcan pa_nil))
    (hf : ∀ x, foldedSetIterable (.Call (.Name "range" q1) [m] [] q2) X.env x = pure x := by intro _; rfl) :
    Wp X B L (.Return (some (.ListComp (.Call (.Attribute (.Name y p1) "pop" p2) [ix] [] p3) [⟨.Name v pv', .Call (.Name "range" q1) [m] [] q2, [], 0⟩] scope pos)) pos' :: rest) D sl := by
  refine wp_of (ps_ret (pe_lc (own := [(v, j)]) (g := gName j) (tt := tYes) (te := fun σ H Q => ∀ (s : Shared) (H0 : Hp) (C : Addr) (cl : List (Str × Addr)) (fp : List Addr), tBM X.K "list" rPopAt (tVar io) (tCons (can (blkX X scope s H0 C cl fp) ix) tNil) σ H Q) hc hN (pi_range1 hg hmr pcanA he) (blkOk_by hb) (fun s H C cl fp => pg_name hN hj (.inl hl) (.inr hl)) (fun _ _ _ _ _ => pts_nil) (fun s H C cl fp => ⟨fun pins s' σ' H' Q I h => (hp s H C cl fp).run pins s' σ' H' Q I (h s H C cl fp)⟩) hf)) fun σ G H a => ?_
  show tLc (iRng1 (canA X [m])) (gName j) tYes _ _ σ H D.rt
  unfold tLc
  refine (src_range (j := j) src (by omega) (by omega) he) σ G H _ a.sat ?_
  intro It G1 H1 g1 gs D0 hD
  have a1 := a.go g1
  rw [Int.toNat_natCast] at gs
  obtain ⟨p, ws, es, hpw, gp, rp⟩ := a1.sat.own io _ ei
  have hil : io < sl.length := (List.getElem?_eq_some_iff.mp ei).1
  have bD : B.H D0 = none := by
    cases z : B.H D0 with
    | none => rfl
    | some o => exact absurd hD (a1.gr.t D0 (by rw [z]; exact fun z => nomatch z))
  have nD : ∀ (i : Nat) O r, sl[i]? = some (.mu O) → σ[i]? = some (some (.ref r)) → r ≠ D0 := fun i O r e1 e2 z => by
    obtain ⟨r', o, k1, k2, _⟩ := a1.sat.mu i O e1
    rw [e2] at k1
    cases k1
    rw [z, hD] at k2
    cases k2
  have nD2 : ∀ (ls : List Int) (i : Nat) O r, (sl.set io (.own (ls.map iI)))[i]? = some (.mu O) → σ[i]? = some (some (.ref r)) → r ≠ D0 := fun ls i O r e1 e2 => by
    rcases getElem?_set_cases e1 with ⟨rfl, _⟩ | ⟨_, z⟩
    · exact nD i _ r ei e2
    · exact nD i O r z e2
  have gD1 : G1 D0 = none := a1.sat.sub.free hD
  have same0 : sl.set io (.own (xs.map iI)) = sl := by
    apply List.ext_getElem?
    intro k
    by_cases hk : k = io
    · subst hk; rw [List.getElem?_set_self hil, ei]
    · rw [List.getElem?_set_ne (Ne.symm hk)]
  refine ⟨fun i m' H' => m' = xs.length - i ∧ i ≤ xs.length ∧ ∃ (G' : Hp) (ls ms : List Int), At B L (sl.set io (.own (ls.map iI))) σ G' H' ∧ Same G1 G' ∧ G' D0 = none ∧ H' D0 = some (.lst (ms.map V.int)) ∧ ms.length = i ∧ ls.length + i = xs.length ∧ (ms ++ ls).Perm xs, ⟨xs.length, by simp, Nat.zero_le _, G1, xs, [], ?_, Same.refl _, gD1, upd_same, rfl, rfl, List.Perm.refl _⟩, ?_⟩
  · rw [same0]
    exact a1.side gD1 bD nD
  · rintro i m' H' ⟨rfl, hin, G', ls, ms, at', sm, gD, hD', l1, l2, pm⟩
    by_cases hlt : i < xs.length
    · refine .inr ⟨gs.go i G' H' hlt sm at'.sat.sub, fun H'' => ∃ (G' : Hp) (ls ms : List Int), At B L (sl.set io (.own (ls.map iI))) σ G' H'' ∧ Same G1 G' ∧ G' D0 = none ∧ H'' D0 = some (.lst (ms.map V.int)) ∧ ms.length = i + 1 ∧ ls.length + (i + 1) = xs.length ∧ (ms ++ ls).Perm xs, fun H'' hh => ⟨xs.length - (i + 1), by omega, rfl, hlt, hh⟩, fun x H'' yl => ?_⟩
      refine gs.yld i _ G' H' x H'' _ hlt sm at'.sat.sub yl fun vs G2 H2 g2 r2 => ⟨wipe_setS (by simp), ?_⟩
      unfold tYes
      dsimp only
      rw [if_pos rfl]
      intro s H0 C cl fp
      have at2 := at'.go g2
      have sa : Sat (setE (wipeE (sl.set io (.own (ls.map iI))) [j]) [j] [iI (i : Int)]) (setS (wipe σ [j]) [j] vs) G2 H2 := Sat.setS (at2.sat.wipe _) r2
      have ei2 : (sl.set io (.own (ls.map iI)))[io]? = some (.own (ls.map iI)) := List.getElem?_set_self hil
      obtain ⟨p', ws', es', hw', gw', rw'⟩ := at2.sat.own io _ ei2
      have esw : (setS (wipe σ [j]) [j] vs)[io]? = some (some (.ref p')) := by
        rw [setS_out (by simp [hij]), wipe_out (by simp [hij])]
        exact es'
      refine ⟨.ref p', esw, .inl ⟨rfl, _, SqL.of hw'⟩, (el ls i (by omega) (by omega) s H0 C cl fp).can sa fun u G3 H3 g3 ⟨d, ed, d0, d1⟩ => ?_⟩
      subst ed
      obtain ⟨k, rfl⟩ : ∃ k : Nat, d = (k : Int) := ⟨d.toNat, by omega⟩
      have hk : k < ls.length := by omega
      have ew : ws' = ls.map V.int := rw'.ints
      subst ew
      have at3 := at2.go g3
      refine ⟨p', _, (k : Int), k, .int ls[k], rfl, rfl, g3.hs _ _ hw', by omega, by omega, ?_, by rw [List.getElem?_map, List.getElem?_eq_getElem hk]; rfl, ?_⟩
      · have h0 : ¬ ((k : Int) < 0) := by omega
        unfold seqIndex?
        simp [h0, hk]
      · have at4 := at3.change (Rs' := (ls.eraseIdx k).map iI) ei2 es' (PVs.ofInts (ls.eraseIdx k))
        have dp : D0 ≠ p' := (nD2 ls io _ p' ei2 es').symm
        have hv : ls[k]? = some ls[k] := List.getElem?_eq_getElem hk
        rw [List.set_set] at at4
        have em : (ls.map V.int).eraseIdx k = (ls.eraseIdx k).map V.int := erase_map ls k
        rw [em]
        refine ⟨ms.map V.int, by rw [upd_ne dp]; exact g3.hs _ _ (g2.hs _ _ hD'), by rw [List.length_map]; exact Nat.lt_of_le_of_lt (by omega : ms.length ≤ 90000) (by decide), G3, ls.eraseIdx k, ms ++ [ls[k]], ?_, (sm.trans g2.g).trans g3.g, (g2.trans g3).out hD' gD, ?_, ?_, ?_, perm_pop pm hv⟩
        · exact at4.side ((g2.trans g3).out hD' gD) bD (nD2 _)
        · rw [upd_same, List.map_append]; rfl
        · rw [List.length_append, l1]; rfl
        · rw [List.length_eraseIdx_of_lt hk]; omega
    · have e : i = xs.length := by omega
      subst e
      have el0 : ls = [] := List.eq_nil_of_length_eq_zero (by omega)
      subst el0
      rw [List.append_nil] at pm
      exact .inl ⟨gs.stop G' H' sm at'.sat.sub, q ms pm D0 _ G' H' (at'.gr0 hM) bD gD hD' (PVs.ofInts ms)⟩
end
end Dl


set_option Elab.async false
set_option linter.all false
set_option maxRecDepth 100000
set_option maxHeartbeats 2000000
namespace Dl
open PySem PySem.Spec PyProof.Rows L2 ClX
/-! ### f(k1 = e1, k2 = e2), the parameters in the other sequence -/
structure HasK (P : Program) (w : World) (K : PySem.W.Frag) (mg : Str → Option Value) (base : Heap) (k : Nat) (x k1 k2 : Str) {α : Type} (F : Fn α) : Prop where
  ex : ∃ f fd, mg x = some (.ref f) ∧ PySem.W.keepIn K (.ref f) = true ∧ F.ps = [k2, k1] ∧ (∀ (s : Shared) (u v : Value), BindsTo s fd ⟨[], [(k1, u), (k2, v)]⟩ [(k2, v), (k1, u)]) ∧ FnOk P w K mg base CX0 k f fd F.ps F.sp
section
variable {P : Program} {w : World} {K : PySem.W.Frag} {mg : Str → Option Value} {base : Heap}
theorem hasK_df {x k1 k2 : Str} {st : Stmt} {N : List Str} {k : Nat} {α : Type} {F : Fn α} (d : Df K mg x st) (S : FnScope N F.ps (defScope st)) (hps : F.ps = [k2, k1]) (hl : ∀ a, (F.args a).length = F.ps.length)
    (hb : ∀ (kV doc pm : Value) (an : Option Addr) (cdv ct : Value) (u v : Value), bindArgs (PySem.W.fnOf x x (defArgs st) (defBody st) (defScope st) .none kV doc pm an cdv ct) ⟨[], [(k1, u), (k2, v)]⟩ = pure [(k2, v), (k1, u)])
    (body : ∀ f, Body P w K mg base x st f N k F) : HasK P w K mg base (k + 1) x k1 k2 F := by
  obtain ⟨f, fd, F0, hm⟩ := d
  refine ⟨f, fd, hm, F0.kp, hps, fun s u v => ?_, fnOk_of F0 S hl (body f)⟩
  obtain ⟨oc, od, dV, kV, doc, pm, an, cdv, ct, osl, rfl, _, _, dfl, _⟩ := F0.ex
  rcases dfl with ⟨_, rfl⟩ | ⟨z, _⟩
  · exact .of_eq (hb kV doc pm an cdv ct u v)
  · exact absurd rfl z
end
section
variable {X : Cx} {sl : List Ent} {k : Nat} {x k1 k2 : Str} {α : Type} {F : Fn α} {p pos q1 q2 : Pos} {e1 e2 : Expr} {R1 R2 : RV}
theorem e_callK2 (h : HasK X.prog X.w X.K X.mg X.base k x k1 k2 F) (hr : Room k X.A) (z : α) (h1 : Ev X e1 sl R1) (h2 : Ev X e2 sl R2) (hz : F.args z = [R2, R1]) (hp : F.pre z) (hg : Gl X x := by rfl) (hdb : (x == ("__debug__" : Str)) = false := by decide)
    (hall : (backToKw pos (keywordEach [⟨some k1, e1, q1⟩, ⟨some k2, e2, q2⟩] X.env)).all (·.1.isSome) = true := by rfl) (hks : (backToKw pos (keywordEach [⟨some k1, e1, q1⟩, ⟨some k2, e2, q2⟩] X.env)).filterMap (·.1) = [k1, k2] := by rfl)
    (hpl : ((backTo pos (starEach [] X.env)).any (·.1) || (backToKw pos (keywordEach [⟨some k1, e1, q1⟩, ⟨some k2, e2, q2⟩] X.env)).any (·.1.isNone)) = false := by rfl) : EvR X (.Call (.Name x p) [] [⟨some k1, e1, q1⟩, ⟨some k2, e2, q2⟩] pos) sl (F.res z) := by
  obtain ⟨f, fd, hm, hk, hps, hb, ok⟩ := h.ex
  intro pins s σ G H Q I a q
  apply wpAny_Call_Name_kw (ld_glob I hg hm _ hdb)
  refine PySem.W.callWith_KW0 (h₀ := X.base) I.ok.mod.kin hk hall (thn ((pk_cons (X := X) (nm := some k1) (kpos := q1) pcan (pk_cons (nm := some k2) (kpos := q2) pcan pk_nil)).run pos pins s σ H (fun zs H2 => ∃ u v, zs = [u, v] ∧ F.sp [v, u] H2 Q fun _ _ _ => False) I (h1.can a fun u G1 H1 g1 r1 => h2.can (a.gr g1) fun v G2 H2 g2 r2 => ⟨u, v, rfl, z, G2, g2.s, ?_, hp, (q.gr g1).gr g2⟩)) fun ws s2 ⟨zs, H2, I2, rz, u, v, ez, q2⟩ => ⟨I2.kIn, ?_⟩) hpl
  · rw [hz]; exact .cons r2 (.cons (R1.m g2.g r1) .nil)
  · subst ez
    obtain ⟨u', v', rfl, ru, rv⟩ := vals2 rz
    rw [hks]
    have hb' := hb s2 u' v'
    apply wpAny_call
    refine codeAny_mono (ok.run X.A X.stack s2 H2 _ [v', u'] [v, u] Q (fun _ _ _ => False) hr I2.env0 (by rw [hps]; exact hb') (.cons rv (.cons ru .nil)) q2) fun r1 s' hq => ?_
    match r1, hq with
    | .error e, hq => exact pass0 pins σ H2 s2 e s' I2 hq
    | .ok (.ret u), hq => exact I2.after hq
    | .ok .next, hq => exact False.elim hq
    | .ok .brk, hq => exact False.elim hq
    | .ok .cont, hq => exact False.elim hq
end
end Dl


set_option Elab.async false
set_option linter.all false
namespace Mt
open PySem
/-! ### gates -/
inductive Kind where
  | low | high | sort | copy | add
  deriving DecidableEq
def Kind.wd : Kind → Str
  | .low => "low" | .high => "high" | .sort => "sort" | .copy => "copy" | .add => "add"
theorem wd_inj {k l : Kind} (h : k.wd = l.wd) : k = l := by revert h; cases k <;> cases l <;> decide +kernel
structure Gate where
  k : Kind
  a : Nat
  b : Int
structure Gate.Ok (n : Nat) (g : Gate) : Prop where
  a : g.a < n
  b : g.k ≠ .add → 0 ≤ g.b ∧ g.b < n ∧ (g.a : Int) ≠ g.b
def doG (g : Gate) (xs : List Int) : List Int :=
  match g.k with
  | .add => xs.set g.a (xs.getD g.a 0 + g.b)
  | .copy => xs.set g.a (xs.getD g.b.toNat 0)
  | .low => xs.set g.a (min (xs.getD g.a 0) (xs.getD g.b.toNat 0))
  | .high => xs.set g.a (max (xs.getD g.a 0) (xs.getD g.b.toNat 0))
  | .sort => (xs.set g.a (min (xs.getD g.a 0) (xs.getD g.b.toNat 0))).set g.b.toNat (max (xs.getD g.a 0) (xs.getD g.b.toNat 0))
theorem doG_len (g : Gate) (xs : List Int) : (doG g xs).length = xs.length := by
  unfold doG
  cases g.k <;> simp
def runG (gs : List Gate) (xs : List Int) : List Int := gs.foldl (fun ys g => doG g ys) xs
theorem runG_len : ∀ (gs : List Gate) (xs : List Int), (runG gs xs).length = xs.length
  | [], _ => rfl
  | g :: gs, xs => by show (runG gs (doG g xs)).length = _; rw [runG_len gs, doG_len]
/-- the contents ahead of all gates and behind each one -/
def contG : List Gate → List Int → List (List Int)
  | [], xs => [xs]
  | g :: gs, xs => xs :: contG gs (doG g xs)
/-- k rounds -/
def rndG (gs : List Gate) : Nat → List Int → List Int
  | 0, xs => xs
  | n + 1, xs => runG gs (rndG gs n xs)
theorem rndG_len (gs : List Gate) : ∀ (n : Nat) (xs : List Int), (rndG gs n xs).length = xs.length
  | 0, _ => rfl
  | n + 1, xs => by show (runG gs (rndG gs n xs)).length = _; rw [runG_len, rndG_len gs n]
def maxF : List Int → Int
  | [] => 0
  | x :: r => r.foldl max x
def minF : List Int → Int
  | [] => 0
  | x :: r => r.foldl min x
theorem foldl_max_ge : ∀ (r : List Int) (x : Int), x ≤ r.foldl max x ∧ ∀ y ∈ r, y ≤ r.foldl max x
  | [], x => ⟨Int.le_refl _, by simp⟩
  | z :: r, x => by
    have h := foldl_max_ge r (max x z)
    refine ⟨Int.le_trans (Int.le_max_left x z) h.1, fun y hy => ?_⟩
    rcases List.mem_cons.mp hy with e | hy
    · subst e; exact Int.le_trans (Int.le_max_right x y) h.1
    · exact h.2 y hy
theorem foldl_max_mem : ∀ (r : List Int) (x : Int), r.foldl max x = x ∨ r.foldl max x ∈ r
  | [], x => .inl rfl
  | z :: r, x => by
    rcases foldl_max_mem r (max x z) with h | h
    · show r.foldl max (max x z) = x ∨ r.foldl max (max x z) ∈ z :: r
      rw [h]
      rcases Int.le_total x z with q | q
      · rw [Int.max_eq_right q]; exact .inr (List.mem_cons_self ..)
      · rw [Int.max_eq_left q]; exact .inl rfl
    · exact .inr (List.mem_cons_of_mem _ h)
theorem foldl_min_le : ∀ (r : List Int) (x : Int), r.foldl min x ≤ x ∧ ∀ y ∈ r, r.foldl min x ≤ y
  | [], x => ⟨Int.le_refl _, by simp⟩
  | z :: r, x => by
    have h := foldl_min_le r (min x z)
    refine ⟨Int.le_trans h.1 (Int.min_le_left x z), fun y hy => ?_⟩
    rcases List.mem_cons.mp hy with e | hy
    · subst e; exact Int.le_trans h.1 (Int.min_le_right x y)
    · exact h.2 y hy
theorem foldl_min_mem : ∀ (r : List Int) (x : Int), r.foldl min x = x ∨ r.foldl min x ∈ r
  | [], x => .inl rfl
  | z :: r, x => by
    rcases foldl_min_mem r (min x z) with h | h
    · show r.foldl min (min x z) = x ∨ r.foldl min (min x z) ∈ z :: r
      rw [h]
      rcases Int.le_total x z with q | q
      · rw [Int.min_eq_left q]; exact .inl rfl
      · rw [Int.min_eq_right q]; exact .inr (List.mem_cons_self ..)
    · exact .inr (List.mem_cons_of_mem _ h)
theorem maxF_ge {xs : List Int} {y : Int} (h : y ∈ xs) : y ≤ maxF xs := by
  cases xs with
  | nil => cases h
  | cons x r =>
    rcases List.mem_cons.mp h with e | h
    · subst e; exact (foldl_max_ge r y).1
    · exact (foldl_max_ge r x).2 y h
theorem maxF_mem {xs : List Int} (h : 0 < xs.length) : maxF xs ∈ xs := by
  cases xs with
  | nil => cases h
  | cons x r =>
    rcases foldl_max_mem r x with e | e
    · show r.foldl max x ∈ x :: r; rw [e]; exact List.mem_cons_self ..
    · exact List.mem_cons_of_mem _ e
theorem minF_le {xs : List Int} {y : Int} (h : y ∈ xs) : minF xs ≤ y := by
  cases xs with
  | nil => cases h
  | cons x r =>
    rcases List.mem_cons.mp h with e | h
    · subst e; exact (foldl_min_le r y).1
    · exact (foldl_min_le r x).2 y h
theorem minF_mem {xs : List Int} (h : 0 < xs.length) : minF xs ∈ xs := by
  cases xs with
  | nil => cases h
  | cons x r =>
    rcases foldl_min_mem r x with e | e
    · show r.foldl min x ∈ x :: r; rw [e]; exact List.mem_cons_self ..
    · exact List.mem_cons_of_mem _ e
theorem maxF_eq {xs : List Int} {m : Int} (h : m ∈ xs) (h2 : ∀ y ∈ xs, y ≤ m) : m = maxF xs :=
  Int.le_antisymm (maxF_ge h) (h2 _ (maxF_mem (List.length_pos_of_mem h)))
theorem minF_eq {xs : List Int} {m : Int} (h : m ∈ xs) (h2 : ∀ y ∈ xs, m ≤ y) : m = minF xs :=
  Int.le_antisymm (h2 _ (minF_mem (List.length_pos_of_mem h))) (minF_le h)
end Mt


set_option Elab.async false
set_option linter.all false
namespace Mt
open PySem
def absF (x : Int) : Int := if x < 0 then -x else x
def leadF (xs ys : List Int) : Int := maxF (List.zipWith (fun a b => a - b) xs ys)
def farF (xs ys : List Int) : Int := maxF (List.zipWith (fun a b => absF (a - b)) xs ys)
/-! ### at a lane -/
def stepF (g : Gate) (x : Nat → Int) (i : Nat) : Int :=
  match g.k with
  | .add => if i = g.a then x g.a + g.b else x i
  | .copy => if i = g.a then x g.b.toNat else x i
  | .low => if i = g.a then min (x g.a) (x g.b.toNat) else x i
  | .high => if i = g.a then max (x g.a) (x g.b.toNat) else x i
  | .sort => if i = g.b.toNat then max (x g.a) (x g.b.toNat) else if i = g.a then min (x g.a) (x g.b.toNat) else x i
theorem getD_set {xs : List Int} {a i : Nat} {v : Int} (h : a < xs.length) : (xs.set a v).getD i 0 = if i = a then v else xs.getD i 0 := by
  rw [List.getD_eq_getElem?_getD, List.getD_eq_getElem?_getD, List.getElem?_set]
  by_cases e : i = a
  · subst e; simp [h]
  · rw [if_neg (fun z => e z.symm), if_neg e]
theorem doG_at {g : Gate} {xs : List Int} (h : g.Ok xs.length) (i : Nat) : (doG g xs).getD i 0 = stepF g (fun j => xs.getD j 0) i := by
  have ha := h.a
  unfold doG stepF
  cases e : g.k with
  | sort =>
    have hb := h.b (by rw [e]; decide)
    dsimp only
    rw [getD_set (by rw [List.length_set]; omega), getD_set ha]
  | _ => dsimp only; rw [getD_set ha]
/-- each number is at most its fellow and c -/
def LeC (c : Int) (xs ys : List Int) : Prop := xs.length = ys.length ∧ ∀ i, i < xs.length → xs.getD i 0 ≤ ys.getD i 0 + c
theorem stepF_le {g : Gate} {n : Nat} (h : g.Ok n) {x y : Nat → Int} {c : Int} (l : ∀ i, i < n → x i ≤ y i + c) (i : Nat) (hi : i < n) : stepF g x i ≤ stepF g y i + c := by
  have ha := l g.a h.a
  have h0 := l i hi
  unfold stepF
  cases e : g.k with
  | add => dsimp only; split <;> omega
  | _ =>
    have hb := l g.b.toNat (by have := h.b (by rw [e]; decide); omega)
    dsimp only
    split
    · omega
    · first | omega | (split <;> omega)
theorem doG_le {g : Gate} {xs ys : List Int} {c : Int} (h : g.Ok xs.length) (l : LeC c xs ys) : LeC c (doG g xs) (doG g ys) := by
  refine ⟨by rw [doG_len, doG_len, l.1], fun i hi => ?_⟩
  rw [doG_len] at hi
  rw [doG_at h, doG_at (by rw [← l.1]; exact h)]
  exact stepF_le h l.2 i hi
theorem runG_le {c : Int} : ∀ {gs : List Gate} {xs ys : List Int}, (∀ g ∈ gs, g.Ok xs.length) → LeC c xs ys → LeC c (runG gs xs) (runG gs ys)
  | [], _, _, _, l => l
  | g :: gs, xs, ys, h, l => by
    show LeC c (runG gs (doG g xs)) (runG gs (doG g ys))
    exact runG_le (fun g' hg => by rw [doG_len]; exact h g' (List.mem_cons_of_mem _ hg)) (doG_le (h g (List.mem_cons_self ..)) l)
theorem rndG_le {c : Int} {gs : List Gate} {xs ys : List Int} (h : ∀ g ∈ gs, g.Ok xs.length) (l : LeC c xs ys) : ∀ n, LeC c (rndG gs n xs) (rndG gs n ys)
  | 0 => l
  | n + 1 => runG_le (by rw [rndG_len]; exact h) (rndG_le h l n)
theorem zip_mem {f : Int → Int → Int} : ∀ {xs ys : List Int} {v : Int}, v ∈ List.zipWith f xs ys → ∃ i, i < xs.length ∧ i < ys.length ∧ v = f (xs.getD i 0) (ys.getD i 0)
  | [], _, v, h => by simp at h
  | _ :: _, [], v, h => by simp at h
  | x :: xs, y :: ys, v, h => by
    rw [List.zipWith_cons_cons] at h
    rcases List.mem_cons.mp h with e | h
    · exact ⟨0, Nat.zero_lt_succ _, Nat.zero_lt_succ _, e⟩
    · obtain ⟨i, h1, h2, h3⟩ := zip_mem h
      exact ⟨i + 1, Nat.succ_lt_succ h1, Nat.succ_lt_succ h2, by simpa using h3⟩
theorem mem_zip {f : Int → Int → Int} : ∀ {xs ys : List Int} {i : Nat}, i < xs.length → i < ys.length → f (xs.getD i 0) (ys.getD i 0) ∈ List.zipWith f xs ys
  | x :: xs, y :: ys, 0, _, _ => by simp
  | x :: xs, y :: ys, i + 1, h1, h2 => by
    rw [List.zipWith_cons_cons]
    refine List.mem_cons_of_mem _ ?_
    simpa using mem_zip (f := f) (xs := xs) (ys := ys) (i := i) (Nat.lt_of_succ_lt_succ h1) (Nat.lt_of_succ_lt_succ h2)
theorem leadF_ge {xs ys : List Int} (hl : xs.length = ys.length) : LeC (leadF xs ys) xs ys := ⟨hl, fun i hi => by
  have := maxF_ge (mem_zip (f := fun a b => a - b) hi (by omega : i < ys.length))
  unfold leadF
  omega⟩
theorem leadF_le {xs ys : List Int} {c : Int} (h : LeC c xs ys) (h0 : 0 < xs.length) : leadF xs ys ≤ c := by
  have hm := maxF_mem (xs := List.zipWith (fun a b : Int => a - b) xs ys) (by rw [List.length_zipWith, ← h.1]; omega)
  obtain ⟨i, h1, h2, h3⟩ := zip_mem (f := fun a b : Int => a - b) hm
  have := h.2 i h1
  unfold leadF
  rw [h3]
  omega
theorem farF_ge {xs ys : List Int} (hl : xs.length = ys.length) : LeC (farF xs ys) xs ys ∧ LeC (farF xs ys) ys xs := by
  have k : ∀ i, i < xs.length → absF (xs.getD i 0 - ys.getD i 0) ≤ farF xs ys := fun i hi => maxF_ge (mem_zip (f := fun a b => absF (a - b)) hi (by omega : i < ys.length))
  refine ⟨⟨hl, fun i hi => ?_⟩, ⟨hl.symm, fun i hi => ?_⟩⟩
  · have := k i hi
    unfold absF at this
    split at this <;> omega
  · have := k i (by omega)
    unfold absF at this
    split at this <;> omega
theorem farF_le {xs ys : List Int} {c : Int} (h : LeC c xs ys) (h' : LeC c ys xs) (h0 : 0 < xs.length) : farF xs ys ≤ c := by
  have hm := maxF_mem (xs := List.zipWith (fun a b : Int => absF (a - b)) xs ys) (by rw [List.length_zipWith, ← h.1]; omega)
  obtain ⟨i, h1, h2, h3⟩ := zip_mem (f := fun a b : Int => absF (a - b)) hm
  have k1 := h.2 i h1
  have k2 := h'.2 i h2
  unfold farF
  rw [h3]
  unfold absF
  split <;> omega
theorem all_le : ∀ {xs ys : List Int}, LeC 0 xs ys → (List.zipWith (fun a b => decide (a ≤ b)) xs ys).all id = true
  | [], _, _ => by simp
  | _ :: _, [], _ => by simp
  | x :: xs, y :: ys, h => by
    rw [List.zipWith_cons_cons, List.all_cons]
    have h0 : x ≤ y := by simpa using h.2 0 (Nat.zero_lt_succ _)
    have ht : LeC 0 xs ys := ⟨by simpa using h.1, fun i hi => by simpa using h.2 (i + 1) (Nat.succ_lt_succ hi)⟩
    rw [all_le ht]
    simp [h0]
theorem le_of_paired : ∀ {xs ys : List Int}, Paired (fun x y : Int => x ≤ y) xs ys → LeC 0 xs ys
  | _, _, .nil => ⟨rfl, fun i hi => by simp⟩
  | x :: xs, y :: ys, .cons a t => by
    have h := le_of_paired t
    refine ⟨by simp [h.1], fun i hi => ?_⟩
    cases i with
    | zero => simpa using a
    | succ i => simpa using h.2 i (by simpa using hi)
theorem le_max : ∀ {xs ys : List Int}, xs.length = ys.length → LeC 0 xs (List.zipWith max xs ys)
  | [], _, _ => ⟨by simp, fun i hi => by simp at hi⟩
  | x :: xs, [], h => by simp at h
  | x :: xs, y :: ys, h => by
    have h := le_max (xs := xs) (ys := ys) (by simpa using h)
    refine ⟨by simpa using h.1, fun i hi => ?_⟩
    cases i with
    | zero => simp; omega
    | succ i => simpa using h.2 i (by simpa using hi)
/-! ### the contents on the way -/
theorem contG_at : ∀ {gs : List Gate} {xs : List Int} {i : Nat} {r : List Int}, (contG gs xs)[i]? = some r → r = runG (gs.take i) xs ∧ i ≤ gs.length
  | [], xs, 0, r, h => ⟨by simpa [contG, runG] using h.symm, Nat.le_refl _⟩
  | [], xs, i + 1, r, h => by simp [contG] at h
  | g :: gs, xs, 0, r, h => ⟨by simpa [contG, runG] using h.symm, Nat.zero_le _⟩
  | g :: gs, xs, i + 1, r, h => by
    have h' : (contG gs (doG g xs))[i]? = some r := by simpa [contG] using h
    obtain ⟨h1, h2⟩ := contG_at h'
    exact ⟨h1, Nat.succ_le_succ h2⟩
theorem contG_row {gs : List Gate} {xs r : List Int} (h : r ∈ contG gs xs) : ∃ i, r = runG (gs.take i) xs := by
  obtain ⟨i, hi⟩ := List.mem_iff_getElem?.mp h
  exact ⟨i, (contG_at hi).1⟩
theorem runG_take_le {c : Int} {gs : List Gate} {xs ys : List Int} (h : ∀ g ∈ gs, g.Ok xs.length) (l : LeC c xs ys) (i : Nat) : LeC c (runG (gs.take i) xs) (runG (gs.take i) ys) := runG_le (fun g hg => h g (List.mem_of_mem_take hg)) l
/-! ### changed by a map -/
theorem getD_map {f : Int → Int} {xs : List Int} {i : Nat} (h : i < xs.length) : (xs.map f).getD i 0 = f (xs.getD i 0) := by
  rw [List.getD_eq_getElem?_getD, List.getD_eq_getElem?_getD, List.getElem?_map, List.getElem?_eq_getElem h]; rfl
theorem getD_in {xs : List Int} {i : Nat} (h : i < xs.length) : xs.getD i 0 ∈ xs := by
  rw [List.getD_eq_getElem?_getD, List.getElem?_eq_getElem h]; exact List.getElem_mem h
def Rise (f : Int → Int) (xs : List Int) : Prop := ∀ u ∈ xs, ∀ v ∈ xs, u ≤ v → f u ≤ f v
theorem min_map {f : Int → Int} {xs : List Int} (r : Rise f xs) {u v : Int} (hu : u ∈ xs) (hv : v ∈ xs) : min (f u) (f v) = f (min u v) := by
  rcases Int.le_total u v with h | h
  · rw [Int.min_eq_left h, Int.min_eq_left (r u hu v hv h)]
  · rw [Int.min_eq_right h, Int.min_eq_right (r v hv u hu h)]
theorem max_map {f : Int → Int} {xs : List Int} (r : Rise f xs) {u v : Int} (hu : u ∈ xs) (hv : v ∈ xs) : max (f u) (f v) = f (max u v) := by
  rcases Int.le_total u v with h | h
  · rw [Int.max_eq_right h, Int.max_eq_right (r u hu v hv h)]
  · rw [Int.max_eq_left h, Int.max_eq_left (r v hv u hu h)]
theorem doG_map {f : Int → Int} {g : Gate} {xs : List Int} (h : g.Ok xs.length) (r : Rise f xs) (ad : g.k = .add → ∀ u, f (u + g.b) = f u + g.b) : doG g (xs.map f) = (doG g xs).map f := by
  have ha := h.a
  unfold doG
  cases e : g.k with
  | add =>
    dsimp only
    rw [List.map_set, getD_map ha, ad e]
  | _ =>
    have hb : g.b.toNat < xs.length := by have := h.b (by rw [e]; decide); omega
    dsimp only
    simp only [List.map_set, getD_map ha, getD_map hb, min_map r (getD_in ha) (getD_in hb), max_map r (getD_in ha) (getD_in hb)]
theorem doG_in {g : Gate} {xs : List Int} (h : g.Ok xs.length) (np : g.k ≠ .add) {v : Int} (hv : v ∈ doG g xs) : v ∈ xs := by
  have ha := getD_in h.a
  have hb : xs.getD g.b.toNat 0 ∈ xs := getD_in (by have := h.b np; omega)
  have mn : min (xs.getD g.a 0) (xs.getD g.b.toNat 0) ∈ xs := by
    rcases Int.le_total (xs.getD g.a 0) (xs.getD g.b.toNat 0) with q | q
    · rw [Int.min_eq_left q]; exact ha
    · rw [Int.min_eq_right q]; exact hb
  have mx : max (xs.getD g.a 0) (xs.getD g.b.toNat 0) ∈ xs := by
    rcases Int.le_total (xs.getD g.a 0) (xs.getD g.b.toNat 0) with q | q
    · rw [Int.max_eq_right q]; exact hb
    · rw [Int.max_eq_left q]; exact ha
  have st : ∀ {zs : List Int} {i : Nat} {u v : Int}, (∀ y ∈ zs, y ∈ xs) → u ∈ xs → v ∈ zs.set i u → v ∈ xs := fun {zs i u v} hz hu h => by
    rcases List.mem_or_eq_of_mem_set h with q | q
    · exact hz _ q
    · rw [q]; exact hu
  revert hv
  unfold doG
  cases e : g.k with
  | add => exact absurd e np
  | copy => exact st (fun y hy => hy) hb
  | low => exact st (fun y hy => hy) mn
  | high => exact st (fun y hy => hy) mx
  | sort => exact st (fun y hy => st (fun y hy => hy) mn hy) mx
theorem Rise.sub {f : Int → Int} {xs ys : List Int} (r : Rise f xs) (h : ∀ y ∈ ys, y ∈ xs) : Rise f ys := fun u hu v hv => r u (h u hu) v (h v hv)
theorem runG_in : ∀ {gs : List Gate} {xs : List Int}, (∀ g ∈ gs, g.Ok xs.length ∧ g.k ≠ .add) → ∀ v ∈ runG gs xs, v ∈ xs
  | [], _, _, v, hv => hv
  | g :: gs, xs, h, v, hv => by
    have h1 := h g (List.mem_cons_self ..)
    exact doG_in h1.1 h1.2 (runG_in (gs := gs) (xs := doG g xs) (fun g' hg => by rw [doG_len]; exact h g' (List.mem_cons_of_mem _ hg)) v hv)
/-- a map that rises, and gates that are plain; or all raised alike -/
def Fits (f : Int → Int) (gs : List Gate) (xs : List Int) : Prop := (∀ g ∈ gs, g.Ok xs.length) ∧ ((Rise f xs ∧ ∀ g ∈ gs, g.k ≠ .add) ∨ ∃ c, f = fun u => u + c)
theorem Fits.rise {f : Int → Int} {gs : List Gate} {xs : List Int} (h : Fits f gs xs) : Rise f xs := by
  rcases h.2 with ⟨r, _⟩ | ⟨c, rfl⟩
  · exact r
  · intro u _ v _ l; dsimp only; omega
theorem Fits.one {f : Int → Int} {g : Gate} {gs : List Gate} {xs : List Int} (h : Fits f (g :: gs) xs) : doG g (xs.map f) = (doG g xs).map f := by
  refine doG_map (h.1 g (List.mem_cons_self ..)) h.rise fun e u => ?_
  rcases h.2 with ⟨_, np⟩ | ⟨c, rfl⟩
  · exact absurd e (np g (List.mem_cons_self ..))
  · dsimp only; omega
theorem Fits.next {f : Int → Int} {g : Gate} {gs : List Gate} {xs : List Int} (h : Fits f (g :: gs) xs) : Fits f gs (doG g xs) := by
  refine ⟨fun g' hg => by rw [doG_len]; exact h.1 g' (List.mem_cons_of_mem _ hg), ?_⟩
  rcases h.2 with ⟨r, np⟩ | q
  · exact .inl ⟨r.sub fun y hy => doG_in (h.1 g (List.mem_cons_self ..)) (np g (List.mem_cons_self ..)) hy, fun g' hg => np g' (List.mem_cons_of_mem _ hg)⟩
  · exact .inr q
theorem contG_map {f : Int → Int} : ∀ {gs : List Gate} {xs : List Int}, Fits f gs xs → contG gs (xs.map f) = (contG gs xs).map (List.map f)
  | [], _, _ => rfl
  | g :: gs, xs, h => by
    show xs.map f :: contG gs (doG g (xs.map f)) = xs.map f :: (contG gs (doG g xs)).map (List.map f)
    rw [h.one, contG_map h.next]
theorem runG_map {f : Int → Int} : ∀ {gs : List Gate} {xs : List Int}, Fits f gs xs → runG gs (xs.map f) = (runG gs xs).map f
  | [], _, _ => rfl
  | g :: gs, xs, h => by
    show runG gs (doG g (xs.map f)) = (runG gs (doG g xs)).map f
    rw [h.one, runG_map h.next]
theorem rndG_add {gs : List Gate} {xs : List Int} (h : ∀ g ∈ gs, g.Ok xs.length) (c : Int) : ∀ n, rndG gs n (xs.map (· + c)) = (rndG gs n xs).map (· + c)
  | 0 => rfl
  | n + 1 => by
    show runG gs (rndG gs n (xs.map (· + c))) = (runG gs (rndG gs n xs)).map (· + c)
    rw [rndG_add h c n, runG_map ⟨by rw [rndG_len]; exact h, .inr ⟨c, rfl⟩⟩]
theorem maxF_add {xs : List Int} (h : 0 < xs.length) (c : Int) : maxF (xs.map (· + c)) = maxF xs + c :=
  (maxF_eq (List.mem_map.mpr ⟨_, maxF_mem h, rfl⟩) fun y hy => by
    obtain ⟨z, hz, rfl⟩ := List.mem_map.mp hy
    have := maxF_ge hz
    omega).symm
theorem minF_add {xs : List Int} (h : 0 < xs.length) (c : Int) : minF (xs.map (· + c)) = minF xs + c :=
  (minF_eq (List.mem_map.mpr ⟨_, minF_mem h, rfl⟩) fun y hy => by
    obtain ⟨z, hz, rfl⟩ := List.mem_map.mp hy
    have := minF_le hz
    omega).symm
theorem spread_le {xs ys : List Int} (h : 0 < ys.length) (s : ∀ y ∈ ys, y ∈ xs) : maxF ys - minF ys ≤ maxF xs - minF xs := by
  have h1 := maxF_ge (s _ (maxF_mem h))
  have h2 := minF_le (s _ (minF_mem h))
  omega
end Mt


set_option Elab.async false
set_option linter.all false
set_option maxRecDepth 100000
set_option maxHeartbeats 2000000
namespace LT
open PySem PySem.Spec PyProof.Rows L2 Dl Mt ClX
abbrev frees : List Str := ["len", "int", "abs", "max", "min", "sorted", "set", "zip", "enumerate", "all", "any", "range", "list", "tuple", "isinstance", "bool", "str", "divmod", "repr", "sum", "dict"]
/-- what the top has written -/
structure Txt (K : PySem.W.Frag) (mg : Str → Option Value) : Prop extends Dfs K mg where
  free : ∀ x ∈ frees, mg x = none
  most : ∃ t, mg "MOST" = some (.int 12 t)
  low : ∃ t, mg "LOW" = some (.str "low" t)
  high : ∃ t, mg "HIGH" = some (.str "high" t)
  sort : ∃ t, mg "SORT" = some (.str "sort" t)
  copy : ∃ t, mg "COPY" = some (.str "copy" t)
  add : ∃ t, mg "ADD" = some (.str "add" t)
  paired : ∃ a, mg "PAIRED" = some (.ref a) ∧ ∀ H, SqT K H a [.str "low", .str "high", .str "sort", .str "copy"]
  net : mg "Net" = some (.ref (He.ga K "Net"))
  cls : Cls K (He.ga K "Net")
  nL : NoAttr K (He.ga K "Net") "own_lanes"
  nG : NoAttr K (He.ga K "Net") "own_gates"
  crd : ∃ mc, CRead K (He.ga K "Net") mc ∧ (∃ t, CVal K (He.ga K "Net") mc "MOST_LANES" (.int 12) (.int 12 t)) ∧ ∃ t, CVal K (He.ga K "Net") mc "MOST_GATES" (.int 400) (.int 400 t)
  make : ∃ f fd a, Mk K (He.ga K "Net") f ∧ (∀ H, SqT K H a []) ∧ FunD K "__init__" "Net.__init__" (defArgs s_Net_init) (defBody s_Net_init) (defScope s_Net_init) [.ref a] [] f fd
  lanes : ∃ q g fd, PropOf K (He.ga K "Net") "lanes" q g ∧ FnP K "lanes" "Net.lanes" s_Net_lanes g fd
  gates : ∃ f fd, Meth K (He.ga K "Net") "gates" f ∧ FnP K "gates" "Net.gates" s_Net_gates f fd
  lenm : ∃ f fd, Meth K (He.ga K "Net") "__len__" f ∧ FnP K "__len__" "Net.__len__" s_Net_len f fd
  getm : ∃ f fd, Meth K (He.ga K "Net") "__getitem__" f ∧ FnP K "__getitem__" "Net.__getitem__" s_Net_getitem f fd ∧ PySem.W.fnIn K f = true
  eqm : ∃ f fd, Meth K (He.ga K "Net") "__eq__" f ∧ FnP K "__eq__" "Net.__eq__" s_Net_eq f fd
  callm : ∃ f fd, Meth K (He.ga K "Net") "__call__" f ∧ FnP K "__call__" "Net.__call__" s_Net_call f fd ∧ PySem.W.fnIn K f = true
  sf : PySem.W.selfFirst K (He.ga K "Net") = true
  nem : PySem.W.findIn K (.ref (He.ga K "Net")) "__ne__" = some (some (.builtin "object.__ne__"))
  mro : PySem.W.mroIn K (He.ga K "Net") (.type "object") = some true
  tyN : ∀ (H : Hp) (a dx : Addr) (fs : List (Str × V)), H a = some (.ins (He.ga K "Net") dx fs) → TyOf K H (.ref a) (.ref (He.ga K "Net"))
section
variable {P : Program} {w : World} {K : PySem.W.Frag} {mg : Str → Option Value} {base : Heap}
theorem Txt.f (T : Txt K mg) (x : Str) (h : x ∈ frees := by decide +kernel) : mg x = none := T.free x h
theorem hu64 {A : Around} {k : Nat} (hr : Room k A) : A.units + 64 < cLine := by have := hr.un; omega
/-! ### basics -/
def F_is_integer : Fn Int := ⟨["value"], fun n => [iI n], fun _ => True, fun _ => .v (iB true)⟩
theorem h_is_integer (T : Txt K mg) : Has P w K mg base 1 "is_integer" F_is_integer := by
  refine has_df T.d_is_integer sc_is_integer b_is_integer rfl (fun _ => rfl) (k := 0) ?_
  intro f cdv A outer s H E n B L D hr _ hM q _
  refine w_ret (r := .v (iB true)) (Ev.bool (e_and (e_isi (e_var 0) ty_int (e_bty (n := "int") (T.f "int") (by decide +kernel)) (T.f "isinstance") (kit_ty (r := true) (by decide +kernel))) fun _ =>
    e_one (e_not (e_isi (e_var 0) ty_int (e_bty (n := "bool") (T.f "bool") (by decide +kernel)) (T.f "isinstance") (kit_ty (r := false) (by decide +kernel))))) ?_) hM q
  rintro z (⟨_, h⟩ | ⟨h, _⟩)
  · revert h; cases z <;> simp
  · cases h
def F_is_count : Fn Int := ⟨["value"], fun n => [iI n], fun _ => True, fun n => .v (iB (decide (0 ≤ n)))⟩
theorem h_is_count (T : Txt K mg) : Has P w K mg base 2 "is_count" F_is_count := by
  refine has_df T.d_is_count sc_is_count b_is_count rfl (fun _ => rfl) (k := 1) ?_
  intro f cdv A outer s H E n B L D hr _ hM q _
  refine w_ret (r := .v (iB (decide (0 ≤ n)))) (Ev.bool (e_and (e_call (h_is_integer T) (hr.mono (by decide)) n (a1 (e_var 0)) trivial).v fun _ => e_one (e_geP (P := fun z => z = decide (0 ≤ n)) (e_var 0) e_int fun x y h1 h2 => by rw [h1, h2])) ?_) hM q
  rintro z (⟨_, h⟩ | ⟨h, _⟩)
  · exact h
  · cases h
/-- a list or a tuple -/
def F_is_list (K : PySem.W.Frag) : Fn RV := ⟨["value"], fun R => [R], fun R => R.Ty K (.type "list") ∨ R.Ty K (.type "tuple"), fun _ => .v (iB true)⟩
theorem h_is_list (T : Txt K mg) : Has P w K mg base 1 "is_list" (F_is_list K) := by
  refine has_df T.d_is_list sc_is_list b_is_list rfl (fun _ => rfl) (k := 0) ?_
  intro f cdv A outer s H E R B L D hr hp hM q _
  rcases hp with hp | hp
  · exact w_ret (r := .v (iB true)) (e_isi2 (e_var 0) hp (e_bty (n := "list") (T.f "list") (by decide +kernel)) (e_bty (n := "tuple") (T.f "tuple") (by decide +kernel)) (T.f "isinstance") (kitAny_cons (b := true) (kit_ty (by decide +kernel)) (fun z => nomatch z) fun _ => rfl)) hM q
  · exact w_ret (r := .v (iB true)) (e_isi2 (e_var 0) hp (e_bty (n := "list") (T.f "list") (by decide +kernel)) (e_bty (n := "tuple") (T.f "tuple") (by decide +kernel)) (T.f "isinstance") (kitAny_cons (b := false) (kit_ty (by decide +kernel)) (fun _ => kitAny_cons (b := true) (kit_ty (by decide +kernel)) (fun z => nomatch z) fun _ => rfl) (fun z => nomatch z))) hM q
/-- a list or a tuple of ints -/
abbrev rSI (K : PySem.W.Frag) (b : Bool) (xs : List Int) : RV := rSq K b (xs.map iI)
def F_is_content (K : PySem.W.Frag) : Fn (Bool × List Int) := ⟨["value"], fun z => [rSI K z.1 z.2], fun _ => True, fun z => .v (iB (decide (1 ≤ z.2.length ∧ z.2.length ≤ 12)))⟩
theorem h_is_content (T : Txt K mg) : Has P w K mg base 2 "is_content" (F_is_content K) := by
  refine has_df T.d_is_content sc_is_content b_is_content rfl (fun _ => rfl) (k := 1) ?_
  intro f cdv A outer s H E z B L D hr _ hM q _
  obtain ⟨b, xs⟩ := z
  obtain ⟨t, hmost⟩ := T.most
  show Wp _ B L _ D [.val (rSI K b xs), .no]
  refine w_ret (r := .v (iB (decide (1 ≤ xs.length ∧ xs.length ≤ 12)))) (Ev.bool (e_and (e_call (h_is_list T) hr (rSI K b xs) (a1 (e_var 0)) (by exact ty_sq)).v fun _ =>
    e_and (P := fun z => z = decide (1 ≤ xs.length ∧ xs.length ≤ 12)) (e_chain op_le op_le e_int (e_lenS (e_var 0) (T.f "len")) (e_glob hmost (v := .int 12) (R := iI 12) ⟨_, rfl⟩ fun _ => ⟨_, rfl, rfl⟩) ?_ ?_ (by with_unfolding_all rfl)) fun hz =>
      e_one (e_allM (f := fun _ : Int => true) (xs := xs) (e_compS 1 _ sc_is_content.nd (e_var 0) (by have := of_decide_eq_true hz.symm; omega) (fun x hx s H C cl fp => (e_call (h_is_integer T) hr x (a1 (e_var 1)) trivial).v)).lst (T.f "all"))) ?fin) hM q
  case fin =>
    rintro z (⟨_, ⟨h1, h2⟩ | ⟨h1, h2⟩⟩ | ⟨h, _⟩)
    · rw [h2, ← h1]; simp
    · rw [h2]; exact h1
    · cases h
  · intro x y h1 h2 h3
    subst h1 h2
    rw [List.length_map] at h3
    symm
    have := of_decide_eq_false h3
    exact decide_eq_false (show ¬ (1 ≤ xs.length ∧ xs.length ≤ 12) by omega)
  · intro x y z h1 h2 h3 h4
    subst h1 h2 h3
    rw [List.length_map] at h4 ⊢
    have := of_decide_eq_true h4
    rw [decide_eq_decide]
    show _ ↔ (1 ≤ xs.length ∧ xs.length ≤ 12)
    omega
end
end LT


set_option Elab.async false
set_option linter.all false
set_option maxRecDepth 100000
set_option maxHeartbeats 2000000
namespace LT
open PySem PySem.Spec PyProof.Rows L2 Dl Mt ClX
section
variable {P : Program} {w : World} {K : PySem.W.Frag} {mg : Str → Option Value} {base : Heap}
def F_is_lane : Fn (Int × Int) := ⟨["lanes", "value"], fun n => [iI n.1, iI n.2], fun _ => True, fun n => .v (iB (decide (0 ≤ n.2 ∧ n.2 < n.1)))⟩
theorem h_is_lane (T : Txt K mg) : Has P w K mg base 3 "is_lane" F_is_lane := by
  refine has_df T.d_is_lane sc_is_lane b_is_lane rfl (fun _ => rfl) (k := 2) ?_
  intro f cdv A outer s H E n B L D hr _ hM q _
  refine w_ret (r := .v (iB (decide (0 ≤ n.2 ∧ n.2 < n.1)))) (Ev.bool (e_and (e_call (h_is_count T) hr n.2 (a1 (e_var 1)) trivial).v fun _ => e_one (e_ltP (P := fun z => z = decide (n.2 < n.1)) (e_var 1) (e_var 0) fun x y h1 h2 => by rw [h1, h2])) ?_) hM q
  rintro z (⟨h, h'⟩ | ⟨h, h'⟩)
  · have := of_decide_eq_true h.symm
    rw [h', decide_eq_decide]
    omega
  · have := of_decide_eq_false h.symm
    rw [h']
    symm
    exact decide_eq_false (by omega)
abbrev Cont (xs : List Int) : Prop := 1 ≤ xs.length ∧ xs.length ≤ 12
def F_want_content_of (K : PySem.W.Frag) : Fn (Int × Bool × List Int) := ⟨["lanes", "value"], fun z => [iI z.1, rSI K z.2.1 z.2.2], fun z => Cont z.2.2 ∧ z.1 = z.2.2.length, fun _ => .v iN⟩
theorem h_want_content_of (T : Txt K mg) : Has P w K mg base 3 "want_content_of" (F_want_content_of K) := by
  refine has_df T.d_want_content_of sc_want_content_of b_want_content_of rfl (fun _ => rfl) (k := 2) ?_
  intro f cdv A outer s H E z B L D hr hp hM q hN
  refine w_ifNot (t_or (t_not (t_val (e_call (h_is_content T) hr z.2 (a1 (e_var 1)) trivial).v)) fun _ => t_or1 (t_neI (P := fun z => z = false) (e_lenS (e_var 1) (T.f "len")) (e_var 0) fun x y h1 h2 => ?_)).t (fun h => ?_) (w_none hM q hN)
  · rw [h1, h2, List.length_map, hp.2, decide_eq_true rfl]; rfl
  · rcases h with ⟨_, h⟩ | ⟨h, _⟩
    · cases h
    · rw [decide_eq_true hp.1] at h
      cases h
def F_want_many : Fn Int := ⟨["value"], fun n => [iI n], fun n => 0 ≤ n, fun _ => .v iN⟩
theorem h_want_many (T : Txt K mg) : Has P w K mg base 3 "want_many" F_want_many := by
  refine has_df T.d_want_many sc_want_many b_want_many rfl (fun _ => rfl) (k := 2) ?_
  intro f cdv A outer s H E n B L D hr hp hM q hN
  replace hp : 0 ≤ n := hp
  refine w_ifNot (t_not (t_val (e_call (h_is_count T) hr n (a1 (e_var 0)) trivial).v)) (fun h => ?_) (w_none hM q hN)
  rw [decide_eq_true hp] at h
  cases h
end
end LT


set_option Elab.async false
set_option linter.all false
set_option maxRecDepth 100000
set_option maxHeartbeats 2000000
namespace LT
open PySem PySem.Spec PyProof.Rows L2 Dl Mt ClX
instance : Inhabited Gate := ⟨⟨.add, 0, 0⟩⟩
section
variable {P : Program} {w : World} {K : PySem.W.Frag} {mg : Str → Option Value} {base : Heap}
/-- a gate -/
abbrev iG (K : PySem.W.Frag) (g : Gate) : RV := rTup K [iS g.k.wd, iI (g.a : Int), iI g.b]
theorem e_word {X : Cx} {sl : List Ent} {x : Str} {pos : Pos} {z : Str} (h : ∃ t, X.mg x = some (.str z t)) (hg : Gl X x := by rfl) (hd : (x == ("__debug__" : Str)) = false := by decide) : Ev X (.Name x pos) sl (iS z) := by
  obtain ⟨t, h⟩ := h
  exact e_glob h (v := .str z) ⟨_, rfl⟩ (fun _ => ⟨_, rfl, rfl⟩) hg hd
/-- a word compared with another one -/
theorem t_wd {X : Cx} {sl : List Ent} {a b : Expr} {pos : Pos} {k l : Mt.Kind} (ha : Ev X a sl (iS k.wd)) (hb : Ev X b sl (iS l.wd)) : EvT X (.Compare a [.Eq] [b] pos) sl (fun z => z = decide (k = l)) :=
  t_eqS ha hb fun x y h1 h2 => by
    rw [h1, h2, decide_eq_decide]
    exact ⟨wd_inj, fun e => by rw [e]⟩
theorem t_wdN {X : Cx} {sl : List Ent} {a b : Expr} {pos : Pos} {k l : Mt.Kind} (ha : Ev X a sl (iS k.wd)) (hb : Ev X b sl (iS l.wd)) : EvT X (.Compare a [.NotEq] [b] pos) sl (fun z => z = !decide (k = l)) :=
  t_neS ha hb fun x y h1 h2 => by
    rw [h1, h2]
    congr 1
    rw [decide_eq_decide]
    exact ⟨wd_inj, fun e => by rw [e]⟩
def F_is_gate (K : PySem.W.Frag) : Fn (Nat × Gate) := ⟨["lanes", "value"], fun z => [iI (z.1 : Int), iG K z.2], fun z => z.2.Ok z.1, fun _ => .v (iB true)⟩
theorem h_is_gate (T : Txt K mg) : Has P w K mg base 4 "is_gate" (F_is_gate K) := by
  refine has_df T.d_is_gate sc_is_gate b_is_gate rfl (fun _ => rfl) (k := 3) ?_
  intro f cdv A outer s H E z B L D hr hp hM q hN
  obtain ⟨n, g⟩ := z
  replace hp : g.Ok n := hp
  have ha : 0 ≤ (g.a : Int) ∧ (g.a : Int) < n := ⟨by omega, by have := hp.a; omega⟩
  refine w_ifNot (t_or (t_not (t_val (e_isi (e_var 1) ty_tup (e_bty (n := "tuple") (T.f "tuple") (by decide +kernel)) (T.f "isinstance") (kit_ty (r := true) (by decide +kernel))))) fun _ =>
    t_or (t_neI (P := fun z => z = false) (e_lenT (e_var 1) (T.f "len")) e_int fun x y h1 h2 => by rw [h1, h2]; rfl) fun _ =>
    t_or (t_not (t_val (e_isi (e_ixT (e_var 1) e_int rfl) ty_str (e_bty (n := "str") (T.f "str") (by decide +kernel)) (T.f "isinstance") (kit_ty (r := true) (by decide +kernel))))) fun _ =>
    t_or1 (t_not (t_val (e_call (h_is_lane T) hr ((n : Int), (g.a : Int)) (a2 (e_var 0) (e_ixT (e_var 1) e_int rfl)) trivial).v))).t (fun h => ?_) ?_
  · rcases h with ⟨_, ⟨_, ⟨_, h⟩ | ⟨h, _⟩⟩ | ⟨h, _⟩⟩ | ⟨h, _⟩
    · rw [decide_eq_true ha] at h; cases h
    · cases h
    · cases h
    · cases h
  · refine w_if (t_wd (l := .add) (e_ixT (e_var 1) e_int rfl) (e_word T.add)) (fun h => ?_) (fun h => ?_)
    · exact w_ret (r := .v (iB true)) (e_call (h_is_integer T) (hr.mono (by decide)) g.b (a1 (e_ixT (e_var 1) e_int rfl)) trivial).v hM q
    · refine w_end ?_
      have hk : g.k ≠ .add := of_decide_eq_false h.symm
      obtain ⟨b0, b1, b2⟩ := hp.b hk
      obtain ⟨pa, hpa, hsq⟩ := T.paired
      refine w_ret (r := .v (iB true)) (Ev.bool (e_and (P := fun z => z = true) (e_cmp op_in_seq (by rfl) (e_ixT (e_var 1) e_int rfl) (e_glob hpa (v := .ref pa) (R := rTup K ((["low", "high", "sort", "copy"] : List Str).map iS)) rfl fun G => ⟨pa, _, rfl, hsq G, PVs.ofStrs _⟩) ?_) fun _ =>
        e_and (e_call (h_is_lane T) hr ((n : Int), g.b) (a2 (e_var 0) (e_ixT (e_var 1) e_int rfl)) trivial).v fun _ => e_one (e_neI (P := fun z => z = true) (e_ixT (e_var 1) e_int rfl) (e_ixT (e_var 1) e_int rfl) fun x y h1 h2 => ?_)) ?_) hM q
      · rintro x y G H Q sm ⟨wd, rfl, rfl⟩ ⟨a, vs, rfl, h1, h2⟩ k
        have e2 := h2.strs
        subst e2
        refine ⟨a, _, rfl, .inr (Dl.Same.tup sm h1), rfl, rfl, k _ G H (.refl sm) ⟨_, rfl, ?_⟩⟩
        revert hk
        cases g.k <;> intro hk <;> first | decide +kernel | exact absurd rfl hk
      · rw [h1, h2, decide_eq_false b2]; rfl
      · rintro z (⟨_, ⟨_, h⟩ | ⟨h, _⟩⟩ | ⟨h, _⟩)
        · exact h
        · rw [decide_eq_true (show 0 ≤ g.b ∧ g.b < (n : Int) from ⟨b0, b1⟩)] at h; cases h
        · cases h
/-- a list or a tuple of gates -/
abbrev rSG (K : PySem.W.Frag) (b : Bool) (gs : List Gate) : RV := rSq K b (gs.map (iG K))
def F_want_gates (K : PySem.W.Frag) : Fn (Nat × Bool × List Gate) := ⟨["lanes", "gates"], fun z => [iI (z.1 : Int), rSG K z.2.1 z.2.2], fun z => ∀ g ∈ z.2.2, g.Ok z.1, fun _ => .v iN⟩
theorem h_want_gates (T : Txt K mg) : Has P w K mg base 5 "want_gates" (F_want_gates K) := by
  refine has_df T.d_want_gates sc_want_gates b_want_gates rfl (fun _ => rfl) (k := 4) ?_
  intro f cdv A outer s H E z B L D hr hp hM q hN
  obtain ⟨n, t, gs⟩ := z
  replace hp : ∀ g ∈ gs, g.Ok n := hp
  show Wp _ B L _ D [.val (iI (n : Int)), .val (rSG K t gs), .no, .no]
  refine w_ifNot (t_not (t_val (e_call (h_is_list T) (hr.mono (by decide)) (rSG K t gs) (a1 (e_var 1)) (by exact ty_sq)).v)) (fun h => nomatch h) ?_
  refine w_forES 2 3 sc_want_gates.nd (e_var 1) (T.f "enumerate") (fun _ sl => ∃ a b, sl = [.val (iI (n : Int)), .val (rSG K t gs), a, b]) ⟨_, _, rfl⟩ ?_ ?_
  · rintro i g L' sl' hi ⟨a, b, rfl⟩
    refine w_ifNot (t_not (t_val (e_call (h_is_gate T) hr (n, g) (a2 (e_var 0) (e_var 3)) (hp g (List.mem_of_getElem? hi))).v)) (fun h => nomatch h) ?_
    exact w_turn' ⟨_, _, rfl⟩
  · rintro sl' ⟨a, b, rfl⟩
    exact w_none hM q hN
def F_want_few : Fn Int := ⟨["many"], fun n => [iI n], fun n => n ≤ 400, fun _ => .v iN⟩
theorem h_want_few (T : Txt K mg) : Has P w K mg base 1 "want_few" F_want_few := by
  refine has_df T.d_want_few sc_want_few b_want_few rfl (fun _ => rfl) (k := 0) ?_
  intro f cdv A outer s H E n B L D hr hp hM q hN
  replace hp : n ≤ 400 := hp
  obtain ⟨mc, c1, _, t, c2⟩ := T.crd
  refine w_ifNot (t_gtP (P := fun z => z = false) (e_var 0) (e_cval T.net c1 c2 (R := iI 400) fun _ => ⟨_, rfl, rfl⟩) fun x y h1 h2 => ?_) (fun h => nomatch h) (w_none hM q hN)
  rw [h1, h2]
  exact decide_eq_false (by omega)
end
end LT


set_option Elab.async false
set_option linter.all false
set_option maxRecDepth 100000
set_option maxHeartbeats 2000000
namespace LT
open PySem PySem.Spec PyProof.Rows L2 Dl Mt ClX
section
variable {P : Program} {w : World} {K : PySem.W.Frag} {mg : Str → Option Value} {base : Heap}
theorem atI_int {xs : List Int} {j : Nat} (h : j < xs.length) : atI (xs.map iI) (j : Int) = some (iI (xs.getD j 0)) :=
  atI_nat (by rw [List.getElem?_map, List.getElem?_eq_getElem h, List.getD_eq_getElem?_getD, List.getElem?_eq_getElem h]; rfl)
theorem set_iI {xs : List Int} {j : Nat} {x : Int} : (xs.map iI).set j (iI x) = (xs.set j x).map iI := by rw [List.map_set]
theorem sort2 {x y : Int} {ms : List Int} (h1 : ms.Perm [x, y]) (h2 : ms.Pairwise (· ≤ ·)) : ms = [min x y, max x y] := by
  have h0 : [min x y, max x y].Perm [x, y] := by
    rcases Int.le_total x y with q | q
    · rw [Int.min_eq_left q, Int.max_eq_right q]
    · rw [Int.min_eq_right q, Int.max_eq_left q]; exact List.Perm.swap ..
  have h3 : [min x y, max x y].Pairwise (· ≤ ·) := by
    refine List.pairwise_cons.mpr ⟨fun z hz => ?_, List.pairwise_singleton ..⟩
    rw [List.mem_singleton] at hz
    subst hz
    omega
  exact List.Perm.eq_of_pairwise (fun a b _ _ h h' => Int.le_antisymm h h') h2 h3 (h1.trans h0.symm)
def F_do_gate (K : PySem.W.Frag) : FnM (Gate × List Int) := ⟨["here", "gate"], fun z => oL (z.2.map iI), fun z => [iG K z.1], fun z => z.1.Ok z.2.length, fun z => oL ((doG z.1 z.2).map iI)⟩
theorem h_do_gate (T : Txt K mg) : HasM P w K mg base 1 "do_gate" (F_do_gate K) := by
  refine hasM_df T.d_do_gate sc_do_gate b_do_gate rfl (fun _ => rfl) (by decide) (k := 0) ?_
  intro f cdv A outer s H E z p B L D hr hp hN
  obtain ⟨g, xs⟩ := z
  replace hp : g.Ok xs.length := hp
  have fin : ∀ (X : Cx) (ys : List Int) (es : List Ent), ys = doG g xs → Wp X B L [] D (.mu (oT (fun a => a = p ∧ True) (ys.map iI)) :: es) := fun X ys es e =>
    w_fallM (O := oL (ys.map iI)) hN (by rw [tie_oT]; rfl) fun G a o h => by rw [e] at h; exact h
  show Wp _ B L _ D (.mu (tie p (oL (xs.map iI))) :: _)
  rw [show tie p (oL (xs.map iI)) = oT (fun a => a = p ∧ True) (xs.map iI) from tie_oT]
  have h0 := hp.a
  refine w_un3 2 3 4 rfl sc_do_gate.nd (e_var 1) ?_
  have rlane : ∀ {X : Cx} {sl : List Ent} {pos : Pos}, True := trivial
  refine w_if (t_wd (l := .add) (e_var 2) (e_word T.add)) (fun h => ?_) (fun h => ?_)
  · have hk : g.k = .add := of_decide_eq_true h.symm
    refine w_store 0 rfl (R := iI (xs.getD g.a 0 + g.b)) (e_addP (e_ixO 0 rfl (e_var 3) (atI_int h0)) (e_var 4) fun x y h1 h2 => by rw [h1, h2]) (e_var 3) (by rw [List.length_map]; exact h0) ?_
    refine w_end ?_
    rw [set_iI]
    refine fin _ _ _ ?_
    unfold doG
    rw [hk]
  · have hk : g.k ≠ .add := of_decide_eq_false h.symm
    obtain ⟨b0, b1, b2⟩ := hp.b hk
    obtain ⟨b, hb⟩ : ∃ b : Nat, g.b = (b : Int) := ⟨g.b.toNat, by omega⟩
    have hbl : b < xs.length := by omega
    have hbt : g.b.toNat = b := by omega
    rw [hb]
    refine w_if (t_wd (l := .copy) (e_var 2) (e_word T.copy)) (fun h => ?_) (fun h => ?_)
    · have hk : g.k = .copy := of_decide_eq_true h.symm
      refine w_store 0 rfl (R := iI (xs.getD b 0)) (e_ixO 0 rfl (e_var 4) (atI_int hbl)) (e_var 3) (by rw [List.length_map]; exact h0) ?_
      refine w_end (w_end ?_)
      rw [set_iI]
      refine fin _ _ _ ?_
      unfold doG
      rw [hk, hbt]
    · have hk2 : g.k ≠ .copy := of_decide_eq_false h.symm
      refine w_unl2 (R1 := iI (min (xs.getD g.a 0) (xs.getD b 0))) (R2 := iI (max (xs.getD g.a 0) (xs.getD b 0))) 5 6 rfl sc_do_gate.nd (Ev.imp (e_sortedI (ns := [xs.getD g.a 0, xs.getD b 0]) (e_lst (a2 (e_ixO 0 rfl (e_var 3) (atI_int h0)) (e_ixO 0 rfl (e_var 4) (atI_int hbl))) (by show 2 ≤ 100000; decide)).lst (T.f "sorted") (by show 2 < 64; decide)).xl ?_) ?_
      · rintro G v ⟨ms, ⟨h1, h2⟩, r⟩
        rw [sort2 h1 h2] at r
        exact r
      · refine w_store 0 rfl (R := iI (if g.k = .high then max (xs.getD g.a 0) (xs.getD b 0) else min (xs.getD g.a 0) (xs.getD b 0))) (e_if (t_wd (l := .high) (e_var 2) (e_word T.high)) (fun h => ?_) (fun h => ?_)) (e_var 3) (by rw [List.length_map]; exact h0) ?_
        · rw [if_pos (of_decide_eq_true h.symm)]; exact e_var 6
        · rw [if_neg (of_decide_eq_false h.symm)]; exact e_var 5
        · rw [set_iI]
          refine w_if (t_wd (l := .sort) (e_var 2) (e_word T.sort)) (fun h => ?_) (fun h => ?_)
          · have hk3 : g.k = .sort := of_decide_eq_true h.symm
            refine w_store 0 rfl (R := iI (max (xs.getD g.a 0) (xs.getD b 0))) (e_var 6) (e_var 4) (by rw [List.length_map, List.length_set]; exact hbl) ?_
            rw [set_iI]
            refine w_end (w_end (w_end ?_))
            refine fin _ _ _ ?_
            unfold doG
            rw [hk3, hbt]
            rfl
          · have hk3 : g.k ≠ .sort := of_decide_eq_false h.symm
            refine w_end (w_end (w_end ?_))
            refine fin _ _ _ ?_
            unfold doG
            rw [hbt]
            revert hk hk2 hk3
            cases g.k <;> intro hk hk2 hk3 <;> first | rfl | exact absurd rfl hk | exact absurd rfl hk2 | exact absurd rfl hk3
end
end LT


set_option Elab.async false
set_option linter.all false
set_option maxRecDepth 100000
set_option maxHeartbeats 2000000
namespace LT
open PySem PySem.Spec PyProof.Rows L2 Dl Mt ClX
section
variable {P : Program} {w : World} {K : PySem.W.Frag} {mg : Str → Option Value} {base : Heap}
theorem take_succ {α : Type} {l : List α} {i : Nat} {x : α} (h : l[i]? = some x) : l.take (i + 1) = l.take i ++ [x] := by
  rw [List.take_add_one, h]; rfl
theorem runG_take {gs : List Gate} {i : Nat} {g : Gate} {xs : List Int} (h : gs[i]? = some g) : runG (gs.take (i + 1)) xs = doG g (runG (gs.take i) xs) := by
  unfold runG
  rw [take_succ h, List.foldl_append]
  rfl
def F_told_by (K : PySem.W.Frag) : Fn (Bool × List Gate × Bool × List Int) := ⟨["gates", "content"], fun z => [rSG K z.1 z.2.1, rSI K z.2.2.1 z.2.2.2], fun z => ∀ g ∈ z.2.1, g.Ok z.2.2.2.length, fun z => .l ((runG z.2.1 z.2.2.2).map iI)⟩
theorem h_told_by (T : Txt K mg) : Has P w K mg base 2 "told_by" (F_told_by K) := by
  refine has_df T.d_told_by sc_told_by b_told_by rfl (fun _ => rfl) (k := 1) ?_
  intro f cdv A outer s H E z B L D hr hp hM q hN
  obtain ⟨tg, gs, tx, xs⟩ := z
  replace hp : ∀ g ∈ gs, g.Ok xs.length := hp
  show Wp _ B L _ D [.val (rSG K tg gs), .val (rSI K tx xs), .no, .no]
  refine w_setOwn 2 (e_listS (e_var 1) (T.f "list")) sc_told_by.nd ?_
  refine w_forS 3 sc_told_by.nd (e_var 0) (fun i sl => ∃ a, sl = [.val (rSG K tg gs), .val (rSI K tx xs), .own ((runG (gs.take i) xs).map iI), a]) ⟨_, rfl⟩ ?_ ?_
  · rintro i g L' sl' hi ⟨a, rfl⟩
    refine w_callM 2 (h_do_gate T) hr (g, runG (gs.take i) xs) rfl (a1 (e_var 3)) (by show g.Ok _; rw [runG_len]; exact hp g (List.mem_of_getElem? hi)) ?_
    refine w_turn' ?_
    dsimp only
    rw [runG_take hi]
    exact ⟨_, rfl⟩
  · rintro sl' ⟨a, rfl⟩
    refine w_retOwn 2 rfl hM ?_
    rw [List.take_length]
    exact q
/-! ### nets -/
abbrev nC (K : PySem.W.Frag) : Addr := He.ga K "Net"
abbrev nF (K : PySem.W.Frag) (n : Nat) (gs : List Gate) : List (Str × RV) := [("own_lanes", iI (n : Int)), ("own_gates", rTup K (gs.map (iG K)))]
abbrev iNet (K : PySem.W.Frag) (n : Nat) (gs : List Gate) : RV := rIns (nC K) (nF K n gs)
structure NetOk (n : Nat) (gs : List Gate) : Prop where
  n1 : 1 ≤ n
  n2 : n ≤ 12
  few : gs.length ≤ 400
  ok : ∀ g ∈ gs, g.Ok n
def F_init (K : PySem.W.Frag) : FnM (Nat × Bool × List Gate) := ⟨["self", "lanes", "gates"], fun _ => oI (nC K) [], fun z => [iI (z.1 : Int), rSG K z.2.1 z.2.2], fun z => NetOk z.1 z.2.2, fun z => oI (nC K) (nF K z.1 z.2.2)⟩
theorem bd_init (T : Txt K mg) {f : Addr} : BodyM P w K mg base "Net.__init__" s_Net_init f N_Net_init 5 (F_init K) := by
  intro cdv A outer s H E z p B L D hr hp hN
  obtain ⟨n, tg, gs⟩ := z
  replace hp : NetOk n gs := hp
  obtain ⟨mc, c1, ⟨t, c2⟩, _⟩ := T.crd
  show Wp _ B L _ D [.mu (tie p (oI (nC K) [])), .val (iI (n : Int)), .val (rSG K tg gs)]
  have n1 := hp.n1
  have n2 := hp.n2
  refine w_ifNot (t_or (t_not (t_val (e_call (h_is_count T) (hr.mono (by decide)) (n : Int) (a1 (e_var 1)) trivial).v)) fun _ => t_or1 (t_not (t_chain (P := fun z => z = true) op_le op_le e_int (e_var 1) (e_cval T.net c1 c2 (R := iI 12) fun _ => ⟨_, rfl, rfl⟩) ?_ ?_ (by with_unfolding_all rfl)))).t (fun h => ?_) ?_
  · intro x y h1 h2 h3
    subst h1 h2
    have := of_decide_eq_false h3
    omega
  · intro x y z h1 h2 h3 h4
    subst h1 h2 h3
    exact decide_eq_true (by omega)
  · rcases h with ⟨_, h⟩ | ⟨h, _⟩
    · cases h
    · rw [decide_eq_true (show (0 : Int) ≤ (n : Int) by omega)] at h; cases h
  refine w_expr (e_call (h_want_gates T) hr (n, tg, gs) (a2 (e_var 1) (e_var 2)) hp.ok).v ?_
  refine w_expr (e_call (h_want_few T) (hr.mono (by decide)) ((gs.map (iG K)).length : Int) (a1 (e_lenS (e_var 2) (T.f "len"))) (by show ((gs.map (iG K)).length : Int) ≤ 400; rw [List.length_map]; have := hp.few; omega)).v ?_
  refine w_fld 0 rfl (e_var 1) T.cls T.nL (by show 0 < 1000; decide) ?_
  refine w_fld 0 rfl (e_tupleS (e_var 2) (T.f "tuple")) T.cls T.nG (by show 1 < 1000; decide) ?_
  refine w_fallM (O := oI (nC K) (nF K n gs)) hN rfl fun G a o h => h
theorem h_Net (T : Txt K mg) : HasMk P w K mg base 6 (nC K) (F_init K) := by
  obtain ⟨f, fd, a, mk, hsq, F⟩ := T.make
  have hb : ∃ ds, Vals (([V.ref a] : List V).drop 1) ds ∧ Binds K fd ["self", "lanes", "gates"] ds := F.binds1 3 1 (fun e => nomatch e) rfl fun T kV doc pm an cdv ct us its h1 h2 => by
    match us, h1 with
    | [_, _, _], _ =>
      match its, h2 with
      | [_], _ => exact ⟨_, rfl, rfl⟩
  obtain ⟨ds, v1, b1⟩ := hb
  cases v1
  exact ⟨f, fd, mk, b1, fnOk_ofM (k := 5) F sc_Net_init (fun _ => rfl) (by decide) (bd_init T)⟩
theorem h_NetD (T : Txt K mg) : HasMkD P w K mg base 6 (nC K) (F_init K) [rTup K []] := by
  obtain ⟨f, fd, a, mk, hsq, F⟩ := T.make
  have hb : ∃ ds, Vals (([V.ref a] : List V).drop 0) ds ∧ Binds K fd ["self", "lanes", "gates"] ds := F.binds1 2 0 (fun e => nomatch e) rfl fun T kV doc pm an cdv ct us its h1 h2 => by
    match us, h1 with
    | [_, _], _ =>
      match its, h2 with
      | [_], _ => exact ⟨_, rfl, rfl⟩
  obtain ⟨ds, v1, b1⟩ := hb
  exact ⟨f, fd, [.ref a], ds, mk, v1, b1, fun G => .cons ⟨a, [], rfl, hsq G, .nil⟩ .nil, fnOk_ofM (k := 5) F sc_Net_init (fun _ => rfl) (by decide) (bd_init T)⟩
def F_lanes (K : PySem.W.Frag) : Fn (Nat × List Gate) := ⟨["self"], fun z => [iNet K z.1 z.2], fun _ => True, fun z => .v (iI (z.1 : Int))⟩
theorem h_lanes (T : Txt K mg) : HasPr P w K mg base 1 (nC K) "lanes" (F_lanes K) := by
  obtain ⟨q0, g, fd, hq, F⟩ := T.lanes
  refine ⟨q0, g, fd, hq, F.bindsN b_Net_lanes, fnOk_of (k := 0) F sc_Net_lanes (fun _ => rfl) ?_⟩
  intro cdv A outer s H E z B L D hr hp hM q hN
  exact w_ret (r := .v (iI (z.1 : Int))) (e_fld (e_var 0) T.cls T.nL rfl).r hM q
def F_gates (K : PySem.W.Frag) : Fn (Nat × List Gate) := ⟨["self"], fun z => [iNet K z.1 z.2], fun _ => True, fun z => .l (z.2.map (iG K))⟩
theorem h_gates (T : Txt K mg) : HasMe P w K mg base 1 (nC K) "gates" (F_gates K) := by
  obtain ⟨g, fd, hm, F⟩ := T.gates
  refine ⟨g, fd, hm, F.bindsN b_Net_gates, fnOk_of (k := 0) F sc_Net_gates (fun _ => rfl) ?_⟩
  intro cdv A outer s H E z B L D hr hp hM q hN
  exact w_ret (r := .l (z.2.map (iG K))) (e_listT (e_fld (e_var 0) T.cls T.nG rfl) (T.f "list")) hM q
end
end LT


set_option Elab.async false
set_option linter.all false
set_option maxRecDepth 100000
set_option maxHeartbeats 2000000
namespace LT
open PySem PySem.Spec PyProof.Rows L2 Dl Mt ClX
section
variable {P : Program} {w : World} {K : PySem.W.Frag} {mg : Str → Option Value} {base : Heap}
/-! ### the pot -/
abbrev drawPs : List Str := ["_law_pot_here", "_law_size"]
theorem h_draw (T : Txt K mg) : Has P w K mg base 1 "_law_draw" (F_draw drawPs) := by
  obtain ⟨f, fd, F, hm⟩ := T.d_Ldraw
  refine ⟨f, fd, hm, F.kp, F.bindsN b_Ldraw, fnOk_draw rfl (fnOk_ofV (F := draw1 drawPs) (N := N_Ldraw) (k := 0) F sc_Ldraw (fun _ => rfl) (by decide) ?_)⟩
  intro cdv A outer s H E m p B L D hr hp hR
  replace hp : 0 < m ∧ m < 1073741824 := hp
  have fin : ∀ (D' : Ends) (hD : D'.rt = D.rt) (X : Cx) (Rs : List RV) (es : List Ent) (e : Expr) (pos : Pos) (rest : List Stmt), (∀ G a o, (oL Rs).r G a o → (oL potRs).r G a o) → Ev X e (.mu (oT (fun a => a = p ∧ True) Rs) :: es) (rInt fun d => 0 ≤ d ∧ d < m) → Wp X B L (.Return (some e) pos :: rest) D' (.mu (oT (fun a => a = p ∧ True) Rs) :: es) := fun D' hD X Rs es e pos rest h1 h2 =>
    w_retV (O := oL Rs) (fun v σ G' H' sl O a b c d => by rw [hD]; exact hR v σ G' H' sl O a b c d) h2 (by rw [tie_oT]; rfl) h1
  show Wp _ B L _ D (.mu (tie p (oL potRs)) :: _)
  rw [show tie p (oL potRs) = oT (fun a => a = p ∧ True) potRs from tie_oT]
  show Wp _ B L _ D [.mu (oT (fun a => a = p ∧ True) [rInt fun x => 0 ≤ x, rInt fun y => 0 ≤ y ∧ y < 4294967296]), .val (iI m), .no]
  refine w_if (P := fun _ => True) (t_gtP (e_ixO 0 rfl e_int rfl) e_int fun _ _ _ _ => trivial) (fun _ => ?_) (fun _ => w_end ?_)
  · refine w_unSub 0 2 (j := 0) (R1 := rInt fun x => 0 ≤ x) (R2 := rInt fun d => 0 ≤ d ∧ d < m) rfl sc_Ldraw.nd rfl (e_divmodP (e_ixO 0 rfl e_int rfl) (e_var 1) (T.f "divmod") ?_) e_int (by decide) ?_
    · rintro x y h1 rfl
      exact ⟨hp, Int.ediv_nonneg h1 (by omega), Int.emod_nonneg _ (by omega), Int.emod_lt_of_pos _ hp.1⟩
    · refine fin _ (by rfl) _ _ _ _ _ _ (fun G a o h => h) ?_
      exact e_var 2
  · refine w_store 0 rfl (j := 1) (R := rInt fun y => 0 ≤ y ∧ y < 4294967296) (e_modP (e_int1 (e_addP (C := fun z => 0 ≤ z) (e_mulP (C := fun z => 0 ≤ z) (e_ixO 0 rfl e_int rfl) e_int ?_) e_int ?_) (T.f "int")) e_int ?_) e_int (by decide) ?_
    · rintro x y ⟨h1, h2⟩ rfl
      exact ⟨.inr ⟨by decide, by decide⟩, Int.mul_nonneg h1 (by decide)⟩
    · rintro x y h1 rfl
      omega
    · rintro x y h1 rfl
      exact ⟨by decide, Int.emod_nonneg _ (by decide), Int.lt_trans (Int.emod_lt_of_pos _ (by decide)) (by decide)⟩
    · refine fin _ (by rfl) _ _ _ _ _ _ (fun G a o h => h) ?_
      refine e_modP (A := fun z => True) (e_int1 (e_divP (C := fun _ => True) (e_modP (C := fun _ => True) (e_int1 (e_mulP (C := fun _ => True) (e_ixO 0 rfl e_int rfl) (e_ixO 0 rfl e_int rfl) ?_) (T.f "int")) e_int ?_) e_int ?_) (T.f "int")) (e_var 1) ?_
      · rintro x y ⟨h1, h2⟩ ⟨h3, h4⟩
        exact ⟨.inr ⟨by omega, by omega⟩, trivial⟩
      · rintro x y _ rfl
        exact ⟨by decide, trivial⟩
      · rintro x y _ rfl
        exact ⟨⟨by decide, by decide⟩, trivial⟩
      · rintro x y _ rfl
        exact ⟨hp.1, Int.emod_nonneg _ (by omega), Int.emod_lt_of_pos _ hp.1⟩
def F_pot (K : PySem.W.Frag) : Fn (List Int × Nat) := ⟨["_law_script", "_law_k"], fun z => [rInts K z.1, iI (z.2 : Int)], fun z => z.2 < 10, fun _ => .v iPot⟩
theorem h_pot (T : Txt K mg) : Has P w K mg base 1 "_law_pot" (F_pot K) := by
  obtain ⟨f, fd, F, hm⟩ := T.d_Lpot
  refine ⟨f, fd, hm, F.kp, F.bindsN b_Lpot, fnOk_mkpot (fnOk_of (F := ⟨["_law_script", "_law_k"], fun (z : List Int × Nat) => [rInts K z.1, iI (z.2 : Int)], fun z => z.2 < 10, fun _ => .l potRs⟩) (N := N_Lpot) (k := 0) F sc_Lpot (fun _ => rfl) ?_)⟩
  intro cdv A outer s H E z B L D hr hp hM q hN
  obtain ⟨xs, k⟩ := z
  replace hp : k < 10 := hp
  show Wp _ B L _ D [.val (rInts K xs), .val (iI (k : Int)), .no]
  refine w_set 2 (R := rInt fun x => 0 ≤ x) (e_if (P := fun z => z = decide (k < xs.length)) (t_ltP (e_var 1) (e_lenL (e_var 0) (T.f "len")) ?_) (fun h => ?_) (fun _ => ?_)) sc_Lpot.nd ?_
  · rintro x y rfl rfl
    rw [List.length_map, decide_eq_decide]
    omega
  · have hk : k < xs.length := of_decide_eq_true h.symm
    refine e_abs (e_ixL (e_var 0) (e_var 1) (atI_int hk)) (T.f "abs") fun x _ => ?_
    split <;> omega
  · refine e_addP (C := fun z => 0 ≤ z) (e_mulP (C := fun z => 0 ≤ z) e_int (e_var 1) ?_) e_int ?_
    · rintro x y rfl rfl
      exact ⟨.inl ⟨by decide, by decide⟩, by omega⟩
    · rintro x y h rfl
      omega
  · refine w_ret (r := .l potRs) (e_lst (a2 (e_max2 rfl e_int (e_subP (C := fun _ => True) (e_var 2) (e_powP (C := fun _ => True) e_int e_int ?_) fun _ _ _ _ => trivial) (T.f "max") ?_) (e_addP (A := fun z => 0 ≤ z ∧ z < 2147483648) (e_modP (A := fun _ => True) (e_int1 (e_addP (C := fun _ => True) (e_addP (C := fun _ => True) (e_mulP (C := fun _ => True) (e_modP (C := fun _ => True) (e_int1 (e_var 2) (T.f "int")) e_int ?_) e_int ?_) (e_mulP (C := fun _ => True) e_int (e_var 1) ?_) fun _ _ _ _ => trivial) e_int fun _ _ _ _ => trivial) (T.f "int")) e_int ?_) e_int ?_)) (by show 2 ≤ 100000; decide)) hM q
    · rintro x y rfl rfl
      exact ⟨⟨by decide, by decide, by decide⟩, trivial⟩
    · rintro x y rfl _
      split <;> omega
    · rintro x y _ rfl
      exact ⟨by decide, trivial⟩
    · rintro x y _ rfl
      exact ⟨.inr ⟨by decide, by decide⟩, trivial⟩
    · rintro x y rfl _
      exact ⟨.inl ⟨by decide, by decide⟩, trivial⟩
    · rintro x y _ rfl
      exact ⟨by decide, Int.emod_nonneg _ (by decide), Int.lt_trans (Int.emod_lt_of_pos _ (by decide)) (by decide)⟩
    · rintro x y ⟨h1, h2⟩ rfl
      omega
end
end LT


set_option Elab.async false
set_option linter.all false
set_option maxRecDepth 100000
set_option maxHeartbeats 2000000
namespace LT
open PySem PySem.Spec PyProof.Rows L2 Dl Mt ClX
section
variable {P : Program} {w : World} {K : PySem.W.Frag} {mg : Str → Option Value} {base : Heap}
/-- one of a list's items -/
def F_pick (K : PySem.W.Frag) : Fn (List RV × RV) := ⟨["_law_pot_here", "_law_some"], fun z => [iPot, rLst K z.1], fun z => 0 < z.1.length ∧ z.1.length < 1000 ∧ ∀ R ∈ z.1, R.le z.2, fun z => .v z.2⟩
theorem h_pick (T : Txt K mg) : Has P w K mg base 2 "_law_pick" (F_pick K) := by
  refine has_df T.d_Lpick sc_Lpick b_Lpick rfl (fun _ => rfl) (k := 1) ?_
  intro f cdv A outer s H E z B L D hr hp hM q hN
  obtain ⟨Rs, R⟩ := z
  obtain ⟨h1, h2, h3⟩ := hp
  replace h1 : 0 < Rs.length := h1
  replace h2 : Rs.length < 1000 := h2
  replace h3 : ∀ R' ∈ Rs, R'.le R := h3
  refine w_ret (r := .v R) (e_ixLP (e_var 1) (e_call (h_draw T) hr (Rs.length : Int) (a2 (e_var 0) (e_lenL (e_var 1) (T.f "len"))) ⟨by omega, by omega⟩).v ?_).r hM q
  rintro i ⟨i0, i1⟩
  obtain ⟨j, rfl⟩ : ∃ j : Nat, i = (j : Int) := ⟨i.toNat, by omega⟩
  have hj : j < Rs.length := by omega
  exact ⟨Rs[j], atI_nat (List.getElem?_eq_getElem hj), h3 _ (List.getElem_mem hj)⟩
theorem lG {c : Int} {C : Int → Prop} (h : C c) : (iI c).le (rInt C) := le_int fun z e => by rw [e]; exact h
theorem lk {n : Nat} (k : Mt.Kind) (h : n ≤ 1 → k = .add) : (iS k.wd).le (rX (fun k : Mt.Kind => n ≤ 1 → k = .add) fun k => iS k.wd) := le_in (R := fun k : Mt.Kind => iS k.wd) (x := k) h
theorem le_nil {Q : RV} : ∀ R ∈ ([] : List RV), R.le Q := fun R h => nomatch h
theorem le_cons {a Q : RV} {as : List RV} (h : a.le Q) (k : ∀ R ∈ as, R.le Q) : ∀ R ∈ a :: as, R.le Q := fun R hR => by
  cases hR with
  | head => exact h
  | tail _ hR => exact k R hR
/-- a gate whose number is small -/
abbrev Sm (g : Gate) : Prop := g.k = .add → -(10 ^ 20) ≤ g.b ∧ g.b ≤ 10 ^ 20
/-- a gate of so many lanes -/
def F_gate (K : PySem.W.Frag) : Fn Nat := ⟨["_law_pot_here", "_law_lanes_here"], fun n => [iPot, iI (n : Int)], fun n => 1 ≤ n ∧ n ≤ 12, fun n => .v (rX (fun g : Gate => g.Ok n ∧ Sm g) (iG K))⟩
theorem h_gate (T : Txt K mg) : Has P w K mg base 3 "_law_gate" (F_gate K) := by
  refine has_df T.d_Lgate sc_Lgate b_Lgate rfl (fun _ => rfl) (k := 2) ?_
  intro f cdv A outer s H E n B L D hr hp hM q hN
  obtain ⟨n1, n2⟩ := hp
  replace n1 : 1 ≤ n := n1
  replace n2 : n ≤ 12 := n2
  show Wp _ B L _ D [.val iPot, .val (iI (n : Int)), .no, .no]
  refine w_setX 2 (P := fun k : Mt.Kind => n ≤ 1 → k = .add) (R := fun k => iS k.wd) (e_if (P := fun z => z = decide (1 < n)) (t_gtP (e_var 1) e_int ?_) (fun h => ?_) (fun h => ?_)) sc_Lgate.nd ?_
  · rintro x y rfl rfl
    rw [decide_eq_decide]
    omega
  · have hn : 1 < n := of_decide_eq_true h.symm
    exact (e_call (h_pick T) hr ([iS "low", iS "high", iS "sort", iS "copy", iS "add"], rX (fun k : Mt.Kind => n ≤ 1 → k = .add) fun k => iS k.wd) (a2 (e_var 0) (e_lst (a_cons e_str (a_cons e_str (a_cons e_str (a2 e_str e_str)))) (by show 5 ≤ 100000; decide)).lst) ⟨by show 0 < 5; decide, by show 5 < 1000; decide, le_cons (lk .low fun h => absurd hn (Nat.not_lt.mpr h)) (le_cons (lk .high fun h => absurd hn (Nat.not_lt.mpr h)) (le_cons (lk .sort fun h => absurd hn (Nat.not_lt.mpr h)) (le_cons (lk .copy fun h => absurd hn (Nat.not_lt.mpr h)) (le_cons (lk .add fun _ => rfl) le_nil))))⟩).v
  · exact e_str.imp (lk .add fun _ => rfl)
  · intro k hk
    refine w_setX 3 (EvR.ofI (e_call (h_draw T) (hr.mono (by decide)) (n : Int) (a2 (e_var 0) (e_var 1)) ⟨by omega, by omega⟩).v) sc_Lgate.nd ?_
    rintro d ⟨d0, d1⟩
    obtain ⟨a, rfl⟩ : ∃ a : Nat, d = (a : Int) := ⟨d.toNat, by omega⟩
    refine w_if (t_wd (l := .add) (e_var 2) e_str) (fun h => ?_) (fun h => w_end ?_)
    · refine w_ret (r := .v _) (Ev.imp (e_tup (a_cons e_str (a2 (e_var 3) (e_call (h_pick T) hr ([rInt _, rInt _, rInt _, rInt _, rInt _, rInt _, rInt _], rInt fun z => -(10 ^ 20) ≤ z ∧ z ≤ 10 ^ 20) (a2 (e_var 0) (e_lst (a_cons e_int (a_cons e_int (a_cons (e_negP (C := fun z => z = -1) e_int fun x h => by rw [h]) (a_cons e_int (a_cons (e_negP (C := fun z => z = -9) e_int fun x h => by rw [h]) (a2 e_int (e_powP (C := fun z => z = 10 ^ 20) e_int e_int fun x y h1 h2 => by rw [h1, h2]; exact ⟨⟨by decide, by decide, by decide⟩, rfl⟩))))))) (by show 7 ≤ 100000; decide)).lst) ⟨by show 0 < 7; decide, by show 7 < 1000; decide, le_cons (lG (by decide)) (le_cons (lG (by decide)) (le_cons (lG (by decide)) (le_cons (lG (by decide)) (le_cons (lG (by decide)) (le_cons (lG (by decide)) (le_cons (lG (by decide)) le_nil))))))⟩).v)) (by show 3 ≤ 100000; decide)) ?_).r hM q
      · rintro G v ⟨l, vs, e, h1, h2⟩
        cases h2 with
        | cons k1 h2 => cases h2 with
          | cons k2 h2 => cases h2 with
            | cons k3 h2 =>
              obtain ⟨b, eb, hsm⟩ := k3
              refine ⟨⟨.add, a, b⟩, ⟨⟨by show a < n; omega, fun z => absurd rfl z⟩, fun _ => hsm⟩, l, _, e, h1, .cons k1 (.cons k2 (.cons ⟨b, eb, rfl⟩ h2))⟩
    · have hk2 : k ≠ .add := of_decide_eq_false h.symm
      have hn : 1 < n := by
        by_cases z : n ≤ 1
        · exact absurd (hk z) hk2
        · omega
      refine w_ret (r := .v _) (Ev.imp (e_tup (a_cons (e_var 2) (a2 (e_var 3) (e_modP (C := fun b => 0 ≤ b ∧ b < n ∧ (a : Int) ≠ b) (e_int1 (e_addP (C := fun z => (a : Int) + 1 ≤ z ∧ z < a + n) (e_addP (C := fun z => z = (a : Int) + 1) (e_var 3) e_int fun x y h1 h2 => by rw [h1, h2]) (e_call (h_draw T) (hr.mono (by decide)) ((n : Int) - 1) (a2 (e_var 0) (e_subP (C := fun z => z = (n : Int) - 1) (e_var 1) e_int fun x y h1 h2 => by rw [h1, h2])) ⟨by omega, by omega⟩).v ?_) (T.f "int")) (e_var 1) ?_))) (by show 3 ≤ 100000; decide)) ?_).r hM q
      · rintro x y rfl ⟨y0, y1⟩
        omega
      · rintro x y ⟨x0, x1⟩ rfl
        refine ⟨by omega, Int.emod_nonneg _ (by omega), Int.emod_lt_of_pos _ (by omega), ?_⟩
        by_cases c : x < n
        · rw [Int.emod_eq_of_lt (by omega) c]; omega
        · have e : x % n = x - n := by
            rw [← Int.sub_emod_right]
            exact Int.emod_eq_of_lt (by omega) (by omega)
          rw [e]; omega
      · rintro G v ⟨l, vs, e, h1, h2⟩
        cases h2 with
        | cons k1 h2 => cases h2 with
          | cons k2 h2 => cases h2 with
            | cons k3 h2 =>
              obtain ⟨b, eb, hb⟩ := k3
              exact ⟨⟨k, a, b⟩, ⟨⟨by show a < n; omega, fun _ => hb⟩, fun z => absurd z hk2⟩, l, _, e, h1, .cons k1 (.cons k2 (.cons ⟨b, eb, rfl⟩ h2))⟩
end
end LT


set_option Elab.async false
set_option linter.all false
set_option maxRecDepth 100000
set_option maxHeartbeats 2000000
namespace LT
open PySem PySem.Spec PyProof.Rows L2 Dl Mt ClX
section
variable {P : Program} {w : World} {K : PySem.W.Frag} {mg : Str → Option Value} {base : Heap}
theorem Paired.right {α β : Type} {F : α → β → Prop} : ∀ {xs : List α} {ys : List β}, Paired F xs ys → ∀ y ∈ ys, ∃ x, x ∈ xs ∧ F x y
  | _, _, .nil, y, h => nomatch h
  | x :: xs, z :: ys, .cons a t, y, h => by
    rcases List.mem_cons.mp h with e | h
    · subst e; exact ⟨x, List.mem_cons_self .., a⟩
    · obtain ⟨x', h1, h2⟩ := Paired.right t y h
      exact ⟨x', List.mem_cons_of_mem _ h1, h2⟩
theorem e_pw {X : Cx} {sl : List Ent} {a b : Expr} {pos : Pos} {c n r : Int} (ha : Ev X a sl (iI c)) (hb : Ev X b sl (iI n)) (h : CPow c n) (hr : c ^ n.toNat = r) : Ev X (.BinOp a .Pow b pos) sl (iI r) := e_powP ha hb fun x y h1 h2 => by rw [h1, h2]; exact ⟨h, hr⟩
/-- so many gates -/
def F_Lgates (K : PySem.W.Frag) : Fn (Nat × Nat) := ⟨["_law_pot_here", "_law_lanes_here", "_law_most"], fun z => [iPot, iI (z.1 : Int), iI (z.2 : Int)], fun z => 1 ≤ z.1 ∧ z.1 ≤ 12 ∧ z.2 ≤ 400, fun z => .x (fun gs : List Gate => gs.length ≤ z.2 ∧ (∀ g ∈ gs, g.Ok z.1) ∧ ∀ g ∈ gs, Sm g) fun gs => .l (gs.map (iG K))⟩
theorem h_Lgates (T : Txt K mg) : Has P w K mg base 4 "_law_gates" (F_Lgates K) := by
  refine has_df T.d_Lgates sc_Lgates b_Lgates rfl (fun _ => rfl) (k := 3) ?_
  intro f cdv A outer s H E z B L D hr hp hM q hN
  obtain ⟨n, m⟩ := z
  obtain ⟨n1, n2, n3⟩ := hp
  replace n1 : 1 ≤ n := n1
  replace n2 : n ≤ 12 := n2
  replace n3 : m ≤ 400 := n3
  show Wp _ B L _ D [.val iPot, .val (iI (n : Int)), .val (iI (m : Int)), .no]
  refine w_ret (EvR.ximp (EvR.opensX (P := fun _ _ g => g.Ok n ∧ Sm g) (R := iG K) (e_compRX 3 (fun _ _ => rX (fun g : Gate => g.Ok n ∧ Sm g) (iG K)) sc_Lgates.nd (e_call (h_draw T) (hr.mono (by decide)) ((m : Int) + 1) (a2 (e_var 0) (e_addP (C := fun z => z = (m : Int) + 1) (e_var 2) e_int fun x y h1 h2 => by rw [h1, h2])) ⟨by omega, by omega⟩).v (fun d hd => ⟨hd.1, by have := hd.2; omega⟩) (T.f "range") fun d i hd hi s H C cl fp => ?_) fun _ _ _ _ => fun G v h => h) ?_) hM q
  · exact (e_call (h_gate T) hr n (a2 (e_var 0) (e_var 1)) ⟨n1, n2⟩).v
  · rintro gs ⟨d, ⟨d0, d1⟩, pr⟩
    have hl := Paired.length pr
    rw [List.length_range] at hl
    have all : ∀ g ∈ gs, g.Ok n ∧ Sm g := fun g hg => by
      obtain ⟨_, _, h⟩ := Paired.right pr g hg
      exact h
    exact ⟨by show gs.length ≤ m; omega, fun g hg => (all g hg).1, fun g hg => (all g hg).2⟩
abbrev C0 : Int := 100000000000000000000000000004
/-- all numbers of a content at most so great -/
abbrev Wd (c : Int) (xs : List Int) : Prop := ∀ x ∈ xs, -c ≤ x ∧ x ≤ c
/-- a content of so many lanes -/
def F_Lcontent (K : PySem.W.Frag) : Fn Nat := ⟨["_law_pot_here", "_law_lanes_here"], fun n => [iPot, iI (n : Int)], fun n => n ≤ 12, fun n => .x (fun xs : List Int => xs.length = n ∧ Wd C0 xs) fun xs => .l (xs.map iI)⟩
theorem h_Lcontent (T : Txt K mg) : Has P w K mg base 3 "_law_content" (F_Lcontent K) := by
  refine has_df T.d_Lcontent sc_Lcontent b_Lcontent rfl (fun _ => rfl) (k := 2) ?_
  intro f cdv A outer s H E n B L D hr hp hM q hN
  replace hp : n ≤ 12 := hp
  show Wp _ B L _ D [.val iPot, .val (iI (n : Int)), .no, .no]
  refine w_setX 2 (P := fun k : Int => 1 ≤ k ∧ k ≤ 100000000000000000000000000000) (R := iI) (EvR.ofI (e_call (h_pick T) hr ([rInt _, rInt _, rInt _, rInt _, iI 100000000000000000000000000000], rInt fun k => 1 ≤ k ∧ k ≤ 100000000000000000000000000000) (a2 (e_var 0) (e_lst (a_cons e_int (a_cons e_int (a_cons e_int (a2 e_int ?pw)))) (by show 5 ≤ 100000; decide)).lst) ⟨by show 0 < 5; decide, by show 5 < 1000; decide, le_cons (lG (by decide)) (le_cons (lG (by decide)) (le_cons (lG (by decide)) (le_cons (lG (by decide)) (le_cons (lG (by decide)) le_nil))))⟩).v) sc_Lcontent.nd ?_
  case pw => exact e_pw (c := 10) (n := 29) (r := 100000000000000000000000000000) e_int e_int ⟨by decide, by decide, by decide⟩ (by decide +kernel)
  rintro k ⟨hk, hk2⟩
  have fin : ∀ {xs : List Int}, Paired (fun (_ : Nat) (x : Int) => -C0 ≤ x ∧ x ≤ C0) (List.range n) xs → xs.length = n ∧ Wd C0 xs := fun {xs} pr => by
    have hl := Paired.length pr
    rw [List.length_range] at hl
    exact ⟨by omega, fun x hx => by obtain ⟨_, _, h⟩ := Paired.right pr x hx; exact h⟩
  refine w_if (t_gtP (P := fun z => z = decide (30 < k)) (e_var 2) e_int fun x y h1 h2 => by rw [h1, h2]) (fun h => ?_) (fun h => w_end ?_)
  · refine w_ret (EvR.ximp (EvR.opens (P := fun _ x => -C0 ≤ x ∧ x ≤ C0) (R := iI) (e_compR 3 (fun _ => rInt fun x => -C0 ≤ x ∧ x ≤ C0) sc_Lcontent.nd (e_var 1) (by omega) (by omega) (T.f "range") fun i hi s H C cl fp => ?_) fun _ _ => le_xi) ?_) hM q
    · refine e_subP (e_addP (C := fun z => -100000000000000000000000000000 ≤ z ∧ z ≤ 100000000000000000000000000008) (e_mulP (C := fun z => -100000000000000000000000000000 ≤ z ∧ z ≤ 100000000000000000000000000000) (e_subP (C := fun x => -1 ≤ x ∧ x ≤ 1) (e_call (h_draw T) (hr.mono (by decide)) 3 (a2 (e_var 0) e_int) ⟨by decide, by decide⟩).v e_int fun x y h1 h2 => by rw [h2]; omega) (e_var 2) ?_) (e_call (h_draw T) (hr.mono (by decide)) 9 (a2 (e_var 0) e_int) ⟨by decide, by decide⟩).v ?_) e_int ?_
      · intro x y h1 h2
        refine ⟨.inl ⟨by omega, by omega⟩, ?_⟩
        rw [h2]
        have hx : x = -1 ∨ x = 0 ∨ x = 1 := by omega
        rcases hx with e | e | e <;> subst e <;> omega
      · intro x y h1 h2
        omega
      · intro x y h1 h2
        unfold C0
        omega
    · intro xs pr
      exact fin pr
  · have k30 : k ≤ 30 := by have := of_decide_eq_false h.symm; omega
    refine w_ret (EvR.ximp (EvR.opens (P := fun _ x => -C0 ≤ x ∧ x ≤ C0) (R := iI) (e_compR 3 (fun _ => rInt fun x => -C0 ≤ x ∧ x ≤ C0) sc_Lcontent.nd (e_var 1) (by omega) (by omega) (T.f "range") fun i hi s H C cl fp => ?_) fun _ _ => le_xi) ?_) hM q
    · exact e_subP (e_call (h_draw T) (hr.mono (by decide)) (2 * k) (a2 (e_var 0) (e_mulP (C := fun z => z = 2 * k) e_int (e_var 2) fun x y h1 h2 => by rw [h1, h2]; exact ⟨.inl ⟨by decide, by decide⟩, rfl⟩)) ⟨by omega, by omega⟩).v (e_var 2) fun x y h1 h2 => by unfold C0; omega
    · intro xs pr
      exact fin pr
end
end LT


set_option Elab.async false
set_option linter.all false
namespace Mt
open PySem
/-! ### where from -/
abbrev Org : Type := Nat × Int
def swapO (ks : List Org) (a b : Nat) : List Org := (ks.set a (ks.getD b (0, 0))).set b (ks.getD a (0, 0))
def passG (g : Gate) (xs : List Int) (ks : List Org) : List Org :=
  match g.k with
  | .add => ks.set g.a ((ks.getD g.a (0, 0)).1, (ks.getD g.a (0, 0)).2 + g.b)
  | .copy => ks.set g.a (ks.getD g.b.toNat (0, 0))
  | .low => if xs.getD g.b.toNat 0 < xs.getD g.a 0 then ks.set g.a (ks.getD g.b.toNat (0, 0)) else ks
  | .high => if xs.getD g.b.toNat 0 > xs.getD g.a 0 then ks.set g.a (ks.getD g.b.toNat (0, 0)) else ks
  | .sort => if xs.getD g.a 0 > xs.getD g.b.toNat 0 then swapO ks g.a g.b.toNat else ks
theorem passG_len (g : Gate) (xs : List Int) (ks : List Org) : (passG g xs ks).length = ks.length := by
  unfold passG swapO
  cases g.k <;> dsimp only <;> (try split) <;> simp
def orgG : List Gate → List Int → List Org → List Org
  | [], _, ks => ks
  | g :: gs, xs, ks => orgG gs (doG g xs) (passG g xs ks)
theorem orgG_len : ∀ (gs : List Gate) (xs : List Int) (ks : List Org), (orgG gs xs ks).length = ks.length
  | [], _, _ => rfl
  | g :: gs, xs, ks => by show (orgG gs (doG g xs) (passG g xs ks)).length = _; rw [orgG_len gs, passG_len]
/-- each lane from itself -/
def selfO (n : Nat) : List Org := (List.range n).map fun i => (i, 0)
theorem selfO_len (n : Nat) : (selfO n).length = n := by unfold selfO; simp
theorem getO_set {ks : List Org} {a i : Nat} {v : Org} (h : a < ks.length) : (ks.set a v).getD i (0, 0) = if i = a then v else ks.getD i (0, 0) := by
  rw [List.getD_eq_getElem?_getD, List.getD_eq_getElem?_getD, List.getElem?_set]
  by_cases e : i = a
  · subst e; simp [h]
  · rw [if_neg (fun z => e z.symm), if_neg e]
/-- at a lane -/
def passF (g : Gate) (x : Nat → Int) (o : Nat → Org) (i : Nat) : Org :=
  match g.k with
  | .add => if i = g.a then ((o g.a).1, (o g.a).2 + g.b) else o i
  | .copy => if i = g.a then o g.b.toNat else o i
  | .low => if x g.b.toNat < x g.a ∧ i = g.a then o g.b.toNat else o i
  | .high => if x g.b.toNat > x g.a ∧ i = g.a then o g.b.toNat else o i
  | .sort => if x g.a > x g.b.toNat then (if i = g.b.toNat then o g.a else if i = g.a then o g.b.toNat else o i) else o i
theorem passG_at {g : Gate} {xs : List Int} {ks : List Org} (h : g.Ok ks.length) (i : Nat) : (passG g xs ks).getD i (0, 0) = passF g (fun j => xs.getD j 0) (fun j => ks.getD j (0, 0)) i := by
  have ha := h.a
  unfold passG passF swapO
  cases e : g.k with
  | add => dsimp only; rw [getO_set ha]
  | copy => dsimp only; rw [getO_set ha]
  | low =>
    dsimp only
    by_cases c : xs.getD g.b.toNat 0 < xs.getD g.a 0
    · rw [if_pos c, getO_set ha]
      simp only [c, true_and]
    · rw [if_neg c, if_neg (fun z => c z.1)]
  | high =>
    dsimp only
    by_cases c : xs.getD g.b.toNat 0 > xs.getD g.a 0
    · rw [if_pos c, getO_set ha]
      simp only [c, true_and]
    · rw [if_neg c, if_neg (fun z => c z.1)]
  | sort =>
    have hb := h.b (by rw [e]; decide)
    dsimp only
    by_cases c : xs.getD g.a 0 > xs.getD g.b.toNat 0
    · rw [if_pos c, if_pos c, getO_set (by rw [List.length_set]; omega), getO_set ha]
    · rw [if_neg c, if_neg c]
/-- told rightly: each number is that of its first lane and more -/
def Tells (x0 : List Int) (xs : List Int) (ks : List Org) : Prop := ks.length = xs.length ∧ ∀ i, i < xs.length → (ks.getD i (0, 0)).1 < x0.length ∧ xs.getD i 0 = x0.getD (ks.getD i (0, 0)).1 0 + (ks.getD i (0, 0)).2
theorem pass_tells {g : Gate} {x0 xs : List Int} {ks : List Org} (h : g.Ok xs.length) (t : Tells x0 xs ks) : Tells x0 (doG g xs) (passG g xs ks) := by
  refine ⟨by rw [passG_len, doG_len]; exact t.1, fun i hi => ?_⟩
  rw [doG_len] at hi
  rw [doG_at h, passG_at (by rw [t.1]; exact h)]
  have ti := t.2 i hi
  have ta := t.2 g.a h.a
  have tb : g.k ≠ .add → _ := fun ne => t.2 g.b.toNat (by have := h.b ne; omega)
  unfold passF stepF
  cases e : g.k with
  | add =>
    dsimp only
    split
    · refine ⟨ta.1, ?_⟩
      have := ta.2
      show xs.getD g.a 0 + g.b = x0.getD (ks.getD g.a (0, 0)).1 0 + ((ks.getD g.a (0, 0)).2 + g.b)
      omega
    · exact ti
  | copy =>
    have tb := tb (by rw [e]; decide)
    dsimp only
    split
    · exact tb
    · exact ti
  | low =>
    have tb := tb (by rw [e]; decide)
    dsimp only
    by_cases c : xs.getD g.b.toNat 0 < xs.getD g.a 0
    · by_cases j : i = g.a
      · rw [if_pos j, if_pos ⟨c, j⟩, Int.min_eq_right (by omega)]; exact tb
      · rw [if_neg j, if_neg (fun z => j z.2)]; exact ti
    · rw [if_neg (fun z => c z.1)]
      by_cases j : i = g.a
      · rw [if_pos j, Int.min_eq_left (by omega), j]; exact ta
      · rw [if_neg j]; exact ti
  | high =>
    have tb := tb (by rw [e]; decide)
    dsimp only
    by_cases c : xs.getD g.b.toNat 0 > xs.getD g.a 0
    · by_cases j : i = g.a
      · rw [if_pos j, if_pos ⟨c, j⟩, Int.max_eq_right (by omega)]; exact tb
      · rw [if_neg j, if_neg (fun z => j z.2)]; exact ti
    · rw [if_neg (fun z => c z.1)]
      by_cases j : i = g.a
      · rw [if_pos j, Int.max_eq_left (by omega), j]; exact ta
      · rw [if_neg j]; exact ti
  | sort =>
    have tb := tb (by rw [e]; decide)
    dsimp only
    by_cases c : xs.getD g.a 0 > xs.getD g.b.toNat 0
    · rw [if_pos c]
      by_cases j : i = g.b.toNat
      · rw [if_pos j, if_pos j, Int.max_eq_left (by omega)]; exact ta
      · rw [if_neg j, if_neg j]
        by_cases l : i = g.a
        · rw [if_pos l, if_pos l, Int.min_eq_right (by omega)]; exact tb
        · rw [if_neg l, if_neg l]; exact ti
    · rw [if_neg c]
      by_cases j : i = g.b.toNat
      · rw [if_pos j, Int.max_eq_right (by omega), j]; exact tb
      · rw [if_neg j]
        by_cases l : i = g.a
        · rw [if_pos l, Int.min_eq_left (by omega), l]; exact ta
        · rw [if_neg l]; exact ti
end Mt


set_option Elab.async false
set_option linter.all false
namespace Mt
open PySem
theorem extO {ks ls : List Org} (hl : ks.length = ls.length) (h : ∀ i, i < ks.length → ks.getD i (0, 0) = ls.getD i (0, 0)) : ks = ls := by
  apply List.ext_getElem hl
  intro i h1 h2
  have := h i h1
  rwa [List.getD_eq_getElem?_getD, List.getD_eq_getElem?_getD, List.getElem?_eq_getElem h1, List.getElem?_eq_getElem h2] at this
theorem extI {ks ls : List Int} (hl : ks.length = ls.length) (h : ∀ i, i < ks.length → ks.getD i 0 = ls.getD i 0) : ks = ls := by
  apply List.ext_getElem hl
  intro i h1 h2
  have := h i h1
  rwa [List.getD_eq_getElem?_getD, List.getD_eq_getElem?_getD, List.getElem?_eq_getElem h1, List.getElem?_eq_getElem h2] at this
theorem getM {α : Type} {f : α → Org} {xs : List α} {i : Nat} (d : α) (h : i < xs.length) : (xs.map f).getD i (0, 0) = f (xs.getD i d) := by
  rw [List.getD_eq_getElem?_getD, List.getD_eq_getElem?_getD, List.getElem?_map, List.getElem?_eq_getElem h]; rfl
theorem selfO_at {n i : Nat} (h : i < n) : (selfO n).getD i (0, 0) = (i, 0) := by
  unfold selfO
  rw [List.getD_eq_getElem?_getD, List.getElem?_map, List.getElem?_eq_getElem (by rw [List.length_range]; exact h), List.getElem_range]; rfl
theorem Gate.Ok.bn {n : Nat} {g : Gate} (h : g.Ok n) (e : g.k ≠ .add) : g.b.toNat < n := by have := h.b e; omega
theorem Gate.Ok.ne {n : Nat} {g : Gate} (h : g.Ok n) (e : g.k ≠ .add) : g.a ≠ g.b.toNat := by have := h.b e; omega
theorem orgG_append : ∀ (gs hs : List Gate) (xs : List Int) (ks : List Org), orgG (gs ++ hs) xs ks = orgG hs (runG gs xs) (orgG gs xs ks)
  | [], _, _, _ => rfl
  | g :: gs, hs, xs, ks => orgG_append gs hs (doG g xs) (passG g xs ks)
theorem orgG_take {gs : List Gate} {i : Nat} {g : Gate} {xs : List Int} {ks : List Org} (h : gs[i]? = some g) : orgG (gs.take (i + 1)) xs ks = passG g (runG (gs.take i) xs) (orgG (gs.take i) xs ks) := by
  rw [List.take_add_one, h]
  show orgG (gs.take i ++ [g]) xs ks = _
  rw [orgG_append]
  rfl
theorem org_tells {x0 : List Int} : ∀ {gs : List Gate} {xs : List Int} {ks : List Org}, (∀ g ∈ gs, g.Ok xs.length) → Tells x0 xs ks → Tells x0 (runG gs xs) (orgG gs xs ks)
  | [], _, _, _, t => t
  | g :: gs, xs, ks, h, t => org_tells (gs := gs) (xs := doG g xs) (ks := passG g xs ks) (fun g' hg => by rw [doG_len]; exact h g' (List.mem_cons_of_mem _ hg)) (pass_tells (h g (List.mem_cons_self ..)) t)
theorem self_tells (xs : List Int) : Tells xs xs (selfO xs.length) := ⟨selfO_len _, fun i hi => by rw [selfO_at hi]; exact ⟨hi, by show xs.getD i 0 = xs.getD i 0 + 0; omega⟩⟩
/-- what the origins tell -/
theorem told_run {gs : List Gate} {xs : List Int} (h : ∀ g ∈ gs, g.Ok xs.length) : ((orgG gs xs (selfO xs.length)).map fun o => xs.getD o.1 0 + o.2) = runG gs xs := by
  have t := org_tells h (self_tells xs)
  have e1 : (orgG gs xs (selfO xs.length)).length = (runG gs xs).length := t.1
  refine extI (by rw [List.length_map]; exact e1) fun i hi => ?_
  rw [List.length_map, e1] at hi
  have e := (t.2 i hi).2
  rw [e, List.getD_eq_getElem?_getD, List.getElem?_map, List.getD_eq_getElem?_getD (l := orgG gs xs (selfO xs.length)), List.getElem?_eq_getElem (by omega)]
  rfl
theorem org_in {gs : List Gate} {xs : List Int} (h : ∀ g ∈ gs, g.Ok xs.length) : ∀ o ∈ orgG gs xs (selfO xs.length), o.1 < xs.length := fun o ho => by
  have t := org_tells h (self_tells xs)
  obtain ⟨i, hi, e⟩ := List.getElem_of_mem ho
  have := (t.2 i (by rw [← t.1]; exact hi)).1
  rw [List.getD_eq_getElem?_getD, List.getElem?_eq_getElem hi] at this
  rw [← e]
  exact this
/-! ### the same for raised contents -/
theorem pass_add {g : Gate} {xs : List Int} {ks : List Org} (h : g.Ok xs.length) (c : Int) : passG g (xs.map (· + c)) ks = passG g xs ks := by
  unfold passG
  cases e : g.k with
  | add => rfl
  | copy => rfl
  | low =>
    have hb := h.bn (by rw [e]; decide)
    dsimp only
    rw [getD_map hb, getD_map h.a]
    by_cases q : xs.getD g.b.toNat 0 < xs.getD g.a 0
    · rw [if_pos q, if_pos (by omega)]
    · rw [if_neg q, if_neg (by omega)]
  | high =>
    have hb := h.bn (by rw [e]; decide)
    dsimp only
    rw [getD_map hb, getD_map h.a]
    by_cases q : xs.getD g.b.toNat 0 > xs.getD g.a 0
    · rw [if_pos q, if_pos (by omega)]
    · rw [if_neg q, if_neg (by omega)]
  | sort =>
    have hb := h.bn (by rw [e]; decide)
    dsimp only
    rw [getD_map hb, getD_map h.a]
    by_cases q : xs.getD g.a 0 > xs.getD g.b.toNat 0
    · rw [if_pos q, if_pos (by omega)]
    · rw [if_neg q, if_neg (by omega)]
theorem org_add (c : Int) : ∀ {gs : List Gate} {xs : List Int} {ks : List Org}, (∀ g ∈ gs, g.Ok xs.length) → orgG gs (xs.map (· + c)) ks = orgG gs xs ks
  | [], _, _, _ => rfl
  | g :: gs, xs, ks, h => by
    have f : Fits (fun u => u + c) (g :: gs) xs := ⟨h, .inr ⟨c, rfl⟩⟩
    show orgG gs (doG g (xs.map (· + c))) (passG g (xs.map (· + c)) ks) = orgG gs (doG g xs) (passG g xs ks)
    rw [show doG g (xs.map (· + c)) = (doG g xs).map (· + c) from f.one, pass_add (h g (List.mem_cons_self ..))]
    exact org_add c (fun g' hg => by rw [doG_len]; exact h g' (List.mem_cons_of_mem _ hg))
/-! ### bounds -/
def Wee (n : Nat) (c : Int) (ks : List Org) : Prop := ∀ i, i < ks.length → (ks.getD i (0, 0)).1 < n ∧ -c ≤ (ks.getD i (0, 0)).2 ∧ (ks.getD i (0, 0)).2 ≤ c
theorem pass_wee {n : Nat} {c d : Int} {g : Gate} {xs : List Int} {ks : List Org} (h : g.Ok ks.length) (d0 : 0 ≤ d) (hs : g.k = .add → -d ≤ g.b ∧ g.b ≤ d) (b : Wee n c ks) : Wee n (c + d) (passG g xs ks) := by
  intro i hi
  rw [passG_len] at hi
  rw [passG_at h]
  have bi := b i hi
  have ba := b g.a h.a
  have bb : g.k ≠ .add → _ := fun ne => b g.b.toNat (h.bn ne)
  unfold passF
  cases e : g.k with
  | add =>
    have := hs e
    dsimp only
    split
    · exact ⟨ba.1, by dsimp only; omega, by dsimp only; omega⟩
    · exact ⟨bi.1, by omega, by omega⟩
  | copy =>
    have bb := bb (by rw [e]; decide)
    dsimp only
    split
    · exact ⟨bb.1, by omega, by omega⟩
    · exact ⟨bi.1, by omega, by omega⟩
  | low =>
    have bb := bb (by rw [e]; decide)
    dsimp only
    split
    · exact ⟨bb.1, by omega, by omega⟩
    · exact ⟨bi.1, by omega, by omega⟩
  | high =>
    have bb := bb (by rw [e]; decide)
    dsimp only
    split
    · exact ⟨bb.1, by omega, by omega⟩
    · exact ⟨bi.1, by omega, by omega⟩
  | sort =>
    have bb := bb (by rw [e]; decide)
    dsimp only
    split
    · split
      · exact ⟨ba.1, by omega, by omega⟩
      · split
        · exact ⟨bb.1, by omega, by omega⟩
        · exact ⟨bi.1, by omega, by omega⟩
    · exact ⟨bi.1, by omega, by omega⟩
theorem org_wee {n : Nat} {d : Int} (d0 : 0 ≤ d) : ∀ {gs : List Gate} {xs : List Int} {ks : List Org} {c : Int}, (∀ g ∈ gs, g.Ok ks.length) → (∀ g ∈ gs, g.k = .add → -d ≤ g.b ∧ g.b ≤ d) → Wee n c ks → Wee n (c + gs.length * d) (orgG gs xs ks)
  | [], _, _, c, _, _, b => by
    show Wee n (c + ((0 : Nat) : Int) * d) _
    rw [show c + ((0 : Nat) : Int) * d = c by omega]
    exact b
  | g :: gs, xs, ks, c, h, hs, b => by
    have := org_wee d0 (gs := gs) (xs := doG g xs) (ks := passG g xs ks) (c := c + d) (fun g' hg => by rw [passG_len]; exact h g' (List.mem_cons_of_mem _ hg)) (fun g' hg => hs g' (List.mem_cons_of_mem _ hg)) (pass_wee (h g (List.mem_cons_self ..)) d0 (hs g (List.mem_cons_self ..)) b)
    show Wee n (c + ((gs.length + 1 : Nat) : Int) * d) (orgG gs (doG g xs) (passG g xs ks))
    rw [show c + ((gs.length + 1 : Nat) : Int) * d = c + d + gs.length * d by rw [Int.natCast_add, Int.add_mul]; omega]
    exact this
theorem self_wee (n : Nat) : Wee n 0 (selfO n) := fun i hi => by
  rw [selfO_len] at hi
  rw [selfO_at hi]
  exact ⟨hi, Int.le_refl 0, Int.le_refl 0⟩
theorem Wee.mem {n : Nat} {c : Int} {ks : List Org} (b : Wee n c ks) : ∀ o ∈ ks, o.1 < n ∧ -c ≤ o.2 ∧ o.2 ≤ c := fun o ho => by
  obtain ⟨i, hi, e⟩ := List.getElem_of_mem ho
  have := b i hi
  rw [List.getD_eq_getElem?_getD, List.getElem?_eq_getElem hi] at this
  rw [← e]
  exact this
theorem plain_org {gs : List Gate} {xs : List Int} (h : ∀ g ∈ gs, g.Ok xs.length) (p : ∀ g ∈ gs, g.k ≠ .add) : ∀ o ∈ orgG gs xs (selfO xs.length), o.2 = 0 := fun o ho => by
  have := (org_wee (n := xs.length) (d := 0) (by decide) (gs := gs) (xs := xs) (ks := selfO xs.length) (by rw [selfO_len]; exact h) (fun g hg e => absurd e (p g hg)) (self_wee _)).mem o ho
  rw [show (0 : Int) + gs.length * 0 = 0 by omega] at this
  omega
/-! ### one net behind another -/
theorem pass_map {F : Org → Org} (hF : ∀ (o : Org) b, F (o.1, o.2 + b) = ((F o).1, (F o).2 + b)) {g : Gate} {xs : List Int} {ks : List Org} (h : g.Ok ks.length) : passG g xs (ks.map F) = (passG g xs ks).map F := by
  refine extO (by rw [passG_len, List.length_map, List.length_map, passG_len]) fun i hi => ?_
  rw [passG_len, List.length_map] at hi
  rw [passG_at (by rw [List.length_map]; exact h), getM (0, 0) (by rw [passG_len]; exact hi), passG_at h]
  have ei : (ks.map F).getD i (0, 0) = F (ks.getD i (0, 0)) := getM _ hi
  have ea : (ks.map F).getD g.a (0, 0) = F (ks.getD g.a (0, 0)) := getM _ h.a
  have eb : g.k ≠ .add → (ks.map F).getD g.b.toNat (0, 0) = F (ks.getD g.b.toNat (0, 0)) := fun ne => getM _ (h.bn ne)
  unfold passF
  cases e : g.k with
  | add =>
    dsimp only
    rw [ei, ea, ← hF]
    split <;> rfl
  | copy =>
    have eb := eb (by rw [e]; decide)
    dsimp only
    rw [ei, eb]
    split <;> rfl
  | low =>
    have eb := eb (by rw [e]; decide)
    dsimp only
    rw [ei, eb]
    split <;> rfl
  | high =>
    have eb := eb (by rw [e]; decide)
    dsimp only
    rw [ei, eb]
    split <;> rfl
  | sort =>
    have eb := eb (by rw [e]; decide)
    dsimp only
    rw [ei, eb, ea]
    split
    · split
      · rfl
      · split <;> rfl
    · rfl
theorem org_map {F : Org → Org} (hF : ∀ (o : Org) b, F (o.1, o.2 + b) = ((F o).1, (F o).2 + b)) : ∀ {gs : List Gate} {xs : List Int} {ks : List Org}, (∀ g ∈ gs, g.Ok ks.length) → orgG gs xs (ks.map F) = (orgG gs xs ks).map F
  | [], _, _, _ => rfl
  | g :: gs, xs, ks, h => by
    show orgG gs (doG g xs) (passG g xs (ks.map F)) = (orgG gs (doG g xs) (passG g xs ks)).map F
    rw [pass_map hF (h g (List.mem_cons_self ..))]
    exact org_map hF (fun g' hg => by rw [passG_len]; exact h g' (List.mem_cons_of_mem _ hg))
def thenO (near : List Org) (o : Org) : Org := ((near.getD o.1 (0, 0)).1, (near.getD o.1 (0, 0)).2 + o.2)
theorem org_then {gs hs : List Gate} {xs : List Int} (h : ∀ g ∈ hs, g.Ok xs.length) : orgG (gs ++ hs) xs (selfO xs.length) = (orgG hs (runG gs xs) (selfO xs.length)).map (thenO (orgG gs xs (selfO xs.length))) := by
  rw [orgG_append, ← org_map (fun o b => by unfold thenO; dsimp only; rw [Int.add_assoc]) (by rw [selfO_len]; exact h)]
  congr 1
  have hl : (orgG gs xs (selfO xs.length)).length = xs.length := by rw [orgG_len, selfO_len]
  refine extO (by rw [List.length_map, selfO_len]; exact hl) fun i hi => ?_
  rw [hl] at hi
  rw [getM (0, 0) (by rw [selfO_len]; exact hi), selfO_at hi]
  unfold thenO
  dsimp only
  rw [Int.add_zero]
/-! ### turned -/
def turnG (g : Gate) : Gate :=
  match g.k with
  | .add => ⟨.add, g.a, -g.b⟩
  | .sort => ⟨.sort, g.b.toNat, g.a⟩
  | .copy => g
  | .low => ⟨.high, g.a, g.b⟩
  | .high => ⟨.low, g.a, g.b⟩
theorem turn_ok {n : Nat} {g : Gate} (h : g.Ok n) : (turnG g).Ok n := by
  obtain ⟨k, a, b⟩ := g
  have h1 := h.a
  have h2 := h.b
  cases k with
  | add => exact ⟨h1, fun z => absurd rfl z⟩
  | sort =>
    have h2 := h2 (fun z => nomatch z)
    simp only at h1 h2
    exact ⟨by show b.toNat < n; omega, fun _ => ⟨by show (0 : Int) ≤ (a : Int); omega, by show (a : Int) < n; omega, by show ((b.toNat : Nat) : Int) ≠ (a : Int); omega⟩⟩
  | copy => exact h
  | low => exact ⟨h1, fun _ => h2 (fun z => nomatch z)⟩
  | high => exact ⟨h1, fun _ => h2 (fun z => nomatch z)⟩
theorem turn_sm {d : Int} {g : Gate} (h : g.k = .add → -d ≤ g.b ∧ g.b ≤ d) : (turnG g).k = .add → -d ≤ (turnG g).b ∧ (turnG g).b ≤ d := by
  obtain ⟨k, a, b⟩ := g
  cases k with
  | add =>
    intro _
    have := h rfl
    show -d ≤ -b ∧ -b ≤ d
    simp only at this
    omega
  | sort => intro z; cases z
  | copy => exact h
  | low => intro z; cases z
  | high => intro z; cases z
def negO (o : Org) : Org := (o.1, -o.2)
theorem do_turn {g : Gate} {xs : List Int} (h : g.Ok xs.length) : doG (turnG g) (xs.map (- ·)) = (doG g xs).map (- ·) := by
  refine extI (by rw [doG_len, List.length_map, List.length_map, doG_len]) fun i hi => ?_
  rw [doG_len, List.length_map] at hi
  rw [doG_at (turn_ok (by rw [List.length_map]; exact h)), getD_map (by rw [doG_len]; exact hi), doG_at h]
  have ei : (xs.map (- ·)).getD i 0 = - xs.getD i 0 := getD_map hi
  have ea : (xs.map (- ·)).getD g.a 0 = - xs.getD g.a 0 := getD_map h.a
  have eb : g.k ≠ .add → (xs.map (- ·)).getD g.b.toNat 0 = - xs.getD g.b.toNat 0 := fun ne => getD_map (h.bn ne)
  have ne := fun e => h.ne (n := xs.length) e
  obtain ⟨k, a, b⟩ := g
  simp only at ea eb ne
  cases k with
  | add =>
    show (if i = a then (xs.map (- ·)).getD a 0 + -b else (xs.map (- ·)).getD i 0) = -(if i = a then xs.getD a 0 + b else xs.getD i 0)
    rw [ei, ea]
    split <;> omega
  | copy =>
    have eb := eb (by decide)
    show (if i = a then (xs.map (- ·)).getD b.toNat 0 else (xs.map (- ·)).getD i 0) = -(if i = a then xs.getD b.toNat 0 else xs.getD i 0)
    rw [ei, eb]
    split <;> rfl
  | low =>
    have eb := eb (by decide)
    show (if i = a then max ((xs.map (- ·)).getD a 0) ((xs.map (- ·)).getD b.toNat 0) else (xs.map (- ·)).getD i 0) = -(if i = a then min (xs.getD a 0) (xs.getD b.toNat 0) else xs.getD i 0)
    rw [ei, eb, ea]
    split <;> omega
  | high =>
    have eb := eb (by decide)
    show (if i = a then min ((xs.map (- ·)).getD a 0) ((xs.map (- ·)).getD b.toNat 0) else (xs.map (- ·)).getD i 0) = -(if i = a then max (xs.getD a 0) (xs.getD b.toNat 0) else xs.getD i 0)
    rw [ei, eb, ea]
    split <;> omega
  | sort =>
    have eb := eb (by decide)
    have ne := ne (by decide)
    show (if i = ((a : Int)).toNat then max ((xs.map (- ·)).getD b.toNat 0) ((xs.map (- ·)).getD ((a : Int)).toNat 0) else if i = b.toNat then min ((xs.map (- ·)).getD b.toNat 0) ((xs.map (- ·)).getD ((a : Int)).toNat 0) else (xs.map (- ·)).getD i 0) = -(if i = b.toNat then max (xs.getD a 0) (xs.getD b.toNat 0) else if i = a then min (xs.getD a 0) (xs.getD b.toNat 0) else xs.getD i 0)
    rw [Int.toNat_natCast, ei, eb, ea]
    by_cases c : i = a
    · rw [if_pos c, if_neg (fun z => ne (c ▸ z)), if_pos c]; omega
    · rw [if_neg c, if_neg c]
      split <;> omega
theorem pass_turn {g : Gate} {xs : List Int} {ks : List Org} (h : g.Ok ks.length) (hl : ks.length = xs.length) : passG (turnG g) (xs.map (- ·)) (ks.map negO) = (passG g xs ks).map negO := by
  refine extO (by rw [passG_len, List.length_map, List.length_map, passG_len]) fun i hi => ?_
  rw [passG_len, List.length_map] at hi
  rw [passG_at (turn_ok (by rw [List.length_map]; exact h)), getM (0, 0) (by rw [passG_len]; exact hi), passG_at h]
  have oi : (ks.map negO).getD i (0, 0) = negO (ks.getD i (0, 0)) := getM _ hi
  have oa : (ks.map negO).getD g.a (0, 0) = negO (ks.getD g.a (0, 0)) := getM _ h.a
  have ob : g.k ≠ .add → (ks.map negO).getD g.b.toNat (0, 0) = negO (ks.getD g.b.toNat (0, 0)) := fun ne => getM _ (h.bn ne)
  have ea : (xs.map (- ·)).getD g.a 0 = - xs.getD g.a 0 := getD_map (by rw [← hl]; exact h.a)
  have eb : g.k ≠ .add → (xs.map (- ·)).getD g.b.toNat 0 = - xs.getD g.b.toNat 0 := fun ne => getD_map (by rw [← hl]; exact h.bn ne)
  have ne := fun e => h.ne (n := ks.length) e
  obtain ⟨k, a, b⟩ := g
  simp only at ea eb ne oa ob
  cases k with
  | add =>
    show (if i = a then (((ks.map negO).getD a (0, 0)).1, ((ks.map negO).getD a (0, 0)).2 + -b) else (ks.map negO).getD i (0, 0)) = negO (if i = a then ((ks.getD a (0, 0)).1, (ks.getD a (0, 0)).2 + b) else ks.getD i (0, 0))
    rw [oi, oa]
    split
    · unfold negO
      dsimp only
      rw [Int.neg_add]
    · rfl
  | copy =>
    have ob := ob (by decide)
    show (if i = a then (ks.map negO).getD b.toNat (0, 0) else (ks.map negO).getD i (0, 0)) = negO (if i = a then ks.getD b.toNat (0, 0) else ks.getD i (0, 0))
    rw [oi, ob]
    split <;> rfl
  | low =>
    have eb := eb (by decide)
    have ob := ob (by decide)
    show (if (xs.map (- ·)).getD b.toNat 0 > (xs.map (- ·)).getD a 0 ∧ i = a then (ks.map negO).getD b.toNat (0, 0) else (ks.map negO).getD i (0, 0)) = negO (if xs.getD b.toNat 0 < xs.getD a 0 ∧ i = a then ks.getD b.toNat (0, 0) else ks.getD i (0, 0))
    rw [oi, ob, eb, ea]
    by_cases c : xs.getD b.toNat 0 < xs.getD a 0 ∧ i = a
    · rw [if_pos c, if_pos ⟨by omega, c.2⟩]
    · rw [if_neg c, if_neg (fun z => c ⟨by omega, z.2⟩)]
  | high =>
    have eb := eb (by decide)
    have ob := ob (by decide)
    show (if (xs.map (- ·)).getD b.toNat 0 < (xs.map (- ·)).getD a 0 ∧ i = a then (ks.map negO).getD b.toNat (0, 0) else (ks.map negO).getD i (0, 0)) = negO (if xs.getD b.toNat 0 > xs.getD a 0 ∧ i = a then ks.getD b.toNat (0, 0) else ks.getD i (0, 0))
    rw [oi, ob, eb, ea]
    by_cases c : xs.getD b.toNat 0 > xs.getD a 0 ∧ i = a
    · rw [if_pos c, if_pos ⟨by omega, c.2⟩]
    · rw [if_neg c, if_neg (fun z => c ⟨by omega, z.2⟩)]
  | sort =>
    have eb := eb (by decide)
    have ob := ob (by decide)
    have ne := ne (by decide)
    show (if (xs.map (- ·)).getD b.toNat 0 > (xs.map (- ·)).getD ((a : Int)).toNat 0 then (if i = ((a : Int)).toNat then (ks.map negO).getD b.toNat (0, 0) else if i = b.toNat then (ks.map negO).getD ((a : Int)).toNat (0, 0) else (ks.map negO).getD i (0, 0)) else (ks.map negO).getD i (0, 0)) = negO (if xs.getD a 0 > xs.getD b.toNat 0 then (if i = b.toNat then ks.getD a (0, 0) else if i = a then ks.getD b.toNat (0, 0) else ks.getD i (0, 0)) else ks.getD i (0, 0))
    rw [Int.toNat_natCast, eb, ea, oi, ob, oa]
    by_cases c : xs.getD a 0 > xs.getD b.toNat 0
    · rw [if_pos c, if_pos (by omega)]
      by_cases d : i = a
      · rw [if_pos d, if_neg (fun z => ne (d ▸ z)), if_pos d]
      · rw [if_neg d, if_neg d]
        split <;> rfl
    · rw [if_neg c, if_neg (by omega)]
theorem org_turn : ∀ {gs : List Gate} {xs : List Int} {ks : List Org}, (∀ g ∈ gs, g.Ok ks.length) → ks.length = xs.length → orgG (gs.map turnG) (xs.map (- ·)) (ks.map negO) = (orgG gs xs ks).map negO
  | [], _, _, _, _ => rfl
  | g :: gs, xs, ks, h, hl => by
    have g0 := h g (List.mem_cons_self ..)
    show orgG (gs.map turnG) (doG (turnG g) (xs.map (- ·))) (passG (turnG g) (xs.map (- ·)) (ks.map negO)) = (orgG gs (doG g xs) (passG g xs ks)).map negO
    rw [pass_turn g0 hl, do_turn (by rw [← hl]; exact g0)]
    exact org_turn (fun g' hg => by rw [passG_len]; exact h g' (List.mem_cons_of_mem _ hg)) (by rw [passG_len, doG_len]; exact hl)
theorem self_neg (n : Nat) : (selfO n).map negO = selfO n := by
  unfold selfO
  rw [List.map_map]
  rfl
/-! ### renumbered -/
def movG (s : List Nat) (g : Gate) : Gate := ⟨g.k, s.getD g.a 0, if g.k = .add then g.b else (s.getD g.b.toNat 0 : Nat)⟩
structure Ordr (n : Nat) (s : List Nat) : Prop where
  len : s.length = n
  lt : ∀ i, i < n → s.getD i 0 < n
  inj : ∀ i j, i < n → j < n → s.getD i 0 = s.getD j 0 → i = j
def mvT (xs : List Int) (s : List Nat) : Nat → List Int
  | 0 => xs
  | i + 1 => (mvT xs s i).set (s.getD i 0) (xs.getD i 0)
theorem mvT_len (xs : List Int) (s : List Nat) : ∀ i, (mvT xs s i).length = xs.length
  | 0 => rfl
  | i + 1 => by show ((mvT xs s i).set _ _).length = _; rw [List.length_set, mvT_len]
theorem mvT_at {xs : List Int} {s : List Nat} (o : Ordr xs.length s) : ∀ i, i ≤ xs.length → ∀ j, j < i → (mvT xs s i).getD (s.getD j 0) 0 = xs.getD j 0
  | 0, _, j, h => by omega
  | i + 1, hi, j, h => by
    show ((mvT xs s i).set (s.getD i 0) (xs.getD i 0)).getD (s.getD j 0) 0 = _
    rw [getD_set (by rw [mvT_len]; exact o.lt i (by omega))]
    split
    · rename_i e
      rw [o.inj j i (by omega) (by omega) e]
    · rename_i e
      refine mvT_at o i (by omega) j ?_
      by_cases z : j = i
      · rw [z] at e; exact absurd rfl e
      · omega
/-- lane by lane -/
def Mov (s : List Nat) (xs ys : List Int) : Prop := ys.length = xs.length ∧ ∀ i, i < xs.length → ys.getD (s.getD i 0) 0 = xs.getD i 0
def shO (s : List Nat) (o : Org) : Org := (s.getD o.1 0, o.2)
def MovO (s : List Nat) (ks ls : List Org) : Prop := ls.length = ks.length ∧ ∀ i, i < ks.length → ls.getD (s.getD i 0) (0, 0) = shO s (ks.getD i (0, 0))
theorem mov_ok {n : Nat} {s : List Nat} (o : Ordr n s) {g : Gate} (h : g.Ok n) : (movG s g).Ok n := by
  refine ⟨o.lt _ h.a, fun ne => ?_⟩
  have ne : g.k ≠ .add := ne
  show 0 ≤ (if g.k = .add then g.b else ((s.getD g.b.toNat 0 : Nat) : Int)) ∧ (if g.k = .add then g.b else ((s.getD g.b.toNat 0 : Nat) : Int)) < n ∧ ((s.getD g.a 0 : Nat) : Int) ≠ (if g.k = .add then g.b else ((s.getD g.b.toNat 0 : Nat) : Int))
  rw [if_neg ne]
  have h1 := o.lt _ (h.bn ne)
  refine ⟨by omega, by omega, fun z => h.ne ne (o.inj _ _ h.a (h.bn ne) (by omega))⟩
theorem mov_sm {d : Int} {s : List Nat} {g : Gate} (h : g.k = .add → -d ≤ g.b ∧ g.b ≤ d) : (movG s g).k = .add → -d ≤ (movG s g).b ∧ (movG s g).b ≤ d := by
  intro e
  have e : g.k = .add := e
  show -d ≤ (if g.k = .add then g.b else ((s.getD g.b.toNat 0 : Nat) : Int)) ∧ (if g.k = .add then g.b else ((s.getD g.b.toNat 0 : Nat) : Int)) ≤ d
  rw [if_pos e]
  exact h e
theorem do_mov {s : List Nat} {g : Gate} {xs ys : List Int} (o : Ordr xs.length s) (h : g.Ok xs.length) (m : Mov s xs ys) : Mov s (doG g xs) (doG (movG s g) ys) := by
  refine ⟨by rw [doG_len, doG_len]; exact m.1, fun i hi => ?_⟩
  rw [doG_len] at hi
  rw [doG_at h, doG_at (mov_ok (by rw [m.1]; exact o) (by rw [m.1]; exact h))]
  have ei := m.2 i hi
  have ea := m.2 g.a h.a
  have eb : g.k ≠ .add → _ := fun ne => m.2 g.b.toNat (h.bn ne)
  have ja : (s.getD i 0 = s.getD g.a 0) = (i = g.a) := propext ⟨fun z => o.inj _ _ hi h.a z, fun z => by rw [z]⟩
  have jb : g.k ≠ .add → (s.getD i 0 = s.getD g.b.toNat 0) = (i = g.b.toNat) := fun ne => propext ⟨fun z => o.inj _ _ hi (h.bn ne) z, fun z => by rw [z]⟩
  unfold stepF movG
  cases e : g.k with
  | add =>
    dsimp only
    simp only [ja, ei, ea, if_true]
  | copy =>
    have eb := eb (by rw [e]; decide)
    simp only [reduceCtorEq, if_false, Int.toNat_natCast]
    simp only [ja, ei, eb]
  | low =>
    have eb := eb (by rw [e]; decide)
    simp only [reduceCtorEq, if_false, Int.toNat_natCast]
    simp only [ja, ei, eb, ea]
  | high =>
    have eb := eb (by rw [e]; decide)
    simp only [reduceCtorEq, if_false, Int.toNat_natCast]
    simp only [ja, ei, eb, ea]
  | sort =>
    have eb := eb (by rw [e]; decide)
    have jb := jb (by rw [e]; decide)
    simp only [reduceCtorEq, if_false, Int.toNat_natCast]
    simp only [ja, jb, ei, eb, ea]
theorem pass_mov {s : List Nat} {g : Gate} {xs ys : List Int} {ks ls : List Org} (o : Ordr xs.length s) (h : g.Ok xs.length) (hl : ks.length = xs.length) (m : Mov s xs ys) (p : MovO s ks ls) : MovO s (passG g xs ks) (passG (movG s g) ys ls) := by
  refine ⟨by rw [passG_len, passG_len]; exact p.1, fun i hi => ?_⟩
  rw [passG_len, hl] at hi
  rw [passG_at (g := g) (by rw [hl]; exact h), passG_at (mov_ok (by rw [p.1, hl]; exact o) (by rw [p.1, hl]; exact h))]
  have ea := m.2 g.a h.a
  have eb : g.k ≠ .add → _ := fun ne => m.2 g.b.toNat (h.bn ne)
  have oi := p.2 i (by rw [hl]; exact hi)
  have oa := p.2 g.a (by rw [hl]; exact h.a)
  have ob : g.k ≠ .add → _ := fun ne => p.2 g.b.toNat (by rw [hl]; exact h.bn ne)
  have ja : (s.getD i 0 = s.getD g.a 0) = (i = g.a) := propext ⟨fun z => o.inj _ _ hi h.a z, fun z => by rw [z]⟩
  have jb : g.k ≠ .add → (s.getD i 0 = s.getD g.b.toNat 0) = (i = g.b.toNat) := fun ne => propext ⟨fun z => o.inj _ _ hi (h.bn ne) z, fun z => by rw [z]⟩
  unfold passF movG
  cases e : g.k with
  | add =>
    dsimp only
    simp only [ja, oi, oa, if_true]
    split <;> rfl
  | copy =>
    have ob := ob (by rw [e]; decide)
    simp only [reduceCtorEq, if_false, Int.toNat_natCast]
    simp only [ja, oi, ob]
    split <;> rfl
  | low =>
    have eb := eb (by rw [e]; decide)
    have ob := ob (by rw [e]; decide)
    simp only [reduceCtorEq, if_false, Int.toNat_natCast]
    simp only [ja, oi, ob, eb, ea]
    split <;> rfl
  | high =>
    have eb := eb (by rw [e]; decide)
    have ob := ob (by rw [e]; decide)
    simp only [reduceCtorEq, if_false, Int.toNat_natCast]
    simp only [ja, oi, ob, eb, ea]
    split <;> rfl
  | sort =>
    have eb := eb (by rw [e]; decide)
    have ob := ob (by rw [e]; decide)
    have jb := jb (by rw [e]; decide)
    simp only [reduceCtorEq, if_false, Int.toNat_natCast]
    simp only [ja, jb, oi, oa, ob, eb, ea]
    split
    · split
      · rfl
      · split <;> rfl
    · rfl
theorem org_mov {s : List Nat} : ∀ {gs : List Gate} {xs ys : List Int} {ks ls : List Org}, Ordr xs.length s → (∀ g ∈ gs, g.Ok xs.length) → ks.length = xs.length → Mov s xs ys → MovO s ks ls → MovO s (orgG gs xs ks) (orgG (gs.map (movG s)) ys ls)
  | [], _, _, _, _, _, _, _, _, p => p
  | g :: gs, xs, ys, ks, ls, o, h, hl, m, p => by
    have g0 := h g (List.mem_cons_self ..)
    exact org_mov (gs := gs) (xs := doG g xs) (ys := doG (movG s g) ys) (ks := passG g xs ks) (ls := passG (movG s g) ys ls) (by rw [doG_len]; exact o) (fun g' hg => by rw [doG_len]; exact h g' (List.mem_cons_of_mem _ hg)) (by rw [passG_len, doG_len]; exact hl) (do_mov o g0 m) (pass_mov o g0 hl m p)
theorem self_mov {n : Nat} {s : List Nat} (o : Ordr n s) : MovO s (selfO n) (selfO n) := ⟨rfl, fun i hi => by
  rw [selfO_len] at hi
  rw [selfO_at hi, selfO_at (o.lt i hi)]
  rfl⟩
theorem org_ren {s : List Nat} {gs : List Gate} {xs : List Int} (o : Ordr xs.length s) (h : ∀ g ∈ gs, g.Ok xs.length) : ((List.range xs.length).map fun i => (orgG (gs.map (movG s)) (mvT xs s xs.length) (selfO xs.length)).getD (s.getD i 0) (0, 0)) = (orgG gs xs (selfO xs.length)).map (shO s) := by
  have m : Mov s xs (mvT xs s xs.length) := ⟨mvT_len .., fun i hi => mvT_at o _ (Nat.le_refl _) i hi⟩
  have p := org_mov o h (selfO_len _) m (self_mov o)
  refine extO (by rw [List.length_map, List.length_map, List.length_range, orgG_len, selfO_len]) fun i hi => ?_
  rw [List.length_map, List.length_range] at hi
  rw [getM 0 (by rw [List.length_range]; exact hi), getM (0, 0) (by rw [orgG_len, selfO_len]; exact hi)]
  rw [← p.2 i (by rw [orgG_len, selfO_len]; exact hi)]
  rw [List.getD_eq_getElem?_getD (l := List.range _), List.getElem?_eq_getElem (by rw [List.length_range]; exact hi), List.getElem_range]
  rfl
theorem ordr_of {n : Nat} {s : List Nat} (h : s.Perm (List.range n)) : Ordr n s := by
  have hl : s.length = n := by rw [h.length_eq, List.length_range]
  have nd : s.Nodup := h.symm.nodup_iff.mp List.nodup_range |> fun z => z
  refine ⟨hl, fun i hi => ?_, fun i j hi hj e => ?_⟩
  · have : s.getD i 0 ∈ s := by
      rw [List.getD_eq_getElem?_getD, List.getElem?_eq_getElem (by omega)]
      exact List.getElem_mem _
    exact List.mem_range.mp (h.mem_iff.mp this)
  · rw [List.getD_eq_getElem?_getD, List.getD_eq_getElem?_getD, List.getElem?_eq_getElem (by omega), List.getElem?_eq_getElem (by omega)] at e
    exact (List.getElem_inj nd).mp e
end Mt


set_option Elab.async false
set_option linter.all false
namespace Mt
open PySem
theorem runG_append (gs hs : List Gate) (xs : List Int) : runG (gs ++ hs) xs = runG hs (runG gs xs) := by unfold runG; rw [List.foldl_append]
theorem runG_cons (g : Gate) (gs : List Gate) (xs : List Int) : runG (g :: gs) xs = runG gs (doG g xs) := rfl
/-! ### beside -/
theorem getA {xs ys : List Int} {i : Nat} (h : i < xs.length) : (xs ++ ys).getD i 0 = xs.getD i 0 := by
  rw [List.getD_eq_getElem?_getD, List.getD_eq_getElem?_getD, List.getElem?_append_left h]
theorem getB {xs ys : List Int} (i : Nat) : (xs ++ ys).getD (xs.length + i) 0 = ys.getD i 0 := by
  rw [List.getD_eq_getElem?_getD, List.getD_eq_getElem?_getD, List.getElem?_append_right (by omega)]
  congr 2
  omega
theorem Gate.Ok.mono {n m : Nat} {g : Gate} (h : g.Ok n) (l : n ≤ m) : g.Ok m := ⟨by have := h.a; omega, fun e => by have := h.b e; omega⟩
theorem do_left {g : Gate} {xs : List Int} (h : g.Ok xs.length) (ys : List Int) : doG g (xs ++ ys) = doG g xs ++ ys := by
  have ea := getA (ys := ys) h.a
  have eb : g.k ≠ .add → (xs ++ ys).getD g.b.toNat 0 = xs.getD g.b.toNat 0 := fun e => getA (h.bn e)
  have st : ∀ (zs : List Int) (a : Nat) (v : Int), a < zs.length → (zs ++ ys).set a v = zs.set a v ++ ys := fun zs a v l => List.set_append_left a v l
  unfold doG
  cases e : g.k with
  | add => dsimp only; rw [ea, st _ _ _ h.a]
  | copy => dsimp only; rw [eb (by rw [e]; decide), st _ _ _ h.a]
  | low => dsimp only; rw [ea, eb (by rw [e]; decide), st _ _ _ h.a]
  | high => dsimp only; rw [ea, eb (by rw [e]; decide), st _ _ _ h.a]
  | sort => dsimp only; rw [ea, eb (by rw [e]; decide), st _ _ _ h.a, st _ _ _ (by rw [List.length_set]; exact h.bn (by rw [e]; decide))]
theorem run_left : ∀ {gs : List Gate} {xs : List Int}, (∀ g ∈ gs, g.Ok xs.length) → ∀ ys : List Int, runG gs (xs ++ ys) = runG gs xs ++ ys
  | [], _, _, _ => rfl
  | g :: gs, xs, h, ys => by
    rw [runG_cons, runG_cons, do_left (h g (List.mem_cons_self ..))]
    exact run_left (fun g' hg => by rw [doG_len]; exact h g' (List.mem_cons_of_mem _ hg)) ys
/-- lanes behind n others -/
def besL (n m : Nat) : List Nat := (List.range m).map fun i => n + i
theorem besL_at {n m i : Nat} (h : i < m) : (besL n m).getD i 0 = n + i := by
  unfold besL
  rw [List.getD_eq_getElem?_getD, List.getElem?_map, List.getElem?_eq_getElem (by rw [List.length_range]; exact h), List.getElem_range]
  rfl
theorem bes_ok {n m : Nat} {g : Gate} (h : g.Ok m) : (movG (besL n m) g).Ok (n + m) := by
  have ea : (besL n m).getD g.a 0 = n + g.a := besL_at h.a
  refine ⟨by show (besL n m).getD g.a 0 < n + m; have := h.a; omega, fun ne => ?_⟩
  have ne : g.k ≠ .add := ne
  have eb : (besL n m).getD g.b.toNat 0 = n + g.b.toNat := besL_at (h.bn ne)
  have hb := h.b ne
  show 0 ≤ (if g.k = .add then g.b else (((besL n m).getD g.b.toNat 0 : Nat) : Int)) ∧ (if g.k = .add then g.b else (((besL n m).getD g.b.toNat 0 : Nat) : Int)) < ((n + m : Nat) : Int) ∧ (((besL n m).getD g.a 0 : Nat) : Int) ≠ (if g.k = .add then g.b else (((besL n m).getD g.b.toNat 0 : Nat) : Int))
  rw [if_neg ne, ea, eb]
  omega
theorem do_right {g : Gate} {xs ys : List Int} (h : g.Ok ys.length) : doG (movG (besL xs.length ys.length) g) (xs ++ ys) = xs ++ doG g ys := by
  have ea : (besL xs.length ys.length).getD g.a 0 = xs.length + g.a := besL_at h.a
  have eb : g.k ≠ .add → (besL xs.length ys.length).getD g.b.toNat 0 = xs.length + g.b.toNat := fun e => besL_at (h.bn e)
  have st : ∀ (zs : List Int) (a : Nat) (v : Int), (xs ++ zs).set (xs.length + a) v = xs ++ zs.set a v := fun zs a v => by
    rw [List.set_append_right (xs.length + a) v (by omega)]
    congr 2
    omega
  unfold movG doG
  cases e : g.k with
  | add => dsimp only; rw [if_pos rfl, ea, getB, st]
  | copy =>
    have eb := eb (by rw [e]; decide)
    simp only [reduceCtorEq, if_false, Int.toNat_natCast]
    rw [ea, eb, getB, st]
  | low =>
    have eb := eb (by rw [e]; decide)
    simp only [reduceCtorEq, if_false, Int.toNat_natCast]
    rw [ea, eb, getB, getB, st]
  | high =>
    have eb := eb (by rw [e]; decide)
    simp only [reduceCtorEq, if_false, Int.toNat_natCast]
    rw [ea, eb, getB, getB, st]
  | sort =>
    have eb := eb (by rw [e]; decide)
    simp only [reduceCtorEq, if_false, Int.toNat_natCast]
    rw [ea, eb, getB, getB, st, st]
theorem run_right {xs : List Int} : ∀ {hs : List Gate} {ys : List Int}, (∀ g ∈ hs, g.Ok ys.length) → runG (hs.map (movG (besL xs.length ys.length))) (xs ++ ys) = xs ++ runG hs ys
  | [], _, _ => rfl
  | g :: hs, ys, h => by
    rw [List.map_cons, runG_cons, do_right (h g (List.mem_cons_self ..)), runG_cons]
    have := run_right (xs := xs) (hs := hs) (ys := doG g ys) (fun g' hg => by rw [doG_len]; exact h g' (List.mem_cons_of_mem _ hg))
    rw [doG_len] at this
    exact this
theorem run_bes {gs hs : List Gate} {xs ys : List Int} (h : ∀ g ∈ gs, g.Ok xs.length) (h' : ∀ g ∈ hs, g.Ok ys.length) : runG (gs ++ hs.map (movG (besL xs.length ys.length))) (xs ++ ys) = runG gs xs ++ runG hs ys := by
  rw [runG_append, run_left h]
  have := run_right (xs := runG gs xs) h'
  rw [runG_len] at this
  exact this
/-! ### moved -/
theorem ordr_sur {n : Nat} {s : List Nat} (h : s.Perm (List.range n)) {j : Nat} (hj : j < n) : ∃ i, i < n ∧ s.getD i 0 = j := by
  have : j ∈ s := h.mem_iff.mpr (List.mem_range.mpr hj)
  obtain ⟨i, hi, e⟩ := List.getElem_of_mem this
  have hl : s.length = n := by rw [h.length_eq, List.length_range]
  exact ⟨i, by omega, by rw [List.getD_eq_getElem?_getD, List.getElem?_eq_getElem hi]; exact e⟩
theorem mov_uniq {s : List Nat} {xs ys zs : List Int} (h : s.Perm (List.range xs.length)) (m : Mov s xs ys) (m' : Mov s xs zs) : ys = zs := by
  refine extI (by rw [m.1, m'.1]) fun j hj => ?_
  rw [m.1] at hj
  obtain ⟨i, hi, e⟩ := ordr_sur h hj
  rw [← e, m.2 i hi, m'.2 i hi]
theorem mv_mov {s : List Nat} {xs : List Int} (h : s.Perm (List.range xs.length)) : Mov s xs (mvT xs s xs.length) := ⟨mvT_len .., fun i hi => mvT_at (ordr_of h) _ (Nat.le_refl _) i hi⟩
theorem run_movM {s : List Nat} : ∀ {gs : List Gate} {xs ys : List Int}, Ordr xs.length s → (∀ g ∈ gs, g.Ok xs.length) → Mov s xs ys → Mov s (runG gs xs) (runG (gs.map (movG s)) ys)
  | [], _, _, _, _, m => m
  | g :: gs, xs, ys, o, h, m => by
    rw [List.map_cons, runG_cons, runG_cons]
    exact run_movM (by rw [doG_len]; exact o) (fun g' hg => by rw [doG_len]; exact h g' (List.mem_cons_of_mem _ hg)) (do_mov o (h g (List.mem_cons_self ..)) m)
theorem run_moved {s : List Nat} {gs : List Gate} {xs : List Int} (p : s.Perm (List.range xs.length)) (h : ∀ g ∈ gs, g.Ok xs.length) : runG (gs.map (movG s)) (mvT xs s xs.length) = mvT (runG gs xs) s xs.length := by
  have m1 := run_movM (ordr_of p) h (mv_mov p)
  have p2 : s.Perm (List.range (runG gs xs).length) := by rw [runG_len]; exact p
  have m2 := mv_mov p2
  rw [runG_len] at m2
  exact mov_uniq p2 m1 m2
/-- one order behind another -/
def bothL (n : Nat) (later order : List Nat) : List Nat := (List.range n).map fun i => later.getD (order.getD i 0) 0
theorem bothL_at {n i : Nat} {later order : List Nat} (h : i < n) : (bothL n later order).getD i 0 = later.getD (order.getD i 0) 0 := by
  unfold bothL
  rw [List.getD_eq_getElem?_getD, List.getElem?_map, List.getElem?_eq_getElem (by rw [List.length_range]; exact h), List.getElem_range]
  rfl
theorem range_getD {n : Nat} {s : List Nat} (h : s.length = n) : (List.range n).map (fun i => s.getD i 0) = s := by
  apply List.ext_getElem (by rw [List.length_map, List.length_range, h])
  intro i h1 h2
  rw [List.getElem_map, List.getElem_range, List.getD_eq_getElem?_getD, List.getElem?_eq_getElem h2]
  rfl
theorem both_perm {n : Nat} {later order : List Nat} (h1 : later.Perm (List.range n)) (h2 : order.Perm (List.range n)) : (bothL n later order).Perm (List.range n) := by
  have e1 : bothL n later order = order.map fun j => later.getD j 0 := by
    have e0 : order.map (fun j => later.getD j 0) = ((List.range n).map fun i => order.getD i 0).map (fun j => later.getD j 0) := by rw [range_getD (ordr_of h2).len]
    rw [e0, List.map_map]
    rfl
  rw [e1]
  have := h2.map fun j => later.getD j 0
  rw [range_getD (ordr_of h1).len] at this
  exact this.trans h1
theorem gate_ext {g h : Gate} (h1 : g.k = h.k) (h2 : g.a = h.a) (h3 : g.b = h.b) : g = h := by
  cases g; cases h; simp only at h1 h2 h3; subst h1 h2 h3; rfl
theorem mov_both {n : Nat} {later order : List Nat} (o : Ordr n order) {g : Gate} (h : g.Ok n) : movG later (movG order g) = movG (bothL n later order) g := by
  have ea : (bothL n later order).getD g.a 0 = later.getD (order.getD g.a 0) 0 := bothL_at h.a
  have eb : g.k ≠ .add → (bothL n later order).getD g.b.toNat 0 = later.getD (order.getD g.b.toNat 0) 0 := fun e => bothL_at (h.bn e)
  refine gate_ext rfl ea.symm ?_
  show (if g.k = .add then (if g.k = .add then g.b else ((order.getD g.b.toNat 0 : Nat) : Int)) else ((later.getD (if g.k = .add then g.b else ((order.getD g.b.toNat 0 : Nat) : Int)).toNat 0 : Nat) : Int)) = (if g.k = .add then g.b else (((bothL n later order).getD g.b.toNat 0 : Nat) : Int))
  by_cases e : g.k = .add
  · rw [if_pos e, if_pos e, if_pos e]
  · rw [if_neg e, if_neg e, if_neg e, Int.toNat_natCast, eb e]
theorem mv_both {later order : List Nat} {xs : List Int} (h1 : later.Perm (List.range xs.length)) (h2 : order.Perm (List.range xs.length)) : mvT (mvT xs order xs.length) later xs.length = mvT xs (bothL xs.length later order) xs.length := by
  have m1 := mv_mov h2
  have p1 : later.Perm (List.range (mvT xs order xs.length).length) := by rw [mvT_len]; exact h1
  have m2 := mv_mov p1
  rw [mvT_len] at m2
  refine mov_uniq (both_perm h1 h2) ⟨by rw [mvT_len, mvT_len], fun i hi => ?_⟩ (mv_mov (both_perm h1 h2))
  rw [bothL_at hi]
  have h3 := (ordr_of h2).lt i hi
  rw [m2.2 _ (by rw [mvT_len]; exact h3), m1.2 i hi]
/-- the way back -/
def idxL (s : List Nat) (j : Nat) : Nat := s.findIdx (· == j)
def backL (n : Nat) (s : List Nat) : List Nat := (List.range n).map (idxL s)
theorem idx_at {n : Nat} {s : List Nat} (h : s.Perm (List.range n)) {j : Nat} (hj : j < n) : idxL s j < n ∧ s[idxL s j]? = some j ∧ ∀ m, m < idxL s j → s[m]? ≠ some j := by
  have hl : s.length = n := (ordr_of h).len
  have hm : j ∈ s := h.mem_iff.mpr (List.mem_range.mpr hj)
  have h1 : s.findIdx (· == j) < s.length := List.findIdx_lt_length_of_exists ⟨j, hm, by simp⟩
  refine ⟨by show s.findIdx (· == j) < n; omega, ?_, fun m hlt e => ?_⟩
  · have := List.findIdx_getElem (w := h1)
    show s[s.findIdx (· == j)]? = some j
    rw [List.getElem?_eq_getElem h1]
    congr 1
    simpa using this
  · have hm2 : m < s.findIdx (· == j) := hlt
    have := List.not_of_lt_findIdx hm2
    rw [List.getElem?_eq_getElem (by omega)] at e
    have e2 := Option.some.inj e
    rw [e2] at this
    simp at this
theorem back_perm {n : Nat} {s : List Nat} (h : s.Perm (List.range n)) : (backL n s).Perm (List.range n) := by
  have e1 : s.map (idxL s) = List.range n := by
    have hl : s.length = n := (ordr_of h).len
    apply List.ext_getElem (by rw [List.length_map, List.length_range, hl])
    intro i h1 h2
    rw [List.getElem_map, List.getElem_range]
    rw [List.length_map] at h1
    have hi : i < n := by omega
    have hs : s[i] < n := List.mem_range.mp (h.mem_iff.mp (List.getElem_mem h1))
    obtain ⟨k1, k2, _⟩ := idx_at h hs
    refine (ordr_of h).inj _ _ k1 hi ?_
    rw [List.getD_eq_getElem?_getD, List.getD_eq_getElem?_getD, k2, List.getElem?_eq_getElem h1]
  have := h.map (idxL s)
  rw [e1] at this
  exact this.symm
theorem backL_at {n i : Nat} {s : List Nat} (h : i < n) : (backL n s).getD i 0 = idxL s i := by
  unfold backL
  rw [List.getD_eq_getElem?_getD, List.getElem?_map, List.getElem?_eq_getElem (by rw [List.length_range]; exact h), List.getElem_range]
  rfl
theorem back_id {n i : Nat} {s : List Nat} (h : s.Perm (List.range n)) (hi : i < n) : (backL n s).getD (s.getD i 0) 0 = i := by
  have o := ordr_of h
  have h1 := o.lt i hi
  rw [backL_at h1]
  obtain ⟨k1, k2, _⟩ := idx_at h h1
  refine o.inj _ _ k1 hi ?_
  rw [List.getD_eq_getElem?_getD, k2]
  rfl
theorem both_back {n : Nat} {s : List Nat} (h : s.Perm (List.range n)) : bothL n (backL n s) s = List.range n := by
  apply List.ext_getElem (by unfold bothL; rw [List.length_map])
  intro i h1 h2
  rw [List.getElem_range]
  rw [List.length_range] at h2
  have := bothL_at (later := backL n s) (order := s) h2
  rw [back_id h h2, List.getD_eq_getElem?_getD, List.getElem?_eq_getElem h1] at this
  exact this
theorem mov_id {n : Nat} {g : Gate} (h : g.Ok n) : movG (List.range n) g = g := by
  have rg : ∀ {i : Nat}, i < n → (List.range n).getD i 0 = i := fun {i} hi => by
    rw [List.getD_eq_getElem?_getD, List.getElem?_eq_getElem (by rw [List.length_range]; exact hi), List.getElem_range]; rfl
  refine gate_ext rfl (rg h.a) ?_
  show (if g.k = .add then g.b else (((List.range n).getD g.b.toNat 0 : Nat) : Int)) = g.b
  by_cases e : g.k = .add
  · rw [if_pos e]
  · rw [if_neg e, rg (h.bn e)]
    have := h.b e
    omega
theorem gates_back {n : Nat} {s : List Nat} {gs : List Gate} (p : s.Perm (List.range n)) (h : ∀ g ∈ gs, g.Ok n) : (gs.map (movG s)).map (movG (backL n s)) = gs := by
  rw [List.map_map]
  have : gs.map (movG (backL n s) ∘ movG s) = gs.map id := List.map_congr_left fun g hg => by
    show movG (backL n s) (movG s g) = g
    rw [mov_both (ordr_of p) (h g hg), both_back p, mov_id (h g hg)]
  rw [this, List.map_id]
theorem gates_both {n : Nat} {later order : List Nat} {gs : List Gate} (p : order.Perm (List.range n)) (h : ∀ g ∈ gs, g.Ok n) : (gs.map (movG order)).map (movG later) = gs.map (movG (bothL n later order)) := by
  rw [List.map_map]
  exact List.map_congr_left fun g hg => mov_both (ordr_of p) (h g hg)
theorem mv_back {s : List Nat} {xs : List Int} (p : s.Perm (List.range xs.length)) : mvT (mvT xs s xs.length) (backL xs.length s) xs.length = xs := by
  rw [mv_both (back_perm p) p, both_back p]
  refine mov_uniq (List.Perm.refl _) (mv_mov (List.Perm.refl _)) ⟨rfl, fun i hi => ?_⟩
  rw [List.getD_eq_getElem?_getD (l := List.range _), List.getElem?_eq_getElem (by rw [List.length_range]; exact hi), List.getElem_range]
  rfl
/-! ### turned -/
theorem run_turn : ∀ {gs : List Gate} {xs : List Int}, (∀ g ∈ gs, g.Ok xs.length) → runG (gs.map turnG) (xs.map (- ·)) = (runG gs xs).map (- ·)
  | [], _, _ => rfl
  | g :: gs, xs, h => by
    rw [List.map_cons, runG_cons, runG_cons, do_turn (h g (List.mem_cons_self ..))]
    exact run_turn (fun g' hg => by rw [doG_len]; exact h g' (List.mem_cons_of_mem _ hg))
theorem turn_turn {n : Nat} {g : Gate} (h : g.Ok n) : turnG (turnG g) = g := by
  obtain ⟨k, a, b⟩ := g
  cases k with
  | add => show Gate.mk .add a (- -b) = _; rw [Int.neg_neg]
  | sort =>
    have hb := h.b (fun z => nomatch z)
    have hb0 : 0 ≤ b := hb.1
    show Gate.mk .sort ((a : Int)).toNat ((b.toNat : Nat) : Int) = _
    rw [Int.toNat_natCast, Int.toNat_of_nonneg hb0]
  | copy => rfl
  | low => rfl
  | high => rfl
theorem gates_turn {n : Nat} {gs : List Gate} (h : ∀ g ∈ gs, g.Ok n) : (gs.map turnG).map turnG = gs := by
  rw [List.map_map]
  have : gs.map (turnG ∘ turnG) = gs.map id := List.map_congr_left fun g hg => turn_turn (h g hg)
  rw [this, List.map_id]
theorem mov_turn {n : Nat} {s : List Nat} {g : Gate} (h : g.Ok n) : movG s (turnG g) = turnG (movG s g) := by
  obtain ⟨k, a, b⟩ := g
  cases k with
  | add => rfl
  | sort =>
    have hb := h.b (fun z => nomatch z)
    have hb0 : 0 ≤ b := hb.1
    show Gate.mk .sort (s.getD b.toNat 0) ((s.getD ((a : Int)).toNat 0 : Nat) : Int) = Gate.mk .sort (((s.getD b.toNat 0 : Nat) : Int)).toNat ((s.getD a 0 : Nat) : Int)
    rw [Int.toNat_natCast, Int.toNat_natCast]
  | copy => rfl
  | low => rfl
  | high => rfl
theorem gates_mov_turn {n : Nat} {s : List Nat} {gs : List Gate} (h : ∀ g ∈ gs, g.Ok n) : (gs.map turnG).map (movG s) = (gs.map (movG s)).map turnG := by
  rw [List.map_map, List.map_map]
  exact List.map_congr_left fun g hg => mov_turn (h g hg)
/-! ### all raised -/
def addGs (n : Nat) (c : Int) : List Gate := (List.range n).map fun i => ⟨.add, i, c⟩
theorem addGs_at {c : Int} {xs : List Int} : ∀ (k : Nat), k ≤ xs.length → ∀ i, i < xs.length → (runG (addGs k c) xs).getD i 0 = if i < k then xs.getD i 0 + c else xs.getD i 0
  | 0, _, i, hi => by rw [if_neg (by omega)]; rfl
  | k + 1, hk, i, hi => by
    have e : addGs (k + 1) c = addGs k c ++ [⟨.add, k, c⟩] := by unfold addGs; rw [List.range_succ, List.map_append]; rfl
    rw [e, runG_append]
    have ih := addGs_at (c := c) (xs := xs) k (by omega)
    show ((runG (addGs k c) xs).set k ((runG (addGs k c) xs).getD k 0 + c)).getD i 0 = _
    rw [getD_set (by rw [runG_len]; omega)]
    by_cases q : i = k
    · rw [if_pos q, if_pos (by omega), ih k (by omega), if_neg (Nat.lt_irrefl k), q]
    · rw [if_neg q, ih i hi]
      by_cases r : i < k
      · rw [if_pos r, if_pos (by omega)]
      · rw [if_neg r, if_neg (by omega)]
theorem run_addGs (c : Int) (xs : List Int) : runG (addGs xs.length c) xs = xs.map (· + c) := by
  refine extI (by rw [runG_len, List.length_map]) fun i hi => ?_
  rw [runG_len] at hi
  rw [addGs_at _ (Nat.le_refl _) i hi, if_pos hi, getD_map hi]
theorem addGs_ok {n : Nat} {c : Int} : ∀ g ∈ addGs n c, g.Ok n := fun g hg => by
  obtain ⟨i, hi, rfl⟩ := List.mem_map.mp hg
  exact ⟨List.mem_range.mp hi, fun z => absurd rfl z⟩
/-! ### places -/
theorem run_at {gs : List Gate} {i : Nat} {g : Gate} (h : gs[i]? = some g) (xs : List Int) : runG (gs.drop i) xs = runG (gs.drop (i + 1)) (doG g xs) := by
  have hi := (List.getElem?_eq_some_iff.mp h).1
  have e : gs.drop i = g :: gs.drop (i + 1) := by
    rw [List.drop_eq_getElem_cons hi]
    congr 1
    exact (List.getElem?_eq_some_iff.mp h).2
  rw [e, runG_cons]
end Mt


set_option Elab.async false
set_option linter.all false
namespace Mt
open PySem
/-! ### the lanes of a gate; gates that touch -/
def lanesG (g : Gate) : List Nat := if g.k = .add then [g.a] else [g.a, g.b.toNat]
def touch (g h : Gate) : Bool := (lanesG g).any fun l => (lanesG h).contains l
theorem touch_iff {g h : Gate} : touch g h = true ↔ ∃ l, l ∈ lanesG g ∧ l ∈ lanesG h := by
  unfold touch
  rw [List.any_eq_true]
  constructor
  · rintro ⟨l, h1, h2⟩; exact ⟨l, h1, List.contains_iff_mem.mp h2⟩
  · rintro ⟨l, h1, h2⟩; exact ⟨l, h1, List.contains_iff_mem.mpr h2⟩
theorem touch_comm {g h : Gate} (e : touch g h = true) : touch h g = true := by
  obtain ⟨l, h1, h2⟩ := touch_iff.mp e
  exact touch_iff.mpr ⟨l, h2, h1⟩
theorem lanesG_ne (g : Gate) : lanesG g ≠ [] := by unfold lanesG; split <;> simp
theorem lanesG_lt {n : Nat} {g : Gate} (h : g.Ok n) {l : Nat} (hl : l ∈ lanesG g) : l < n := by
  unfold lanesG at hl
  split at hl
  · rw [List.mem_singleton.mp hl]; exact h.a
  · rename_i ne
    have := h.b ne
    rcases List.mem_cons.mp hl with e | hl
    · rw [e]; exact h.a
    · rw [List.mem_singleton.mp hl]; omega
theorem touch_self (g : Gate) : touch g g = true := by
  cases q : lanesG g with
  | nil => exact absurd q (lanesG_ne g)
  | cons l r => exact touch_iff.mpr ⟨l, by rw [q]; exact List.mem_cons_self .., by rw [q]; exact List.mem_cons_self ..⟩
/-! ### the greatest of some numbers, 0 of none -/
def maxL : List Nat → Nat
  | [] => 0
  | x :: r => max x (maxL r)
theorem le_maxL : ∀ {xs : List Nat} {x : Nat}, x ∈ xs → x ≤ maxL xs
  | y :: r, x, h => by
    rcases List.mem_cons.mp h with e | h
    · rw [e]; exact Nat.le_max_left ..
    · exact Nat.le_trans (le_maxL h) (Nat.le_max_right ..)
theorem maxL_le : ∀ {xs : List Nat} {m : Nat}, (∀ x ∈ xs, x ≤ m) → maxL xs ≤ m
  | [], _, _ => Nat.zero_le _
  | x :: r, m, h => Nat.max_le.mpr ⟨h x (List.mem_cons_self ..), maxL_le fun y hy => h y (List.mem_cons_of_mem _ hy)⟩
theorem maxL_mem : ∀ {xs : List Nat}, maxL xs = 0 ∨ maxL xs ∈ xs
  | [] => .inl rfl
  | x :: r => by
    rcases maxL_mem (xs := r) with e | e
    · show max x (maxL r) = 0 ∨ max x (maxL r) ∈ x :: r
      rw [e, Nat.max_zero]
      exact .inr (List.mem_cons_self ..)
    · rcases Nat.le_total x (maxL r) with q | q
      · exact .inr (by show max x (maxL r) ∈ x :: r; rw [Nat.max_eq_right q]; exact List.mem_cons_of_mem _ e)
      · exact .inr (by show max x (maxL r) ∈ x :: r; rw [Nat.max_eq_left q]; exact List.mem_cons_self ..)
theorem maxL_ext {xs ys : List Nat} (h1 : ∀ x ∈ xs, x ≤ maxL ys) (h2 : ∀ y ∈ ys, y ≤ maxL xs) : maxL xs = maxL ys := Nat.le_antisymm (maxL_le h1) (maxL_le h2)
theorem maxL_app (xs ys : List Nat) : maxL (xs ++ ys) = max (maxL xs) (maxL ys) := by
  induction xs with
  | nil => show maxL ys = max 0 (maxL ys); rw [Nat.zero_max]
  | cons x xs ih => show max x (maxL (xs ++ ys)) = _; rw [ih, ← Nat.max_assoc]; rfl
/-! ### levels -/
def lvAt (ps : List (Gate × Nat)) (g : Gate) : Nat := maxL ((ps.filter fun p => touch g p.1).map fun p => p.2 + 1)
def lvG (ps : List (Gate × Nat)) : List Gate → List (Gate × Nat)
  | [] => ps
  | g :: gs => lvG (ps ++ [(g, lvAt ps g)]) gs
/-- the gates, each with its level -/
def lvP (gs : List Gate) : List (Gate × Nat) := lvG [] gs
def lvs (gs : List Gate) : List Nat := (lvP gs).map (·.2)
theorem lvG_snoc : ∀ (gs : List Gate) (ps : List (Gate × Nat)) (g : Gate), lvG ps (gs ++ [g]) = lvG ps gs ++ [(g, lvAt (lvG ps gs) g)]
  | [], _, _ => rfl
  | h :: gs, ps, g => lvG_snoc gs _ g
theorem lvP_snoc (gs : List Gate) (g : Gate) : lvP (gs ++ [g]) = lvP gs ++ [(g, lvAt (lvP gs) g)] := lvG_snoc gs [] g
theorem lvG_fst : ∀ (gs : List Gate) (ps : List (Gate × Nat)), (lvG ps gs).map (·.1) = ps.map (·.1) ++ gs
  | [], _ => (List.append_nil _).symm
  | g :: gs, ps => by
    show (lvG (ps ++ [(g, lvAt ps g)]) gs).map (·.1) = _
    rw [lvG_fst gs, List.map_append, List.append_assoc]
    rfl
theorem lvP_fst (gs : List Gate) : (lvP gs).map (·.1) = gs := lvG_fst gs []
theorem lvP_len (gs : List Gate) : (lvP gs).length = gs.length := by
  have := congrArg List.length (lvP_fst gs)
  rwa [List.length_map] at this
theorem lvs_len (gs : List Gate) : (lvs gs).length = gs.length := by unfold lvs; rw [List.length_map, lvP_len]
theorem lvs_snoc (gs : List Gate) (g : Gate) : lvs (gs ++ [g]) = lvs gs ++ [lvAt (lvP gs) g] := by unfold lvs; rw [lvP_snoc, List.map_append]; rfl
theorem lvP_take (gs : List Gate) : ∀ i, i ≤ gs.length → lvP (gs.take i) = (lvP gs).take i := by
  have key : ∀ (hs gs : List Gate), lvP gs = (lvP (gs ++ hs)).take gs.length := by
    intro hs
    induction hs with
    | nil => intro gs; rw [List.append_nil, ← lvP_len, List.take_length]
    | cons h hs ih =>
      intro gs
      have := ih (gs ++ [h])
      rw [List.append_assoc, List.singleton_append] at this
      have e := congrArg (List.take gs.length) this
      rw [List.take_take, List.length_append, Nat.min_eq_left (by simp), lvP_snoc, List.take_append_of_le_length (by rw [lvP_len]; exact Nat.le_refl _), ← lvP_len, List.take_length, lvP_len] at e
      exact e
  intro i hi
  have := key (gs.drop i) (gs.take i)
  rw [List.take_append_drop, List.length_take, Nat.min_eq_left hi] at this
  exact this
/-- a gate's level, by its place -/
def lv (gs : List Gate) (i : Nat) : Nat := (lvs gs).getD i 0
theorem lv_eq {gs : List Gate} {i : Nat} {g : Gate} (h : gs[i]? = some g) : lv gs i = lvAt (lvP (gs.take i)) g := by
  have hi : i < gs.length := (List.getElem?_eq_some_iff.mp h).1
  have e : gs.take (i + 1) = gs.take i ++ [g] := by rw [List.take_add_one, h]; rfl
  have e2 := lvP_take gs (i + 1) hi
  rw [e, lvP_snoc] at e2
  unfold lv lvs
  have : (lvP gs)[i]? = some (g, lvAt (lvP (gs.take i)) g) := by
    have e3 : (lvP (gs.take i) ++ [(g, lvAt (lvP (gs.take i)) g)])[i]? = ((lvP gs).take (i + 1))[i]? := by rw [e2]
    rw [List.getElem?_append_right (by rw [lvP_len, List.length_take]; omega), lvP_len, List.length_take, Nat.min_eq_left (by omega), Nat.sub_self, List.getElem?_take_of_lt (by omega)] at e3
    exact e3.symm
  rw [List.getD_eq_getElem?_getD, List.getElem?_map, this]
  rfl
theorem lvP_at {gs : List Gate} {i : Nat} {g : Gate} (h : gs[i]? = some g) : (lvP gs)[i]? = some (g, lv gs i) := by
  have hi : i < gs.length := (List.getElem?_eq_some_iff.mp h).1
  have h1 : ((lvP gs).map (·.1))[i]? = some g := by rw [lvP_fst]; exact h
  rw [List.getElem?_map] at h1
  cases q : (lvP gs)[i]? with
  | none => rw [q] at h1; cases h1
  | some p =>
    rw [q] at h1
    have e1 : p.1 = g := Option.some.inj h1
    have e2 : lv gs i = p.2 := by unfold lv lvs; rw [List.getD_eq_getElem?_getD, List.getElem?_map, q]; rfl
    rw [← e1, e2]
/-- what a level is: one more than the greatest one of those ahead that touch -/
theorem lv_max {gs : List Gate} {i : Nat} {g : Gate} (h : gs[i]? = some g) : lv gs i = maxL (((List.range i).filter fun j => touch g (gs.getD j ⟨.add, 0, 0⟩)).map fun j => lv gs j + 1) := by
  have hi : i < gs.length := (List.getElem?_eq_some_iff.mp h).1
  rw [lv_eq h, lvP_take gs i (by omega)]
  unfold lvAt
  have e : (lvP gs).take i = (List.range i).map fun j => (gs.getD j ⟨.add, 0, 0⟩, lv gs j) := by
    apply List.ext_getElem?
    intro j
    by_cases hj : j < i
    · rw [List.getElem?_take_of_lt hj, List.getElem?_map, List.getElem?_range hj]
      obtain ⟨g', hg⟩ : ∃ g', gs[j]? = some g' := ⟨gs[j], List.getElem?_eq_getElem (by omega)⟩
      rw [lvP_at hg]
      show _ = some (gs.getD j ⟨.add, 0, 0⟩, lv gs j)
      rw [List.getD_eq_getElem?_getD, hg]
      rfl
    · rw [List.getElem?_eq_none (by rw [List.length_take]; omega), List.getElem?_eq_none (by rw [List.length_map, List.length_range]; omega)]
  rw [e, List.filter_map, List.map_map]
  rfl
theorem lv_lt {gs : List Gate} {i j : Nat} {g h : Gate} (hi : gs[i]? = some g) (hj : gs[j]? = some h) (ij : i < j) (t : touch g h = true) : lv gs i < lv gs j := by
  rw [lv_max hj]
  refine le_maxL (x := lv gs i + 1) (List.mem_map.mpr ⟨i, List.mem_filter.mpr ⟨List.mem_range.mpr ij, ?_⟩, rfl⟩)
  rw [List.getD_eq_getElem?_getD, hi]
  exact touch_comm t
/-! ### layers -/
def nl (ls : List Nat) : Nat := maxL (ls.map (· + 1))
def rowAt (ls : List Nat) (k : Nat) : List Nat := (List.range ls.length).filter fun i => decide (ls.getD i 0 = k)
def rowsOf (ls : List Nat) : List (List Nat) := (List.range (nl ls)).map (rowAt ls)
theorem nl_snoc (ls : List Nat) (k : Nat) : nl (ls ++ [k]) = max (nl ls) (k + 1) := by
  unfold nl
  rw [List.map_append, maxL_app]
  show max _ (max (k + 1) 0) = _
  rw [Nat.max_zero]
theorem getD_snoc {ls : List Nat} {k i : Nat} (h : i < ls.length) : (ls ++ [k]).getD i 0 = ls.getD i 0 := by
  rw [List.getD_eq_getElem?_getD, List.getD_eq_getElem?_getD, List.getElem?_append_left h]
theorem row_snoc (ls : List Nat) (k m : Nat) : rowAt (ls ++ [k]) m = if m = k then rowAt ls m ++ [ls.length] else rowAt ls m := by
  unfold rowAt
  rw [List.length_append, List.length_singleton, List.range_succ, List.filter_append]
  have e1 : (List.range ls.length).filter (fun i => decide ((ls ++ [k]).getD i 0 = m)) = (List.range ls.length).filter fun i => decide (ls.getD i 0 = m) := by
    apply List.filter_congr
    intro i hi
    rw [getD_snoc (List.mem_range.mp hi)]
  rw [e1]
  have e2 : (ls ++ [k]).getD ls.length 0 = k := by rw [List.getD_eq_getElem?_getD, List.getElem?_append_right (Nat.le_refl _), Nat.sub_self]; rfl
  by_cases q : m = k
  · rw [if_pos q, List.filter_cons_of_pos (by rw [e2]; exact decide_eq_true q.symm)]; rfl
  · rw [if_neg q, List.filter_cons_of_neg (by rw [e2]; exact fun z => q (of_decide_eq_true z).symm)]; simp
theorem row_none {ls : List Nat} {k : Nat} (h : nl ls ≤ k) : rowAt ls k = [] := by
  unfold rowAt
  rw [List.filter_eq_nil_iff]
  intro i hi z
  have z := of_decide_eq_true z
  have hi := List.mem_range.mp hi
  have : ls.getD i 0 ∈ ls := by
    rw [List.getD_eq_getElem?_getD, List.getElem?_eq_getElem hi]
    exact List.getElem_mem hi
  have := le_maxL (xs := ls.map (· + 1)) (List.mem_map.mpr ⟨_, this, rfl⟩)
  unfold nl at h
  omega
/-- the layers, one gate later -/
theorem rows_snoc {ls : List Nat} {k : Nat} (h : k ≤ nl ls) : rowsOf (ls ++ [k]) = (if k = nl ls then rowsOf ls ++ [[]] else rowsOf ls).set k (((if k = nl ls then rowsOf ls ++ [[]] else rowsOf ls).getD k []) ++ [ls.length]) := by
  have len1 : (rowsOf ls).length = nl ls := by unfold rowsOf; rw [List.length_map, List.length_range]
  have at1 : ∀ m, m < nl ls → (rowsOf ls)[m]? = some (rowAt ls m) := fun m hm => by unfold rowsOf; rw [List.getElem?_map, List.getElem?_range hm]; rfl
  have hk : nl (ls ++ [k]) = if k = nl ls then nl ls + 1 else nl ls := by
    rw [nl_snoc]
    split <;> omega
  apply List.ext_getElem?
  intro m
  have lhs : (rowsOf (ls ++ [k]))[m]? = if m < nl (ls ++ [k]) then some (rowAt (ls ++ [k]) m) else none := by
    unfold rowsOf
    rw [List.getElem?_map]
    split
    · rename_i hm; rw [List.getElem?_range hm]; rfl
    · rename_i hm; rw [List.getElem?_eq_none (by rw [List.length_range]; omega)]; rfl
  rw [lhs, hk, row_snoc]
  by_cases e : k = nl ls
  · rw [if_pos e, if_pos e]
    by_cases em : m = k
    · rw [if_pos em, em, if_pos (by omega), List.getElem?_set_self (by rw [List.length_append, len1]; show k < nl ls + 1; omega)]
      rw [row_none (by omega), List.getD_eq_getElem?_getD, List.getElem?_append_right (by omega), len1, e, Nat.sub_self]
      rfl
    · rw [if_neg em, List.getElem?_set_ne (Ne.symm em)]
      by_cases hm : m < nl ls
      · rw [if_pos (by omega), List.getElem?_append_left (by omega), at1 m hm]
      · rw [if_neg (by omega), List.getElem?_eq_none (by rw [List.length_append, len1]; show nl ls + 1 ≤ m; omega)]
  · rw [if_neg e, if_neg e]
    by_cases em : m = k
    · rw [if_pos em, em, if_pos (by omega), List.getElem?_set_self (by rw [len1]; omega), List.getD_eq_getElem?_getD, at1 k (by omega)]
      rfl
    · rw [if_neg em, List.getElem?_set_ne (Ne.symm em)]
      by_cases hm : m < nl ls
      · rw [if_pos hm, at1 m hm]
      · rw [if_neg hm, List.getElem?_eq_none (by omega)]
theorem rows_mem {ls : List Nat} {i : Nat} {r : List Nat} (hr : r ∈ rowsOf ls) (hi : i ∈ r) : i < ls.length := by
  unfold rowsOf at hr
  obtain ⟨k, _, rfl⟩ := List.mem_map.mp hr
  exact List.mem_range.mp (List.mem_filter.mp hi).1
end Mt


set_option Elab.async false
set_option linter.all false
namespace Mt
open PySem
abbrev g0 : Gate := ⟨.add, 0, 0⟩
/-! ### orders in which the levels never fall -/
structure Lay (gs : List Gate) (o : List Nat) : Prop where
  perm : o.Perm (List.range gs.length)
  rise : o.Pairwise fun a b => lv gs a ≤ lv gs b
theorem Lay.lt {gs : List Gate} {o : List Nat} (h : Lay gs o) {i : Nat} (hi : i ∈ o) : i < gs.length := List.mem_range.mp (h.perm.mem_iff.mp hi)
theorem Lay.nodup {gs : List Gate} {o : List Nat} (h : Lay gs o) : o.Nodup := h.perm.nodup_iff.mpr List.nodup_range
theorem Lay.len {gs : List Gate} {o : List Nat} (h : Lay gs o) : o.length = gs.length := by rw [h.perm.length_eq, List.length_range]
def pickG (gs : List Gate) (o : List Nat) : List Gate := o.map fun i => gs.getD i g0
theorem get_of {gs : List Gate} {i : Nat} (h : i < gs.length) : gs[i]? = some (gs.getD i g0) := by
  rw [List.getD_eq_getElem?_getD, List.getElem?_eq_getElem h]; rfl
theorem pick_range (gs : List Gate) : pickG gs (List.range gs.length) = gs := by
  unfold pickG
  apply List.ext_getElem?
  intro i
  rw [List.getElem?_map]
  by_cases h : i < gs.length
  · rw [List.getElem?_range h, get_of h]; rfl
  · rw [List.getElem?_eq_none (by rw [List.length_range]; omega), List.getElem?_eq_none (by omega)]; rfl
/-- the list of a lane -/
def hasL (l : Nat) (g : Gate) : Bool := (lanesG g).contains l
theorem hasL_iff {l : Nat} {g : Gate} : hasL l g = true ↔ l ∈ lanesG g := List.contains_iff_mem
def ofL (l : Nat) (gs : List Gate) : List Gate := gs.filter (hasL l)
theorem sorted_eq : ∀ {xs ys : List Nat}, xs.Perm ys → xs.Pairwise (· < ·) → ys.Pairwise (· < ·) → xs = ys := fun p h1 h2 =>
  p.eq_of_pairwise (le := (· < ·)) (fun a b _ _ h h' => absurd h (Nat.lt_asymm h')) h1 h2
theorem ofL_pick {gs : List Gate} {o : List Nat} (h : Lay gs o) (l : Nat) : ofL l (pickG gs o) = ofL l gs := by
  have key : (o.filter fun i => hasL l (gs.getD i g0)) = (List.range gs.length).filter fun i => hasL l (gs.getD i g0) := by
    refine sorted_eq (h.perm.filter _) ?_ (List.pairwise_lt_range.filter _)
    have np : o.Pairwise (· ≠ ·) := h.nodup
    have both := List.Pairwise.and h.rise np
    rw [List.pairwise_filter]
    refine List.Pairwise.imp_of_mem ?_ both
    intro a b ha hb ⟨h1, h2⟩ c1 c2
    have c1 := hasL_iff.mp c1
    have c2 := hasL_iff.mp c2
    refine Nat.lt_of_not_le fun z => ?_
    have := lv_lt (get_of (h.lt hb)) (get_of (h.lt ha)) (by omega) (touch_iff.mpr ⟨l, c2, c1⟩)
    omega
  have e : ∀ p : List Nat, ofL l (pickG gs p) = (p.filter fun i => hasL l (gs.getD i g0)).map fun i => gs.getD i g0 := fun p => by
    unfold ofL pickG
    rw [List.filter_map]
    rfl
  rw [e, key, ← e, pick_range]
/-! ### gates that do not touch may change places -/
theorem do_out {g : Gate} {n : Nat} (h : g.Ok n) {xs : List Int} (hx : xs.length = n) {i : Nat} (hi : i ∉ lanesG g) : (doG g xs).getD i 0 = xs.getD i 0 := by
  subst hx
  rw [doG_at h]
  unfold lanesG at hi
  unfold stepF
  split at hi
  · rename_i e
    rw [e]
    have : i ≠ g.a := fun z => hi (by rw [z]; exact List.mem_singleton.mpr rfl)
    simp [this]
  · rename_i e
    have h1 : i ≠ g.a := fun z => hi (by rw [z]; exact List.mem_cons_self ..)
    have h2 : i ≠ g.b.toNat := fun z => hi (by rw [z]; exact List.mem_cons_of_mem _ (List.mem_singleton.mpr rfl))
    cases q : g.k <;> simp [h1, h2]
theorem do_agree {g : Gate} {n : Nat} (h : g.Ok n) {xs ys : List Int} (hx : xs.length = n) (hy : ys.length = n) (e : ∀ i ∈ lanesG g, xs.getD i 0 = ys.getD i 0) {i : Nat} (hi : i ∈ lanesG g) : (doG g xs).getD i 0 = (doG g ys).getD i 0 := by
  have hy' : g.Ok ys.length := by rw [hy]; exact h
  have hx' : g.Ok xs.length := by rw [hx]; exact h
  rw [doG_at hx', doG_at hy']
  have ea : xs.getD g.a 0 = ys.getD g.a 0 := e _ (by unfold lanesG; split <;> simp)
  have ei := e i hi
  unfold stepF
  unfold lanesG at hi e
  split at e
  · rename_i q
    rw [q]
    simp only [ea, ei]
  · rename_i q
    have eb : xs.getD g.b.toNat 0 = ys.getD g.b.toNat 0 := e _ (List.mem_cons_of_mem _ (List.mem_singleton.mpr rfl))
    cases q2 : g.k <;> simp only [ea, eb, ei]
theorem do_comm {g h : Gate} {n : Nat} (hg : g.Ok n) (hh : h.Ok n) (t : touch g h = false) {xs : List Int} (hx : xs.length = n) : doG g (doG h xs) = doG h (doG g xs) := by
  have no : ∀ l, l ∈ lanesG g → l ∉ lanesG h := fun l h1 h2 => by
    rw [touch_iff.mpr ⟨l, h1, h2⟩] at t
    cases t
  have lh : (doG h xs).length = n := by rw [doG_len, hx]
  have lg : (doG g xs).length = n := by rw [doG_len, hx]
  refine extI (by rw [doG_len, doG_len, doG_len, doG_len]) fun i _ => ?_
  by_cases i1 : i ∈ lanesG g
  · have i2 := no i i1
    rw [do_out hh lg i2]
    exact do_agree hg lh hx (fun j hj => do_out hh hx (no j hj)) i1
  · rw [do_out hg lh i1]
    by_cases i2 : i ∈ lanesG h
    · exact do_agree hh hx lg (fun j hj => (do_out hg hx fun z => no j z hj).symm) i2
    · rw [do_out hh hx i2, do_out hh lg i2, do_out hg hx i1]
theorem run_front {n : Nat} {g : Gate} (hg : g.Ok n) : ∀ {as : List Gate} {xs : List Int}, (∀ h ∈ as, h.Ok n ∧ touch g h = false) → xs.length = n → runG (as ++ [g]) xs = runG (g :: as) xs
  | [], _, _, _ => rfl
  | a :: as, xs, ha, hx => by
    have h1 := ha a (List.mem_cons_self ..)
    show runG (as ++ [g]) (doG a xs) = runG (a :: as) (doG g xs)
    rw [run_front hg (fun h hh => ha h (List.mem_cons_of_mem _ hh)) (by rw [doG_len, hx])]
    show runG as (doG g (doG a xs)) = runG as (doG a (doG g xs))
    rw [do_comm hg h1.1 h1.2 hx]
instance : DecidableEq Gate := fun g h => decidable_of_iff (g.k = h.k ∧ g.a = h.a ∧ g.b = h.b) ⟨fun ⟨a, b, c⟩ => gate_ext a b c, fun e => by rw [e]; exact ⟨rfl, rfl, rfl⟩⟩
theorem split_first {g : Gate} : ∀ {hs : List Gate}, g ∈ hs → ∃ as bs, hs = as ++ g :: bs ∧ g ∉ as
  | h :: hs, m => by
    by_cases e : h = g
    · exact ⟨[], hs, by rw [e]; rfl, fun z => nomatch z⟩
    · rcases List.mem_cons.mp m with q | q
      · exact absurd q.symm e
      · obtain ⟨as, bs, e1, e2⟩ := split_first q
        exact ⟨h :: as, bs, by rw [e1]; rfl, fun z => by
          rcases List.mem_cons.mp z with z | z
          · exact e z.symm
          · exact e2 z⟩
/-- the same list for each lane: the same is told -/
theorem run_shuffle {n : Nat} : ∀ {gs hs : List Gate} {xs : List Int}, (∀ g ∈ gs, g.Ok n) → (∀ g ∈ hs, g.Ok n) → (∀ l, ofL l gs = ofL l hs) → xs.length = n → runG gs xs = runG hs xs
  | [], hs, xs, _, _, e, _ => by
    cases hs with
    | nil => rfl
    | cons h hs =>
      cases q : lanesG h with
      | nil => exact absurd q (lanesG_ne h)
      | cons l r =>
        have := e l
        have hc : hasL l h = true := hasL_iff.mpr (by rw [q]; exact List.mem_cons_self ..)
        unfold ofL at this
        rw [List.filter_cons_of_pos hc] at this
        cases this
  | g :: gs, hs, xs, hg, hh, e, hx => by
    have gm : g ∈ hs := by
      cases q : lanesG g with
      | nil => exact absurd q (lanesG_ne g)
      | cons l r =>
        have hc : hasL l g = true := hasL_iff.mpr (by rw [q]; exact List.mem_cons_self ..)
        have : g ∈ ofL l hs := by rw [← e l]; exact List.mem_filter.mpr ⟨List.mem_cons_self .., hc⟩
        exact (List.mem_filter.mp this).1
    obtain ⟨as, bs, eh, na⟩ := split_first gm
    have nt : ∀ a ∈ as, touch g a = false := fun a ha => by
      cases t : touch g a with
      | false => rfl
      | true =>
        obtain ⟨l, l1, l2⟩ := touch_iff.mp t
        have el := e l
        unfold ofL at el
        rw [List.filter_cons_of_pos (hasL_iff.mpr l1), eh, List.filter_append] at el
        have ma : a ∈ as.filter (hasL l) := List.mem_filter.mpr ⟨ha, hasL_iff.mpr l2⟩
        cases qf : as.filter (hasL l) with
        | nil => rw [qf] at ma; cases ma
        | cons b fs =>
          rw [qf] at el
          injection el with e1 _
          have : b ∈ as := (List.mem_filter.mp (by rw [qf]; exact List.mem_cons_self .. : b ∈ as.filter _)).1
          rw [← e1] at this
          exact absurd this na
    have hg1 := hg g (List.mem_cons_self ..)
    have ok : ∀ a ∈ as ++ bs, a.Ok n := fun a ha => hh a (by
      rw [eh]
      rcases List.mem_append.mp ha with z | z
      · exact List.mem_append_left _ z
      · exact List.mem_append_right _ (List.mem_cons_of_mem _ z))
    have el : ∀ l, ofL l gs = ofL l (as ++ bs) := fun l => by
      have := e l
      unfold ofL at this ⊢
      rw [eh, List.filter_append] at this
      rw [List.filter_append]
      by_cases c : hasL l g = true
      · rw [List.filter_cons_of_pos c, List.filter_cons_of_pos c] at this
        have fa : as.filter (hasL l) = [] := by
          rw [List.filter_eq_nil_iff]
          intro a ha z
          have := nt a ha
          rw [touch_iff.mpr ⟨l, hasL_iff.mp c, hasL_iff.mp z⟩] at this
          cases this
        rw [fa] at this ⊢
        injection this
      · rw [List.filter_cons_of_neg c, List.filter_cons_of_neg c] at this
        exact this
    have h1 := run_shuffle (gs := gs) (hs := as ++ bs) (xs := doG g xs) (fun a ha => hg a (List.mem_cons_of_mem _ ha)) ok el (by rw [doG_len, hx])
    show runG gs (doG g xs) = runG hs xs
    rw [h1, eh, show as ++ g :: bs = (as ++ [g]) ++ bs by rw [List.append_assoc]; rfl, runG_append (as ++ [g]), run_front hg1 (fun a ha => ⟨ok a (List.mem_append_left _ ha), nt a ha⟩) hx, runG_append]
    rfl
theorem run_lay {n : Nat} {gs : List Gate} {o : List Nat} (h : Lay gs o) (hg : ∀ g ∈ gs, g.Ok n) {xs : List Int} (hx : xs.length = n) : runG (pickG gs o) xs = runG gs xs := by
  refine run_shuffle (fun g hg' => ?_) hg (fun l => ofL_pick h l) hx
  obtain ⟨i, hi, rfl⟩ := List.mem_map.mp hg'
  exact hg _ (List.mem_of_getElem? (get_of (h.lt hi)))
/-! ### the levels of gates in such an order -/
theorem lv_lay {gs : List Gate} {o : List Nat} (h : Lay gs o) : lvs (pickG gs o) = o.map (lv gs) := by
  have key : ∀ (k : Nat) (p r : List Nat), p.length = k → o = p ++ r → lvP (pickG gs p) = p.map fun i => (gs.getD i g0, lv gs i) := by
    intro k
    induction k with
    | zero => intro p _ hp _; rw [List.eq_nil_of_length_eq_zero hp]; rfl
    | succ k ih =>
      intro p0 r hp e
      obtain ⟨p, i, rfl⟩ : ∃ p i, p0 = p ++ [i] := ⟨p0.dropLast, p0.getLast (by intro z; rw [z] at hp; cases hp), (List.dropLast_concat_getLast _).symm⟩
      have e' : o = p ++ (i :: r) := by rw [e, List.append_assoc]; rfl
      have hi : i < gs.length := h.lt (by rw [e']; exact List.mem_append_right _ (List.mem_cons_self ..))
      have ih := ih p _ (by rw [List.length_append] at hp; simpa using hp) e'
      unfold pickG at ih ⊢
      rw [List.map_append, List.map_append, List.map_singleton, List.map_singleton, lvP_snoc, ih]
      congr 2
      rw [show (gs.getD i g0, lvAt (p.map fun i => (gs.getD i g0, lv gs i)) (gs.getD i g0)) = (gs.getD i g0, lv gs i) from ?_]
      congr 1
      have pw := h.rise
      rw [e', List.pairwise_append] at pw
      have nd := h.nodup
      rw [e'] at nd
      rw [lv_max (get_of hi)]
      unfold lvAt
      rw [List.filter_map, List.map_map]
      refine maxL_ext (fun x hx => ?_) fun x hx => ?_
      · obtain ⟨q, hq, rfl⟩ := List.mem_map.mp hx
        obtain ⟨q1, q2⟩ := List.mem_filter.mp hq
        have q2 : touch (gs.getD i g0) (gs.getD q g0) = true := q2
        have hqn : q < gs.length := h.lt (by rw [e']; exact List.mem_append_left _ q1)
        have le := pw.2.2 q q1 i (List.mem_cons_self ..)
        have ne : q ≠ i := fun z => (List.nodup_append.mp nd).2.2 q q1 i (List.mem_cons_self ..) z
        have lt : q < i := by
          refine Nat.lt_of_not_le fun z => ?_
          have := lv_lt (get_of hi) (get_of hqn) (by omega) q2
          omega
        exact le_maxL (List.mem_map.mpr ⟨q, List.mem_filter.mpr ⟨List.mem_range.mpr lt, q2⟩, rfl⟩)
      · obtain ⟨j, hj, rfl⟩ := List.mem_map.mp hx
        obtain ⟨j1, j2⟩ := List.mem_filter.mp hj
        have j1 := List.mem_range.mp j1
        have lt := lv_lt (get_of (gs := gs) (i := j) (by omega)) (get_of hi) j1 (touch_comm j2)
        have jm : j ∈ o := h.perm.mem_iff.mpr (List.mem_range.mpr (by omega))
        have jp : j ∈ p := by
          rw [e'] at jm
          rcases List.mem_append.mp jm with z | z
          · exact z
          · rcases List.mem_cons.mp z with z | z
            · omega
            · have := (List.pairwise_cons.mp pw.2.1).1 j z
              omega
        exact le_maxL (List.mem_map.mpr ⟨j, List.mem_filter.mpr ⟨jp, j2⟩, rfl⟩)
  have := key o.length o [] rfl (List.append_nil o).symm
  unfold lvs
  rw [this, List.map_map]
  rfl
end Mt


set_option Elab.async false
set_option linter.all false
namespace Mt
open PySem
/-! ### the layers, one behind another -/
theorem rows_perm {f : Nat → Nat} {xs : List Nat} : ∀ N, ((List.range N).map fun k => xs.filter fun x => decide (f x = k)).flatten.Perm (xs.filter fun x => decide (f x < N))
  | 0 => by rw [show xs.filter (fun x => decide (f x < 0)) = [] from List.filter_eq_nil_iff.mpr fun x _ z => absurd (of_decide_eq_true z) (Nat.not_lt_zero _)]; exact .refl _
  | N + 1 => by
    rw [List.range_succ, List.map_append, List.flatten_append, List.map_singleton, List.flatten_singleton]
    have h1 := rows_perm (f := f) (xs := xs) N
    have h2 := List.filter_append_perm (fun x => decide (f x < N)) (xs.filter fun x => decide (f x < N + 1))
    rw [List.filter_filter, List.filter_filter] at h2
    have e1 : (xs.filter fun a => decide (f a < N) && decide (f a < N + 1)) = xs.filter fun x => decide (f x < N) := List.filter_congr fun x _ => by
      by_cases q : f x < N
      · rw [decide_eq_true q, decide_eq_true (show f x < N + 1 by omega)]; rfl
      · rw [decide_eq_false q]; rfl
    have e2 : (xs.filter fun a => (!decide (f a < N)) && decide (f a < N + 1)) = xs.filter fun x => decide (f x = N) := List.filter_congr fun x _ => by
      by_cases q : f x = N
      · rw [decide_eq_true q, decide_eq_false (show ¬ f x < N by omega), decide_eq_true (show f x < N + 1 by omega)]; rfl
      · rw [decide_eq_false q]
        by_cases q2 : f x < N
        · rw [decide_eq_true q2]; rfl
        · rw [decide_eq_false q2, decide_eq_false (show ¬ f x < N + 1 by omega)]; rfl
    rw [e1, e2] at h2
    exact (h1.append_right _).trans h2
theorem lt_nl {ls : List Nat} {i : Nat} (h : i < ls.length) : ls.getD i 0 < nl ls := by
  have : ls.getD i 0 ∈ ls := by
    rw [List.getD_eq_getElem?_getD, List.getElem?_eq_getElem h]
    exact List.getElem_mem h
  exact le_maxL (xs := ls.map (· + 1)) (List.mem_map.mpr ⟨_, this, rfl⟩)
theorem flat_perm (ls : List Nat) : (rowsOf ls).flatten.Perm (List.range ls.length) := by
  have h := rows_perm (f := fun i => ls.getD i 0) (xs := List.range ls.length) (nl ls)
  have e : (List.range ls.length).filter (fun i => decide (ls.getD i 0 < nl ls)) = List.range ls.length := List.filter_eq_self.mpr fun i hi => decide_eq_true (lt_nl (List.mem_range.mp hi))
  rw [e] at h
  exact h
theorem flat_rise {f : Nat → Nat} : ∀ {rows : List (List Nat)} {k : Nat}, (∀ (j : Nat) r, rows[j]? = some r → ∀ x ∈ r, f x = k + j) → rows.flatten.Pairwise fun a b => f a ≤ f b
  | [], _, _ => List.Pairwise.nil
  | r :: rs, k, h => by
    rw [List.flatten_cons, List.pairwise_append]
    have h0 : ∀ x ∈ r, f x = k := fun x hx => h 0 r rfl x hx
    have ht : ∀ (j : Nat) r', rs[j]? = some r' → ∀ x ∈ r', f x = (k + 1) + j := fun j r' hj x hx => by have := h (j + 1) r' hj x hx; omega
    refine ⟨List.Pairwise.imp_of_mem (R := fun _ _ => True) (fun ha hb _ => by rw [h0 _ ha, h0 _ hb]; exact Nat.le_refl _) (List.pairwise_of_forall fun _ _ => trivial), flat_rise ht, fun a ha b hb => ?_⟩
    obtain ⟨r', hr', hb'⟩ := List.mem_flatten.mp hb
    obtain ⟨j, hj⟩ := List.getElem?_of_mem hr'
    rw [h0 a ha, ht j r' hj b hb']
    omega
theorem flat_pair : ∀ {rows rows' : List (List Nat)}, Paired (fun r r' : List Nat => r'.Perm r) rows rows' → rows'.flatten.Perm rows.flatten
  | _, _, .nil => .refl _
  | _, _, .cons h t => by rw [List.flatten_cons, List.flatten_cons]; exact h.append (flat_pair t)
theorem pair_at {α β : Type} {F : α → β → Prop} : ∀ {xs : List α} {ys : List β}, Paired F xs ys → ∀ (j : Nat) y, ys[j]? = some y → ∃ x, xs[j]? = some x ∧ F x y
  | _, _, .cons h t, 0, y, e => by cases e; exact ⟨_, rfl, h⟩
  | _, _, .cons h t, j + 1, y, e => pair_at t j y e
  | _, _, .nil, _, _, e => by cases e
/-- each layer in any sequence -/
theorem lay_of {gs : List Gate} {rows : List (List Nat)} (h : Paired (fun r r' : List Nat => r'.Perm r) (rowsOf (lvs gs)) rows) : Lay gs rows.flatten := by
  refine ⟨(flat_pair h).trans (by have := flat_perm (lvs gs); rwa [lvs_len] at this), flat_rise (f := lv gs) (k := 0) fun j r hj x hx => ?_⟩
  obtain ⟨r0, h1, h2⟩ := pair_at h j r hj
  unfold rowsOf at h1
  rw [List.getElem?_map] at h1
  cases q : (List.range (nl (lvs gs)))[j]? with
  | none => rw [q] at h1; cases h1
  | some k =>
    rw [q] at h1
    have ek : k = j := by
      have hj' := (List.getElem?_eq_some_iff.mp q).1
      rw [List.length_range] at hj'
      rw [List.getElem?_range hj'] at q
      exact (Option.some.inj q).symm
    have e0 : rowAt (lvs gs) k = r0 := Option.some.inj h1
    have hx0 : x ∈ rowAt (lvs gs) k := by rw [e0]; exact h2.mem_iff.mp hx
    have := of_decide_eq_true (List.mem_filter.mp hx0).2
    show lv gs x = 0 + j
    unfold lv
    omega
theorem pair_refl : ∀ rows : List (List Nat), Paired (fun r r' : List Nat => r'.Perm r) rows rows
  | [] => .nil
  | _ :: rs => .cons (.refl _) (pair_refl rs)
theorem lay_rows (gs : List Gate) : Lay gs (rowsOf (lvs gs)).flatten := lay_of (pair_refl _)
/-! ### blocks -/
def blk (a m : Nat) : List Nat := (List.range m).map (a + ·)
def blocksOf : Nat → List Nat → List (List Nat)
  | _, [] => []
  | a, m :: ms => blk a m :: blocksOf (a + m) ms
theorem blocks_snoc : ∀ (ms : List Nat) (a m : Nat), blocksOf a (ms ++ [m]) = blocksOf a ms ++ [blk (a + ms.sum) m]
  | [], a, m => rfl
  | k :: ms, a, m => by
    show blk a k :: blocksOf (a + k) (ms ++ [m]) = blk a k :: (blocksOf (a + k) ms ++ [blk (a + (k + ms.sum)) m])
    rw [blocks_snoc ms, Nat.add_assoc]
theorem blocks_flat : ∀ (ms : List Nat) (a : Nat), (blocksOf a ms).flatten = blk a ms.sum
  | [], a => rfl
  | k :: ms, a => by
    show (blk a k :: blocksOf (a + k) ms).flatten = blk a (k + ms.sum)
    rw [List.flatten_cons, blocks_flat ms]
    unfold blk
    rw [List.range_add, List.map_append, List.map_map]
    congr 1
    exact List.map_congr_left fun i _ => by show a + k + i = a + (k + i); omega
theorem blk0 (m : Nat) : blk 0 m = List.range m := by
  unfold blk
  rw [show (fun x : Nat => 0 + x) = id from funext fun x => Nat.zero_add x, List.map_id]
def cnt (ls : List Nat) (k : Nat) : Nat := (ls.filter fun x => decide (x = k)).length
def below (ls : List Nat) (k : Nat) : Nat := (ls.filter fun x => decide (x < k)).length
theorem row_len (ls : List Nat) (k : Nat) : (rowAt ls k).length = cnt ls k := by
  unfold rowAt cnt
  have e : ls = (List.range ls.length).map fun i => ls.getD i 0 := by
    apply List.ext_getElem?
    intro i
    rw [List.getElem?_map]
    by_cases h : i < ls.length
    · rw [List.getElem?_range h, List.getElem?_eq_getElem h]
      show _ = some (ls.getD i 0)
      rw [List.getD_eq_getElem?_getD, List.getElem?_eq_getElem h]; rfl
    · rw [List.getElem?_eq_none (by omega), List.getElem?_eq_none (by rw [List.length_range]; omega)]; rfl
  have e2 : (ls.filter fun x => decide (x = k)).length = (((List.range ls.length).map fun i => ls.getD i 0).filter fun x => decide (x = k)).length := by rw [← e]
  rw [e2, List.filter_map, List.length_map]
  rfl
theorem below_succ (ls : List Nat) (k : Nat) : below ls (k + 1) = below ls k + cnt ls k := by
  unfold below cnt
  have h2 := (List.filter_append_perm (fun x => decide (x < k)) (ls.filter fun x => decide (x < k + 1))).length_eq
  rw [List.filter_filter, List.filter_filter, List.length_append] at h2
  have e1 : (ls.filter fun a => decide (a < k) && decide (a < k + 1)) = ls.filter fun x => decide (x < k) := List.filter_congr fun x _ => by
    by_cases q : x < k
    · rw [decide_eq_true q, decide_eq_true (show x < k + 1 by omega)]; rfl
    · rw [decide_eq_false q]; rfl
  have e2 : (ls.filter fun a => (!decide (a < k)) && decide (a < k + 1)) = ls.filter fun x => decide (x = k) := List.filter_congr fun x _ => by
    by_cases q : x = k
    · rw [decide_eq_true q, decide_eq_false (show ¬ x < k by omega), decide_eq_true (show x < k + 1 by omega)]; rfl
    · rw [decide_eq_false q]
      by_cases q2 : x < k
      · rw [decide_eq_true q2]; rfl
      · rw [decide_eq_false q2, decide_eq_false (show ¬ x < k + 1 by omega)]; rfl
  rw [e1, e2] at h2
  omega
theorem below_sum (ls : List Nat) : ∀ N, below ls N = ((List.range N).map (cnt ls)).sum
  | 0 => by
    unfold below
    rw [show ls.filter (fun x => decide (x < 0)) = [] from List.filter_eq_nil_iff.mpr fun x _ z => absurd (of_decide_eq_true z) (Nat.not_lt_zero _)]
    rfl
  | N + 1 => by rw [below_succ, below_sum ls N, List.range_succ, List.map_append, List.sum_append]; rfl
/-- where numbers rise, equal ones stand together -/
theorem rise_split : ∀ {ks : List Nat} (k : Nat), ks.Pairwise (· ≤ ·) → ∀ i, i < ks.length → (ks.getD i 0 = k ↔ below ks k ≤ i ∧ i < below ks k + cnt ks k)
  | [], _, _, i, hi => by cases hi
  | x :: ks, k, h, i, hi => by
    obtain ⟨hx, ht⟩ := List.pairwise_cons.mp h
    have bx : below (x :: ks) k = (if x < k then 1 else 0) + below ks k := by
      unfold below
      by_cases q : x < k
      · rw [List.filter_cons_of_pos (p := fun x => decide (x < k)) (decide_eq_true q), if_pos q, List.length_cons]; omega
      · rw [List.filter_cons_of_neg (p := fun x => decide (x < k)) (fun z => q (of_decide_eq_true z)), if_neg q]; omega
    have cx : cnt (x :: ks) k = (if x = k then 1 else 0) + cnt ks k := by
      unfold cnt
      by_cases q : x = k
      · rw [List.filter_cons_of_pos (p := fun x => decide (x = k)) (decide_eq_true q), if_pos q, List.length_cons]; omega
      · rw [List.filter_cons_of_neg (p := fun x => decide (x = k)) (fun z => q (of_decide_eq_true z)), if_neg q]; omega
    have b0 : k ≤ x → below ks k = 0 := fun q => by
      unfold below
      rw [show ks.filter (fun y => decide (y < k)) = [] from List.filter_eq_nil_iff.mpr fun y hy z => by have := hx y hy; have := of_decide_eq_true z; omega]
      rfl
    have c0 : k < x → cnt ks k = 0 := fun q => by
      unfold cnt
      rw [show ks.filter (fun y => decide (y = k)) = [] from List.filter_eq_nil_iff.mpr fun y hy z => by have := hx y hy; have := of_decide_eq_true z; omega]
      rfl
    rw [bx, cx]
    cases i with
    | zero =>
      show x = k ↔ _
      rcases Nat.lt_trichotomy x k with q | q | q
      · rw [if_pos q, if_neg (by omega)]; omega
      · rw [if_neg (by omega), if_pos q, b0 (by omega)]; omega
      · rw [if_neg (by omega), if_neg (by omega), b0 (by omega), c0 q]; omega
    | succ i =>
      have ih := rise_split k ht i (by simpa using hi)
      show ks.getD i 0 = k ↔ _
      rw [ih]
      rcases Nat.lt_trichotomy x k with q | q | q
      · rw [if_pos q, if_neg (by omega)]; omega
      · rw [if_neg (by omega), if_pos q]
        have := b0 (by omega)
        omega
      · rw [if_neg (by omega), if_neg (by omega)]
        have := b0 (by omega)
        have := c0 q
        omega
theorem below_le (ls : List Nat) (k : Nat) : below ls k + cnt ls k ≤ ls.length := by
  rw [← below_succ]
  exact List.length_filter_le ..
theorem row_rise {ks : List Nat} (h : ks.Pairwise (· ≤ ·)) (k : Nat) : rowAt ks k = blk (below ks k) (cnt ks k) := by
  have hl := below_le ks k
  refine sorted_eq ((List.perm_ext_iff_of_nodup (List.nodup_range.filter _) ?_).mpr fun i => ?_) (List.pairwise_lt_range.filter _) ?_
  · exact (List.pairwise_map.mpr (List.Pairwise.imp (fun h => by omega) List.pairwise_lt_range))
  · constructor
    · intro hi
      obtain ⟨h1, h2⟩ := List.mem_filter.mp hi
      have h1 := List.mem_range.mp h1
      have h3 := (rise_split k h i h1).mp (of_decide_eq_true h2)
      exact List.mem_map.mpr ⟨i - below ks k, List.mem_range.mpr (by omega), by omega⟩
    · intro hi
      obtain ⟨j, hj, e⟩ := List.mem_map.mp hi
      have hj := List.mem_range.mp hj
      have lt : i < ks.length := by omega
      exact List.mem_filter.mpr ⟨List.mem_range.mpr lt, decide_eq_true ((rise_split k h i lt).mpr ⟨by omega, by omega⟩)⟩
  · exact (List.pairwise_map.mpr (List.Pairwise.imp (fun h => by omega) List.pairwise_lt_range))
theorem rows_rise {ks : List Nat} (h : ks.Pairwise (· ≤ ·)) : ∀ N, (List.range N).map (rowAt ks) = blocksOf 0 ((List.range N).map (cnt ks))
  | 0 => rfl
  | N + 1 => by rw [List.range_succ, List.map_append, List.map_append, rows_rise h N, List.map_singleton, List.map_singleton, blocks_snoc, row_rise h, below_sum, Nat.zero_add]
theorem cnt_perm {ks ls : List Nat} (p : ks.Perm ls) (k : Nat) : cnt ks k = cnt ls k := (p.filter _).length_eq
theorem nl_perm {ks ls : List Nat} (p : ks.Perm ls) : nl ks = nl ls := by
  refine maxL_ext (fun x hx => ?_) fun x hx => ?_
  · exact le_maxL ((p.map _).mem_iff.mp hx)
  · exact le_maxL ((p.map _).mem_iff.mpr hx)
/-- the layers of the gates layer by layer -/
theorem rows_lay {gs : List Gate} {o : List Nat} (h : Lay gs o) : rowsOf (lvs (pickG gs o)) = blocksOf 0 ((rowsOf (lvs gs)).map List.length) := by
  rw [lv_lay h]
  have pm : (o.map (lv gs)).Perm (lvs gs) := by
    have h1 := h.perm.map (lv gs)
    have e : (List.range gs.length).map (lv gs) = lvs gs := by
      apply List.ext_getElem?
      intro i
      rw [List.getElem?_map]
      by_cases hi : i < gs.length
      · rw [List.getElem?_range hi]
        show some (lv gs i) = _
        unfold lv
        rw [List.getD_eq_getElem?_getD, List.getElem?_eq_getElem (by rw [lvs_len]; exact hi)]
        rfl
      · rw [List.getElem?_eq_none (by rw [List.length_range]; omega), List.getElem?_eq_none (by rw [lvs_len]; omega)]; rfl
    rw [e] at h1
    exact h1
  unfold rowsOf
  rw [rows_rise (List.pairwise_map.mpr h.rise), nl_perm pm, List.map_map]
  congr 1
  exact List.map_congr_left fun k _ => by show cnt (o.map (lv gs)) k = (rowAt (lvs gs) k).length; rw [row_len, cnt_perm pm]
theorem rows_sum (gs : List Gate) : ((rowsOf (lvs gs)).map List.length).sum = gs.length := by
  have := (flat_perm (lvs gs)).length_eq
  rw [List.length_flatten, List.length_range, lvs_len] at this
  exact this
theorem by_lay {gs : List Gate} {o : List Nat} (h : Lay gs o) : pickG (pickG gs o) (rowsOf (lvs (pickG gs o))).flatten = pickG gs o := by
  rw [rows_lay h, blocks_flat, blk0, rows_sum]
  have : (pickG gs o).length = gs.length := by unfold pickG; rw [List.length_map, h.len]
  rw [← this, pick_range]
end Mt


set_option Elab.async false
set_option linter.all false
namespace Mt
open PySem
/-! ### cones -/
def hit (g : Gate) (s : List Nat) : Bool := s.contains g.a || (decide (g.k = .sort) && s.contains g.b.toNat)
def put (s : List Nat) (l : Nat) : List Nat := if s.contains l then s else s ++ [l]
def seenAt (g : Gate) (s : List Nat) : List Nat :=
  match g.k with
  | .add => s
  | .copy => put (s.erase g.a) g.b.toNat
  | .sort => put (put s g.a) g.b.toNat
  | .low => put s g.b.toNat
  | .high => put s g.b.toNat
theorem mem_put {s : List Nat} {l m : Nat} : m ∈ put s l ↔ m ∈ s ∨ m = l := by
  unfold put
  split
  · rename_i h
    have := List.contains_iff_mem.mp h
    exact ⟨.inl, fun z => z.elim id fun e => by rw [e]; exact this⟩
  · rw [List.mem_append, List.mem_singleton]
theorem put_nodup {s : List Nat} {l : Nat} (h : s.Nodup) : (put s l).Nodup := by
  unfold put
  split
  · exact h
  · rename_i c
    refine List.nodup_append.mpr ⟨h, by simp, fun a ha b hb e => ?_⟩
    rw [List.mem_singleton] at hb
    subst hb
    subst e
    exact c (List.contains_iff_mem.mpr ha)
theorem seen_nodup {g : Gate} {s : List Nat} (h : s.Nodup) : (seenAt g s).Nodup := by
  unfold seenAt
  cases g.k
  · exact put_nodup h
  · exact put_nodup h
  · exact put_nodup (put_nodup h)
  · exact put_nodup (h.erase _)
  · exact h
theorem seen_lt {n : Nat} {g : Gate} (o : g.Ok n) {s : List Nat} (h : ∀ l ∈ s, l < n) : ∀ l ∈ seenAt g s, l < n := by
  intro l hl
  unfold seenAt at hl
  have ha := o.a
  cases q : g.k <;> rw [q] at hl
  · have hb := o.b (by rw [q]; exact fun z => nomatch z)
    rcases mem_put.mp hl with z | z
    · exact h l z
    · omega
  · have hb := o.b (by rw [q]; exact fun z => nomatch z)
    rcases mem_put.mp hl with z | z
    · exact h l z
    · omega
  · have hb := o.b (by rw [q]; exact fun z => nomatch z)
    rcases mem_put.mp hl with z | z
    · rcases mem_put.mp z with z | z
      · exact h l z
      · omega
    · omega
  · have hb := o.b (by rw [q]; exact fun z => nomatch z)
    rcases mem_put.mp hl with z | z
    · exact h l (List.mem_of_mem_erase z)
    · omega
  · exact h l hl
/-- the places of a cone, and the lanes that are looked at -/
def conP : List Gate → Nat → List Nat → List Nat × List Nat
  | [], _, s => ([], s)
  | g :: gs, k, s => if hit g (conP gs (k + 1) s).2 then (k :: (conP gs (k + 1) s).1, seenAt g (conP gs (k + 1) s).2) else conP gs (k + 1) s
def conG : List Gate → List Nat → List Gate × List Nat
  | [], s => ([], s)
  | g :: gs, s => if hit g (conG gs s).2 then (g :: (conG gs s).1, seenAt g (conG gs s).2) else conG gs s
theorem con_snd : ∀ (gs : List Gate) (k : Nat) (s : List Nat), (conP gs k s).2 = (conG gs s).2
  | [], _, _ => rfl
  | g :: gs, k, s => by
    show (if hit g (conP gs (k + 1) s).2 then _ else _ : List Nat × List Nat).2 = (if hit g (conG gs s).2 then _ else _ : List Gate × List Nat).2
    rw [con_snd gs (k + 1) s]
    split
    · rfl
    · exact con_snd gs (k + 1) s
theorem con_fst : ∀ (gs : List Gate) (k : Nat) (s : List Nat), (∀ i ∈ (conP gs k s).1, k ≤ i ∧ i < k + gs.length) ∧ ((conP gs k s).1.map fun i => gs.getD (i - k) g0) = (conG gs s).1
  | [], _, _ => ⟨fun _ h => (by cases h), rfl⟩
  | g :: gs, k, s => by
    obtain ⟨h1, h2⟩ := con_fst gs (k + 1) s
    have tail : ((conP gs (k + 1) s).1.map fun i => (g :: gs).getD (i - k) g0) = (conG gs s).1 := by
      rw [← h2]
      refine List.map_congr_left fun i hi => ?_
      have := h1 i hi
      rw [show i - k = (i - (k + 1)) + 1 by omega]
      rfl
    unfold conP conG
    rw [con_snd gs (k + 1) s]
    split
    · refine ⟨fun i hi => ?_, ?_⟩
      · rcases List.mem_cons.mp hi with e | hi
        · rw [e, List.length_cons]; omega
        · have := h1 i hi; rw [List.length_cons]; omega
      · show (g :: gs).getD (k - k) g0 :: _ = g :: _
        rw [Nat.sub_self, tail]
        rfl
    · exact ⟨fun i hi => by have := h1 i hi; rw [List.length_cons]; omega, tail⟩
theorem con_pick (gs : List Gate) (s : List Nat) : pickG gs (conP gs 0 s).1 = (conG gs s).1 := (con_fst gs 0 s).2
theorem con_lt {gs : List Gate} {s : List Nat} {i : Nat} (h : i ∈ (conP gs 0 s).1) : i < gs.length := by have := (con_fst gs 0 s).1 i h; omega
theorem con_again : ∀ (gs : List Gate) (s : List Nat), conG (conG gs s).1 s = conG gs s
  | [], _ => rfl
  | g :: gs, s => by
    have ih := con_again gs s
    by_cases q : hit g (conG gs s).2 = true
    · have e : conG (g :: gs) s = (g :: (conG gs s).1, seenAt g (conG gs s).2) := by show (if _ then _ else _) = _; rw [if_pos q]
      rw [e]
      show (if hit g (conG (conG gs s).1 s).2 then _ else _) = _
      rw [ih, if_pos q]
    · have e : conG (g :: gs) s = conG gs s := by show (if _ then _ else _) = _; rw [if_neg q]
      rw [e]
      exact ih
theorem con_nodup : ∀ (gs : List Gate) {s : List Nat}, s.Nodup → (conG gs s).2.Nodup
  | [], _, h => h
  | g :: gs, s, h => by
    have ih := con_nodup gs h
    show (if _ then _ else _ : List Gate × List Nat).2.Nodup
    split
    · exact seen_nodup ih
    · exact ih
theorem con_ok {n : Nat} : ∀ {gs : List Gate} {s : List Nat}, (∀ g ∈ gs, g.Ok n) → (∀ l ∈ s, l < n) → ∀ l ∈ (conG gs s).2, l < n
  | [], _, _, h => h
  | g :: gs, s, hg, h => by
    have ih := con_ok (gs := gs) (fun x hx => hg x (List.mem_cons_of_mem _ hx)) h
    unfold conG
    split
    · exact seen_lt (hg g (List.mem_cons_self ..)) ih
    · exact ih
theorem con_sub : ∀ {gs : List Gate} {s : List Nat} {g : Gate}, g ∈ (conG gs s).1 → g ∈ gs
  | [], _, _, h => by cases h
  | g' :: gs, s, g, h => by
    unfold conG at h
    split at h
    · rcases List.mem_cons.mp h with e | h
      · rw [e]; exact List.mem_cons_self ..
      · exact List.mem_cons_of_mem _ (con_sub h)
    · exact List.mem_cons_of_mem _ (con_sub h)
/-- one gate that is hit, and one that is not -/
theorem hit_yes {n : Nat} {g : Gate} (o : g.Ok n) {s : List Nat} (hh : hit g s = true) {xs ys : List Int} (hx : xs.length = n) (hy : ys.length = n) (e : ∀ l ∈ seenAt g s, xs.getD l 0 = ys.getD l 0) : ∀ l ∈ s, (doG g xs).getD l 0 = (doG g ys).getD l 0 := by
  intro l hl
  rw [doG_at (by rw [hx]; exact o), doG_at (by rw [hy]; exact o)]
  unfold hit at hh
  rw [Bool.or_eq_true, Bool.and_eq_true, List.contains_iff_mem, List.contains_iff_mem, decide_eq_true_eq] at hh
  unfold seenAt at e
  unfold stepF
  cases q : g.k <;> rw [q] at e hh <;> dsimp only at e ⊢
  · have ha : g.a ∈ s := hh.elim id fun z => nomatch z.1
    rw [e g.a (mem_put.mpr (.inl ha)), e g.b.toNat (mem_put.mpr (.inr rfl)), e l (mem_put.mpr (.inl hl))]
  · have ha : g.a ∈ s := hh.elim id fun z => nomatch z.1
    rw [e g.a (mem_put.mpr (.inl ha)), e g.b.toNat (mem_put.mpr (.inr rfl)), e l (mem_put.mpr (.inl hl))]
  · rw [e g.a (mem_put.mpr (.inl (mem_put.mpr (.inr rfl)))), e g.b.toNat (mem_put.mpr (.inr rfl)), e l (mem_put.mpr (.inl (mem_put.mpr (.inl hl))))]
  · rw [e g.b.toNat (mem_put.mpr (.inr rfl))]
    by_cases c : l = g.a
    · rw [if_pos c, if_pos c]
    · rw [if_neg c, if_neg c]
      exact e l (mem_put.mpr (.inl ((List.mem_erase_of_ne c).mpr hl)))
  · have ha : g.a ∈ s := hh.elim id fun z => nomatch z.1
    rw [e g.a ha, e l hl]
theorem hit_no {n : Nat} {g : Gate} (o : g.Ok n) {s : List Nat} (hh : ¬ hit g s = true) {xs : List Int} (hx : xs.length = n) : ∀ l ∈ s, (doG g xs).getD l 0 = xs.getD l 0 := by
  intro l hl
  rw [doG_at (by rw [hx]; exact o)]
  unfold hit at hh
  rw [Bool.or_eq_true, Bool.and_eq_true, List.contains_iff_mem, List.contains_iff_mem, decide_eq_true_eq] at hh
  have h1 : l ≠ g.a := fun z => hh (.inl (by rw [← z]; exact hl))
  unfold stepF
  cases q : g.k <;> dsimp only
  · rw [if_neg h1]
  · rw [if_neg h1]
  · have h2 : l ≠ g.b.toNat := fun z => hh (.inr ⟨q, by rw [← z]; exact hl⟩)
    first | rw [if_neg h1, if_neg h2] | rw [if_neg h2, if_neg h1]
  · rw [if_neg h1]
  · rw [if_neg h1]
/-- the cone tells what all gates tell, and looks at these lanes alone -/
theorem con_run {n : Nat} : ∀ {gs : List Gate} {s : List Nat} {xs ys : List Int}, (∀ g ∈ gs, g.Ok n) → xs.length = n → ys.length = n → (∀ l ∈ (conG gs s).2, xs.getD l 0 = ys.getD l 0) → ∀ l ∈ s, (runG gs xs).getD l 0 = (runG (conG gs s).1 ys).getD l 0
  | [], _, _, _, _, _, _, e => e
  | g :: gs, s, xs, ys, hg, hx, hy, e => by
    have o := hg g (List.mem_cons_self ..)
    have ht : ∀ x ∈ gs, x.Ok n := fun x hx => hg x (List.mem_cons_of_mem _ hx)
    by_cases q : hit g (conG gs s).2 = true
    · have ec : conG (g :: gs) s = (g :: (conG gs s).1, seenAt g (conG gs s).2) := by show (if _ then _ else _) = _; rw [if_pos q]
      rw [ec] at e ⊢
      exact con_run (xs := doG g xs) (ys := doG g ys) ht (by rw [doG_len, hx]) (by rw [doG_len, hy]) (hit_yes o q hx hy e)
    · have ec : conG (g :: gs) s = conG gs s := by show (if _ then _ else _) = _; rw [if_neg q]
      rw [ec] at e ⊢
      exact con_run (xs := doG g xs) (ys := ys) ht (by rw [doG_len, hx]) hy fun l hl => by rw [hit_no o q hx l hl]; exact e l hl
/-! ### in sequence -/
def srt (s : List Nat) : List Nat := s.mergeSort fun a b => decide (a ≤ b)
theorem srt_perm (s : List Nat) : (srt s).Perm s := List.mergeSort_perm ..
theorem srt_rise (s : List Nat) : (srt s).Pairwise (· ≤ ·) := by
  have := List.pairwise_mergeSort (le := fun a b : Nat => decide (a ≤ b)) (fun a b c h1 h2 => decide_eq_true (Nat.le_trans (of_decide_eq_true h1) (of_decide_eq_true h2))) (fun a b => by
    rcases Nat.le_total a b with h | h
    · rw [decide_eq_true h]; rfl
    · rw [decide_eq_true h, Bool.or_true]) s
  exact this.imp fun h => of_decide_eq_true h
theorem srt_int {s : List Nat} {ms : List Int} (h1 : ms.Perm (s.map fun i : Nat => (i : Int))) (h2 : ms.Pairwise (· ≤ ·)) : ms = (srt s).map fun i : Nat => (i : Int) := by
  refine List.Perm.eq_of_pairwise (le := (· ≤ ·)) (fun a b _ _ h h' => Int.le_antisymm h h') h2 ?_ (h1.trans ((srt_perm s).map _).symm)
  exact List.pairwise_map.mpr ((srt_rise s).imp fun h => Int.ofNat_le.mpr h)
end Mt


set_option Elab.async false
set_option linter.all false
set_option maxRecDepth 100000
set_option maxHeartbeats 2000000
namespace Dl
open PySem PySem.Spec PyProof.Rows L2 ClX
section
theorem mulSelf (l : Addr) (items : Array Value) (n : Nat) (dd : Option Addr) (sl : Array (Option Value)) (x : Int) (u : Tok) (c0 : (decide (x < -(2 ^ 63)) || decide (x ≥ 2 ^ 63)) = false) (c1 : (items.isEmpty || x == 1) = true) :
    Meets (Builtin.«tuple.__mul__» ⟨[.ref l, .int x u], []⟩) (fun _ R s => s.heap.get? l = some { cls := .type "tuple", dict := dd, data := .seq items n, slots := sl } ∧ R (.ok (.ret (Value.ref l))) s) :=
  .of_wp fun prog w A R s h => by
    obtain ⟨hp, g, d, tk, os⟩ := s
    obtain ⟨hl, h⟩ := h
    have f1 := AutoSeq1.idx_int
    wp_walk using wpAny_loadPart' hl
    repeat (first
      | (refine wpAny_ite_false (decide_eq_false (by rw [c0]; exact Bool.false_ne_true)) ?_; wp_walk using wpAny_loadPart' hl)
      | (refine wpAny_ite_true (decide_eq_true c1) ?_; wp_walk using wpAny_loadPart' hl))
    all_goals first | exact ⟨_, rfl, h⟩ | skip
theorem mulNone (l : Addr) (items : Array Value) (n : Nat) (dd : Option Addr) (sl : Array (Option Value)) (x : Int) (u : Tok) (c0 : (decide (x < -(2 ^ 63)) || decide (x ≥ 2 ^ 63)) = false) (c1 : (items.isEmpty || x == 1) = false) (c2 : (decide (x ≤ 0) || items.isEmpty) = true) :
    Meets (Builtin.«tuple.__mul__» ⟨[.ref l, .int x u], []⟩) (fun _ R s => s.heap.get? l = some { cls := .type "tuple", dict := dd, data := .seq items n, slots := sl } ∧ R (.ok (.ret (Value.ref s.heap.objs.size))) { s with heap := s.heap.push { cls := Value.type "tuple", data := Data.seq #[] }, toks := s.toks }) :=
  .of_wp fun prog w A R s h => by
    obtain ⟨hp, g, d, tk, os⟩ := s
    obtain ⟨hl, h⟩ := h
    have f1 := AutoSeq1.idx_int
    wp_walk using wpAny_loadPart' hl
    repeat (first
      | (refine wpAny_ite_false (decide_eq_false (by rw [c0]; exact Bool.false_ne_true)) ?_; wp_walk using wpAny_loadPart' hl)
      | (refine wpAny_ite_false (decide_eq_false (by rw [c1]; exact Bool.false_ne_true)) ?_; wp_walk using wpAny_loadPart' hl)
      | (refine wpAny_ite_true (decide_eq_true c2) ?_; wp_walk using wpAny_loadPart' hl))
    all_goals first | exact ⟨_, rfl, h⟩ | skip
variable {X : Cx} {sl : List Ent} {a b : Expr} {pos : Pos} {Rs : List RV}
/-- a tuple so many times -/
theorem op_repA : OpR X (binaryOp .Mult) (fun x y H Q => ∃ l xs, ∃ k : Nat, x = .ref l ∧ y = .int (k : Int) ∧ SqT X.K H l xs ∧ k ≤ 1000 ∧ xs.length ≤ 1000 ∧ (xs = [] ∨ k = 1 → Q (.ref l) H) ∧ (xs ≠ [] → k ≠ 1 → ∀ p, H p = none → Q (.ref p) (upd H p (.tup (List.replicate k xs).flatten)))) := by
  intro pins s σ H x y v u Q I rx ry h
  obtain ⟨l, xs, k, rfl, rfl, hT, h1, hz, q1, q2⟩ := h
  by_cases c : xs = [] ∨ k = 1
  · cases rx
    obtain ⟨t, rfl⟩ := ry
    obtain ⟨its, r, ⟨⟨cls, dd, data, sl⟩, ho, hc, n, hd⟩, hs⟩ := I.tuple hT
    simp only at hc hd
    subst hc hd
    have hle : its.length = xs.length := r.length.symm
    have c0 : (decide ((k : Int) < -(2 ^ 63)) || decide ((k : Int) ≥ 2 ^ 63)) = false := by
      rw [decide_eq_false (by omega), decide_eq_false (by omega)] <;> rfl
    have c1 : (its.toArray.isEmpty || (k : Int) == 1) = true := by
      rcases c with c | c
      · subst c
        have : its = [] := List.eq_nil_of_length_eq_zero hle
        subst this
        rfl
      · subst c
        simp
    exact wpAny_binaryOp_repeat_ref (T := "tuple") (U := "int") (by decide) ⟨_, ho, rfl⟩ (fun s' => typeIs_int s' (k : Int) t) noFill_tuple_mul F.fills_int_mul F.slot_int_rmul repeat_tuple F.slot_int_index.lookup
      (call_meets F.slot_int_rmul (typeIs_int s (k : Int) t) F.entry_int_rmul (F.args_int_rmul_2 _ _) (int_rmul_tuple (k : Int) t l its.toArray n dd sl)
        ⟨ho, rfl, ⟨_, ho, rfl⟩, call_meets F.slot_tuple_mul ⟨_, ho, rfl⟩ F.entry_tuple_mul (F.args_tuple_mul_2 _ _) (mulSelf l its.toArray n dd sl (k : Int) t c0 c1) ⟨ho, ⟨.ref l, H, I, rfl, q1 c⟩⟩⟩)
  · have hne : xs ≠ [] := fun e => c (.inl e)
    have hk1 : k ≠ 1 := fun e => c (.inr e)
    by_cases k0 : k = 0
    · subst k0
      cases rx
      obtain ⟨t, rfl⟩ := ry
      obtain ⟨its, r, ⟨⟨cls, dd, data, sl⟩, ho, hc, n, hd⟩, hs⟩ := I.tuple hT
      simp only at hc hd
      subst hc hd
      have hle : its.length = xs.length := r.length.symm
      have hi : its.toArray.isEmpty = false := by
        cases its with
        | nil => exact absurd (List.eq_nil_of_length_eq_zero hle.symm) hne
        | cons a b => rfl
      have c1 : (its.toArray.isEmpty || ((0 : Nat) : Int) == 1) = false := by rw [hi]; rfl
      refine wpAny_binaryOp_repeat_ref (T := "tuple") (U := "int") (by decide) ⟨_, ho, rfl⟩ (fun s' => typeIs_int s' ((0 : Nat) : Int) t) noFill_tuple_mul F.fills_int_mul F.slot_int_rmul repeat_tuple F.slot_int_index.lookup
        (call_meets F.slot_int_rmul (typeIs_int s ((0 : Nat) : Int) t) F.entry_int_rmul (F.args_int_rmul_2 _ _) (int_rmul_tuple ((0 : Nat) : Int) t l its.toArray n dd sl)
          ⟨ho, rfl, ⟨_, ho, rfl⟩, call_meets F.slot_tuple_mul ⟨_, ho, rfl⟩ F.entry_tuple_mul (F.args_tuple_mul_2 _ _) (mulNone l its.toArray n dd sl ((0 : Nat) : Int) t (by decide) c1 (by rw [hi]; rfl)) ⟨ho, ?_⟩⟩)
      refine ⟨.ref s.heap.objs.size, _, I.laid (t' := s.toks) (o := .tup []) (fun b ob q => Heap.get?_push_of_some _ q) (Nat.le_refl _) ?_, rfl, q2 hne (by decide) _ (I.hok.fresh (Nat.le_refl _))⟩
      exact ⟨Nat.zero_le _, [], .nil, IsTup.new _ _⟩
    · exact op_repT pins s σ H _ _ v u Q I rx ry ⟨l, (k : Int), xs, rfl, rfl, hT, hne, by omega, by omega, hz, fun p hp => by rw [Int.toNat_natCast]; exact q2 hne hk1 p hp⟩
theorem e_repT {n : Nat} (h : Ev X a sl (rTup X.K Rs)) (h' : Ev X b sl (iI (n : Int))) (hn : n ≤ 1000) (hl : Rs.length ≤ 1000) : Ev X (.BinOp a .Mult b pos) sl (rTup X.K (List.replicate n Rs).flatten) :=
  ev_of (pe_op op_repA pcan pcan) fun σ G H Q z k => h.can z fun v G1 H1 g1 ⟨t, vs, e1, q1, r1⟩ => h'.can (z.gr g1) fun u G2 H2 g2 ⟨i, e2, hi⟩ => by
    subst e1 hi
    have w := r1.len
    have r2 : PVs G2 Rs vs := r1.mono g2.g
    refine ⟨t, vs, n, rfl, e2, Dl.Same.tup (g2.g.trans g2.s) q1, hn, by omega, fun c => ?_, fun _ _ p hp => ?_⟩
    · refine k _ G2 H2 (g1.trans g2) ⟨t, vs, rfl, Dl.Same.tup g2.g q1, ?_⟩
      rcases c with c | c
      · subst c
        have : Rs = [] := List.eq_nil_of_length_eq_zero w
        subst this
        rw [show (List.replicate n ([] : List RV)).flatten = [] from by simp]
        exact .nil
      · subst c
        rw [show (List.replicate 1 Rs).flatten = Rs from by simp]
        exact r2
    · exact k _ _ _ ((g1.trans g2).trans (Gr.new g2.s hp)) ⟨p, (List.replicate n vs).flatten, rfl, SqT.of upd_same, (PVs.rep r2 n).mono (same_new (g2.s.free hp))⟩
end
end Dl


set_option Elab.async false
set_option linter.all false
set_option maxRecDepth 100000
set_option maxHeartbeats 2000000
namespace Dl
open PySem PySem.Spec PyProof.Rows L2 ClX
section
variable {X : Cx} {sl : List Ent} {B : Base} {L : Hp} {D : Ends} {rest : List Stmt} {pos : Pos}
/-- name = [.. for x in a tuple] on one line -/
theorem w_setCompT {α : Type} [Inhabited α] {elt it : Expr} {x y : Str} {px py spos : Pos} {scope : Scope} {xs : List α} {c : α → RV} (i j : Nat) (d : α → RV) (hN : X.N.Nodup) (src : Ev X it sl (rTup X.K (xs.map c))) (hn : xs.length ≤ 90000)
    (el : ∀ x ∈ xs, ∀ s H C cl fp, Ev (blkX X scope s H C cl fp) elt (setE (wipeE sl [j]) [j] [c x]) (d x)) (k : Wp X B L rest D (sl.set i (.own (xs.map d)))) (hc : X.calm = true := by rfl) (hj : X.N[j]? = some y := by rfl) (hl : (relabel scope X.env).names.lookup y = some .local := by rfl) (hb : blkC X.N X.env.scope scope [(y, j)] = true := by kernel_rfl)
    (hx : X.N[i]? = some x := by rfl) (hxl : X.env.scope.names.lookup x = some .local := by rfl) (hsw : swapsWith (.ListComp elt [⟨.Name y py, it, [], 0⟩] scope pos) (some (.Name x px)) spos.line X.env = pure true := by exact sw_true rfl rfl (by decide) (by decide +kernel))
    (hf : ∀ x, foldedSetIterable it X.env x = pure x := by intro _; rfl) : Wp X B L (.Assign [.Name x px] (.ListComp elt [⟨.Name y py, it, [], 0⟩] scope pos) spos :: rest) D sl := by
  refine w_setLcX (own := [(y, j)]) (g := gName j) i hc hN (pi_tup pcan) (blkOk_by hb) (fun s H C cl fp => pg_name hN hj (.inl hl) (.inr hl)) (src_T src).x (by simp) (fun _ _ => hn) (fun _ i => d (xs.getD i default)) (fun _ i _ hi s H C cl fp => el _ (getD_mem hi) s H C cl fp) (fun _ _ => ?_) hx hxl hsw hf
  rw [map_getD d xs]
  exact k
/-- name = [.. for x in range(m)] on one line -/
theorem w_setCompR {elt a : Expr} {x y : Str} {px py spos p1 p2 : Pos} {scope : Scope} {m : Nat} (i j : Nat) (d : Nat → RV) (hN : X.N.Nodup) (src : Ev X a sl (iI (m : Int))) (hn : m ≤ 90000) (hm : X.mg "range" = none)
    (el : ∀ l : Nat, l < m → ∀ s H C cl fp, Ev (blkX X scope s H C cl fp) elt (setE (wipeE sl [j]) [j] [iI (l : Int)]) (d l)) (k : Wp X B L rest D (sl.set i (.own ((List.range m).map d)))) (hc : X.calm = true := by rfl) (hg : Gl X "range" := by rfl) (he : starEach [a] X.env = [(false, eval a X.env)] := by rfl) (hj : X.N[j]? = some y := by rfl) (hl : (relabel scope X.env).names.lookup y = some .local := by rfl) (hb : blkC X.N X.env.scope scope [(y, j)] = true := by kernel_rfl)
    (hx : X.N[i]? = some x := by rfl) (hxl : X.env.scope.names.lookup x = some .local := by rfl) (hsw : swapsWith (.ListComp elt [⟨.Name y py, .Call (.Name "range" p1) [a] [] p2, [], 0⟩] scope pos) (some (.Name x px)) spos.line X.env = pure true := by exact sw_true rfl rfl (by decide) (by decide +kernel))
    (hf : ∀ x, foldedSetIterable (.Call (.Name "range" p1) [a] [] p2) X.env x = pure x := by intro _; rfl) : Wp X B L (.Assign [.Name x px] (.ListComp elt [⟨.Name y py, .Call (.Name "range" p1) [a] [] p2, [], 0⟩] scope pos) spos :: rest) D sl := by
  refine w_setLcX (own := [(y, j)]) (g := gName j) i hc hN (pi_range1 hg hm pcanA he) (blkOk_by hb) (fun s H C cl fp => pg_name hN hj (.inl hl) (.inr hl)) (src_range (j := j) src (by omega) (by omega) he).x (by simp) (fun _ _ => by rw [Int.toNat_natCast]; exact hn) (fun _ i => d i) (fun _ i _ hi s H C cl fp => el i (by omega) s H C cl fp) (fun _ _ => ?_) hx hxl hsw hf
  rw [Int.toNat_natCast]
  exact k
/-- if c: a slot is set that is read no more -/
theorem w_ifAny (i : Nat) {c : Expr} {u : List Stmt} {x0 : Ent} {Pb : Bool → Prop} (ei : sl[i]? = some x0) (h : EvT X c sl Pb) (h1 : Pb true → (∀ x, Wp X B L [] (dgo D X rest) (sl.set i x)) → Wp X B L u (dgo D X rest) sl) (k : ∀ x, Wp X B L rest D (sl.set i x)) : Wp X B L (.If c u [] pos :: rest) D sl := by
  refine w_if h (fun z => h1 z fun x => w_end (k x)) (fun z => w_end ?_)
  have e : sl.set i x0 = sl := by
    apply List.ext_getElem?
    intro j
    by_cases q : j = i
    · rw [q, ei]
      exact List.getElem?_set_self (List.getElem?_eq_some_iff.mp ei).1
    · rw [List.getElem?_set_ne (Ne.symm q)]
  have := k x0
  rwa [e] at this
/-! ### C(e, ..) with arguments that are one of several -/
theorem e_makeX {k : Nat} {C : Addr} {α : Type} {e : Expr} {es : List Expr} {p : Pos} {x : Str} {F : FnM α} {fs : α → List (Str × RV)} {Rs : List RV} {Pz : α → Prop} (h : HasMk X.prog X.w X.K X.mg X.base k C F) (hr : Room (k + 1) X.A) (hm : X.mg x = some (.ref C)) (ha : EvA X (e :: es) sl Rs) (op : ∀ G vs, PVs G Rs vs → ∃ z, PVs G (F.args z) vs ∧ Pz z) (h0 : ∀ z, F.o0 z = oI C []) (h1 : ∀ z, F.o1 z = oI C (fs z)) (hp : ∀ z, Pz z → F.pre z) (hg : Gl X x := by rfl) (hdb : (x == ("__debug__" : Str)) = false := by decide)
    (he : starEach (e :: es) X.env = (false, eval e X.env) :: starEach es X.env := by rfl) (hpl : (backTo pos (starEach es X.env)).any (·.1) = false := by rfl) : Ev X (.Call (.Name x p) (e :: es) [] pos) sl (rX Pz fun z => rIns C (fs z)) := by
  obtain ⟨f, fd, mk, hb, ok⟩ := h.ex
  refine ev_of (pe_make mk ok hr hg hm hb .nil pass0 pcanA hdb he hpl) fun σ G H Q s q => ha.can s fun vs G1 H1 g1 r1 y dx nx nd ne => ?_
  rw [List.append_nil]
  obtain ⟨z, rz, pz⟩ := op G1 vs r1
  have gx : G1 y = none := g1.s.free nx
  have s1 : Same H1 (upd (upd H1 dx (.own y)) y (.ins C dx [])) := fun b o e => by
    rw [upd_ne (ne_of_none e nx), upd_ne (ne_of_none e nd)]
    exact e
  refine ⟨z, G1, y, _, vs, g1.s.trans s1, rfl, upd_same, gx, by rw [h0]; exact ⟨dx, [], rfl, .nil⟩, rz, hp z pz, fun G2 H2 o2 g2 k1 k2 k3 => ⟨rfl, ?_⟩⟩
  rw [h1] at k3
  obtain ⟨dx2, ws, rfl, k4⟩ := k3
  refine q (.ref y) (upd G2 y (.ins C dx2 ws)) H2 (g1.trans ⟨g2.g.trans (same_new k2), fun b u _ e => ?_, fun b e => ?_, fun b u e => ?_, fun b e => ?_⟩) ⟨z, pz, y, dx2, ws, rfl, upd_same, k4.mono (same_new k2)⟩
  · exact g2.h b u (ne_of_none e nx) (s1 b u e)
  · cases qq : H1 b with
    | none => exact absurd qq e
    | some u => exact g2.t b (by rw [s1 b u qq]; exact fun z => nomatch z)
  · by_cases qb : b = y
    · rw [qb, upd_same] at e; rw [qb, k1]; exact e
    · rw [upd_ne qb] at e; exact g2.s b u e
  · cases qq : H1 b with
    | none => exact absurd qq e
    | some u =>
      rw [upd_ne (ne_of_none qq nx)]
      exact g2.n b (by rw [s1 b u qq]; exact fun z => nomatch z)
end
end Dl


set_option Elab.async false
set_option linter.all false
set_option maxRecDepth 100000
set_option maxHeartbeats 2000000
namespace Dl
open PySem PySem.Spec PyProof.Rows L2 ClX
/-! ### a new list of new lists, all of them spoilt -/
/-- a list that is not at a bad place -/
def rN (Bad : Addr → Prop) (Rs : List RV) : RV := ⟨fun G v => ∃ a vs, v = .ref a ∧ ¬ Bad a ∧ G a = some (.lst vs) ∧ PVs G Rs vs, fun s ⟨a, vs, e, n, q, p⟩ => ⟨a, vs, e, n, s _ _ q, p.mono s⟩⟩
theorem rN_le {K : PySem.W.Frag} {Bad : Addr → Prop} {Rs : List RV} : (rN Bad Rs).le (rLst K Rs) := fun _ _ ⟨a, vs, e, _, q, p⟩ => ⟨a, vs, e, SqL.of q, p⟩
theorem rN_pvs {K : PySem.W.Frag} {G : Hp} {Bad : Addr → Prop} : ∀ (rows : List (List RV)) (vs : List V), PVs G (rows.map (rN Bad)) vs → PVs G (rows.map (rLst K)) vs
  | [], _, h => by cases h; exact .nil
  | Rs :: rows, _, h => by
    cases h with
    | cons q1 q2 => exact .cons (rN_le _ _ q1) (rN_pvs rows _ q2)
theorem rN_rows {G : Hp} {Bad : Addr → Prop} : ∀ (rows : List (List RV)) (vs : List V), (∀ Rs ∈ rows, Rs.length ≤ 1000) → PVs G (rows.map (rN Bad)) vs → ∀ v ∈ vs, ∃ q ws, v = .ref q ∧ ¬ Bad q ∧ G q = some (.lst ws) ∧ ws.length ≤ 1000
  | [], _, _, h => by cases h; intro v hv; cases hv
  | Rs :: rows, _, hr, h => by
    cases h with
    | cons k1 k2 =>
      intro v hv
      rcases List.mem_cons.mp hv with e | hv
      · obtain ⟨q, ws, e2, nb, hg, pr⟩ := k1
        exact ⟨q, ws, e.trans e2, nb, hg, by rw [← pr.len]; exact hr Rs (List.mem_cons_self ..)⟩
      · exact rN_rows rows _ (fun Rs' h => hr Rs' (List.mem_cons_of_mem _ h)) k2 v hv
section
variable {X : Cx} {B : Base} {L : Hp} {D : Ends} {rest : List Stmt} {sl : List Ent} {σ σ' : L2.St} {G H H' : Hp}
theorem cs_of {st : Stmt} {t : TS} (h : PS X st t) (r : t (dgo D X rest) σ H) : canS X (st :: rest) D σ H := fun pins s I => (pss_cons h (pcanS (X := X) (st := rest))).run pins s σ H D I r
theorem cs_nil (r : D.nx σ H) : canS X [] D σ H := fun pins s I => (pss_nil (X := X)).run pins s σ H D I r
theorem At.spoil (a : At B L sl σ G H) (i j : Nat) (hσ : ∀ m, m ≠ i → m ≠ j → σ'[m]? = σ[m]?) (hl : σ'.length = σ.length) (hH : ∀ b o, H b = some o → H' b = some o) : At B L ((sl.set i .no).set j .no) σ' G H' := by
  have get : ∀ {m : Nat} {x : Ent}, x ≠ .no → ((sl.set i .no).set j .no)[m]? = some x → m ≠ i ∧ m ≠ j ∧ sl[m]? = some x := fun {m x} nx e => by
    rcases getElem?_set_cases e with ⟨_, z⟩ | ⟨nj, e⟩
    · exact absurd z nx
    · rcases getElem?_set_cases e with ⟨_, z⟩ | ⟨ni, e⟩
      · exact absurd z nx
      · exact ⟨ni, nj, e⟩
  have sub : Same G H' := fun b o e => hH b o (a.sat.sub b o e)
  refine ⟨⟨sub, fun m R e => ?_, fun m O e => ?_, fun m l O O' ne e1 e2 => ?_, by rw [List.length_set, List.length_set, hl]; exact a.sat.len⟩, ⟨a.gr.g, fun b o nm e => hH b o (a.gr.h b o nm e), fun b e => ?_, sub, a.gr.n⟩, a.lo, fun m O p e ep => ?_⟩
  · obtain ⟨h1, h2, h3⟩ := get (x := .val R) (by intro z; cases z) e
    obtain ⟨v, k1, k2⟩ := a.sat.val m R h3
    exact ⟨v, (hσ m h1 h2).trans k1, k2⟩
  · obtain ⟨h1, h2, h3⟩ := get (x := .mu O) (by intro z; cases z) e
    obtain ⟨p, o, k1, k2, k3, k4⟩ := a.sat.mu m O h3
    exact ⟨p, o, (hσ m h1 h2).trans k1, hH _ _ k2, k3, k4⟩
  · obtain ⟨h1, h2, h3⟩ := get (x := .mu O) (by intro z; cases z) e1
    obtain ⟨g1, g2, g3⟩ := get (x := .mu O') (by intro z; cases z) e2
    rw [hσ m h1 h2, hσ l g1 g2]
    exact a.sat.dis m l O O' ne h3 g3
  · have := a.gr.t b e
    cases q : H b with
    | none => exact absurd q this
    | some o => rw [hH b o q]; exact fun z => nomatch z
  · obtain ⟨h1, h2, h3⟩ := get (x := .mu O) (by intro z; cases z) e
    exact a.ow m O p h3 ((hσ m h1 h2).symm.trans ep)
/-- what an expression that makes a list of new lists is -/
def EvN (X : Cx) (e : Expr) (sl : List Ent) (rows : List (List RV)) : Prop := ∀ (Bad : Addr → Prop) (pins : List (Addr × Obj)) (s : Shared) (σ : L2.St) (G H : Hp) (Q : VK), Inv X pins σ H s → Sat sl σ G H → (∀ x, Bad x → H x ≠ none) → Post G H Q (.l (rows.map (rN Bad))) → wpAny (model X.prog X.w) X.A (eval e X.env) (EP X pins σ Q) X.xe s
theorem w_spoil (i j : Nat) {y r : Str} {e1 test : Expr} {u : List Stmt} {p0 pA pB pr py p1 p2 p3 p4 p5 pC q1 q2 q3 q4 pD : Pos} {jn jm} {rows : List (List RV)} (hij : i ≠ j) (hN : X.N.Nodup) (hA : EvN X e1 sl rows) (hB : EvT X test (sl.set i (.val (rLst X.K (rows.map (rLst X.K))))) (fun z => z = false)) (hr : ∀ Rs ∈ rows, Rs.length ≤ 1000) (hrl : rows.length ≤ 2000) (hil : i < sl.length) (hjl : j < sl.length) (k : Wp X B L rest D ((sl.set i .no).set j .no))
    (hc : X.calm = true := by rfl) (hi : X.N[i]? = some y := by rfl) (hj : X.N[j]? = some r := by rfl) (hx : Loc X.env.scope y := by first | exact Or.inl rfl | exact Or.inr rfl) (hs : swapsWith e1 (some (.Name y p0)) pA.line X.env = pure false := by rfl) (hf : X.fn y = true ∨ X.env.scope.names.lookup y = some .local := by first | exact .inl rfl | exact .inr rfl)
    (hpo : PassesOwn (model X.prog X.w) X.A X.env X.xe := by exact PassesOwn.never) (hl : Loc X.env.scope r := by first | exact Or.inl rfl | exact Or.inr rfl) (hfn : X.fn r = true ∨ X.env.scope.names.lookup r = some .local := by first | exact .inl rfl | exact .inr rfl)
    (hpi : PI X (.Name r pr) (.Name y py) (iList X.K (tVar i)) := by exact pi_list (pv _))
    (hp : PE X (.Call (.Attribute (.Name r p1) "append" p2) [.Constant .none jn p3] [] p4) (tBM X.K "list" rAppend (tVar j) (tCons (tC .non) tNil)) := by exact pe_bm PySem.F.plainAttrs_list PySem.F.slot_list_append PySem.F.type_list_append mt_append (pv _) (pa_cons pe_non pa_nil)) (hs2 : swapsWith (.Call (.Attribute (.Name r p1) "append" p2) [.Constant .none jn p3] [] p4) none p5.line X.env = pure false := by rfl)
    (hp3 : PE X (.Call (.Attribute (.Name y q1) "append" q2) [.Constant .none jm q3] [] q4) (tBM X.K "list" rAppend (tVar i) (tCons (tC .non) tNil)) := by exact pe_bm PySem.F.plainAttrs_list PySem.F.slot_list_append PySem.F.type_list_append mt_append (pv _) (pa_cons pe_non pa_nil)) (hs3 : swapsWith (.Call (.Attribute (.Name y q1) "append" q2) [.Constant .none jm q3] [] q4) none pD.line X.env = pure false := by rfl)
    (hfo : ∀ x, foldedSetIterable (.Name y py) X.env x = pure x := by intro _; rfl) :
    Wp X B L (.Assign [.Name y p0] e1 pA :: .If test u [] pB :: .For (.Name r pr) (.Name y py) [.Expr (.Call (.Attribute (.Name r p1) "append" p2) [.Constant .none jn p3] [] p4) p5] [] pC :: .Expr (.Call (.Attribute (.Name y q1) "append" q2) [.Constant .none jm q3] [] q4) pD :: rest) D sl := by
  intro σ G H a
  refine cs_of (ps_set hN hi hx pcan hs hf) ?_
  intro pins s I
  refine hA (fun x => H x ≠ none) pins s σ G H _ I a.sat (fun _ z => z) fun p vs G1 H1 g1 n1 n2 e1 r1 => ?_
  have w := r1.len
  rw [List.length_map] at w
  have rl : PVs G1 (rows.map (rLst X.K)) vs := rN_pvs rows vs r1
  have rows1 : ∀ v ∈ vs, ∃ q ws, v = .ref q ∧ H q = none ∧ G1 q = some (.lst ws) ∧ ws.length ≤ 1000 := fun v hv => by
    obtain ⟨q, ws, h1, h2, h3, h4⟩ := rN_rows rows vs hr r1 v hv
    exact ⟨q, ws, h1, Classical.not_not.mp h2, h3, h4⟩
  have a1 := a.setOwn g1 i n1 n2 e1 rl
  have ei : (sl.set i (.own (rows.map (rLst X.K))))[i]? = some (.own (rows.map (rLst X.K))) := List.getElem?_set_self hil
  obtain ⟨Gl, sg, sat1⟩ := a1.sat.lend (K := X.K) i ei
  rw [List.set_set] at sat1
  show canS X _ D (σ.set i (some (.ref p))) H1
  refine cs_of (ps_if pcanT pcanS pcanS) ?_
  refine hB.can sat1 fun b G2 H2 g2 hb => ?_
  subst hb
  refine iteF (cs_nil ?_)
  have si : i < σ.length := by rw [← a.sat.len]; exact hil
  have sj : j < σ.length := by rw [← a.sat.len]; exact hjl
  generalize hσ1 : σ.set i (some (.ref p)) = σ1
  have l1 : σ1.length = σ.length := by rw [← hσ1, List.length_set]
  have vi : σ1[i]? = some (some (.ref p)) := by rw [← hσ1]; exact List.getElem?_set_self si
  have vo : ∀ m, m ≠ i → σ1[m]? = σ[m]? := fun m hm => by rw [← hσ1, List.getElem?_set_ne (Ne.symm hm)]
  have hp2 : H2 p = some (.lst vs) := g2.hs _ _ e1
  have old : ∀ b o, H b = some o → H2 b = some o := fun b o e => g2.hs _ _ (g1.hs _ _ e)
  have rows2 : ∀ v ∈ vs, ∃ q ws, v = .ref q ∧ H q = none ∧ H2 q = some (.lst ws) ∧ ws.length ≤ 1000 := fun v hv => by
    obtain ⟨q, ws, e, h1, h2, h3⟩ := rows1 v hv
    exact ⟨q, ws, e, h1, g2.hs _ _ (g1.s _ _ h2), h3⟩
  have pno : V.ref p ∉ vs := fun hv => by
    obtain ⟨q, ws, e, _, h2, _⟩ := rows1 _ hv
    cases e
    rw [n2] at h2
    cases h2
  show canS X _ D σ1 H2
  refine cs_of (ps_for hpo hc hpi (pg_name hN hj hl hfn) pcanS hfo) ?_
  let W : Nat → Nat → L2.St → Hp → Prop := fun k m σ' H' => m = vs.length - k ∧ k ≤ vs.length ∧ (∀ l, l ≠ j → σ'[l]? = σ1[l]?) ∧ σ'.length = σ1.length ∧ (∀ b o, V.ref b ∉ vs → H2 b = some o → H' b = some o) ∧ ∀ q, V.ref q ∈ vs → ∃ ws, H' q = some (.lst ws) ∧ ws.length ≤ 1000 + k
  have w0 : W 0 (vs.length - 0) σ1 H2 := ⟨rfl, Nat.zero_le _, fun _ _ => rfl, rfl, fun _ _ _ e => e, fun q hq => by
    obtain ⟨q', ws, e, _, h2, h3⟩ := rows2 _ hq
    cases e
    exact ⟨ws, h2, by omega⟩⟩
  refine ⟨.ref p, vi, p, rfl, ⟨vs, SqL.of hp2⟩, W, ⟨_, w0⟩, ?_⟩
  rintro n m σ' H' ⟨rfl, hn, hs', hl', ho, hrw⟩
  have hp' : H' p = some (.lst vs) := ho p _ pno hp2
  by_cases hlt : n < vs.length
  · refine .inr ⟨⟨vs, vs[n], SqL.of hp', List.getElem?_eq_getElem hlt⟩, W (n + 1) (vs.length - (n + 1)), fun σ2 H3 nx => ⟨vs.length - (n + 1), by omega, nx⟩, fun x H'' yy => ?_⟩
    obtain ⟨e2, f⟩ := yy
    subst e2
    have ex := f vs (SqL.of hp')
    rw [List.getElem?_eq_getElem hlt] at ex
    have hxm : x ∈ vs := by rw [← Option.some.inj ex]; exact List.getElem_mem hlt
    obtain ⟨q, _, eq, hq0, _, _⟩ := rows2 x hxm
    subst eq
    obtain ⟨ws, hq, hwl⟩ := hrw q hxm
    show canS X _ _ (σ'.set j (some (.ref q))) H''
    refine cs_of (ps_expr hp hs2) ?_
    refine ⟨.ref q, List.getElem?_set_self (by omega), .inl ⟨rfl, _, SqL.of hq⟩, q, ws, .non, rfl, rfl, hq, by rw [sizeLine_eq]; omega, ?_⟩
    refine cs_nil ?_
    refine ⟨rfl, by omega, fun l hlj => ?_, by rw [List.length_set]; exact hl', fun b o hb e => ?_, fun q' hq' => ?_⟩
    · rw [List.getElem?_set_ne (Ne.symm hlj)]; exact hs' l hlj
    · have : b ≠ q := fun z => hb (by rw [z]; exact hxm)
      rw [upd_ne this]; exact ho b o hb e
    · by_cases z : q' = q
      · rw [z, upd_same]
        exact ⟨_, rfl, by rw [List.length_append, List.length_singleton]; omega⟩
      · obtain ⟨ws', h1, h2⟩ := hrw q' hq'
        rw [upd_ne z]
        exact ⟨ws', h1, by omega⟩
  · have e : n = vs.length := by omega
    subst e
    refine .inl ⟨⟨vs, SqL.of hp', Nat.le_refl _⟩, ?_⟩
    refine cs_of (ps_expr hp3 hs3) ?_
    refine ⟨.ref p, (hs' i hij).trans vi, .inl ⟨rfl, _, SqL.of hp'⟩, p, vs, .non, rfl, rfl, hp', by rw [sizeLine_eq]; omega, ?_⟩
    refine k σ' G _ (a.spoil i j (fun m h1 h2 => (hs' m h2).trans (vo m h1)) (by rw [hl', l1]) fun b o e => ?_)
    have bp : b ≠ p := fun z => by rw [z, n1] at e; cases e
    rw [upd_ne bp]
    refine ho b o (fun hv => ?_) (old b o e)
    obtain ⟨q, ws, eq, h1, _, _⟩ := rows2 _ hv
    cases eq
    rw [h1] at e
    cases e
end
end Dl


set_option Elab.async false
set_option linter.all false
set_option maxRecDepth 100000
set_option maxHeartbeats 2000000
namespace Dl
open PySem PySem.Spec PyProof.Rows L2 ClX
/-! ### defs that tell new lists of new lists -/
structure FnB (α : Type) where
  ps : List Str
  args : α → List RV
  pre : α → Prop
  rows : α → List (List RV)
def FnB.sp {α : Type} (F : FnB α) : Sp := fun vs H Q _ => ∃ (a : α) (Bad : Addr → Prop) (G : Hp), Same G H ∧ PVs G (F.args a) vs ∧ F.pre a ∧ (∀ x, Bad x → H x ≠ none) ∧ Post G H Q (.l ((F.rows a).map (rN Bad)))
/-- as told lists that stay -/
def FnB.fn {α : Type} (K : PySem.W.Frag) (F : FnB α) : Fn α := ⟨F.ps, F.args, F.pre, fun a => .l ((F.rows a).map (rLst K))⟩
structure HasB (P : Program) (w : World) (K : PySem.W.Frag) (mg : Str → Option Value) (base : Heap) (k : Nat) (x : Str) {α : Type} (F : FnB α) : Prop where
  ex : ∃ f fd, mg x = some (.ref f) ∧ PySem.W.keepIn K (.ref f) = true ∧ Binds K fd F.ps [] ∧ FnOk P w K mg base CX0 k f fd F.ps F.sp
theorem post_rN {K : PySem.W.Frag} {G H : Hp} {Q : VK} {rows : List (List RV)} {Bad : Addr → Prop} (q : Post G H Q (.l (rows.map (rLst K)))) : Post G H Q (.l (rows.map (rN Bad))) := fun p vs G' H' g n1 n2 e r => q p vs G' H' g n1 n2 e (rN_pvs rows vs r)
section
variable {P : Program} {w : World} {K : PySem.W.Frag} {mg : Str → Option Value} {base : Heap}
def BodyB (P : Program) (w : World) (K : PySem.W.Frag) (mg : Str → Option Value) (base : Heap) (qual : Str) (st : Stmt) (f : Addr) (N : List Str) (k : Nat) {α : Type} (F : FnB α) : Prop :=
  ∀ (cdv : Value) (A : Around) (outer : List Env) (s : Shared) (H : Hp) (E : XK) (a : α) (Bad : Addr → Prop) (B : Base) (L : Hp) (D : Ends), Room k (A.deeper (envOfC qual (defScope st) s.heap.objs.size f cdv)) → F.pre a → (∀ x, Bad x → B.H x ≠ none) → (∀ b, ¬ B.M b) → Post B.G B.H D.rt (.l ((F.rows a).map (rN Bad))) → (∀ σ H', D.rt .non H' → D.nx σ H') →
    Wp (cxOf CX0 P w K mg base N qual (defScope st) f cdv A outer s H E).nox B L (defBody st) D (ents N.length (F.args a))
theorem BodyB.fn {qual : Str} {st : Stmt} {f : Addr} {N : List Str} {k : Nat} {α : Type} {F : FnB α} (h : BodyB P w K mg base qual st f N k F) : Body P w K mg base qual st f N k (F.fn K) := fun cdv A outer s H E a B L D hr hp hM q hN => h cdv A outer s H E a (fun _ => False) B L D hr hp (fun _ z => z.elim) hM (post_rN q) hN
theorem fnOk_ofB {qual x : Str} {st : Stmt} {f : Addr} {fd : FuncData} {N : List Str} {k : Nat} {α : Type} {F : FnB α} (F0 : FnP K x qual st f fd) (S : FnScope N F.ps (defScope st)) (hl : ∀ a, (F.args a).length = F.ps.length)
    (body : BodyB P w K mg base qual st f N k F) : FnOk P w K mg base CX0 (k + 1) f fd F.ps F.sp := by
  refine FunD.ok F0 S (fun vs H Q E h => ?_) (fun cdv A outer s H vs Q E hr h => ?_)
  · obtain ⟨a, _, G, _, r, _⟩ := h
    rw [← r.len, hl]
  · obtain ⟨a, Bad, G, sm, r, hp, hb, q⟩ := h
    refine ⟨_, PSs.nox pcanS, ?_⟩
    refine body cdv A outer s H E a Bad ⟨G, H, NoM⟩ G { nx := fun _ H' => Q .non H', rt := Q } hr hp hb (fun _ z => z) q (fun _ _ z => z) (L2.start N vs) G H ⟨sat_start sm r, Grow.refl sm, Same.refl _, fun i Rs p e _ => ?_⟩
    unfold ents at e
    rw [List.getElem?_append] at e
    split at e
    · rw [List.getElem?_map] at e
      cases q : (F.args a)[i]? with
      | none => rw [q] at e; cases e
      | some R' => rw [q] at e; cases e
    · rw [List.getElem?_replicate] at e
      split at e <;> cases e
theorem hasB_df {x : Str} {st : Stmt} {N ps : List Str} {k : Nat} {α : Type} {F : FnB α} (d : Df K mg x st) (S : FnScope N ps (defScope st))
    (hb : ∀ (kV doc pm : Value) (an : Option Addr) (cdv ct : Value) (us : List Value), us.length = ps.length → bindArgs (PySem.W.fnOf x x (defArgs st) (defBody st) (defScope st) .none kV doc pm an cdv ct) ⟨us, []⟩ = pure (ps.zip us)) (hps : F.ps = ps) (hl : ∀ a, (F.args a).length = F.ps.length)
    (body : ∀ f, BodyB P w K mg base x st f N k F) : HasB P w K mg base (k + 1) x F := by
  obtain ⟨f, fd, F0, hm⟩ := d
  subst hps
  exact ⟨f, fd, hm, F0.kp, F0.bindsN hb, fnOk_ofB F0 S hl (body f)⟩
end
section
variable {X : Cx} {B : Base} {L : Hp} {D : Ends} {rest : List Stmt} {sl : List Ent} {k : Nat} {x : Str} {α : Type} {F : FnB α} {p pos : Pos} {e : Expr} {es : List Expr} {Rs : List RV}
theorem n_call (h : HasB X.prog X.w X.K X.mg X.base k x F) (hr : Room k X.A) (z : α) (ha : EvA X (e :: es) sl (F.args z)) (hp : F.pre z) (hg : Gl X x := by rfl) (hdb : (x == ("__debug__" : Str)) = false := by decide)
    (he : starEach (e :: es) X.env = (false, eval e X.env) :: starEach es X.env := by rfl) (hpl : (backTo pos (starEach es X.env)).any (·.1) = false := by rfl) : EvN X (.Call (.Name x p) (e :: es) [] pos) sl (F.rows z) := by
  obtain ⟨f, fd, hm, hk, hb, ok⟩ := h.ex
  intro Bad pins s σ G H Q I a hbad q
  refine (pe_call ok hr hg hm hk hb .nil (E := fun _ _ _ => False) pass0 pcanA hdb he hpl).run pins s σ H Q I ?_
  refine ha.can a fun vs G1 H1 g1 r1 => ?_
  rw [List.append_nil]
  exact ⟨z, Bad, G1, g1.s, r1, hp, fun y hy => g1.t y (hbad y hy), q.gr g1⟩
/-- y = [a new list] -/
theorem w_setL1 (i : Nat) {y : Str} {p' : Pos} {Bad : Addr → Prop} (hbad : ∀ x, Bad x → B.H x ≠ none) (he : EvR X e sl (.l Rs)) (hN : X.N.Nodup) (k : Wp X B L rest D (sl.set i (.own [rN Bad Rs]))) (hi : X.N[i]? = some y := by rfl) (hx : Loc X.env.scope y := by first | exact Or.inl rfl | exact Or.inr rfl) (hs : swapsWith (.List [e] pos) (some (.Name y p')) pos.line X.env = pure false := by rfl)
    (hf : X.fn y = true ∨ X.env.scope.names.lookup y = some .local := by first | exact .inl rfl | exact .inr rfl) {pos' : Pos} (hs' : swapsWith (.List [e] pos) (some (.Name y p')) pos'.line X.env = pure false := by rfl) (hse : starEach [e] X.env = [(false, eval e X.env)] := by rfl) : Wp X B L (.Assign [.Name y p'] (.List [e] pos) pos' :: rest) D sl :=
  wp_of (ps_set hN hi hx (pe_lst (pa_cons (hs := hse) pcan pa_nil)) hs' hf) fun σ G H a => he.can a.sat fun q vs G1 H1 g1 n1 n2 e1 r1 => by
    have g1' := Gr.take g1 n1 e1 n2
    have nb : ¬ Bad q := fun h => a.gr.t q (hbad q h) n1
    refine ⟨by rw [sizeLine_eq]; show 1 ≤ _; omega, fun o ho => ?_⟩
    have go : upd G1 q (.lst vs) o = none := g1'.s.free ho
    exact k _ _ _ (a.setOwn (g1'.trans (Gr.newOut g1'.s ho)) i (g1.hs.free ho) go upd_same (.cons ⟨q, vs, rfl, nb, upd_same, r1.mono (same_new n2)⟩ .nil))
/-- an own list that stays, at no bad place -/
theorem w_freezeN (i : Nat) {st : List Stmt} {t : Addr → Prop} {Bad : Addr → Prop} (hbad : ∀ x, Bad x → B.H x ≠ none) (hM : ∀ a, ¬ B.M a) (ei : sl[i]? = some (.mu (oT t Rs))) (k : Wp X B L st D (sl.set i (.val (rN Bad Rs)))) : Wp X B L st D sl := fun σ G H a => by
  obtain ⟨p, vs, h1, h2, h3, h4⟩ := a.sat.own i Rs ei
  have hb : B.H p = none := (a.ow i _ p ei h1).resolve_left (hM p)
  have nb : ¬ Bad p := fun z => hbad p z hb
  have sg : Same G (upd G p (.lst vs)) := same_new h3
  have sh : Same (upd G p (.lst vs)) H := fun b u e => by
    by_cases q : b = p
    · rw [q, upd_same] at e; rw [q, h2]; exact e
    · rw [upd_ne q] at e; exact a.sat.sub b u e
  refine k σ (upd G p (.lst vs)) H ⟨⟨sh, fun j R e => ?_, fun j O e => ?_, fun j l O O' ne e1 e2 => ?_, by rw [List.length_set]; exact a.sat.len⟩, ⟨a.gr.g.trans sg, a.gr.h, a.gr.t, sh, fun b e => ?_⟩, a.lo.trans sg, fun j O q e eq => ?_⟩
  · rcases getElem?_set_cases e with ⟨rfl, e2⟩ | ⟨ne, e2⟩
    · cases e2
      exact ⟨.ref p, h1, p, vs, rfl, nb, upd_same, h4.mono sg⟩
    · obtain ⟨v, k1, k2⟩ := a.sat.val j R e2
      exact ⟨v, k1, R.m sg k2⟩
  · rcases getElem?_set_cases e with ⟨rfl, e2⟩ | ⟨ne, e2⟩
    · cases e2
    · obtain ⟨q, o, k1, k2, k3, k4⟩ := a.sat.mu j O e2
      have nq : q ≠ p := fun z => a.sat.dis j i _ _ ne e2 ei (by rw [k1, h1, z])
      exact ⟨q, o, k1, k2, by rw [upd_ne nq]; exact k3, O.m sg k4⟩
  · rcases getElem?_set_cases e1 with ⟨_, z⟩ | ⟨_, z1⟩
    · cases z
    · rcases getElem?_set_cases e2 with ⟨_, z⟩ | ⟨_, z2⟩
      · cases z
      · exact a.sat.dis j l O O' ne z1 z2
  · rw [upd_ne (fun z => e (by rw [z]; exact hb))]
    exact a.gr.n b e
  · rcases getElem?_set_cases e with ⟨_, z⟩ | ⟨_, z1⟩
    · cases z
    · exact a.ow j O q z1 eq
end
end Dl


set_option Elab.async false
set_option linter.all false
set_option maxRecDepth 100000
set_option maxHeartbeats 2000000
namespace Dl
open PySem PySem.Spec PyProof.Rows L2 ClX
/-! ### x(k1 = e1), x an instance -/
structure HasMeK (P : Program) (w : World) (K : PySem.W.Frag) (mg : Str → Option Value) (base : Heap) (k : Nat) (C : Addr) (m p0 k1 : Str) {α : Type} (F : Fn α) : Prop where
  ex : ∃ f fd, Meth K C m f ∧ F.ps = [p0, k1] ∧ (∀ (s : Shared) (u v : Value), BindsTo s fd ⟨[u], [(k1, v)]⟩ [(p0, u), (k1, v)]) ∧ FnOk P w K mg base CX0 k f fd F.ps F.sp
section
variable {P : Program} {w : World} {K : PySem.W.Frag} {mg : Str → Option Value} {base : Heap}
theorem hasMeK {m p0 k1 q : Str} {st : Stmt} {C f : Addr} {fd : FuncData} {k : Nat} {α : Type} {F : Fn α} (hm : Meth K C m f) (F0 : FnP K m q st f fd) (hps : F.ps = [p0, k1])
    (hb : ∀ (kV doc pm : Value) (an : Option Addr) (cdv ct : Value) (u v : Value), bindArgs (PySem.W.fnOf m q (defArgs st) (defBody st) (defScope st) .none kV doc pm an cdv ct) ⟨[u], [(k1, v)]⟩ = pure [(p0, u), (k1, v)])
    (ok : FnOk P w K mg base CX0 k f fd F.ps F.sp) : HasMeK P w K mg base k C m p0 k1 F := by
  refine ⟨f, fd, hm, hps, fun s u v => ?_, ok⟩
  obtain ⟨oc, od, dV, kV, doc, pm, an, cdv, ct, osl, rfl, _, _, dfl, _⟩ := F0.ex
  rcases dfl with ⟨_, rfl⟩ | ⟨z, _⟩
  · exact .of_eq (hb kV doc pm an cdv ct u v)
  · exact absurd rfl z
end
section
variable {X : Cx} {sl : List Ent} {k : Nat} {C : Addr} {α : Type} {F : Fn α} {fs : List (Str × RV)} {p pos q1 : Pos} {e1 : Expr} {R1 : RV}
theorem callWith_instK {M : Model} {A : Around} {E : Value → Shared → Prop} {s : Shared} {x : Addr} {ox : Obj} {args : List (Bool × Sem Value)} {kws : List (Option Str × Sem Value)} {Q : Value → Shared → Prop} (hd : ox.data = .plain) (hpl : (args.any (·.1) || kws.any (·.1.isNone)) = false)
    (h : wpAny M A (evalArgs (.ref x) true args kws) (fun w s1 => (∃ od, PySem.W.InstAt s1.heap x ox C od) ∧ wpAny M A (call (.ref x) w.pos w.kw) Q E s1) E s) : wpAny M A (callWith pos (.ref x) [] args kws) Q E s := by
  unfold callWith
  apply wpAny_bind
  apply wpAny_holding
  apply wpAny_mono h _ fun _ _ y => y
  rintro w s1 ⟨⟨od, J⟩, q⟩
  apply wpAny_bind
  apply wpAny_standAt
  have look := PySem.W.kco_keeper (M := M) J hd
  simp only [hpl]
  refine wpAny_bind (look.here ?_)
  have fin : ∀ {t : Sem Value}, wpAny M A t Q E s1 → wpAny M A (t >>= fun r => holding [r] point >>= fun _ => pure r) Q E s1 := fun ht => wpAny_bind (wpAny_mono ht (fun _ _ hr => wpAny_bind (wpAny_holding (wpAny_point (wpAny_pure hr)))) fun _ _ y => y)
  exact fin (wpAny_operateT q)
theorem e_callCK {x p0 k1 : Str} (h : HasMeK X.prog X.w X.K X.mg X.base k C "__call__" p0 k1 F) (hfi : ∀ f, PySem.W.findIn X.K (.ref C) "__call__" = some (some (.ref f)) → PySem.W.fnIn X.K f = true) (hr : Room k X.A) (z : α) (ho : Ev X (.Name x p) sl (rIns C fs)) (h1 : Ev X e1 sl R1) (hz : F.args z = [rIns C fs, R1]) (hp : F.pre z)
    (hall : (backToKw pos (keywordEach [⟨some k1, e1, q1⟩] X.env)).all (·.1.isSome) = true := by rfl) (hks : (backToKw pos (keywordEach [⟨some k1, e1, q1⟩] X.env)).filterMap (·.1) = [k1] := by rfl)
    (hpl : ((backTo pos (starEach [] X.env)).any (·.1) || (backToKw pos (keywordEach [⟨some k1, e1, q1⟩] X.env)).any (·.1.isNone)) = false := by rfl) : EvR X (.Call (.Name x p) [] [⟨some k1, e1, q1⟩] pos) sl (F.res z) := by
  obtain ⟨f, fd, hm, hps, hb, ok⟩ := h.ex
  intro pins s σ G H Q I a q
  apply wpAny_Call_Name_kw
  refine thn (ho pins s σ G H (fun v H1 => ∃ G1, Gr G H G1 H1 ∧ (rIns C fs).r G1 v) I a fun v G1 H1 g1 r1 => ⟨G1, g1, r1⟩) fun u s1 ⟨v, H1, I1, ru, G1, g1, r1⟩ => ?_
  obtain ⟨y, dx, vs, e1', h1', _⟩ := id r1
  subst e1'
  cases ru
  refine callWith_instK (C := C) (ox := PySem.W.instObj C dx) rfl hpl ?_
  refine PyProof.Rows.evalArgs_kw2_nil hall ?_
  refine thn ((pk_cons (X := X) (nm := some k1) (kpos := q1) pcan pk_nil).run pos pins s1 σ H1 (fun zs H2 => ∃ u, zs = [u] ∧ H2 y = some (.ins C dx vs) ∧ F.sp [.ref y, u] H2 Q fun _ _ _ => False) I1 (h1.can (a.gr g1) fun u G2 H2 g2 r2 => ⟨u, rfl, g2.s _ _ (g2.g _ _ h1'), z, G2, g2.s, ?_, hp, (q.gr g1).gr g2⟩)) fun ws s2 ⟨zs, H2, I2, rz, u, ez, hy, q2⟩ => ?_
  · rw [hz]; exact .cons ((rIns C fs).m g2.g r1) (.cons r2 .nil)
  · subst ez
    obtain ⟨u', ew, ru⟩ := vals1 rz
    subst ew
    rw [hks]
    obtain ⟨od, J⟩ := instAt I2 hy
    refine ⟨⟨od, J⟩, ?_⟩
    have hb' := hb s2 (.ref y) u'
    apply wpAny_call
    refine PySem.W.kco_code I2.kIn J rfl hm.at_ hm.fn (hfi f hm.at_) ?_
    refine codeAny_mono (ok.run X.A X.stack s2 H2 ⟨[.ref y], [(k1, u')]⟩ [.ref y, u'] [.ref y, u] Q (fun _ _ _ => False) hr I2.env0 (by rw [hps]; exact hb') (.cons rfl (.cons ru .nil)) q2) fun r1 s' hq => ?_
    match r1, hq with
    | .error e, hq => exact pass0 pins σ H2 s2 e s' I2 hq
    | .ok (.ret u), hq => exact I2.after hq
    | .ok .next, hq => exact False.elim hq
    | .ok .brk, hq => exact False.elim hq
    | .ok .cont, hq => exact False.elim hq
end
section
variable {X : Cx} {B : Base} {L : Hp} {D : Ends} {rest : List Stmt} {sl : List Ent} {σ : L2.St} {G H H' : Hp}
theorem At.more (a : At B L sl σ G H) (hH : ∀ b o, H b = some o → H' b = some o) : At B L sl σ G H' := by
  have sub : Same G H' := fun b o e => hH b o (a.sat.sub b o e)
  refine ⟨⟨sub, fun m R e => a.sat.val m R e, fun m O e => ?_, fun m l O O' ne e1 e2 => a.sat.dis m l O O' ne e1 e2, a.sat.len⟩, ⟨a.gr.g, fun b o nm e => hH b o (a.gr.h b o nm e), fun b e => ?_, sub, a.gr.n⟩, a.lo, fun m O p e ep => a.ow m O p e ep⟩
  · obtain ⟨p, o, k1, k2, k3, k4⟩ := a.sat.mu m O e
    exact ⟨p, o, k1, hH _ _ k2, k3, k4⟩
  · have := a.gr.t b e
    cases q : H b with
    | none => exact absurd q this
    | some o => rw [hH b o q]; exact fun z => nomatch z
/-- e.append(None), e a new list -/
theorem w_app1 {e : Expr} {Rs : List RV} {jn} {p2 p3 p4 p5 : Pos} (he : EvR X e sl (.l Rs)) (hl : Rs.length ≤ 1000) (k : Wp X B L rest D sl)
    (hp : PE X (.Call (.Attribute e "append" p2) [.Constant .none jn p3] [] p4) (tBM X.K "list" rAppend (can X e) (tCons (tC .non) tNil)) := by exact pe_bm PySem.F.plainAttrs_list PySem.F.slot_list_append PySem.F.type_list_append mt_append pcan (pa_cons pe_non pa_nil))
    (hs : swapsWith (.Call (.Attribute e "append" p2) [.Constant .none jn p3] [] p4) none p5.line X.env = pure false := by rfl) : Wp X B L (.Expr (.Call (.Attribute e "append" p2) [.Constant .none jn p3] [] p4) p5 :: rest) D sl :=
  wp_of (ps_expr hp hs) fun σ G H a => he.can a.sat fun p vs G1 H1 g1 n1 n2 e1 r1 => by
    refine ⟨.inl ⟨rfl, _, SqL.of e1⟩, p, vs, .non, rfl, rfl, e1, by rw [sizeLine_eq, ← r1.len]; omega, ?_⟩
    refine k σ G _ (a.more fun b o hb => ?_)
    have bp : b ≠ p := fun z => by rw [z, n1] at hb; cases hb
    rw [upd_ne bp]
    exact g1.hs _ _ hb
/-- a list of such as are one of several -/
theorem le_opens {α : Type} {K : PySem.W.Frag} {P : α → Prop} {R : α → RV} (n : Nat) : (rLst K ((List.range n).map fun _ => rX P R)).le (rX (fun ys : List α => ys.length = n ∧ ∀ y ∈ ys, P y) fun ys => rLst K (ys.map R)) := fun G v ⟨a, vs, e, h1, h2⟩ => by
  obtain ⟨ys, p, q⟩ := PVs.opens (P := fun (_ : Nat) y => P y) (R := R) (fun _ _ _ _ h => h) h2
  have hl := Paired.length p
  rw [List.length_range] at hl
  refine ⟨ys, ⟨hl.symm, ?_⟩, a, vs, e, h1, q⟩
  clear q hl h2 h1 e
  have : ∀ {xs : List Nat} {ys : List α}, Paired (fun (_ : Nat) y => P y) xs ys → ∀ y ∈ ys, P y := by
    intro xs ys h
    induction h with
    | nil => intro y hy; cases hy
    | cons h1 _ ih =>
      intro y hy
      rcases List.mem_cons.mp hy with e | hy
      · rw [e]; exact h1
      · exact ih y hy
  exact this p
theorem w_le (i : Nat) {st : List Stmt} {R R' : RV} (e : sl[i]? = some (.val R)) (h : R.le R') (k : Wp X B L st D (sl.set i (.val R'))) : Wp X B L st D sl := fun σ G H a => by
  obtain ⟨v, h1, r⟩ := a.sat.val i _ e
  have b := a.set i (R := R') (h _ _ r)
  have es : σ.set i (some v) = σ := by
    apply List.ext_getElem?
    intro j
    by_cases q : j = i
    · subst q
      rw [h1]
      exact List.getElem?_set_self (List.getElem?_eq_some_iff.mp h1).1
    · rw [List.getElem?_set_ne (Ne.symm q)]
  rw [es] at b
  exact k σ G H b
end
end Dl


set_option Elab.async false
set_option linter.all false
set_option maxRecDepth 100000
set_option maxHeartbeats 2000000
namespace Dl
open PySem PySem.Spec PyProof.Rows L2 ClX
/-! ### arguments by names, the parameters in the other sequence -/
section
variable {X : Cx} {sl : List Ent} {kws : List Keyword} {e : Expr} {R : RV} {Rs : List RV} {nm : Option Str} {kp : Pos}
def canK (X : Cx) (kws : List Keyword) : TA := fun σ H Q => ∀ (pos : Pos) (pins : List (Addr × Obj)) (s : Shared), Inv X pins σ H s → wpAny (model X.prog X.w) X.A (evalAll ((backToKw pos (keywordEach kws X.env)).map (·.2))) (AP X pins σ Q) X.xe s
theorem pcanK : PK X kws (canK X kws) := ⟨fun pos pins s _ _ _ I h => h pos pins s I⟩
def EvK (X : Cx) (kws : List Keyword) (sl : List Ent) (Rs : List RV) : Prop := ∀ (σ : L2.St) (G H : Hp) (Q : List V → Hp → Prop), Sat sl σ G H → (∀ vs G' H', Gr G H G' H' → PVs G' Rs vs → Q vs H') → canK X kws σ H Q
theorem k_nil : EvK X [] sl [] := fun σ G H Q a k pos pins s I => pk_nil.run pos pins s σ H Q I (k [] G H (.refl a.sub) .nil)
theorem k_cons (h : Ev X e sl R) (hs : EvK X kws sl Rs) : EvK X (⟨nm, e, kp⟩ :: kws) sl (R :: Rs) := fun σ G H Q a k pos pins s I =>
  (pk_cons (nm := nm) (kpos := kp) pcan pcanK).run pos pins s σ H Q I (h.can a fun v G1 H1 g1 r1 => hs σ G1 H1 _ (a.gr g1) fun vs G2 H2 g2 r2 => k (v :: vs) G2 H2 (g1.trans g2) (.cons (R.m g2.g r1) r2))
theorem k1 (h : Ev X e sl R) : EvK X [⟨nm, e, kp⟩] sl [R] := k_cons h k_nil
theorem k2 {e' : Expr} {R' : RV} {nm' : Option Str} {kp' : Pos} (h : Ev X e sl R) (h' : Ev X e' sl R') : EvK X [⟨nm, e, kp⟩, ⟨nm', e', kp'⟩] sl [R, R'] := k_cons h (k1 h')
end
theorem PVs.rev {G : Hp} : ∀ {Rs : List RV} {vs : List V}, PVs G Rs vs → PVs G Rs.reverse vs.reverse
  | _, _, .nil => .nil
  | _, _, .cons r t => by rw [List.reverse_cons, List.reverse_cons]; exact (PVs.rev t).app (.cons r .nil)
theorem vals_rev : ∀ {vs : List V} {us : List Value}, Vals vs us → Vals vs.reverse us.reverse
  | _, _, .nil => .nil
  | _, _, .cons r t => by rw [List.reverse_cons, List.reverse_cons]; exact (vals_rev t).append (.cons r .nil)
/-- n values by position, the others by names ks -/
abbrev Bnd (K : PySem.W.Frag) (fd : FuncData) (ps ks : List Str) (n : Nat) : Prop := KBn K fd ps n ks (fun us ws => us ++ ws.reverse) (fun vs zs => vs ++ zs.reverse)
section
variable {K : PySem.W.Frag} {x q : Str} {params : Arguments} {body : List Stmt} {scope : Scope} {dvs : List V} {f : Addr} {fd : FuncData} {ps ks : List Str} {n : Nat}
theorem bnd_of (F0 : FunD K x q params body scope [] [] f fd)
    (hb : ∀ (kV doc pm : Value) (an : Option Addr) (cdv ct : Value) (us ws : List Value), us.length = n → ws.length = ks.length → bindArgs (PySem.W.fnOf x q params body scope .none kV doc pm an cdv ct) ⟨us, ks.zip ws⟩ = pure (ps.zip (us ++ ws.reverse))) : Bnd K fd ps ks n := by
  refine ⟨fun s us ws _ l1 l2 => ?_, fun r1 r2 => r1.append (vals_rev r2)⟩
  obtain ⟨oc, od, dV, kV, doc, pm, an, cdv, ct, osl, rfl, _, _, dfl, _⟩ := F0.ex
  rcases dfl with ⟨_, rfl⟩ | ⟨z, _⟩
  · exact .of_eq (hb kV doc pm an cdv ct us ws l1 l2)
  · exact absurd rfl z
theorem bnd_of1 (F0 : FunD K x q params body scope dvs [] f fd) (hd : dvs ≠ [])
    (hb : ∀ (T : Addr) (kV doc pm : Value) (an : Option Addr) (cdv ct : Value) (us ws its : List Value), us.length = n → ws.length = ks.length → its.length = dvs.length → ∃ k, bindArgs (PySem.W.fnOf x q params body scope (.ref T) kV doc pm an cdv ct) ⟨us, ks.zip ws⟩ = seqItems? (.ref T) >>= k ∧ k (some its.toArray) = pure (ps.zip (us ++ ws.reverse))) : Bnd K fd ps ks n := by
  refine ⟨fun s us ws X l1 l2 => ?_, fun r1 r2 => r1.append (vals_rev r2)⟩
  obtain ⟨oc, od, dV, kV, doc, pm, an, cdv, ct, osl, rfl, lk, hcd, hD, hK⟩ := F0.ex
  rcases hD with ⟨e, _⟩ | ⟨_, T, o, its, m, rfl, lT, oT, rT⟩
  · exact absurd e hd
  · obtain ⟨k, e1, e2⟩ := hb T kV doc pm an cdv ct us ws its l1 l2 rT.length.symm
    refine BindsTo.of_looks fun M => ?_
    rw [e1]
    exact looks_items X lT oT (.of_pure e2)
end
/-- a method that is called by position and by names -/
structure HasMeW (P : Program) (w : World) (K : PySem.W.Frag) (mg : Str → Option Value) (base : Heap) (k : Nat) (C : Addr) (m : Str) (ks : List Str) {α : Type} (F : Fn α) : Prop where
  ex : ∃ f fd, Meth K C m f ∧ Binds K fd F.ps [] ∧ Bnd K fd F.ps ks 1 ∧ FnOk P w K mg base CX0 k f fd F.ps F.sp
structure HasW (P : Program) (w : World) (K : PySem.W.Frag) (mg : Str → Option Value) (base : Heap) (k : Nat) (x : Str) (ks : List Str) {α : Type} (F : Fn α) : Prop where
  ex : ∃ f fd, mg x = some (.ref f) ∧ PySem.W.keepIn K (.ref f) = true ∧ Binds K fd F.ps [] ∧ Bnd K fd F.ps ks 0 ∧ FnOk P w K mg base CX0 k f fd F.ps F.sp
structure HasMkW (P : Program) (w : World) (K : PySem.W.Frag) (mg : Str → Option Value) (base : Heap) (k : Nat) (C : Addr) (ks : List Str) {α : Type} (F : FnM α) : Prop where
  ex : ∃ f fd, Mk K C f ∧ Bnd K fd F.ps ks 1 ∧ FnOk P w K mg base CX0 k f fd F.ps F.sp
section
variable {P : Program} {w : World} {K : PySem.W.Frag} {mg : Str → Option Value} {base : Heap}
theorem HasMeW.me {k : Nat} {C : Addr} {m : Str} {ks : List Str} {α : Type} {F : Fn α} (h : HasMeW P w K mg base k C m ks F) : HasMe P w K mg base k C m F := let ⟨f, fd, a, b, _, d⟩ := h.ex; ⟨f, fd, a, b, d⟩
theorem HasW.has {k : Nat} {x : Str} {ks : List Str} {α : Type} {F : Fn α} (h : HasW P w K mg base k x ks F) : Has P w K mg base k x F := let ⟨f, fd, a, b, c, _, d⟩ := h.ex; ⟨f, fd, a, b, c, d⟩
theorem hasW_df {x : Str} {st : Stmt} {N ps ks : List Str} {k : Nat} {α : Type} {F : Fn α} (d : Df K mg x st) (S : FnScope N ps (defScope st))
    (hb : ∀ (kV doc pm : Value) (an : Option Addr) (cdv ct : Value) (us : List Value), us.length = ps.length → bindArgs (PySem.W.fnOf x x (defArgs st) (defBody st) (defScope st) .none kV doc pm an cdv ct) ⟨us, []⟩ = pure (ps.zip us))
    (hw : ∀ (kV doc pm : Value) (an : Option Addr) (cdv ct : Value) (us ws : List Value), us.length = 0 → ws.length = ks.length → bindArgs (PySem.W.fnOf x x (defArgs st) (defBody st) (defScope st) .none kV doc pm an cdv ct) ⟨us, ks.zip ws⟩ = pure (ps.zip (us ++ ws.reverse)))
    (hps : F.ps = ps) (hl : ∀ a, (F.args a).length = F.ps.length) (body : ∀ f, Body P w K mg base x st f N k F) : HasW P w K mg base (k + 1) x ks F := by
  obtain ⟨f, fd, F0, hm⟩ := d
  subst hps
  exact ⟨f, fd, hm, F0.kp, F0.bindsN hb, bnd_of F0 hw, fnOk_of F0 S hl (body f)⟩
end
section
variable {X : Cx} {sl : List Ent} {k : Nat} {C : Addr} {α : Type} {F : Fn α} {fs : List (Str × RV)} {p pos apos : Pos} {o : Expr} {Rs : List RV} {ks : List Str} {f x : Str} {kws : List Keyword}
/-- o.m(k = e, ..) -/
theorem e_methW (h : HasMeW X.prog X.w X.K X.mg X.base k C f ks F) (hr : Room k X.A) (c : Cls X.K C) (z : α) (ho : Ev X o sl (rIns C fs)) (hk : EvK X kws sl Rs) (hz : F.args z = rIns C fs :: Rs.reverse) (hl : fs.lookup f = none) (hp : F.pre z) {pl : Sem Bool} (hn : Rs.length = ks.length := by rfl)
    (hall : (backToKw pos (keywordEach kws X.env)).all (·.1.isSome) = true := by rfl) (hks : (backToKw pos (keywordEach kws X.env)).filterMap (·.1) = ks := by rfl)
    (hpl : ((backTo pos (starEach [] X.env)).any (·.1) || (backToKw pos (keywordEach kws X.env)).any (·.1.isNone)) = false := by rfl)
    (ht : eval (.Call (.Attribute o f apos) [] kws pos) X.env = (do
      let ov ← eval o X.env
      standAt apos.atName
      let (f, first) ← holding [ov] (getMethod ov f pl)
      callWith pos f first (backTo pos (starEach [] X.env)) (backToKw pos (keywordEach kws X.env))) := by rfl) : EvR X (.Call (.Attribute o f apos) [] kws pos) sl (F.res z) := by
  obtain ⟨g, fd, hm, _, hb, ok⟩ := h.ex
  intro pins s σ G H Q I a q
  refine PySem.W.methodCall_KW (pl := pl) (thn (ho pins s σ G H (fun v H1 => ∃ G1, Gr G H G1 H1 ∧ (rIns C fs).r G1 v) I a fun v G1 H1 g1 r1 => ⟨G1, g1, r1⟩) fun u s1 ⟨v, H1, I1, ru, G1, g1, r1⟩ => ?_) ht
  obtain ⟨y, dx, vs, e1, h1, h2⟩ := id r1
  subst e1
  obtain rfl : u = Value.ref y := ru
  refine getmeth_ok I1 (g1.s _ _ h1) c hm (h2.miss hl) ?_
  refine PySem.W.callWith_KW0 (first := [.ref y]) (h₀ := X.base) I.ok.mod.kin hm.kp hall ?_ hpl
  refine thn (hk σ G1 H1 (fun zs H2 => zs.length = ks.length ∧ F.sp (V.ref y :: zs.reverse) H2 Q fun _ _ _ => False) (a.gr g1) (fun zs G2 H2 g2 r2 => ⟨r2.len.symm.trans hn, z, G2, g2.s, ?_, hp, (q.gr g1).gr g2⟩) pos pins s1 I1) fun ws s2 ⟨zs, H2, I2, rz, l2, q2⟩ => ⟨I2.kIn, ?_⟩
  · rw [hz]
    exact .cons ((rIns C fs).m g2.g r1) r2.rev
  · rw [hks]
    exact run_fnN (us := [.ref y]) (vs := [.ref y]) ok hr hb pass0 I2 (.cons rfl .nil) rz rfl l2 q2
/-- f(k = e, ..) -/
theorem e_callW (h : HasW X.prog X.w X.K X.mg X.base k x ks F) (hr : Room k X.A) (z : α) (hk : EvK X kws sl Rs) (hz : F.args z = Rs.reverse) (hp : F.pre z) (hn : Rs.length = ks.length := by rfl) (hg : Gl X x := by rfl) (hdb : (x == ("__debug__" : Str)) = false := by decide)
    (hall : (backToKw pos (keywordEach kws X.env)).all (·.1.isSome) = true := by rfl) (hks : (backToKw pos (keywordEach kws X.env)).filterMap (·.1) = ks := by rfl)
    (hpl : ((backTo pos (starEach [] X.env)).any (·.1) || (backToKw pos (keywordEach kws X.env)).any (·.1.isNone)) = false := by rfl) : EvR X (.Call (.Name x p) [] kws pos) sl (F.res z) := by
  obtain ⟨g, fd, hm, hkp, _, hb, ok⟩ := h.ex
  intro pins s σ G H Q I a q
  refine wpAny_Call_Name_kw (ld_glob I hg hm ?_ hdb)
  refine PySem.W.callWith_KW0 (h₀ := X.base) I.ok.mod.kin hkp hall ?_ hpl
  refine thn (hk σ G H (fun zs H2 => zs.length = ks.length ∧ F.sp zs.reverse H2 Q fun _ _ _ => False) a (fun zs G2 H2 g2 r2 => ⟨r2.len.symm.trans hn, z, G2, g2.s, ?_, hp, q.gr g2⟩) pos pins s I) fun ws s2 ⟨zs, H2, I2, rz, l2, q2⟩ => ⟨I2.kIn, ?_⟩
  · rw [hz]
    exact r2.rev
  · rw [hks]
    exact run_fnN (us := []) (vs := []) ok hr hb pass0 I2 .nil rz rfl l2 q2
/-- C(k = e, ..) -/
theorem e_makeW {F : FnM α} {fs : α → List (Str × RV)} (h : HasMkW X.prog X.w X.K X.mg X.base k C ks F) (hr : Room (k + 1) X.A) (hm : X.mg x = some (.ref C)) (z : α) (hk : EvK X kws sl Rs) (hz : F.args z = Rs.reverse) (h0 : F.o0 z = oI C []) (h1 : F.o1 z = oI C (fs z)) (hp : F.pre z) (hn : Rs.length = ks.length := by rfl) (hg : Gl X x := by rfl) (hdb : (x == ("__debug__" : Str)) = false := by decide)
    (hall : (backToKw pos (keywordEach kws X.env)).all (·.1.isSome) = true := by rfl) (hks : (backToKw pos (keywordEach kws X.env)).filterMap (·.1) = ks := by rfl)
    (hpl : ((backTo pos (starEach [] X.env)).any (·.1) || (backToKw pos (keywordEach kws X.env)).any (·.1.isNone)) = false := by rfl) : Ev X (.Call (.Name x p) [] kws pos) sl (rIns C (fs z)) := by
  obtain ⟨f, fd, mk, hb, ok⟩ := h.ex
  refine ev_of (pe_makeK0 mk ok hr hg hm hb pass0 pcanK hall hks hdb hpl) fun σ G H Q s q => hk σ G H _ s fun vs G1 H1 g1 r1 => ⟨rfl, r1.len.symm.trans hn, fun y dx nx nd ne => ?_⟩
  have gx : G1 y = none := g1.s.free nx
  have s1 : Same H1 (upd (upd H1 dx (.own y)) y (.ins C dx [])) := fun b o e => by
    rw [upd_ne (ne_of_none e nx), upd_ne (ne_of_none e nd)]
    exact e
  refine ⟨z, G1, y, _, vs.reverse, g1.s.trans s1, rfl, upd_same, gx, by rw [h0]; exact ⟨dx, [], rfl, .nil⟩, by rw [hz]; exact r1.rev, hp, fun G2 H2 o2 g2 k1 k2 k3 => ⟨rfl, ?_⟩⟩
  rw [h1] at k3
  obtain ⟨dx2, ws, rfl, k4⟩ := k3
  refine q (.ref y) (upd G2 y (.ins C dx2 ws)) H2 (g1.trans ⟨g2.g.trans (same_new k2), fun b u _ e => ?_, fun b e => ?_, fun b u e => ?_, fun b e => ?_⟩) ⟨y, dx2, ws, rfl, upd_same, k4.mono (same_new k2)⟩
  · exact g2.h b u (ne_of_none e nx) (s1 b u e)
  · cases qq : H1 b with
    | none => exact absurd qq e
    | some u => exact g2.t b (by rw [s1 b u qq]; exact fun z => nomatch z)
  · by_cases qb : b = y
    · rw [qb, upd_same] at e; rw [qb, k1]; exact e
    · rw [upd_ne qb] at e; exact g2.s b u e
  · cases qq : H1 b with
    | none => exact absurd qq e
    | some u =>
      rw [upd_ne (ne_of_none qq nx)]
      exact g2.n b (by rw [s1 b u qq]; exact fun z => nomatch z)
end
end Dl


set_option Elab.async false
set_option linter.all false
set_option maxRecDepth 100000
set_option maxHeartbeats 2000000
/-! ### sorted(t), t a tuple of ints -/
namespace PyProof.Rows
open PySem
section
variable {prog : Program} {w : World} {A : Around} {E : Value → Shared → Prop} {s : Shared}
abbrev mid (h : Heap) (vs : List Value) : Heap := (h.push (seqObj "list" #[] 0)).update h.objs.size (Obj.mapSeq (· ++ vs.toArray))
theorem collect_tup {l : Addr} {vs : List Value} {R : List Value → Shared → Prop} (it : s.heap.IsTuple l vs.toArray) (hv : vs.length ≤ sizeLine) (k : R vs { s with heap := mid s.heap vs }) : wpAny (model prog w) A (collect (.ref l)) R E s := by
  obtain ⟨ob, gt, ct, n, dt⟩ := id it
  have gt' := Heap.get?_push_of_some (seqObj "list" #[] 0) gt
  have g0 : (s.heap.push (seqObj "list" #[] 0)).get? s.heap.objs.size = some (seqObj "list" #[] 0) := Heap.get?_push_size _ rfl
  unfold collect
  refine wpAny_bind (wpAny_runValue (codeAny_builtin entry_proto_collect' (?_ : wpAny _ _ (do again (.builtin "list.__iadd__" ⟨[← newList [], .ref l], []⟩)) _ _ s)))
  refine wpAny_bind (wpAny_newList (wpAny_pure ⟨Code.quiet_builtin _ (by decide +kernel), codeAny_builtin entry_list_iadd' (?_ : wpAny _ _ (Builtin.List.listExtendWith (.ref s.heap.objs.size) (.ref l) (.ref s.heap.objs.size)) _ _ { s with heap := s.heap.push (seqObj "list" #[] 0) })⟩))
  unfold Builtin.List.listExtendWith
  refine wpAny_bind (wpAny_typeOf (T := "tuple") ⟨ob, gt', ct⟩ ?_)
  rw [if_pos (by have : (Value.type "tuple" == Value.type "tuple") = true := rfl
                 rw [this]; simp)]
  refine wpAny_bind (listItems_at gt' dt (wpAny_bind (listItems_at g0 rfl ?_)))
  rw [if_neg (by simp)]
  refine wpAny_bind (listUpdate_at g0 rfl (wpAny_pure ?_) (Nat.zero_le _) (by show (#[] ++ vs.toArray).size ≤ sizeLine + 1; simp only [Array.size_append, List.size_toArray, List.length_nil]; omega))
  show wpAny _ _ (do
    let z ← load s.heap.objs.size
    match z.data with
    | .seq ys _ => pure ys.toList
    | _ => unsupported "internal:collect") _ _ { s with heap := mid s.heap vs }
  refine wpAny_bind (wpAny_load (get?_update_seq g0 _) (?_ : wpAny _ _ (pure ((#[] : Array Value) ++ vs.toArray).toList) _ _ _))
  have ev : ((#[] : Array Value) ++ vs.toArray).toList = vs := by simp
  rw [ev]
  exact wpAny_pure k
end
end PyProof.Rows
namespace SrtO
open PySem PyProof.Rows Srt
section
variable {prog : Program} {w : World} {A : Around} {E : Value → Shared → Prop} {s : Shared}
theorem sorted_ordT {l : Addr} {vs : List Value} {ltv : Value → Value → Bool} {R : Value → Shared → Prop} (O : Swo ltv) (it : s.heap.IsTuple l vs.toArray) (hv : vs.length ≤ sizeLine)
    (hS : 2 ≤ vs.length → ∀ (h₁ : Heap) (y : Addr), h₁.get? y = some (seqObj "list" vs.toArray 0) → (∀ b o, s.heap.get? b = some o → b ≠ y ∧ h₁.get? b = some o) → SortableO prog w A.in1.in1 { s with heap := h₁ } y vs ltv)
    (k : ∀ out : List Value, Srtd ltv out → Stb ltv out vs → R (.ref (s.heap.objs.size + 1)) { s with heap := sortedAll s.heap vs out.toArray }) : wpAny (model prog w) A (call (.builtin "sorted") [.ref l]) R E s := by
  refine Calls.call_function_entry kind_sorted plain_sorted entry_sorted (args_sorted1 _) ?_
  unfold Builtin.«sorted»
  refine wpAny_bind (m := checkCount "sorted" 1 1 _) (wpAny_pure (wpAny_bind (collect_tup it hv (wpAny_bind (wpAny_newList ?_ hv)))))
  have z1 : (mid s.heap vs).objs.size = s.heap.objs.size + 1 := by rw [Heap.size_update, size_push']
  have z2 : ((mid s.heap vs).push (seqObj "list" vs.toArray 0)).get? (s.heap.objs.size + 1) = some (seqObj "list" vs.toArray 0) := by
    rw [← z1]
    exact Heap.get?_push_size _ rfl
  have z3 : ∀ b o, s.heap.get? b = some o → b ≠ s.heap.objs.size + 1 ∧ ((mid s.heap vs).push (seqObj "list" vs.toArray 0)).get? b = some o := fun b o q => by
    have lt : b < s.heap.objs.size := Heap.lt_size q
    refine ⟨Nat.ne_of_lt (Nat.lt_succ_of_lt lt), Heap.get?_push_of_some _ ?_⟩
    rw [Heap.get?_update_ne _ _ _ _ (Nat.ne_of_lt lt)]
    exact Heap.get?_push_of_some _ q
  show wpAny _ _ _ _ _ { s with heap := (mid s.heap vs).push (seqObj "list" vs.toArray 0) }
  rw [z1]
  refine wpAny_bind (wpAny_holding (wpAny_call_entry slot_list_sort ⟨_, z2, rfl⟩ entry_list_sort (list_sort_ord O z2 hv (fun h2 => hS h2 _ _ z2 z3) fun out hs hb => ⟨_, rfl, wpAny_pure ⟨_, rfl, k out hs hb⟩⟩) (args_list_sort _)))
end
end SrtO
namespace Dl
open PySem PySem.Spec PyProof.Rows L2 ClX
section
variable {X : Cx} {sl : List Ent} {a : Expr} {p pos : Pos}
theorem cr_sortedIT : CallR X (.builtin "sorted") (fun vs H Q => ∃ (t : Addr) (ns : List Int), vs = [V.ref t] ∧ SqT X.K H t (ns.map V.int) ∧ ∀ (ms : List Int) (y : Addr), ms.Perm ns → ms.Pairwise (· ≤ ·) → H y = none → Q (.ref y) (upd H y (.lst (ms.map V.int)))) := by
  intro pins s σ H vs us Q I r h
  obtain ⟨t, ns, rfl, hs, q⟩ := h
  obtain ⟨its, rv, ht, hz⟩ := I.tuple hs
  rw [Vals.ref1 r]
  have hi := rv.ints
  refine SrtO.sorted_ordT SrtO.swo_int ht (by rw [← rv.length]; exact hz) (fun h2 h₁ a' _ _ => SrtO.ints_sortable hi h2) fun out h1 h2 => ?_
  obtain ⟨k1, k2, k3⟩ := SrtO.ints_out hi h1 h2
  obtain ⟨ep, he'⟩ := PyProof.Rows.sortedAll_at s.heap its out.toArray
  refine ⟨.ref _, upd H (s.heap.objs.size + 1) (.lst ((out.map SrtO.iv).map V.int)), I.laid (t' := s.toks) (fun _ _ => PyProof.Rows.sortedAll_old) (Nat.le_succ _) ⟨?_, out, ep, vals_of_ints k1, he'⟩, rfl, q _ _ k2 k3 (I.hok.fresh (Nat.le_succ _))⟩
  rw [List.length_map, k2.length_eq]
  rw [List.length_map] at hz
  exact hz
theorem e_sortedT {ns : List Int} (h : Ev X a sl (rTup X.K (ns.map iI))) (hm : X.mg "sorted" = none) (hg : Gl X "sorted" := by rfl) (he : starEach [a] X.env = [(false, eval a X.env)] := by rfl) : EvR X (.Call (.Name "sorted" p) [a] [] pos) sl (.x (fun ms : List Int => ms.Perm ns ∧ ms.Pairwise (· ≤ ·)) fun ms => .l (ms.map iI)) :=
  e_cb cr_sortedIT hm (by decide +kernel) (a1 h he) (fun vs G H Q s r q => by
    obtain ⟨v, rfl, t, ws, rfl, h1, h2⟩ := pv1 r
    refine ⟨t, ns, rfl, ?_, fun ms y p1 p2 hy => q ms ⟨p1, p2⟩ y _ G _ (Gr.newOut s hy) hy (s.free hy) upd_same (PVs.ofInts ms)⟩
    rw [← h2.ints]
    exact Dl.Same.tup s h1) hg (by decide) (by decide) he rfl
/-- sorted(..) of a list or a tuple of ints -/
theorem e_sortedQ {b : Bool} {ns : List Int} (h : Ev X a sl (rSq X.K b (ns.map iI))) (hm : X.mg "sorted" = none) (h64 : ns.length < 64) (hg : Gl X "sorted" := by rfl) (he : starEach [a] X.env = [(false, eval a X.env)] := by rfl) : EvR X (.Call (.Name "sorted" p) [a] [] pos) sl (.x (fun ms : List Int => ms.Perm ns ∧ ms.Pairwise (· ≤ ·)) fun ms => .l (ms.map iI)) := by
  cases b
  · exact e_sortedI h hm h64 hg he
  · exact e_sortedT h hm hg he
end
end Dl


set_option Elab.async false
set_option linter.all false
set_option maxRecDepth 100000
set_option maxHeartbeats 2000000
namespace Dl
open PySem PySem.Spec PyProof.Rows L2 ClX
abbrev NoBad : Addr → Prop := fun _ => False
section
variable {X : Cx} {B : Base} {L : Hp} {D : Ends} {sl : List Ent} {a b : Expr} {pos : Pos} {Rs : List RV}
/-- a list that stays, times a number -/
theorem e_repN {n : Nat} {Bad : Addr → Prop} (h : Ev X a sl (rN Bad Rs)) (h' : Ev X b sl (iI (n : Int))) (hn : n < 100000) (hl : Rs.length * n ≤ 100000) : EvR X (.BinOp a .Mult b pos) sl (.l (List.replicate n Rs).flatten) :=
  evR_of (pe_op op_rep pcan pcan) fun σ G H Q z q => h.can z fun v G1 H1 g1 ⟨l, vs, ev, _, e1, r1⟩ => h'.can (z.gr g1) fun u G2 H2 g2 ⟨m, em, hm⟩ => by
    subst em hm ev
    have r2 : PVs G2 Rs vs := r1.mono g2.g
    refine ⟨l, (n : Int), vs, rfl, rfl, g2.s _ _ (g2.g _ _ e1), by omega, by omega, ?_, fun w hw => ?_⟩
    · rw [← r2.len, Int.toNat_natCast]
      exact Nat.le_trans hl (by decide)
    · rw [Int.toNat_natCast]
      exact q w _ G2 _ ((g1.trans g2).trans (Gr.newOut g2.s hw)) ((g1.trans g2).hs.free hw) (g2.s.free hw) upd_same (PVs.rep r2 n)
theorem all_right {α : Type} {P : α → Prop} : ∀ {xs : List Nat} {ys : List α}, Paired (fun (_ : Nat) y => P y) xs ys → ∀ y ∈ ys, P y := by
  intro xs ys h
  induction h with
  | nil => intro y hy; cases hy
  | cons h1 _ ih =>
    intro y hy
    rcases List.mem_cons.mp hy with e | hy
    · rw [e]; exact h1
    · exact ih y hy
theorem le_opensN {α : Type} {Bad : Addr → Prop} {P : α → Prop} {R : α → RV} (n : Nat) : (rN Bad ((List.range n).map fun _ => rX P R)).le (rX (fun ys : List α => ys.length = n ∧ ∀ y ∈ ys, P y) fun ys => rN Bad (ys.map R)) := fun G v ⟨a, vs, e, nb, h1, h2⟩ => by
  obtain ⟨ys, p, q⟩ := PVs.opens (P := fun (_ : Nat) y => P y) (R := R) (fun _ _ _ _ h => h) h2
  have hl := Paired.length p
  rw [List.length_range] at hl
  exact ⟨ys, ⟨hl.symm, all_right p⟩, a, vs, e, nb, h1, q⟩
theorem Ev.opensR {α : Type} {P : α → Prop} {R : α → RV} {n : Nat} (h : Ev X a sl (rLst X.K ((List.range n).map fun _ => rX P R))) : Ev X a sl (rX (fun ys : List α => ys.length = n ∧ ∀ y ∈ ys, P y) fun ys => rLst X.K (ys.map R)) := h.imp (le_opens n)
/-- a list of two, as data -/
theorem py_l2 {K : PySem.W.Frag} {R1 R2 : RV} {d1 d2 : PyData} (h1 : R1.Py K d1) (h2 : R2.Py K d2) : (rLst K [R1, R2]).Py K (.list [d1, d2]) := fun G v ⟨a, vs, e, q, r⟩ => by
  subst e
  cases r with
  | cons r1 r => cases r with
    | cons r2 r =>
      cases r
      exact .lst q (.cons (h1 _ _ r1) (.cons (h2 _ _ r2) .nil))
theorem py_l1 {K : PySem.W.Frag} {R1 : RV} {d1 : PyData} (h1 : R1.Py K d1) : (rLst K [R1]).Py K (.list [d1]) := fun G v ⟨a, vs, e, q, r⟩ => by
  subst e
  cases r with
  | cons r1 r =>
    cases r
    exact .lst q (.cons (h1 _ _ r1) .nil)
theorem sw_l2 {n c m : Nat} {d1 d2 : PyData} (h1 : Show n c d1) (h2 : Show n c d2) (hm : 2 * (c + 2) + 2 ≤ m) : Show (n + 1) m (.list [d1, d2]) := by
  refine sw_list (n := n) (c := c) (fun d hd => ?_) hm
  rcases List.mem_cons.mp hd with e | hd
  · rw [e]; exact h1
  · rw [List.mem_singleton.mp hd]; exact h2
theorem Show.mono {n n' c c' : Nat} {d : PyData} (h : Show n c d) (hn : n ≤ n') (hc : c ≤ c') : Show n' c' d := ⟨h.able, h.nodict, Nat.le_trans h.dep hn, Nat.le_trans h.size hc⟩
/-- repr([e1, e2]) of data -/
theorem e_reprD {p pos' : Pos} {d : PyData} {R : RV} {n c : Nat} (hgd : X.A.guards = some []) (hu : X.A.units + 64 < cLine) (h : Ev X a sl (rLst X.K Rs)) (py : (rLst X.K Rs).Py X.K d) (sw : Show n c d) (hm : X.mg "repr" = none) (hn : n ≤ 60 := by decide) (hc : c ≤ 16000000 := by decide) (hg : Gl X "repr" := by rfl) (he : starEach [a] X.env = [(false, eval a X.env)] := by rfl) : Ev X (.Call (.Name "repr" p) [a] [] pos') sl (iS d.shown) :=
  e_repr hgd hu h py ref_lst sw hm hn hc hg he
end
end Dl


set_option Elab.async false
set_option linter.all false
set_option maxRecDepth 100000
set_option maxHeartbeats 2000000
namespace Dl
open PySem PySem.Spec PyProof.Rows L2 ClX
/-! ### sum(list of lists, []) -/
section
variable {prog : Program} {w : World} {A : Around} {E : Value → Shared → Prop} {s : Shared}
theorem addL {l b : Addr} {its its2 : List Value} {Q : Value → Shared → Prop} (h1 : PlainL s.heap l its.toArray) (h2 : PlainL s.heap b its2.toArray) (hz : its.length + its2.length ≤ sizeLine)
    (h : Q (.ref s.heap.objs.size) { s with heap := s.heap.push { cls := .type "list", data := .seq (its ++ its2).toArray } }) : wpAny (model prog w) A (binaryOp .Add (.ref l) (.ref b)) Q E s := by
  obtain ⟨⟨cl1, dd1, dt1, sl1⟩, n1, e1, c1, d1, t1⟩ := h1
  obtain ⟨⟨cl2, dd2, dt2, sl2⟩, n2, e2, c2, d2, t2⟩ := h2
  simp only at c1 d1 t1 c2 d2 t2
  subst c1 d1 t1 c2 d2 t2
  have ea : its.toArray ++ its2.toArray = (its ++ its2).toArray := by simp
  refine concat_meets ⟨_, e1, rfl⟩ ⟨_, e2, rfl⟩ PySem.noFill_list_add PySem.seq_list_add PySem.F.slot_list_add PySem.F.entry_list_add (PySem.F.args_list_add_2 _ _) (list_addW l b its.toArray its2.toArray n1 n2 none none sl1 sl2 (by rw [List.size_toArray, List.size_toArray]; omega)) ⟨e1, e2, ?_⟩
  rw [ea]
  exact h
theorem plain_typeIs {l : Addr} {its : Array Value} (h : PlainL s.heap l its) : s.TypeIs (.ref l) "list" := by
  obtain ⟨o, n, e, c, _, d⟩ := h
  exact Heap.IsList.typeIs ⟨o, e, c, n, d⟩
end
section
variable {prog : Program} {w : World} {A : Around} {R : Result → Shared → Prop} {I S : Addr} {fp wr : List Addr} {G : Array GenState → Array GenState → Prop} {n : Nat} {P : Nat → Value → Prop} {St : Nat → Shared → Prop}
theorem sum_loopL (W : WalksS prog w A.in1 I fp wr G n P St) (row : Nat → Addr) (its : Nat → List Value) (hP : ∀ i v, P i v → v = .ref (row i)) (hSf : S ∉ fp) (hrow : ∀ i, i < n → row i ∉ S :: wr) (hw : ∀ i s, St i s → ∀ b ∈ wr, ∃ o, s.heap.get? b = some o) :
    ∀ (k i : Nat) (s : Shared) (t : Addr) (acc : List Value) (c : Nat), n - i = k → i ≤ n → St i s → s.heap.get? S = some { cls := .type "list", dict := none, data := .seq #[.ref t] c, slots := #[] } → PlainL s.heap t acc.toArray → t ∉ S :: wr → (∀ j, j < n → PlainL s.heap (row j) (its j).toArray) →
    acc.length + (((List.range' i k).map its).flatten).length ≤ sizeLine →
    (∀ s' p, Moved (S :: wr) G s s' → ((p = t ∧ k = 0) ∨ (s.heap.get? p = none ∧ ∃ m, s'.heap.get? p = some { cls := .type "list", data := .seq (acc ++ ((List.range' i k).map its).flatten).toArray m })) → R (.ok (.ret (.ref p))) s') →
    codeAny (model prog w) A (.builtin "sum.loop" ⟨[.ref I, .ref S, rawInt 2, rawInt 0], []⟩) R s := by
  have hSw : S ∉ wr := fun h => hSf (W.sub _ h)
  have hsub : ∀ b ∈ wr, b ∈ S :: wr := fun b hb => List.mem_cons_of_mem _ hb
  intro k
  induction k with
  | zero =>
    intro i s t acc c hk hi hst hS ht htn hrs hz hR
    have hin : i = n := by omega
    subst hin
    refine codeAny_builtin F.entry_sum_loop ?_
    rw [Around.under_plainId F.plain_sum_loop _]
    show wpAny _ A.in1 (seqItems? (.ref S) >>= _) _ _ s
    refine wpAny_bind (wpAny_seqItems hS rfl ?_)
    show wpAny _ A.in1 (tryCatch (pyNext (.ref I)) _ >>= _) _ _ s
    refine wpAny_bind (wpAny_tryCatch (W.done s _ _ hst fun s' hm => ?_))
    exact wpAny_pure (hR s' t (hm.mono hsub) (.inl ⟨rfl, rfl⟩))
  | succ k ih =>
    intro i s t acc c hk hi hst hS ht htn hrs hz hR
    have hlt : i < n := by omega
    have hra : (List.range' i (k + 1)).map its = its i :: (List.range' (i + 1) k).map its := rfl
    rw [hra, List.flatten_cons, List.length_append] at hz
    refine codeAny_builtin F.entry_sum_loop ?_
    rw [Around.under_plainId F.plain_sum_loop _]
    show wpAny _ A.in1 (seqItems? (.ref S) >>= _) _ _ s
    refine wpAny_bind (wpAny_seqItems hS rfl ?_)
    show wpAny _ A.in1 (tryCatch (pyNext (.ref I)) _ >>= _) _ _ s
    refine wpAny_bind (wpAny_tryCatch (W.item i s _ _ hlt hst fun v s' hPv hst' hm => ?_))
    have ev := hP i v hPv
    subst ev
    have kp : ∀ {a : Addr} {xs : Array Value}, a ∉ S :: wr → PlainL s.heap a xs → PlainL s'.heap a xs := fun {a xs} ha ⟨o, m, e, r⟩ => ⟨o, m, hm.heap a o (fun h => ha (List.mem_cons_of_mem _ h)) e, r⟩
    have hS' := hm.heap S _ hSw hS
    show wpAny _ A.in1 ((holding [Value.ref (row i)] (binaryOp .Add (.ref t) (.ref (row i)))).attempt >>= _) _ _ _
    refine wpAny_bind (wpAny_attempt (wpAny_holding (addL (kp htn ht) (kp (hrow i hlt) (hrs i hlt)) (by omega) ?_)))
    have pne : s'.heap.objs.size ∉ S :: wr := fun h => by
      rcases List.mem_cons.mp h with e | h
      · exact absurd (e ▸ Heap.lt_size hS') (Nat.lt_irrefl _)
      · obtain ⟨o, eo⟩ := hw (i + 1) s' hst' _ h
        exact Nat.lt_irrefl _ (Heap.lt_size eo)
    have pS : s'.heap.objs.size ≠ S := fun e => pne (by rw [e]; exact List.mem_cons_self)
    have fresh : s.heap.get? s'.heap.objs.size = none := by
      cases q : s.heap.get? s'.heap.objs.size with
      | none => rfl
      | some o => exact absurd (Heap.lt_size (hm.heap _ o (fun h => pne (List.mem_cons_of_mem _ h)) q)) (Nat.lt_irrefl _)
    have hS1 : (s'.heap.push { cls := .type "list", data := .seq (acc ++ its i).toArray }).get? S = some { cls := .type "list", dict := none, data := .seq #[.ref t] c, slots := #[] } := Heap.get?_push_of_some _ hS'
    show wpAny _ A.in1 (updateSeq S (fun _ => #[.ref s'.heap.objs.size]) >>= _) _ _ _
    refine wpAny_bind (wpAny_updateSeq hS1 rfl ?_)
    have hS2 := Heap.get?_update_self (Obj.mapSeq fun _ => #[Value.ref s'.heap.objs.size]) hS1 rfl
    refine wpAny_bind (wpAny_letGo ?_)
    have old : ∀ b o, b ≠ S → s'.heap.get? b = some o → (((s'.heap.push { cls := .type "list", data := .seq (acc ++ its i).toArray }).update S (Obj.mapSeq fun _ => #[Value.ref s'.heap.objs.size])).update S (Obj.mapSeq fun _ => #[Value.ref s'.heap.objs.size])).get? b = some o := fun b o hb e =>
      (Heap.get?_update_other _ _ (Ne.symm hb)).trans ((Heap.get?_update_other _ _ (Ne.symm hb)).trans (Heap.get?_push_of_some _ e))
    have newp : (((s'.heap.push { cls := .type "list", data := .seq (acc ++ its i).toArray }).update S (Obj.mapSeq fun _ => #[Value.ref s'.heap.objs.size])).update S (Obj.mapSeq fun _ => #[Value.ref s'.heap.objs.size])).get? s'.heap.objs.size = some { cls := .type "list", data := .seq (acc ++ its i).toArray } :=
      (Heap.get?_update_other _ _ (Ne.symm pS)).trans ((Heap.get?_update_other _ _ (Ne.symm pS)).trans (Heap.get?_push_size _ rfl))
    have st3 := W.frame (i + 1) s' (((s'.heap.push { cls := .type "list", data := .seq (acc ++ its i).toArray }).update S (Obj.mapSeq fun _ => #[Value.ref s'.heap.objs.size])).update S (Obj.mapSeq fun _ => #[Value.ref s'.heap.objs.size])) s'.toks hst' (Nat.le_refl _) fun b hb o e => old b o (fun z => hSf (z ▸ hb)) e
    refine wpAny_bind (wpAny_updateSeq hS2 rfl (wpAny_pure ⟨plainId_quiet F.plain_sum_loop _, ih (i + 1) _ s'.heap.objs.size (acc ++ its i) _ (by omega) hlt st3 (Heap.get?_update_self _ hS2 rfl) ⟨_, _, newp, rfl, rfl, rfl⟩ pne (fun j hj => ?_) (by rw [List.length_append]; omega) fun s'' p hm'' hf => ?_⟩))
    · obtain ⟨o, m, e, r⟩ := kp (hrow j hj) (hrs j hj)
      exact ⟨o, m, old _ _ (fun z => hrow j hj (z ▸ List.mem_cons_self)) e, r⟩
    · refine hR s'' p (Moved.trans W.gtrans ((hm.mono hsub).then_heap (Nat.le_refl _) fun b o hb e => old b o (fun z => hb (z ▸ List.mem_cons_self)) e) hm'') (.inr ?_)
      rw [hra, List.flatten_cons, ← List.append_assoc]
      rcases hf with ⟨e, k0⟩ | ⟨hf, hp⟩
      · subst k0
        rw [e]
        refine ⟨fresh, 0, ?_⟩
        rw [show ((List.range' (i + 1) 0).map its).flatten = [] from rfl, List.append_nil]
        exact hm''.heap _ _ pne newp
      · refine ⟨?_, hp⟩
        cases q : s.heap.get? p with
        | none => rfl
        | some o =>
          by_cases z : p = S
          · rw [z] at hf
            rw [show _ = _ from Heap.get?_update_self _ hS2 rfl] at hf
            cases hf
          · by_cases z2 : p ∈ wr
            · obtain ⟨o', eo⟩ := hw (i + 1) _ st3 p z2
              rw [show _ = _ from eo] at hf
              cases hf
            · rw [show _ = _ from old p o z (hm.heap p o z2 q)] at hf
              cases hf
end
section
variable {prog : Program} {w : World} {A : Around} {E : Value → Shared → Prop} {s : Shared}
theorem ne1 {b N : Nat} (h : b < N) (e : b = N) : False := by omega
theorem ne2 {b N : Nat} (h : b < N) (e : b = N + 1) : False := by omega
theorem ne3 {N : Nat} (e : N + 1 = N) : False := by omega
theorem args_sum2 (a b : Value) : argsOk "sum" ⟨[a, b], []⟩ := by unfold argsOk; kernel_rfl
theorem call_sumL {l t : Addr} {rows : List (Addr × List Value)} {Q : Value → Shared → Prop} (hh : A.handled = none) (hl : PlainL s.heap l (rows.map fun r => Value.ref r.1).toArray) (hr : ∀ r ∈ rows, PlainL s.heap r.1 r.2.toArray) (ht : PlainL s.heap t #[]) (hz : (rows.map (·.2)).flatten.length ≤ sizeLine) (hne : rows ≠ [])
    (h : ∀ h' tk p m, (∀ b o, s.heap.get? b = some o → h'.get? b = some o) → s.heap.get? p = none → h'.get? p = some { cls := .type "list", data := .seq (rows.map (·.2)).flatten.toArray m } → Q (.ref p) { s with heap := h', toks := tk }) : wpAny (model prog w) A (call (.builtin "sum") [.ref l, .ref t]) Q E s := by
  refine call_function_tree F.kind_sum F.plain_sum F.entry_sum (args_sum2 _ _) ?_
  unfold Builtin.«sum»
  simp only [List.length_cons, List.length_nil]
  rw [if_neg (by decide)]
  refine wpAny_bind (wpAny_of_eq (show Builtin.Builtins.bindParams "sum" ["start"] 0 ⟨[.ref t], []⟩ = pure [some (.ref t)] from rfl) ?_)
  have hl0 : s.heap.IsList l (rows.map fun r => Value.ref r.1).toArray := by
    obtain ⟨o, n, e, c, _, d⟩ := hl
    exact ⟨o, e, c, n, d⟩
  have hlt : l < s.heap.objs.size := by obtain ⟨_, _, e, _⟩ := hl; exact Heap.lt_size e
  refine wpAny_bind (wpAny_pyIter_list hl0 ?_)
  have pk : ∀ {h : Heap} {o : Obj} {a : Addr} {xs : Array Value}, PlainL h a xs → PlainL (h.push o) a xs := fun x => x.keeps fun b o e => Heap.get?_push_of_some _ e
  refine wpAny_bind (wpAny_pure ?_)
  simp only [List.forIn_cons, List.forIn_nil]
  have ty : ∀ {s2 : Shared}, PlainL s2.heap t #[] → s2.TypeIs (.ref t) "list" := fun z => plain_typeIs z
  refine wpAny_bind (wpAny_bind (wpAny_bind (wpAny_isInstance (T := "list") (b := false) (ty (pk ht)) PySem.F.sub_list_str ?_)))
  simp only [Bool.false_eq_true, if_false]
  refine wpAny_pure (wpAny_bind (wpAny_bind (wpAny_isInstance (T := "list") (b := false) (ty (pk ht)) PySem.F.sub_list_bytes ?_)))
  simp only [Bool.false_eq_true, if_false]
  refine wpAny_pure (wpAny_bind (wpAny_bind (wpAny_isInstance (T := "list") (b := false) (ty (pk ht)) PySem.F.sub_list_bytearray ?_)))
  simp only [Bool.false_eq_true, if_false]
  refine wpAny_pure (wpAny_pure ?_)
  refine wpAny_bind (wpAny_newObj_type ?_)
  have W := (Walks.list (prog := prog) (w := w) (A := A.in1) hh s.heap.objs.size l (Nat.ne_of_lt hlt) (rows.map fun r => Value.ref r.1).toArray).toS
  have hsz : (rows.map fun r => Value.ref r.1).toArray.size = rows.length := by simp
  rw [hsz] at W
  have fl : (List.range' 0 rows.length).map (fun i => (rows.map (·.2)).getD i []) = rows.map (·.2) := by
    apply List.ext_getElem
    · simp
    · intro i h1 h2
      simp only [List.length_map] at h2
      simp [List.getD_eq_getElem?_getD, h2]
  have row : ∀ {i : Nat}, i < rows.length → ∃ r, r ∈ rows ∧ (rows.map (·.1)).getD i 0 = r.1 ∧ (rows.map (·.2)).getD i [] = r.2 := fun {i} hi => ⟨rows[i], List.getElem_mem hi, by simp [List.getD_eq_getElem?_getD, hi], by simp [List.getD_eq_getElem?_getD, hi]⟩
  have rlt : ∀ {i : Nat}, i < rows.length → (rows.map (·.1)).getD i 0 < s.heap.objs.size := fun {i} hi => by
    obtain ⟨r, h1, h2, _⟩ := row hi
    obtain ⟨_, _, e, _⟩ := hr r h1
    rw [h2]
    exact Heap.lt_size e
  have sz : (s.heap.push { cls := .type "list_iterator", data := .fields #[.ref l, .int 0 0] }).objs.size = s.heap.objs.size + 1 := Heap.size_push ..
  refine wpAny_pure ⟨plainId_quiet F.plain_sum_loop _, sum_loopL (S := (s.heap.push { cls := .type "list_iterator", data := .fields #[.ref l, .int 0 0] }).objs.size) W (fun i => (rows.map (·.1)).getD i 0) (fun i => (rows.map (·.2)).getD i []) (fun i v hv => ?_) (fun hm => ?_) (fun i hi hm => ?_) (fun i s3 st b hb => ?_) rows.length 0 _ t [] 0 (by omega) (Nat.zero_le _) ?_ (Heap.get?_push_size _ rfl) (pk (pk ht)) (fun hm => ?_) (fun j hj => ?_) ?_ fun s' p hm hf => ?_⟩
  · rw [List.getElem?_toArray, List.getElem?_map] at hv
    cases q : rows[i]? with
    | none => rw [q] at hv; cases hv
    | some r =>
      rw [q] at hv
      cases hv
      simp [List.getD_eq_getElem?_getD, q]
  · rw [sz] at hm
    rcases List.mem_cons.mp hm with e | hm
    · exact ne3 e
    · exact ne2 hlt (List.mem_singleton.mp hm).symm
  · have := rlt hi
    rw [sz] at hm
    rcases List.mem_cons.mp hm with e | hm
    · exact ne2 this e
    · exact ne1 this (List.mem_singleton.mp hm)
  · rw [List.mem_singleton.mp hb]
    obtain ⟨⟨o, e, _⟩, _⟩ := st
    exact ⟨o, e⟩
  · exact ⟨⟨_, Heap.get?_push_of_some _ (Heap.get?_push_size _ rfl), rfl, rfl⟩, hl0.at fun o e => Heap.get?_push_of_some _ (Heap.get?_push_of_some _ e)⟩
  · obtain ⟨_, _, e, _⟩ := ht
    have := Heap.lt_size e
    rw [sz] at hm
    rcases List.mem_cons.mp hm with e | hm
    · exact ne2 this e
    · exact ne1 this (List.mem_singleton.mp hm)
  · obtain ⟨r, h1, h2, h3⟩ := row hj
    show PlainL _ ((rows.map (·.1)).getD j 0) ((rows.map (·.2)).getD j []).toArray
    rw [h2, h3]
    exact pk (pk (hr r h1))
  · rw [fl]
    simpa using hz
  · rw [fl] at hf
    rcases hf with ⟨_, e⟩ | ⟨hp, m, hq⟩
    · exact absurd (List.eq_nil_of_length_eq_zero e) hne
    obtain ⟨h', g', d', tk', os'⟩ := s'
    have e1 : g' = s.gens := hm.gens
    have e2 : d' = s.drawn := hm.drawn
    have e3 : os' = s.os := hm.os
    subst e1 e2 e3
    refine h h' tk' p m (fun b o e => hm.heap b o (fun hb => ?_) (Heap.get?_push_of_some _ (Heap.get?_push_of_some _ e))) ?_ hq
    · have := Heap.lt_size e
      rw [sz] at hb
      rcases List.mem_cons.mp hb with e | hb
      · exact ne2 this e
      · exact ne1 this (List.mem_singleton.mp hb)
    · cases q : s.heap.get? p with
      | none => rfl
      | some o =>
        have z : _ = some o := Heap.get?_push_of_some { cls := .type "list", data := .seq #[.ref t] } (Heap.get?_push_of_some { cls := .type "list_iterator", data := .fields #[.ref l, .int 0 0] } q)
        rw [show _ = _ from z] at hp
        cases hp
end
theorem objOk_at {P : Program} {w : World} {H : Hp} {h : Heap} {a : Addr} {o : HO} (x : ObjOk P w H h a o) : ∃ u, h.get? a = some u := by
  cases o with
  | lst xs => obtain ⟨_, _, _, _, e⟩ := x; exact ⟨_, e⟩
  | tup xs => obtain ⟨_, _, _, ob, e, _⟩ := x; exact ⟨_, e⟩
  | dK kvs => obtain ⟨_, _, _, _, o, _, _, e, _⟩ := x; exact ⟨_, e⟩
  | dT kvs => obtain ⟨_, _, _, _, o, _, _, e, _⟩ := x; exact ⟨_, e⟩
  | set S n => obtain ⟨o, _, _, _, e, _⟩ := x; exact ⟨_, e⟩
  | ins C dx fs => obtain ⟨_, _, _, e, _⟩ := x; exact ⟨_, e⟩
  | own y => obtain ⟨_, e⟩ := x; exact ⟨_, e⟩
  | xd fs => obtain ⟨_, ⟨_, _, _, e, _⟩, _⟩ := x; exact ⟨_, e⟩
  | rng lo hi => obtain ⟨_, _, _, e⟩ := x; exact ⟨_, e⟩
  | frz ob u => obtain ⟨e, _⟩ := x; exact ⟨_, e⟩
  | tbl ps => exact ⟨_, (show h.get? a = some _ from x)⟩
  | met f y => exact ⟨_, (show h.get? a = some _ from x)⟩
  | ext φ => obtain ⟨_, ⟨_, e⟩, _⟩ := x; exact ⟨_, e⟩
section
variable {X : Cx} {sl : List Ent} {a : Expr} {p p2 pos : Pos}
theorem op_sumL (hc : X.calm = true) : CallR X (.builtin "sum") (fun vs H Q => ∃ (l t : Addr) (rs : List (Addr × List Int)), vs = [V.ref l, V.ref t] ∧ SqL X.K H l (rs.map fun r => V.ref r.1) ∧ (∀ r ∈ rs, SqL X.K H r.1 (r.2.map V.int)) ∧ SqL X.K H t [] ∧ rs ≠ [] ∧ (rs.map (·.2)).flatten.length ≤ sizeLine ∧ ∀ q, H q = none → Q (.ref q) (upd H q (.lst ((rs.map (·.2)).flatten.map V.int)))) := by
  intro pins s σ H vs us Q I r h
  obtain ⟨l, t, rs, rfl, hl, hrs, ht, hne, hz, q⟩ := h
  obtain ⟨u1, u2, rfl, r1, r2⟩ := vals2 r
  cases r1
  cases r2
  obtain ⟨its, rv, pl, _⟩ := I.list hl
  obtain ⟨its0, rv0, pt, _⟩ := I.list ht
  cases rv0
  have mk : ∀ (rs : List (Addr × List Int)) (us : List Value), Vals (rs.map fun r => V.ref r.1) us → (∀ r ∈ rs, SqL X.K H r.1 (r.2.map V.int)) → ∃ ws : List (Addr × List Value), us = ws.map (fun r => Value.ref r.1) ∧ (∀ r ∈ ws, PlainL s.heap r.1 r.2.toArray) ∧ Vals ((rs.map (·.2)).flatten.map V.int) (ws.map (·.2)).flatten ∧ ws.length = rs.length := by
    intro rs
    induction rs with
    | nil => intro us r _; cases r; exact ⟨[], rfl, (fun r h => nomatch h), .nil, rfl⟩
    | cons x rs ih =>
      intro us r hs
      cases r with
      | cons r1 r2 =>
        cases r1
        obtain ⟨ws, e1, e2, e3, e4⟩ := ih _ r2 fun r hr => hs r (List.mem_cons_of_mem _ hr)
        obtain ⟨ix, rx, px, _⟩ := I.list (hs x (List.mem_cons_self ..))
        refine ⟨(x.1, ix) :: ws, by rw [e1]; rfl, fun r hr => ?_, ?_, by rw [List.length_cons, List.length_cons, e4]⟩
        · rcases List.mem_cons.mp hr with e | hr
          · rw [e]; exact px
          · exact e2 r hr
        · rw [List.map_cons, List.map_cons, List.flatten_cons, List.flatten_cons, List.map_append]
          exact rx.append e3
  obtain ⟨ws, rfl, e2, e3, e4⟩ := mk rs its rv hrs
  have hlen := e3.length
  rw [List.length_map] at hlen
  refine call_sumL (I.ok.hd hc) pl e2 pt (by rw [← hlen]; exact hz) (fun e => by subst e; exact hne (List.eq_nil_of_length_eq_zero e4.symm)) fun h' tk p m hk hp hq => ?_
  have fr : H p = none := by
    cases q : H p with
    | none => rfl
    | some o =>
      obtain ⟨u, e⟩ := objOk_at (I.hok p o q)
      rw [hp] at e
      cases e
  exact ⟨.ref p, _, I.laidN (t' := tk) (o := .lst ((rs.map (·.2)).flatten.map V.int)) hk hp fr ⟨by rw [List.length_map]; exact hz, _, m, e3, hq⟩, rfl, q p fr⟩
/-- sum(list of lists of ints, []) -/
theorem e_sumLL {b : Expr} {rs : List (List Int)} (hc : X.calm = true) (h : Ev X a sl (rLst X.K (rs.map (rInts X.K)))) (h0 : Ev X b sl (rLst X.K [])) (hne : rs ≠ []) (hz : rs.flatten.length ≤ 100000) (hm : X.mg "sum" = none) (hg : Gl X "sum" := by rfl) (he : starEach [a, b] X.env = (false, eval a X.env) :: starEach [b] X.env := by rfl) (he2 : starEach [b] X.env = [(false, eval b X.env)] := by rfl) (hpl : (backTo pos (starEach [b] X.env)).any (·.1) = false := by rfl) : EvR X (.Call (.Name "sum" p) [a, b] [] pos) sl (.l (rs.flatten.map iI)) :=
  e_cb (op_sumL hc) hm (by decide +kernel) (a2 h h0 he he2) (fun vs G H Q s r q => by
    cases r with
    | cons r1 r => cases r with
      | cons r2 r =>
        cases r
        obtain ⟨l, us, e1, q1, p1⟩ := r1
        obtain ⟨t, us2, e2, q2, p2⟩ := r2
        cases p2
        subst e1 e2
        have mk : ∀ (rs : List (List Int)) (us : List V), PVs G (rs.map (rInts X.K)) us → ∃ ws : List (Addr × List Int), us = ws.map (fun r => V.ref r.1) ∧ (∀ r ∈ ws, SqL X.K H r.1 (r.2.map V.int)) ∧ ws.map (·.2) = rs := by
          intro rs
          induction rs with
          | nil => intro us r; cases r; exact ⟨[], rfl, (fun r h => nomatch h), rfl⟩
          | cons x rs ih =>
            intro us r
            cases r with
            | cons k1 k2 =>
              obtain ⟨ws, f1, f2, f3⟩ := ih _ k2
              obtain ⟨y, vs, ey, qy, py⟩ := k1
              have := py.ints
              subst this
              refine ⟨(y, x) :: ws, by rw [f1, ey]; rfl, fun r hr => ?_, by rw [List.map_cons, f3]⟩
              rcases List.mem_cons.mp hr with e | hr
              · rw [e]; exact s.seq qy
              · exact f2 r hr
        obtain ⟨ws, f1, f2, f3⟩ := mk rs us p1
        subst f1
        refine ⟨l, t, ws, rfl, s.seq q1, f2, s.seq q2, fun e => hne (by rw [← f3, e]; rfl), by rw [f3, sizeLine_eq]; omega, fun y hy => ?_⟩
        rw [f3]
        exact q y _ G _ (Gr.newOut s hy) hy (s.free hy) upd_same (PVs.ofInts _)) hg (by decide) (by decide) he hpl
end
end Dl


set_option Elab.async false
set_option linter.all false
set_option maxRecDepth 100000
set_option maxHeartbeats 2000000
namespace Dl
open PySem PySem.Spec PyProof.Rows L2 ClX
section
variable {X : Cx} {B : Base} {L : Hp} {D : Ends} {rest : List Stmt} {sl : List Ent} {pos : Pos} {Rs : List RV} {Bad : Addr → Prop}
/-- y.append(a new list) -/
theorem w_appendN (i : Nat) {y : Str} {p1 p2 p3 : Pos} {t : Addr → Prop} {e : Expr} {Rs' : List RV} (hbad : ∀ x, Bad x → B.H x ≠ none) (ei : sl[i]? = some (.mu (oT t Rs))) (h : EvR X e sl (.l Rs')) (hz : Rs.length < 100000) (k : Wp X B L rest D (sl.set i (.mu (oT t (Rs ++ [rN Bad Rs']))))) (hN : X.N[i]? = some y := by rfl) (hv : Vis X.env.scope y := by first | exact Or.inl rfl | exact Or.inr (Or.inl rfl) | exact Or.inr (Or.inr rfl)) (hd : (y == ("__debug__" : Str)) = false := by decide)
    (hcd : (y == ("__classdict__" : Str)) = false := by decide)
    (hp : PE X (.Call (.Attribute (.Name y p1) "append" p2) [e] [] p3) (tBM X.K "list" rAppend (tVar i) (tCons (can X e) tNil)) := by exact pe_bm PySem.F.plainAttrs_list PySem.F.slot_list_append PySem.F.type_list_append mt_append (pv _) (pa_cons pcan pa_nil)) (hs : swapsWith (.Call (.Attribute (.Name y p1) "append" p2) [e] [] p3) none pos.line X.env = pure false := by rfl) :
    Wp X B L (.Expr (.Call (.Attribute (.Name y p1) "append" p2) [e] [] p3) pos :: rest) D sl :=
  wp_of (ps_expr hp hs) fun σ G H a => by
    obtain ⟨l, vs, e1, h1, h2, h3⟩ := a.sat.own i Rs ei
    refine ⟨.ref l, e1, .inl ⟨rfl, _, SqL.of h1⟩, h.can a.sat fun q ws G2 H2 g2 n1 n2 eq r2 => ?_⟩
    have g3 := Gr.take g2 n1 eq n2
    have nb : ¬ Bad q := fun z => a.gr.t q (hbad q z) n1
    refine ⟨l, vs, .ref q, rfl, rfl, g2.hs _ _ h1, by rw [← h3.len]; exact Nat.lt_of_lt_of_le hz (by decide), ?_⟩
    exact k σ _ _ ((a.go g3).change ei e1 ((h3.mono g3.g).app (.cons ⟨q, ws, rfl, nb, upd_same, r2.mono (same_new n2)⟩ .nil)))
/-- x, y = [a new list], e2 -/
theorem w_parL1 (i j : Nat) {x y : Str} {a b : Expr} {px py pt pl : Pos} {kt k2 pt2} {R2 : RV} (hbad : ∀ x, Bad x → B.H x ≠ none) (hc : X.calm = true) (hN : X.N.Nodup) (h1 : EvR X a sl (.l Rs)) (h2 : Ev X b sl R2) (k : Wp X B L rest D ((sl.set i (.own [rN Bad Rs])).set j (.val R2))) (hi : X.N[i]? = some x := by rfl) (hj : X.N[j]? = some y := by rfl) (hij : i ≠ j := by decide)
    (hx : X.env.scope.names.lookup x = some .local := by rfl) (hy : X.env.scope.names.lookup y = some .local := by rfl) (hw : swappedStores [.Tuple [.Name x px, .Name y py] kt pt] (.Tuple [.List [a] pl, b] k2 pt2) X.env = pure (some [x, y]) := by rfl)
    (hs : swapsWithSole [.Tuple [.Name x px, .Name y py] kt pt] (.Tuple [.List [a] pl, b] k2 pt2) pos.line X.env = pure false := by rfl) (hse : starEach [a] X.env = [(false, eval a X.env)] := by rfl) (he : starEach [.List [a] pl, b] X.env = (false, eval (.List [a] pl) X.env) :: starEach [b] X.env := by rfl) (he' : starEach [b] X.env = [(false, eval b X.env)] := by rfl) :
    Wp X B L (.Assign [.Tuple [.Name x px, .Name y py] kt pt] (.Tuple [.List [a] pl, b] k2 pt2) pos :: rest) D sl :=
  wp_of (ps_par hc hN hi hj hij hx hy (pa_cons (pe_lst (pa_cons (hs := hse) pcan pa_nil)) (pa_cons pcan pa_nil he') he) hw hs) fun σ G H z => h1.can z.sat fun q vs G1 H1 g1 n1 n2 e1 r1 => by
    have g1' := Gr.take g1 n1 e1 n2
    have nb : ¬ Bad q := fun h => z.gr.t q (hbad q h) n1
    refine ⟨by rw [sizeLine_eq]; show 1 ≤ _; omega, fun o ho => ?_⟩
    have go : upd G1 q (.lst vs) o = none := g1'.s.free ho
    have g3 := g1'.trans (Gr.newOut (o := .lst [.ref q]) g1'.s ho)
    refine h2.can (z.sat.gr g3) fun u G2 H2 g2 r2 => ?_
    have rr : PVs G2 [rN Bad Rs] [.ref q] := .cons ⟨q, vs, rfl, nb, g2.g _ _ upd_same, (r1.mono (same_new n2)).mono g2.g⟩ .nil
    exact ⟨.ref o, u, rfl, k _ G2 H2 ((z.setOwn (g3.trans g2) i (g1.hs.free ho) (g2.out upd_same go) (g2.hs _ _ upd_same) rr).set j r2)⟩
/-- return f(..)[-1], f tells new lists of ints -/
theorem w_retLast {e1 b : Expr} {rows : List (List Int)} {r : List Int} {p : Pos} (hM : ∀ a, ¬ B.M a) (h : EvN X e1 sl (rows.map (List.map iI))) (hb : ∀ (sl' : List Ent), Ev X b sl' (iI (-1))) (hl : ∃ l, rows = l ++ [r]) (q : Post B.G B.H D.rt (.l (r.map iI))) (hs : PlainIx b := by intro _ _; rfl) : Wp X B L (.Return (some (.Subscript e1 b p)) pos :: rest) D sl :=
  wp_of (ps_ret (pe_ix ix_list pcan pcan hs)) fun σ G H a => by
    intro pins s I
    refine h (fun x => H x ≠ none) pins s σ G H _ I a.sat (fun _ z => z) fun p vs G1 H1 g1 n1 n2 e1 r1 => ?_
    have g1' := Gr.take g1 n1 e1 n2
    refine (hb sl).can (a.sat.gr g1') fun u G2 H2 g2 ⟨j, ej, hj⟩ => ?_
    subst hj
    obtain ⟨l, el⟩ := hl
    subst el
    rw [List.map_append, List.map_append] at r1
    have hat : atI ((l.map (List.map iI)).map (rN fun x => H x ≠ none) ++ [rN (fun x => H x ≠ none) (r.map iI)]) (-1) = some (rN (fun x => H x ≠ none) (r.map iI)) := atI_last _ _
    obtain ⟨w, h3, h4⟩ := atI_pv r1 hat
    obtain ⟨q1, ws, ew, nb, gq, pw⟩ := h4
    subst ew
    have nq : H q1 = none := Classical.not_not.mp nb
    refine ⟨p, vs, _, .ref q1, rfl, ej, SqL.of (g2.hs _ _ e1), h3, ?_⟩
    have pe := pw.ints
    subst pe
    have gg := g1'.trans g2
    have hq2 : H2 q1 = some (.lst (r.map V.int)) := g2.hs _ _ (g1.s _ _ gq)
    have g0 := a.gr0 hM
    refine q q1 (r.map V.int) G H2 ⟨g0.g, fun b o nm e => gg.hs _ _ (g0.h b o nm e), fun b e => ?_, fun b o e => gg.hs _ _ (a.sat.sub b o e), g0.n⟩ ?_ ?_ hq2 (PVs.ofInts _)
    · have := g0.t b e
      cases z : H b with
      | none => exact absurd z this
      | some o => rw [gg.hs _ _ z]; exact fun z => nomatch z
    · cases z : B.H q1 with
      | none => rfl
      | some o => exact absurd nq (g0.t q1 (by rw [z]; exact fun z => nomatch z))
    · exact a.sat.sub.free nq
/-- a, b, c = x, y, z -/
theorem w_par3 (i j l : Nat) {x y z : Str} {a b c : Expr} {px py pz pt : Pos} {kt k2 pt2} {R1 R2 R3 : RV} (hc : X.calm = true) (hN : X.N.Nodup) (h1 : Ev X a sl R1) (h2 : Ev X b sl R2) (h3 : Ev X c sl R3) (k : Wp X B L rest D (((sl.set i (.val R1)).set j (.val R2)).set l (.val R3))) (hi : X.N[i]? = some x := by rfl) (hj : X.N[j]? = some y := by rfl) (hl : X.N[l]? = some z := by rfl) (hij : i ≠ j := by decide) (hil : i ≠ l := by decide) (hjl : j ≠ l := by decide)
    (hx : X.env.scope.names.lookup x = some .local := by rfl) (hy : X.env.scope.names.lookup y = some .local := by rfl) (hz : X.env.scope.names.lookup z = some .local := by rfl) (hw : swappedStores [.Tuple [.Name x px, .Name y py, .Name z pz] kt pt] (.Tuple [a, b, c] k2 pt2) X.env = pure (some [x, y, z]) := by rfl)
    (hs : swapsWithSole [.Tuple [.Name x px, .Name y py, .Name z pz] kt pt] (.Tuple [a, b, c] k2 pt2) pos.line X.env = pure false := by rfl) (he : starEach [a, b, c] X.env = (false, eval a X.env) :: starEach [b, c] X.env := by rfl) (he1 : starEach [b, c] X.env = (false, eval b X.env) :: starEach [c] X.env := by rfl) (he' : starEach [c] X.env = [(false, eval c X.env)] := by rfl) :
    Wp X B L (.Assign [.Tuple [.Name x px, .Name y py, .Name z pz] kt pt] (.Tuple [a, b, c] k2 pt2) pos :: rest) D sl :=
  wp_of (ps_par3 hc hN hi hj hl hij hil hjl hx hy hz (pa_cons pcan (pa_cons pcan (pa_cons pcan pa_nil he') he1) he) hw hs) fun σ G H w => h1.can w.sat fun p G1 H1 g1 r1 => h2.can (w.sat.gr g1) fun u G2 H2 g2 r2 => h3.can ((w.sat.gr g1).gr g2) fun v G3 H3 g3 r3 => by
    have g23 := g2.trans g3
    exact ⟨_, _, _, rfl, k _ G3 H3 ((((w.go (g1.trans g23)).set i (R1.m g23.g r1)).set j (R2.m g3.g r2)).set l r3)⟩
theorem all_flat (xs : List Int) : (xs.map V.int).all flatV = true := by
  rw [List.all_map]
  exact List.all_eq_true.mpr fun _ _ => rfl
theorem inV_of {x : Int} {xs : List Int} (h : x ∈ xs) : inV (.int x) (xs.map V.int) = true := by
  unfold inV
  rw [List.any_map]
  exact List.any_eq_true.mpr ⟨x, h, by show eqV (.int x) (.int x) = true; simp [eqV]⟩
/-- a number that is among others -/
theorem e_inI {a b : Expr} {p : Pos} {x : Int} {xs : List Int} (ha : Ev X a sl (iI x)) (hb : Ev X b sl (rInts X.K xs)) (h : x ∈ xs) (hm : behindInMarks .In b = false) : Ev X (.Compare a [.In] [b] p) sl (iB true) := by
  refine e_cmp op_in_seq hm ha hb ?_
  rintro u v G H Q sm ⟨n, rfl, rfl⟩ ⟨l, vs, rfl, h1, h2⟩ kk
  have e2 := h2.ints
  subst e2
  exact ⟨l, _, rfl, .inl (sm.seq h1), rfl, all_flat xs, kk _ G H (.refl sm) ⟨_, rfl, by show _ = _; rw [if_neg (by decide)]; exact inV_of h⟩⟩
end
/-! ### f(k1 = e1, k2 = e2, k3 = e3), the parameters in the other sequence -/
structure HasK3 (P : Program) (w : World) (K : PySem.W.Frag) (mg : Str → Option Value) (base : Heap) (k : Nat) (x k1 k2 k3 : Str) {α : Type} (F : Fn α) : Prop where
  ex : ∃ f fd, mg x = some (.ref f) ∧ PySem.W.keepIn K (.ref f) = true ∧ F.ps = [k3, k2, k1] ∧ (∀ (s : Shared) (u v t : Value), BindsTo s fd ⟨[], [(k1, u), (k2, v), (k3, t)]⟩ [(k3, t), (k2, v), (k1, u)]) ∧ FnOk P w K mg base CX0 k f fd F.ps F.sp
section
variable {P : Program} {w : World} {K : PySem.W.Frag} {mg : Str → Option Value} {base : Heap}
theorem hasK3_df {x k1 k2 k3 : Str} {st : Stmt} {N : List Str} {k : Nat} {α : Type} {F : Fn α} (d : Df K mg x st) (S : FnScope N F.ps (defScope st)) (hps : F.ps = [k3, k2, k1]) (hl : ∀ a, (F.args a).length = F.ps.length)
    (hb : ∀ (kV doc pm : Value) (an : Option Addr) (cdv ct : Value) (u v t : Value), bindArgs (PySem.W.fnOf x x (defArgs st) (defBody st) (defScope st) .none kV doc pm an cdv ct) ⟨[], [(k1, u), (k2, v), (k3, t)]⟩ = pure [(k3, t), (k2, v), (k1, u)])
    (body : ∀ f, Body P w K mg base x st f N k F) : HasK3 P w K mg base (k + 1) x k1 k2 k3 F := by
  obtain ⟨f, fd, F0, hm⟩ := d
  refine ⟨f, fd, hm, F0.kp, hps, fun s u v t => ?_, fnOk_of F0 S hl (body f)⟩
  obtain ⟨oc, od, dV, kV, doc, pm, an, cdv, ct, osl, rfl, _, _, dfl, _⟩ := F0.ex
  rcases dfl with ⟨_, rfl⟩ | ⟨z, _⟩
  · exact .of_eq (hb kV doc pm an cdv ct u v t)
  · exact absurd rfl z
end
theorem vals3 {x y z : V} {us : List Value} (r : Vals [x, y, z] us) : ∃ u v w, us = [u, v, w] ∧ RelV x u ∧ RelV y v ∧ RelV z w := by
  cases r with
  | cons r1 r =>
    obtain ⟨u, v, rfl, r2, r3⟩ := vals2 r
    exact ⟨_, u, v, rfl, r1, r2, r3⟩
section
variable {X : Cx} {sl : List Ent} {k : Nat} {x k1 k2 k3 : Str} {α : Type} {F : Fn α} {p pos q1 q2 q3 : Pos} {e1 e2 e3 : Expr} {R1 R2 R3 : RV}
theorem e_callK3 (h : HasK3 X.prog X.w X.K X.mg X.base k x k1 k2 k3 F) (hr : Room k X.A) (z : α) (h1 : Ev X e1 sl R1) (h2 : Ev X e2 sl R2) (h3 : Ev X e3 sl R3) (hz : F.args z = [R3, R2, R1]) (hp : F.pre z) (hg : Gl X x := by rfl) (hdb : (x == ("__debug__" : Str)) = false := by decide)
    (hall : (backToKw pos (keywordEach [⟨some k1, e1, q1⟩, ⟨some k2, e2, q2⟩, ⟨some k3, e3, q3⟩] X.env)).all (·.1.isSome) = true := by rfl) (hks : (backToKw pos (keywordEach [⟨some k1, e1, q1⟩, ⟨some k2, e2, q2⟩, ⟨some k3, e3, q3⟩] X.env)).filterMap (·.1) = [k1, k2, k3] := by rfl)
    (hpl : ((backTo pos (starEach [] X.env)).any (·.1) || (backToKw pos (keywordEach [⟨some k1, e1, q1⟩, ⟨some k2, e2, q2⟩, ⟨some k3, e3, q3⟩] X.env)).any (·.1.isNone)) = false := by rfl) : EvR X (.Call (.Name x p) [] [⟨some k1, e1, q1⟩, ⟨some k2, e2, q2⟩, ⟨some k3, e3, q3⟩] pos) sl (F.res z) := by
  obtain ⟨f, fd, hm, hk, hps, hb, ok⟩ := h.ex
  intro pins s σ G H Q I a q
  apply wpAny_Call_Name_kw (ld_glob I hg hm _ hdb)
  refine PySem.W.callWith_KW0 (h₀ := X.base) I.ok.mod.kin hk hall (thn ((pk_cons (X := X) (nm := some k1) (kpos := q1) pcan (pk_cons (nm := some k2) (kpos := q2) pcan (pk_cons (nm := some k3) (kpos := q3) pcan pk_nil))).run pos pins s σ H (fun zs H2 => ∃ u v t, zs = [u, v, t] ∧ F.sp [t, v, u] H2 Q fun _ _ _ => False) I (h1.can a fun u G1 H1 g1 r1 => h2.can (a.gr g1) fun v G2 H2 g2 r2 => h3.can ((a.gr g1).gr g2) fun t G3 H3 g3 r3 => ⟨u, v, t, rfl, z, G3, g3.s, ?_, hp, ((q.gr g1).gr g2).gr g3⟩)) fun ws s2 ⟨zs, H2, I2, rz, u, v, t, ez, q2⟩ => ⟨I2.kIn, ?_⟩) hpl
  · rw [hz]; exact .cons r3 (.cons (R2.m g3.g r2) (.cons (R1.m (g2.g.trans g3.g) r1) .nil))
  · subst ez
    obtain ⟨u', v', t', rfl, ru, rv, rt⟩ := vals3 rz
    rw [hks]
    have hb' := hb s2 u' v' t'
    apply wpAny_call
    refine codeAny_mono (ok.run X.A X.stack s2 H2 _ [t', v', u'] [t, v, u] Q (fun _ _ _ => False) hr I2.env0 (by rw [hps]; exact hb') (.cons rt (.cons rv (.cons ru .nil))) q2) fun r1 s' hq => ?_
    match r1, hq with
    | .error e, hq => exact pass0 pins σ H2 s2 e s' I2 hq
    | .ok (.ret u), hq => exact I2.after hq
    | .ok .next, hq => exact False.elim hq
    | .ok .brk, hq => exact False.elim hq
    | .ok .cont, hq => exact False.elim hq
end
end Dl


set_option Elab.async false
set_option linter.all false
set_option maxRecDepth 100000
set_option maxHeartbeats 2000000
namespace Dl
open PySem PySem.Spec PyProof.Rows L2 ClX
/-! ### lists of one's own that an own list holds -/
abbrev Sd : Type := List (Addr × List RV)
/-- the very object at q -/
def rRef (q : Addr) : RV := ⟨fun _ v => v = .ref q, fun _ h => h⟩
abbrev refs (S : Sd) : List RV := S.map fun p => rRef p.1
structure Side (B : Base) (sl : List Ent) (σ : L2.St) (G H : Hp) (S : Sd) : Prop where
  obj : ∀ (m : Nat) q Rs, S[m]? = some (q, Rs) → ∃ vs, H q = some (.lst vs) ∧ PVs G Rs vs
  out : ∀ (m : Nat) q Rs, S[m]? = some (q, Rs) → G q = none
  new : ∀ (m : Nat) q Rs, S[m]? = some (q, Rs) → B.H q = none
  no : ∀ (m : Nat) q Rs, S[m]? = some (q, Rs) → ∀ (i : Nat) O p, sl[i]? = some (.mu O) → σ[i]? = some (some (.ref p)) → p ≠ q
  nd : ∀ (m m' : Nat) q q' Rs Rs', m ≠ m' → S[m]? = some (q, Rs) → S[m']? = some (q', Rs') → q ≠ q'
section
variable {X : Cx} {B : Base} {L : Hp} {sl : List Ent} {D : Ends} {pos : Pos} {rest : List Stmt} {S : Sd}
theorem Side.gr {σ : L2.St} {G H G' H' : Hp} (s : Side B sl σ G H S) (g : Gr G H G' H') : Side B sl σ G' H' S :=
  ⟨fun m q Rs h => let ⟨vs, h1, h2⟩ := s.obj m q Rs h; ⟨vs, g.hs _ _ h1, h2.mono g.g⟩, fun m q Rs h => let ⟨vs, h1, _⟩ := s.obj m q Rs h; g.out h1 (s.out m q Rs h), s.new, s.no, s.nd⟩
def WpS (X : Cx) (B : Base) (L : Hp) (st : List Stmt) (D : Ends) (sl : List Ent) (S : Sd) : Prop := ∀ (σ : L2.St) (G H : Hp), At B L sl σ G H → Side B sl σ G H S → canS X st D σ H
theorem WpS.nil (h : WpS X B L rest D sl []) : Wp X B L rest D sl := fun σ G H a => h σ G H a ⟨(fun _ _ _ h => by cases h), (fun _ _ _ h => by cases h), (fun _ _ _ h => by cases h), (fun _ _ _ h => by cases h), (fun _ _ _ _ _ _ _ h => by cases h)⟩
/-- a statement's rule, the held lists aside -/
theorem s_lift {β : Type} {Pb : β → Prop} {f : β → List Ent} {st : Stmt} (rule : ∀ (B : Base) (L : Hp), (∀ b, Pb b → Wp X B L rest D (f b)) → Wp X B L (st :: rest) D sl) (k : ∀ b, Pb b → WpS X B L rest D (f b) S) : WpS X B L (st :: rest) D sl S := by
  intro σ G H a sd
  have notM : ∀ c o, ¬ B.M c → B.H c = some o → ¬ ∃ (i : Nat) (O : OV), sl[i]? = some (.mu O) ∧ σ[i]? = some (some (.ref c)) := fun c o m e ⟨i, O, e1, e2⟩ => by
    rcases a.ow i O c e1 e2 with z | z
    · exact m z
    · rw [z] at e; cases e
  refine rule ⟨G, H, fun c => ∃ (i : Nat) (O : OV), sl[i]? = some (.mu O) ∧ σ[i]? = some (some (.ref c))⟩ G (fun b pb σ' G' H' a' => ?_) σ G H ⟨a.sat, Grow.refl a.sat.sub, Same.refl _, fun i O p e1 e2 => .inl ⟨i, O, e1, e2⟩⟩
  refine k b pb σ' G' H' ⟨a'.sat, ⟨a.gr.g.trans a'.gr.g, fun c o m e => a'.gr.h c o (notM c o m e) (a.gr.h c o m e), fun c e => a'.gr.t c (a.gr.t c e), a'.gr.s, fun c e => (a'.gr.n c (a.gr.t c e)).trans (a.gr.n c e)⟩, a.lo.trans a'.lo, fun i O p e1 e2 => ?_⟩ ⟨fun m q Rs h => ?_, fun m q Rs h => ?_, sd.new, fun m q Rs h i O p e1 e2 z => ?_, sd.nd⟩
  · rcases a'.ow i O p e1 e2 with ⟨j, O', k1, k2⟩ | z
    · exact a.ow j O' p k1 k2
    · refine .inr ?_
      cases q : B.H p with
      | none => rfl
      | some o => exact absurd z (a.gr.t p (by rw [q]; exact fun w => nomatch w))
  · obtain ⟨vs, h1, h2⟩ := sd.obj m q Rs h
    exact ⟨vs, a'.gr.h q _ (fun ⟨i, O, e1, e2⟩ => sd.no m q Rs h i O q e1 e2 rfl) h1, h2.mono a'.gr.g⟩
  · obtain ⟨vs, h1, h2⟩ := sd.obj m q Rs h
    have := a'.gr.n q (by show H q ≠ none; rw [h1]; exact fun w => nomatch w)
    rw [this]
    exact sd.out m q Rs h
  · subst z
    obtain ⟨vs, h1, h2⟩ := sd.obj m p Rs h
    rcases a'.ow i O p e1 e2 with ⟨j, O', k1, k2⟩ | z
    · exact sd.no m p Rs h j O' p k1 k2 rfl
    · have z : H p = none := z
      rw [h1] at z
      cases z
theorem s_lift1 {sl' : List Ent} {st : Stmt} (rule : ∀ (B : Base) (L : Hp), Wp X B L rest D sl' → Wp X B L (st :: rest) D sl) (k : WpS X B L rest D sl' S) : WpS X B L (st :: rest) D sl S :=
  s_lift (Pb := fun _ : Unit => True) (f := fun _ => sl') (fun B L h => rule B L (h () trivial)) fun _ _ => k
theorem s_of {st : Stmt} {t : TS} (h : PS X st t) (r : ∀ σ G H, At B L sl σ G H → Side B sl σ G H S → t (dgo D X rest) σ H) : WpS X B L (st :: rest) D sl S :=
  fun σ G H a s pins sh I => (pss_cons h (pcanS (X := X) (st := rest))).run pins sh σ H D I (r σ G H a s)
theorem s_end (h : WpS X B L rest D sl S) : WpS X B L [] (dgo D X rest) sl S := fun σ G H a s pins sh I => (pss_nil (X := X)).run pins sh σ H (dgo D X rest) I (h σ G H a s)
theorem s_if {c : Expr} {u v : List Stmt} {P : Bool → Prop} (h : EvT X c sl P) (h1 : P true → WpS X B L u (dgo D X rest) sl S) (h2 : P false → WpS X B L v (dgo D X rest) sl S) : WpS X B L (.If c u v pos :: rest) D sl S :=
  s_of (ps_if pcanT pcanS pcanS) fun σ G H a s => h.can a.sat fun b G' H' g p => by
    cases b with
    | true => exact iteT (h1 p σ G' H' (a.go g) (s.gr g))
    | false => exact iteF (h2 p σ G' H' (a.go g) (s.gr g))
theorem snoc_cases {S : Sd} {x y : Addr × List RV} {m : Nat} (h : (S ++ [x])[m]? = some y) : (m < S.length ∧ S[m]? = some y) ∨ (m = S.length ∧ y = x) := by
  by_cases c : m < S.length
  · rw [List.getElem?_append_left c] at h; exact .inl ⟨c, h⟩
  · rw [List.getElem?_append_right (by omega)] at h
    cases q : m - S.length with
    | zero => rw [q] at h; exact .inr ⟨by omega, (Option.some.inj h).symm⟩
    | succ k => rw [q] at h; cases h
/-- y.append(a new list), held by y from now on -/
theorem s_appNew (i : Nat) {y : Str} {p1 p2 p3 : Pos} {t : Addr → Prop} {e : Expr} {Rs0 : List RV} (ei : sl[i]? = some (.mu (oT t (refs S)))) (h : EvR X e sl (.l Rs0)) (hz : S.length < 100000) (k : ∀ q, WpS X B L rest D (sl.set i (.mu (oT t (refs (S ++ [(q, Rs0)]))))) (S ++ [(q, Rs0)])) (hN : X.N[i]? = some y := by rfl) (hv : Vis X.env.scope y := by first | exact Or.inl rfl | exact Or.inr (Or.inl rfl) | exact Or.inr (Or.inr rfl)) (hd : (y == ("__debug__" : Str)) = false := by decide) (hcd : (y == ("__classdict__" : Str)) = false := by decide)
    (hp : PE X (.Call (.Attribute (.Name y p1) "append" p2) [e] [] p3) (tBM X.K "list" rAppend (tVar i) (tCons (can X e) tNil)) := by exact pe_bm PySem.F.plainAttrs_list PySem.F.slot_list_append PySem.F.type_list_append mt_append (pe_var (by rfl) (by first | exact Or.inl rfl | exact Or.inr (Or.inl rfl) | exact Or.inr (Or.inr rfl)) (by decide) (by decide)) (pa_cons pcan pa_nil))
    (hs : swapsWith (.Call (.Attribute (.Name y p1) "append" p2) [e] [] p3) none pos.line X.env = pure false := by rfl) : WpS X B L (.Expr (.Call (.Attribute (.Name y p1) "append" p2) [e] [] p3) pos :: rest) D sl S :=
  s_of (ps_expr hp hs) fun σ G H a s => by
    obtain ⟨l, vs, e1, h2, h3, h4⟩ := a.sat.own i _ ei
    refine ⟨.ref l, e1, .inl ⟨rfl, _, SqL.of h2⟩, h.can a.sat fun q ws G1 H1 g1 n1 n2 eq r1 => ?_⟩
    have hl := g1.hs _ _ h2
    have lq : q ≠ l := fun z => by rw [z, h2] at n1; cases n1
    refine ⟨l, vs, .ref q, rfl, rfl, hl, by rw [← h4.len, List.length_map]; exact Nat.lt_of_lt_of_le hz (by decide), ?_⟩
    have a1 := a.go g1
    have bq : B.H q = none := by
      cases z : B.H q with
      | none => rfl
      | some o => exact absurd n1 (a.gr.t q (by rw [z]; exact fun w => nomatch w))
    have hr : PVs G1 (refs (S ++ [(q, Rs0)])) (vs ++ [.ref q]) := by
      unfold refs
      rw [List.map_append]
      exact (h4.mono g1.g).app (.cons rfl .nil)
    have nq : ∀ (m : Nat) b Rb, S[m]? = some (b, Rb) → b ≠ q := fun m b Rb hb z => by
      obtain ⟨us, u1, _⟩ := s.obj m b Rb hb
      rw [z, n1] at u1
      cases u1
    refine k q σ G1 _ (a1.change ei e1 hr) ⟨fun m b Rb hb => ?_, fun m b Rb hb => ?_, fun m b Rb hb => ?_, fun m b Rb hb j O p k1 k2 z => ?_, fun m m' b b' Rb Rb' ne hb hb' => ?_⟩
    · rcases snoc_cases hb with ⟨_, hb⟩ | ⟨_, hb⟩
      · obtain ⟨us, u1, u2⟩ := s.obj m b Rb hb
        have bl : b ≠ l := fun z => s.no m b Rb hb i _ l ei e1 z.symm
        exact ⟨us, by rw [upd_ne bl]; exact g1.hs _ _ u1, u2.mono g1.g⟩
      · cases hb
        exact ⟨ws, by rw [upd_ne lq]; exact eq, r1⟩
    · rcases snoc_cases hb with ⟨_, hb⟩ | ⟨_, hb⟩
      · obtain ⟨us, u1, u2⟩ := s.obj m b Rb hb
        exact g1.out u1 (s.out m b Rb hb)
      · cases hb
        exact n2
    · rcases snoc_cases hb with ⟨_, hb⟩ | ⟨_, hb⟩
      · exact s.new m b Rb hb
      · cases hb
        exact bq
    · have k1' : ∃ O', sl[j]? = some (.mu O') := by
        rcases getElem?_set_cases k1 with ⟨rfl, _⟩ | ⟨_, z⟩
        · exact ⟨_, ei⟩
        · exact ⟨_, z⟩
      obtain ⟨O', k1'⟩ := k1'
      rcases snoc_cases hb with ⟨_, hb⟩ | ⟨_, hb⟩
      · exact s.no m b Rb hb j O' p k1' k2 z
      · cases hb
        obtain ⟨p', o, w1, w2, _⟩ := a.sat.mu j O' k1'
        rw [k2] at w1
        cases w1
        rw [z, n1] at w2
        cases w2
    · rcases snoc_cases hb with ⟨l1, hb⟩ | ⟨l1, hb⟩
      · rcases snoc_cases hb' with ⟨_, hb'⟩ | ⟨_, hb'⟩
        · exact s.nd m m' b b' Rb Rb' ne hb hb'
        · cases hb'
          exact nq m b Rb hb
      · rcases snoc_cases hb' with ⟨_, hb'⟩ | ⟨l2, hb'⟩
        · cases hb
          exact fun z => nq m' b' Rb' hb' z.symm
        · omega
/-- y[b].append(e) -/
theorem s_appAt (i : Nat) {y : Str} {p1 p2 p3 p4 : Pos} {t : Addr → Prop} {b e : Expr} {j : Nat} {q : Addr} {Rs : List RV} {R : RV} (ei : sl[i]? = some (.mu (oT t (refs S)))) (hb : Ev X b sl (iI (j : Int))) (hq : S[j]? = some (q, Rs)) (h : Ev X e sl R) (hz : Rs.length < 100000) (k : WpS X B L rest D sl (S.set j (q, Rs ++ [R]))) (hix : PlainIx b := by intro _ _; rfl) (hN : X.N[i]? = some y := by rfl) (hv : Vis X.env.scope y := by first | exact Or.inl rfl | exact Or.inr (Or.inl rfl) | exact Or.inr (Or.inr rfl)) (hd : (y == ("__debug__" : Str)) = false := by decide) (hcd : (y == ("__classdict__" : Str)) = false := by decide)
    (hp : PE X (.Call (.Attribute (.Subscript (.Name y p1) b p2) "append" p3) [e] [] p4) (tBM X.K "list" rAppend (can X (.Subscript (.Name y p1) b p2)) (tCons (can X e) tNil)) := by exact pe_bm PySem.F.plainAttrs_list PySem.F.slot_list_append PySem.F.type_list_append mt_append pcan (pa_cons pcan pa_nil))
    (hs : swapsWith (.Call (.Attribute (.Subscript (.Name y p1) b p2) "append" p3) [e] [] p4) none pos.line X.env = pure false := by rfl) : WpS X B L (.Expr (.Call (.Attribute (.Subscript (.Name y p1) b p2) "append" p3) [e] [] p4) pos :: rest) D sl S :=
  s_of (ps_expr hp hs) fun σ G H a s => by
    refine (e_ixO i ei hb (R := rRef q) (atI_nat (by rw [List.getElem?_map, hq]; rfl)) hix hN hv hd hcd).can a.sat fun v G1 H1 g1 r1 => ?_
    have r1 : v = .ref q := r1
    subst r1
    have s1 := s.gr g1
    obtain ⟨vs, u1, u2⟩ := s1.obj j q Rs hq
    refine ⟨.inl ⟨rfl, _, SqL.of u1⟩, h.can (a.go g1).sat fun u G2 H2 g2 r2 => ?_⟩
    have s2 := s1.gr g2
    have a2 := (a.go g1).go g2
    have u1' := g2.hs _ _ u1
    refine ⟨q, vs, u, rfl, rfl, u1', by rw [← u2.len]; exact Nat.lt_of_lt_of_le hz (by decide), ?_⟩
    have gq : G2 q = none := s2.out j q Rs hq
    have old : ∀ {m : Nat} {c : Addr} {Rc : List RV}, (S.set j (q, Rs ++ [R]))[m]? = some (c, Rc) → ∃ R', S[m]? = some (c, R') := fun {m c Rc} hc => by
      rcases getElem?_set_cases hc with ⟨e1, e2⟩ | ⟨_, e2⟩
      · cases e2
        exact ⟨Rs, by rw [e1]; exact hq⟩
      · exact ⟨Rc, e2⟩
    refine k σ G2 _ (At.side a2 gq (s.new j q Rs hq) fun i' O p k1 k2 => s.no j q Rs hq i' O p k1 k2) ⟨fun m c Rc hc => ?_, fun m c Rc hc => ?_, fun m c Rc hc => ?_, fun m c Rc hc => ?_, fun m m' c c' Rc Rc' ne hc hc' => ?_⟩
    · rcases getElem?_set_cases hc with ⟨_, e2⟩ | ⟨ne, e2⟩
      · cases e2
        exact ⟨vs ++ [u], upd_same, (u2.mono g2.g).app (.cons r2 .nil)⟩
      · obtain ⟨us, w1, w2⟩ := s2.obj m c Rc e2
        exact ⟨us, by rw [upd_ne (s.nd m j c q Rc Rs ne e2 hq)]; exact w1, w2⟩
    · obtain ⟨R', z⟩ := old hc
      exact s2.out m c R' z
    · obtain ⟨R', z⟩ := old hc
      exact s.new m c R' z
    · obtain ⟨R', z⟩ := old hc
      exact s.no m c R' z
    · obtain ⟨R', z⟩ := old hc
      obtain ⟨R'', z'⟩ := old hc'
      exact s.nd m m' c c' R' R'' ne z z'
/-! ### loops -/
def NXS (B : Base) (L : Hp) (J : List Ent → Sd → Prop) : L2.St → Hp → Prop := fun σ H => ∃ sl G S, J sl S ∧ At B L sl σ G H ∧ Side B sl σ G H S
abbrev dturnS (D : Ends) (X : Cx) (rest : List Stmt) (B : Base) (L : Hp) (J : List Ent → Sd → Prop) : Ends := { D with nx := NXS B L J, ct := NXS B L J, bk := canS X rest D }
theorem s_turn {J : List Ent → Sd → Prop} (h : J sl S) : WpS X B L [] (dturnS D X rest B L J) sl S := fun σ G H a s pins sh I => (pss_nil (X := X)).run pins sh σ H (dturnS D X rest B L J) I ⟨sl, G, S, h, a, s⟩
theorem Side.set1 {σ : L2.St} {G H : Hp} (s : Side B sl σ G H S) (i : Nat) {R : RV} {v : V} : Side B (sl.set i (.val R)) (σ.set i (some v)) G H S :=
  ⟨s.obj, s.out, s.new, fun m q Rs h j O p e1 e2 => by
    rcases getElem?_set_cases e1 with ⟨_, z⟩ | ⟨n, z⟩
    · cases z
    · rw [List.getElem?_set_ne (Ne.symm n)] at e2
      exact s.no m q Rs h j O p z e2, s.nd⟩
theorem Side.setS {G H : Hp} : ∀ {js : List Nat} {Rs : List RV} {vs : List V} {sl : List Ent} {σ : L2.St}, Side B sl σ G H S → PVs G Rs vs → Side B (setE sl js Rs) (setS σ js vs) G H S
  | [], _, _, _, _, s, _ => by unfold Dl.setE Dl.setS; exact s
  | j :: js, _, _, _, _, s, .nil => by unfold Dl.setE Dl.setS; exact s
  | j :: js, _, _, _, _, s, .cons r t => by unfold Dl.setE Dl.setS; exact Side.setS (s.set1 j) t
theorem s_for {tg iter : Expr} {wi : TI} {g : TG} {n : Nat} {js : List Nat} {Rs : Nat → List RV} {body : List Stmt} (hc : X.calm = true) (hp : PassesOwn (model X.prog X.w) X.A X.env X.xe) (hi : PI X tg iter wi) (hg : PG X tg g) (hs : Src wi g sl n js Rs) (J : Nat → List Ent → Sd → Prop) (h0 : J 0 sl S)
    (turn : ∀ i L' sl' S', i < n → J i sl' S' → WpS X B L' body (dturnS D X rest B L' (J (i + 1))) (setE sl' js (Rs i)) S') (done : ∀ sl' S', J n sl' S' → WpS X B L rest D sl' S')
    (hf : ∀ x, foldedSetIterable iter X.env x = pure x := by intro _; rfl) : WpS X B L (.For tg iter body [] pos :: rest) D sl S :=
  s_of (ps_for hp hc hi hg pcanS hf) fun σ G H a sd => hs σ G H _ a.sat fun It G1 H1 g1 gs => by
    refine ⟨fun i m σ' H' => m = n - i ∧ i ≤ n ∧ NXS B G1 (J i) σ' H', ⟨n, by simp, Nat.zero_le _, sl, G1, S, h0, ⟨(a.go g1).sat, (a.go g1).gr, Same.refl _, a.ow⟩, sd.gr g1⟩, ?_⟩
    rintro i m σ' H' ⟨rfl, hin, sl', G', S', hj, b, sb⟩
    by_cases hlt : i < n
    · refine .inr ⟨gs.go i G' H' hlt b.lo b.sat.sub, NXS B G1 (J (i + 1)), fun σ2 H2 nx => ⟨n - (i + 1), by omega, rfl, hlt, nx⟩, fun x H'' y => ?_⟩
      exact gs.yld i σ' G' H' x H'' _ hlt b.lo b.sat.sub y fun vs G2 H2 g2 r => turn i G1 sl' S' hlt hj _ G2 H2 ((b.go g2).setS r) ((sb.gr g2).setS r)
    · have e : i = n := by omega
      subst e
      exact .inl ⟨gs.stop G' H' b.lo b.sat.sub, done sl' S' hj σ' G' H' (b.down (a.lo.trans g1.g)) sb⟩
/-- for i, y in enumerate(a list) -/
theorem s_forE {α : Type} [Inhabited α] {it : Expr} {xs : List α} {c : α → RV} {y y2 : Str} {p1 p2 py py2 pt : Pos} {kt : Nat} {body : List Stmt} (j1 j2 : Nat) (hN : X.N.Nodup) (src : Ev X it sl (rLst X.K (xs.map c))) (hm : X.mg "enumerate" = none) (J : Nat → List Ent → Sd → Prop) (h0 : J 0 sl S)
    (turn : ∀ (i : Nat) x L' sl' S', xs[i]? = some x → J i sl' S' → WpS X B L' body (dturnS D X rest B L' (J (i + 1))) ((sl'.set j1 (.val (iI (i : Int)))).set j2 (.val (c x))) S') (done : ∀ sl' S', J xs.length sl' S' → WpS X B L rest D sl' S')
    (hp : PassesOwn (model X.prog X.w) X.A X.env X.xe := by exact PassesOwn.never) (hc : X.calm = true := by rfl) (hg : Gl X "enumerate" := by rfl) (he : starEach [it] X.env = [(false, eval it X.env)] := by rfl) (hj : X.N[j1]? = some y := by rfl) (hj2 : X.N[j2]? = some y2 := by rfl) (hl : Loc X.env.scope y := by first | exact Or.inl rfl | exact Or.inr rfl) (hl2 : Loc X.env.scope y2 := by first | exact Or.inl rfl | exact Or.inr rfl) (hfn : X.fn y = true ∨ X.env.scope.names.lookup y = some .local := by first | exact .inl rfl | exact .inr rfl) (hfn2 : X.fn y2 = true ∨ X.env.scope.names.lookup y2 = some .local := by first | exact .inl rfl | exact .inr rfl)
    (ha : (assignEach [Expr.Name y py, Expr.Name y2 py2] X.env).map (·.2) = assign (.Name y py) X.env :: (assignEach [Expr.Name y2 py2] X.env).map (·.2) := by rfl)
    (hf : ∀ x, foldedSetIterable (.Call (.Name "enumerate" p1) [it] [] p2) X.env x = pure x := by intro _; rfl) : WpS X B L (.For (.Tuple [.Name y py, .Name y2 py2] kt pt) (.Call (.Name "enumerate" p1) [it] [] p2) body [] pos :: rest) D sl S :=
  s_for hc hp (pi_enum hg hm pcanA he) (pg_tup hc (pgs_cons (pg_name (i := j1) hN hj hl hfn) (pgs_cons (pg_name (i := j2) hN hj2 hl2 hfn2) pgs_nil) ha)) (src_E (j1 := j1) (j2 := j2) src he) J h0 (fun i L' sl' S' hi hj => turn i _ L' sl' S' (getD_get hi) hj) done hf
/-! ### the list of the held lists is handed back -/
theorem take_all {G H : Hp} (hM : ∀ a, ¬ B.M a) : ∀ {S : Sd} {σ : L2.St} {sl : List Ent}, Gr B.G B.H G H → Side B sl σ G H S → ∃ G', Gr B.G B.H G' H ∧ Same G G' ∧ (∀ (m : Nat) q Rs, S[m]? = some (q, Rs) → ∃ vs, G' q = some (.lst vs) ∧ PVs G' Rs vs) ∧ ∀ b, (∀ (m : Nat) q Rs, S[m]? = some (q, Rs) → b ≠ q) → G' b = G b
  | [], _, _, g, _ => ⟨G, g, Same.refl _, fun _ _ _ h => (by cases h), fun _ _ => rfl⟩
  | (q, Rs) :: S, σ, sl, g, s => by
    obtain ⟨vs, h1, h2⟩ := s.obj 0 q Rs rfl
    have s' : Side B sl σ G H S := ⟨fun m => s.obj (m + 1), fun m => s.out (m + 1), fun m => s.new (m + 1), fun m => s.no (m + 1), fun m m' q q' R R' ne => s.nd (m + 1) (m' + 1) q q' R R' (by omega)⟩
    obtain ⟨G1, g1, sm, h3, h4⟩ := take_all (S := S) hM g s'
    have gq : G1 q = none := by
      rw [h4 q fun m q' R' h => s.nd 0 (m + 1) q q' Rs R' (by omega) rfl h]
      exact s.out 0 q Rs rfl
    have g2 := Gr.take g1 (s.new 0 q Rs rfl) h1 gq
    have sm2 : Same G1 (upd G1 q (.lst vs)) := same_new gq
    refine ⟨upd G1 q (.lst vs), g2, sm.trans sm2, fun m b Rb hb => ?_, fun b hb => ?_⟩
    · cases m with
      | zero =>
        cases hb
        exact ⟨vs, upd_same, (h2.mono sm).mono sm2⟩
      | succ m =>
        obtain ⟨us, u1, u2⟩ := h3 m b Rb hb
        exact ⟨us, sm2 _ _ u1, u2.mono sm2⟩
    · rw [upd_ne (hb 0 q Rs rfl)]
      exact h4 b fun m q' R' h => hb (m + 1) q' R' h
theorem s_retRows (i : Nat) {x : Str} {p' : Pos} {t : Addr → Prop} {Bad : Addr → Prop} (hbad : ∀ x, Bad x → B.H x ≠ none) (ei : sl[i]? = some (.mu (oT t (refs S)))) (hM : ∀ a, ¬ B.M a) (q : Post B.G B.H D.rt (.l ((S.map (·.2)).map (rN Bad)))) (hN : X.N[i]? = some x := by rfl) (hv : Vis X.env.scope x := by first | exact Or.inl rfl | exact Or.inr (Or.inl rfl) | exact Or.inr (Or.inr rfl)) (hd : (x == ("__debug__" : Str)) = false := by decide)
    (hcd : (x == ("__classdict__" : Str)) = false := by decide) : WpS X B L (.Return (some (.Name x p')) pos :: rest) D sl S :=
  s_of (ps_ret (pe_var hN hv hd hcd)) fun σ G H a s => by
    obtain ⟨p, vs, h1, h2, h3, h4⟩ := a.sat.own i _ ei
    refine ⟨.ref p, h1, ?_⟩
    obtain ⟨G', g', sm, k1, k2⟩ := take_all hM (a.gr0 hM) s
    have gp : G' p = none := by rw [k2 p fun m b Rb hb z => s.no m b Rb hb i _ p ei h1 z]; exact h3
    refine q p vs G' H g' ((a.ow i _ p ei h1).resolve_left (hM p)) gp h2 ?_
    have all : ∀ (S' : Sd) (vs : List V), (∀ (m : Nat) b Rb, S'[m]? = some (b, Rb) → B.H b = none ∧ ∃ us, G' b = some (.lst us) ∧ PVs G' Rb us) → PVs G (refs S') vs → PVs G' ((S'.map (·.2)).map (rN Bad)) vs := by
      intro S'
      induction S' with
      | nil => intro vs _ h; cases h; exact .nil
      | cons y S' ih =>
        intro vs hS h
        cases h with
        | cons r tl =>
          have r : _ = V.ref y.1 := r
          obtain ⟨n0, us, u1, u2⟩ := hS 0 y.1 y.2 rfl
          exact .cons ⟨y.1, us, r, fun z => hbad _ z n0, u1, u2⟩ (ih _ (fun m b Rb hb => hS (m + 1) b Rb hb) tl)
    exact all S vs (fun m b Rb hb => ⟨s.new m b Rb hb, k1 m b Rb hb⟩) h4
end
end Dl


set_option Elab.async false
set_option linter.all false
set_option maxRecDepth 100000
set_option maxHeartbeats 2000000
namespace Dl
open PySem PySem.Spec PyProof.Rows L2 ClX
/-! ### an own list that is handed in and stays one's own: what is told holds no list -/
def RV.NoL (R : RV) : Prop := ∀ (G : Hp) (p : Addr) (vs : List V) (v : V), G p = some (.lst vs) → R.r G v → R.r (del G p) v
theorem nol_int {P : Int → Prop} : (rInt P).NoL := fun _ _ _ _ _ h => h
theorem nol_bool {P : Bool → Prop} : (rBool P).NoL := fun _ _ _ _ _ h => h
theorem nol_str {P : Str → Prop} : (rStr P).NoL := fun _ _ _ _ _ h => h
theorem nol_pvs {G : Hp} {p : Addr} {us : List V} (hp : G p = some (.lst us)) : ∀ {Rs : List RV} {vs : List V}, (∀ R ∈ Rs, R.NoL) → PVs G Rs vs → PVs (del G p) Rs vs
  | _, _, _, .nil => .nil
  | _, _, h, .cons r t => .cons (h _ (List.mem_cons_self ..) G p us _ hp r) (nol_pvs hp (fun R hR => h R (List.mem_cons_of_mem _ hR)) t)
theorem nol_tup {K : PySem.W.Frag} {Rs : List RV} (h : ∀ R ∈ Rs, R.NoL) : (rTup K Rs).NoL := fun G p us v hp ⟨a, vs, e, q, r⟩ => by
  refine ⟨a, vs, e, ?_, nol_pvs hp h r⟩
  rcases q with (q | ⟨o, q⟩) | q
  · exact .inl (.inl (by show del G p a = _; rw [del_ne fun z => by rw [z, hp] at q; cases q]; exact q))
  · exact .inl (.inr ⟨o, by show del G p a = _; rw [del_ne fun z => by rw [z, hp] at q; cases q]; exact q⟩)
  · exact .inr q
theorem nol_map {α : Type} {c : α → RV} {xs : List α} (h : ∀ x, (c x).NoL) : ∀ R ∈ xs.map c, R.NoL := fun R hR => by
  obtain ⟨x, _, rfl⟩ := List.mem_map.mp hR
  exact h x
theorem nol_nil : ∀ R ∈ ([] : List RV), R.NoL := fun _ h => nomatch h
theorem nol_cons {R : RV} {Rs : List RV} (h : R.NoL) (t : ∀ R ∈ Rs, R.NoL) : ∀ Q ∈ R :: Rs, Q.NoL := fun Q hQ => by
  rcases List.mem_cons.mp hQ with e | hQ
  · rw [e]; exact h
  · exact t Q hQ
theorem nol_pfs {G : Hp} {p : Addr} {us : List V} (hp : G p = some (.lst us)) : ∀ {fs : List (Str × RV)} {vs : List (Str × V)}, (∀ f ∈ fs, f.2.NoL) → PFs G fs vs → PFs (del G p) fs vs
  | _, _, _, .nil => .nil
  | _, _, h, .cons r t => .cons ⟨r.1, h _ (List.mem_cons_self ..) G p us _ hp r.2⟩ (nol_pfs hp (fun f hf => h f (List.mem_cons_of_mem _ hf)) t)
theorem nol_ins {C : Addr} {fs : List (Str × RV)} (h : ∀ f ∈ fs, f.2.NoL) : (rIns C fs).NoL := fun G p us v hp ⟨a, dx, vs, e, q, r⟩ =>
  ⟨a, dx, vs, e, by rw [del_ne fun z => by rw [z, hp] at q; cases q]; exact q, nol_pfs hp h r⟩
section
variable {X : Cx} {sl : List Ent} {e : Expr} {Rs : List RV} {R : RV}
theorem Sat.lendN {σ : L2.St} {G H : Hp} (a : Sat sl σ G H) (i : Nat) {t : Addr → Prop} (ei : sl[i]? = some (.mu (oT t Rs))) : ∃ p vs, G p = none ∧ Sat (sl.set i (.val (rN NoBad Rs))) σ (upd G p (.lst vs)) H := by
  obtain ⟨p, vs, h1, h2, h3, h4⟩ := a.own i Rs ei
  have sg : Same G (upd G p (.lst vs)) := same_new h3
  refine ⟨p, vs, h3, ⟨fun b o e => ?_, fun j R' ej => ?_, fun j O ej => ?_, fun j l O O' ne e1 e2 => ?_, by rw [List.length_set]; exact a.len⟩⟩
  · by_cases q : b = p
    · subst q; rw [upd_same] at e; rw [h2]; exact e
    · rw [upd_ne q] at e; exact a.sub b o e
  · rcases getElem?_set_cases ej with ⟨rfl, z⟩ | ⟨n, z⟩
    · cases z
      exact ⟨_, h1, p, vs, rfl, id, upd_same, h4.mono sg⟩
    · obtain ⟨u, k1, k2⟩ := a.val j R' z
      exact ⟨u, k1, R'.m sg k2⟩
  · rcases getElem?_set_cases ej with ⟨_, z⟩ | ⟨n, z⟩
    · cases z
    · obtain ⟨q, o, k1, k2, k3, k4⟩ := a.mu j O z
      refine ⟨q, o, k1, k2, ?_, O.m sg k4⟩
      rw [upd_ne fun z2 => a.dis j i O _ n z ei (by rw [k1, h1, z2])]
      exact k3
  · rcases getElem?_set_cases e1 with ⟨_, z1⟩ | ⟨n1, z1⟩
    · cases z1
    · rcases getElem?_set_cases e2 with ⟨_, z2⟩ | ⟨n2, z2⟩
      · cases z2
      · exact a.dis j l O O' ne z1 z2
theorem e_lend (i : Nat) {t : Addr → Prop} (ei : sl[i]? = some (.mu (oT t Rs))) (hR : R.NoL) (h : Ev X e (sl.set i (.val (rN NoBad Rs))) R) : Ev X e sl R := fun pins s σ G H Q I a k => by
  obtain ⟨p, vs, gp, sa⟩ := a.lendN i ei
  refine h pins s σ _ H Q I sa fun v G' H' g r => k v (del G' p) H' ⟨fun b o eb => ?_, g.h, g.t, fun b o eb => ?_, fun b hb => ?_⟩ (hR G' p vs v (g.g _ _ upd_same) r)
  · have ne : b ≠ p := fun z => by rw [z, gp] at eb; cases eb
    rw [del_ne ne]
    exact g.g b o (by rw [upd_ne ne]; exact eb)
  · have ne : b ≠ p := fun z => by rw [z, del_at] at eb; cases eb
    rw [del_ne ne] at eb
    exact g.s b o eb
  · by_cases z : b = p
    · rw [z, del_at, gp]
    · rw [del_ne z, g.n b hb, upd_ne z]
end
end Dl


set_option Elab.async false
set_option linter.all false
set_option maxRecDepth 100000
set_option maxHeartbeats 2000000
namespace Dl
open PySem PySem.Spec PyProof.Rows L2 ClX
/-! ### a dict of one's own, its keys lanes, each with True -/
abbrev kT (s : List Nat) : List (Int × RV) := s.map fun l : Nat => ((l : Int), iB true)
abbrev oK (s : List Nat) : OV := oD (kT s)
abbrev kvT (s : List Nat) : List (Key × V) := s.map fun l : Nat => (Sum.inl (l : Int), V.bl true)
theorem pk_is {G : Hp} : ∀ {s : List Nat} {kvs : List (Key × V)}, PKs G (kT s) kvs → kvs = kvT s
  | [], _, .nil => rfl
  | l :: s, _, .cons h t => by
    rename_i y ys
    obtain ⟨h1, b, h2, h3⟩ := h
    show y :: ys = (Sum.inl (l : Int), V.bl true) :: kvT s
    rw [← pk_is t]
    congr 1
    exact Prod.ext h1 (by rw [h2, h3])
theorem pk_of {G : Hp} : ∀ s : List Nat, PKs G (kT s) (kvT s)
  | [] => .nil
  | l :: s => .cons ⟨rfl, _, rfl, rfl⟩ (pk_of s)
theorem key_inj {l m : Nat} : ((Sum.inl (l : Int) : Key) = Sum.inl (m : Int)) ↔ l = m := ⟨fun e => by have := Sum.inl.inj e; omega, fun e => by rw [e]⟩
theorem valT : ∀ (s : List Nat) (l : Nat), valV (kvT s) (Sum.inl (l : Int)) = if s.contains l then some (.bl true) else none
  | [], l => rfl
  | m :: s, l => by
    show valV ((Sum.inl (m : Int), V.bl true) :: kvT s) _ = _
    by_cases e : m = l
    · rw [valV_pos (key_inj.mpr e), if_pos (by rw [e]; simp)]
    · rw [valV_neg fun z => e (key_inj.mp z), valT s l]
      have : (m :: s).contains l = s.contains l := by
        rw [List.contains_cons]
        have : (l == m) = false := by rw [beq_eq_false_iff_ne]; exact fun z => e z.symm
        rw [this, Bool.false_or]
      rw [this]
theorem putT (s : List Nat) (l : Nat) : putK (kvT s) (Sum.inl (l : Int)) (.bl true) = kvT (Mt.put s l) := by
  unfold putK Mt.put
  rw [valV_any, valT]
  by_cases c : s.contains l = true
  · rw [if_pos c, if_pos (by rfl), if_pos c, List.map_map]
    refine List.map_congr_left fun m hm => ?_
    show (if (Sum.inl (m : Int) : Key) = Sum.inl (l : Int) then _ else _) = _
    split <;> rfl
  · rw [if_neg c, if_neg (fun z => by cases z), if_neg c]
    unfold kvT
    rw [List.map_append]
    rfl
theorem dropT {s : List Nat} (h : s.Nodup) (l : Nat) : dropK (kvT s) (Sum.inl (l : Int)) = kvT (s.erase l) := by
  unfold dropK
  rw [h.erase_eq_filter, List.filter_map]
  congr 1
  refine List.filter_congr fun m _ => ?_
  show decide ((Sum.inl (m : Int) : Key) ≠ Sum.inl (l : Int)) = (m != l)
  by_cases e : m = l
  · subst e; simp
  · rw [decide_eq_true (show (Sum.inl (m : Int) : Key) ≠ Sum.inl (l : Int) from fun z => e (key_inj.mp z))]
    symm
    rw [bne_iff_ne]
    exact e
section
variable {X : Cx} {B : Base} {L : Hp} {sl : List Ent} {D : Ends} {pos p : Pos} {rest : List Stmt} {a b e : Expr} {s : List Nat} {l : Nat} {y : Str}
/-- {e: True} -/
theorem e_dlit (ha : Ev X a sl (iI (l : Int))) (hb : Ev X b sl (iB true)) : EvR X (.Dict [some a] [b] pos) sl (.m (oK [l])) :=
  evR_of (pe_disp (pps_cons pcan pcan pps_nil) rfl rfl (fun z => nomatch z) (by show 1 ≤ 15; decide)) fun σ G H Q z q d hd => by
    have s0 : Gr G H G (upd H d (.dK [])) := Gr.newOut z.sub hd
    refine ha.can (z.gr s0) fun w1 G1 H1 g1 ⟨_, a1, b1⟩ => hb.can ((z.gr s0).gr g1) fun w2 G2 H2 g2 ⟨_, a2, b2⟩ => ?_
    rw [b1] at a1
    rw [b2] at a2
    subst a1 a2
    have g12 := g1.trans g2
    have hd2 : H2 d = some (.dK []) := g12.hs _ _ upd_same
    have gd : G d = none := z.sub.free hd
    have gd2 : G2 d = none := g12.out upd_same gd
    refine ⟨hd2, kvT [l], rfl, by show 1 ≤ 15; decide, ?_⟩
    have gg := s0.trans g12
    refine q d _ G2 _ ⟨gg.g, fun c o _ e => ?_, fun c e => ?_, fun c o e => ?_, gg.n⟩ hd gd2 upd_same ⟨kvT [l], rfl, pk_of [l]⟩
    · rw [upd_ne (ne_of_none e hd)]; exact gg.hs c o e
    · rw [upd_ne (fun w => e (by rw [w]; exact hd))]; exact gg.t c e
    · rw [upd_ne (fun w => by rw [w, gd2] at e; cases e)]; exact gg.s c o e
theorem op_inDk (hu : X.A.units + 1 < cLine) : OpR X (compareOp .In) (fun x y H Q => ∃ d o, y = .ref d ∧ DGet H d x o ∧ Q (.bl o.isSome) H) := by
  intro pins sh σ H x y v u Q I rx ry h
  obtain ⟨d, o, rfl, g, q⟩ := h
  cases ry
  exact d_in hu I g rx fun s' I' => ⟨.bl o.isSome, H, I', rfl, q⟩
/-- e in d -/
theorem t_inK (i : Nat) {p' : Pos} (hu : X.A.units + 1 < cLine) (ei : sl[i]? = some (.mu (oK s))) (ha : Ev X a sl (iI (l : Int))) (hN : X.N[i]? = some y := by rfl) (hv : Vis X.env.scope y := by first | exact Or.inl rfl | exact Or.inr (Or.inl rfl) | exact Or.inr (Or.inr rfl)) (hd : (y == ("__debug__" : Str)) = false := by decide) (hcd : (y == ("__classdict__" : Str)) = false := by decide) (hm : behindInMarks .In (.Name y p') = false := by rfl) :
    EvT X (.Compare a [.In] [.Name y p'] pos) sl (fun z => z = s.contains l) :=
  evT_of (pt_cmpR (op_inDk hu) pcan (pe_var hN hv hd hcd) hm) fun σ G H Q z k => ha.can z fun x G1 H1 g1 ⟨_, e1, e2⟩ => by
    rw [e2] at e1
    subst e1
    obtain ⟨d, o, k1, k2, k3, kvs, rfl, k4⟩ := (z.gr g1).mu i _ ei
    rw [pk_is k4] at k2
    refine ⟨.ref d, k1, d, _, rfl, .inl ⟨_, Sum.inl (l : Int), .of k2, rfl, rfl⟩, _, rfl, k _ G1 H1 g1 ?_⟩
    rw [valT]
    split
    · rename_i c; rw [c]; rfl
    · rename_i c
      have : s.contains l = false := by simpa using c
      rw [this]; rfl
/-- d[e] = True -/
theorem w_putK (i : Nat) {p1 p2 : Pos} (ei : sl[i]? = some (.mu (oK s))) (hu : X.A.units + 1 < cLine) (h : Ev X e sl (iB true)) (hk : Ev X b sl (iI (l : Int))) (hl : s.length < 100000) (k : Wp X B L rest D (sl.set i (.mu (oK (Mt.put s l))))) (hN : X.N[i]? = some y := by rfl) (hv : Vis X.env.scope y := by first | exact Or.inl rfl | exact Or.inr (Or.inl rfl) | exact Or.inr (Or.inr rfl)) (hd : (y == ("__debug__" : Str)) = false := by decide)
    (hcd : (y == ("__classdict__" : Str)) = false := by decide) (hs : swapsWith e (some (.Subscript (.Name y p1) b p2)) pos.line X.env = pure false := by rfl) : Wp X B L (.Assign [.Subscript (.Name y p1) b p2] e pos :: rest) D sl :=
  wp_of (ps_dput hu (pe_var hN hv hd hcd) pcan pcan hs) fun σ G H a => h.can a.sat fun v G1 H1 g1 ⟨_, v1, v2⟩ => by
    rw [v2] at v1
    subst v1
    have a1 := a.go g1
    obtain ⟨d, o, h1, h2, h3, kvs, rfl, h4⟩ := a1.sat.mu i _ ei
    rw [pk_is h4] at h2
    refine ⟨.ref d, h1, hk.can a1.sat fun u G2 H2 g2 ⟨z, e2, ez⟩ => ?_⟩
    rw [ez] at e2
    subst e2
    refine ⟨d, _, rfl, DPut.k (k := Sum.inl (l : Int)) (g2.hs _ _ h2) (by rw [List.length_map]; exact Nat.lt_of_lt_of_le hl (by decide)), ?_⟩
    refine k σ G2 _ ((a1.go g2).changeM ei h1 ⟨_, rfl, ?_⟩)
    rw [putT]
    exact pk_of _
/-- d.pop(e) -/
theorem w_popK (i : Nat) {p1 p2 p3 : Pos} (ei : sl[i]? = some (.mu (oK s))) (nd : s.Nodup) (hk : Ev X b sl (iI (l : Int))) (hl : s.contains l = true) (k : Wp X B L rest D (sl.set i (.mu (oK (s.erase l))))) (m : M1 X (.Name y p1) "pop" p2 b p3) (hN : X.N[i]? = some y := by rfl) (hv : Vis X.env.scope y := by first | exact Or.inl rfl | exact Or.inr (Or.inl rfl) | exact Or.inr (Or.inr rfl)) (hd : (y == ("__debug__" : Str)) = false := by decide)
    (hcd : (y == ("__classdict__" : Str)) = false := by decide) (hs : swapsWith (.Call (.Attribute (.Name y p1) "pop" p2) [b] [] p3) none pos.line X.env = pure false := by rfl) : Wp X B L (.Expr (.Call (.Attribute (.Name y p1) "pop" p2) [b] [] p3) pos :: rest) D sl :=
  wp_of (ps_expr (pe_dpop1 (pe_var hN hv hd hcd) pcan m) hs) fun σ G H a => by
    obtain ⟨d, o, h1, h2, h3, kvs, rfl, h4⟩ := a.sat.mu i _ ei
    rw [pk_is h4] at h2
    refine ⟨.ref d, h1, d, rfl, .inl ⟨_, .of h2⟩, hk.can a.sat fun u G2 H2 g2 ⟨z, e2, ez⟩ => ?_⟩
    rw [ez] at e2
    subst e2
    refine ⟨_, Sum.inl (l : Int), .bl true, g2.hs _ _ h2, rfl, by rw [valT, if_pos hl], ?_⟩
    refine k σ G2 _ ((a.go g2).changeM ei h1 ⟨_, rfl, ?_⟩)
    rw [dropT nd]
    exact pk_of _
/-- sorted(d) -/
theorem e_sortedK (i : Nat) {p' : Pos} (ei : sl[i]? = some (.mu (oK s))) (h64 : s.length < 64) (hm : X.mg "sorted" = none) (hc : X.calm = true := by rfl) (hg : Gl X "sorted" := by rfl) (hN : X.N[i]? = some y := by rfl) (hv : Vis X.env.scope y := by first | exact Or.inl rfl | exact Or.inr (Or.inl rfl) | exact Or.inr (Or.inr rfl)) (hd : (y == ("__debug__" : Str)) = false := by decide)
    (hcd : (y == ("__classdict__" : Str)) = false := by decide) (he : starEach [.Name y p'] X.env = [(false, eval (.Name y p') X.env)] := by rfl) : EvR X (.Call (.Name "sorted" p) [.Name y p'] [] pos) sl (.l ((Mt.srt s).map fun j : Nat => iI (j : Int))) :=
  evR_of (pe_callB (call_sortedDI hc) hg hm (by decide +kernel) (pa_cons (pe_var hN hv hd hcd) pa_nil he) (by decide) (by decide) he rfl) fun σ G H Q z q => by
    obtain ⟨d, o, h1, h2, h3, kvs, rfl, h4⟩ := z.mu i _ ei
    rw [pk_is h4] at h2
    refine ⟨.ref d, h1, d, _, s.map fun j : Nat => (j : Int), rfl, .of h2, by rw [List.map_map, List.map_map]; rfl, by rw [List.length_map]; exact h64, fun ys w p1 p2 hw => ?_⟩
    rw [Mt.srt_int p1 p2]
    refine q w _ G _ (Gr.newOut z.sub hw) hw (z.sub.free hw) upd_same ?_
    have := PVs.ofInts (G := G) ((Mt.srt s).map fun j : Nat => (j : Int))
    rw [List.map_map, List.map_map] at this
    rw [List.map_map]
    exact this
end
/-! ### own lists: extend, remove; in -/
section
variable {X : Cx} {B : Base} {L : Hp} {sl : List Ent} {D : Ends} {pos p : Pos} {rest : List Stmt} {a b e : Expr} {Rs Rs' : List RV} {y : Str}
theorem w_extend (i : Nat) {p1 p2 p3 : Pos} {t : Addr → Prop} (ei : sl[i]? = some (.mu (oT t Rs))) (h : EvR X e sl (.l Rs')) (hz : Rs.length + Rs'.length ≤ 100000) (k : Wp X B L rest D (sl.set i (.mu (oT t (Rs ++ Rs'))))) (hN : X.N[i]? = some y := by rfl) (hv : Vis X.env.scope y := by first | exact Or.inl rfl | exact Or.inr (Or.inl rfl) | exact Or.inr (Or.inr rfl)) (hd : (y == ("__debug__" : Str)) = false := by decide) (hcd : (y == ("__classdict__" : Str)) = false := by decide)
    (hp : PE X (.Call (.Attribute (.Name y p1) "extend" p2) [e] [] p3) (tBM X.K "list" rExtend (tVar i) (tCons (can X e) tNil)) := by exact pe_bm PySem.F.plainAttrs_list PySem.F.slot_list_extend PySem.F.type_list_extend mt_extend (pv _) (pa_cons pcan pa_nil)) (hs : swapsWith (.Call (.Attribute (.Name y p1) "extend" p2) [e] [] p3) none pos.line X.env = pure false := by rfl) :
    Wp X B L (.Expr (.Call (.Attribute (.Name y p1) "extend" p2) [e] [] p3) pos :: rest) D sl :=
  wp_of (ps_expr hp hs) fun σ G H a => by
    obtain ⟨l, vs, e1, h1, h2, h3⟩ := a.sat.own i Rs ei
    refine ⟨.ref l, e1, .inl ⟨rfl, _, SqL.of h1⟩, h.can a.sat fun q ws G2 H2 g2 n1 n2 eq r2 => ?_⟩
    refine ⟨l, q, vs, ws, rfl, rfl, g2.hs _ _ h1, eq, by rw [sizeLine_eq, ← h3.len, ← r2.len]; omega, ?_⟩
    exact k σ G2 _ ((a.go g2).change ei e1 ((h3.mono g2.g).app r2))
theorem erase_idx : ∀ (xs : List Int) (x : Int), x ∈ xs → ∃ j : Nat, xs[j]? = some x ∧ (∀ m : Nat, m < j → xs[m]? ≠ some x) ∧ xs.eraseIdx j = xs.erase x
  | y :: xs, x, h => by
    by_cases e : y = x
    · exact ⟨0, by rw [e]; rfl, fun m hm => absurd hm (Nat.not_lt_zero _), by rw [e, List.erase_cons_head]; rfl⟩
    · rcases List.mem_cons.mp h with z | h
      · exact absurd z.symm e
      · obtain ⟨j, h1, h2, h3⟩ := erase_idx xs x h
        refine ⟨j + 1, h1, fun m hm => ?_, ?_⟩
        · cases m with
          | zero => exact fun z => e (Option.some.inj z)
          | succ m => exact h2 m (by omega)
        · rw [List.erase_cons_tail (by rw [beq_iff_eq]; exact e), ← h3]; rfl
theorem w_remove (i : Nat) {p1 p2 p3 : Pos} {t : Addr → Prop} {xs : List Int} {x : Int} (ei : sl[i]? = some (.mu (oT t (xs.map iI)))) (h : Ev X e sl (iI x)) (hx : x ∈ xs) (k : Wp X B L rest D (sl.set i (.mu (oT t ((xs.erase x).map iI))))) (hN : X.N[i]? = some y := by rfl) (hv : Vis X.env.scope y := by first | exact Or.inl rfl | exact Or.inr (Or.inl rfl) | exact Or.inr (Or.inr rfl)) (hd : (y == ("__debug__" : Str)) = false := by decide) (hcd : (y == ("__classdict__" : Str)) = false := by decide)
    (hp : PE X (.Call (.Attribute (.Name y p1) "remove" p2) [e] [] p3) (tBM X.K "list" rRemI (tVar i) (tCons (can X e) tNil)) := by exact pe_bm PySem.F.plainAttrs_list PySem.F.slot_list_remove PySem.F.type_list_remove mt_remove (pv _) (pa_cons pcan pa_nil)) (hs : swapsWith (.Call (.Attribute (.Name y p1) "remove" p2) [e] [] p3) none pos.line X.env = pure false := by rfl) :
    Wp X B L (.Expr (.Call (.Attribute (.Name y p1) "remove" p2) [e] [] p3) pos :: rest) D sl :=
  wp_of (ps_expr hp hs) fun σ G H a => by
    obtain ⟨l, vs, e1, h1, h2, h3⟩ := a.sat.own i _ ei
    obtain ⟨j, j1, j2, j3⟩ := erase_idx xs x hx
    refine ⟨.ref l, e1, .inl ⟨rfl, _, SqL.of h1⟩, h.can a.sat fun v G2 H2 g2 ⟨_, v1, v2⟩ => ?_⟩
    rw [v2] at v1
    subst v1
    have hv := h3.ints
    subst hv
    refine ⟨l, xs, x, j, rfl, rfl, g2.hs _ _ h1, j1, j2, ?_⟩
    rw [j3]
    exact k σ G2 _ ((a.go g2).change ei e1 (PVs.ofInts _))
theorem inV_eq {x : Int} {xs : List Int} : inV (.int x) (xs.map V.int) = decide (x ∈ xs) := by
  by_cases h : x ∈ xs
  · rw [inV_of h, decide_eq_true h]
  · rw [decide_eq_false h]
    unfold inV
    rw [List.any_map, List.any_eq_false]
    intro z hz c
    have c : eqV (.int x) (.int z) = true ∨ eqV (.int z) (.int x) = true := by first | exact .inl c | exact .inr c
    rcases c with c | c <;> (simp [eqV] at c; subst c; exact h hz)
theorem rInB {x : Int} {xs : List Int} {neg : Bool} {K : PySem.W.Frag} : ∀ u v G H (Q : VK), Same G H → (iI x).r G u → (rInts K xs).r G v → (∀ w G' H', Gr G H G' H' → (rBool fun z => z = (if neg then !decide (x ∈ xs) else decide (x ∈ xs))).r G' w → Q w H') → rIn K neg u v H Q := by
  rintro u v G H Q sm ⟨n, rfl, rfl⟩ ⟨l, vs, rfl, h1, h2⟩ kk
  have e2 := h2.ints
  subst e2
  exact ⟨l, _, rfl, .inl (sm.seq h1), rfl, all_flat xs, kk _ G H (.refl sm) ⟨_, rfl, by rw [inV_eq]⟩⟩
theorem t_inI {x : Int} {xs : List Int} (ha : Ev X a sl (iI x)) (hb : Ev X b sl (rInts X.K xs)) (hm : behindInMarks .In b = false := by rfl) : EvT X (.Compare a [.In] [b] p) sl (fun z => z = decide (x ∈ xs)) :=
  (t_cmp (P := fun z => z = (if false then !decide (x ∈ xs) else decide (x ∈ xs))) op_in_seq hm ha hb rInB).imp fun z h => h
theorem e_inB {x : Int} {xs : List Int} (ha : Ev X a sl (iI x)) (hb : Ev X b sl (rInts X.K xs)) (hm : behindInMarks .In b = false := by rfl) : Ev X (.Compare a [.In] [b] p) sl (iB (decide (x ∈ xs))) :=
  e_cmp (R := rBool fun z => z = (if false then !decide (x ∈ xs) else decide (x ∈ xs))) op_in_seq hm ha hb rInB
theorem t_notInI {x : Int} {xs : List Int} (ha : Ev X a sl (iI x)) (hb : Ev X b sl (rInts X.K xs)) (hm : behindInMarks .NotIn b = false := by rfl) : EvT X (.Compare a [.NotIn] [b] p) sl (fun z => z = !decide (x ∈ xs)) :=
  (t_cmp (P := fun z => z = (if true then !decide (x ∈ xs) else decide (x ∈ xs))) op_notIn_seq hm ha hb rInB).imp fun z h => h
/-- a new list made where an own list is read -/
theorem e_lendL (i : Nat) {t : Addr → Prop} (ei : sl[i]? = some (.mu (oT t Rs))) (hR : ∀ R ∈ Rs', R.NoL) (h : EvR X e (sl.set i (.val (rN NoBad Rs))) (.l Rs')) : EvR X e sl (.l Rs') := fun pins s σ G H Q I a k => by
  obtain ⟨p, vs, gp, sa⟩ := a.lendN i ei
  have hp : H p = some (.lst vs) := sa.sub _ _ upd_same
  refine h pins s σ _ H Q I sa fun q ws G' H' g n1 n2 eq r => k q ws (del G' p) H' ⟨fun b o eb => ?_, g.h, g.t, fun b o eb => ?_, fun b hb => ?_⟩ n1 ?_ eq (nol_pvs (g.g _ _ upd_same) hR r)
  · have ne : b ≠ p := fun z => by rw [z, gp] at eb; cases eb
    rw [del_ne ne]
    exact g.g b o (by rw [upd_ne ne]; exact eb)
  · have ne : b ≠ p := fun z => by rw [z, del_at] at eb; cases eb
    rw [del_ne ne] at eb
    exact g.s b o eb
  · by_cases z : b = p
    · rw [z, del_at, gp]
    · rw [del_ne z, g.n b hb, upd_ne z]
  · by_cases z : q = p
    · rw [z, del_at]
    · rw [del_ne z]; exact n2
/-- for y in range(a, -1, -1) -/
theorem src_down {c : Expr} {m : Nat} {j : Nat} (h : Ev X a sl (iI ((m : Int) - 1))) (h2 : Ev X b sl (iI (-1))) (h3 : Ev X c sl (iI (-1))) (hm : m < 100000) (he : starEach [a, b, c] X.env = (false, eval a X.env) :: starEach [b, c] X.env := by rfl) (he2 : starEach [b, c] X.env = (false, eval b X.env) :: starEach [c] X.env := by rfl) (he3 : starEach [c] X.env = [(false, eval c X.env)] := by rfl) :
    Src (iRng3 (canA X [a, b, c])) (gName j) sl m [j] (fun i => [iI ((m : Int) - 1 - (i : Int))]) := fun σ G H R z k => (a_cons h (a2 h2 h3 he2 he3) he).can z fun vs G1 H1 g1 r => by
  cases r with
  | cons r1 r => cases r with
    | cons r2 r => cases r with
      | cons r3 r =>
        cases r
        obtain ⟨_, e1, q1⟩ := r1
        obtain ⟨_, e2, q2⟩ := r2
        obtain ⟨_, e3, q3⟩ := r3
        subst e1 q1 e2 q2 e3 q3
        have rg : RgC ((m : Int) - 1) (-1) (-1) m := by
          have := RgC.neg (i := (m : Int) - 1) (j := -1) (by omega) (by omega) (by decide) (by decide)
          rw [show ((m : Int) - 1 - -1).toNat = m by omega] at this
          exact this
        refine ⟨_, _, _, m, rfl, rg, k _ G1 H1 g1 ⟨fun i G2 H2 hi s1 s2 => hi, fun G2 H2 s1 s2 => Nat.le_refl _, fun i σ G2 H2 x H' K hi s1 s2 y kk => ?_⟩⟩
        obtain ⟨rfl, rfl⟩ := y
        exact kk _ G2 H' (.refl s2) (.cons ⟨_, rfl, by omega⟩ .nil)
theorem w_forDown {c : Expr} {m : Nat} {py p1 p2 : Pos} {body : List Stmt} (j : Nat) (hN : X.N.Nodup) (h : Ev X a sl (iI ((m : Int) - 1))) (h2 : Ev X b sl (iI (-1))) (h3 : Ev X c sl (iI (-1))) (hm : m < 100000) (hr : X.mg "range" = none) (J : Nat → List Ent → Prop) (h0 : J 0 sl)
    (turn : ∀ (i : Nat) L' sl', i < m → J i sl' → Wp X B L' body (dturn D X rest B L' (J (i + 1))) (sl'.set j (.val (iI ((m - 1 - i : Nat) : Int))))) (done : ∀ sl', J m sl' → Wp X B L rest D sl')
    (hp : PassesOwn (model X.prog X.w) X.A X.env X.xe := by exact PassesOwn.never) (hc : X.calm = true := by rfl) (hg : Gl X "range" := by rfl) (he : starEach [a, b, c] X.env = (false, eval a X.env) :: starEach [b, c] X.env := by rfl) (he2 : starEach [b, c] X.env = (false, eval b X.env) :: starEach [c] X.env := by rfl) (he3 : starEach [c] X.env = [(false, eval c X.env)] := by rfl) (hpl : (backTo p2 (starEach [b, c] X.env)).any (·.1) = false := by rfl) (hj : X.N[j]? = some y := by rfl) (hl : Loc X.env.scope y := by first | exact Or.inl rfl | exact Or.inr rfl) (hfn : X.fn y = true ∨ X.env.scope.names.lookup y = some .local := by first | exact .inl rfl | exact .inr rfl)
    (hf : ∀ x, foldedSetIterable (.Call (.Name "range" p1) [a, b, c] [] p2) X.env x = pure x := by intro _; rfl) : Wp X B L (.For (.Name y py) (.Call (.Name "range" p1) [a, b, c] [] p2) body [] pos :: rest) D sl :=
  w_for hc hp (pi_range3 hg hr pcanA he hpl) (pg_name (i := j) hN hj hl hfn) (src_down h h2 h3 hm he he2 he3) J h0 (fun i L' sl' hi hj => by
    have := turn i L' sl' hi hj
    rw [show ((m - 1 - i : Nat) : Int) = (m : Int) - 1 - (i : Int) by omega] at this
    exact this) done hf
end
end Dl


set_option Elab.async false
set_option linter.all false
set_option maxRecDepth 100000
set_option maxHeartbeats 2000000
namespace Dl
open PySem PySem.Spec PyProof.Rows L2 ClX
section
variable {X : Cx} {B : Base} {L : Hp} {sl : List Ent} {D : Ends} {pos : Pos} {rest : List Stmt}
/-- for y in range(e), e one of several -/
theorem w_forRX {a : Expr} {Pm : Int → Prop} {y : Str} {py p1 p2 : Pos} {body : List Stmt} (j : Nat) (hN : X.N.Nodup) (src : Ev X a sl (rInt Pm)) (h1 : ∀ m, Pm m → 0 ≤ m ∧ m < 100000) (hm : X.mg "range" = none) (J : Int → Nat → List Ent → Prop) (h0 : ∀ m, Pm m → J m 0 sl)
    (turn : ∀ m (i : Nat) L' sl', Pm m → (i : Int) < m → J m i sl' → Wp X B L' body (dturn D X rest B L' (J m (i + 1))) (sl'.set j (.val (iI (i : Int))))) (done : ∀ m sl', Pm m → J m m.toNat sl' → Wp X B L rest D sl')
    (hp : PassesOwn (model X.prog X.w) X.A X.env X.xe := by exact PassesOwn.never) (hc : X.calm = true := by rfl) (hg : Gl X "range" := by rfl) (he : starEach [a] X.env = [(false, eval a X.env)] := by rfl) (hj : X.N[j]? = some y := by rfl) (hl : Loc X.env.scope y := by first | exact Or.inl rfl | exact Or.inr rfl) (hfn : X.fn y = true ∨ X.env.scope.names.lookup y = some .local := by first | exact .inl rfl | exact .inr rfl)
    (hf : ∀ x, foldedSetIterable (.Call (.Name "range" p1) [a] [] p2) X.env x = pure x := by intro _; rfl) : Wp X B L (.For (.Name y py) (.Call (.Name "range" p1) [a] [] p2) body [] pos :: rest) D sl :=
  w_forX hc hp (pi_range1 hg hm pcanA he) (pg_name (i := j) hN hj hl hfn) (src_rangeX src (fun m pm => by have := h1 m pm; omega) he) J h0 (fun b i L' sl' pb hi hj => turn b i L' sl' pb (by have := h1 b pb; omega) hj) done hf
end
end Dl


set_option Elab.async false
set_option linter.all false
set_option maxRecDepth 100000
set_option maxHeartbeats 2000000
namespace Dl
open PySem PySem.Spec PyProof.Rows L2 ClX
section
variable {X : Cx} {B : Base} {L : Hp} {sl : List Ent} {D : Ends} {pos : Pos} {rest : List Stmt} {Rs : List RV}
/-- x, y = e1, e2, some of the names held in cells; the first one a list of one's own -/
theorem w_parOC (i j : Nat) {x y : Str} {a b : Expr} {px py pt : Pos} {kt k2 pt2} {R2 : RV} (hc : X.calm = true) (hN : X.N.Nodup) (h1 : EvR X a sl (.l Rs)) (h2 : Ev X b sl R2) (k : Wp X B L rest D ((sl.set i (.own Rs)).set j (.val R2))) (hi : X.N[i]? = some x := by rfl) (hj : X.N[j]? = some y := by rfl)
    (hx : Loc X.env.scope x := by first | exact Or.inl rfl | exact Or.inr rfl) (hy : Loc X.env.scope y := by first | exact Or.inl rfl | exact Or.inr rfl) (fx : X.fn x = true ∨ X.env.scope.names.lookup x = some .local := by first | exact .inl rfl | exact .inr rfl) (fy : X.fn y = true ∨ X.env.scope.names.lookup y = some .local := by first | exact .inl rfl | exact .inr rfl)
    (hs : swapsWithSole [.Tuple [.Name x px, .Name y py] kt pt] (.Tuple [a, b] k2 pt2) pos.line X.env = pure false := by rfl) (hw : swappedStores [.Tuple [.Name x px, .Name y py] kt pt] (.Tuple [a, b] k2 pt2) X.env = pure none := by rfl)
    (ha : (assignEach [.Tuple [.Name x px, .Name y py] kt pt] X.env).map (·.2) = [assign (.Tuple [.Name x px, .Name y py] kt pt) X.env] := by rfl) (he : starEach [a, b] X.env = (false, eval a X.env) :: starEach [b] X.env := by rfl) (he' : starEach [b] X.env = [(false, eval b X.env)] := by rfl) :
    Wp X B L (.Assign [.Tuple [.Name x px, .Name y py] kt pt] (.Tuple [a, b] k2 pt2) pos :: rest) D sl :=
  wp_of (ps_asg (pe_tup (pa_cons pcan (pa_cons pcan pa_nil he') he)) (pg_tup hc (pgs_cons (pg_name (i := i) hN hi hx fx) (pgs_cons (pg_name (i := j) hN hj hy fy) pgs_nil))) hs hw ha) fun σ G H z => h1.can z.sat fun p vs G1 H1 g1 n1 n2 e1 r1 => h2.can (z.sat.gr g1) fun u G2 H2 g2 r2 =>
    ⟨by show 2 ≤ _; rw [sizeLine_eq]; decide, fun t ht => ⟨t, _, rfl, SqT.of upd_same, rfl, _, _, rfl, _, _, rfl, rfl, k _ G2 _ ((z.setOwn ((g1.trans g2).trans (Gr.newOut g2.s ht)) i n1 (g2.out e1 n2) (by rw [upd_ne (ne_of_none (g2.hs _ _ e1) ht)]; exact g2.hs _ _ e1) (r1.mono g2.g)).set j r2)⟩⟩
/-- x, y, z = e, a tuple of three, the names held in cells or not -/
theorem w_un3C (i j l : Nat) {x y w : Str} {e : Expr} {px py pw pt : Pos} {kt} {R1 R2 R3 : RV} (hc : X.calm = true) (hN : X.N.Nodup) (h : Ev X e sl (rTup X.K [R1, R2, R3])) (k : Wp X B L rest D (((sl.set i (.val R1)).set j (.val R2)).set l (.val R3))) (hi : X.N[i]? = some x := by rfl) (hj : X.N[j]? = some y := by rfl) (hl : X.N[l]? = some w := by rfl)
    (hx : Loc X.env.scope x := by first | exact Or.inl rfl | exact Or.inr rfl) (hy : Loc X.env.scope y := by first | exact Or.inl rfl | exact Or.inr rfl) (hz : Loc X.env.scope w := by first | exact Or.inl rfl | exact Or.inr rfl) (fx : X.fn x = true ∨ X.env.scope.names.lookup x = some .local := by first | exact .inl rfl | exact .inr rfl) (fy : X.fn y = true ∨ X.env.scope.names.lookup y = some .local := by first | exact .inl rfl | exact .inr rfl) (fz : X.fn w = true ∨ X.env.scope.names.lookup w = some .local := by first | exact .inl rfl | exact .inr rfl)
    (hs : swapsWithSole [.Tuple [.Name x px, .Name y py, .Name w pw] kt pt] e pos.line X.env = pure false := by rfl) (hw : swappedStores [.Tuple [.Name x px, .Name y py, .Name w pw] kt pt] e X.env = pure none := by rfl)
    (h1 : (assignEach [.Tuple [.Name x px, .Name y py, .Name w pw] kt pt] X.env).map (·.2) = [assign (.Tuple [.Name x px, .Name y py, .Name w pw] kt pt) X.env] := by rfl) : Wp X B L (.Assign [.Tuple [.Name x px, .Name y py, .Name w pw] kt pt] e pos :: rest) D sl :=
  wp_of (ps_asg pcan (pg_tup hc (pgs_cons (pg_name (i := i) hN hi hx fx) (pgs_cons (pg_name (i := j) hN hj hy fy) (pgs_cons (pg_name (i := l) hN hl hz fz) pgs_nil)))) hs hw h1) fun σ G H a => h.can a.sat fun v G1 H1 g1 ⟨t, vs, e1, q1, r1⟩ => by
    cases r1 with
    | cons k1 r1 => cases r1 with
      | cons k2 r1 => cases r1 with
        | cons k3 r1 =>
          cases r1
          exact ⟨t, _, e1, Same.tup g1.s q1, rfl, _, _, rfl, _, _, rfl, _, _, rfl, rfl, k _ G1 H1 ((((a.go g1).set i k1).set j k2).set l k3)⟩
/-- x, y = e1, e2, the names held in cells -/
theorem w_parC (i j : Nat) {x y : Str} {a b : Expr} {px py pt : Pos} {kt k2 pt2} {R1 R2 : RV} (hc : X.calm = true) (hN : X.N.Nodup) (h1 : Ev X a sl R1) (h2 : Ev X b sl R2) (k : Wp X B L rest D ((sl.set i (.val R1)).set j (.val R2))) (hi : X.N[i]? = some x := by rfl) (hj : X.N[j]? = some y := by rfl)
    (hx : Loc X.env.scope x := by first | exact Or.inl rfl | exact Or.inr rfl) (hy : Loc X.env.scope y := by first | exact Or.inl rfl | exact Or.inr rfl) (fx : X.fn x = true ∨ X.env.scope.names.lookup x = some .local := by first | exact .inl rfl | exact .inr rfl) (fy : X.fn y = true ∨ X.env.scope.names.lookup y = some .local := by first | exact .inl rfl | exact .inr rfl)
    (hs : swapsWithSole [.Tuple [.Name x px, .Name y py] kt pt] (.Tuple [a, b] k2 pt2) pos.line X.env = pure false := by rfl) (hw : swappedStores [.Tuple [.Name x px, .Name y py] kt pt] (.Tuple [a, b] k2 pt2) X.env = pure none := by rfl)
    (ha : (assignEach [.Tuple [.Name x px, .Name y py] kt pt] X.env).map (·.2) = [assign (.Tuple [.Name x px, .Name y py] kt pt) X.env] := by rfl) (he : starEach [a, b] X.env = (false, eval a X.env) :: starEach [b] X.env := by rfl) (he' : starEach [b] X.env = [(false, eval b X.env)] := by rfl) :
    Wp X B L (.Assign [.Tuple [.Name x px, .Name y py] kt pt] (.Tuple [a, b] k2 pt2) pos :: rest) D sl :=
  w_un2C i j hc hN (e_tup (a2 h1 h2 he he') (by show 2 ≤ 100000; decide)) k hi hj hx hy fx fy hs hw ha
end
end Dl


set_option Elab.async false
set_option linter.all false
set_option maxRecDepth 100000
set_option maxHeartbeats 2000000
namespace Dl
open PySem PySem.Spec PyProof.Rows L2 ClX
/-! ### own ==, whatever it answers -/
section
variable {prog : Program} {w : World} {A : Around} {E : Value → Shared → Prop} {s : Shared} {K : PySem.W.Frag} {x C f : Addr} {ox : Obj} {od : Option Obj} {v tb : Value}
theorem eqRich {Q : Value → Shared → Prop} (hu : A.units + 1 < cLine) (kin : K.In s.heap) (io : PySem.W.InstAt s.heap x ox C od) (ht : PySem.W.Looks (model prog w) s.heap (typeOf v) tb) (hb : (Value.ref C != tb) = false ∨ PySem.W.subIn K tb (.ref C) = some false) (hs : PySem.W.findIn K (.ref C) "__eq__" = some (some (.ref f))) (hf : PySem.W.isFn K (.ref f) = true)
    (h : wpAny (model prog w) A (call (.ref f) [.ref x, v]) (fun r s' => ∃ b, r = .bool b ∧ Q (.bool b) s') E s) : wpAny (model prog w) A (richCompare .Eq (.ref x) v) Q E s := by
  unfold richCompare
  simp only [oneThing_ref]
  refine wpAny_holding ?_
  refine wpAny_bind (wpAny_cRoomFor (by omega) ?_)
  have ci : cmpInfo .Eq = ("==", Str.ofString "__eq__", Str.ofString "__eq__") := rfl
  rw [ci]
  dsimp only
  refine wpAny_bind (io.type.here ?_)
  refine wpAny_bind (ht.here ?_)
  have go : wpAny (model prog w) A (tryCompare (.ref x) "__eq__" v) (fun r s' => ∃ b, r = some (.bool b) ∧ Q (.bool b) s') E s := by
    simp only [tryCompare]
    refine wpAny_bind (PySem.W.ifBound_K kin io hs hf (wpAny_mono h (fun r s' hr => ?_) fun _ _ z => z))
    obtain ⟨b, e, q⟩ := hr
    subst e
    exact wpAny_pure ⟨b, rfl, q⟩
  by_cases q : (Value.ref C != tb) = true
  · rw [if_pos q]
    have e : PySem.W.subIn K tb (.ref C) = some false := hb.resolve_left (by rw [q]; exact fun z => nomatch z)
    refine wpAny_bind ((PySem.W.looks_subIn kin e).here ?_)
    simp only [Bool.false_eq_true, if_false]
    refine wpAny_bind (wpAny_mono go (fun r s' hr => ?_) fun _ _ z => z)
    obtain ⟨b, e, q⟩ := hr
    subst e
    exact wpAny_pure q
  · rw [if_neg q]
    refine wpAny_bind (wpAny_pure ?_)
    simp only [Bool.false_eq_true, if_false]
    refine wpAny_bind (wpAny_mono go (fun r s' hr => ?_) fun _ _ z => z)
    obtain ⟨b, e, q⟩ := hr
    subst e
    exact wpAny_pure q
end
section
variable {X : Cx} {sl : List Ent} {k : Nat} {C : Addr} {α : Type} {F : Fn α} {fs : List (Str × RV)} {R : RV} {a b : Expr} {pos : Pos} {c : Bool}
theorem op_eqO (h : HasMe X.prog X.w X.K X.mg X.base k C "__eq__" F) (hr : Room k X.A) (z : α) (hz : F.args z = [rIns C fs, R]) (hp : F.pre z) (hres : F.res z = .v (iB c)) (tb : Value) (hty : R.Ty X.K tb) (hb : (Value.ref C != tb) = false ∨ PySem.W.subIn X.K tb (.ref C) = some false) : OpR X (compareOp .Eq) (fun x y H Q => ∃ x1 G, x = .ref x1 ∧ Same G H ∧ (rIns C fs).r G x ∧ R.r G y ∧ ∀ G' H', Gr G H G' H' → Q (.bl c) H') := by
  obtain ⟨f, fd, hmt, hbn, ok⟩ := h.ex
  have hu := hr.un
  intro pins s σ H x y v u Q I rx ry hq
  obtain ⟨x1, G, ex, sm, r1, r2, q⟩ := hq
  subst ex
  cases rx
  obtain ⟨_, dx, vs, e1, h1, _⟩ := id r1
  cases e1
  obtain ⟨od, J⟩ := instAt I (sm _ _ h1)
  show wpAny (model X.prog X.w) X.A (richCompare .Eq (.ref x1) u) (EP X pins σ Q) X.xe s
  obtain ⟨PP, kx, hP, _⟩ := kit_of I ry (hty G H y sm r2)
  refine eqRich (by omega) I.kIn J (kx.ty _ _ I.kIn hP) hb hmt.at_ hmt.fn ?_
  have sp : ∀ (QQ : VK), (∀ G' H', Gr G H G' H' → QQ (.bl c) H') → F.sp [.ref x1, y] H QQ fun _ _ _ => False := fun QQ hQ => ⟨z, G, sm, by rw [hz]; exact .cons r1 (.cons r2 .nil), hp, by rw [hres]; rintro v G' H' gr ⟨d, ed, hd⟩; subst hd; rw [ed]; exact hQ G' H' gr⟩
  have hl : ([Value.ref x1, u] : List Value).length = F.ps.length := ok.len [.ref x1, y] H (fun _ _ => True) (fun _ _ _ => False) (sp _ fun _ _ _ => trivial)
  have hb2 := hbn s [.ref x1, u] I.kIn (by rw [List.append_nil]; exact hl)
  rw [List.append_nil] at hb2
  apply wpAny_call
  refine codeAny_mono (ok.run X.A X.stack s H ⟨[.ref x1, u], []⟩ [.ref x1, u] [.ref x1, y] (fun v H' => v = .bl c ∧ ∃ G', Gr G H G' H') (fun _ _ _ => False) hr I.env0 hb2 (.cons rfl (.cons ry .nil)) (sp _ fun G' H' gr => ⟨rfl, G', gr⟩)) fun r3 s' hq => ?_
  match r3, hq with
  | .error e, hq => exact hq.elim
  | .ok (.ret u), hq =>
    obtain ⟨v', H', I', rv, e1, G', gr⟩ := I.after hq
    subst e1
    cases rv
    exact ⟨c, rfl, ⟨.bl c, H', I', rfl, q G' H' gr⟩⟩
  | .ok .next, hq => exact False.elim hq
  | .ok .brk, hq => exact False.elim hq
  | .ok .cont, hq => exact False.elim hq
theorem e_eqO (h : HasMe X.prog X.w X.K X.mg X.base k C "__eq__" F) (hr : Room k X.A) (z : α) (hz : F.args z = [rIns C fs, R]) (hp : F.pre z) (hres : F.res z = .v (iB c)) (tb : Value) (hty : R.Ty X.K tb) (hb : (Value.ref C != tb) = false ∨ PySem.W.subIn X.K tb (.ref C) = some false)
    (ha : Ev X a sl (rIns C fs)) (hb' : Ev X b sl R) : Ev X (.Compare a [.Eq] [b] pos) sl (iB c) := by
  refine ev_of (pe_cmpR (op_eqO h hr z hz hp hres tb hty hb) pcan pcan (nomark _)) fun σ G H Q s q => ha.can s fun v G1 H1 g1 r1 => hb'.can (s.gr g1) fun u G2 H2 g2 r2 => ?_
  obtain ⟨x, dx, vs, e1, h1, _⟩ := id r1
  subst e1
  exact ⟨x, G2, rfl, g2.s, (rIns C fs).m g2.g r1, r2, fun G' H' gr => q _ G' H' ((g1.trans g2).trans gr) ⟨_, rfl, rfl⟩⟩
theorem t_eqO (h : HasMe X.prog X.w X.K X.mg X.base k C "__eq__" F) (hr : Room k X.A) (z : α) (hz : F.args z = [rIns C fs, R]) (hp : F.pre z) (hres : F.res z = .v (iB c)) (tb : Value) (hty : R.Ty X.K tb) (hb : (Value.ref C != tb) = false ∨ PySem.W.subIn X.K tb (.ref C) = some false)
    (ha : Ev X a sl (rIns C fs)) (hb' : Ev X b sl R) : EvT X (.Compare a [.Eq] [b] pos) sl (fun z => z = c) := by
  refine evT_of (pt_cmpR (op_eqO h hr z hz hp hres tb hty hb) pcan pcan (nomark _)) fun σ G H Q s q => ha.can s fun v G1 H1 g1 r1 => hb'.can (s.gr g1) fun u G2 H2 g2 r2 => ?_
  obtain ⟨x, dx, vs, e1, h1, _⟩ := id r1
  subst e1
  exact ⟨x, G2, rfl, g2.s, (rIns C fs).m g2.g r1, r2, fun G' H' gr => ⟨c, rfl, q c G' H' ((g1.trans g2).trans gr) rfl⟩⟩
end
/-! ### repr of an instance, of an int; texts put together -/
section
variable {X : Cx} {sl : List Ent} {k : Nat} {C : Addr} {α : Type} {F : Fn α} {fs : List (Str × RV)} {a b e : Expr} {p pos : Pos} {t : Str}
theorem call_reprO (h : HasR X.prog X.w X.K X.mg X.base k C F) (hgd : X.A.guards = some []) (hr : Room (k + 1) X.A) (z : α) (hz : F.args z = [rIns C fs]) (hp : F.pre z) (hres : F.res z = .v (iS t)) :
    CallR X (.builtin "repr") (fun xs H Q => ∃ y G, xs = [.ref y] ∧ Same G H ∧ (rIns C fs).r G (.ref y) ∧ ∀ G' H', Gr G H G' H' → Q (.str t) H') := by
  intro pins s σ H xs us Q I r hq
  obtain ⟨y, G, rfl, sm, r1, q⟩ := hq
  rw [Vals.ref1 r]
  obtain ⟨_, dx, vs, e1, h1, p1⟩ := id r1
  cases e1
  obtain ⟨f, fd, hm, hbi, ok⟩ := h.ex
  obtain ⟨od, io⟩ := instAt I (sm _ _ h1)
  have hu := hr.un
  refine Calls.call_function_entry PySem.F.kind_repr PySem.F.plain_repr PySem.F.entry_repr (PySem.F.args_repr1 _) ?_
  unfold Builtin.«repr»
  refine wpAny_bind (m := oneArg "repr" _) (wpAny_pure ?_)
  refine wpAny_bind (m := cRoomFor _ _) (wpAny_cRoomFor (by show X.A.units + 1 < cLine; omega) ?_)
  refine wpAny_bind (m := specialOf (.ref y) (Str.ofString "__repr__")) (wpAny_bind (io.type.here ((PySem.W.looks_findIn I.kIn hm.at_).here ?_)))
  refine wpAny_bind (m := callSpecialIfBound? (.ref y) (Str.ofString "__repr__")) (PySem.W.ifBound_K I.kIn io hm.at_ hm.fn ?_)
  have hl : ([Value.ref y] : List Value).length = F.ps.length := by
    have := ok.len [.ref y] H (fun _ _ => True) (fun _ _ _ => False) ⟨z, G, sm, by rw [hz]; exact .cons r1 .nil, hp, by rw [hres]; exact fun _ _ _ _ _ => trivial⟩
    exact this
  have hb' := hbi s [.ref y] I.kIn (by rw [List.append_nil]; exact hl)
  rw [List.append_nil] at hb'
  apply wpAny_call
  have e0 := I.env0
  have hr1 : Room k X.A.in1 := ⟨hr.hd, by have := hr.dp; show X.A.depth + 3 * k + 5 < _; omega, by show X.A.units + 1 + 16 * k + 200 < _; omega⟩
  refine codeAny_mono (ok.run X.A.in1 X.stack s H ⟨[.ref y], []⟩ [.ref y] [.ref y] (fun v H' => v = .str t ∧ ∃ G', Gr G H G' H') (fun _ _ _ => False) [] hgd .nil hr1 e0.in1 hb' (.cons rfl .nil) ⟨z, G, sm, by rw [hz]; exact .cons r1 .nil, hp, ?_⟩) fun r3 s' hq => ?_
  · rw [hres]
    rintro v G' H' gr ⟨y', e1, e2⟩
    subst e2
    exact ⟨e1, G', gr⟩
  · match r3, hq with
    | .error e, hq => exact hq.elim
    | .ok (.ret u), hq =>
      obtain ⟨v', H', I', rv, e1, G', gr⟩ := I.after hq
      subst e1
      obtain ⟨tk, rfl⟩ := rv
      refine wpAny_bind (wpAny_isInstance (T := "str") (b := true) rfl isSubtype_str_str ?_)
      simp only [if_true]
      exact wpAny_pure ⟨_, rfl, ⟨.str t, H', I', ⟨tk, rfl⟩, q G' H' gr⟩⟩
    | .ok .next, hq => exact False.elim hq
    | .ok .brk, hq => exact False.elim hq
    | .ok .cont, hq => exact False.elim hq
theorem e_reprO (h : HasR X.prog X.w X.K X.mg X.base k C F) (hgd : X.A.guards = some []) (hr : Room (k + 1) X.A) (z : α) (hz : F.args z = [rIns C fs]) (hp : F.pre z) (hres : F.res z = .v (iS t)) (he' : Ev X e sl (rIns C fs)) (hm : X.mg "repr" = none) (hg : Gl X "repr" := by rfl) (he : starEach [e] X.env = [(false, eval e X.env)] := by rfl) : Ev X (.Call (.Name "repr" p) [e] [] pos) sl (iS t) :=
  e_cb (rs := .v _) (call_reprO h hgd hr z hz hp hres) hm (by decide +kernel) (a1 he' he) (fun vs G H Q s r q => by
    obtain ⟨v, rfl, r1⟩ := pv1 r
    obtain ⟨y, dx, ws, e1, h1, _⟩ := id r1
    subst e1
    exact ⟨y, G, rfl, s, r1, fun G' H' gr => q _ G' H' gr ⟨_, rfl, rfl⟩⟩) hg (by decide) (by decide) he rfl
theorem e_reprInt {i : Int} (he' : Ev X e sl (iI i)) (hz : i.natAbs.log2 < 1920) (hm : X.mg "repr" = none) (hg : Gl X "repr" := by rfl) (he : starEach [e] X.env = [(false, eval e X.env)] := by rfl) : Ev X (.Call (.Name "repr" p) [e] [] pos) sl (iS (toString i : Str)) :=
  e_cb (rs := .v _) SkE.call_repr_int hm (by decide +kernel) (a1 he' he) (fun vs G H Q s r q => by
    obtain ⟨v, rfl, j, e1, e2⟩ := pv1 r
    subst e1 e2
    exact ⟨_, rfl, hz, q _ G H (.refl s) ⟨_, rfl, rfl⟩⟩) hg (by decide) (by decide) he rfl
theorem e_addT {z1 z2 : Str} (ha : Ev X a sl (iS z1)) (hb : Ev X b sl (iS z2)) (hz : z1.length + z2.length ≤ sizeLine) : Ev X (.BinOp a .Add b pos) sl (iS (z1 ++ z2)) :=
  ev_of (pe_op op_add_str pcan pcan) fun σ G H Q s q => ha.can s fun v G1 H1 g1 ⟨x, e1, e2⟩ => hb.can (s.gr g1) fun u G2 H2 g2 ⟨y, e3, e4⟩ => by
    subst e1 e2 e3 e4
    exact ⟨_, _, rfl, rfl, hz, q _ G2 H2 (g1.trans g2) ⟨_, rfl, rfl⟩⟩
end
end Dl


set_option Elab.async false
set_option linter.all false
set_option maxRecDepth 100000
set_option maxHeartbeats 2000000
namespace Dl
open PySem PySem.Spec PyProof.Rows L2 ClX
section
variable {X : Cx} {sl : List Ent} {a b : Expr} {pos p2 p p' : Pos} {Rs : List RV} {R : RV} {m : Nat} {C : Addr} {x : Str}
/-! ### slices of lists -/
theorem e_slToL (h : Ev X a sl (rLst X.K Rs)) (h' : Ev X b sl (iI (m : Int))) (hm : m ≤ Rs.length) : EvR X (.Subscript a (.Slice none (some b) none p2) pos) sl (.l (Rs.take m)) :=
  evR_of (pe_slice sl_list pcan po_none (po_some pcan)) fun σ G H Q z k => h.can z fun v G1 H1 g1 ⟨t, vs, e1, q1, r1⟩ => h'.can (z.gr g1) fun u G2 H2 g2 ⟨i, e2, hi⟩ => by
    subst e1 hi
    have w := r1.len
    refine ⟨(m : Int), e2, t, vs, rfl, (g2.g.trans g2.s).seq q1, fun y hy => ?_⟩
    rw [cut_to (by omega)]
    exact k y _ G2 _ ((g1.trans g2).trans (Gr.newOut g2.s hy)) ((g1.trans g2).hs.free hy) (g2.s.free hy) upd_same ((r1.mono g2.g).take m)
theorem e_slFromL (h : Ev X a sl (rLst X.K Rs)) (h' : Ev X b sl (iI (m : Int))) (hm : m ≤ Rs.length) : EvR X (.Subscript a (.Slice (some b) none none p2) pos) sl (.l (Rs.drop m)) :=
  evR_of (pe_slice sl_list pcan (po_some pcan) po_none) fun σ G H Q z k => h.can z fun v G1 H1 g1 ⟨t, vs, e1, q1, r1⟩ => h'.can (z.gr g1) fun u G2 H2 g2 ⟨i, e2, hi⟩ => by
    subst e1 hi
    have w := r1.len
    refine ⟨(m : Int), e2, t, vs, rfl, (g2.g.trans g2.s).seq q1, fun y hy => ?_⟩
    rw [cut_from (by omega)]
    exact k y _ G2 _ ((g1.trans g2).trans (Gr.newOut g2.s hy)) ((g1.trans g2).hs.free hy) (g2.s.free hy) upd_same ((r1.mono g2.g).drop m)
theorem e_revL {k : Nat} {p1 p3 : Pos} (h : Ev X a sl (rLst X.K Rs)) : EvR X (.Subscript a (.Slice none none (some (.UnaryOp .USub (.Constant (.int 1) k p1) p2)) p3) pos) sl (.l Rs.reverse) :=
  evR_of (pe_revL pcan) fun σ G H Q z q => h.can z fun v G1 H1 g1 ⟨t, vs, e1, q1, r1⟩ => ⟨t, vs, e1, g1.s.seq q1, fun y hy =>
    q y _ G1 _ (g1.trans (Gr.newOut g1.s hy)) (g1.hs.free hy) (g1.s.free hy) upd_same r1.rev⟩
/-- a new list, at no bad place -/
theorem EvR.n (h : EvR X a sl (.l Rs)) : Ev X a sl (rN NoBad Rs) := fun pins s σ G H Q I z k => h pins s σ G H Q I z fun y vs G' H' g n1 n2 e r =>
  k _ _ _ (Gr.take g n1 e n2) ⟨y, vs, rfl, id, upd_same, r.mono (same_new n2)⟩
theorem EvR.xn {α : Type} {P : α → Prop} {Rs : α → List RV} (h : EvR X a sl (.x P fun x => .l (Rs x))) : Ev X a sl (rX P fun x => rN NoBad (Rs x)) := fun pins s σ G H Q I z k => h pins s σ G H Q I z fun x px y vs G' H' g n1 n2 e r =>
  k _ _ _ (Gr.take g n1 e n2) ⟨x, px, y, vs, rfl, id, upd_same, r.mono (same_new n2)⟩
/-! ### isinstance of an own class that is not it -/
theorem kit_sub {K : PySem.W.Frag} {t : Value} (h : PySem.W.kitOne K t (.ref C) = some false) : PySem.W.subIn K t (.ref C) = some false := by
  unfold PySem.W.kitOne at h
  split at h
  · cases h
  · unfold PySem.W.kitCls at h
    dsimp only at h
    split at h
    · exact h
    · cases h
theorem e_isCF {t : Value} (h : Ev X a sl R) (ht : R.Ty X.K t) (hx : X.mg x = some (.ref C)) (hk : PySem.W.kitOne X.K t (.ref C) = some false) (hm : X.mg "isinstance" = none) (hgx : Gl X x := by rfl) (hdx : (x == ("__debug__" : Str)) = false := by decide) (hg : Gl X "isinstance" := by rfl) (he : starEach [a, .Name x p'] X.env = (false, eval a X.env) :: starEach [.Name x p'] X.env := by rfl) (he' : starEach [.Name x p'] X.env = [(false, eval (.Name x p') X.env)] := by rfl) : Ev X (.Call (.Name "isinstance" p) [a, .Name x p'] [] pos) sl (iB false) :=
  ev_of (pe_callB call_isi hg hm (by decide +kernel) (pa_cons pcan (pa_cons (pe_glob (v := .ref C) hgx hx rfl hdx) pa_nil he') he) (by decide) (by decide) he (by rw [he']; rfl)) fun σ G H Q z q => h.can z fun v G1 H1 g1 r1 =>
    ⟨_, _, t, .ref C, false, rfl, .own C, ht G1 H1 v g1.s r1, hk, q _ G1 H1 g1 ⟨_, rfl, rfl⟩⟩
/-! ### bools compared -/
theorem rNeB {c d : Bool} : ∀ x y G H (Q : VK), Same G H → (iB c).r G x → (iB d).r G y → (∀ v G' H', Gr G H G' H' → (iB (!decide (c = d))).r G' v → Q v H') → rNe x y H Q := by
  rintro _ _ G H Q s ⟨i, rfl, rfl⟩ ⟨j, rfl, rfl⟩ k
  refine ⟨rfl, k _ G H (.refl s) ⟨_, rfl, ?_⟩⟩
  cases i <;> cases j <;> rfl
theorem t_neB {c d : Bool} (ha : Ev X a sl (iB c)) (hb : Ev X b sl (iB d)) : EvT X (.Compare a [.NotEq] [b] pos) sl (fun z => z = !decide (c = d)) := t_cmp op_ne (nomark _) ha hb rNeB
/-! ### {k1: v1, k2: v2}.get(e, f), texts -/
theorem e_get2 {k1 k2 v1 v2 e f : Expr} {z1 z2 y1 y2 z z' r : Str} {apos dp : Pos} (hu : X.A.units + 1 < cLine) (h1 : Ev X k1 sl (iS z1)) (h2 : Ev X v1 sl (iS y1)) (h3 : Ev X k2 sl (iS z2)) (h4 : Ev X v2 sl (iS y2)) (he : Ev X e sl (iS z)) (hf : Ev X f sl (iS z'))
    (hz : z1 ≠ z2) (hr : r = if z = z1 then y1 else if z = z2 then y2 else z') (m : M2 X (.Dict [some k1, some k2] [v1, v2] dp) "get" apos e f pos) : Ev X (.Call (.Attribute (.Dict [some k1, some k2] [v1, v2] dp) "get" apos) [e, f] [] pos) sl (iS r) :=
  ev_of (pe_dget2 hu (pe_disp (pps_cons pcan pcan (pps_cons pcan pcan pps_nil)) rfl rfl (fun z => nomatch z) (by show 2 ≤ 15; decide)) pcan pcan m) fun σ G H Q s q d hd => by
    have s0 : Gr G H G (upd H d (.dK [])) := Gr.newOut s.sub hd
    refine h1.can (s.gr s0) fun w1 G1 H1 g1 ⟨_, a1, b1⟩ => h2.can ((s.gr s0).gr g1) fun w2 G2 H2 g2 ⟨_, a2, b2⟩ => h3.can (((s.gr s0).gr g1).gr g2) fun w3 G3 H3 g3 ⟨_, a3, b3⟩ => h4.can ((((s.gr s0).gr g1).gr g2).gr g3) fun w4 G4 H4 g4 ⟨_, a4, b4⟩ => ?_
    rw [b1] at a1
    rw [b2] at a2
    rw [b3] at a3
    rw [b4] at a4
    subst a1 a2 a3 a4
    have g04 := ((g1.trans g2).trans g3).trans g4
    have hd4 : H4 d = some (.dK []) := g04.hs _ _ upd_same
    have gd : G d = none := s.sub.free hd
    have gd4 : G4 d = none := g04.out upd_same gd
    refine ⟨hd4, [(Sum.inr z1, V.str y1), (Sum.inr z2, V.str y2)], rfl, by show 2 ≤ 15; decide, d, rfl, .inl ⟨_, .of upd_same⟩, ?_⟩
    have em : mergeK [] [(Sum.inr z1, V.str y1), (Sum.inr z2, V.str y2)] = [(Sum.inr z1, V.str y1), (Sum.inr z2, V.str y2)] := by
      simp [mergeK, putK, hz]
    rw [em]
    have g05 : Gr G H G4 (upd H4 d (.dK [(Sum.inr z1, V.str y1), (Sum.inr z2, V.str y2)])) := by
      have gg := s0.trans g04
      refine ⟨gg.g, fun b o _ e => ?_, fun b e => ?_, fun b o e => ?_, gg.n⟩
      · rw [upd_ne (ne_of_none e hd)]; exact gg.hs b o e
      · rw [upd_ne (fun z => e (by rw [z]; exact hd))]; exact gg.t b e
      · rw [upd_ne (fun z => by rw [z, gd4] at e; cases e)]; exact gg.s b o e
    refine he.can (s.gr g05) fun w5 G5 H5 g5 ⟨_, a5, b5⟩ => hf.can ((s.gr g05).gr g5) fun w6 G6 H6 g6 ⟨_, a6, b6⟩ => ?_
    rw [b5] at a5
    rw [b6] at a6
    subst a5 a6
    have hd6 : H6 d = some (.dK [(Sum.inr z1, V.str y1), (Sum.inr z2, V.str y2)]) := (g5.trans g6).hs _ _ upd_same
    refine ⟨_, .inl ⟨_, Sum.inr z, .of hd6, rfl, rfl⟩, q _ G6 H6 ((g05.trans g5).trans g6) ⟨r, ?_, rfl⟩⟩
    subst hr
    by_cases q1 : z = z1
    · rw [if_pos q1, valV_pos (show (Sum.inr z1 : Key) = Sum.inr z by rw [q1])]
      rfl
    · rw [if_neg q1, valV_neg (show ¬ (Sum.inr z1 : Key) = Sum.inr z from fun e => q1 (Sum.inr.inj e).symm)]
      by_cases q2 : z = z2
      · rw [if_pos q2, valV_pos (show (Sum.inr z2 : Key) = Sum.inr z by rw [q2])]
        rfl
      · rw [if_neg q2, valV_neg (show ¬ (Sum.inr z2 : Key) = Sum.inr z from fun e => q2 (Sum.inr.inj e).symm), valV_nil]
        rfl
end
end Dl


set_option Elab.async false
set_option linter.all false
set_option maxRecDepth 100000
set_option maxHeartbeats 2000000
namespace Dl
open PySem PySem.Spec PyProof.Rows L2 ClX
/-! ### lists of data of several kinds -/
theorem py_pvs {K : PySem.W.Frag} {G : Hp} : ∀ {Rs : List RV} {ds : List PyData} {vs : List V}, Paired (fun (R : RV) d => R.Py K d) Rs ds → PVs G Rs vs → DpAll K G vs ds
  | _, _, _, .nil, .nil => .nil
  | _, _, _, .cons h t, .cons r s => .cons (h G _ r) (py_pvs t s)
theorem py_ls {K : PySem.W.Frag} {Rs : List RV} {ds : List PyData} (h : Paired (fun (R : RV) d => R.Py K d) Rs ds) : (rLst K Rs).Py K (.list ds) := fun G v ⟨a, vs, e, q, r⟩ => by subst e; exact .lst q (py_pvs h r)
theorem py_ts {K : PySem.W.Frag} {Rs : List RV} {ds : List PyData} (h : Paired (fun (R : RV) d => R.Py K d) Rs ds) : (rTup K Rs).Py K (.tuple ds) := fun G v ⟨a, vs, e, q, r⟩ => by subst e; exact .tup q (py_pvs h r)
theorem sw_bool {n : Nat} (b : Bool) : Show n 1930 (.bool b) := by
  cases b <;> exact ⟨rfl, rfl, by simp [PyData.depth], by decide +kernel⟩
theorem sw_nil {n c : Nat} : ∀ d ∈ ([] : List PyData), Show n c d := fun _ h => nomatch h
theorem sw_cons {n c : Nat} {a : PyData} {ds : List PyData} (h : Show n c a) (k : ∀ d ∈ ds, Show n c d) : ∀ d ∈ a :: ds, Show n c d := fun d hd => by
  rcases List.mem_cons.mp hd with e | hd
  · rw [e]; exact h
  · exact k d hd
section
variable {X : Cx} {sl : List Ent} {a b : Expr} {pos p p2 : Pos}
/-- list(range(n, n + m)) -/
theorem e_listRg2 {n m : Nat} {p0 : Pos} (h : Ev X a sl (iI (n : Int))) (h' : Ev X b sl (iI ((n : Int) + (m : Int)))) (hn : n + m ≤ 100000) (hml : X.mg "list" = none) (hmr : X.mg "range" = none) (hc : X.calm = true := by rfl) (hgl : Gl X "list" := by rfl) (hgr : Gl X "range" := by rfl) (he : starEach [a, b] X.env = (false, eval a X.env) :: starEach [b] X.env := by rfl) (heb : starEach [b] X.env = [(false, eval b X.env)] := by rfl) (hpb : (backTo p (starEach [b] X.env)).any (·.1) = false := by rfl) (he2 : starEach [.Call (.Name "range" p2) [a, b] [] p] X.env = [(false, eval (.Call (.Name "range" p2) [a, b] [] p) X.env)] := by rfl) :
    EvR X (.Call (.Name "list" p0) [.Call (.Name "range" p2) [a, b] [] p] [] pos) sl (.l ((List.range m).map fun i : Nat => iI ((n + i : Nat) : Int))) :=
  evR_of (pe_listRg hc hgl hml (prg_2 hgr hmr pcan pcan he heb hpb) he2) fun σ G H Q z q => h.can z fun v G1 H1 g1 ⟨i1, em, hm⟩ => h'.can (z.gr g1) fun v2 G2 H2 g2 ⟨i2, em2, hm2⟩ => by
    subst em hm em2 hm2
    refine ⟨_, _, rfl, rfl, RgOk.of_le (by omega) (by omega) (by omega) (by omega), fun w hw => ?_⟩
    have g12 := g1.trans g2
    refine q w _ G2 _ (g12.trans (Gr.newOut g12.s hw)) (g12.hs.free hw) (g12.s.free hw) upd_same ?_
    have e : rgV (n : Int) ((n : Int) + (m : Int)) = (List.range m).map fun i : Nat => V.int ((n + i : Nat) : Int) := by
      unfold rgV
      rw [show ((n : Int) + (m : Int) - (n : Int)).toNat = m by omega]
      exact List.map_congr_left fun i _ => by rw [Int.natCast_add]
    rw [e]
    have all : ∀ l : List Nat, PVs G2 (l.map fun i : Nat => iI ((n + i : Nat) : Int)) (l.map fun i : Nat => V.int ((n + i : Nat) : Int)) := fun l => by
      induction l with
      | nil => exact .nil
      | cons x l ih => exact .cons ⟨_, rfl, rfl⟩ ih
    exact all _
end
end Dl


set_option Elab.async false
set_option linter.all false
set_option maxRecDepth 100000
set_option maxHeartbeats 2000000
namespace Dl
open PySem PySem.Spec PyProof.Rows L2 ClX
/-! ### tests that are known -/
section
variable {X : Cx} {B : Base} {L : Hp} {sl : List Ent} {D : Ends} {pos : Pos} {rest : List Stmt} {a b c : Expr} {r : List Expr} {P P' : Bool → Prop} {u : List Stmt}
theorem EvW.imp (h : EvW X a sl P) (l : ∀ z, P z → P' z) : EvW X a sl P' := fun wh pins s σ G H Q I z k => h wh pins s σ G H Q I z fun v G' H' g p => k v G' H' g (l v p)
abbrev isF : Bool → Prop := fun z => z = false
abbrev isT : Bool → Prop := fun z => z = true
theorem t_orF (h : EvT X a sl isF) (h' : EvW X (.BoolOp .Or (b :: r) pos) sl isF) : EvW X (.BoolOp .Or (a :: b :: r) pos) sl isF := (t_or h fun _ => h').imp fun z k => by
  rcases k with ⟨_, k⟩ | ⟨k, _⟩
  · exact k
  · cases k
theorem t_andF (h : EvT X a sl P) (h' : P true → EvW X (.BoolOp .And (b :: r) pos) sl isF) : EvW X (.BoolOp .And (a :: b :: r) pos) sl isF := (t_and h h').imp fun z k => by
  rcases k with ⟨_, k⟩ | ⟨_, k⟩ <;> exact k
theorem t_notT (h : Ev X a sl (iB true)) (he : ∀ whole, isTrue a X.env whole = (do let v ← whole; standAt a.pos; holding [v] (truthy v)) := by intro _; rfl) : EvT X (.UnaryOp .Not a pos) sl isF := (t_not (t_val h he)).imp fun z k => by
  cases z
  · rfl
  · cases k
theorem e_andT (h : Ev X a sl (iB true)) (h' : Ev X (.BoolOp .And (b :: r) pos) sl (iB true)) : Ev X (.BoolOp .And (a :: b :: r) pos) sl (iB true) := (e_and h fun _ => h').bool fun z k => by
  rcases k with ⟨_, k⟩ | ⟨k, _⟩
  · exact k
  · cases k
theorem e_orF (h : Ev X a sl (iB false)) {d : Bool} (h' : Ev X (.BoolOp .Or (b :: r) pos) sl (iB d)) : Ev X (.BoolOp .Or (a :: b :: r) pos) sl (iB d) := (e_or h fun _ => h').bool fun z k => by
  rcases k with ⟨_, k⟩ | ⟨k, _⟩
  · exact k
  · cases k
/-- if c: (what is not) -/
theorem w_ifF (h : EvT X c sl isF) (k : Wp X B L rest D sl) : Wp X B L (.If c u [] pos :: rest) D sl := w_ifNot h (fun z => nomatch z) k
end
end Dl


set_option Elab.async false
set_option linter.all false
set_option maxRecDepth 100000
set_option maxHeartbeats 2000000
namespace LT
open PySem PySem.Spec PyProof.Rows L2 Dl Mt ClX
section
variable {P : Program} {w : World} {K : PySem.W.Frag} {mg : Str → Option Value} {base : Heap}
/-! ### a net's own words -/
abbrev fsN (K : PySem.W.Frag) : Nat × Bool × List Gate → List (Str × RV) := fun z => nF K z.1 z.2.2
def F_Ncall (K : PySem.W.Frag) : Fn (Nat × List Gate × Bool × List Int) := ⟨["self", "content"], fun z => [iNet K z.1 z.2.1, rSI K z.2.2.1 z.2.2.2], fun z => NetOk z.1 z.2.1 ∧ z.2.2.2.length = z.1, fun z => .l ((runG z.2.1 z.2.2.2).map iI)⟩
theorem bd_Ncall (T : Txt K mg) {f : Addr} : Body P w K mg base "Net.__call__" s_Net_call f N_Net_call 3 (F_Ncall K) := by
  intro cdv A outer s H E z B L D hr hp hM q hN
  obtain ⟨n, gs, tx, xs⟩ := z
  obtain ⟨ok, hl⟩ := hp
  replace ok : NetOk n gs := ok
  replace hl : xs.length = n := hl
  have n1 := ok.n1
  have n2 := ok.n2
  show Wp _ B L _ D [.val (iNet K n gs), .val (rSI K tx xs)]
  refine w_expr (e_call (h_want_content_of T) hr ((n : Int), tx, xs) (a2 (e_fld (e_var 0) T.cls T.nL rfl) (e_var 1)) ⟨⟨by show 1 ≤ xs.length; omega, by show xs.length ≤ 12; omega⟩, by show (n : Int) = (xs.length : Int); omega⟩).v ?_
  exact w_ret (r := .l ((runG gs xs).map iI)) (e_call (h_told_by T) (hr.mono (by decide)) (true, gs, tx, xs) (a2 (by exact e_fld (e_var 0) T.cls T.nG rfl) (e_var 1)) (by show ∀ g ∈ gs, g.Ok xs.length; rw [hl]; exact ok.ok)) hM q
theorem h_Ncall (T : Txt K mg) : HasMe P w K mg base 4 (nC K) "__call__" (F_Ncall K) := by
  obtain ⟨g, fd, hm, F, _⟩ := T.callm
  exact ⟨g, fd, hm, F.bindsN b_Net_call, fnOk_of (k := 3) F sc_Net_call (fun _ => rfl) (bd_Ncall T)⟩
theorem NetOk.app {n : Nat} {gs hs : List Gate} (a : NetOk n gs) (b : NetOk n hs) (l : gs.length + hs.length ≤ 400) : NetOk n (gs ++ hs) := ⟨a.n1, a.n2, by rw [List.length_append]; exact l, fun g h => by
  rcases List.mem_append.mp h with h | h
  · exact a.ok g h
  · exact b.ok g h⟩
abbrev dG (g : Gate) : PyData := .tuple [.str g.k.wd, .int g.a, .int g.b]
theorem py_G (g : Gate) : (iG K g).Py K (dG g) := fun G v ⟨a, vs, e, q, r⟩ => by
  subst e
  cases r with
  | cons r1 r => cases r with
    | cons r2 r => cases r with
      | cons r3 r =>
        cases r
        exact .tup q (.cons (py_str _ _ _ r1) (.cons (py_int _ _ _ r2) (.cons (py_int _ _ _ r3) .nil)))
theorem sh_G (g : Gate) : Sh 1 (dG g) := sh_tup (sh_cons (by cases g.k <;> exact sh_str) (sh_cons (sh_int _) (sh_cons (sh_int _) sh_nil)))
theorem h_eqNet (T : Txt K mg) : HasMe P w K mg base 1 (nC K) "__eq__" (F_eq (nC K) ["self", "other"] (fun z : Nat × List Gate => nF K z.1 z.2) fun _ => True) := by
  obtain ⟨g, fd, hm, F⟩ := T.eqm
  refine ⟨g, fd, hm, F.bindsN b_Net_eq, fnOk_of (k := 0) F sc_Net_eq (fun _ => rfl) ?_⟩
  intro cdv A outer s H E z B L D hr hp hM q hN
  obtain ⟨n, gs⟩ := z
  show Wp _ B L _ D [.val (iNet K n gs), .val (iNet K n gs)]
  refine w_ret (r := .v (iB true)) (Ev.bool (e_and (e_isC (e_var 1) T.net T.tyN (T.f "isinstance")) fun _ => e_and (e_eqI (P := fun z => z = true) (e_fld (e_var 0) T.cls T.nL rfl) (e_fld (e_var 1) T.cls T.nL rfl) fun x y h1 h2 => by rw [h1, h2]; exact decide_eq_true rfl) fun _ => e_one (e_eqY (hu64 hr) (e_fld (e_var 0) T.cls T.nG rfl) (e_fld (e_var 1) T.cls T.nG rfl) (py_tup fun g _ => py_G g) (py_tup fun g _ => py_G g) (sh_tup (sh_map fun g _ => sh_G g)))) ?_) hM q
  rintro z (⟨_, ⟨_, h⟩ | ⟨h, _⟩⟩ | ⟨h, _⟩)
  · exact h
  · cases h
  · cases h
theorem h_fi (T : Txt K mg) : ∀ f, PySem.W.findIn K (.ref (nC K)) "__call__" = some (some (.ref f)) → PySem.W.fnIn K f = true := fun f h => by
  obtain ⟨g, fd, hm, F, hf⟩ := T.callm
  have := hm.at_.symm.trans h
  cases this
  exact hf
theorem h_gi (T : Txt K mg) : ∀ f, PySem.W.findIn K (.ref (nC K)) "__getitem__" = some (some (.ref f)) → PySem.W.fnIn K f = true := fun f h => by
  obtain ⟨g, fd, hm, F, hf⟩ := T.getm
  have := hm.at_.symm.trans h
  cases this
  exact hf
def F_want_position : Fn (Int × Int) := ⟨["many", "value"], fun z => [iI z.1, iI z.2], fun z => 0 ≤ z.2 ∧ z.2 < z.1, fun _ => .v iN⟩
theorem h_want_position (T : Txt K mg) : Has P w K mg base 3 "want_position" F_want_position := by
  refine has_df T.d_want_position sc_want_position b_want_position rfl (fun _ => rfl) (k := 2) ?_
  intro f cdv A outer s H E z B L D hr hp hM q hN
  obtain ⟨m, v⟩ := z
  obtain ⟨h0, h1⟩ := hp
  replace h0 : 0 ≤ v := h0
  replace h1 : v < m := h1
  show Wp _ B L _ D [.val (iI m), .val (iI v)]
  refine w_ifNot (t_or (t_not (t_val (e_call (h_is_count T) hr v (a1 (e_var 1)) trivial).v)) fun _ => t_or1 (t_geP (P := fun z => z = false) (e_var 1) (e_var 0) fun x y e1 e2 => ?_)).t (fun h => ?_) (w_none hM q hN)
  · rw [e1, e2]
    exact decide_eq_false (by omega)
  · rcases h with ⟨_, h⟩ | ⟨h, _⟩
    · cases h
    · rw [decide_eq_true h0] at h; cases h
def F_want_net (K : PySem.W.Frag) : Fn (Nat × List Gate) := ⟨["value"], fun z => [iNet K z.1 z.2], fun _ => True, fun _ => .v iN⟩
theorem h_want_net (T : Txt K mg) : Has P w K mg base 1 "want_net" (F_want_net K) := by
  refine has_df T.d_want_net sc_want_net b_want_net rfl (fun _ => rfl) (k := 0) ?_
  intro f cdv A outer s H E z B L D hr hp hM q hN
  exact w_ifNot (t_not (t_val (e_isC (e_var 0) T.net T.tyN (T.f "isinstance")))) (fun h => nomatch h) (w_none hM q hN)
def F_Nlen (K : PySem.W.Frag) : Fn (Nat × List Gate) := ⟨["self"], fun z => [iNet K z.1 z.2], fun _ => True, fun z => .v (iI (z.2.length : Int))⟩
theorem h_Nlen (T : Txt K mg) : HasMe P w K mg base 1 (nC K) "__len__" (F_Nlen K) := by
  obtain ⟨g, fd, hm, F⟩ := T.lenm
  refine ⟨g, fd, hm, F.bindsN b_Net_len, fnOk_of (k := 0) F sc_Net_len (fun _ => rfl) ?_⟩
  intro cdv A outer s H E z B L D hr hp hM q hN
  exact w_ret (r := .v (iI (z.2.length : Int))) (Ev.toI (e_lenT (e_fld (e_var 0) T.cls T.nG rfl) (T.f "len")) (by rw [List.length_map])).r hM q
theorem atI_gate {gs : List Gate} {j : Nat} {g : Gate} (h : gs[j]? = some g) : atI (gs.map (iG K)) (j : Int) = some (iG K g) := atI_nat (by rw [List.getElem?_map, h]; rfl)
def F_Nget (K : PySem.W.Frag) : Fn (Nat × List Gate × Nat × Gate) := ⟨["self", "position"], fun z => [iNet K z.1 z.2.1, iI (z.2.2.1 : Int)], fun z => z.2.1[z.2.2.1]? = some z.2.2.2, fun z => .v (iG K z.2.2.2)⟩
theorem h_Nget (T : Txt K mg) : HasMe P w K mg base 4 (nC K) "__getitem__" (F_Nget K) := by
  obtain ⟨g, fd, hm, F, _⟩ := T.getm
  refine ⟨g, fd, hm, F.bindsN b_Net_getitem, fnOk_of (k := 3) F sc_Net_getitem (fun _ => rfl) ?_⟩
  intro cdv A outer s H E z B L D hr hp hM q hN
  obtain ⟨n, gs, j, gt⟩ := z
  replace hp : gs[j]? = some gt := hp
  have hj := (List.getElem?_eq_some_iff.mp hp).1
  show Wp _ B L _ D [.val (iNet K n gs), .val (iI (j : Int))]
  refine w_expr (e_call (h_want_position T) hr ((gs.length : Int), (j : Int)) (a2 (Ev.toI (e_lenT (e_fld (e_var 0) T.cls T.nG rfl) (T.f "len")) (by rw [List.length_map])) (e_var 1)) ⟨by show (0 : Int) ≤ (j : Int); omega, by show (j : Int) < (gs.length : Int); omega⟩).v ?_
  exact w_ret (r := .v (iG K gt)) (e_ixT (e_fld (e_var 0) T.cls T.nG rfl) (e_var 1) (atI_gate hp)).r hM q
theorem NetOk.sub {n : Nat} {gs hs : List Gate} (a : NetOk n gs) (h : ∀ g ∈ hs, g ∈ gs) (l : hs.length ≤ 400) : NetOk n hs := ⟨a.n1, a.n2, l, fun g hg => a.ok g (h g hg)⟩
theorem t_neZ {X : Cx} {sl : List Ent} {a b : Expr} {pos : Pos} {z : Str} (ha : Ev X a sl (iS z)) (hb : Ev X b sl (iS z)) : EvT X (.Compare a [.NotEq] [b] pos) sl (fun z => z = false) :=
  t_neS ha hb fun x y h1 h2 => by rw [h1, h2, decide_eq_true rfl]; rfl
theorem e_eqZ {X : Cx} {sl : List Ent} {a b : Expr} {pos : Pos} {z : Str} (ha : Ev X a sl (iS z)) (hb : Ev X b sl (iS z)) : Ev X (.Compare a [.Eq] [b] pos) sl (iB true) :=
  e_eqS ha hb fun x y h1 h2 => by rw [h1, h2]; exact decide_eq_true rfl
theorem ev_eq {X : Cx} {sl : List Ent} {e : Expr} {R R' : RV} (h : R = R') (k : Ev X e sl R) : Ev X e sl R' := h ▸ k
theorem e_m1 {X : Cx} {sl : List Ent} {j} {p pos : Pos} : Ev X (.UnaryOp .USub (.Constant (.int 1) j p) pos) sl (iI (-1)) := e_negP (C := fun z => z = -1) e_int fun x h => by rw [h]
/-! ### orders -/
abbrev zN (s : List Nat) : List Int := s.map fun i : Nat => (i : Int)
def F_Lmixed (K : PySem.W.Frag) : Fn (List Int) := ⟨["_law_pot_here", "_law_some"], fun z => [iPot, rInts K z], fun z => z.length ≤ 400, fun z => .x (fun ms : List Int => ms.Perm z) fun ms => .l (ms.map iI)⟩
theorem h_Lmixed (T : Txt K mg) : Has P w K mg base 2 "_law_mixed" (F_Lmixed K) := by
  refine has_df T.d_Lmixed sc_Lmixed b_Lmixed rfl (fun _ => rfl) (k := 1) ?_
  intro f cdv A outer s H E xs B L D hr hp hM q hN
  replace hp : xs.length ≤ 400 := hp
  show Wp _ B L _ D [.val iPot, .val (rInts K xs), .no, .no]
  refine w_setOwn 2 (e_listL (e_var 1) (T.f "list")) sc_Lmixed.nd ?_
  refine w_retPop 2 3 sc_Lmixed.nd rfl (by decide) (Ev.toI (e_lenL (e_var 1) (T.f "len")) (by rw [List.length_map])) (by omega) (T.f "range") (fun ls i h0 h1 s H C cl fp => ?_) hM q
  exact (e_call (h_draw T) hr (ls.length : Int) (a2 (e_var 0) (Ev.toI (e_lenO 2 rfl (T.f "len")) (by rw [List.length_map]))) ⟨by omega, by omega⟩).v
end
end LT


set_option Elab.async false
set_option linter.all false
set_option maxRecDepth 100000
set_option maxHeartbeats 2000000
namespace Dl
open PySem PySem.Spec PyProof.Rows L2 ClX
section
variable {X : Cx} {B : Base} {L : Hp} {sl : List Ent} {D : Ends} {pos : Pos} {rest : List Stmt} {Rs Rs2 : List RV} {a b c : Expr}
/-- a new list, or another one -/
theorem e_ifR {P : Bool → Prop} {r : Res} (h : EvT X c sl P) (h1 : P true → EvR X a sl r) (h2 : P false → EvR X b sl r) : EvR X (.IfExp c a b pos) sl r :=
  evR_of (pe_ifExp pcanT pcan pcan) fun σ G H Q z k => h.can z fun d G1 H1 g1 p1 => by
    cases d with
    | true => exact iteT ((h1 p1).can (z.gr g1) (k.gr g1))
    | false => exact iteF ((h2 p1).can (z.gr g1) (k.gr g1))
/-- x, y = e1, e2, two lists of one's own, some of the names held in cells -/
theorem w_parOOC (i j : Nat) {x y : Str} {px py pt : Pos} {kt k2 pt2} (hc : X.calm = true) (hN : X.N.Nodup) (h1 : EvR X a sl (.l Rs)) (h2 : EvR X b sl (.l Rs2)) (k : Wp X B L rest D ((sl.set i (.own Rs)).set j (.own Rs2))) (hi : X.N[i]? = some x := by rfl) (hj : X.N[j]? = some y := by rfl)
    (hx : Loc X.env.scope x := by first | exact Or.inl rfl | exact Or.inr rfl) (hy : Loc X.env.scope y := by first | exact Or.inl rfl | exact Or.inr rfl) (fx : X.fn x = true ∨ X.env.scope.names.lookup x = some .local := by first | exact .inl rfl | exact .inr rfl) (fy : X.fn y = true ∨ X.env.scope.names.lookup y = some .local := by first | exact .inl rfl | exact .inr rfl)
    (hs : swapsWithSole [.Tuple [.Name x px, .Name y py] kt pt] (.Tuple [a, b] k2 pt2) pos.line X.env = pure false := by rfl) (hw : swappedStores [.Tuple [.Name x px, .Name y py] kt pt] (.Tuple [a, b] k2 pt2) X.env = pure none := by rfl)
    (ha : (assignEach [.Tuple [.Name x px, .Name y py] kt pt] X.env).map (·.2) = [assign (.Tuple [.Name x px, .Name y py] kt pt) X.env] := by rfl) (he : starEach [a, b] X.env = (false, eval a X.env) :: starEach [b] X.env := by rfl) (he' : starEach [b] X.env = [(false, eval b X.env)] := by rfl) :
    Wp X B L (.Assign [.Tuple [.Name x px, .Name y py] kt pt] (.Tuple [a, b] k2 pt2) pos :: rest) D sl :=
  wp_of (ps_asg (pe_tup (pa_cons pcan (pa_cons pcan pa_nil he') he)) (pg_tup hc (pgs_cons (pg_name (i := i) hN hi hx fx) (pgs_cons (pg_name (i := j) hN hj hy fy) pgs_nil))) hs hw ha) fun σ G H z => h1.can z.sat fun p vs G1 H1 g1 n1 n2 e1 r1 => h2.can (z.sat.gr g1) fun q us G2 H2 g2 m1 m2 e2 r2 =>
    ⟨by show 2 ≤ _; rw [sizeLine_eq]; decide, fun t ht => ⟨t, _, rfl, SqT.of upd_same, rfl, _, _, rfl, _, _, rfl, rfl, k _ G2 _ ((z.setOwn g1 i n1 n2 e1 r1).setOwn (g2.trans (Gr.newOut g2.s ht)) j m1 m2 (by rw [upd_ne (ne_of_none e2 ht)]; exact e2) r2)⟩⟩
/-- x, y = e1, e2, a list and another object of one's own -/
theorem w_parOM (i j : Nat) {x y : Str} {px py pt : Pos} {kt k2 pt2} {O : OV} (hc : X.calm = true) (hN : X.N.Nodup) (h1 : EvR X a sl (.l Rs)) (h2 : EvR X b sl (.m O)) (k : Wp X B L rest D ((sl.set i (.own Rs)).set j (.mu O))) (hi : X.N[i]? = some x := by rfl) (hj : X.N[j]? = some y := by rfl) (hij : i ≠ j := by decide)
    (hx : X.env.scope.names.lookup x = some .local := by rfl) (hy : X.env.scope.names.lookup y = some .local := by rfl) (hw : swappedStores [.Tuple [.Name x px, .Name y py] kt pt] (.Tuple [a, b] k2 pt2) X.env = pure (some [x, y]) := by rfl)
    (hs : swapsWithSole [.Tuple [.Name x px, .Name y py] kt pt] (.Tuple [a, b] k2 pt2) pos.line X.env = pure false := by rfl) (he : starEach [a, b] X.env = (false, eval a X.env) :: starEach [b] X.env := by rfl) (he' : starEach [b] X.env = [(false, eval b X.env)] := by rfl) :
    Wp X B L (.Assign [.Tuple [.Name x px, .Name y py] kt pt] (.Tuple [a, b] k2 pt2) pos :: rest) D sl :=
  wp_of (ps_par hc hN hi hj hij hx hy (pa_cons pcan (pa_cons pcan pa_nil he') he) hw hs) fun σ G H z => h1.can z.sat fun p vs G1 H1 g1 n1 n2 e1 r1 => h2.can (z.sat.gr g1) fun q o G2 H2 g2 m1 m2 e2 r2 =>
    ⟨_, _, rfl, k _ G2 H2 ((z.setOwn g1 i n1 n2 e1 r1).setMut g2 j m1 m2 e2 r2)⟩
/-- x, y = e1, e2, a value and a list of one's own -/
theorem w_parVO (i j : Nat) {x y : Str} {px py pt : Pos} {kt k2 pt2} {R : RV} (hc : X.calm = true) (hN : X.N.Nodup) (h1 : Ev X a sl R) (h2 : EvR X b sl (.l Rs)) (k : Wp X B L rest D ((sl.set i (.val R)).set j (.own Rs))) (hi : X.N[i]? = some x := by rfl) (hj : X.N[j]? = some y := by rfl) (hij : i ≠ j := by decide)
    (hx : X.env.scope.names.lookup x = some .local := by rfl) (hy : X.env.scope.names.lookup y = some .local := by rfl) (hw : swappedStores [.Tuple [.Name x px, .Name y py] kt pt] (.Tuple [a, b] k2 pt2) X.env = pure (some [x, y]) := by rfl)
    (hs : swapsWithSole [.Tuple [.Name x px, .Name y py] kt pt] (.Tuple [a, b] k2 pt2) pos.line X.env = pure false := by rfl) (he : starEach [a, b] X.env = (false, eval a X.env) :: starEach [b] X.env := by rfl) (he' : starEach [b] X.env = [(false, eval b X.env)] := by rfl) :
    Wp X B L (.Assign [.Tuple [.Name x px, .Name y py] kt pt] (.Tuple [a, b] k2 pt2) pos :: rest) D sl :=
  wp_of (ps_par hc hN hi hj hij hx hy (pa_cons pcan (pa_cons pcan pa_nil he') he) hw hs) fun σ G H z => h1.can z.sat fun u G1 H1 g1 r1 => h2.can (z.sat.gr g1) fun q us G2 H2 g2 m1 m2 e2 r2 =>
    ⟨_, _, rfl, k _ G2 H2 (((z.go g1).set i r1).setOwn g2 j m1 m2 e2 r2)⟩
end
/-! ### defs that tell two new lists in a tuple -/
def PostC (G H : Hp) (Q : VK) (Rs Ss : List RV) : Prop := ∀ t p q vs us G' H', Gr G H G' H' → H p = none → H q = none → G' p = none → G' q = none → H' p = some (.lst vs) → H' q = some (.lst us) → H' t = some (.tup [.ref p, .ref q]) → PVs G' Rs vs → PVs G' Ss us → Q (.ref t) H'
theorem PostC.gr {G H G1 H1 : Hp} {Q : VK} {Rs Ss : List RV} (g : Gr G H G1 H1) (h : PostC G H Q Rs Ss) : PostC G1 H1 Q Rs Ss := fun t p q vs us G' H' g' n1 n2 m1 m2 e1 e2 e3 r1 r2 => h t p q vs us G' H' (g.trans g') (g.hs.free n1) (g.hs.free n2) m1 m2 e1 e2 e3 r1 r2
structure FnC (α : Type) where
  ps : List Str
  args : α → List RV
  pre : α → Prop
  one : α → List RV
  two : α → List RV
def FnC.sp {α : Type} (F : FnC α) : Sp := fun vs H Q _ => ∃ (a : α) (G : Hp), Same G H ∧ PVs G (F.args a) vs ∧ F.pre a ∧ PostC G H Q (F.one a) (F.two a)
structure HasC (P : Program) (w : World) (K : PySem.W.Frag) (mg : Str → Option Value) (base : Heap) (k : Nat) (x : Str) {α : Type} (F : FnC α) : Prop where
  ex : ∃ f fd, mg x = some (.ref f) ∧ PySem.W.keepIn K (.ref f) = true ∧ Binds K fd F.ps [] ∧ FnOk P w K mg base CX0 k f fd F.ps F.sp
section
variable {P : Program} {w : World} {K : PySem.W.Frag} {mg : Str → Option Value} {base : Heap}
theorem hasC_df {x : Str} {st : Stmt} {N ps : List Str} {k : Nat} {α : Type} {F : FnC α} (d : Df K mg x st) (S : FnScope N ps (defScope st))
    (hb : ∀ (kV doc pm : Value) (an : Option Addr) (cdv ct : Value) (us : List Value), us.length = ps.length → bindArgs (PySem.W.fnOf x x (defArgs st) (defBody st) (defScope st) .none kV doc pm an cdv ct) ⟨us, []⟩ = pure (ps.zip us)) (hps : F.ps = ps) (hl : ∀ a, (F.args a).length = F.ps.length)
    (body : ∀ (f : Addr) (cdv : Value) (A : Around) (outer : List Env) (s : Shared) (H : Hp) (E : XK) (a : α) (B : Base) (L : Hp) (D : Ends), Room k (A.deeper (envOfC x (defScope st) s.heap.objs.size f cdv)) → F.pre a → (∀ b, ¬ B.M b) → PostC B.G B.H D.rt (F.one a) (F.two a) →
      Wp (cxOf CX0 P w K mg base N x (defScope st) f cdv A outer s H E).nox B L (defBody st) D (ents N.length (F.args a))) : HasC P w K mg base (k + 1) x F := by
  obtain ⟨f, fd, F0, hm⟩ := d
  subst hps
  refine ⟨f, fd, hm, F0.kp, F0.bindsN hb, FunD.ok F0 S (fun vs H Q E h => ?_) (fun cdv A outer s H vs Q E hr h => ?_)⟩
  · obtain ⟨a, G, _, r, _⟩ := h
    rw [← r.len, hl]
  · obtain ⟨a, G, sm, r, hp, q⟩ := h
    refine ⟨_, PSs.nox pcanS, ?_⟩
    refine body f cdv A outer s H E a ⟨G, H, NoM⟩ G { nx := fun _ H' => Q .non H', rt := Q } hr hp (fun _ z => z) q (L2.start N vs) G H ⟨sat_start sm r, Grow.refl sm, Same.refl _, fun i Rs p e _ => ?_⟩
    unfold ents at e
    rw [List.getElem?_append] at e
    split at e
    · rw [List.getElem?_map] at e
      cases q : (F.args a)[i]? with
      | none => rw [q] at e; cases e
      | some R' => rw [q] at e; cases e
    · rw [List.getElem?_replicate] at e
      split at e <;> cases e
end
section
variable {X : Cx} {B : Base} {L : Hp} {D : Ends} {rest : List Stmt} {sl : List Ent} {k : Nat} {x : Str} {α : Type} {F : FnC α} {p pos : Pos} {e a b : Expr} {es : List Expr} {Rs Ss : List RV}
def EvC (X : Cx) (e : Expr) (sl : List Ent) (Rs Ss : List RV) : Prop := ∀ (σ : L2.St) (G H : Hp) (Q : VK), Sat sl σ G H → PostC G H Q Rs Ss → can X e σ H Q
theorem c_call (h : HasC X.prog X.w X.K X.mg X.base k x F) (hr : Room k X.A) (z : α) (ha : EvA X (e :: es) sl (F.args z)) (hp : F.pre z) (hg : Gl X x := by rfl) (hdb : (x == ("__debug__" : Str)) = false := by decide)
    (he : starEach (e :: es) X.env = (false, eval e X.env) :: starEach es X.env := by rfl) (hpl : (backTo pos (starEach es X.env)).any (·.1) = false := by rfl) : EvC X (.Call (.Name x p) (e :: es) [] pos) sl (F.one z) (F.two z) := by
  obtain ⟨f, fd, hm, hk, hb, ok⟩ := h.ex
  intro σ G H Q a q pins s I
  refine (pe_call ok hr hg hm hk hb .nil (E := fun _ _ _ => False) pass0 pcanA hdb he hpl).run pins s σ H Q I ?_
  refine ha.can a fun vs G1 H1 g1 r1 => ?_
  rw [List.append_nil]
  exact ⟨z, G1, g1.s, r1, hp, q.gr g1⟩
/-- return (a new list, a new list) -/
theorem w_retC {x1} {pt : Pos} (h1 : EvR X a sl (.l Rs)) (h2 : EvR X b sl (.l Ss)) (hM : ∀ a, ¬ B.M a) (q : PostC B.G B.H D.rt Rs Ss) (he : starEach [a, b] X.env = (false, eval a X.env) :: starEach [b] X.env := by rfl) (he' : starEach [b] X.env = [(false, eval b X.env)] := by rfl) : Wp X B L (.Return (some (.Tuple [a, b] x1 pt)) pos :: rest) D sl :=
  wp_of (ps_ret (pe_tup (pa_cons pcan (pa_cons pcan pa_nil he') he))) fun σ G H z => h1.can z.sat fun p vs G1 H1 g1 n1 n2 e1 r1 => h2.can (z.sat.gr g1) fun c us G2 H2 g2 m1 m2 e2 r2 =>
    ⟨by show 2 ≤ _; rw [sizeLine_eq]; decide, fun t ht => by
      have g0 := z.gr0 hM
      have old : ∀ b, H b = none → B.H b = none := fun b h => by
        cases w : B.H b with
        | none => rfl
        | some o => exact absurd h (g0.t b (by rw [w]; exact fun z => nomatch z))
      exact q t p c vs us G2 _ (((g0.trans g1).trans g2).trans (Gr.newOut g2.s ht)) (old p n1) (old c (g1.hs.free m1)) (g2.out e1 n2) m2 (by rw [upd_ne (ne_of_none (g2.hs _ _ e1) ht)]; exact g2.hs _ _ e1) (by rw [upd_ne (ne_of_none e2 ht)]; exact e2) upd_same (r1.mono g2.g) r2⟩
/-- f(..)[0], f(..)[1] -/
theorem e_at0 (h : EvC X e sl Rs Ss) (hb : Ev X b sl (iI 0)) (hs : PlainIx b := by intro _ _; rfl) : EvR X (.Subscript e b p) sl (.l Rs) :=
  evR_of (pe_ix ix_tup pcan pcan hs) fun σ G H Q z k => h σ G H _ z fun t p c vs us G' H' g n1 n2 m1 m2 e1 e2 e3 r1 r2 => hb.can (z.gr g) fun u G2 H2 g2 ⟨j, ej, hj⟩ => by
    subst hj
    exact ⟨t, _, _, _, rfl, ej, SqT.of (g2.hs _ _ e3), rfl, k p vs G2 H2 (g.trans g2) n1 (g2.out e1 m1) (g2.hs _ _ e1) (r1.mono g2.g)⟩
theorem e_at1 (h : EvC X e sl Rs Ss) (hb : Ev X b sl (iI 1)) (hs : PlainIx b := by intro _ _; rfl) : EvR X (.Subscript e b p) sl (.l Ss) :=
  evR_of (pe_ix ix_tup pcan pcan hs) fun σ G H Q z k => h σ G H _ z fun t p c vs us G' H' g n1 n2 m1 m2 e1 e2 e3 r1 r2 => hb.can (z.gr g) fun u G2 H2 g2 ⟨j, ej, hj⟩ => by
    subst hj
    exact ⟨t, _, _, _, rfl, ej, SqT.of (g2.hs _ _ e3), rfl, k c us G2 H2 (g.trans g2) n2 (g2.out e2 m2) (g2.hs _ _ e2) (r2.mono g2.g)⟩
end
end Dl


set_option Elab.async false
set_option linter.all false
set_option maxRecDepth 100000
set_option maxHeartbeats 2000000
namespace LT
open PySem PySem.Spec PyProof.Rows L2 Dl Mt ClX
section
variable {P : Program} {w : World} {K : PySem.W.Frag} {mg : Str → Option Value} {base : Heap}
def F_want_lane : Fn (Nat × Nat) := ⟨["lanes", "value"], fun z => [iI (z.1 : Int), iI (z.2 : Int)], fun z => z.2 < z.1, fun _ => .v iN⟩
theorem h_want_lane (T : Txt K mg) : Has P w K mg base 4 "want_lane" F_want_lane := by
  refine has_df T.d_want_lane sc_want_lane b_want_lane rfl (fun _ => rfl) (k := 3) ?_
  intro f cdv A outer s H E z B L D hr hp hM q hN
  obtain ⟨n, l⟩ := z
  replace hp : l < n := hp
  show Wp _ B L _ D [.val (iI (n : Int)), .val (iI (l : Int))]
  refine w_ifNot (t_not (t_val (EvR.v (e_call (h_is_lane T) hr ((n : Int), (l : Int)) (a2 (e_var 0) (e_var 1)) trivial)))) (fun h => ?_) (w_none hM q hN)
  rw [decide_eq_true (show 0 ≤ (l : Int) ∧ (l : Int) < (n : Int) by omega)] at h
  cases h
theorem lanes_iI {n : Nat} {g : Gate} (h : g.Ok n) : ((zN (lanesG g)).map iI) = if g.k = .add then [iI (g.a : Int)] else [iI (g.a : Int), iI g.b] := by
  unfold lanesG
  by_cases e : g.k = .add
  · rw [if_pos e, if_pos e]; rfl
  · rw [if_neg e, if_neg e]
    have := (h.b e).1
    show [iI (g.a : Int), iI ((g.b.toNat : Nat) : Int)] = _
    rw [Int.toNat_of_nonneg this]
def F_lanes_of (K : PySem.W.Frag) (ps : List Str) : Fn (Nat × Gate) := ⟨ps, fun z => [iG K z.2], fun z => z.2.Ok z.1, fun z => .l ((zN (lanesG z.2)).map iI)⟩
theorem h_lanes_of (T : Txt K mg) : Has P w K mg base 1 "lanes_of" (F_lanes_of K ["gate"]) := by
  refine has_df T.d_lanes_of sc_lanes_of b_lanes_of rfl (fun _ => rfl) (k := 0) ?_
  intro f cdv A outer s H E z B L D hr hp hM q hN
  obtain ⟨n, g⟩ := z
  replace hp : g.Ok n := hp
  show Wp _ B L _ D [.val (iG K g)]
  refine w_ret (r := .l ((zN (lanesG g)).map iI)) ?_ hM q
  rw [lanes_iI hp]
  refine e_ifR (P := fun z => z = decide (g.k = .add)) (t_wd (l := .add) (e_ixT (e_var 0) e_int (atI_nat (j := 0) rfl)) (e_word T.add)) (fun h => ?_) (fun h => ?_)
  · rw [if_pos (of_decide_eq_true h.symm)]
    exact e_lst (a1 (e_ixT (e_var 0) e_int (atI_nat (j := 1) rfl))) (by show 1 ≤ 100000; decide)
  · rw [if_neg (of_decide_eq_false h.symm)]
    exact e_lst (a2 (e_ixT (e_var 0) e_int (atI_nat (j := 1) rfl)) (e_ixT (e_var 0) e_int (atI_nat (j := 2) rfl))) (by show 2 ≤ 100000; decide)
theorem h_Llanes (T : Txt K mg) : Has P w K mg base 1 "_law_lanes" (F_lanes_of K ["_law_gate_here"]) := by
  refine has_df T.d_Llanes sc_Llanes b_Llanes rfl (fun _ => rfl) (k := 0) ?_
  intro f cdv A outer s H E z B L D hr hp hM q hN
  obtain ⟨n, g⟩ := z
  replace hp : g.Ok n := hp
  show Wp _ B L _ D [.val (iG K g)]
  refine w_ret (r := .l ((zN (lanesG g)).map iI)) ?_ hM q
  rw [lanes_iI hp]
  refine e_ifR (P := fun z => z = decide (g.k = .add)) (t_wd (l := .add) (e_ixT (e_var 0) e_int (atI_nat (j := 0) rfl)) e_str) (fun h => ?_) (fun h => ?_)
  · rw [if_pos (of_decide_eq_true h.symm)]
    exact e_lst (a1 (e_ixT (e_var 0) e_int (atI_nat (j := 1) rfl))) (by show 1 ≤ 100000; decide)
  · rw [if_neg (of_decide_eq_false h.symm)]
    exact e_lst (a2 (e_ixT (e_var 0) e_int (atI_nat (j := 1) rfl)) (e_ixT (e_var 0) e_int (atI_nat (j := 2) rfl))) (by show 2 ≤ 100000; decide)
theorem zN_mem {l : Nat} {s : List Nat} : ((l : Int) ∈ zN s) ↔ l ∈ s := by
  unfold zN
  rw [List.mem_map]
  exact ⟨fun ⟨m, h, e⟩ => by have : m = l := by omega
                             rwa [← this], fun h => ⟨l, h, rfl⟩⟩
def F_touch (K : PySem.W.Frag) : Fn (Nat × Gate × Gate) := ⟨["_law_one", "_law_other"], fun z => [iG K z.2.1, iG K z.2.2], fun z => z.2.1.Ok z.1 ∧ z.2.2.Ok z.1, fun z => .v (iB (touch z.2.1 z.2.2))⟩
theorem h_touch (T : Txt K mg) : Has P w K mg base 2 "_law_do_touch" (F_touch K) := by
  refine has_df T.d_Ldo_touch sc_Ldo_touch b_Ldo_touch rfl (fun _ => rfl) (k := 1) ?_
  intro f cdv A outer s H E z B L D hr hp hM q hN
  obtain ⟨n, g, h⟩ := z
  obtain ⟨o1, o2⟩ := hp
  replace o1 : g.Ok n := o1
  replace o2 : h.Ok n := o2
  show Wp _ B L _ D [.val (iG K g), .val (iG K h), .no]
  refine w_ret (r := .v (iB (touch g h))) (Ev.r ?_) hM q
  refine e_anyM (xs := lanesG g) (f := fun l => (lanesG h).contains l) (EvR.lst (e_compL 2 (xs := lanesG g) (c := fun l : Nat => iI (l : Int)) (fun l => iB ((lanesG h).contains l)) sc_Ldo_touch.nd ?src ?len (fun l hl s H C cl fp => ?el))) (T.f "any")
  case src => exact ev_eq (congrArg (rLst K) (by unfold zN; rw [List.map_map]; rfl)) (EvR.lst (e_call (h_Llanes T) hr (n, g) (a1 (e_var 0)) o1))
  case len => unfold lanesG; split <;> simp
  case el =>
    refine ev_eq (congrArg iB ?_) (e_inB (x := (l : Int)) (e_var 2) (EvR.lst (e_call (h_Llanes T) hr (n, h) (a1 (e_var 1)) o2)))
    rw [Bool.eq_iff_iff, decide_eq_true_eq, zN_mem, List.contains_iff_mem]
def F_of_lane (K : PySem.W.Frag) : Fn (Nat × List Gate × Nat) := ⟨["net", "lane"], fun z => [iNet K z.1 z.2.1, iI (z.2.2 : Int)], fun z => NetOk z.1 z.2.1, fun z => .l ((ofL z.2.2 z.2.1).map (iG K))⟩
theorem h_of_lane (T : Txt K mg) : Has P w K mg base 2 "of_lane" (F_of_lane K) := by
  refine has_df T.d_of_lane sc_of_lane b_of_lane rfl (fun _ => rfl) (k := 1) ?_
  intro f cdv A outer s H E z B L D hr hp hM q hN
  obtain ⟨n, gs, l⟩ := z
  replace hp : NetOk n gs := hp
  have few := hp.few
  show Wp _ B L _ D [.val (iNet K n gs), .val (iI (l : Int)), .no]
  refine w_ret (r := .l ((ofL l gs).map (iG K))) (e_compLT 2 (xs := gs) (fun g => iG K g) (hasL l) sc_of_lane.nd ?src (by omega) (fun g hg s H C cl fp => ?ts) (fun g hg _ s H C cl fp => e_var 2)) hM q
  case src => exact EvR.lst (e_meth0 (h_gates T) (hr.mono (by decide)) T.cls (n, gs) (e_var 0) rfl rfl trivial)
  case ts =>
    refine EvT.imp (t_inI (x := (l : Int)) (e_var 1) (EvR.lst (e_call (h_lanes_of T) hr (n, g) (a1 (e_var 2)) (hp.ok g hg)))) fun z h => ?_
    rw [h, Bool.eq_iff_iff, decide_eq_true_eq, zN_mem, hasL_iff]
def F_alike (K : PySem.W.Frag) : Fn (Nat × List Gate × List Gate) := ⟨["net", "other"], fun z => [iNet K z.1 z.2.1, iNet K z.1 z.2.2], fun z => NetOk z.1 z.2.1 ∧ NetOk z.1 z.2.2 ∧ ∀ l, ofL l z.2.1 = ofL l z.2.2, fun _ => .v (iB true)⟩
theorem h_alike (T : Txt K mg) : Has P w K mg base 3 "are_alike" (F_alike K) := by
  refine has_df T.d_are_alike sc_are_alike b_are_alike rfl (fun _ => rfl) (k := 2) ?_
  intro f cdv A outer s H E z B L D hr hp hM q hN
  obtain ⟨n, gs, hs⟩ := z
  obtain ⟨o1, o2, al⟩ := hp
  replace o1 : NetOk n gs := o1
  replace o2 : NetOk n hs := o2
  replace al : ∀ l, ofL l gs = ofL l hs := al
  have n2 := o1.n2
  show Wp _ B L _ D [.val (iNet K n gs), .val (iNet K n hs), .no]
  refine w_ret (r := .v (iB true)) (Ev.r (ev_eq (congrArg iB ?_) (e_allM (xs := List.range (n : Int).toNat) (f := fun _ => true) (EvR.lst (e_compR 2 (fun _ => iB true) sc_are_alike.nd (EvR.v (e_prop (h_lanes T) (hr.mono (by decide)) T.cls (n, gs) (e_var 0) rfl trivial)) (by omega) (by omega) (T.f "range") (fun l hl s H C cl fp => ?el))) (T.f "all")))) hM q
  case el =>
    refine e_eqY (hu64 hr) (EvR.lst (e_call (h_of_lane T) hr (n, gs, l) (a2 (e_var 0) (e_var 2)) o1)) (EvR.lst (e_call (h_of_lane T) hr (n, hs, l) (a2 (e_var 1) (e_var 2)) o2)) (d := .list ((ofL l gs).map dG)) (py_lst fun g _ => py_G g) ?_ (sh_list (sh_map fun g _ => sh_G g))
    show (rLst K ((ofL l hs).map (iG K))).Py K _
    rw [← al l]
    exact py_lst fun g _ => py_G g
  · rw [List.all_eq_true]
    exact fun _ _ => rfl
theorem h_shuffle (T : Txt K mg) : Has P w K mg base 4 "is_shuffle" (F_alike K) := by
  refine has_df T.d_is_shuffle sc_is_shuffle b_is_shuffle rfl (fun _ => rfl) (k := 3) ?_
  intro f cdv A outer s H E z B L D hr hp hM q hN
  obtain ⟨n, gs, hs⟩ := z
  show Wp _ B L _ D [.val (iNet K n gs), .val (iNet K n hs)]
  refine w_expr (EvR.v (e_call (h_want_net T) (hr.mono (by decide)) (n, hs) (a1 (e_var 1)) trivial)) ?_
  refine w_ret (r := .v (iB true)) (Ev.r (Ev.bool (e_and (e_eqI (P := fun z => z = true) (EvR.v (e_prop (h_lanes T) (hr.mono (by decide)) T.cls (n, gs) (e_var 0) rfl trivial)) (EvR.v (e_prop (h_lanes T) (hr.mono (by decide)) T.cls (n, hs) (e_var 1) rfl trivial)) fun x y h1 h2 => by rw [h1, h2]; exact decide_eq_true rfl) fun _ => e_one (EvR.v (e_call (h_alike T) hr (n, gs, hs) (a2 (e_var 0) (e_var 1)) hp))) ?_)) hM q
  rintro z (⟨_, h⟩ | ⟨h, _⟩)
  · exact h
  · cases h
end
end LT


set_option Elab.async false
set_option linter.all false
set_option maxRecDepth 100000
set_option maxHeartbeats 2000000
namespace Dl
open PySem PySem.Spec PyProof.Rows L2 ClX
section
variable {X : Cx} {B : Base} {L : Hp} {sl : List Ent} {D : Ends} {pos : Pos} {rest : List Stmt} {elt a tst : Expr} {x y : Str} {px py spos p1 p2 : Pos} {scope : Scope} {m : Nat}
/-- [.. for x in range(m) if ..] -/
theorem e_compRT (j : Nat) (d : Nat → RV) (p : Nat → Bool) (hN : X.N.Nodup) (src : Ev X a sl (iI (m : Int))) (hn : m ≤ 90000) (hm : X.mg "range" = none)
    (ts : ∀ l : Nat, l < m → ∀ s H C cl fp, EvT (blkX X scope s H C cl fp) tst (setE (wipeE sl [j]) [j] [iI (l : Int)]) (fun b => b = p l))
    (el : ∀ l : Nat, l < m → p l = true → ∀ s H C cl fp, Ev (blkX X scope s H C cl fp) elt (setE (wipeE sl [j]) [j] [iI (l : Int)]) (d l)) (hc : X.calm = true := by rfl) (hg : Gl X "range" := by rfl) (he : starEach [a] X.env = [(false, eval a X.env)] := by rfl) (hj : X.N[j]? = some y := by rfl) (hl : (relabel scope X.env).names.lookup y = some .local := by rfl) (hb : blkC X.N X.env.scope scope [(y, j)] = true := by kernel_rfl)
    (hf : ∀ x, foldedSetIterable (.Call (.Name "range" p1) [a] [] p2) X.env x = pure x := by intro _; rfl) : EvR X (.ListComp elt [⟨.Name y py, .Call (.Name "range" p1) [a] [] p2, [tst], 0⟩] scope pos) sl (.l (((List.range m).filter p).map d)) := by
  have := e_lcT (own := [(y, j)]) (pos := pos) (tg := .Name y py) (g := gName j) (tst := tst) hc hN (pi_range1 hg hm pcanA he) (blkOk_by hb) (fun s H C cl fp => pg_name hN hj (.inl hl) (.inr hl)) (src_range (j := j) src (by omega) (by omega) he) (by simp) (by rw [Int.toNat_natCast]; exact hn) p d (fun i hi s H C cl fp => ts i (by omega) s H C cl fp) (fun i hi hp s H C cl fp => el i (by omega) hp s H C cl fp) hf (elt := elt)
  rw [Int.toNat_natCast] at this
  exact this
/-- name = [.. for x in range(m) if ..] on one line -/
theorem w_setCompRT (i j : Nat) (d : Nat → RV) (p : Nat → Bool) (hN : X.N.Nodup) (src : Ev X a sl (iI (m : Int))) (hn : m ≤ 90000) (hm : X.mg "range" = none)
    (ts : ∀ l : Nat, l < m → ∀ s H C cl fp, EvT (blkX X scope s H C cl fp) tst (setE (wipeE sl [j]) [j] [iI (l : Int)]) (fun b => b = p l))
    (el : ∀ l : Nat, l < m → p l = true → ∀ s H C cl fp, Ev (blkX X scope s H C cl fp) elt (setE (wipeE sl [j]) [j] [iI (l : Int)]) (d l)) (k : Wp X B L rest D (sl.set i (.own (((List.range m).filter p).map d)))) (hc : X.calm = true := by rfl) (hg : Gl X "range" := by rfl) (he : starEach [a] X.env = [(false, eval a X.env)] := by rfl) (hj : X.N[j]? = some y := by rfl) (hl : (relabel scope X.env).names.lookup y = some .local := by rfl) (hb : blkC X.N X.env.scope scope [(y, j)] = true := by kernel_rfl)
    (hx : X.N[i]? = some x := by rfl) (hxl : X.env.scope.names.lookup x = some .local := by rfl) (hsw : swapsWith (.ListComp elt [⟨.Name y py, .Call (.Name "range" p1) [a] [] p2, [tst], 0⟩] scope pos) (some (.Name x px)) spos.line X.env = pure true := by exact sw_true rfl rfl (by decide) (by decide +kernel))
    (hf : ∀ x, foldedSetIterable (.Call (.Name "range" p1) [a] [] p2) X.env x = pure x := by intro _; rfl) : Wp X B L (.Assign [.Name x px] (.ListComp elt [⟨.Name y py, .Call (.Name "range" p1) [a] [] p2, [tst], 0⟩] scope pos) spos :: rest) D sl := by
  refine wp_of (ps_setLc (own := [(y, j)]) (g := gName j) (tt := ttC X scope tst) hc hN hx hxl hsw (pi_range1 hg hm pcanA he) (blkOk_by hb) (fun s H C cl fp => pg_name hN hj (.inl hl) (.inr hl)) (fun s H C cl fp => pts_one (pttC s H C cl fp)) pteC hf) fun σ G H a => lc_semT (own := [(y, j)]) (src_range (j := j) src (by omega) (by omega) he) (by simp) (by rw [Int.toNat_natCast]; exact hn) p d (fun i hi s H C cl fp => ts i (by omega) s H C cl fp) (fun i hi hp s H C cl fp => el i (by omega) hp s H C cl fp) σ G H _ a.sat fun q vs G' H' g' n1 n2 e r => ?_
  rw [Int.toNat_natCast] at r
  exact k _ G' H' (a.setOwn g' i n1 n2 e r)
end
end Dl


set_option Elab.async false
set_option linter.all false
set_option maxRecDepth 100000
set_option maxHeartbeats 2000000
namespace Mt
/-! ### the level of each lane -/
def lvl (ps : List (Gate × Nat)) (l : Nat) : Nat := maxL ((ps.filter fun p => hasL l p.1).map fun p => p.2 + 1)
theorem lvl_max (ps : List (Gate × Nat)) (g : Gate) : lvAt ps g = maxL ((lanesG g).map (lvl ps)) := by
  unfold lvAt
  refine Nat.le_antisymm (maxL_le fun x hx => ?_) (maxL_le fun x hx => ?_)
  · obtain ⟨p, hp, rfl⟩ := List.mem_map.mp hx
    obtain ⟨h1, h2⟩ := List.mem_filter.mp hp
    obtain ⟨l, l1, l2⟩ := touch_iff.mp h2
    refine Nat.le_trans (le_maxL (xs := (ps.filter fun p => hasL l p.1).map fun p => p.2 + 1) ?_) (le_maxL (List.mem_map.mpr ⟨l, l1, rfl⟩))
    exact List.mem_map.mpr ⟨p, List.mem_filter.mpr ⟨h1, hasL_iff.mpr l2⟩, rfl⟩
  · obtain ⟨l, hl, rfl⟩ := List.mem_map.mp hx
    refine maxL_le fun y hy => ?_
    obtain ⟨p, hp, rfl⟩ := List.mem_map.mp hy
    obtain ⟨h1, h2⟩ := List.mem_filter.mp hp
    exact le_maxL (List.mem_map.mpr ⟨p, List.mem_filter.mpr ⟨h1, touch_iff.mpr ⟨l, hl, hasL_iff.mp h2⟩⟩, rfl⟩)
theorem lvl_snoc (ps : List (Gate × Nat)) (g : Gate) (l : Nat) : lvl (ps ++ [(g, lvAt ps g)]) l = if l ∈ lanesG g then lvAt ps g + 1 else lvl ps l := by
  unfold lvl
  rw [List.filter_append, List.map_append, maxL_app]
  by_cases h : l ∈ lanesG g
  · rw [if_pos h, List.filter_cons_of_pos (p := fun p : Gate × Nat => hasL l p.1) (a := (g, lvAt ps g)) (hasL_iff.mpr h)]
    have : maxL ((ps.filter fun p => hasL l p.1).map fun p => p.2 + 1) ≤ lvAt ps g := by
      rw [lvl_max]
      exact le_maxL (List.mem_map.mpr ⟨l, h, rfl⟩)
    show max _ (maxL [lvAt ps g + 1]) = _
    have e : maxL [lvAt ps g + 1] = lvAt ps g + 1 := by simp [maxL]
    rw [e]
    omega
  · rw [if_neg h, List.filter_cons_of_neg (p := fun p : Gate × Nat => hasL l p.1) (a := (g, lvAt ps g)) (fun z => h (hasL_iff.mp z))]
    show max _ 0 = _
    omega
def lvls (n : Nat) (gs : List Gate) : List Nat := (List.range n).map (lvl (lvP gs))
theorem lvls_len (n : Nat) (gs : List Gate) : (lvls n gs).length = n := by unfold lvls; rw [List.length_map, List.length_range]
theorem lvls_nil (n : Nat) : lvls n [] = List.replicate n 0 := by
  unfold lvls
  rw [List.eq_replicate_iff]
  refine ⟨by rw [List.length_map, List.length_range], fun x hx => ?_⟩
  obtain ⟨l, _, rfl⟩ := List.mem_map.mp hx
  rfl
theorem lvls_at {n : Nat} {gs : List Gate} {l : Nat} (h : l < n) : (lvls n gs)[l]? = some (lvl (lvP gs) l) := by
  unfold lvls
  rw [List.getElem?_map, List.getElem?_range h]
  rfl
def setAll (v : Nat) (L : List Nat) (ls : List Nat) : List Nat := ls.foldl (fun L l => L.set l v) L
theorem setAll_len (v : Nat) : ∀ (ls L : List Nat), (setAll v L ls).length = L.length
  | [], _ => rfl
  | l :: ls, L => by show (setAll v (L.set l v) ls).length = _; rw [setAll_len v ls, List.length_set]
theorem setAll_at (v : Nat) : ∀ (ls L : List Nat) (j : Nat), j < L.length → (setAll v L ls)[j]? = if j ∈ ls then some v else L[j]?
  | [], _, _, _ => by rw [if_neg (fun h => nomatch h)]; rfl
  | l :: ls, L, j, h => by
    show (setAll v (L.set l v) ls)[j]? = _
    rw [setAll_at v ls _ j (by rw [List.length_set]; exact h)]
    by_cases e : j ∈ ls
    · rw [if_pos e, if_pos (List.mem_cons_of_mem _ e)]
    · rw [if_neg e]
      by_cases d : j = l
      · subst d
        rw [if_pos (List.mem_cons_self ..), List.getElem?_set_self h]
      · rw [if_neg (fun z => by rcases List.mem_cons.mp z with z | z; exact d z; exact e z), List.getElem?_set_ne (Ne.symm d)]
theorem lvls_snoc (n : Nat) (gs : List Gate) (g : Gate) : setAll (lvAt (lvP gs) g + 1) (lvls n gs) (lanesG g) = lvls n (gs ++ [g]) := by
  refine List.ext_getElem? fun j => ?_
  by_cases h : j < n
  · rw [setAll_at _ _ _ _ (by rw [lvls_len]; exact h), lvls_at h, lvls_at h, lvP_snoc, lvl_snoc]
    split <;> rfl
  · rw [List.getElem?_eq_none (by rw [setAll_len, lvls_len]; omega), List.getElem?_eq_none (by rw [lvls_len]; omega)]
theorem setAll_snoc (v : Nat) (L ls : List Nat) (l : Nat) : setAll v L (ls ++ [l]) = (setAll v L ls).set l v := by
  unfold setAll
  rw [List.foldl_append]
  rfl
theorem lvAt_le (gs : List Gate) (g : Gate) : lvAt (lvP gs) g ≤ nl (lvs gs) := by
  unfold lvAt nl lvs
  refine maxL_le fun x hx => ?_
  obtain ⟨p, hp, rfl⟩ := List.mem_map.mp hx
  refine le_maxL ?_
  rw [List.map_map]
  exact List.mem_map.mpr ⟨p, (List.mem_filter.mp hp).1, rfl⟩
theorem lv_le (gs : List Gate) : ∀ x ∈ lvs gs, x < gs.length := by
  have : ∀ i, i ≤ gs.length → ∀ x ∈ lvs (gs.take i), x < i := by
    intro i
    induction i with
    | zero => intro _ x hx; rw [List.take_zero] at hx; cases hx
    | succ i ih =>
      intro hi x hx
      have hl : i < gs.length := by omega
      rw [show gs.take (i + 1) = gs.take i ++ [gs[i]] from by rw [List.take_succ, List.getElem?_eq_getElem hl]; rfl, lvs_snoc] at hx
      rcases List.mem_append.mp hx with hx | hx
      · have := ih (by omega) x hx; omega
      · rw [List.mem_singleton.mp hx]
        have h1 := lvAt_le (gs.take i) gs[i]
        have h2 : nl (lvs (gs.take i)) ≤ i := maxL_le fun y hy => by
          obtain ⟨z, hz, rfl⟩ := List.mem_map.mp hy
          have := ih (by omega) z hz
          omega
        omega
  intro x hx
  have := this gs.length (Nat.le_refl _) x (by rw [List.take_length]; exact hx)
  exact this
theorem nl_le (gs : List Gate) : nl (lvs gs) ≤ gs.length := maxL_le fun y hy => by
  obtain ⟨z, hz, rfl⟩ := List.mem_map.mp hy
  exact lv_le gs z hz
theorem rows_len (ls : List Nat) : (rowsOf ls).length = nl ls := by unfold rowsOf; rw [List.length_map, List.length_range]
theorem row_le {ls : List Nat} {r : List Nat} (h : r ∈ rowsOf ls) : r.length ≤ ls.length := by
  obtain ⟨k, _, rfl⟩ := List.mem_map.mp h
  unfold rowAt
  exact Nat.le_trans (List.length_filter_le ..) (by rw [List.length_range]; exact Nat.le_refl _)
/-- the greatest of some numbers and one before all -/
theorem max_one {ls : List Nat} {m : Int} (h1 : m ∈ (-1 : Int) :: ls.map fun x : Nat => (x : Int)) (h2 : ∀ y ∈ (-1 : Int) :: ls.map fun x : Nat => (x : Int), y ≤ m) : 1 + m = (maxL (ls.map (· + 1)) : Int) := by
  have a : maxL (ls.map (· + 1)) ≤ (1 + m).toNat := maxL_le fun x hx => by
    obtain ⟨z, hz, rfl⟩ := List.mem_map.mp hx
    have := h2 (z : Int) (List.mem_cons_of_mem _ (List.mem_map.mpr ⟨z, hz, rfl⟩))
    omega
  have c : -1 ≤ m := h2 (-1) (List.mem_cons_self ..)
  rcases List.mem_cons.mp h1 with e | e
  · omega
  · obtain ⟨z, hz, e⟩ := List.mem_map.mp e
    have b := le_maxL (xs := ls.map (· + 1)) (List.mem_map.mpr ⟨z, hz, rfl⟩)
    replace b : z + 1 ≤ _ := b
    omega
theorem max_nat {ls : List Nat} {m : Int} (h1 : m ∈ ls.map fun x : Nat => (x : Int)) (h2 : ∀ y ∈ ls.map fun x : Nat => (x : Int), y ≤ m) : m = (maxL ls : Int) := by
  obtain ⟨z, hz, e⟩ := List.mem_map.mp h1
  have a : maxL ls ≤ m.toNat := maxL_le fun x hx => by
    have := h2 (x : Int) (List.mem_map.mpr ⟨x, hx, rfl⟩)
    omega
  have b := le_maxL hz
  omega
theorem max_zero {ls : List Nat} {m : Int} (h1 : m ∈ (0 : Int) :: ls.map fun x : Nat => (x : Int)) (h2 : ∀ y ∈ (0 : Int) :: ls.map fun x : Nat => (x : Int), y ≤ m) : m = (maxL ls : Int) := by
  have := max_nat (ls := 0 :: ls) (m := m) h1 h2
  rw [this]
  rfl
end Mt


set_option Elab.async false
set_option linter.all false
set_option maxRecDepth 100000
set_option maxHeartbeats 2000000
namespace LT
open PySem PySem.Spec PyProof.Rows L2 Dl Mt ClX
section
variable {P : Program} {w : World} {K : PySem.W.Frag} {mg : Str → Option Value} {base : Heap}
abbrev nI (l : Nat) : RV := iI (l : Int)
theorem nI_zN (s : List Nat) : (zN s).map iI = s.map nI := by unfold zN; rw [List.map_map]; rfl
theorem refs_set {S : Sd} {j : Nat} {q : Addr} {Rs R : List RV} (h : S[j]? = some (q, Rs)) : refs (S.set j (q, R)) = refs S := by
  unfold refs
  rw [List.map_set]
  refine List.ext_getElem? fun i => ?_
  by_cases e : i = j
  · subst e
    have := (List.getElem?_eq_some_iff.mp h).1
    rw [List.getElem?_set_self (by rw [List.length_map]; exact this), List.getElem?_map, h]
    rfl
  · rw [List.getElem?_set_ne (Ne.symm e)]
def F_layersB (K : PySem.W.Frag) : FnB (Nat × List Gate) := ⟨["net"], fun z => [iNet K z.1 z.2], fun z => NetOk z.1 z.2, fun z => (rowsOf (lvs z.2)).map fun r => r.map nI⟩
theorem bd_layers (T : Txt K mg) {f : Addr} : BodyB P w K mg base "layers" s_layers f N_layers 2 (F_layersB K) := by
  intro cdv A outer s H E z Bad B L D hr hp hbad hM q hN
  obtain ⟨n, gs⟩ := z
  replace hp : NetOk n gs := hp
  replace q : Post B.G B.H D.rt (.l (((rowsOf (lvs gs)).map fun r => r.map nI).map (rN Bad))) := q
  have few := hp.few
  have n1 := hp.n1
  have n2 := hp.n2
  show Wp _ B L _ D [.val (iNet K n gs), .no, .no, .no, .no, .no, .no]
  have lz : (List.replicate n [iI 0]).flatten = (lvls n []).map nI := by
    rw [lvls_nil, List.map_replicate, List.flatten_replicate_singleton]
    rfl
  refine w_parOOC 1 2 rfl sc_layers.nd (e_lst (Rs := []) a_nil (by show 0 ≤ 100000; decide)) (e_rep (n := n) (e_lst (Rs := [iI 0]) (a1 e_int) (by show 1 ≤ 100000; decide)) (EvR.v (e_prop (h_lanes T) (hr.mono (by decide)) T.cls (n, gs) (e_var 0) rfl trivial)) (by omega) (by show 1 * n ≤ 100000; omega)) ?_
  rw [lz]
  refine WpS.nil ?_
  refine s_forE 3 4 (xs := gs) (c := iG K) sc_layers.nd (EvR.lst (e_meth0 (h_gates T) (hr.mono (by decide)) T.cls (n, gs) (e_var 0) rfl rfl trivial)) (T.f "enumerate") (fun i sl S => ∃ a b c d, sl = [.val (iNet K n gs), .own (refs S), .own ((lvls n (gs.take i)).map nI), a, b, c, d] ∧ S.map (·.2) = (rowsOf (lvs (gs.take i))).map fun r => r.map nI) ⟨_, _, _, _, rfl, rfl⟩ ?_ ?_
  · rintro i g L' sl' S hi ⟨a, b, c, d, rfl, hS⟩
    have hil : i < gs.length := (List.getElem?_eq_some_iff.mp hi).1
    have gok := hp.ok g (List.mem_of_getElem? hi)
    have tk : gs.take (i + 1) = gs.take i ++ [g] := by rw [List.take_succ, hi]; rfl
    have Sl : S.length = nl (lvs (gs.take i)) := by
      have := congrArg List.length hS
      rw [List.length_map, List.length_map, rows_len] at this
      exact this
    have ll : (lvs (gs.take i)).length = i := by rw [lvs_len, List.length_take]; omega
    have nn := nl_le (gs.take i)
    rw [List.length_take] at nn
    generalize hk : lvAt (lvP (gs.take i)) g = k
    have kn : k ≤ nl (lvs (gs.take i)) := by rw [← hk]; exact lvAt_le _ _
    show WpS _ B L' _ _ [.val (iNet K n gs), .own (refs S), .own ((lvls n (gs.take i)).map nI), .val (nI i), .val (iG K g), c, d] S
    refine s_lift1 (fun B L kk => w_set 5 (R := nI k) (e_maxL rfl (ns := (lanesG g).map fun l => ((lvl (lvP (gs.take i)) l : Nat) : Int)) ?mx (T.f "max") ?m0 ?mm) sc_layers.nd kk) ?_
    case m0 =>
      rw [List.length_map]
      exact List.length_pos_iff.mpr (lanesG_ne g)
    case mm =>
      intro m h1 h2
      have e : ((lanesG g).map fun l => ((lvl (lvP (gs.take i)) l : Nat) : Int)) = (((lanesG g).map (lvl (lvP (gs.take i)))).map fun x : Nat => (x : Int)) := by rw [List.map_map]; rfl
      rw [e] at h1 h2
      rw [max_nat h1 h2, ← lvl_max, hk]
    case mx =>
      refine ev_eq (congrArg (rLst K) (show (lanesG g).map (fun l => nI (lvl (lvP (gs.take i)) l)) = _ by rw [List.map_map]; rfl)) (EvR.lst (e_compL 6 (xs := lanesG g) (c := nI) (fun l => nI (lvl (lvP (gs.take i)) l)) sc_layers.nd ?src ?len (fun l hl s H C cl fp => ?el)))
      case src => exact ev_eq (congrArg (rLst K) (nI_zN _)) (EvR.lst (e_call (h_lanes_of T) (hr.mono (by decide)) (n, g) (a1 (e_var 4)) gok))
      case len => unfold lanesG; split <;> simp
      case el =>
        have lt := lanesG_lt gok hl
        exact e_ixO 2 rfl (e_var 6) (atI_nat (by rw [List.getElem?_map, lvls_at lt]; rfl))
    show WpS _ B L' _ _ [.val (iNet K n gs), .own (refs S), .own ((lvls n (gs.take i)).map nI), .val (nI i), .val (iG K g), .val (nI k), d] S
    have main : ∀ S2 : Sd, S2.map (·.2) = ((if k = nl (lvs (gs.take i)) then rowsOf (lvs (gs.take i)) ++ [[]] else rowsOf (lvs (gs.take i))).map fun r => r.map nI) → WpS (cxOf CX0 P w K mg base N_layers "layers" (defScope s_layers) f cdv A outer s H E).nox B L' ((defBody s_layers).tail.head?.elim [] fun st => match st with | .For _ _ body _ _ => body.drop 2 | _ => []) (dturnS D (cxOf CX0 P w K mg base N_layers "layers" (defScope s_layers) f cdv A outer s H E).nox ((defBody s_layers).drop 2) B L' (fun sl S => ∃ a b c d, sl = [.val (iNet K n gs), .own (refs S), .own ((lvls n (gs.take (i + 1))).map nI), a, b, c, d] ∧ S.map (·.2) = (rowsOf (lvs (gs.take (i + 1)))).map fun r => r.map nI)) [.val (iNet K n gs), .own (refs S2), .own ((lvls n (gs.take i)).map nI), .val (nI i), .val (iG K g), .val (nI k), d] S2 := by
      intro S2 h2
      have l2 : k < (if k = nl (lvs (gs.take i)) then rowsOf (lvs (gs.take i)) ++ [[]] else rowsOf (lvs (gs.take i))).length := by
        split
        · rw [List.length_append, rows_len]; show k < _ + 1; omega
        · rw [rows_len]; omega
      have kS : k < S2.length := by
        have := congrArg List.length h2
        rw [List.length_map, List.length_map] at this
        omega
      obtain ⟨⟨p0, Rs0⟩, e0⟩ : ∃ x, S2[k]? = some x := ⟨_, List.getElem?_eq_getElem kS⟩
      have eR : Rs0 = (((if k = nl (lvs (gs.take i)) then rowsOf (lvs (gs.take i)) ++ [[]] else rowsOf (lvs (gs.take i))).getD k []).map nI) := by
        have := congrArg (fun x => x[k]?) h2
        rw [List.getElem?_map, e0, List.getElem?_map, List.getElem?_eq_getElem l2] at this
        rw [List.getD_eq_getElem?_getD, List.getElem?_eq_getElem l2]
        exact Option.some.inj this
      refine s_appAt 1 (j := k) rfl (e_var 5) e0 (R := nI i) (e_var 3) ?hz ?_
      case hz =>
        rw [eR, List.length_map]
        have m : (if k = nl (lvs (gs.take i)) then rowsOf (lvs (gs.take i)) ++ [[]] else rowsOf (lvs (gs.take i))).getD k [] ∈ (if k = nl (lvs (gs.take i)) then rowsOf (lvs (gs.take i)) ++ [[]] else rowsOf (lvs (gs.take i))) := by
          rw [List.getD_eq_getElem?_getD, List.getElem?_eq_getElem l2]
          exact List.getElem_mem l2
        have : ((if k = nl (lvs (gs.take i)) then rowsOf (lvs (gs.take i)) ++ [[]] else rowsOf (lvs (gs.take i))).getD k []).length ≤ i := by
          generalize ((if k = nl (lvs (gs.take i)) then rowsOf (lvs (gs.take i)) ++ [[]] else rowsOf (lvs (gs.take i))).getD k []) = r at m
          split at m
          · rcases List.mem_append.mp m with m | m
            · have := row_le m; omega
            · rw [List.mem_singleton.mp m]; exact Nat.zero_le _
          · have := row_le m; omega
        omega
      refine s_lift (β := Ent) (Pb := fun _ => True) (f := fun x => [.val (iNet K n gs), .own (refs S2), .own ((lvls n (gs.take (i + 1))).map nI), .val (nI i), .val (iG K g), .val (nI k), x]) (fun B L kk => ?_) fun x _ => s_turn ⟨_, _, _, _, by rw [refs_set e0], ?_⟩
      · refine w_forL 6 (xs := lanesG g) (c := nI) sc_layers.nd (ev_eq (congrArg (rLst K) (nI_zN _)) (EvR.lst (e_call (h_lanes_of T) (hr.mono (by decide)) (n, g) (a1 (e_var 4)) gok))) (fun j sl => ∃ x, sl = [.val (iNet K n gs), .own (refs S2), .own ((setAll (k + 1) (lvls n (gs.take i)) ((lanesG g).take j)).map nI), .val (nI i), .val (iG K g), .val (nI k), x]) ⟨_, rfl⟩ ?_ ?_
        · rintro j l L2 sl2 hj ⟨x, rfl⟩
          have lt := lanesG_lt gok (List.mem_of_getElem? hj)
          refine w_store 2 (R := nI (k + 1)) rfl (e_addP (e_var 5) e_int fun x y h1 h2 => by rw [h1, h2]; rfl) (e_var 6) (by rw [List.length_map, setAll_len, lvls_len]; exact lt) (w_turn' ⟨.val (nI l), ?_⟩)
          rw [← List.map_set (f := nI), ← setAll_snoc]
          have : (lanesG g).take (j + 1) = (lanesG g).take j ++ [l] := by rw [List.take_succ, hj]; rfl
          rw [this]
          rfl
        · rintro sl2 ⟨x, rfl⟩
          rw [List.take_length, ← hk, lvls_snoc, hk, ← tk]
          exact kk x trivial
      · rw [List.map_set, h2, tk, lvs_snoc, hk, rows_snoc kn, ll, List.map_set, eR, List.map_append]
        rfl
    refine s_if (P := fun z => z = decide (k = S.length)) (t_eqI (e_var 5) (Ev.toI (e_lenO 1 rfl (T.f "len")) (by rw [List.length_map])) fun x y h1 h2 => by rw [h1, h2, decide_eq_decide]; omega) (fun h => ?_) (fun h => ?_)
    · have h : k = S.length := of_decide_eq_true h.symm
      refine s_appNew 1 rfl (e_lst (Rs := []) a_nil (by show 0 ≤ 100000; decide)) (by omega) fun p0 => s_end ?_
      refine main (S ++ [(p0, [])]) ?_
      rw [if_pos (by omega), List.map_append, List.map_append, hS]
      rfl
    · have h : k ≠ S.length := of_decide_eq_false h.symm
      refine s_end (main S ?_)
      rw [if_neg (by omega), hS]
  · rintro sl' S ⟨a, b, c, d, rfl, hS⟩
    rw [List.take_length] at hS
    refine s_retRows 1 hbad rfl hM ?_
    rw [hS]
    exact q
end
end LT


set_option Elab.async false
set_option linter.all false
set_option maxRecDepth 100000
set_option maxHeartbeats 2000000
namespace LT
open PySem PySem.Spec PyProof.Rows L2 Dl Mt ClX
theorem hu1 {A : Around} {k : Nat} (hr : Room k A) : A.units + 1 < cLine := by have := hr.un; omega
theorem evr_eq {X : Cx} {sl : List Ent} {e : Expr} {r r' : Res} (h : r = r') (k : EvR X e sl r) : EvR X e sl r' := h ▸ k
theorem nd_len : ∀ (n : Nat) {s : List Nat}, s.Nodup → (∀ l ∈ s, l < n) → s.length ≤ n
  | 0, s, _, h => by
    cases s with
    | nil => exact Nat.le_refl _
    | cons x s => exact absurd (h x (List.mem_cons_self ..)) (Nat.not_lt_zero _)
  | n + 1, s, nd, h => by
    have a := nd_len n (s := s.erase n) (nd.erase n) fun l hl => by
      have h1 := h l (List.mem_of_mem_erase hl)
      have h2 : l ≠ n := fun e => by rw [e] at hl; exact (nd.mem_erase_iff.mp hl).1 rfl
      omega
    have b : s.length ≤ (s.erase n).length + 1 := by rw [List.length_erase]; split <;> omega
    omega
section
variable {X : Cx} {B : Base} {L : Hp} {sl : List Ent} {D : Ends} {pos : Pos} {rest : List Stmt}
/-- if c: the own dict is changed -/
theorem w_ifK (i : Nat) {c : Expr} {u : List Stmt} {s s' : List Nat} {p : Prop} [Decidable p] (ei : sl[i]? = some (.mu (oK s))) (h : EvT X c sl (fun z => z = decide p)) (h1 : p → Wp X B L [] (dgo D X rest) (sl.set i (.mu (oK s'))) → Wp X B L u (dgo D X rest) sl) (k : Wp X B L rest D (sl.set i (.mu (oK (if p then s' else s))))) : Wp X B L (.If c u [] pos :: rest) D sl := by
  refine w_if h (fun z => ?_) (fun z => w_end ?_)
  · have hp : p := of_decide_eq_true z.symm
    rw [if_pos hp] at k
    exact h1 hp (w_end k)
  · have hp : ¬ p := of_decide_eq_false z.symm
    rw [if_neg hp] at k
    have e : sl.set i (.mu (oK s)) = sl := by
      apply List.ext_getElem?
      intro j
      by_cases q : j = i
      · rw [q, ei]
        exact List.getElem?_set_self (List.getElem?_eq_some_iff.mp ei).1
      · rw [List.getElem?_set_ne (Ne.symm q)]
    rw [e] at k
    exact k
end
theorem seenAt_if (g : Gate) (s : List Nat) : seenAt g s = if ¬ g.k = .add then put (if g.k = .sort then put (if g.k = .copy then s.erase g.a else s) g.a else (if g.k = .copy then s.erase g.a else s)) g.b.toNat else (if g.k = .sort then put (if g.k = .copy then s.erase g.a else s) g.a else (if g.k = .copy then s.erase g.a else s)) := by
  unfold seenAt
  obtain ⟨k, a, b⟩ := g
  cases k <;> rfl
section
variable {P : Program} {w : World} {K : PySem.W.Frag} {mg : Str → Option Value} {base : Heap}
def F_lb (K : PySem.W.Frag) : FnC (Nat × List Gate × Nat) := ⟨["net", "lane"], fun z => [iNet K z.1 z.2.1, nI z.2.2], fun z => NetOk z.1 z.2.1 ∧ z.2.2 < z.1, fun z => (conP z.2.1 0 [z.2.2]).1.map nI, fun z => (srt (conP z.2.1 0 [z.2.2]).2).map nI⟩
theorem h_lb (T : Txt K mg) : HasC P w K mg base 6 "looked_back" (F_lb K) := by
  refine hasC_df T.d_looked_back sc_looked_back b_looked_back rfl (fun _ => rfl) (k := 5) ?_
  intro f cdv A outer s H E z B L D hr hp hM q
  obtain ⟨n, gs, l⟩ := z
  obtain ⟨ok, hl⟩ := hp
  replace ok : NetOk n gs := ok
  replace hl : l < n := hl
  have n2 := ok.n2
  have few := ok.few
  have hu := hu64 hr
  have sN : ∀ j, (conP (gs.drop j) j [l]).2.Nodup ∧ (∀ x ∈ (conP (gs.drop j) j [l]).2, x < n) := fun j => by
    rw [con_snd]
    exact ⟨con_nodup _ (by simp), con_ok (fun g hg => ok.ok g (List.mem_of_mem_drop hg)) (by simpa using hl)⟩
  have sL : ∀ j, (conP (gs.drop j) j [l]).2.length ≤ 12 := fun j => Nat.le_trans (nd_len n (sN j).1 (sN j).2) n2
  have fL : ∀ j, (conP (gs.drop j) j [l]).1.length ≤ 400 := fun j => by
    have : (pickG (gs.drop j) (conP (gs.drop j) 0 [l]).1).length = (conG (gs.drop j) [l]).1.length := congrArg List.length (con_pick _ _)
    have e : ((conP (gs.drop j) j [l]).1.map fun i => (gs.drop j).getD (i - j) g0).length = (conG (gs.drop j) [l]).1.length := congrArg List.length (con_fst (gs.drop j) j [l]).2
    rw [List.length_map] at e
    rw [e]
    have : ∀ (hs : List Gate) (s : List Nat), (conG hs s).1.length ≤ hs.length := by
      intro hs s
      induction hs with
      | nil => exact Nat.le_refl _
      | cons h hs ih =>
        unfold conG
        split
        · exact Nat.succ_le_succ ih
        · exact Nat.le_succ_of_le ih
    refine Nat.le_trans (this _ _) ?_
    rw [List.length_drop]
    omega
  show Wp _ B L _ D [.val (iNet K n gs), .val (nI l), .no, .no, .no, .no, .no, .no]
  refine w_expr (EvR.v (e_call (h_want_lane T) (hr.mono (by decide)) (n, l) (a2 (EvR.v (e_prop (h_lanes T) (hr.mono (by decide)) T.cls (n, gs) (e_var 0) rfl trivial)) (e_var 1)) hl)) ?_
  refine w_parOM 2 3 rfl sc_looked_back.nd (e_lst (Rs := []) a_nil (by show 0 ≤ 100000; decide)) (e_dlit (l := l) (e_var 1) e_bl) ?_
  refine w_forDown (m := gs.length) 4 sc_looked_back.nd (e_subP (C := fun z => z = (gs.length : Int) - 1) (e_lenC (n := (gs.length : Int)) (h_Nlen T) (hr.mono (by decide)) (n, gs) (e_var 0) rfl trivial rfl (by omega) (by omega) (T.f "len")) e_int fun x y h1 h2 => by rw [h1, h2]) e_m1 e_m1 (by omega) (T.f "range") (fun i sl => ∃ a b c d, sl = [.val (iNet K n gs), .val (nI l), .own ((conP (gs.drop (gs.length - i)) (gs.length - i) [l]).1.reverse.map nI), .mu (oK (conP (gs.drop (gs.length - i)) (gs.length - i) [l]).2), a, b, c, d]) ?h0 ?_ ?_
  case h0 =>
    refine ⟨.no, .no, .no, .no, ?_⟩
    rw [Nat.sub_zero, List.drop_length]
    rfl
  · rintro i L' sl' hi ⟨a, b, c, d, rfl⟩
    generalize hp1 : gs.length - 1 - i = p
    have hp2 : gs.length - i = p + 1 := by omega
    have hp3 : gs.length - (i + 1) = p := by omega
    have hpl : p < gs.length := by omega
    obtain ⟨g, hg⟩ : ∃ g, gs[p]? = some g := ⟨_, List.getElem?_eq_getElem hpl⟩
    have gok := ok.ok g (List.mem_of_getElem? hg)
    have dr : gs.drop p = g :: gs.drop (p + 1) := by
      rw [List.drop_eq_getElem_cons hpl]
      congr 1
      exact Option.some.inj ((List.getElem?_eq_getElem hpl).symm.trans hg)
    rw [hp2, hp3]
    have c1 : conP (gs.drop p) p [l] = if hit g (conP (gs.drop (p + 1)) (p + 1) [l]).2 then (p :: (conP (gs.drop (p + 1)) (p + 1) [l]).1, seenAt g (conP (gs.drop (p + 1)) (p + 1) [l]).2) else conP (gs.drop (p + 1)) (p + 1) [l] := by
      rw [dr]
      rfl
    have sN1 := (sN (p + 1)).1
    have sl1 := sL (p + 1)
    have fl1 := fL (p + 1)
    rw [c1]
    generalize (conP (gs.drop (p + 1)) (p + 1) [l]) = cc at *
    obtain ⟨fo, se⟩ := cc
    replace sN1 : se.Nodup := sN1
    replace sl1 : se.length ≤ 12 := sl1
    replace fl1 : fo.length ≤ 400 := fl1
    show Wp _ B L' _ _ [.val (iNet K n gs), .val (nI l), .own (fo.reverse.map nI), .mu (oK se), .val (nI p), b, c, d]
    refine w_un3 5 6 7 rfl sc_looked_back.nd (R1 := iS g.k.wd) (R2 := nI g.a) (R3 := iI g.b) (EvR.v (e_subC (h_Nget T) (h_gi T) hr (n, gs, p, g) (e_var 0) (e_var 4) rfl hg)) ?_
    show Wp _ B L' _ _ [.val (iNet K n gs), .val (nI l), .own (fo.reverse.map nI), .mu (oK se), .val (nI p), .val (iS g.k.wd), .val (nI g.a), .val (iI g.b)]
    refine w_if (P := fun z => z = hit g se) (EvT.imp (EvW.t (t_or (t_inK (l := g.a) 3 (hu1 hr) rfl (e_var 6)) fun _ => t_or1 (EvW.t (t_and (t_wd (l := .sort) (e_var 5) (e_word T.sort)) fun h => t_and1 (t_inK (l := g.b.toNat) 3 (hu1 hr) rfl (Ev.toI (e_var 7) ?tn)))))) ?imp) (fun h => ?_) (fun h => ?_)
    case tn =>
      have e : g.k = .sort := of_decide_eq_true h.symm
      exact (Int.toNat_of_nonneg (gok.b (by rw [e]; exact fun z => nomatch z)).1).symm
    case imp =>
      unfold hit
      rintro z (⟨h1, ⟨h2, h3⟩ | ⟨h2, h3⟩⟩ | ⟨h1, h2⟩)
      · rw [← h1, ← h2, h3]; rfl
      · rw [← h1, ← h2, h3]; rfl
      · rw [← h1, h2]; rfl
    · rw [← h, if_pos rfl]
      show Wp _ B L' _ _ [.val (iNet K n gs), .val (nI l), .own (fo.reverse.map nI), .mu (oK se), .val (nI p), .val (iS g.k.wd), .val (nI g.a), .val (iI g.b)]
      refine w_append 2 (R := nI p) rfl (e_var 4) (by rw [List.length_map, List.length_reverse]; omega) ?_
      refine w_ifK 3 (s' := se.erase g.a) rfl (t_wd (l := .copy) (e_var 5) (e_word T.copy)) (fun e kk => w_popK 3 (l := g.a) rfl sN1 (e_var 6) ?cg kk ⟨rfl, rfl, rfl, rfl⟩) ?_
      case cg =>
        unfold hit at h
        rw [e] at h
        simpa using h.symm
      refine w_ifK 3 (s' := put (if g.k = .copy then se.erase g.a else se) g.a) rfl (t_wd (l := .sort) (e_var 5) (e_word T.sort)) (fun e kk => w_putK 3 (l := g.a) rfl (hu1 hr) e_bl (e_var 6) ?ln kk) ?_
      case ln =>
        have : (se.erase g.a).length ≤ se.length := List.length_erase_le ..
        split <;> omega
      refine w_ifK 3 (p := ¬ g.k = .add) (s' := put (if g.k = .sort then put (if g.k = .copy then se.erase g.a else se) g.a else (if g.k = .copy then se.erase g.a else se)) g.b.toNat) rfl (EvT.imp (t_wdN (l := .add) (e_var 5) (e_word T.add)) fun z h => by rw [h]; simp) (fun e kk => w_putK 3 (l := g.b.toNat) rfl (hu1 hr) e_bl (Ev.toI (e_var 7) (Int.toNat_of_nonneg (gok.b e).1).symm) ?ln2 kk) ?_
      case ln2 =>
        have h0 : (se.erase g.a).length ≤ se.length := List.length_erase_le ..
        have h1 : ∀ s : List Nat, (put s g.a).length ≤ s.length + 1 := fun s => by
          unfold put
          split
          · omega
          · rw [List.length_append]; exact Nat.le_refl _
        have h2 := h1 (if g.k = .copy then se.erase g.a else se)
        have h3 : (if g.k = .copy then se.erase g.a else se).length ≤ 12 := by split <;> omega
        split <;> omega
      refine w_end (w_turn' ⟨.val (nI p), .val (iS g.k.wd), .val (nI g.a), .val (iI g.b), ?_⟩)
      rw [← seenAt_if, List.reverse_cons, List.map_append]
      rfl
    · rw [← h]
      exact w_end (w_turn' ⟨_, _, _, _, rfl⟩)
  · rintro sl' ⟨a, b, c, d, rfl⟩
    rw [Nat.sub_self, List.drop_zero]
    refine w_retC (e_lendL 2 rfl (nol_map fun _ => nol_int) ?rv) (e_sortedK 3 rfl ?s64 (T.f "sorted")) hM q
    case rv =>
      refine evr_eq (congrArg Res.l ?_) (e_revL (Rs := (conP gs 0 [l]).1.reverse.map nI) (Ev.imp (e_var 2) rN_le))
      rw [← List.map_reverse, List.reverse_reverse]
    case s64 =>
      have := sL 0
      rw [List.drop_zero] at this
      omega
end
end LT


set_option Elab.async false
set_option linter.all false
set_option maxRecDepth 100000
set_option maxHeartbeats 2000000
namespace LT
open PySem PySem.Spec PyProof.Rows L2 Dl Mt ClX
section
variable {X : Cx} {sl : List Ent} {a b : Expr} {p pos : Pos} {n : Nat} {gs : List Gate} {tb : Bool}
theorem i_net (T : Txt X.K X.mg) (hr : Room 7 X.A) (ok : NetOk n gs) (h1 : Ev X a sl (iI (n : Int))) (h2 : Ev X b sl (rSG X.K tb gs)) (hg : Gl X "Net" := by rfl) (e2 : starEach [a, b] X.env = (false, eval a X.env) :: starEach [b] X.env := by rfl) (e3 : starEach [b] X.env = [(false, eval b X.env)] := by rfl) :
    Ev X (.Call (.Name "Net" p) [a, b] [] pos) sl (iNet X.K n gs) :=
  e_make (fs := fsN X.K) (h_Net T) hr T.net (n, tb, gs) (a2 h1 h2 e2 e3) rfl rfl ok hg (by decide) e2 (by rw [e3]; rfl)
theorem i_ne (T : Txt X.K X.mg) (hr : Room 2 X.A) (ha : Ev X a sl (iNet X.K n gs)) (hb : Ev X b sl (iNet X.K n gs)) : EvT X (.Compare a [.NotEq] [b] pos) sl isF :=
  t_neC (h_eqNet T) T.mro T.nem hr (n, gs) trivial ha hb
theorem nol_G {K : PySem.W.Frag} (g : Gate) : (iG K g).NoL := nol_tup (nol_cons nol_str (nol_cons nol_int (nol_cons nol_int nol_nil)))
theorem nol_net {K : PySem.W.Frag} {n : Nat} {gs : List Gate} : (iNet K n gs).NoL := nol_ins (fun f hf => by
  rcases List.mem_cons.mp hf with rfl | hf
  · exact nol_int
  · rw [List.mem_singleton.mp hf]
    exact nol_tup (nol_map fun g => nol_G g))
/-- net.lanes, net[..] -/
theorem i_lanes (T : Txt X.K X.mg) (hr : Room 2 X.A) (h : Ev X a sl (iNet X.K n gs)) (hab : attributeBase a "lanes" X.env (eval a X.env) = eval a X.env := by rfl) : Ev X (.Attribute a "lanes" pos) sl (nI n) := EvR.v (e_prop (h_lanes T) hr T.cls (n, gs) h rfl trivial hab)
theorem i_get (T : Txt X.K X.mg) (hr : Room 5 X.A) {j : Nat} {g : Gate} (hj : gs[j]? = some g) (h : Ev X a sl (iNet X.K n gs)) (h' : Ev X b sl (nI j)) (hsl : ∀ (x : Addr) (i : Value), subscripted b true (.ref x) i = runValue (.builtin "lifetime.subscript" ⟨[.ref x, i], []⟩) := by intro _ _; with_unfolding_all rfl) : Ev X (.Subscript a b pos) sl (iG X.K g) := EvR.v (e_subC (h_Nget T) (h_gi T) hr (n, gs, j, g) h h' rfl hj hsl)
end
section
variable {P : Program} {w : World} {K : PySem.W.Frag} {mg : Str → Option Value} {base : Heap}
theorem hB_layers (T : Txt K mg) : HasB P w K mg base 3 "layers" (F_layersB K) := hasB_df T.d_layers sc_layers b_layers rfl (fun _ => rfl) fun _ => bd_layers T
abbrev F_layers (K : PySem.W.Frag) : Fn (Nat × List Gate) := (F_layersB K).fn K
theorem w_layers (T : Txt K mg) : HasW P w K mg base 3 "layers" ["net"] (F_layers K) := hasW_df T.d_layers sc_layers b_layers kb_layers rfl (fun _ => rfl) fun _ => (bd_layers T).fn
theorem h_layers (T : Txt K mg) : Has P w K mg base 3 "layers" (F_layers K) := (w_layers T).has
theorem NetOk.pick {n : Nat} {gs : List Gate} {o : List Nat} (a : NetOk n gs) (h : o.length ≤ 400) (hl : ∀ i ∈ o, i < gs.length) : NetOk n (pickG gs o) := ⟨a.n1, a.n2, by unfold pickG; rw [List.length_map]; exact h, fun g hg => by
  obtain ⟨i, hi, rfl⟩ := List.mem_map.mp hg
  exact a.ok _ (List.mem_of_getElem? (get_of (hl i hi)))⟩
theorem NetOk.lay {n : Nat} {gs : List Gate} {o : List Nat} (a : NetOk n gs) (h : Lay gs o) : NetOk n (pickG gs o) := a.pick (by rw [h.len]; exact a.few) fun i hi => h.lt hi
def F_by (K : PySem.W.Frag) : Fn (Nat × List Gate) := ⟨["net"], fun z => [iNet K z.1 z.2], fun z => NetOk z.1 z.2, fun z => .v (iNet K z.1 (pickG z.2 (rowsOf (lvs z.2)).flatten))⟩
theorem w_by (T : Txt K mg) : HasW P w K mg base 8 "by_layers" ["net"] (F_by K) := by
  refine hasW_df T.d_by_layers sc_by_layers b_by_layers kb_by_layers rfl (fun _ => rfl) (k := 7) ?_
  intro f cdv A outer s H E z B L D hr hp hM q hN
  obtain ⟨n, gs⟩ := z
  replace hp : NetOk n gs := hp
  have few := hp.few
  have lay := lay_rows gs
  have okM := hp.lay lay
  have fl : (rowsOf (lvs gs)).flatten.length = gs.length := lay.len
  show Wp _ B L _ D [.val (iNet K n gs), .no, .no, .no]
  refine w_setOwn 1 (e_lst (Rs := []) a_nil (by show 0 ≤ 100000; decide)) sc_by_layers.nd ?_
  refine w_forL 2 (xs := rowsOf (lvs gs)) (c := fun r => rLst K (r.map nI)) sc_by_layers.nd ?src (fun i sl => ∃ x, sl = [.val (iNet K n gs), .own ((pickG gs ((rowsOf (lvs gs)).take i).flatten).map (iG K)), x, .no]) ⟨_, rfl⟩ ?_ ?_
  case src =>
    exact ev_eq (R := rLst K (((rowsOf (lvs gs)).map fun r => r.map nI).map (rLst K))) (congrArg (rLst K) (by rw [List.map_map]; rfl)) (EvR.lst (e_call (h_layers T) (hr.mono (by decide)) (n, gs) (a1 (e_var 0)) hp))
  · rintro i r L' sl' hi ⟨x, rfl⟩
    have hr1 : r ∈ rowsOf (lvs gs) := List.mem_of_getElem? hi
    have rl : r.length ≤ 400 := by have := row_le hr1; rw [lvs_len] at this; omega
    have rm : ∀ j ∈ r, j < gs.length := fun j hj => by have := rows_mem hr1 hj; rw [lvs_len] at this; exact this
    have tk : (rowsOf (lvs gs)).take (i + 1) = (rowsOf (lvs gs)).take i ++ [r] := by rw [List.take_succ, hi]; rfl
    have tl : ((rowsOf (lvs gs)).take i).flatten.length ≤ 400 := by
      have : ((rowsOf (lvs gs)).take i).flatten.length + ((rowsOf (lvs gs)).drop i).flatten.length = (rowsOf (lvs gs)).flatten.length := by rw [← List.length_append, ← List.flatten_append, List.take_append_drop]
      omega
    refine w_extend 1 (Rs' := r.map fun j => iG K (gs.getD j g0)) rfl (e_compL 3 (xs := r) (c := nI) (fun j => iG K (gs.getD j g0)) sc_by_layers.nd (e_var 2) (by omega) fun j hj s H C cl fp => i_get T (hr.mono (by decide)) (get_of (rm j hj)) (e_var 0) (e_var 3)) (by unfold pickG; rw [List.length_map, List.length_map, List.length_map]; omega) (w_turn' ⟨.val (rLst K (r.map nI)), ?_⟩)
    rw [tk, List.flatten_append]
    unfold pickG
    rw [List.map_append, List.map_append]
    have e : ([r] : List (List Nat)).flatten = r := by simp
    rw [e, List.map_map (l := r)]
    rfl
  · rintro sl' ⟨x, rfl⟩
    rw [List.take_length]
    refine w_ret (r := .v (iNet K n (pickG gs (rowsOf (lvs gs)).flatten))) (Ev.r (e_lend 1 rfl nol_net (i_net (tb := false) T hr okM (i_lanes T (hr.mono (by decide)) (e_var 0)) (Ev.imp (e_var 1) rN_le)))) hM q
theorem h_by (T : Txt K mg) : Has P w K mg base 8 "by_layers" (F_by K) := (w_by T).has
def F_cone (K : PySem.W.Frag) : Fn (Nat × List Gate × Nat) := ⟨["net", "lane"], fun z => [iNet K z.1 z.2.1, nI z.2.2], fun z => NetOk z.1 z.2.1 ∧ z.2.2 < z.1, fun z => .l ((conP z.2.1 0 [z.2.2]).1.map nI)⟩
theorem w_cone (T : Txt K mg) : HasW P w K mg base 7 "cone" ["lane", "net"] (F_cone K) := by
  refine hasW_df T.d_cone sc_cone b_cone kb_cone rfl (fun _ => rfl) (k := 6) ?_
  intro f cdv A outer s H E z B L D hr hp hM q hN
  exact w_ret (r := .l ((conP z.2.1 0 [z.2.2]).1.map nI)) (e_at0 (c_call (h_lb T) hr z (a2 (e_var 0) (e_var 1)) hp) e_int) hM q
theorem h_cone (T : Txt K mg) : Has P w K mg base 7 "cone" (F_cone K) := (w_cone T).has
def F_looked (K : PySem.W.Frag) : Fn (Nat × List Gate × Nat) := ⟨["net", "lane"], fun z => [iNet K z.1 z.2.1, nI z.2.2], fun z => NetOk z.1 z.2.1 ∧ z.2.2 < z.1, fun z => .l ((srt (conP z.2.1 0 [z.2.2]).2).map nI)⟩
theorem w_looked (T : Txt K mg) : HasW P w K mg base 7 "looked_at" ["lane", "net"] (F_looked K) := by
  refine hasW_df T.d_looked_at sc_looked_at b_looked_at kb_looked_at rfl (fun _ => rfl) (k := 6) ?_
  intro f cdv A outer s H E z B L D hr hp hM q hN
  exact w_ret (r := .l ((srt (conP z.2.1 0 [z.2.2]).2).map nI)) (e_at1 (c_call (h_lb T) hr z (a2 (e_var 0) (e_var 1)) hp) e_int) hM q
theorem h_looked (T : Txt K mg) : Has P w K mg base 7 "looked_at" (F_looked K) := (w_looked T).has
theorem con_len (gs : List Gate) (s : List Nat) : (conP gs 0 s).1.length ≤ gs.length := by
  have e := congrArg List.length (con_pick gs s)
  unfold pickG at e
  rw [List.length_map] at e
  rw [e]
  induction gs with
  | nil => exact Nat.le_refl _
  | cons h hs ih =>
    have ih := ih (by rw [← con_pick]; unfold pickG; rw [List.length_map])
    unfold conG
    split
    · exact Nat.succ_le_succ ih
    · exact Nat.le_succ_of_le ih
theorem NetOk.con {n : Nat} {gs : List Gate} (a : NetOk n gs) (s : List Nat) : NetOk n (conG gs s).1 := by
  rw [← con_pick]
  exact a.pick (Nat.le_trans (con_len gs s) a.few) fun i hi => con_lt hi
def F_cnet (K : PySem.W.Frag) : Fn (Nat × List Gate × Nat) := ⟨["net", "lane"], fun z => [iNet K z.1 z.2.1, nI z.2.2], fun z => NetOk z.1 z.2.1 ∧ z.2.2 < z.1, fun z => .v (iNet K z.1 (conG z.2.1 [z.2.2]).1)⟩
theorem w_cnet (T : Txt K mg) : HasW P w K mg base 8 "cone_net" ["lane", "net"] (F_cnet K) := by
  refine hasW_df T.d_cone_net sc_cone_net b_cone_net kb_cone_net rfl (fun _ => rfl) (k := 7) ?_
  intro f cdv A outer s H E z B L D hr hp hM q hN
  obtain ⟨n, gs, l⟩ := z
  obtain ⟨ok, hl⟩ := hp
  replace ok : NetOk n gs := ok
  replace hl : l < n := hl
  have few := ok.few
  have cl := con_len gs [l]
  show Wp _ B L _ D [.val (iNet K n gs), .val (nI l), .no]
  refine w_ret (r := .v (iNet K n (conG gs [l]).1)) (Ev.r (i_net (tb := false) T hr (ok.con [l]) (i_lanes T (hr.mono (by decide)) (e_var 0)) ?_)) hM q
  refine ev_eq (congrArg (rLst K) ?_) (EvR.lst (e_compL 2 (xs := (conP gs 0 [l]).1) (c := nI) (fun j => iG K (gs.getD j g0)) sc_cone_net.nd (EvR.lst (e_call (h_cone T) hr (n, gs, l) (a2 (e_var 0) (e_var 1)) ⟨ok, hl⟩)) (by omega) fun j hj s H C cl fp => i_get T (hr.mono (by decide)) (get_of (con_lt hj)) (e_var 0) (e_var 2)))
  rw [← con_pick]
  unfold pickG
  rw [List.map_map]
  rfl
theorem h_cnet (T : Txt K mg) : Has P w K mg base 8 "cone_net" (F_cnet K) := (w_cnet T).has
end
end LT


set_option Elab.async false
set_option linter.all false
set_option maxRecDepth 100000
set_option maxHeartbeats 2000000
namespace Dl
open PySem PySem.Spec PyProof.Rows L2 ClX
section
variable {X : Cx} {B : Base} {L : Hp} {sl : List Ent} {D : Ends} {pos : Pos} {rest : List Stmt}
/-- for i, y in enumerate(a list), the names held in cells or not -/
theorem w_forEC {α : Type} [Inhabited α] {it : Expr} {xs : List α} {c : α → RV} {y y2 : Str} {p1 p2 py py2 pt : Pos} {kt : Nat} {body : List Stmt} (j1 j2 : Nat) (hN : X.N.Nodup) (src : Ev X it sl (rLst X.K (xs.map c))) (hm : X.mg "enumerate" = none) (J : Nat → List Ent → Prop) (h0 : J 0 sl)
    (turn : ∀ (i : Nat) x L' sl', xs[i]? = some x → J i sl' → Wp X B L' body (dturn D X rest B L' (J (i + 1))) ((sl'.set j1 (.val (iI (i : Int)))).set j2 (.val (c x)))) (done : ∀ sl', J xs.length sl' → Wp X B L rest D sl')
    (hp : PassesOwn (model X.prog X.w) X.A X.env X.xe := by exact PassesOwn.never) (hc : X.calm = true := by rfl) (hg : Gl X "enumerate" := by rfl) (he : starEach [it] X.env = [(false, eval it X.env)] := by rfl) (hj : X.N[j1]? = some y := by rfl) (hj2 : X.N[j2]? = some y2 := by rfl) (hl : Loc X.env.scope y := by first | exact Or.inl rfl | exact Or.inr rfl) (hl2 : Loc X.env.scope y2 := by first | exact Or.inl rfl | exact Or.inr rfl) (hfn : X.fn y = true ∨ X.env.scope.names.lookup y = some .local := by first | exact .inl rfl | exact .inr rfl) (hfn2 : X.fn y2 = true ∨ X.env.scope.names.lookup y2 = some .local := by first | exact .inl rfl | exact .inr rfl)
    (ha : (assignEach [Expr.Name y py, Expr.Name y2 py2] X.env).map (·.2) = assign (.Name y py) X.env :: (assignEach [Expr.Name y2 py2] X.env).map (·.2) := by rfl)
    (hf : ∀ x, foldedSetIterable (.Call (.Name "enumerate" p1) [it] [] p2) X.env x = pure x := by intro _; rfl) : Wp X B L (.For (.Tuple [.Name y py, .Name y2 py2] kt pt) (.Call (.Name "enumerate" p1) [it] [] p2) body [] pos :: rest) D sl :=
  w_for hc hp (pi_enum hg hm pcanA he) (pg_tup hc (pgs_cons (pg_name (i := j1) hN hj hl hfn) (pgs_cons (pg_name (i := j2) hN hj2 hl2 hfn2) pgs_nil) ha)) (src_E (j1 := j1) (j2 := j2) src he) J h0 (fun i L' sl' hi hj => turn i _ L' sl' (getD_get hi) hj) done hf
end
end Dl


set_option Elab.async false
set_option linter.all false
set_option maxRecDepth 100000
set_option maxHeartbeats 2000000
namespace LT
open PySem PySem.Spec PyProof.Rows L2 Dl Mt ClX
theorem evr_x {X : Cx} {sl : List Ent} {e : Expr} {α : Type} {P : α → Prop} {f : α → Res} {r : Res} (h : EvR X e sl (.x P f)) (hx : ∀ x, P x → f x = r) : EvR X e sl r := fun pins s σ G H Q I a k => h pins s σ G H Q I a fun x px => (hx x px).symm ▸ k
theorem lvs_take_at {gs : List Gate} {i j : Nat} (hi : i ≤ gs.length) (h : j < i) : (lvs (gs.take i))[j]? = some (lv gs j) := by
  unfold lvs lv
  rw [lvP_take gs i hi, List.map_take, List.getElem?_take, if_pos h]
  show (lvs gs)[j]? = some ((lvs gs).getD j 0)
  rw [List.getD_eq_getElem?_getD, List.getElem?_eq_getElem (by rw [lvs_len]; omega)]
  rfl
section
variable {P : Program} {w : World} {K : PySem.W.Frag} {mg : Str → Option Value} {base : Heap}
abbrev rRow (K : PySem.W.Frag) (r : List Nat) : RV := rLst K (r.map nI)
abbrev rRows (K : PySem.W.Frag) (rs : List (List Nat)) : RV := rLst K (rs.map (rRow K))
def F_Llayers (K : PySem.W.Frag) : Fn (Nat × List Gate) := ⟨["_law_gates_here"], fun z => [rLst K (z.2.map (iG K))], fun z => z.2.length ≤ 400 ∧ ∀ g ∈ z.2, g.Ok z.1, fun z => .l ((rowsOf (lvs z.2)).map (rRow K))⟩
theorem h_Llayers (T : Txt K mg) : Has P w K mg base 3 "_law_layers" (F_Llayers K) := by
  refine has_df T.d_Llayers sc_Llayers b_Llayers rfl (fun _ => rfl) (k := 2) ?_
  intro f cdv A outer s H E z B L D hr hp hM q hN
  obtain ⟨n, gs⟩ := z
  obtain ⟨few, ok⟩ := hp
  replace few : gs.length ≤ 400 := few
  replace ok : ∀ g ∈ gs, g.Ok n := ok
  have getOk : ∀ j, j < gs.length → (gs.getD j g0).Ok n := fun j hj => ok _ (List.mem_of_getElem? (get_of hj))
  show Wp _ B L _ D [.val (rLst K (gs.map (iG K))), .no, .no, .no, .no, .no, .no, .no]
  refine w_parOOC 1 2 rfl sc_Llayers.nd (e_lst (Rs := []) a_nil (by show 0 ≤ 100000; decide)) (e_lst (Rs := []) a_nil (by show 0 ≤ 100000; decide)) ?_
  refine w_forEC 3 4 (xs := gs) (c := iG K) sc_Llayers.nd (e_var 0) (T.f "enumerate") (fun i sl => ∃ a b c, sl = [.val (rLst K (gs.map (iG K))), .own ((lvs (gs.take i)).map nI), .own [], a, b, c, .no, .no]) ⟨_, _, _, rfl⟩ ?_ ?_
  · rintro i g L' sl' hi ⟨a, b, c, rfl⟩
    have hil : i < gs.length := (List.getElem?_eq_some_iff.mp hi).1
    have gok := ok g (List.mem_of_getElem? hi)
    show Wp _ B L' _ _ [.val (rLst K (gs.map (iG K))), .own ((lvs (gs.take i)).map nI), .own [], .val (nI i), .val (iG K g), c, .no, .no]
    refine w_setCompRT (m := i) 5 7 (fun j => nI (lv gs j)) (fun j => touch g (gs.getD j g0)) sc_Llayers.nd (e_var 3) (by omega) (T.f "range") (fun j hj s H C cl fp => ?ts) (fun j hj _ s H C cl fp => ?el) ?_
    case ts => exact t_val (EvR.v (e_call (h_touch T) hr (n, g, gs.getD j g0) (a2 (e_var 4) (e_ixL (e_var 0) (e_var 7) (atI_gate (get_of (by omega))))) ⟨gok, getOk j (by omega)⟩))
    case el => exact e_ixO 1 rfl (e_var 7) (atI_nat (by rw [List.getElem?_map, lvs_take_at (by omega) hj]; rfl))
    refine w_append 1 (R := nI (lv gs i)) rfl (e_lend 5 rfl nol_int (e_addP (C := fun z => z = (lv gs i : Int)) (A := fun z => z = 1) (B := fun m => 1 + m = (lv gs i : Int)) e_int (e_maxL rfl (ns := (-1 : Int) :: (((List.range i).filter fun j => touch g (gs.getD j g0)).map (lv gs)).map fun x : Nat => (x : Int)) ?mx (T.f "max") (by show 0 < _ + 1; omega) ?mm) fun x y h1 h2 => by rw [h1]; exact h2)) ?ln ?_
    case ln =>
      rw [List.length_map, lvs_len, List.length_take]
      omega
    case mm =>
      intro m h1 h2
      rw [max_one h1 h2, lv_max hi, List.map_map]
      rfl
    case mx =>
      refine ev_eq (congrArg (rLst K) ?_) (EvR.lst (e_catL (EvR.lst (e_lst (Rs := [iI (-1)]) (a1 e_m1) (by show 1 ≤ 100000; decide))) (Ev.imp (e_var 5) rN_le) ?_))
      · show iI (-1) :: _ = iI (-1) :: _
        rw [List.map_map, List.map_map]
        rfl
      · rw [List.length_map]
        have := List.length_filter_le (fun j => touch g (gs.getD j g0)) (List.range i)
        rw [List.length_range] at this
        show 1 + _ ≤ 100000
        omega
    refine w_turn' ⟨.val (nI i), .val (iG K g), .own (((List.range i).filter fun j => touch g (gs.getD j g0)).map fun j => nI (lv gs j)), ?_⟩
    rw [show gs.take (i + 1) = gs.take i ++ [g] by rw [List.take_succ, hi]; rfl, lvs_snoc, ← lv_eq hi, List.map_append]
    rfl
  · rintro sl' ⟨a, b, c, rfl⟩
    rw [List.take_length]
    have nn := nl_le gs
    refine w_forR 6 (m := (nl (lvs gs) : Int)) sc_Llayers.nd (e_lend 1 rfl nol_int (e_addP (C := fun z => z = (nl (lvs gs) : Int)) (B := fun z => z = 1) (A := fun m => 1 + m = (nl (lvs gs) : Int)) (e_maxL rfl (ns := (-1 : Int) :: (lvs gs).map fun x : Nat => (x : Int)) ?mx (T.f "max") (by show 0 < _ + 1; omega) ?mm) e_int fun x y h1 h2 => by rw [h2, Int.add_comm]; exact h1)) (by omega) (by omega) (T.f "range") (fun k sl => ∃ x, sl = [.val (rLst K (gs.map (iG K))), .own ((lvs gs).map nI), .own (((rowsOf (lvs gs)).take k).map (rRow K)), a, b, c, x, .no]) ⟨_, rfl⟩ ?_ ?_
    case mm =>
      intro m h1 h2
      exact max_one h1 h2
    case mx =>
      refine ev_eq (congrArg (rLst K) ?_) (EvR.lst (e_catL (EvR.lst (e_lst (Rs := [iI (-1)]) (a1 e_m1) (by show 1 ≤ 100000; decide))) (Ev.imp (e_var 1) rN_le) ?_))
      · show iI (-1) :: _ = iI (-1) :: _
        rw [List.map_map]
        rfl
      · rw [List.length_map, lvs_len]
        show 1 + _ ≤ 100000
        omega
    · rintro k L' sl' hk ⟨x, rfl⟩
      have hk : k < nl (lvs gs) := by omega
      show Wp _ B L' _ _ [.val (rLst K (gs.map (iG K))), .own ((lvs gs).map nI), .own (((rowsOf (lvs gs)).take k).map (rRow K)), a, b, c, .val (nI k), .no]
      refine w_append 2 (R := rRow K (rowAt (lvs gs) k)) rfl (ev_eq (congrArg (rLst K) ?rw) (EvR.lst (e_compRT (m := gs.length) 3 nI (fun j => decide ((lvs gs).getD j 0 = k)) sc_Llayers.nd (Ev.toI (e_lenL (e_var 0) (T.f "len")) (by rw [List.length_map])) (by omega) (T.f "range") (fun j hj s H C cl fp => ?ts) (fun j hj _ s H C cl fp => e_var 3)))) ?ln ?_
      case rw => unfold rowAt; rw [lvs_len]
      case ts =>
        refine t_eqI (P := fun z => z = decide ((lvs gs).getD j 0 = k)) (e_ixO 1 (R := nI ((lvs gs).getD j 0)) rfl (e_var 3) (atI_nat ?_)) (e_var 6) fun x y h1 h2 => by rw [h1, h2, decide_eq_decide]; omega
        rw [List.getElem?_map, List.getD_eq_getElem?_getD, List.getElem?_eq_getElem (by rw [lvs_len]; exact hj)]
        rfl
      case ln => rw [List.length_map, List.length_take, rows_len]; omega
      refine w_turn' ⟨.val (nI k), ?_⟩
      have : (rowsOf (lvs gs)).take (k + 1) = (rowsOf (lvs gs)).take k ++ [rowAt (lvs gs) k] := by
        rw [List.take_succ]
        unfold rowsOf
        rw [List.getElem?_map, List.getElem?_range hk]
        rfl
      rw [this, List.map_append]
      rfl
    · rintro sl' ⟨x, rfl⟩
      rw [Int.toNat_natCast, ← rows_len, List.take_length]
      exact w_retOwn 2 rfl hM q
def F_Llongest (K : PySem.W.Frag) : Fn (Nat × List Gate) := ⟨["_law_gates_here"], fun z => [rLst K (z.2.map (iG K))], fun z => z.2.length ≤ 400 ∧ ∀ g ∈ z.2, g.Ok z.1, fun z => .v (nI (nl (lvs z.2)))⟩
theorem h_Llongest (T : Txt K mg) : Has P w K mg base 3 "_law_longest" (F_Llongest K) := by
  refine has_df T.d_Llongest sc_Llongest b_Llongest rfl (fun _ => rfl) (k := 2) ?_
  intro f cdv A outer s H E z B L D hr hp hM q hN
  obtain ⟨n, gs⟩ := z
  obtain ⟨few, ok⟩ := hp
  replace few : gs.length ≤ 400 := few
  replace ok : ∀ g ∈ gs, g.Ok n := ok
  have getOk : ∀ j, j < gs.length → (gs.getD j g0).Ok n := fun j hj => ok _ (List.mem_of_getElem? (get_of hj))
  show Wp _ B L _ D [.val (rLst K (gs.map (iG K))), .no, .no, .no, .no]
  refine w_setOwn 1 (e_lst (Rs := []) a_nil (by show 0 ≤ 100000; decide)) sc_Llongest.nd ?_
  refine w_forEC 2 3 (xs := gs) (c := iG K) sc_Llongest.nd (e_var 0) (T.f "enumerate") (fun i sl => ∃ a b, sl = [.val (rLst K (gs.map (iG K))), .own ((lvs (gs.take i)).map fun x => nI (x + 1)), a, b, .no]) ⟨_, _, rfl⟩ ?_ ?_
  · rintro i g L' sl' hi ⟨a, b, rfl⟩
    have hil : i < gs.length := (List.getElem?_eq_some_iff.mp hi).1
    have gok := ok g (List.mem_of_getElem? hi)
    show Wp _ B L' _ _ [.val (rLst K (gs.map (iG K))), .own ((lvs (gs.take i)).map fun x => nI (x + 1)), .val (nI i), .val (iG K g), .no]
    refine w_append 1 (R := nI (lv gs i + 1)) rfl (e_addP (C := fun z => z = ((lv gs i + 1 : Nat) : Int)) (A := fun z => z = 1) (B := fun m => m = (lv gs i : Int)) e_int (e_maxL rfl (ns := (0 : Int) :: (((List.range i).filter fun j => touch g (gs.getD j g0)).map fun j => lv gs j + 1).map fun x : Nat => (x : Int)) ?mx (T.f "max") (by show 0 < _ + 1; omega) ?mm) fun x y h1 h2 => by rw [h1, h2]; omega) ?ln ?_
    case ln =>
      rw [List.length_map, lvs_len, List.length_take]
      omega
    case mm =>
      intro m h1 h2
      rw [max_zero h1 h2, lv_max hi]
    case mx =>
      refine ev_eq (congrArg (rLst K) ?_) (EvR.lst (e_cat (e_lst (Rs := [iI 0]) (a1 e_int) (by show 1 ≤ 100000; decide)) (e_compRT (m := i) 4 (fun j => nI (lv gs j + 1)) (fun j => touch g (gs.getD j g0)) sc_Llongest.nd (e_var 2) (by omega) (T.f "range") (fun j hj s H C cl fp => ?ts) (fun j hj _ s H C cl fp => ?el)) ?_))
      case ts => exact t_val (EvR.v (e_call (h_touch T) hr (n, g, gs.getD j g0) (a2 (e_var 3) (e_ixL (e_var 0) (e_var 4) (atI_gate (get_of (by omega))))) ⟨gok, getOk j (by omega)⟩))
      case el => exact e_ixO 1 rfl (e_var 4) (atI_nat (by rw [List.getElem?_map, lvs_take_at (by omega) hj]; rfl))
      · show iI 0 :: _ = iI 0 :: _
        rw [List.map_map, List.map_map]
        rfl
      · rw [List.length_map]
        have := List.length_filter_le (fun j => touch g (gs.getD j g0)) (List.range i)
        rw [List.length_range] at this
        show 1 + _ ≤ 100000
        omega
    refine w_turn' ⟨.val (nI i), .val (iG K g), ?_⟩
    rw [show gs.take (i + 1) = gs.take i ++ [g] by rw [List.take_succ, hi]; rfl, lvs_snoc, ← lv_eq hi, List.map_append]
    rfl
  · rintro sl' ⟨a, b, rfl⟩
    rw [List.take_length]
    refine w_ret (r := .v (nI (nl (lvs gs)))) (Ev.r (e_lend 1 rfl nol_int (e_maxL rfl (ns := (0 : Int) :: ((lvs gs).map (· + 1)).map fun x : Nat => (x : Int)) ?mx (T.f "max") (by show 0 < _ + 1; omega) ?mm))) hM q
    case mm =>
      intro m h1 h2
      exact max_zero h1 h2
    case mx =>
      refine ev_eq (congrArg (rLst K) ?_) (EvR.lst (e_catL (EvR.lst (e_lst (Rs := [iI 0]) (a1 e_int) (by show 1 ≤ 100000; decide))) (Ev.imp (e_var 1) rN_le) ?_))
      · show iI 0 :: _ = iI 0 :: _
        rw [List.map_map, List.map_map]
        rfl
      · rw [List.length_map, lvs_len]
        show 1 + _ ≤ 100000
        omega
end
end LT


set_option Elab.async false
set_option linter.all false
set_option maxRecDepth 100000
set_option maxHeartbeats 2000000
namespace LT
open PySem PySem.Spec PyProof.Rows L2 Dl Mt ClX
def fresh (g : Gate) : List Nat := if g.k = .sort then [g.a, g.b.toNat] else if ¬ g.k = .add then [g.b.toNat] else []
def left (g : Gate) (s : List Nat) : List Nat := if g.k = .copy then s.erase g.a else s
theorem put_app (s : List Nat) (l : Nat) : put s l = s ++ [l].filter fun x => !decide (x ∈ s) := by
  unfold put
  by_cases h : l ∈ s
  · rw [if_pos (List.contains_iff_mem.mpr h), List.filter_cons_of_neg (by simp [h])]
    simp
  · rw [if_neg (fun z => h (List.contains_iff_mem.mp z)), List.filter_cons_of_pos (by simp [h])]
    simp
theorem seen_fresh {n : Nat} {g : Gate} (o : g.Ok n) (s : List Nat) : seenAt g s = left g s ++ (fresh g).filter fun x => !decide (x ∈ left g s) := by
  obtain ⟨k, a, b⟩ := g
  cases k
  case sort =>
    have ne : a ≠ b.toNat := by
      have := o.b (fun z => nomatch z)
      replace this : 0 ≤ b ∧ b < n ∧ (a : Int) ≠ b := this
      omega
    show put (put s a) b.toNat = s ++ [a, b.toNat].filter fun x => !decide (x ∈ s)
    rw [put_app (put s a), put_app s a, List.append_assoc]
    congr 1
    rw [show ([a, b.toNat] : List Nat) = [a] ++ [b.toNat] from rfl, List.filter_append]
    congr 1
    refine List.filter_congr fun x hx => ?_
    rw [List.mem_singleton.mp hx]
    congr 1
    rw [decide_eq_decide, List.mem_append]
    constructor
    · rintro (h | h)
      · exact h
      · have := List.mem_singleton.mp (List.mem_filter.mp h).1
        omega
    · exact Or.inl
  case add =>
    show s = s ++ []
    rw [List.append_nil]
  all_goals exact put_app _ _
theorem zN_erase (s : List Nat) (l : Nat) : (zN s).erase (l : Int) = zN (s.erase l) := by
  unfold zN
  induction s with
  | nil => rfl
  | cons x s ih =>
    rw [List.map_cons]
    by_cases h : x = l
    · subst h
      rw [List.erase_cons_head, List.erase_cons_head]
    · rw [List.erase_cons_tail (by simp; omega), List.erase_cons_tail (by simpa using h), ih, List.map_cons]
section
variable {P : Program} {w : World} {K : PySem.W.Frag} {mg : Str → Option Value} {base : Heap}
def F_Lcone (K : PySem.W.Frag) : Fn (Nat × List Gate × Nat) := ⟨["_law_gates_here", "_law_lane"], fun z => [rLst K (z.2.1.map (iG K)), nI z.2.2], fun z => NetOk z.1 z.2.1 ∧ z.2.2 < z.1, fun z => .l [rRow K (conP z.2.1 0 [z.2.2]).1, rRow K (srt (conP z.2.1 0 [z.2.2]).2)]⟩
theorem h_Lcone (T : Txt K mg) : Has P w K mg base 1 "_law_cone" (F_Lcone K) := by
  refine has_df T.d_Lcone sc_Lcone b_Lcone rfl (fun _ => rfl) (k := 0) ?_
  intro f cdv A outer s H E z B L D hr hp hM q hN
  obtain ⟨n, gs, l⟩ := z
  obtain ⟨ok, hl⟩ := hp
  replace ok : NetOk n gs := ok
  replace hl : l < n := hl
  have n2 := ok.n2
  have few := ok.few
  have sN : ∀ j, (conP (gs.drop j) j [l]).2.Nodup ∧ (∀ x ∈ (conP (gs.drop j) j [l]).2, x < n) := fun j => by
    rw [con_snd]
    exact ⟨con_nodup _ (by simp), con_ok (fun g hg => ok.ok g (List.mem_of_mem_drop hg)) (by simpa using hl)⟩
  have sL : ∀ j, (conP (gs.drop j) j [l]).2.length ≤ 12 := fun j => Nat.le_trans (nd_len n (sN j).1 (sN j).2) n2
  have fL : ∀ j, (conP (gs.drop j) j [l]).1.length ≤ 400 := fun j => by
    have e : ((conP (gs.drop j) j [l]).1.map fun i => (gs.drop j).getD (i - j) g0).length = (conG (gs.drop j) [l]).1.length := congrArg List.length (con_fst (gs.drop j) j [l]).2
    rw [List.length_map] at e
    have e2 := con_len (gs.drop j) [l]
    have e3 := congrArg List.length (con_pick (gs.drop j) [l])
    unfold pickG at e3
    rw [List.length_map] at e3
    rw [List.length_drop] at e2
    omega
  show Wp _ B L _ D [.val (rLst K (gs.map (iG K))), .val (nI l), .no, .no, .no, .no, .no, .no, .no, .no]
  refine w_parOOC 2 3 rfl sc_Lcone.nd (e_lst (Rs := []) a_nil (by show 0 ≤ 100000; decide)) (e_lst (Rs := [nI l]) (a1 (e_var 1)) (by show 1 ≤ 100000; decide)) ?_
  refine w_forDown (m := gs.length) 4 sc_Lcone.nd (e_subP (C := fun z => z = (gs.length : Int) - 1) (Ev.toI (e_lenL (e_var 0) (T.f "len")) (by rw [List.length_map])) e_int fun x y h1 h2 => by rw [h1, h2]) e_m1 e_m1 (by omega) (T.f "range") (fun i sl => ∃ a b c d e, sl = [.val (rLst K (gs.map (iG K))), .val (nI l), .own ((conP (gs.drop (gs.length - i)) (gs.length - i) [l]).1.reverse.map nI), .own ((zN (conP (gs.drop (gs.length - i)) (gs.length - i) [l]).2).map iI), a, b, c, d, e, .no]) ?h0 ?_ ?_
  case h0 =>
    refine ⟨.no, .no, .no, .no, .no, ?_⟩
    rw [Nat.sub_zero, List.drop_length]
    rfl
  · rintro i L' sl' hi ⟨a, b, c, d, e, rfl⟩
    generalize hp1 : gs.length - 1 - i = p
    have hp2 : gs.length - i = p + 1 := by omega
    have hp3 : gs.length - (i + 1) = p := by omega
    have hpl : p < gs.length := by omega
    obtain ⟨g, hg⟩ : ∃ g, gs[p]? = some g := ⟨_, List.getElem?_eq_getElem hpl⟩
    have gok := ok.ok g (List.mem_of_getElem? hg)
    have dr : gs.drop p = g :: gs.drop (p + 1) := by
      rw [List.drop_eq_getElem_cons hpl]
      congr 1
      exact Option.some.inj ((List.getElem?_eq_getElem hpl).symm.trans hg)
    rw [hp2, hp3]
    have c1 : conP (gs.drop p) p [l] = if hit g (conP (gs.drop (p + 1)) (p + 1) [l]).2 then (p :: (conP (gs.drop (p + 1)) (p + 1) [l]).1, seenAt g (conP (gs.drop (p + 1)) (p + 1) [l]).2) else conP (gs.drop (p + 1)) (p + 1) [l] := by
      rw [dr]
      rfl
    have sl1 := sL (p + 1)
    have fl1 := fL (p + 1)
    rw [c1]
    generalize (conP (gs.drop (p + 1)) (p + 1) [l]) = cc at *
    obtain ⟨fo, se⟩ := cc
    replace sl1 : se.length ≤ 12 := sl1
    replace fl1 : fo.length ≤ 400 := fl1
    show Wp _ B L' _ _ [.val (rLst K (gs.map (iG K))), .val (nI l), .own (fo.reverse.map nI), .own ((zN se).map iI), .val (nI p), b, c, d, e, .no]
    refine w_un3 5 6 7 rfl sc_Lcone.nd (R1 := iS g.k.wd) (R2 := nI g.a) (R3 := iI g.b) (e_ixL (e_var 0) (e_var 4) (atI_gate hg)) ?_
    show Wp _ B L' _ _ [.val (rLst K (gs.map (iG K))), .val (nI l), .own (fo.reverse.map nI), .own ((zN se).map iI), .val (nI p), .val (iS g.k.wd), .val (nI g.a), .val (iI g.b), e, .no]
    refine w_if (P := fun z => z = hit g se) (t_lend 3 rfl (EvT.imp (EvW.t (t_or (t_inI (x := (g.a : Int)) (xs := zN se) (e_var 6) (e_var 3)) fun _ => t_or1 (EvW.t (t_and (t_wd (l := .sort) (e_var 5) e_str) fun h => t_and1 (t_inI (x := ((g.b.toNat : Nat) : Int)) (xs := zN se) (Ev.toI (e_var 7) ?tn) (e_var 3)))))) ?imp)) (fun h => ?_) (fun h => ?_)
    case tn =>
      have e : g.k = .sort := of_decide_eq_true h.symm
      exact (Int.toNat_of_nonneg (gok.b (by rw [e]; exact fun z => nomatch z)).1).symm
    case imp =>
      have cn : ∀ x : Nat, decide ((x : Int) ∈ zN se) = se.contains x := fun x => by rw [Bool.eq_iff_iff, decide_eq_true_eq, zN_mem, List.contains_iff_mem]
      unfold hit
      rw [← cn, ← cn]
      rintro z (⟨h1, ⟨h2, h3⟩ | ⟨h2, h3⟩⟩ | ⟨h1, h2⟩)
      · rw [← h1, ← h2, h3]; rfl
      · rw [← h1, ← h2, h3]; rfl
      · rw [← h1, h2]; rfl
    · rw [← h, if_pos rfl]
      show Wp _ B L' _ _ [.val (rLst K (gs.map (iG K))), .val (nI l), .own (fo.reverse.map nI), .own ((zN se).map iI), .val (nI p), .val (iS g.k.wd), .val (nI g.a), .val (iI g.b), e, .no]
      refine w_append 2 (R := nI p) rfl (e_var 4) (by rw [List.length_map, List.length_reverse]; omega) ?_
      refine w_ifD 3 (Rs' := ((zN se).erase (g.a : Int)).map iI) rfl (t_wd (l := .copy) (e_var 5) e_str) (fun e kk => w_remove 3 (x := (g.a : Int)) rfl (e_var 6) (zN_mem.mpr ?cg) kk) ?_
      case cg =>
        unfold hit at h
        rw [e] at h
        have : se.contains g.a = true := by simpa using h.symm
        exact List.contains_iff_mem.mp this
      have ll : (left g se).length ≤ 12 := by
        unfold left
        have : (se.erase g.a).length ≤ se.length := List.length_erase_le ..
        split <;> omega
      have e1 : (if g.k = .copy then ((zN se).erase (g.a : Int)).map iI else (zN se).map iI) = (zN (left g se)).map iI := by
        unfold left
        split
        · rw [zN_erase]
        · rfl
      rw [e1]
      show Wp _ B L' _ _ [.val (rLst K (gs.map (iG K))), .val (nI l), .own (fo.reverse.map nI ++ [nI p]), .own ((zN (left g se)).map iI), .val (nI p), .val (iS g.k.wd), .val (nI g.a), .val (iI g.b), e, .no]
      have fr : (fresh g).map nI = if g.k = .sort then [nI g.a, iI g.b] else if ¬ g.k = .add then [iI g.b] else [] := by
        unfold fresh
        by_cases h1 : g.k = .sort
        · rw [if_pos h1, if_pos h1]
          show [nI g.a, iI ((g.b.toNat : Nat) : Int)] = _
          rw [Int.toNat_of_nonneg (gok.b (by rw [h1]; exact fun z => nomatch z)).1]
        · rw [if_neg h1, if_neg h1]
          by_cases h2 : g.k = .add
          · rw [if_neg (fun z => z h2), if_neg (fun z => z h2)]; rfl
          · rw [if_pos h2, if_pos h2]
            show [iI ((g.b.toNat : Nat) : Int)] = _
            rw [Int.toNat_of_nonneg (gok.b h2).1]
      refine w_set 8 (R := rRow K (fresh g)) (EvR.lst ?fe) sc_Lcone.nd ?_
      case fe =>
        rw [fr]
        refine e_ifR (P := fun z => z = decide (g.k = .sort)) (t_wd (l := .sort) (e_var 5) e_str) (fun h => ?_) (fun h => ?_)
        · rw [if_pos (of_decide_eq_true h.symm)]
          exact e_lst (a2 (e_var 6) (e_var 7)) (by show 2 ≤ 100000; decide)
        · rw [if_neg (of_decide_eq_false h.symm)]
          refine e_ifR (P := fun z => z = !decide (g.k = .add)) (t_wdN (l := .add) (e_var 5) e_str) (fun h => ?_) (fun h => ?_)
          · rw [if_pos (of_decide_eq_false (by simpa using h.symm))]
            exact e_lst (a1 (e_var 7)) (by show 1 ≤ 100000; decide)
          · rw [if_neg (fun z => z (of_decide_eq_true (by simpa using h.symm)))]
            exact e_lst a_nil (by show 0 ≤ 100000; decide)
      have fl2 : (fresh g).length ≤ 2 := by
        unfold fresh
        split
        · exact Nat.le_refl 2
        · split
          · exact Nat.le_succ 1
          · exact Nat.zero_le 2
      refine w_setOwn 3 (Rs := (zN (seenAt g se)).map iI) (e_lendL 3 rfl (nol_map fun _ => nol_int) (evr_eq (congrArg Res.l ?ap) (e_catL (Ev.imp (e_var 3) rN_le) (EvR.lst (e_compLT 9 (xs := fresh g) (c := nI) nI (fun x => !decide (x ∈ left g se)) sc_Lcone.nd (e_var 8) (by omega) (fun x hx s H C cl fp => ?ts) (fun x hx _ s H C cl fp => e_var 9))) ?ln))) sc_Lcone.nd ?_
      case ts =>
        refine EvT.imp (t_notInI (x := (x : Int)) (xs := zN (left g se)) (e_var 9) (Ev.imp (e_var 3) rN_le)) fun z h => ?_
        rw [h]
        congr 1
        rw [decide_eq_decide, zN_mem]
      case ap =>
        rw [seen_fresh gok, nI_zN, nI_zN, List.map_append]
      case ln =>
        rw [List.length_map (f := nI), List.length_map (f := iI)]
        have h1 := List.length_filter_le (fun x => !decide (x ∈ left g se)) (fresh g)
        have h2 : (zN (left g se)).length = (left g se).length := by unfold zN; rw [List.length_map]
        omega
      refine w_end (w_turn' ⟨.val (nI p), .val (iS g.k.wd), .val (nI g.a), .val (iI g.b), .val (rRow K (fresh g)), ?_⟩)
      rw [List.reverse_cons, List.map_append]
      rfl
    · rw [← h]
      exact w_end (w_turn' ⟨_, _, _, _, _, rfl⟩)
  · rintro sl' ⟨a, b, c, d, e, rfl⟩
    rw [Nat.sub_self, List.drop_zero]
    refine w_freeze 2 hM rfl (w_freeze 3 hM rfl ?_)
    show Wp _ B L _ D [.val (rLst K (gs.map (iG K))), .val (nI l), .val (rLst K ((conP gs 0 [l]).1.reverse.map nI)), .val (rLst K ((zN (conP gs 0 [l]).2).map iI)), a, b, c, d, e, .no]
    refine w_ret (r := .l [rRow K (conP gs 0 [l]).1, rRow K (srt (conP gs 0 [l]).2)]) (e_lst (a2 (EvR.lst ?rv) (EvR.lst ?so)) (by show 2 ≤ 100000; decide)) hM q
    case rv =>
      refine evr_eq (congrArg Res.l ?_) (e_revL (Rs := (conP gs 0 [l]).1.reverse.map nI) (e_var 2))
      rw [← List.map_reverse, List.reverse_reverse]
    case so =>
      refine evr_x (e_sortedI (ns := zN (conP gs 0 [l]).2) (e_var 3) (T.f "sorted") ?_) fun ms ⟨h1, h2⟩ => ?_
      · have := sL 0
        rw [List.drop_zero] at this
        have h2 : (zN (conP gs 0 [l]).2).length = (conP gs 0 [l]).2.length := by unfold zN; rw [List.length_map]
        omega
      · rw [srt_int h1 h2, List.map_map]
        rfl
end
end LT


set_option Elab.async false
set_option linter.all false
set_option maxRecDepth 100000
set_option maxHeartbeats 2000000
namespace Dl
open PySem PySem.Spec PyProof.Rows L2 ClX
/-! ### sum(list of lists, []), whether there are lists or none -/
section
variable {prog : Program} {w : World} {A : Around} {E : Value → Shared → Prop} {s : Shared}
theorem call_sumN {l t : Addr} {rows : List (Addr × List Value)} {Q : Value → Shared → Prop} (hh : A.handled = none) (hl : PlainL s.heap l (rows.map fun r => Value.ref r.1).toArray) (hr : ∀ r ∈ rows, PlainL s.heap r.1 r.2.toArray) (ht : PlainL s.heap t #[]) (hz : (rows.map (·.2)).flatten.length ≤ sizeLine) (h0 : rows = [] → ∀ h' tk, (∀ b o, s.heap.get? b = some o → h'.get? b = some o) → Q (.ref t) { s with heap := h', toks := tk })
    (h : ∀ h' tk p m, (∀ b o, s.heap.get? b = some o → h'.get? b = some o) → s.heap.get? p = none → h'.get? p = some { cls := .type "list", data := .seq (rows.map (·.2)).flatten.toArray m } → Q (.ref p) { s with heap := h', toks := tk }) : wpAny (model prog w) A (call (.builtin "sum") [.ref l, .ref t]) Q E s := by
  refine call_function_tree F.kind_sum F.plain_sum F.entry_sum (args_sum2 _ _) ?_
  unfold Builtin.«sum»
  simp only [List.length_cons, List.length_nil]
  rw [if_neg (by decide)]
  refine wpAny_bind (wpAny_of_eq (show Builtin.Builtins.bindParams "sum" ["start"] 0 ⟨[.ref t], []⟩ = pure [some (.ref t)] from rfl) ?_)
  have hl0 : s.heap.IsList l (rows.map fun r => Value.ref r.1).toArray := by
    obtain ⟨o, n, e, c, _, d⟩ := hl
    exact ⟨o, e, c, n, d⟩
  have hlt : l < s.heap.objs.size := by obtain ⟨_, _, e, _⟩ := hl; exact Heap.lt_size e
  refine wpAny_bind (wpAny_pyIter_list hl0 ?_)
  have pk : ∀ {h : Heap} {o : Obj} {a : Addr} {xs : Array Value}, PlainL h a xs → PlainL (h.push o) a xs := fun x => x.keeps fun b o e => Heap.get?_push_of_some _ e
  refine wpAny_bind (wpAny_pure ?_)
  simp only [List.forIn_cons, List.forIn_nil]
  have ty : ∀ {s2 : Shared}, PlainL s2.heap t #[] → s2.TypeIs (.ref t) "list" := fun z => plain_typeIs z
  refine wpAny_bind (wpAny_bind (wpAny_bind (wpAny_isInstance (T := "list") (b := false) (ty (pk ht)) PySem.F.sub_list_str ?_)))
  simp only [Bool.false_eq_true, if_false]
  refine wpAny_pure (wpAny_bind (wpAny_bind (wpAny_isInstance (T := "list") (b := false) (ty (pk ht)) PySem.F.sub_list_bytes ?_)))
  simp only [Bool.false_eq_true, if_false]
  refine wpAny_pure (wpAny_bind (wpAny_bind (wpAny_isInstance (T := "list") (b := false) (ty (pk ht)) PySem.F.sub_list_bytearray ?_)))
  simp only [Bool.false_eq_true, if_false]
  refine wpAny_pure (wpAny_pure ?_)
  refine wpAny_bind (wpAny_newObj_type ?_)
  have W := (Walks.list (prog := prog) (w := w) (A := A.in1) hh s.heap.objs.size l (Nat.ne_of_lt hlt) (rows.map fun r => Value.ref r.1).toArray).toS
  have hsz : (rows.map fun r => Value.ref r.1).toArray.size = rows.length := by simp
  rw [hsz] at W
  have fl : (List.range' 0 rows.length).map (fun i => (rows.map (·.2)).getD i []) = rows.map (·.2) := by
    apply List.ext_getElem
    · simp
    · intro i h1 h2
      simp only [List.length_map] at h2
      simp [List.getD_eq_getElem?_getD, h2]
  have row : ∀ {i : Nat}, i < rows.length → ∃ r, r ∈ rows ∧ (rows.map (·.1)).getD i 0 = r.1 ∧ (rows.map (·.2)).getD i [] = r.2 := fun {i} hi => ⟨rows[i], List.getElem_mem hi, by simp [List.getD_eq_getElem?_getD, hi], by simp [List.getD_eq_getElem?_getD, hi]⟩
  have rlt : ∀ {i : Nat}, i < rows.length → (rows.map (·.1)).getD i 0 < s.heap.objs.size := fun {i} hi => by
    obtain ⟨r, h1, h2, _⟩ := row hi
    obtain ⟨_, _, e, _⟩ := hr r h1
    rw [h2]
    exact Heap.lt_size e
  have sz : (s.heap.push { cls := .type "list_iterator", data := .fields #[.ref l, .int 0 0] }).objs.size = s.heap.objs.size + 1 := Heap.size_push ..
  refine wpAny_pure ⟨plainId_quiet F.plain_sum_loop _, sum_loopL (S := (s.heap.push { cls := .type "list_iterator", data := .fields #[.ref l, .int 0 0] }).objs.size) W (fun i => (rows.map (·.1)).getD i 0) (fun i => (rows.map (·.2)).getD i []) (fun i v hv => ?_) (fun hm => ?_) (fun i hi hm => ?_) (fun i s3 st b hb => ?_) rows.length 0 _ t [] 0 (by omega) (Nat.zero_le _) ?_ (Heap.get?_push_size _ rfl) (pk (pk ht)) (fun hm => ?_) (fun j hj => ?_) ?_ fun s' p hm hf => ?_⟩
  · rw [List.getElem?_toArray, List.getElem?_map] at hv
    cases q : rows[i]? with
    | none => rw [q] at hv; cases hv
    | some r =>
      rw [q] at hv
      cases hv
      simp [List.getD_eq_getElem?_getD, q]
  · rw [sz] at hm
    rcases List.mem_cons.mp hm with e | hm
    · exact ne3 e
    · exact ne2 hlt (List.mem_singleton.mp hm).symm
  · have := rlt hi
    rw [sz] at hm
    rcases List.mem_cons.mp hm with e | hm
    · exact ne2 this e
    · exact ne1 this (List.mem_singleton.mp hm)
  · rw [List.mem_singleton.mp hb]
    obtain ⟨⟨o, e, _⟩, _⟩ := st
    exact ⟨o, e⟩
  · exact ⟨⟨_, Heap.get?_push_of_some _ (Heap.get?_push_size _ rfl), rfl, rfl⟩, hl0.at fun o e => Heap.get?_push_of_some _ (Heap.get?_push_of_some _ e)⟩
  · obtain ⟨_, _, e, _⟩ := ht
    have := Heap.lt_size e
    rw [sz] at hm
    rcases List.mem_cons.mp hm with e | hm
    · exact ne2 this e
    · exact ne1 this (List.mem_singleton.mp hm)
  · obtain ⟨r, h1, h2, h3⟩ := row hj
    show PlainL _ ((rows.map (·.1)).getD j 0) ((rows.map (·.2)).getD j []).toArray
    rw [h2, h3]
    exact pk (pk (hr r h1))
  · rw [fl]
    simpa using hz
  · rw [fl] at hf
    rcases hf with ⟨ep, e⟩ | ⟨hp, m, hq⟩
    · subst ep
      obtain ⟨h', g', d', tk', os'⟩ := s'
      have e1 : g' = s.gens := hm.gens
      have e2 : d' = s.drawn := hm.drawn
      have e3 : os' = s.os := hm.os
      subst e1 e2 e3
      refine h0 (List.eq_nil_of_length_eq_zero e) h' tk' (fun b o e => hm.heap b o (fun hb => ?_) (Heap.get?_push_of_some _ (Heap.get?_push_of_some _ e)))
      have := Heap.lt_size e
      rw [sz] at hb
      rcases List.mem_cons.mp hb with e | hb
      · exact ne2 this e
      · exact ne1 this (List.mem_singleton.mp hb)
    obtain ⟨h', g', d', tk', os'⟩ := s'
    have e1 : g' = s.gens := hm.gens
    have e2 : d' = s.drawn := hm.drawn
    have e3 : os' = s.os := hm.os
    subst e1 e2 e3
    refine h h' tk' p m (fun b o e => hm.heap b o (fun hb => ?_) (Heap.get?_push_of_some _ (Heap.get?_push_of_some _ e))) ?_ hq
    · have := Heap.lt_size e
      rw [sz] at hb
      rcases List.mem_cons.mp hb with e | hb
      · exact ne2 this e
      · exact ne1 this (List.mem_singleton.mp hb)
    · cases q : s.heap.get? p with
      | none => rfl
      | some o =>
        have z : _ = some o := Heap.get?_push_of_some { cls := .type "list", data := .seq #[.ref t] } (Heap.get?_push_of_some { cls := .type "list_iterator", data := .fields #[.ref l, .int 0 0] } q)
        rw [show _ = _ from z] at hp
        cases hp
end
section
variable {X : Cx} {sl : List Ent} {a : Expr} {p p2 pos : Pos}
theorem op_sumV (hc : X.calm = true) : CallR X (.builtin "sum") (fun vs H Q => ∃ (l t : Addr) (rs : List (Addr × List Int)), vs = [V.ref l, V.ref t] ∧ SqL X.K H l (rs.map fun r => V.ref r.1) ∧ (∀ r ∈ rs, SqL X.K H r.1 (r.2.map V.int)) ∧ SqL X.K H t [] ∧ (rs = [] → Q (.ref t) H) ∧ (rs.map (·.2)).flatten.length ≤ sizeLine ∧ ∀ q, H q = none → Q (.ref q) (upd H q (.lst ((rs.map (·.2)).flatten.map V.int)))) := by
  intro pins s σ H vs us Q I r h
  obtain ⟨l, t, rs, rfl, hl, hrs, ht, hne, hz, q⟩ := h
  obtain ⟨u1, u2, rfl, r1, r2⟩ := vals2 r
  cases r1
  cases r2
  obtain ⟨its, rv, pl, _⟩ := I.list hl
  obtain ⟨its0, rv0, pt, _⟩ := I.list ht
  cases rv0
  have mk : ∀ (rs : List (Addr × List Int)) (us : List Value), Vals (rs.map fun r => V.ref r.1) us → (∀ r ∈ rs, SqL X.K H r.1 (r.2.map V.int)) → ∃ ws : List (Addr × List Value), us = ws.map (fun r => Value.ref r.1) ∧ (∀ r ∈ ws, PlainL s.heap r.1 r.2.toArray) ∧ Vals ((rs.map (·.2)).flatten.map V.int) (ws.map (·.2)).flatten ∧ ws.length = rs.length := by
    intro rs
    induction rs with
    | nil => intro us r _; cases r; exact ⟨[], rfl, (fun r h => nomatch h), .nil, rfl⟩
    | cons x rs ih =>
      intro us r hs
      cases r with
      | cons r1 r2 =>
        cases r1
        obtain ⟨ws, e1, e2, e3, e4⟩ := ih _ r2 fun r hr => hs r (List.mem_cons_of_mem _ hr)
        obtain ⟨ix, rx, px, _⟩ := I.list (hs x (List.mem_cons_self ..))
        refine ⟨(x.1, ix) :: ws, by rw [e1]; rfl, fun r hr => ?_, ?_, by rw [List.length_cons, List.length_cons, e4]⟩
        · rcases List.mem_cons.mp hr with e | hr
          · rw [e]; exact px
          · exact e2 r hr
        · rw [List.map_cons, List.map_cons, List.flatten_cons, List.flatten_cons, List.map_append]
          exact rx.append e3
  obtain ⟨ws, rfl, e2, e3, e4⟩ := mk rs its rv hrs
  have hlen := e3.length
  rw [List.length_map] at hlen
  refine call_sumN (I.ok.hd hc) pl e2 pt (by rw [← hlen]; exact hz) (fun e h' tk hk => ⟨.ref t, H, I.kept (t' := tk) hk, rfl, hne (by subst e; exact List.eq_nil_of_length_eq_zero e4.symm)⟩) fun h' tk p m hk hp hq => ?_
  have fr : H p = none := by
    cases q : H p with
    | none => rfl
    | some o =>
      obtain ⟨u, e⟩ := objOk_at (I.hok p o q)
      rw [hp] at e
      cases e
  exact ⟨.ref p, _, I.laidN (t' := tk) (o := .lst ((rs.map (·.2)).flatten.map V.int)) hk hp fr ⟨by rw [List.length_map]; exact hz, _, m, e3, hq⟩, rfl, q p fr⟩/-- sum(one of several lists of lists of ints, []) -/
theorem e_sumX {β : Type} {Pb : β → Prop} {b : Expr} {rs : β → List (List Int)} (hc : X.calm = true) (h : Ev X a sl (rX Pb fun b => rLst X.K ((rs b).map (rInts X.K)))) (h0 : Ev X b sl (rLst X.K [])) (hz : ∀ b, Pb b → (rs b).flatten.length ≤ 100000) (hm : X.mg "sum" = none) (hg : Gl X "sum" := by rfl) (he : starEach [a, b] X.env = (false, eval a X.env) :: starEach [b] X.env := by rfl) (he2 : starEach [b] X.env = [(false, eval b X.env)] := by rfl) (hpl : (backTo pos (starEach [b] X.env)).any (·.1) = false := by rfl) : Ev X (.Call (.Name "sum" p) [a, b] [] pos) sl (rX Pb fun b => rLst X.K ((rs b).flatten.map iI)) :=
  (show EvR X _ sl (.v (rX Pb fun b => rLst X.K ((rs b).flatten.map iI))) from e_cb (op_sumV hc) hm (by decide +kernel) (a2 h h0 he he2) (fun vs G H Q s r q => by
    cases r with
    | cons r1 r => cases r with
      | cons r2 r =>
        cases r
        obtain ⟨x0, px0, l, us, e1, q1, p1⟩ := r1
        obtain ⟨t, us2, e2, q2, p2⟩ := r2
        cases p2
        subst e1 e2
        have mk : ∀ (rs : List (List Int)) (us : List V), PVs G (rs.map (rInts X.K)) us → ∃ ws : List (Addr × List Int), us = ws.map (fun r => V.ref r.1) ∧ (∀ r ∈ ws, SqL X.K H r.1 (r.2.map V.int)) ∧ ws.map (·.2) = rs := by
          intro rs
          induction rs with
          | nil => intro us r; cases r; exact ⟨[], rfl, (fun r h => nomatch h), rfl⟩
          | cons x rs ih =>
            intro us r
            cases r with
            | cons k1 k2 =>
              obtain ⟨ws, f1, f2, f3⟩ := ih _ k2
              obtain ⟨y, vs, ey, qy, py⟩ := k1
              have := py.ints
              subst this
              refine ⟨(y, x) :: ws, by rw [f1, ey]; rfl, fun r hr => ?_, by rw [List.map_cons, f3]⟩
              rcases List.mem_cons.mp hr with e | hr
              · rw [e]; exact s.seq qy
              · exact f2 r hr
        obtain ⟨ws, f1, f2, f3⟩ := mk (rs x0) us p1
        have hz0 := hz x0 px0
        subst f1
        refine ⟨l, t, ws, rfl, s.seq q1, f2, s.seq q2, fun e => ?_, by rw [f3, sizeLine_eq]; omega, fun y hy => ?_⟩
        · refine q (.ref t) G H (.refl s) ⟨x0, px0, t, [], rfl, q2, ?_⟩
          rw [← f3, e]
          exact .nil
        · rw [f3]
          exact q (.ref y) (upd G y (.lst ((rs x0).flatten.map V.int))) _ (Gr.take (Gr.newOut s hy) hy upd_same (s.free hy)) ⟨x0, px0, y, _, rfl, SqL.of upd_same, PVs.ofInts _⟩) hg (by decide) (by decide) he hpl)
theorem e_sumO {b : Expr} {rs : List (List Int)} (hc : X.calm = true) (h : Ev X a sl (rLst X.K (rs.map (rInts X.K)))) (h0 : Ev X b sl (rLst X.K [])) (hz : rs.flatten.length ≤ 100000) (hm : X.mg "sum" = none) (hg : Gl X "sum" := by rfl) (he : starEach [a, b] X.env = (false, eval a X.env) :: starEach [b] X.env := by rfl) (he2 : starEach [b] X.env = [(false, eval b X.env)] := by rfl) (hpl : (backTo pos (starEach [b] X.env)).any (·.1) = false := by rfl) : Ev X (.Call (.Name "sum" p) [a, b] [] pos) sl (rLst X.K (rs.flatten.map iI)) :=
  Ev.imp (e_sumX (Pb := fun _ : Unit => True) (rs := fun _ => rs) hc (Ev.imp h fun _ _ z => ⟨(), trivial, z⟩) h0 (fun _ _ => hz) hm hg he he2 hpl) fun _ _ ⟨_, _, z⟩ => z
end
section
variable {X : Cx} {sl : List Ent} {elt it : Expr} {y : Str} {py pos : Pos} {scope : Scope} {β α : Type} [Inhabited α] {Pb : β → Prop} {xs : β → List α} {c : β → α → RV}
/-- [.. for y in (one of several lists)] -/
theorem e_compLX (j : Nat) (d : β → α → RV) (hN : X.N.Nodup) (src : Ev X it sl (rX Pb fun b => rLst X.K ((xs b).map (c b)))) (hn : ∀ b, Pb b → (xs b).length ≤ 90000)
    (el : ∀ b, Pb b → ∀ x ∈ xs b, ∀ s H C cl fp, Ev (blkX X scope s H C cl fp) elt (setE (wipeE sl [j]) [j] [c b x]) (d b x)) (hc : X.calm = true := by rfl) (hj : X.N[j]? = some y := by rfl) (hl : (relabel scope X.env).names.lookup y = some .local := by rfl) (hb : blkC X.N X.env.scope scope [(y, j)] = true := by kernel_rfl)
    (hf : ∀ x, foldedSetIterable it X.env x = pure x := by intro _; rfl) : EvR X (.ListComp elt [⟨.Name y py, it, [], 0⟩] scope pos) sl (.x Pb fun b => .l ((xs b).map (d b))) := by
  have := e_lcX (own := [(y, j)]) (pos := pos) (tg := .Name y py) (g := gName j) hc hN (pi_list pcan) (blkOk_by hb) (fun s H C cl fp => pg_name hN hj (.inl hl) (.inr hl)) (src_LX src) (by simp) hn (fun b i => d b ((xs b).getD i default)) (fun b i pb hi s H C cl fp => el b pb _ (getD_mem hi) s H C cl fp) hf (elt := elt)
  intro pins s σ G H Q I a k
  refine this pins s σ G H Q I a fun b pb => ?_
  show Post G H Q (.l ((List.range (xs b).length).map fun i => d b ((xs b).getD i default)))
  rw [map_getD (d b) (xs b)]
  exact k b pb
end
section
variable {X : Cx} {sl : List Ent} {k : Nat} {C : Addr} {α : Type} {x : Str} {F : FnM α} {fs : α → List (Str × RV)} {p pos : Pos} {e : Expr} {es : List Expr} {Rs : List RV} {Pz : α → Prop}
/-- a class is called, the arguments one of several -/
theorem e_makeE (h : HasMk X.prog X.w X.K X.mg X.base k C F) (hr : Room (k + 1) X.A) (hm : X.mg x = some (.ref C)) (ha : EvA X (e :: es) sl Rs) (op : ∀ G vs, PVs G Rs vs → ∃ z, PVs G (F.args z) vs ∧ Pz z) (h0 : ∀ z, F.o0 z = oI C []) (h1 : ∀ z, F.o1 z = oI C (fs z)) (hp : ∀ z, Pz z → F.pre z) (hg : Gl X x := by rfl) (hdb : (x == ("__debug__" : Str)) = false := by decide)
    (he : starEach (e :: es) X.env = (false, eval e X.env) :: starEach es X.env := by rfl) (hpl : (backTo pos (starEach es X.env)).any (·.1) = false := by rfl) : Ev X (.Call (.Name x p) (e :: es) [] pos) sl (rX Pz fun z => rIns C (fs z)) := by
  obtain ⟨f, fd, mk, hb, ok⟩ := h.ex
  refine ev_of (pe_make mk ok hr hg hm hb .nil pass0 pcanA hdb he hpl) fun σ G H Q s q => ha.can s fun vs G1 H1 g1 r1 x dx nx nd ne => ?_
  obtain ⟨z, r1, pz⟩ := op G1 vs r1
  rw [List.append_nil]
  have gx : G1 x = none := g1.s.free nx
  have s1 : Same H1 (upd (upd H1 dx (.own x)) x (.ins C dx [])) := fun b o e => by
    rw [upd_ne (ne_of_none e nx), upd_ne (ne_of_none e nd)]
    exact e
  refine ⟨z, G1, x, _, vs, g1.s.trans s1, rfl, upd_same, gx, by rw [h0]; exact ⟨dx, [], rfl, .nil⟩, r1, hp z pz, fun G2 H2 o2 g2 k1 k2 k3 => ⟨rfl, ?_⟩⟩
  rw [h1] at k3
  obtain ⟨dx2, ws, rfl, k4⟩ := k3
  refine q (.ref x) (upd G2 x (.ins C dx2 ws)) H2 (g1.trans ⟨g2.g.trans (same_new k2), fun b u _ e => ?_, fun b e => ?_, fun b u e => ?_, fun b e => ?_⟩) ⟨z, pz, x, dx2, ws, rfl, upd_same, k4.mono (same_new k2)⟩
  · exact g2.h b u (ne_of_none e nx) (s1 b u e)
  · cases qq : H1 b with
    | none => exact absurd qq e
    | some u => exact g2.t b (by rw [s1 b u qq]; exact fun z => nomatch z)
  · by_cases qb : b = x
    · subst qb; rw [upd_same] at e; rw [k1]; exact e
    · rw [upd_ne qb] at e; exact g2.s b u e
  · cases qq : H1 b with
    | none => exact absurd qq e
    | some u =>
      rw [upd_ne (ne_of_none qq nx)]
      exact g2.n b (by rw [s1 b u qq]; exact fun z => nomatch z)
end
end Dl


set_option Elab.async false
set_option linter.all false
set_option maxRecDepth 100000
set_option maxHeartbeats 2000000
namespace LT
open PySem PySem.Spec PyProof.Rows L2 Dl Mt ClX
section
variable {P : Program} {w : World} {K : PySem.W.Frag} {mg : Str → Option Value} {base : Heap}
theorem evr_open {X : Cx} {sl : List Ent} {γ δ : Type} {xs : List γ} {Pc : γ → δ → Prop} {d : γ → RV} {R : δ → RV} {e : Expr} (h : EvR X e sl (.l (xs.map d))) (hd : ∀ x ∈ xs, (d x).le (rX (Pc x) R)) : EvR X e sl (.x (fun ys => Paired Pc xs ys) fun ys => .l (ys.map R)) :=
  fun pins s σ G H Q I z k => h pins s σ G H Q I z fun p vs G' H' g n1 n2 e r => by
    obtain ⟨ys, h1, h2⟩ := PVs.opens hd r
    exact k ys h1 p vs G' H' g n1 n2 e h2
abbrev dRow (r : List Nat) : PyData := .list (r.map fun j : Nat => PyData.int (j : Int))
abbrev dRows (rs : List (List Nat)) : PyData := .list (rs.map dRow)
theorem py_row (r : List Nat) : (rRow K r).Py K (dRow r) := py_lst fun x _ => py_int _
theorem py_rows (rs : List (List Nat)) : (rRows K rs).Py K (dRows rs) := py_lst fun x _ => py_row x
theorem sh_row (r : List Nat) : Sh 1 (dRow r) := sh_list (sh_map fun x _ => sh_int _)
theorem sh_rows (rs : List (List Nat)) : Sh 2 (dRows rs) := sh_list (sh_map fun x _ => sh_row x)
theorem sw_row {r : List Nat} (hl : r.length ≤ 16) (h : ∀ x ∈ r, x < 16) : Show 1 31000 (dRow r) := sw_list (c := 1930) (n := 0) (sw_map fun x hx => sw_int (by
  have := h x hx
  have e : ((x : Int)).natAbs = x := Int.natAbs_natCast x
  rw [e]
  have := Nat.log2_le_self x
  omega)) (by rw [List.length_map]; omega)
theorem sw_rows {rs : List (List Nat)} (hl : rs.length ≤ 16) (h : ∀ r ∈ rs, r.length ≤ 16 ∧ ∀ x ∈ r, x < 16) : Show 2 500000 (dRows rs) := sw_list (sw_map fun r hr => sw_row (h r hr).1 (h r hr).2) (by rw [List.length_map]; omega)
/-- the rows, each put in some sequence -/
def Mix (gs : List Gate) (hs : List Gate) : Prop := ∃ rows, Paired (fun r r' : List Nat => r'.Perm r) (rowsOf (lvs gs)) rows ∧ hs = pickG gs rows.flatten
theorem mix_of {gs : List Gate} : ∀ {rows : List (List Nat)} {yss : List (List Int)}, Paired (fun (r : List Nat) (ms : List Int) => ms.Perm (zN r)) rows yss → ∃ rows', Paired (fun r r' : List Nat => r'.Perm r) rows rows' ∧ yss = rows'.map zN
  | [], _, .nil => ⟨[], .nil, rfl⟩
  | r :: rows, _, .cons h t => by
    obtain ⟨rows', h1, h2⟩ := mix_of (gs := gs) t
    rename_i ms mss
    have e : ms = zN (ms.map Int.toNat) := by
      unfold zN
      rw [List.map_map]
      have : ms.map ((fun i : Nat => (i : Int)) ∘ Int.toNat) = ms.map id := List.map_congr_left fun x hx => by
        obtain ⟨i, _, e⟩ := List.mem_map.mp (h.mem_iff.mp hx)
        subst e
        rfl
      rw [this, List.map_id]
    refine ⟨ms.map Int.toNat :: rows', .cons ?_ h1, by rw [List.map_cons, ← h2, ← e]⟩
    have := h.map Int.toNat
    unfold zN at this
    rw [List.map_map] at this
    have e2 : r.map (Int.toNat ∘ fun i : Nat => (i : Int)) = r := by
      have : r.map (Int.toNat ∘ fun i : Nat => (i : Int)) = r.map id := List.map_congr_left fun x _ => rfl
      rw [this, List.map_id]
    rw [e2] at this
    exact this
theorem Mix.lay {gs hs : List Gate} (h : Mix gs hs) : ∃ o, Lay gs o ∧ hs = pickG gs o := by
  obtain ⟨rows, h1, h2⟩ := h
  exact ⟨_, lay_of h1, h2⟩
theorem zN_flat (rows : List (List Nat)) : (rows.map zN).flatten = zN rows.flatten := by
  unfold zN
  rw [List.map_flatten]
end
end LT


set_option Elab.async false
set_option linter.all false
set_option maxRecDepth 100000
set_option maxHeartbeats 2000000
namespace LT
open PySem PySem.Spec PyProof.Rows L2 Dl Mt ClX
section
variable {P : Program} {w : World} {K : PySem.W.Frag} {mg : Str → Option Value} {base : Heap}
def F_LLr (K : PySem.W.Frag) : Fn (Nat × List Gate) := ⟨["_law_pot_here", "_law_net", "_law_lanes_here", "_law_gates_here"], fun z => [iPot, iNet K z.1 z.2, nI z.1, rLst K (z.2.map (iG K))], fun z => NetOk z.1 z.2 ∧ z.2.length ≤ 16, fun _ => .v (iB true)⟩
theorem h_LLr (T : Txt K mg) : HasG P w K mg base 9 "_law_layers_right" (F_LLr K) := by
  refine hasG_df T.d_Llayers_right sc_Llayers_right b_Llayers_right rfl (fun _ => rfl) (k := 8) ?_
  intro f cdv A outer s H E z B L D hgd hr hp hM q hN
  obtain ⟨n, gs⟩ := z
  obtain ⟨ok, l16⟩ := hp
  replace ok : NetOk n gs := ok
  replace l16 : gs.length ≤ 16 := l16
  have n2 := ok.n2
  have lay := lay_rows gs
  have okM := ok.lay lay
  have rl : (rowsOf (lvs gs)).length ≤ 16 := by rw [rows_len]; have := nl_le gs; omega
  have rr : ∀ r ∈ rowsOf (lvs gs), r.length ≤ 16 ∧ ∀ x ∈ r, x < 16 := fun r h => ⟨by have := row_le h; rw [lvs_len] at this; omega, fun x hx => by have := rows_mem h hx; rw [lvs_len] at this; omega⟩
  have fl : (rowsOf (lvs gs)).flatten.length = gs.length := lay.len
  have sR := sw_rows rl rr
  have nd := sc_Llayers_right.nd
  have r8 := hr
  have ms : ((rowsOf (lvs gs)).map fun r => r.map nI).map (rLst K) = (rowsOf (lvs gs)).map (rRow K) := by rw [List.map_map]; rfl
  show Wp _ B L _ D [.val iPot, .val (iNet K n gs), .val (nI n), .val (rLst K (gs.map (iG K))), .no, .no, .no, .no, .no, .no, .no, .no, .no]
  refine w_set 4 (R := rRows K (rowsOf (lvs gs))) (EvR.lst (e_call (h_Llayers T) (hr.mono (by decide)) (n, gs) (a1 (e_var 3)) ⟨ok.few, ok.ok⟩)) nd ?_
  show Wp _ B L _ D [.val iPot, .val (iNet K n gs), .val (nI n), .val (rLst K (gs.map (iG K))), .val (rRows K (rowsOf (lvs gs))), .no, .no, .no, .no, .no, .no, .no, .no]
  refine w_spoil 5 6 (rows := (rowsOf (lvs gs)).map fun r => r.map nI) (by decide) nd (n_call (hB_layers T) (hr.mono (by decide)) (n, gs) (a1 (e_var 1)) ok) ?tst ?rw1 (by rw [List.length_map]; omega) (by show 5 < 13; decide) (by show 6 < 13; decide) ?_
  case rw1 =>
    intro Rs hR
    obtain ⟨r, h, rfl⟩ := List.mem_map.mp hR
    rw [List.length_map]
    have := (rr r h).1
    omega
  case tst =>
    show EvT _ _ [.val iPot, .val (iNet K n gs), .val (nI n), .val (rLst K (gs.map (iG K))), .val (rRows K (rowsOf (lvs gs))), .val (rLst K (((rowsOf (lvs gs)).map fun r => r.map nI).map (rLst K))), .no, .no, .no, .no, .no, .no, .no] _
    rw [ms]
    show EvT _ _ [.val iPot, .val (iNet K n gs), .val (nI n), .val (rLst K (gs.map (iG K))), .val (rRows K (rowsOf (lvs gs))), .val (rRows K (rowsOf (lvs gs))), .no, .no, .no, .no, .no, .no, .no] _
    refine EvW.t (t_orF (t_neZ (e_reprD (Rs := [rRows K (rowsOf (lvs gs)), rRows K (rowsOf (lvs gs))]) (R := iPot) hgd (hu64 hr) ?l1 (py_l2 (py_rows _) (py_rows _)) (sw_l2 (m := 1100000) sR sR (by decide)) (T.f "repr")) (e_reprD (Rs := [rRows K (rowsOf (lvs gs)), rRows K (rowsOf (lvs gs))]) (R := iPot) hgd (hu64 hr) ?l2 (py_l2 (py_rows _) (py_rows _)) (sw_l2 (m := 1100000) sR sR (by decide)) (T.f "repr"))) (t_or1 (t_neI (P := fun z => z = false) (A := fun z => z = (nl (lvs gs) : Int)) (B := fun z => z = (nl (lvs gs) : Int)) (Ev.toI (e_lenL (e_var 4) (T.f "len")) (by rw [List.length_map, rows_len])) (EvR.v (e_call (h_Llongest T) (hr.mono (by decide)) (n, gs) (a1 (e_var 3)) ⟨ok.few, ok.ok⟩)) fun x y h1 h2 => by rw [h1, h2, decide_eq_true rfl]; rfl)))
    case l1 =>
      refine EvR.lst (e_lst (a2 (e_var 5) ?ck) (by show 2 ≤ 100000; decide))
      exact ev_eq (congrArg (rLst K) ms) (EvR.lst (e_callW (w_layers T) (hr.mono (by decide)) (n, gs) (k1 (e_var 1)) rfl ok))
    case l2 => exact EvR.lst (e_lst (a2 (e_var 4) (e_var 4)) (by show 2 ≤ 100000; decide))
  show Wp _ B L _ D [.val iPot, .val (iNet K n gs), .val (nI n), .val (rLst K (gs.map (iG K))), .val (rRows K (rowsOf (lvs gs))), .no, .no, .no, .no, .no, .no, .no, .no]
  have mrow : (rowsOf (lvs gs)).map (rRow K) = ((rowsOf (lvs gs)).map zN).map (rInts K) := by
    rw [List.map_map]
    exact List.map_congr_left fun r _ => congrArg (rLst K) (nI_zN r).symm
  refine w_set 7 (R := iNet K n (pickG gs (rowsOf (lvs gs)).flatten)) (i_net (tb := false) T (hr.mono (by decide)) okM (e_var 2) (ev_eq (congrArg (rLst K) ?pk) (EvR.lst (e_compL 12 (xs := (rowsOf (lvs gs)).flatten) (c := nI) (fun j => iG K (gs.getD j g0)) nd ?src (by omega) fun j hj s H C cl fp => e_ixL (e_var 3) (e_var 12) (atI_gate (get_of (lay.lt hj))))))) nd ?_
  case pk => unfold pickG; rw [List.map_map]; rfl
  case src =>
    refine ev_eq (R := rLst K (((rowsOf (lvs gs)).map zN).flatten.map iI)) (congrArg (rLst K) (by rw [zN_flat, nI_zN])) (e_sumO rfl (ev_eq (congrArg (rLst K) mrow) (e_var 4)) (EvR.lst (e_lst (Rs := []) a_nil (by show 0 ≤ 100000; decide))) ?_ (T.f "sum"))
    rw [zN_flat]
    unfold zN
    rw [List.length_map]
    omega
  show Wp _ B L _ D [.val iPot, .val (iNet K n gs), .val (nI n), .val (rLst K (gs.map (iG K))), .val (rRows K (rowsOf (lvs gs))), .no, .no, .val (iNet K n (pickG gs (rowsOf (lvs gs)).flatten)), .no, .no, .no, .no, .no]
  refine w_setX 8 (P := fun z : Nat × Bool × List Gate => z.1 = n ∧ Mix gs z.2.2) (R := fun z => rIns (nC K) (fsN K z)) (e_makeE (fs := fsN K) (h_Net T) (hr.mono (by decide)) T.net (a2 (e_var 2) (EvR.xl (e_compLX 12 (Pb := fun yss => Paired (fun (r : List Nat) (ms : List Int) => ms.Perm (zN r)) (rowsOf (lvs gs)) yss) (xs := fun yss => yss.flatten) (c := fun _ => iI) (fun _ i => iG K (gs.getD i.toNat g0)) nd (e_sumX (rs := fun yss => yss) rfl (EvR.xl (evr_open (R := rInts K) (e_compL 6 (xs := rowsOf (lvs gs)) (c := rRow K) (fun r => rX (fun ms : List Int => ms.Perm (zN r)) fun ms => rInts K ms) nd (e_var 4) (by omega) fun r h s H C cl fp => ?mi) fun r _ => fun _ _ z => z)) (EvR.lst (e_lst (Rs := []) a_nil (by show 0 ≤ 100000; decide))) ?sz (T.f "sum")) ?sz2 fun yss hy i hi s H C cl fp => ?el))) ?op (fun _ => rfl) (fun _ => rfl) ?pre) nd ?_
  case mi =>
    refine EvR.xl (e_call (h_Lmixed T) (hr.mono (by decide)) (zN r) (a2 (e_var 0) (ev_eq (congrArg (rLst K) (nI_zN r).symm) (e_var 6))) ?_)
    show (zN r).length ≤ 400
    unfold zN
    rw [List.length_map]
    have := (rr r h).1
    omega
  case sz =>
    intro yss hy
    obtain ⟨rows, h1, h2⟩ := mix_of (gs := gs) hy
    rw [h2, zN_flat]
    unfold zN
    rw [List.length_map, (lay_of h1).len]
    omega
  case sz2 =>
    intro yss hy
    obtain ⟨rows, h1, h2⟩ := mix_of (gs := gs) hy
    rw [h2, zN_flat]
    unfold zN
    rw [List.length_map, (lay_of h1).len]
    omega
  case el =>
    obtain ⟨rows, h1, h2⟩ := mix_of (gs := gs) hy
    rw [h2, zN_flat] at hi
    obtain ⟨j, hj, rfl⟩ := List.mem_map.mp hi
    exact e_ixL (e_var 3) (e_var 12) (atI_gate (get_of ((lay_of h1).lt hj)))
  case op =>
    intro G vs h
    cases h with
    | cons r1 h => cases h with
      | cons r2 h =>
        cases h
        obtain ⟨yss, hy, r3⟩ := r2
        obtain ⟨rows, h1, h2⟩ := mix_of (gs := gs) hy
        refine ⟨(n, false, pickG gs rows.flatten), .cons r1 (.cons ?_ .nil), rfl, rows, h1, rfl⟩
        have e : (yss.flatten.map fun i => iG K (gs.getD i.toNat g0)) = (pickG gs rows.flatten).map (iG K) := by
          rw [h2, zN_flat]
          unfold zN pickG
          rw [List.map_map, List.map_map]
          rfl
        replace r3 : (rLst K (yss.flatten.map fun i => iG K (gs.getD i.toNat g0))).r G _ := r3
        rw [e] at r3
        exact r3
  case pre =>
    rintro ⟨m, tb, hs⟩ ⟨h1, h2⟩
    obtain ⟨o, h3, h4⟩ := h2.lay
    replace h1 : m = n := h1
    replace h4 : hs = pickG gs o := h4
    subst h1 h4
    exact ok.lay h3
  rintro ⟨m, tb, hs⟩ ⟨h1, h2⟩
  obtain ⟨o, lo, h4⟩ := h2.lay
  replace h1 : m = n := h1
  replace h4 : hs = pickG gs o := h4
  subst h1 h4
  have okX := ok.lay lo
  show Wp _ B L _ D [.val iPot, .val (iNet K m gs), .val (nI m), .val (rLst K (gs.map (iG K))), .val (rRows K (rowsOf (lvs gs))), .no, .no, .val (iNet K m (pickG gs (rowsOf (lvs gs)).flatten)), .val (iNet K m (pickG gs o)), .no, .no, .no, .no]
  refine w_ifF (EvW.t (t_orF (t_neZ (e_reprD (d := dRows (rowsOf (lvs gs))) (R := iPot) (Rs := (rowsOf (lvs gs)).map (rRow K)) hgd (hu64 hr) ?l1 (py_rows _) sR (T.f "repr")) (e_reprD (d := dRows (rowsOf (lvs gs))) (R := iPot) (Rs := (rowsOf (lvs gs)).map (rRow K)) hgd (hu64 hr) (e_var 4) (py_rows _) sR (T.f "repr"))) (t_orF (i_ne T (hr.mono (by decide)) (EvR.v (e_call (h_by T) hr (m, gs) (a1 (e_var 1)) ok)) (e_var 7)) (t_or1 (i_ne T (hr.mono (by decide)) (ev_eq (congrArg (iNet K m) (by_lay lay)) (EvR.v (e_callW (w_by T) hr (m, pickG gs (rowsOf (lvs gs)).flatten) (k1 (e_var 7)) rfl okM))) (e_var 7)))))) ?_
  case l1 => exact ev_eq (congrArg (rLst K) ms) (EvR.lst (e_call (h_layers T) (hr.mono (by decide)) (m, gs) (a1 (e_var 1)) ok))
  refine w_setX 9 (EvR.xl (e_call (h_Lcontent T) (hr.mono (by decide)) m (a2 (e_var 0) (e_var 2)) n2)) nd ?_
  rintro xs ⟨hx, _⟩
  show Wp _ B L _ D [.val iPot, .val (iNet K m gs), .val (nI m), .val (rLst K (gs.map (iG K))), .val (rRows K (rowsOf (lvs gs))), .no, .no, .val (iNet K m (pickG gs (rowsOf (lvs gs)).flatten)), .val (iNet K m (pickG gs o)), .val (rInts K xs), .no, .no, .no]
  refine w_ifF (EvW.t (t_orF (t_neY (hu64 hr) (d := dI (runG gs xs)) (EvR.lst (e_callC (h_Ncall T) (h_fi T) (hr.mono (by decide)) (m, pickG gs o, false, xs) (e_var 8) (a1 (e_var 9)) rfl ⟨okX, hx⟩)) (EvR.lst (e_callC (h_Ncall T) (h_fi T) (hr.mono (by decide)) (m, gs, false, xs) (e_var 1) (a1 (e_var 9)) rfl ⟨ok, hx⟩)) ?p1 (py_I _) (sh_I _)) (t_or1 (t_neY (hu64 hr) (d := dI (runG gs xs)) (EvR.lst (e_callC (h_Ncall T) (h_fi T) (hr.mono (by decide)) (m, pickG gs (rowsOf (lvs gs)).flatten, false, xs) (e_var 7) (a1 (e_var 9)) rfl ⟨okM, hx⟩)) (EvR.lst (e_callC (h_Ncall T) (h_fi T) (hr.mono (by decide)) (m, gs, false, xs) (e_var 1) (a1 (e_var 9)) rfl ⟨ok, hx⟩)) ?p2 (py_I _) (sh_I _))))) ?_
  case p1 =>
    show (rInts K (runG (pickG gs o) xs)).Py K _
    rw [run_lay lo ok.ok hx]
    exact py_I _
  case p2 =>
    show (rInts K (runG (pickG gs (rowsOf (lvs gs)).flatten) xs)).Py K _
    rw [run_lay lay ok.ok hx]
    exact py_I _
  refine w_parVO 10 11 (R := nI 0) rfl nd e_int (e_lst (Rs := []) a_nil (by show 0 ≤ 100000; decide)) ?_
  refine w_forL 6 (xs := rowsOf (lvs gs)) (c := rRow K) nd (e_var 4) (fun i sl => ∃ x, sl = [.val iPot, .val (iNet K m gs), .val (nI m), .val (rLst K (gs.map (iG K))), .val (rRows K (rowsOf (lvs gs))), .no, x, .val (iNet K m (pickG gs (rowsOf (lvs gs)).flatten)), .val (iNet K m (pickG gs o)), .val (rInts K xs), .val (nI (((rowsOf (lvs gs)).take i).map List.length).sum), .own ((blocksOf 0 (((rowsOf (lvs gs)).take i).map List.length)).map (rRow K)), .no]) ⟨_, rfl⟩ ?_ ?_
  · rintro i r L' sl' hi ⟨x, rfl⟩
    have tk : (rowsOf (lvs gs)).take (i + 1) = (rowsOf (lvs gs)).take i ++ [r] := by rw [List.take_succ, hi]; rfl
    have rb : r.length ≤ 16 := (rr r (List.mem_of_getElem? hi)).1
    have sb : (((rowsOf (lvs gs)).take i).map List.length).sum ≤ 16 := by
      have h1 := rows_sum gs
      have h2 : ((rowsOf (lvs gs)).map List.length) = (((rowsOf (lvs gs)).take i).map List.length) ++ (((rowsOf (lvs gs)).drop i).map List.length) := by rw [← List.map_append, List.take_append_drop]
      rw [h2, List.sum_append] at h1
      omega
    have ib : i < (rowsOf (lvs gs)).length := (List.getElem?_eq_some_iff.mp hi).1
    rw [tk, List.map_append, List.map_singleton, blocks_snoc, List.sum_append, List.map_append, Nat.zero_add]
    have s1 : ([r.length] : List Nat).sum = r.length := by simp
    rw [s1]
    generalize (((rowsOf (lvs gs)).take i).map List.length).sum = a at *
    have bl : (blocksOf 0 (((rowsOf (lvs gs)).take i).map List.length)).length ≤ 16 := by
      have : ∀ (ms : List Nat) (a : Nat), (blocksOf a ms).length = ms.length := by
        intro ms
        induction ms with
        | nil => intro a; rfl
        | cons m ms ih => intro a; show (blocksOf (a + m) ms).length + 1 = ms.length + 1; rw [ih]
      rw [this, List.length_map, List.length_take]
      omega
    generalize blocksOf 0 (((rowsOf (lvs gs)).take i).map List.length) = bs at *
    show Wp _ B L' _ _ [.val iPot, .val (iNet K m gs), .val (nI m), .val (rLst K (gs.map (iG K))), .val (rRows K (rowsOf (lvs gs))), .no, .val (rRow K r), .val (iNet K m (pickG gs (rowsOf (lvs gs)).flatten)), .val (iNet K m (pickG gs o)), .val (rInts K xs), .val (nI a), .own (bs.map (rRow K)), .no]
    refine w_append 11 (R := rRow K (blk a r.length)) rfl (ev_eq (congrArg (rLst K) (by unfold blk; rw [List.map_map]; rfl)) (EvR.lst (e_listRg2 (n := a) (m := r.length) (e_var 10) (e_addP (A := fun z => z = (a : Int)) (B := fun z => z = (r.length : Int)) (e_var 10) (Ev.toI (e_lenL (e_var 6) (T.f "len")) (by rw [List.length_map])) fun x y h1 h2 => by rw [h1, h2]) (by omega) (T.f "list") (T.f "range")))) (by rw [List.length_map]; omega) ?_
    refine w_set 10 (R := nI (a + r.length)) (e_addP (A := fun z => z = (a : Int)) (B := fun z => z = (r.length : Int)) (e_var 10) (Ev.toI (e_lenL (e_var 6) (T.f "len")) (by rw [List.length_map])) fun x y h1 h2 => by rw [h1, h2, Int.natCast_add]) nd ?_
    exact w_turn' ⟨_, rfl⟩
  · rintro sl' ⟨x, rfl⟩
    rw [List.take_length]
    refine w_freeze 11 hM rfl ?_
    show Wp _ B L _ D [.val iPot, .val (iNet K m gs), .val (nI m), .val (rLst K (gs.map (iG K))), .val (rRows K (rowsOf (lvs gs))), .no, x, .val (iNet K m (pickG gs (rowsOf (lvs gs)).flatten)), .val (iNet K m (pickG gs o)), .val (rInts K xs), .val (nI (((rowsOf (lvs gs))).map List.length).sum), .val (rRows K (blocksOf 0 ((rowsOf (lvs gs)).map List.length))), .no]
    refine w_ret (r := .v (iB true)) (Ev.r (e_andT (e_eqY (hu64 hr) (d := dRows (blocksOf 0 ((rowsOf (lvs gs)).map List.length))) (ev_eq (R := rLst K (((rowsOf (lvs (pickG gs o))).map fun r => r.map nI).map (rLst K))) (R' := rRows K (rowsOf (lvs (pickG gs o)))) (congrArg (rLst K) (by rw [List.map_map]; rfl)) (EvR.lst (e_call (h_layers T) (hr.mono (by decide)) (m, pickG gs o) (a1 (e_var 8)) okX))) (e_var 11) ?p1 (py_rows _) (sh_rows _)) (e_one (e_eqZ (z := (PyData.list [.bool true, .bool true]).shown) (e_reprD (Rs := [iB true, iB true]) (R := iPot) hgd (hu64 hr) ?l1 (py_l2 (py_bool _) (py_bool _)) (sw_l2 (m := 4000) (sw_bool (n := 0) _) (sw_bool _) (by decide)) (T.f "repr")) (ev_eq (congrArg iS ?tx) e_str))))) hM q
    case p1 =>
      rw [rows_lay lo]
      exact py_rows _
    case tx => decide +kernel
    case l1 => exact EvR.lst (e_lst (a2 (EvR.v (e_call (h_shuffle T) (hr.mono (by decide)) (m, gs, pickG gs (rowsOf (lvs gs)).flatten) (a2 (e_var 1) (e_var 7)) ⟨ok, okM, fun l => (ofL_pick lay l).symm⟩)) (EvR.v (e_call (h_shuffle T) (hr.mono (by decide)) (m, pickG gs o, gs) (a2 (e_var 8) (e_var 1)) ⟨okX, ok, fun l => ofL_pick lo l⟩))) (by show 2 ≤ 100000; decide))
end
end LT


set_option Elab.async false
set_option linter.all false
set_option maxRecDepth 100000
set_option maxHeartbeats 2000000
namespace Dl
open PySem PySem.Spec PyProof.Rows L2 ClX
section
variable {X : Cx} {B : Base} {L : Hp} {sl : List Ent} {D : Ends} {pos : Pos} {rest : List Stmt}
/-- x, y = e, a list of two, the names held in cells or not -/
theorem w_unl2C (i j : Nat) {x y : Str} {e : Expr} {px py pt : Pos} {kt} {R1 R2 : RV} (hc : X.calm = true) (hN : X.N.Nodup) (h : Ev X e sl (rLst X.K [R1, R2])) (k : Wp X B L rest D ((sl.set i (.val R1)).set j (.val R2))) (hi : X.N[i]? = some x := by rfl) (hj : X.N[j]? = some y := by rfl)
    (hx : Loc X.env.scope x := by first | exact Or.inl rfl | exact Or.inr rfl) (hy : Loc X.env.scope y := by first | exact Or.inl rfl | exact Or.inr rfl) (fx : X.fn x = true ∨ X.env.scope.names.lookup x = some .local := by first | exact .inl rfl | exact .inr rfl) (fy : X.fn y = true ∨ X.env.scope.names.lookup y = some .local := by first | exact .inl rfl | exact .inr rfl)
    (hs : swapsWithSole [.Tuple [.Name x px, .Name y py] kt pt] e pos.line X.env = pure false := by rfl) (hw : swappedStores [.Tuple [.Name x px, .Name y py] kt pt] e X.env = pure none := by rfl)
    (h1 : (assignEach [.Tuple [.Name x px, .Name y py] kt pt] X.env).map (·.2) = [assign (.Tuple [.Name x px, .Name y py] kt pt) X.env] := by rfl) : Wp X B L (.Assign [.Tuple [.Name x px, .Name y py] kt pt] e pos :: rest) D sl :=
  wp_of (ps_asg pcan (pg_unl hc (pgs_cons (pg_name (i := i) hN hi hx fx) (pgs_cons (pg_name (i := j) hN hj hy fy) pgs_nil))) hs hw h1) fun σ G H a => h.can a.sat fun v G1 H1 g1 ⟨t, vs, e1, q1, r1⟩ => by
    obtain ⟨u1, u2, rfl, k1, k2⟩ := pv2 r1
    exact ⟨t, _, e1, g1.s.seq q1, rfl, _, _, rfl, _, _, rfl, rfl, k _ G1 H1 (((a.go g1).set i k1).set j k2)⟩
/-- x, y = e1, e2, each one of several, the names held in cells or not -/
theorem w_parXC (i j : Nat) {x y : Str} {a b : Expr} {px py pt : Pos} {kt k2 pt2} {α β : Type} {P1 : α → Prop} {P2 : β → Prop} {R1 : α → RV} {R2 : β → RV} (hc : X.calm = true) (hN : X.N.Nodup) (h1 : Ev X a sl (rX P1 R1)) (h2 : Ev X b sl (rX P2 R2)) (k : ∀ u v, P1 u → P2 v → Wp X B L rest D ((sl.set i (.val (R1 u))).set j (.val (R2 v)))) (hi : X.N[i]? = some x := by rfl) (hj : X.N[j]? = some y := by rfl)
    (hx : Loc X.env.scope x := by first | exact Or.inl rfl | exact Or.inr rfl) (hy : Loc X.env.scope y := by first | exact Or.inl rfl | exact Or.inr rfl) (fx : X.fn x = true ∨ X.env.scope.names.lookup x = some .local := by first | exact .inl rfl | exact .inr rfl) (fy : X.fn y = true ∨ X.env.scope.names.lookup y = some .local := by first | exact .inl rfl | exact .inr rfl)
    (hs : swapsWithSole [.Tuple [.Name x px, .Name y py] kt pt] (.Tuple [a, b] k2 pt2) pos.line X.env = pure false := by rfl) (hw : swappedStores [.Tuple [.Name x px, .Name y py] kt pt] (.Tuple [a, b] k2 pt2) X.env = pure none := by rfl)
    (ha : (assignEach [.Tuple [.Name x px, .Name y py] kt pt] X.env).map (·.2) = [assign (.Tuple [.Name x px, .Name y py] kt pt) X.env] := by rfl) (he : starEach [a, b] X.env = (false, eval a X.env) :: starEach [b] X.env := by rfl) (he' : starEach [b] X.env = [(false, eval b X.env)] := by rfl) :
    Wp X B L (.Assign [.Tuple [.Name x px, .Name y py] kt pt] (.Tuple [a, b] k2 pt2) pos :: rest) D sl :=
  wp_of (ps_asg (pe_tup (pa_cons pcan (pa_cons pcan pa_nil he') he)) (pg_tup hc (pgs_cons (pg_name (i := i) hN hi hx fx) (pgs_cons (pg_name (i := j) hN hj hy fy) pgs_nil))) hs hw ha) fun σ G H z => h1.can z.sat fun v1 G1 H1 g1 ⟨u, pu, r1⟩ => h2.can (z.sat.gr g1) fun v2 G2 H2 g2 ⟨v, pv, r2⟩ =>
    ⟨by show 2 ≤ _; rw [sizeLine_eq]; decide, fun t ht => ⟨t, _, rfl, SqT.of upd_same, rfl, _, _, rfl, _, _, rfl, rfl, k u v pu pv _ G2 _ (((z.go ((g1.trans g2).trans (Gr.newOut g2.s ht))).set i ((R1 u).m g2.g r1)).set j r2)⟩⟩
end
end Dl


set_option Elab.async false
set_option linter.all false
set_option maxRecDepth 100000
set_option maxHeartbeats 2000000
namespace LT
open PySem PySem.Spec PyProof.Rows L2 Dl Mt ClX
theorem rep4 {α : Type} (x : α) : (List.replicate 4 [x]).flatten = [x, x, x, x] := rfl
section
variable {P : Program} {w : World} {K : PySem.W.Frag} {mg : Str → Option Value} {base : Heap}
def F_LCr (K : PySem.W.Frag) : Fn (Nat × List Gate × Nat) := ⟨["_law_pot_here", "_law_net", "_law_lanes_here", "_law_gates_here", "_law_lane"], fun z => [iPot, iNet K z.1 z.2.1, nI z.1, rLst K (z.2.1.map (iG K)), nI z.2.2], fun z => NetOk z.1 z.2.1 ∧ z.2.1.length ≤ 16 ∧ z.2.2 < z.1, fun _ => .v (iB true)⟩
theorem h_LCr (T : Txt K mg) : HasG P w K mg base 9 "_law_cone_right" (F_LCr K) := by
  refine hasG_df T.d_Lcone_right sc_Lcone_right b_Lcone_right rfl (fun _ => rfl) (k := 8) ?_
  intro f cdv A outer s H E z B L D hgd hr hp hM q hN
  obtain ⟨n, gs, l⟩ := z
  obtain ⟨ok, l16, hl⟩ := hp
  replace ok : NetOk n gs := ok
  replace l16 : gs.length ≤ 16 := l16
  replace hl : l < n := hl
  have n1 := ok.n1
  have n2 := ok.n2
  have nd := sc_Lcone_right.nd
  have r7 : Room 7 _ := hr.mono (by decide)
  have okC := ok.con [l]
  have ll : ∀ x ∈ [l], x < n := by simpa using hl
  have pl : (conP gs 0 [l]).1.length ≤ 16 := Nat.le_trans (con_len gs [l]) l16
  have pm : ∀ x ∈ (conP gs 0 [l]).1, x < gs.length := fun x hx => con_lt hx
  have s2 : (conP gs 0 [l]).2 = (conG gs [l]).2 := con_snd gs 0 [l]
  have sm : ∀ x, x ∈ srt (conP gs 0 [l]).2 ↔ x ∈ (conG gs [l]).2 := fun x => by rw [s2]; exact (srt_perm _).mem_iff
  have sm2 : ∀ x ∈ srt (conP gs 0 [l]).2, x < n := fun x hx => con_ok ok.ok ll x ((sm x).mp hx)
  have sl : (srt (conP gs 0 [l]).2).length ≤ 12 := by
    rw [(srt_perm _).length_eq, s2]
    exact Nat.le_trans (nd_len n (con_nodup gs (by simp)) (con_ok ok.ok ll)) n2
  have swP := sw_row pl fun x hx => Nat.lt_of_lt_of_le (pm x hx) l16
  have swS := sw_row (r := srt (conP gs 0 [l]).2) (by omega) fun x hx => by have := sm2 x hx; omega
  show Wp _ B L _ D [.val iPot, .val (iNet K n gs), .val (nI n), .val (rLst K (gs.map (iG K))), .val (nI l), .no, .no, .no, .no, .no, .no, .no, .no, .no, .no]
  refine w_unl2C 5 6 (R1 := rRow K (conP gs 0 [l]).1) (R2 := rRow K (srt (conP gs 0 [l]).2)) rfl nd (EvR.lst (e_call (h_Lcone T) (hr.mono (by decide)) (n, gs, l) (a2 (e_var 3) (e_var 4)) ⟨ok, hl⟩)) ?_
  show Wp _ B L _ D [.val iPot, .val (iNet K n gs), .val (nI n), .val (rLst K (gs.map (iG K))), .val (nI l), .val (rRow K (conP gs 0 [l]).1), .val (rRow K (srt (conP gs 0 [l]).2)), .no, .no, .no, .no, .no, .no, .no, .no]
  refine w_ifF (t_neZ (e_reprD (Rs := [rRow K (conP gs 0 [l]).1, rRow K (conP gs 0 [l]).1]) (R := iPot) hgd (hu64 hr) (EvR.lst (e_lst (a2 (EvR.lst (e_call (h_cone T) r7 (n, gs, l) (a2 (e_var 1) (e_var 4)) ⟨ok, hl⟩)) (EvR.lst (e_callW (w_cone T) r7 (n, gs, l) (k2 (e_var 4) (e_var 1)) rfl ⟨ok, hl⟩))) (by show 2 ≤ 100000; decide))) (py_l2 (py_row _) (py_row _)) (sw_l2 (m := 70000) swP swP (by decide)) (T.f "repr")) (e_reprD (Rs := [rRow K (conP gs 0 [l]).1, rRow K (conP gs 0 [l]).1]) (R := iPot) hgd (hu64 hr) (EvR.lst (e_lst (a2 (e_var 5) (e_var 5)) (by show 2 ≤ 100000; decide))) (py_l2 (py_row _) (py_row _)) (sw_l2 (m := 70000) swP swP (by decide)) (T.f "repr"))) ?_
  refine w_ifF (t_neZ (e_reprD (Rs := [rRow K (srt (conP gs 0 [l]).2), rRow K (srt (conP gs 0 [l]).2)]) (R := iPot) hgd (hu64 hr) (EvR.lst (e_lst (a2 (EvR.lst (e_call (h_looked T) r7 (n, gs, l) (a2 (e_var 1) (e_var 4)) ⟨ok, hl⟩)) (EvR.lst (e_callW (w_looked T) r7 (n, gs, l) (k2 (e_var 4) (e_var 1)) rfl ⟨ok, hl⟩))) (by show 2 ≤ 100000; decide))) (py_l2 (py_row _) (py_row _)) (sw_l2 (m := 70000) swS swS (by decide)) (T.f "repr")) (e_reprD (Rs := [rRow K (srt (conP gs 0 [l]).2), rRow K (srt (conP gs 0 [l]).2)]) (R := iPot) hgd (hu64 hr) (EvR.lst (e_lst (a2 (e_var 6) (e_var 6)) (by show 2 ≤ 100000; decide))) (py_l2 (py_row _) (py_row _)) (sw_l2 (m := 70000) swS swS (by decide)) (T.f "repr"))) ?_
  refine w_app1 (e_call (h_cone T) r7 (n, gs, l) (a2 (e_var 1) (e_var 4)) ⟨ok, hl⟩) (by rw [List.length_map]; show (conP gs 0 [l]).1.length ≤ 1000; omega) ?_
  refine w_app1 (e_call (h_looked T) r7 (n, gs, l) (a2 (e_var 1) (e_var 4)) ⟨ok, hl⟩) (by rw [List.length_map]; show (srt (conP gs 0 [l]).2).length ≤ 1000; omega) ?_
  refine w_set 7 (R := iNet K n (conG gs [l]).1) (EvR.v (e_call (h_cnet T) hr (n, gs, l) (a2 (e_var 1) (e_var 4)) ⟨ok, hl⟩)) nd ?_
  show Wp _ B L _ D [.val iPot, .val (iNet K n gs), .val (nI n), .val (rLst K (gs.map (iG K))), .val (nI l), .val (rRow K (conP gs 0 [l]).1), .val (rRow K (srt (conP gs 0 [l]).2)), .val (iNet K n (conG gs [l]).1), .no, .no, .no, .no, .no, .no, .no]
  refine w_ifF (EvW.t (t_orF (i_ne T (hr.mono (by decide)) (e_var 7) (i_net (tb := false) T r7 okC (e_var 2) (ev_eq (congrArg (rLst K) ?pk) (EvR.lst (e_compL 13 (xs := (conP gs 0 [l]).1) (c := nI) (fun j => iG K (gs.getD j g0)) nd (e_var 5) (by omega) fun j hj s H C cl fp => e_ixL (e_var 3) (e_var 13) (atI_gate (get_of (pm j hj)))))))) (t_or1 (i_ne T (hr.mono (by decide)) (EvR.v (e_callW (w_cnet T) hr (n, gs, l) (k2 (e_var 4) (e_var 1)) rfl ⟨ok, hl⟩)) (e_var 7))))) ?_
  case pk => rw [← con_pick]; unfold pickG; rw [List.map_map]; rfl
  refine w_ifF (EvW.t (t_orF (t_neY (hu64 hr) (EvR.lst (e_call (h_cone T) r7 (n, gs, l) (a2 (e_var 1) (e_var 4)) ⟨ok, hl⟩)) (e_var 5) (py_row _) (py_row _) (sh_row _)) (t_orF (t_neY (hu64 hr) (EvR.lst (e_call (h_looked T) r7 (n, gs, l) (a2 (e_var 1) (e_var 4)) ⟨ok, hl⟩)) (e_var 6) (py_row _) (py_row _) (sh_row _)) (t_or1 (i_ne T (hr.mono (by decide)) (ev_eq (congrArg (iNet K n) (congrArg Prod.fst (con_again gs [l]))) (EvR.v (e_call (h_cnet T) hr (n, (conG gs [l]).1, l) (a2 (e_var 7) (e_var 4)) ⟨okC, hl⟩))) (e_var 7)))))) ?_
  refine w_forR 8 (m := 2) nd e_int (by decide) (by decide) (T.f "range") (fun i sl => ∃ a b c d e, sl = [.val iPot, .val (iNet K n gs), .val (nI n), .val (rLst K (gs.map (iG K))), .val (nI l), .val (rRow K (conP gs 0 [l]).1), .val (rRow K (srt (conP gs 0 [l]).2)), .val (iNet K n (conG gs [l]).1), a, b, c, d, e, .no, .no]) ⟨_, _, _, _, _, rfl⟩ ?_ ?_
  · rintro i L' sl' hi ⟨a, b, c, d, e, rfl⟩
    refine w_parXC 9 10 rfl nd (EvR.xl (e_call (h_Lcontent T) (hr.mono (by decide)) n (a2 (e_var 0) (e_var 2)) n2)) (EvR.xl (e_call (h_Lcontent T) (hr.mono (by decide)) n (a2 (e_var 0) (e_var 2)) n2)) ?_
    rintro xs ys ⟨hx, _⟩ ⟨hy, _⟩
    show Wp _ B L' _ _ [.val iPot, .val (iNet K n gs), .val (nI n), .val (rLst K (gs.map (iG K))), .val (nI l), .val (rRow K (conP gs 0 [l]).1), .val (rRow K (srt (conP gs 0 [l]).2)), .val (iNet K n (conG gs [l]).1), .val (iI (i : Int)), .val (rInts K xs), .val (rInts K ys), d, e, .no, .no]
    generalize hz : ((List.range n).map fun j => if j ∈ srt (conP gs 0 [l]).2 then xs.getD j 0 else ys.getD j 0) = zs
    have lz : zs.length = n := by rw [← hz, List.length_map, List.length_range]
    have az : ∀ j ∈ (conG gs [l]).2, xs.getD j 0 = zs.getD j 0 := fun j hj => by
      have jn := con_ok ok.ok ll j hj
      rw [← hz, List.getD_eq_getElem?_getD (l := (List.range n).map _), List.getElem?_map, List.getElem?_range jn]
      show _ = if _ then _ else _
      rw [if_pos ((sm j).mpr hj)]
    have v1 : (runG (conG gs [l]).1 xs).getD l 0 = (runG gs xs).getD l 0 := (con_run ok.ok hx hx (fun _ _ => rfl) l (List.mem_singleton.mpr rfl)).symm
    have v2 : (runG (conG gs [l]).1 zs).getD l 0 = (runG gs xs).getD l 0 := (con_run ok.ok hx lz az l (List.mem_singleton.mpr rfl)).symm
    have v3 : (runG gs zs).getD l 0 = (runG gs xs).getD l 0 := (con_run (s := [l]) ok.ok lz lz (fun _ _ => rfl) l (List.mem_singleton.mpr rfl)).trans v2
    refine w_setCompR (m := n) 11 14 (fun j => iI (if j ∈ srt (conP gs 0 [l]).2 then xs.getD j 0 else ys.getD j 0)) nd (e_var 2) (by omega) (T.f "range") (fun j hj s H C cl fp => ?el) ?_
    case el =>
      refine e_if (P := fun z => z = decide ((j : Int) ∈ zN (srt (conP gs 0 [l]).2))) (t_inI (x := (j : Int)) (e_var 14) (ev_eq (congrArg (rLst K) (nI_zN _).symm) (e_var 6))) (fun h => ?_) (fun h => ?_)
      · rw [if_pos (zN_mem.mp (of_decide_eq_true h.symm))]
        exact e_ixL (e_var 9) (e_var 14) (atI_int (by omega))
      · rw [if_neg (fun z => of_decide_eq_false h.symm (zN_mem.mpr z))]
        exact e_ixL (e_var 10) (e_var 14) (atI_int (by omega))
    refine w_freeze 11 hM rfl ?_
    have ez : ((List.range n).map fun j => iI (if j ∈ srt (conP gs 0 [l]).2 then xs.getD j 0 else ys.getD j 0)) = zs.map iI := by rw [← hz, List.map_map]; rfl
    rw [ez]
    show Wp _ B L' _ _ [.val iPot, .val (iNet K n gs), .val (nI n), .val (rLst K (gs.map (iG K))), .val (nI l), .val (rRow K (conP gs 0 [l]).1), .val (rRow K (srt (conP gs 0 [l]).2)), .val (iNet K n (conG gs [l]).1), .val (iI (i : Int)), .val (rInts K xs), .val (rInts K ys), .val (rInts K zs), e, .no, .no]
    have at1 : ∀ (hs : List Gate) (us : List Int), us.length = n → (runG hs us).getD l 0 = (runG gs xs).getD l 0 → atI ((runG hs us).map iI) (l : Int) = some (iI ((runG gs xs).getD l 0)) := fun hs us h1 h2 => by
      rw [← h2]
      exact atI_int (by rw [runG_len, h1]; exact hl)
    refine w_set 12 (R := rLst K [iI ((runG gs xs).getD l 0), iI ((runG gs xs).getD l 0), iI ((runG gs xs).getD l 0), iI ((runG gs xs).getD l 0)]) (EvR.lst (e_lst (a_cons ?c1 (a_cons ?c2 (a2 ?c3 ?c4))) (by show 4 ≤ 100000; decide))) nd ?_
    case c1 => exact e_ixL (EvR.lst (e_callC (h_Ncall T) (h_fi T) (hr.mono (by decide)) (n, gs, false, xs) (e_var 1) (a1 (e_var 9)) rfl ⟨ok, hx⟩)) (e_var 4) (at1 _ _ hx rfl)
    case c2 => exact e_ixL (EvR.lst (e_callC (h_Ncall T) (h_fi T) (hr.mono (by decide)) (n, (conG gs [l]).1, false, xs) (e_var 7) (a1 (e_var 9)) rfl ⟨okC, hx⟩)) (e_var 4) (at1 _ _ hx v1)
    case c3 => exact e_ixL (EvR.lst (e_callC (h_Ncall T) (h_fi T) (hr.mono (by decide)) (n, gs, false, zs) (e_var 1) (a1 (e_var 11)) rfl ⟨ok, lz⟩)) (e_var 4) (at1 _ _ lz v3)
    case c4 => exact e_ixL (EvR.lst (e_callC (h_Ncall T) (h_fi T) (hr.mono (by decide)) (n, (conG gs [l]).1, false, zs) (e_var 7) (a1 (e_var 11)) rfl ⟨okC, lz⟩)) (e_var 4) (at1 _ _ lz v2)
    generalize (runG gs xs).getD l 0 = v
    refine w_ifF (t_neY (hu64 hr) (d := dI [v, v, v, v]) (e_var 12) (EvR.lst (e_rep (n := 4) (Rs := [iI v]) (e_slToL (m := 1) (Rs := [iI v, iI v, iI v, iI v]) (e_var 12) e_int (by show 1 ≤ 4; decide)) e_int (by decide) (by show 1 * 4 ≤ 100000; decide))) (py_I [v, v, v, v]) (py_I [v, v, v, v]) (sh_I _)) (w_turn' ⟨_, _, _, _, _, rfl⟩)
  · rintro sl' ⟨a, b, c, d, e, rfl⟩
    exact w_ret (r := .v (iB true)) (Ev.r e_bl) hM q
end
end LT


set_option Elab.async false
set_option linter.all false
set_option maxRecDepth 100000
set_option maxHeartbeats 2000000
namespace Dl
open PySem PySem.Spec PyProof.Rows L2 ClX
section
variable {X : Cx} {sl : List Ent} {pos : Pos} {elt a b : Expr} {y : Str} {py p1 p2 : Pos} {scope : Scope} {i0 m : Nat}
theorem src_range2 {j : Nat} (h : Ev X a sl (iI (i0 : Int))) (h' : Ev X b sl (iI ((i0 + m : Nat) : Int))) (hn : i0 + m ≤ 90000) (he : starEach [a, b] X.env = (false, eval a X.env) :: starEach [b] X.env := by rfl) (he' : starEach [b] X.env = [(false, eval b X.env)] := by rfl) : Src (iRng2 (canA X [a, b])) (gName j) sl m [j] (fun i => [iI ((i0 + i : Nat) : Int)]) := fun σ G H R z k => (a2 h h' he he').can z fun vs G1 H1 g1 r => by
  cases r with
  | cons r1 r => cases r with
    | cons r2 r =>
      cases r
      obtain ⟨_, e1, q1⟩ := r1
      obtain ⟨_, e2, q2⟩ := r2
      subst e1 q1 e2 q2
      have em : (((i0 + m : Nat) : Int) - (i0 : Int)).toNat = m := by omega
      refine ⟨_, _, rfl, ⟨by omega, by omega, by omega, by omega⟩, ?_⟩
      rw [em]
      refine k _ G1 H1 g1 ⟨fun i G2 H2 hi s1 s2 => hi, fun G2 H2 s1 s2 => Nat.le_refl _, fun i σ G2 H2 x H' K hi s1 s2 y kk => ?_⟩
      obtain ⟨rfl, rfl⟩ := y
      exact kk _ G2 H' (.refl s2) (.cons ⟨_, rfl, by omega⟩ .nil)
/-- [.. for y in range(i0, i0 + m)] -/
theorem e_compR2 (j : Nat) (d : Nat → RV) (hN : X.N.Nodup) (src : Ev X a sl (iI (i0 : Int))) (src' : Ev X b sl (iI ((i0 + m : Nat) : Int))) (hn : i0 + m ≤ 90000) (hm : X.mg "range" = none)
    (el : ∀ i : Nat, i < m → ∀ s H C cl fp, Ev (blkX X scope s H C cl fp) elt (setE (wipeE sl [j]) [j] [iI ((i0 + i : Nat) : Int)]) (d i)) (hc : X.calm = true := by rfl) (hg : Gl X "range" := by rfl) (he : starEach [a, b] X.env = (false, eval a X.env) :: starEach [b] X.env := by rfl) (he' : starEach [b] X.env = [(false, eval b X.env)] := by rfl) (hj : X.N[j]? = some y := by rfl) (hl : (relabel scope X.env).names.lookup y = some .local := by rfl) (hb : blkC X.N X.env.scope scope [(y, j)] = true := by kernel_rfl)
    (hf : ∀ x, foldedSetIterable (.Call (.Name "range" p1) [a, b] [] p2) X.env x = pure x := by intro _; rfl) : EvR X (.ListComp elt [⟨.Name y py, .Call (.Name "range" p1) [a, b] [] p2, [], 0⟩] scope pos) sl (.l ((List.range m).map d)) :=
  e_lc (own := [(y, j)]) (pos := pos) (g := gName j) hc hN (pi_range2 hg hm pcanA (by rw [he, he']) he') (blkOk_by hb) (fun s H C cl fp => pg_name hN hj (.inl hl) (.inr hl)) (src_range2 src src' hn he he') (by simp) (by omega) d (fun i hi s H C cl fp => el i hi s H C cl fp) hf (elt := elt)
end
end Dl


set_option Elab.async false
set_option linter.all false
set_option maxRecDepth 100000
set_option maxHeartbeats 2000000
namespace Dl
open PySem PySem.Spec PyProof.Rows L2 ClX
section
variable {X : Cx} {sl : List Ent} {pos p p0 p2 : Pos} {a b c : Expr} {i j k : Int} {n : Nat}
theorem vals_step {acc : Array Value} (h : ItemsOf (fun m v => ∃ t, v = .int (i + m * k) t) acc n) : Vals ((List.range n).map fun m : Nat => V.int (i + (m : Int) * k)) acc.toList := by
  have e : acc.toList.length = n := by rw [Array.length_toList]; exact h.1
  rw [← e]
  refine vals_of_get acc.toList _ fun m u hm => ?_
  obtain ⟨t, rfl⟩ := h.2 m u (by rw [← hm, Array.getElem?_toList])
  exact ⟨t, rfl⟩
/-- list(range(i, j, k)) -/
theorem e_listRg3 (h1 : Ev X a sl (iI i)) (h2 : Ev X b sl (iI j)) (h3 : Ev X c sl (iI k)) (rg : RgC i j k n) (hn : n ≤ 100000) (hml : X.mg "list" = none) (hmr : X.mg "range" = none) (hc : X.calm = true := by rfl) (hgl : Gl X "list" := by rfl) (hgr : Gl X "range" := by rfl) (he : starEach [a, b, c] X.env = (false, eval a X.env) :: starEach [b, c] X.env := by rfl) (he1 : starEach [b, c] X.env = (false, eval b X.env) :: starEach [c] X.env := by rfl) (he2 : starEach [c] X.env = [(false, eval c X.env)] := by rfl) (hpl : (backTo p (starEach [b, c] X.env)).any (·.1) = false := by rfl) (hne : starEach [.Call (.Name "range" p2) [a, b, c] [] p] X.env = (false, eval (.Call (.Name "range" p2) [a, b, c] [] p) X.env) :: starEach [] X.env := by rfl) :
    EvR X (.Call (.Name "list" p0) [.Call (.Name "range" p2) [a, b, c] [] p] [] pos) sl (.l ((List.range n).map fun m : Nat => iI (i + (m : Int) * k))) := by
  intro pins s σ G H Q I z q
  obtain ⟨c0, c1, c2, c3⟩ := rg
  have ha : canA X [a, b, c] σ H (fun vs H1 => ∃ G1, vs = [.int i, .int j, .int k] ∧ Gr G H G1 H1) := (a_cons h1 (a2 h2 h3 he1 he2) he).can z fun vs G1 H1 g1 r => by
    cases r with
    | cons r1 r => cases r with
      | cons r2 r => cases r with
        | cons r3 r =>
          cases r
          obtain ⟨_, e1, q1⟩ := r1
          obtain ⟨_, e2, q2⟩ := r2
          obtain ⟨_, e3, q3⟩ := r3
          subst e1 q1 e2 q2 e3 q3
          exact ⟨G1, rfl, g1⟩
  refine Call_ (ld_blt I hgl hml boot_list (PyProof.Rows.callWith_type1 (args_cons (thn (Q := fun x s' => ∃ r t u v G1 H1, x = .ref r ∧ IsRange s'.heap r i j k t u v ∧ Inv X pins σ H1 s' ∧ Gr G H G1 H1) ?rng fun x s1 ⟨r, t, u, v, G1, H1, ex, hr, I1, g1⟩ => args_nil ?_) hne) hne))
  case rng =>
    refine Call_ (ld_blt I hgr hmr boot_range (PyProof.Rows.callWith_type1 (thn (pcanA.run p pins s σ H _ I ha) fun us s1 ⟨vs, H1, I1, r1, G1, e, g1⟩ => ?_) he hpl))
    subst e
    cases r1 with
    | cons r rr => cases rr with
      | cons r' rr => cases rr with
        | cons r'' rr =>
          cases rr
          obtain ⟨t, rfl⟩ := r
          obtain ⟨t', rfl⟩ := r'
          obtain ⟨t'', rfl⟩ := r''
          exact call_range_3 c0 ⟨_, _, _, _, G1, H1, rfl, IsRange.new .., I1.kept fun b u e => Heap.get?_push_of_some _ e, g1⟩ (.inl (PyProof.noPylong_small c1))
  · subst ex
    refine call_list_range (n := n) (I1.ok.hd hc) hr c2 c3 (by omega) fun h' tk acc c' hk e' hi => ?_
    have fr := I1.hok.fresh (Nat.le_refl _)
    refine ⟨.ref s1.heap.objs.size, upd H1 s1.heap.objs.size (.lst ((List.range n).map fun m : Nat => V.int (i + (m : Int) * k))), I1.laid hk (Nat.le_refl _) (show ObjOk X.prog X.w _ _ _ (.lst _) from ⟨?_, acc.toList, c', vals_step hi, ?_⟩), rfl, q _ _ G1 _ (g1.trans (Gr.newOut g1.s fr)) (g1.hs.free fr) (g1.s.free fr) upd_same ?_⟩
    · rw [List.length_map, List.length_range, sizeLine_eq]; omega
    · rw [Array.toArray_toList]; exact e'
    · have := PVs.ofInts (G := G1) ((List.range n).map fun m : Nat => (i + (m : Int) * k))
      rw [List.map_map, List.map_map] at this
      exact this
end
end Dl


set_option Elab.async false
set_option linter.all false
set_option maxRecDepth 100000
set_option maxHeartbeats 2000000
namespace Mt
theorem srt_eq {s t : List Nat} (h : t.Perm s) (h2 : t.Pairwise (· ≤ ·)) : srt s = t :=
  List.Perm.eq_of_pairwise (le := (· ≤ ·)) (fun a b _ _ h h' => Nat.le_antisymm h h') (srt_rise s) h2 ((srt_perm s).trans h.symm)
def cGs : List Gate := (List.range 11).map fun i : Nat => ⟨.high, i + 1, (i : Int)⟩
theorem c_rows : rowsOf (lvs cGs) = (List.range 11).map fun i => [i] := by decide +kernel
theorem c_con : (conP cGs 0 [4]).1 = [0, 1, 2, 3] := by decide +kernel
theorem c_seen : srt (conP cGs 0 [11]).2 = List.range 12 := srt_eq (by decide +kernel) (by decide +kernel)
def kGs : List Gate := [⟨.low, 0, 1⟩, ⟨.copy, 0, 2⟩, ⟨.sort, 1, 0⟩, ⟨.copy, 2, 1⟩]
theorem k_con : (conP kGs 0 [2]).1 = [1, 2, 3] := by decide +kernel
theorem k_seen2 : srt (conP kGs 0 [2]).2 = [1, 2] := srt_eq (by decide +kernel) (by decide +kernel)
theorem k_seen0 : srt (conP kGs 0 [0]).2 = [1, 2] := srt_eq (by decide +kernel) (by decide +kernel)
def pGs : List Gate := (List.replicate 200 [(⟨.add, 0, 1⟩ : Gate), ⟨.add, 2, 1⟩]).flatten
theorem p_con : (conP pGs 0 [2]).1 = (List.range 200).map fun i => 2 * i + 1 := by decide +kernel
def pLs : List Nat := (List.range 400).map (· / 2)
theorem p_lvs : lvs pGs = pLs := by decide +kernel
theorem p_rise : pLs.Pairwise (· ≤ ·) := List.pairwise_map.mpr (List.pairwise_lt_range.imp fun h => Nat.div_le_div_right (Nat.le_of_lt h))
theorem p_rows : rowsOf (lvs pGs) = (List.range 200).map fun i => [2 * i, 2 * i + 1] := by
  rw [p_lvs]
  unfold rowsOf
  rw [rows_rise p_rise]
  decide +kernel
end Mt


set_option Elab.async false
set_option linter.all false
set_option maxRecDepth 100000
set_option maxHeartbeats 2000000
namespace LT
open PySem PySem.Spec PyProof.Rows L2 Dl Mt ClX
theorem se_c {env : Env} {c : Const} {j} {p : Pos} {es : List Expr} : starEach (.Constant c j p :: es) env = (false, eval (.Constant c j p) env) :: starEach es env := rfl
theorem se_t {env : Env} {xs : List Expr} {j} {p : Pos} {es : List Expr} : starEach (.Tuple xs j p :: es) env = (false, eval (.Tuple xs j p) env) :: starEach es env := rfl
theorem e_gt {X : Cx} {sl : List Ent} {a b c : Expr} {x1} {pos : Pos} {k : Mt.Kind} {i : Nat} {j : Int} (h1 : Ev X a sl (iS k.wd)) (h2 : Ev X b sl (iI (i : Int))) (h3 : Ev X c sl (iI j)) (e1 : starEach [a, b, c] X.env = (false, eval a X.env) :: starEach [b, c] X.env := by rfl) (e2 : starEach [b, c] X.env = (false, eval b X.env) :: starEach [c] X.env := by rfl) (e3 : starEach [c] X.env = [(false, eval c X.env)] := by rfl) : Ev X (.Tuple [a, b, c] x1 pos) sl (iG X.K ⟨k, i, j⟩) :=
  e_tup (a_cons h1 (a2 h2 h3 e2 e3) e1) (by show 3 ≤ 100000; decide)
theorem ok_of {n : Nat} {gs : List Gate} (n1 : 1 ≤ n) (n2 : n ≤ 12) (l : gs.length ≤ 400) (h : gs.all (fun g => decide (g.a < n) && (decide (g.k = .add) || (decide (0 ≤ g.b) && decide (g.b < n) && decide ((g.a : Int) ≠ g.b)))) = true) : NetOk n gs := ⟨n1, n2, l, fun g hg => by
  have := List.all_eq_true.mp h g hg
  simp only [Bool.and_eq_true, Bool.or_eq_true, decide_eq_true_eq] at this
  exact ⟨this.1, fun z => by
    rcases this.2 with e | ⟨⟨h1, h2⟩, h3⟩
    · exact absurd e z
    · exact ⟨h1, h2, h3⟩⟩⟩
theorem ok_c : NetOk 12 cGs := ok_of (by decide) (by decide) (by decide +kernel) (by decide +kernel)
theorem ok_p : NetOk 4 pGs := ok_of (by decide) (by decide) (by decide +kernel) (by decide +kernel)
theorem ok_k : NetOk 3 kGs := ok_of (by decide) (by decide) (by decide +kernel) (by decide +kernel)
theorem ok_0 {n : Nat} (h1 : 1 ≤ n) (h2 : n ≤ 12) : NetOk n [] := ⟨h1, h2, Nat.zero_le _, fun g h => nomatch h⟩
end LT


set_option Elab.async false
set_option linter.all false
set_option maxRecDepth 100000
set_option maxHeartbeats 2000000
namespace LT
open PySem PySem.Spec PyProof.Rows L2 Dl Mt ClX
section
variable {P : Program} {w : World} {K : PySem.W.Frag} {mg : Str → Option Value} {base : Heap}
theorem py_ly {gs : List Gate} {rs : List (List Nat)} (h : rowsOf (lvs gs) = rs) : (rLst K (((rowsOf (lvs gs)).map fun r => r.map nI).map (rLst K))).Py K (dRows rs) := by
  rw [List.map_map, ← h]
  exact py_rows _
theorem py_rw {r s : List Nat} (h : r = s) : (rLst K (r.map nI)).Py K (dRow s) := by
  rw [← h]
  exact py_row _
def F_Lknown : Fn Unit := ⟨[], fun _ => [], fun _ => True, fun _ => .v (iB true)⟩
theorem h_Lknown (T : Txt K mg) : Has P w K mg base 9 "_law_known_right" F_Lknown := by
  refine has_df T.d_Lknown_right sc_Lknown_right b_Lknown_right rfl (fun _ => rfl) (k := 8) ?_
  intro f cdv A outer s H E z B L D hr hp hM q hN
  have nd := sc_Lknown_right.nd
  have r7 : Room 7 _ := hr.mono (by decide)
  have r3 : Room 3 _ := hr.mono (by decide)
  show Wp _ B L _ D [.no, .no, .no, .no, .no, .no]
  refine w_set 0 (R := iNet K 12 cGs) (i_net (tb := false) T r7 ok_c e_int ?cg) nd ?_
  case cg =>
    refine ev_eq (R := rLst K ((List.range 11).map fun i => iG K ⟨.high, i + 1, (i : Int)⟩)) (congrArg (rLst K) (by unfold cGs; rw [List.map_map]; rfl)) (EvR.lst (e_compR2 (i0 := 1) (m := 11) 3 (fun i => iG K ⟨.high, i + 1, (i : Int)⟩) nd e_int e_int (by decide) (T.f "range") fun i hi s H C cl fp => ?_))
    exact e_gt e_str (Ev.toI (e_var 3) (by omega)) (e_subP (A := fun z => z = ((1 + i : Nat) : Int)) (B := fun z => z = 1) (e_var 3) e_int fun x y h1 h2 => by rw [h1, h2]; omega)
  show Wp _ B L _ D [.val (iNet K 12 cGs), .no, .no, .no, .no, .no]
  refine w_ifF (EvW.t (t_orF (t_neY (hu64 hr) (d := dRows ((List.range 11).map fun i => [i])) (EvR.lst (e_call (h_layers T) r3 (12, cGs) (a1 (e_var 0)) ok_c)) ?a2 (py_ly c_rows) (py_rows _) (sh_rows _)) (t_or1 (t_neY (hu64 hr) (d := dRow (List.range 12)) (EvR.lst (e_call (h_looked T) r7 (12, cGs, 11) (a2 (e_var 0) e_int) ⟨ok_c, by decide⟩)) ?b2 (py_rw c_seen) (py_row _) (sh_row _))))) ?_
  case a2 =>
    refine ev_eq (R := rLst K ((List.range (11 : Int).toNat).map fun i => rRow K [i])) (congrArg (rLst K) (by rw [List.map_map]; rfl)) (EvR.lst (e_compR (m := 11) 4 (fun i => rRow K [i]) nd e_int (by decide) (by decide) (T.f "range") fun i hi s H C cl fp => ?_))
    exact EvR.lst (e_lst (Rs := [nI i]) (a1 (e_var 4)) (by show 1 ≤ 100000; decide))
  case b2 => exact EvR.lst (e_listRg (n := 12) e_int (by decide) (T.f "list") (T.f "range"))
  refine w_ifF (EvW.t (t_orF (t_neY (hu64 hr) (d := dRow [0, 1, 2, 3]) (EvR.lst (e_call (h_cone T) r7 (12, cGs, 4) (a2 (e_var 0) e_int) ⟨ok_c, by decide⟩)) ?c2 (py_rw c_con) (py_row _) (sh_row _)) (t_orF (t_neY (hu64 hr) (d := dRows []) (EvR.lst (e_call (h_layers T) r3 (12, []) (a1 ?n12) (ok_0 (by decide) (by decide)))) ?d2 (py_ly rfl) (py_rows []) (sh_rows _)) (t_or1 (t_neY (hu64 hr) (d := dRow []) (EvR.lst (e_call (h_cone T) r7 (2, [], 1) (a2 ?n2 e_int) ⟨ok_0 (by decide) (by decide), by decide⟩)) ?e2 (py_rw rfl) (py_row []) (sh_row _)))))) ?_
  case c2 => exact EvR.lst (e_lst (Rs := [nI 0, nI 1, nI 2, nI 3]) (a_cons e_int (a_cons e_int (a2 e_int e_int))) (by show 4 ≤ 100000; decide))
  case d2 => exact EvR.lst (e_lst (Rs := []) a_nil (by show 0 ≤ 100000; decide))
  case e2 => exact EvR.lst (e_lst (Rs := []) a_nil (by show 0 ≤ 100000; decide))
  case n12 => exact e_makeD (fs := fsN K) (h_NetD T) (hr.mono (by decide)) T.net (12, true, []) (a1 e_int) rfl rfl rfl (ok_0 (by decide) (by decide))
  case n2 => exact e_makeD (fs := fsN K) (h_NetD T) (hr.mono (by decide)) T.net (2, true, []) (a1 e_int) rfl rfl rfl (ok_0 (by decide) (by decide))
  refine w_set 1 (R := iNet K 4 pGs) (i_net (tb := false) T r7 ok_p e_int ?pg) nd ?_
  case pg =>
    refine ev_eq (R := rLst K ((List.replicate 200 [iG K ⟨.add, 0, 1⟩, iG K ⟨.add, 2, 1⟩]).flatten)) (congrArg (rLst K) ?_) (EvR.lst (e_rep (n := 200) (e_lst (Rs := [iG K ⟨.add, 0, 1⟩, iG K ⟨.add, 2, 1⟩]) (a2 (e_gt e_str e_int e_int) (e_gt e_str e_int e_int)) (by show 2 ≤ 100000; decide)) e_int (by decide) (by show 2 * 200 ≤ 100000; decide)))
    unfold pGs
    rw [List.map_flatten, List.map_replicate]
    rfl
  show Wp _ B L _ D [.val (iNet K 12 cGs), .val (iNet K 4 pGs), .no, .no, .no, .no]
  refine w_ifF (EvW.t (t_orF (t_neY (hu64 hr) (d := dRows ((List.range 200).map fun i => [2 * i, 2 * i + 1])) (EvR.lst (e_call (h_layers T) r3 (4, pGs) (a1 (e_var 1)) ok_p)) ?f2 (py_ly p_rows) (py_rows _) (sh_rows _)) (t_or1 (t_neY (hu64 hr) (d := dRow ((List.range 200).map fun i => 2 * i + 1)) (EvR.lst (e_call (h_cone T) r7 (4, pGs, 2) (a2 (e_var 1) e_int) ⟨ok_p, by decide⟩)) ?g2 (py_rw p_con) (py_row _) (sh_row _))))) ?_
  case f2 =>
    refine ev_eq (R := rLst K ((List.range (200 : Int).toNat).map fun i => rRow K [2 * i, 2 * i + 1])) (congrArg (rLst K) (by rw [List.map_map]; rfl)) (EvR.lst (e_compR (m := 200) 5 (fun i => rRow K [2 * i, 2 * i + 1]) nd e_int (by decide) (by decide) (T.f "range") fun i hi s H C cl fp => ?_))
    refine EvR.lst (e_lst (Rs := [nI (2 * i), nI (2 * i + 1)]) (a2 ?_ ?_) (by show 2 ≤ 100000; decide))
    · exact e_mulP (C := fun z => z = ((2 * i : Nat) : Int)) (A := fun z => z = 2) (B := fun z => z = (i : Int)) e_int (e_var 5) fun x y h1 h2 => by
        rw [h1, h2]
        exact ⟨.inl ⟨by omega, by omega⟩, by omega⟩
    · refine e_addP (C := fun z => z = ((2 * i + 1 : Nat) : Int)) (A := fun z => z = ((2 * i : Nat) : Int)) (B := fun z => z = 1) (e_mulP (A := fun z => z = 2) (B := fun z => z = (i : Int)) e_int (e_var 5) fun x y h1 h2 => ?_) e_int fun x y h1 h2 => by rw [h1, h2]; omega
      rw [h1, h2]
      exact ⟨.inl ⟨by omega, by omega⟩, by omega⟩
  case g2 =>
    refine ev_eq (R := rLst K ((List.range 200).map fun m : Nat => iI (1 + (m : Int) * 2))) (congrArg (rLst K) ?_) (EvR.lst (e_listRg3 (i := 1) (j := 400) (k := 2) (n := 200) e_int e_int e_int ⟨by decide, by decide, by decide +kernel, by decide +kernel⟩ (by decide) (T.f "list") (T.f "range")))
    rw [List.map_map]
    refine List.map_congr_left fun m _ => congrArg iI ?_
    show 1 + (m : Int) * 2 = ((2 * m + 1 : Nat) : Int)
    omega
  refine w_set 2 (R := iNet K 3 kGs) (i_net (tb := false) T r7 ok_k e_int ?kg) nd ?_
  case kg => exact EvR.lst (e_lst (Rs := [iG K ⟨.low, 0, 1⟩, iG K ⟨.copy, 0, 2⟩, iG K ⟨.sort, 1, 0⟩, iG K ⟨.copy, 2, 1⟩]) (a_cons (e_gt e_str e_int e_int) (a_cons (e_gt e_str e_int e_int) (a2 (e_gt e_str e_int e_int) (e_gt e_str e_int e_int)))) (by show 4 ≤ 100000; decide))
  show Wp _ B L _ D [.val (iNet K 12 cGs), .val (iNet K 4 pGs), .val (iNet K 3 kGs), .no, .no, .no]
  refine w_ret (r := .v (iB true)) (Ev.r (e_eqY (hu64 hr) (d := dRows [[1, 2, 3], [1, 2], [1, 2]]) (EvR.lst (e_lst (a_cons (EvR.lst (e_call (h_cone T) r7 (3, kGs, 2) (a2 (e_var 2) e_int) ⟨ok_k, by decide⟩)) (a2 (EvR.lst (e_call (h_looked T) r7 (3, kGs, 2) (a2 (e_var 2) e_int) ⟨ok_k, by decide⟩)) (EvR.lst (e_call (h_looked T) r7 (3, kGs, 0) (a2 (e_var 2) e_int) ⟨ok_k, by decide⟩)))) (by show 3 ≤ 100000; decide))) ?h2 (py_ls (.cons (py_rw k_con) (.cons (py_rw k_seen2) (.cons (py_rw k_seen0) .nil)))) (py_rows _) (sh_rows _))) hM q
  case h2 => exact EvR.lst (e_lst (Rs := [rRow K [1, 2, 3], rRow K [1, 2], rRow K [1, 2]]) (a_cons (EvR.lst (e_lst (Rs := [nI 1, nI 2, nI 3]) (a_cons e_int (a2 e_int e_int)) (by show 3 ≤ 100000; decide))) (a2 (EvR.lst (e_lst (Rs := [nI 1, nI 2]) (a2 e_int e_int) (by show 2 ≤ 100000; decide))) (EvR.lst (e_lst (Rs := [nI 1, nI 2]) (a2 e_int e_int) (by show 2 ≤ 100000; decide))))) (by show 3 ≤ 100000; decide))
end
end LT


set_option Elab.async false
set_option linter.all false
set_option maxRecDepth 100000
set_option maxHeartbeats 2000000
namespace LT
open PySem PySem.Spec PyProof.Rows L2 Dl Mt ClX
section
variable {P : Program} {w : World} {K : PySem.W.Frag} {mg : Str → Option Value} {base : Heap}
theorem le_nat {a b : Int} (ha : 0 ≤ a) : (rInt fun z => a ≤ z ∧ z ≤ b).le (rX (fun n : Nat => a ≤ (n : Int) ∧ (n : Int) ≤ b) fun n => iI (n : Int)) := fun G v ⟨i, e, h1, h2⟩ => ⟨i.toNat, ⟨by omega, by omega⟩, i, e, by omega⟩
def F_Lright : Fn Unit := ⟨["_law_pot_here"], fun _ => [iPot], fun _ => True, fun _ => .v (iB true)⟩
theorem h_Lright (T : Txt K mg) : HasG P w K mg base 10 "_law_right" F_Lright := by
  refine hasG_df T.d_Lright sc_Lright b_Lright rfl (fun _ => rfl) (k := 9) ?_
  intro f cdv A outer s H E z B L D hgd hr hp hM q hN
  have nn := sc_Lright.nd
  have r7 := hr.mono (show 7 ≤ 9 by decide)
  have r4 := hr.mono (show 4 ≤ 9 by decide)
  have r1 := hr.mono (show 1 ≤ 9 by decide)
  show Wp _ B L _ D [.val iPot, .no, .no, .no, .no]
  refine w_setX 1 (P := fun n : Nat => 1 ≤ (n : Int) ∧ (n : Int) ≤ 6) (R := fun n => iI (n : Int)) (Ev.imp (e_addP (C := fun z => 1 ≤ z ∧ z ≤ 6) e_int (EvR.v (e_call (h_draw T) r1 6 (a2 (e_var 0) e_int) ⟨by decide, by decide⟩)) fun x y h1 h2 => by rw [h1]; omega) (le_nat (by decide))) nn ?_
  rintro n ⟨n1, n2⟩
  replace n1 : 1 ≤ n := by omega
  replace n2 : n ≤ 6 := by omega
  refine w_setX 2 (EvR.xl (e_call (h_Lgates T) r4 (n, 16) (a_cons (e_var 0) (a2 (e_var 1) e_int)) ⟨n1, by show n ≤ 12; omega, by show 16 ≤ 400; decide⟩)) nn ?_
  rintro gs ⟨g1, g2, g3⟩
  replace g1 : gs.length ≤ 16 := g1
  replace g2 : ∀ g ∈ gs, g.Ok n := g2
  have ok : NetOk n gs := ⟨n1, by omega, by omega, g2⟩
  show Wp _ B L _ D [.val iPot, .val (iI (n : Int)), .val (rLst K (gs.map (iG K))), .no, .no]
  refine w_set 3 (R := iNet K n gs) (i_net (tb := false) T r7 ok (e_var 1) (e_var 2)) nn ?_
  refine w_ifF (t_notT (EvR.v (e_callG (h_LLr T) hgd hr (n, gs) (a_cons (e_var 0) (a_cons (e_var 3) (a2 (e_var 1) (e_var 2)))) ⟨ok, g1⟩))) ?_
  refine w_forR 4 (m := (n : Int)) nn (e_var 1) (by omega) (by omega) (T.f "range") (fun i sl => ∃ a, sl = [.val iPot, .val (iI (n : Int)), .val (rLst K (gs.map (iG K))), .val (iNet K n gs), a]) ⟨_, rfl⟩ ?_ ?_
  · rintro i L' sl' hi ⟨a, rfl⟩
    refine w_ifF (t_notT (EvR.v (e_callG (h_LCr T) hgd hr (n, gs, i) (a_cons (e_var 0) (a_cons (e_var 3) (a_cons (e_var 1) (a2 (e_var 2) (e_var 4))))) ⟨ok, g1, by show i < n; omega⟩))) ?_
    exact w_turn' ⟨_, rfl⟩
  · rintro sl' ⟨a, rfl⟩
    exact w_ret (r := .v (iB true)) (Ev.r (e_andT (EvR.v (e_call0 (h_Lknown T) hr () rfl trivial)) (e_one (e_eqC (h_eqNet T) r1 (n, gs) trivial (e_var 3) (i_net (tb := false) T r7 ok (e_var 1) (e_var 2)))))) hM q
/-- how many turns -/
def turns (l : Int) : Int := if (if l < 2 then l else 2) > 1 then (if l < 2 then l else 2) else 1
theorem turns_ok (l : Int) : 1 ≤ turns l ∧ turns l ≤ 2 := by
  unfold turns
  split <;> split <;> omega
def F_law (K : PySem.W.Frag) : Fn (List Int) := ⟨["_law_script"], fun ns => [rInts K ns], fun _ => True, fun _ => .v (iB true)⟩
theorem ok_law (T : Txt K mg) {f : Addr} {fd : FuncData} (F : FnP K "law" "law" s_law f fd) : FnG P w K mg base 11 f fd ["_law_script"] (F_law K).sp := by
  refine fnG_of (F := F_law K) (k := 10) F sc_law (fun _ => rfl) ?_
  intro cdv A outer s H E ns B L D hgd hr hp hM q hN
  show Wp _ B L _ D [.val (rInts K ns), .no]
  have hb := turns_ok ((ns.map iI).length : Int)
  refine w_ret (r := .v (iB true)) (Ev.bool (e_allM (f := fun _ : Nat => true) (e_compR 1 (m := turns ((ns.map iI).length : Int)) (fun _ => iB true) sc_law.nd (e_max2 rfl e_int (e_min2 (C := fun m => m = if ((ns.map iI).length : Int) < 2 then ((ns.map iI).length : Int) else 2) rfl e_int (e_lenL (e_var 0) (T.f "len")) (T.f "min") ?_) (T.f "max") ?_) (by omega) (by omega) (T.f "range") fun i hi s H C cl fp => ?_).lst (T.f "all")) ?_) hM q
  · intro x y h1 h2
    rw [h1, h2]
  · intro x y h1 h2
    rw [h1, h2]
    rfl
  · exact (e_callG (h_Lright T) hgd hr () (a1 (e_call (h_pot T) (hr.mono (by decide)) (ns, i) (a2 (e_var 0) (e_var 1)) (by show i < 10; omega)).v) trivial).v
  · intro z h
    rw [h]
    simp
end
end LT


set_option Elab.async false
set_option linter.all false
set_option maxRecDepth 100000
set_option maxHeartbeats 0
namespace LT
open PySem PySem.Spec PyProof.Rows L2 Dl Mt ClX
theorem txt {K : PySem.W.Frag} {h : Heap} {mg : Str → Option Value} (X : K.In h) (G : h.Ns mainGlobals mg) (c : SaysP ex fn K) : Txt K mg := by
  have ⟨t1, t⟩ := He.ba c.test
  have ⟨t2, t⟩ := He.ba t
  have ⟨t3, t⟩ := He.ba t
  have ⟨t4, t⟩ := He.ba t
  have ⟨t5, t⟩ := He.ba t
  have ⟨t6, t⟩ := He.ba t
  have ⟨t7, t⟩ := He.ba t
  have ⟨t8, t⟩ := He.ba t
  have ⟨t9, t⟩ := He.ba t
  have ⟨t10, t⟩ := He.ba t
  have ⟨t11, t⟩ := He.ba t
  have ⟨t12, t⟩ := He.ba t
  have ⟨t13, t⟩ := He.ba t
  have ⟨t14, t⟩ := He.ba t
  have ⟨t15, t⟩ := He.ba t
  have ⟨t16, t⟩ := He.ba t
  have ⟨t17, t⟩ := He.ba t
  have ⟨t18, t⟩ := He.ba t
  have ⟨t19, t⟩ := He.ba t
  have t20 := t
  have g : ∀ (i : Nat) {x : Str}, glos[i]? = some x → mg x = some (.ref (He.ga K x)) := fun i x e => He.glo_ok X G (List.all_eq_true.mp t1 x (List.mem_of_getElem? e))
  have fc : ∀ (i : Nat) {f : He.Fa}, fas[i]? = some f → f.ok K = true := fun i f e => List.all_eq_true.mp t3 f (List.mem_of_getElem? e)
  have cl : Cls K (He.ga K "Net") := He.cls_ok (fc 6 rfl)
  refine { free := fun x hx => He.free_ok X G (List.all_eq_true.mp t2 x hx), most := He.int_ok X G (fc 0 rfl), low := He.str_ok X G (fc 1 rfl), high := He.str_ok X G (fc 2 rfl), sort := He.str_ok X G (fc 3 rfl), copy := He.str_ok X G (fc 4 rfl), add := He.str_ok X G (fc 5 rfl), paired := ⟨_, g 43 rfl, fun H => He.tupB_ok t4 H⟩, net := g 44 rfl, cls := cl, nL := He.noat_ok (fc 7 rfl), nG := He.noat_ok (fc 8 rfl), crd := ⟨_, creadB_ok t5, cintB_ok t6, cintB_ok t7⟩, tyN := tyB_ok cl t10, sf := t11, nem := He.eqO_ok t15, mro := of_decide_eq_true t16, make := ?make, gates := ?gates, eqm := ?eqm, callm := ?callm, lenm := ?lenm, getm := ?getm, lanes := ?lanes, d_is_integer := ?k0, d_is_count := ?k1, d_is_list := ?k2, d_is_content := ?k3, d_is_lane := ?k4, d_want_content_of := ?k5, d_want_lane := ?k6, d_want_many := ?k7, d_is_gate := ?k8, d_want_gates := ?k9, d_want_few := ?k10, d_want_position := ?k11, d_want_net := ?k12, d_do_gate := ?k13, d_told_by := ?k14, d_lanes_of := ?k15, d_gate_turned := ?k16, d_of_lane := ?k17, d_layers := ?k18, d_by_layers := ?k19, d_looked_back := ?k20, d_cone := ?k21, d_looked_at := ?k22, d_cone_net := ?k23, d_are_alike := ?k24, d_is_shuffle := ?k25, d_Lpot := ?k26, d_Ldraw := ?k27, d_Lpick := ?k28, d_Lmixed := ?k29, d_Lgate := ?k30, d_Lgates := ?k31, d_Lcontent := ?k32, d_Llanes := ?k33, d_Ldo_touch := ?k34, d_Llayers := ?k35, d_Llongest := ?k36, d_Lcone := ?k37, d_Llayers_right := ?k38, d_Lcone_right := ?k39, d_Lknown_right := ?k40, d_Lright := ?k41, d_law := ?k42 }
  case k0 => exact let ⟨fd, F⟩ := c.def_ 0 (d := p0) rfl; ⟨_, fd, F, g 0 rfl⟩
  case k1 => exact let ⟨fd, F⟩ := c.def_ 1 (d := p1) rfl; ⟨_, fd, F, g 1 rfl⟩
  case k2 => exact let ⟨fd, F⟩ := c.def_ 2 (d := p2) rfl; ⟨_, fd, F, g 2 rfl⟩
  case k3 => exact let ⟨fd, F⟩ := c.def_ 3 (d := p3) rfl; ⟨_, fd, F, g 3 rfl⟩
  case k4 => exact let ⟨fd, F⟩ := c.def_ 4 (d := p4) rfl; ⟨_, fd, F, g 4 rfl⟩
  case k5 => exact let ⟨fd, F⟩ := c.def_ 5 (d := p5) rfl; ⟨_, fd, F, g 5 rfl⟩
  case k6 => exact let ⟨fd, F⟩ := c.def_ 6 (d := p6) rfl; ⟨_, fd, F, g 6 rfl⟩
  case k7 => exact let ⟨fd, F⟩ := c.def_ 7 (d := p7) rfl; ⟨_, fd, F, g 7 rfl⟩
  case k8 => exact let ⟨fd, F⟩ := c.def_ 8 (d := p8) rfl; ⟨_, fd, F, g 8 rfl⟩
  case k9 => exact let ⟨fd, F⟩ := c.def_ 9 (d := p9) rfl; ⟨_, fd, F, g 9 rfl⟩
  case k10 => exact let ⟨fd, F⟩ := c.def_ 10 (d := p10) rfl; ⟨_, fd, F, g 10 rfl⟩
  case k11 => exact let ⟨fd, F⟩ := c.def_ 11 (d := p11) rfl; ⟨_, fd, F, g 11 rfl⟩
  case k12 => exact let ⟨fd, F⟩ := c.def_ 12 (d := p12) rfl; ⟨_, fd, F, g 12 rfl⟩
  case k13 => exact let ⟨fd, F⟩ := c.def_ 13 (d := p13) rfl; ⟨_, fd, F, g 13 rfl⟩
  case k14 => exact let ⟨fd, F⟩ := c.def_ 14 (d := p14) rfl; ⟨_, fd, F, g 14 rfl⟩
  case k15 => exact let ⟨fd, F⟩ := c.def_ 15 (d := p15) rfl; ⟨_, fd, F, g 15 rfl⟩
  case k16 => exact let ⟨fd, F⟩ := c.def_ 16 (d := p16) rfl; ⟨_, fd, F, g 16 rfl⟩
  case k17 => exact let ⟨fd, F⟩ := c.def_ 17 (d := p17) rfl; ⟨_, fd, F, g 17 rfl⟩
  case k18 => exact let ⟨fd, F⟩ := c.def_ 18 (d := p18) rfl; ⟨_, fd, F, g 18 rfl⟩
  case k19 => exact let ⟨fd, F⟩ := c.def_ 19 (d := p19) rfl; ⟨_, fd, F, g 19 rfl⟩
  case k20 => exact let ⟨fd, F⟩ := c.def_ 20 (d := p20) rfl; ⟨_, fd, F, g 20 rfl⟩
  case k21 => exact let ⟨fd, F⟩ := c.def_ 21 (d := p21) rfl; ⟨_, fd, F, g 21 rfl⟩
  case k22 => exact let ⟨fd, F⟩ := c.def_ 22 (d := p22) rfl; ⟨_, fd, F, g 22 rfl⟩
  case k23 => exact let ⟨fd, F⟩ := c.def_ 23 (d := p23) rfl; ⟨_, fd, F, g 23 rfl⟩
  case k24 => exact let ⟨fd, F⟩ := c.def_ 24 (d := p24) rfl; ⟨_, fd, F, g 24 rfl⟩
  case k25 => exact let ⟨fd, F⟩ := c.def_ 25 (d := p25) rfl; ⟨_, fd, F, g 25 rfl⟩
  case k26 => exact let ⟨fd, F⟩ := c.def_ 26 (d := p26) rfl; ⟨_, fd, F, g 26 rfl⟩
  case k27 => exact let ⟨fd, F⟩ := c.def_ 27 (d := p27) rfl; ⟨_, fd, F, g 27 rfl⟩
  case k28 => exact let ⟨fd, F⟩ := c.def_ 28 (d := p28) rfl; ⟨_, fd, F, g 28 rfl⟩
  case k29 => exact let ⟨fd, F⟩ := c.def_ 29 (d := p29) rfl; ⟨_, fd, F, g 29 rfl⟩
  case k30 => exact let ⟨fd, F⟩ := c.def_ 30 (d := p30) rfl; ⟨_, fd, F, g 30 rfl⟩
  case k31 => exact let ⟨fd, F⟩ := c.def_ 31 (d := p31) rfl; ⟨_, fd, F, g 31 rfl⟩
  case k32 => exact let ⟨fd, F⟩ := c.def_ 32 (d := p32) rfl; ⟨_, fd, F, g 32 rfl⟩
  case k33 => exact let ⟨fd, F⟩ := c.def_ 33 (d := p33) rfl; ⟨_, fd, F, g 33 rfl⟩
  case k34 => exact let ⟨fd, F⟩ := c.def_ 34 (d := p34) rfl; ⟨_, fd, F, g 34 rfl⟩
  case k35 => exact let ⟨fd, F⟩ := c.def_ 35 (d := p35) rfl; ⟨_, fd, F, g 35 rfl⟩
  case k36 => exact let ⟨fd, F⟩ := c.def_ 36 (d := p36) rfl; ⟨_, fd, F, g 36 rfl⟩
  case k37 => exact let ⟨fd, F⟩ := c.def_ 37 (d := p37) rfl; ⟨_, fd, F, g 37 rfl⟩
  case k38 => exact let ⟨fd, F⟩ := c.def_ 38 (d := p38) rfl; ⟨_, fd, F, g 38 rfl⟩
  case k39 => exact let ⟨fd, F⟩ := c.def_ 39 (d := p39) rfl; ⟨_, fd, F, g 39 rfl⟩
  case k40 => exact let ⟨fd, F⟩ := c.def_ 40 (d := p40) rfl; ⟨_, fd, F, g 40 rfl⟩
  case k41 => exact let ⟨fd, F⟩ := c.def_ 41 (d := p41) rfl; ⟨_, fd, F, g 41 rfl⟩
  case k42 => exact let ⟨fd, F⟩ := c.def_ 42 (d := p42) rfl; ⟨_, fd, F, g 42 rfl⟩
  case make => exact let ⟨fd, F⟩ := c.def_ 43 (d := p43) rfl; ⟨_, fd, _, He.mkr_ok (fc 9 rfl), nilB_ok t14, F⟩
  case gates => exact let ⟨fd, F⟩ := c.def_ 44 (d := p44) rfl; ⟨_, fd, He.meth_ok (fc 10 rfl), F⟩
  case eqm => exact let ⟨fd, F⟩ := c.def_ 45 (d := p45) rfl; ⟨_, fd, He.meth_ok (fc 11 rfl), F⟩
  case callm => exact let ⟨fd, F⟩ := c.def_ 46 (d := p46) rfl; ⟨_, fd, He.meth_ok (fc 12 rfl), F, t12⟩
  case lenm => exact let ⟨fd, F⟩ := c.def_ 47 (d := p47) rfl; ⟨_, fd, He.meth_ok (fc 13 rfl), F⟩
  case getm => exact let ⟨fd, F⟩ := c.def_ 48 (d := p48) rfl; ⟨_, fd, He.meth_ok (fc 14 rfl), F, t13⟩
  case lanes =>
    obtain ⟨q, hq⟩ := propB_ok t8
    exact let ⟨fd, F⟩ := c.def_ 50 (d := p50) rfl; ⟨q, _, fd, hq, F⟩
theorem start_ok {K : PySem.W.Frag} {H : Hp} {a : Addr} {ns : List Int} (hS : SqL K H a (ns.map V.int)) : (F_law K).sp [.ref a] H (fun v _ => v = .bl true) fun _ _ _ => False :=
  ⟨ns, H, Same.refl _, .cons ⟨a, _, rfl, hS, PVs.ofInts ns⟩ .nil, trivial, fun v G' H' _ ⟨b, e, hb⟩ => by rw [e, hb]⟩
theorem facts {P : Program} {w : World} {K : PySem.W.Frag} {h : Heap} {mg : Str → Option Value} {f : Addr} (X : K.In h) (G : h.Ns mainGlobals mg) (hf : mg ("law" : Str) = some (.ref f)) (c : SaysP ex fn K) :
    ∃ fd : FuncData, (∀ (s : Shared) (v : Value), BindsTo s fd ⟨[v], []⟩ [("_law_script", v)]) ∧ ∀ base : Heap, FnG P w K mg base 11 f fd ["_law_script"] (F_law K).sp := by
  have T := txt X G c
  obtain ⟨f0, fd0, F0, h0⟩ := T.d_law
  have e : f0 = f := by
    rw [h0] at hf
    injection hf with hf
    injection hf
  subst e
  have b := FunD.bindsA (ps := ["_law_script"]) F0 fun _ _ _ _ _ _ us hl => match us, hl with | [_], _ => rfl
  refine ⟨fd0, fun s v => b s [v] rfl, fun base => ?_⟩
  exact ok_law T F0
end LT
open PySem PyProof.Rows
theorem PySem.Challenge.cw_lanelots_k19_whole_layers_and_cones_holds : PySem.Challenge.rw_lanelots_k19_whole_layers_and_cones.Holds :=
  LT.headed fun w mg f K h KX c G hmg => by
    obtain ⟨fd, hb, hF⟩ := LT.facts (P := (PySem.Challenge.rw_lanelots_k19_whole_layers_and_cones).prog) (w := w) KX G hmg c
    exact ⟨fd, (LT.F_law K).sp, hb, fun H a ns hS => LT.start_ok hS, fun base => hF base⟩


