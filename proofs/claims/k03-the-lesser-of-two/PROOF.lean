import PyProof.Rows.All
import Wide.All
import OpenK.AllK
import Wide.FinOn
import HandS.ForMost
import HandS.ForExc
import HandS.IsInst
import HandS.EndBits
import HandS.Wide
import HandS.Defaults
import HandS.TupAny
import HandS.Property
import KE.KCallOwn
import HandS.Conv
import PySem.Challenge.RW_holdsitself_k03_the_lesser_of_two
set_option Elab.async false
set_option linter.all false
set_option maxRecDepth 100000
set_option maxHeartbeats 4000000
namespace Px
open PySem PySem.Spec PyProof.Rows L2

/-! values as plain data -/
inductive D where
  | non | bl (b : Bool) | int (i : Int) | str (s : Str) | lst (l : List D) | scr (l : List D) | tup (l : List D) | obj (c : Nat) (vs : List D)

inductive Res (α : Type) where
  | ok (a : α) | err (c : Nat) (vs : List D) | bad

namespace Res
def bind {α β : Type} (m : Res α) (k : α → Res β) : Res β := match m with
  | .ok a => k a | .err c vs => .err c vs | .bad => .bad
def map {α β : Type} (f : α → β) (m : Res α) : Res β := m.bind fun a => .ok (f a)
def sat {α : Type} (m : Res α) (P : α → Prop) (E : Nat → List D → Prop) : Prop := match m with
  | .ok a => P a | .err c vs => E c vs | .bad => False
@[simp] theorem ok_bind {α β : Type} (a : α) (k : α → Res β) : (Res.ok a).bind k = k a := id rfl
@[simp] theorem err_bind {α β : Type} (c : Nat) (vs : List D) (k : α → Res β) : (Res.err c vs : Res α).bind k = .err c vs := id rfl
@[simp] theorem bad_bind {α β : Type} (k : α → Res β) : (Res.bad : Res α).bind k = .bad := id rfl
theorem sat_bind {α β : Type} {m : Res α} {k : α → Res β} {P : β → Prop} {E : Nat → List D → Prop} (h : (m.bind k).sat P E) : m.sat (fun a => (k a).sat P E) E := by
  cases m with
  | ok a => exact h
  | err c vs => exact h
  | bad => exact h
theorem sat.mono {α : Type} {m : Res α} {P P' : α → Prop} {E E' : Nat → List D → Prop} (h : m.sat P E) (p : ∀ a, P a → P' a) (e : ∀ c vs, E c vs → E' c vs) : m.sat P' E' := by
  cases m with
  | ok a => exact p a h
  | err c vs => exact e c vs h
  | bad => exact h
end Res

structure Kt where
  K : PySem.W.Frag
  ca : Nat → Option Addr
  at_ : Nat → List Str
  sub : Nat → Nat → Bool
  xa : Nat → Option Addr
  xt : Nat → List Str

mutual
inductive Rep (T : Kt) (G : Hp) : V → D → Prop
  | non : Rep T G .non .non
  | bl (b : Bool) : Rep T G (.bl b) (.bl b)
  | int (i : Int) : Rep T G (.int i) (.int i)
  | str (s : Str) : Rep T G (.str s) (.str s)
  | lst {a : Addr} {vs : List V} {ds : List D} : G a = some (.lst vs) → Reps T G vs ds → Rep T G (.ref a) (.lst ds)
  | scr {a : Addr} {vs : List V} {ds : List D} : SqL T.K G a vs → Reps T G vs ds → Rep T G (.ref a) (.scr ds)
  | tup {a : Addr} {vs : List V} {ds : List D} : SqT T.K G a vs → Reps T G vs ds → Rep T G (.ref a) (.tup ds)
  | obj {a C dx : Addr} {c : Nat} {ns : List Str} {vs : List V} {ds : List D} : T.ca c = some C → G a = some (.ins C dx (ns.zip vs)) → ns = T.at_ c → ns.length = vs.length → Reps T G vs ds → Rep T G (.ref a) (.obj c ds)
inductive Reps (T : Kt) (G : Hp) : List V → List D → Prop
  | nil : Reps T G [] []
  | cons {v : V} {vs : List V} {d : D} {ds : List D} : Rep T G v d → Reps T G vs ds → Reps T G (v :: vs) (d :: ds)
end

theorem sqT_same {K : PySem.W.Frag} {H H' : Hp} {a : Addr} {xs : List V} (e : Same H H') (h : SqT K H a xs) : SqT K H' a xs := by
  rcases h with (h | ⟨o, h⟩) | h
  · exact .inl (.inl (e _ _ h))
  · exact .inl (.inr ⟨o, e _ _ h⟩)
  · exact .inr h

section
variable {T : Kt} {G G' : Hp}
mutual
theorem Rep.mono (h : Same G G') : ∀ {v : V} {d : D}, Rep T G v d → Rep T G' v d
  | _, _, .non => .non
  | _, _, .bl b => .bl b
  | _, _, .int i => .int i
  | _, _, .str s => .str s
  | _, _, .lst q r => .lst (h _ _ q) (r.mono h)
  | _, _, .scr q r => .scr (h.seq q) (r.mono h)
  | _, _, .tup q r => .tup (sqT_same h q) (r.mono h)
  | _, _, .obj a b c d r => .obj a (h _ _ b) c d (r.mono h)
theorem Reps.mono (h : Same G G') : ∀ {vs : List V} {ds : List D}, Reps T G vs ds → Reps T G' vs ds
  | _, _, .nil => .nil
  | _, _, .cons a r => .cons (a.mono h) (r.mono h)
end
theorem Reps.length : ∀ {vs : List V} {ds : List D}, Reps T G vs ds → vs.length = ds.length
  | _, _, .nil => rfl
  | _, _, .cons _ r => congrArg (· + 1) r.length
theorem Reps.get : ∀ {vs : List V} {ds : List D} {i : Nat} {d : D}, Reps T G vs ds → ds[i]? = some d → ∃ v, vs[i]? = some v ∧ Rep T G v d
  | _, _, _, _, .nil, e => by simp at e
  | _, _, 0, _, .cons a r, e => by simp at e; subst e; exact ⟨_, rfl, a⟩
  | _, _, i + 1, _, .cons a r, e => by
    obtain ⟨v, h1, h2⟩ := Reps.get (i := i) r (by simpa using e)
    exact ⟨v, by simpa using h1, h2⟩
theorem Reps.getV : ∀ {vs : List V} {ds : List D} {i : Nat} {v : V}, Reps T G vs ds → vs[i]? = some v → ∃ d, ds[i]? = some d ∧ Rep T G v d
  | _, _, _, _, .nil, e => by simp at e
  | _, _, 0, _, .cons a r, e => by simp at e; subst e; exact ⟨_, rfl, a⟩
  | _, _, i + 1, _, .cons a r, e => by
    obtain ⟨v, h1, h2⟩ := Reps.getV (i := i) r (by simpa using e)
    exact ⟨v, by simpa using h1, h2⟩
theorem Reps.append : ∀ {vs ws : List V} {ds es : List D}, Reps T G vs ds → Reps T G ws es → Reps T G (vs ++ ws) (ds ++ es)
  | _, _, _, _, .nil, s => s
  | _, _, _, _, .cons a r, s => .cons a (r.append s)
theorem Reps.take : ∀ {vs : List V} {ds : List D} (n : Nat), Reps T G vs ds → Reps T G (vs.take n) (ds.take n)
  | _, _, 0, _ => .nil
  | _, _, _ + 1, .nil => .nil
  | _, _, n + 1, .cons a r => .cons a (Reps.take n r)
theorem Reps.drop : ∀ {vs : List V} {ds : List D} (n : Nat), Reps T G vs ds → Reps T G (vs.drop n) (ds.drop n)
  | _, _, 0, r => r
  | _, _, _ + 1, .nil => .nil
  | _, _, n + 1, .cons a r => Reps.drop n r
theorem Reps.set {v : V} {d : D} (a : Rep T G v d) : ∀ {vs : List V} {ds : List D} (n : Nat), Reps T G vs ds → Reps T G (vs.set n v) (ds.set n d)
  | _, _, _, .nil => .nil
  | _, _, 0, .cons b r => .cons a r
  | _, _, n + 1, .cons b r => .cons b (Reps.set a n r)
theorem Reps.ints : ∀ (ns : List Int), Reps T G (ns.map V.int) (ns.map D.int)
  | [] => .nil
  | n :: r => .cons (.int n) (Reps.ints r)
end

/-! frames: G is what stands fast within H -/
structure Fr (G H G' H' : Hp) : Prop where
  h : Same H H'
  g : Same G G'
  s : Same G' H'
  n : ∀ a o, G' a = some o → G a = some o ∨ H a = none
theorem Fr.refl {G H : Hp} (s : Same G H) : Fr G H G H := ⟨Same.refl _, Same.refl _, s, fun _ _ h => .inl h⟩
theorem Fr.trans {G H G1 H1 G2 H2 : Hp} (a : Fr G H G1 H1) (b : Fr G1 H1 G2 H2) : Fr G H G2 H2 :=
  ⟨a.h.trans b.h, a.g.trans b.g, b.s, fun c o e => by
    rcases b.n c o e with q | q
    · exact a.n c o q
    · exact .inr (a.h.free q)⟩
theorem same_upd {H : Hp} {p : Addr} {o : HO} (h : H p = none) : Same H (upd H p o) := fun b x e => by
  rw [upd_ne (ne_of_none e h)]
  exact e
theorem none_of_same {G H : Hp} (s : Same G H) {p : Addr} (h : H p = none) : G p = none := s.free h
/-- a new object, standing fast -/
theorem Fr.new {G H : Hp} (s : Same G H) {p : Addr} {o : HO} (h : H p = none) : Fr G H (upd G p o) (upd H p o) where
  h := same_upd h
  g := same_upd (s.free h)
  s := fun b x e => by
    by_cases q : b = p
    · subst q; rw [upd_same] at e ⊢; exact e
    · rw [upd_ne q] at e ⊢; exact s _ _ e
  n := fun b x e => by
    by_cases q : b = p
    · subst q; exact .inr h
    · rw [upd_ne q] at e; exact .inl e
/-- a new object that does not stand fast -/
theorem Fr.newH {G H : Hp} (s : Same G H) {p : Addr} {o : HO} (h : H p = none) : Fr G H G (upd H p o) where
  h := same_upd h
  g := Same.refl _
  s := s.trans (same_upd h)
  n := fun b x e => .inl e

/-! what the slots hold -/
inductive Cell where
  | val (d : D) | own (ds : List D) | ins (a : Addr) (c : Nat) (ds : List D)
abbrev Env' := List (Option Cell)

def CRep (T : Kt) (H0 G H : Hp) (v : V) : Cell → Prop
  | .val d => Rep T G v d
  | .own ds => ∃ a vs, v = .ref a ∧ H a = some (.lst vs) ∧ G a = none ∧ H0 a = none ∧ Reps T G vs ds
  | .ins a c ds => ∃ C dx vs, v = .ref a ∧ T.ca c = some C ∧ H a = some (.ins C dx (((T.at_ c).take ds.length).zip vs)) ∧ ds.length ≤ (T.at_ c).length ∧ G a = none ∧ H0 a = none ∧ Reps T G vs ds
def Cell.isVal : Cell → Bool
  | .val _ => true
  | _ => false

structure Mat (T : Kt) (H0 : Hp) (σ : L2.St) (H G : Hp) (env : Env') : Prop where
  gh : Same G H
  len : env.length = σ.length
  sl : ∀ (i : Nat) (c : Cell), env[i]? = some (some c) → ∃ v, σ[i]? = some (some v) ∧ CRep T H0 G H v c
  dj : ∀ (i j : Nat) (c d : Cell) (a : Addr), env[i]? = some (some c) → env[j]? = some (some d) → c.isVal = false → d.isVal = false → σ[i]? = some (some (.ref a)) → σ[j]? = some (some (.ref a)) → i = j

theorem CRep.fr {T : Kt} {H0 G H G' H' : Hp} {v : V} {c : Cell} (f : Fr G H G' H') (h : CRep T H0 G H v c) : CRep T H0 G' H' v c := by
  cases c with
  | val d => exact Rep.mono f.g h
  | own ds =>
    obtain ⟨a, vs, e, h1, h2, h3, h4⟩ := h
    refine ⟨a, vs, e, f.h _ _ h1, ?_, h3, h4.mono f.g⟩
    cases q : G' a with
    | none => rfl
    | some o =>
      rcases f.n a o q with z | z
      · rw [h2] at z; cases z
      · rw [h1] at z; cases z
  | ins a c ds =>
    obtain ⟨C, dx, vs, e, hc, h1, hl, h2, h3, h4⟩ := h
    refine ⟨C, dx, vs, e, hc, f.h _ _ h1, hl, ?_, h3, h4.mono f.g⟩
    cases q : G' a with
    | none => rfl
    | some o =>
      rcases f.n a o q with z | z
      · rw [h2] at z; cases z
      · rw [h1] at z; cases z
theorem Mat.fr {T : Kt} {H0 : Hp} {σ : L2.St} {H G H' G' : Hp} {env : Env'} (m : Mat T H0 σ H G env) (f : Fr G H G' H') : Mat T H0 σ H' G' env :=
  ⟨f.s, m.len, fun i c e => let ⟨v, h1, h2⟩ := m.sl i c e; ⟨v, h1, h2.fr f⟩, m.dj⟩
/-- a slot gets a value -/
theorem Mat.setv {T : Kt} {H0 : Hp} {σ : L2.St} {H G : Hp} {env : Env'} (m : Mat T H0 σ H G env) {v : V} {d : D} (r : Rep T G v d) (i : Nat) : Mat T H0 (σ.set i (some v)) H G (env.set i (some (.val d))) := by
  refine ⟨m.gh, by simp [m.len], fun j c e => ?_, fun j k c d' a e1 e2 n1 n2 s1 s2 => ?_⟩
  · by_cases q : i = j
    · subst q
      have hl : i < env.length := by
        rcases Nat.lt_or_ge i env.length with z | z
        · exact z
        · rw [List.getElem?_eq_none (by simpa using z)] at e; cases e
      rw [List.getElem?_set_self hl] at e
      cases e
      exact ⟨v, by rw [List.getElem?_set_self (by rw [← m.len]; exact hl)], r⟩
    · rw [List.getElem?_set_ne q] at e
      rw [List.getElem?_set_ne q]
      exact m.sl j c e
  · have ne : ∀ (j : Nat) (c : Cell), (env.set i (some (.val d)))[j]? = some (some c) → c.isVal = false → i ≠ j := fun j c e n z => by
      subst z
      have hl : i < env.length := by
        rcases Nat.lt_or_ge i env.length with z | z
        · exact z
        · rw [List.getElem?_eq_none (by simpa using z)] at e; cases e
      rw [List.getElem?_set_self hl] at e
      cases e; cases n
    have nj := ne j c e1 n1
    have nk := ne k d' e2 n2
    rw [List.getElem?_set_ne nj] at e1 s1
    rw [List.getElem?_set_ne nk] at e2 s2
    exact m.dj j k c d' a e1 e2 n1 n2 s1 s2
/-- forget slots -/
theorem Mat.weak {T : Kt} {H0 : Hp} {σ : L2.St} {H G : Hp} {env env' : Env'} (m : Mat T H0 σ H G env) (hl : env'.length = env.length) (h : ∀ (i : Nat) (c : Cell), env'[i]? = some (some c) → env[i]? = some (some c)) : Mat T H0 σ H G env' :=
  ⟨m.gh, by rw [hl, m.len], fun i c e => m.sl i c (h i c e), fun i j c d a e1 e2 => m.dj i j c d a (h i c e1) (h j d e2)⟩
end Px

namespace Px
open PySem PySem.Spec PyProof.Rows L2

def Res.ofO {α : Type} : Option α → Res α
  | some a => .ok a
  | none => .bad
@[simp] theorem Res.ofO_some {α : Type} (a : α) : Res.ofO (some a) = .ok a := id rfl
@[simp] theorem Res.ofO_none {α : Type} : (Res.ofO none : Res α) = .bad := id rfl

/-! what is wanted -/
def EX (T : Kt) (W : XK) (G H : Hp) : Nat → List D → Prop := fun c vs => ∀ C dd ns ws H' G', T.xa c = some C → ns = T.xt c → ns.length = ws.length → Fr G H G' H' → H' dd = some (.xd (ns.zip ws)) → Reps T G' ws vs → W (.ref C) (some dd) H'
def PQ (T : Kt) (G H : Hp) (Q : VK) : D → Prop := fun d => ∀ v H' G', Fr G H G' H' → Rep T G' v d → Q v H'
def PB (G H : Hp) (Q : Bool → Hp → Prop) : Bool → Prop := fun b => ∀ H' G', Fr G H G' H' → Q b H'
def PL (T : Kt) (G H : Hp) (Q : List V → Hp → Prop) : List D → Prop := fun ds => ∀ vs H' G', Fr G H G' H' → Reps T G' vs ds → Q vs H'
theorem EX.fr {T : Kt} {W : XK} {G H G1 H1 : Hp} (f : Fr G H G1 H1) {c : Nat} {vs : List D} (h : EX T W G H c vs) : EX T W G1 H1 c vs := fun C dd ns ws H' G' h1 h2 h3 f' => h C dd ns ws H' G' h1 h2 h3 (f.trans f')
theorem PQ.fr {T : Kt} {Q : VK} {G H G1 H1 : Hp} (f : Fr G H G1 H1) {d : D} (h : PQ T G H Q d) : PQ T G1 H1 Q d := fun v H' G' f' => h v H' G' (f.trans f')
theorem PB.fr {Q : Bool → Hp → Prop} {G H G1 H1 : Hp} (f : Fr G H G1 H1) {d : Bool} (h : PB G H Q d) : PB G1 H1 Q d := fun H' G' f' => h H' G' (f.trans f')
theorem PL.fr {T : Kt} {Q : List V → Hp → Prop} {G H G1 H1 : Hp} (f : Fr G H G1 H1) {d : List D} (h : PL T G H Q d) : PL T G1 H1 Q d := fun v H' G' f' => h v H' G' (f.trans f')

/-- a reading computes m wherever the slots are env -/
def SE (T : Kt) (W : WX) (te : TE) (env : Env') (m : Res D) : Prop := ∀ H0 σ H G, Mat T H0 σ H G env → ∀ Q : VK, m.sat (PQ T G H Q) (EX T (WE W σ) G H) → te σ H Q
def ST (T : Kt) (W : WX) (te : TT) (env : Env') (m : Res Bool) : Prop := ∀ H0 σ H G, Mat T H0 σ H G env → ∀ Q : Bool → Hp → Prop, m.sat (PB G H Q) (EX T (WE W σ) G H) → te σ H Q
def SA (T : Kt) (W : WX) (te : TA) (env : Env') (m : Res (List D)) : Prop := ∀ H0 σ H G, Mat T H0 σ H G env → ∀ Q : List V → Hp → Prop, m.sat (PL T G H Q) (EX T (WE W σ) G H) → te σ H Q

structure PX (X : Cx) (T : Kt) (W : WX) (e : Expr) (env : Env') (m : Res D) : Prop where
  ex : ∃ t, PE X e t ∧ SE T W t env m
structure PTX (X : Cx) (T : Kt) (W : WX) (e : Expr) (env : Env') (m : Res Bool) : Prop where
  ex : ∃ t, PT X e t ∧ ST T W t env m
structure PWX (X : Cx) (T : Kt) (W : WX) (e : Expr) (env : Env') (m : Res Bool) : Prop where
  ex : ∃ t, PW X e t ∧ ST T W t env m
structure PAX (X : Cx) (T : Kt) (W : WX) (es : List Expr) (env : Env') (m : Res (List D)) : Prop where
  ex : ∃ t, PA X es t ∧ SA T W t env m

/-- the context -/
structure Ctx (X : Cx) (T : Kt) (W : WX) (k : Nat) : Prop where
  calm : X.calm = true
  nd : X.N.Nodup
  kk : X.K = T.K
  pass : ∀ σ, PassesAt (L2.CX X.prog X.w) X σ (WE W σ)
  room : Room k X.A
  po : PassesOwn (model X.prog X.w) X.A X.env X.xe

/-! two-place operations by data -/
def OpD (T : Kt) (r : R2) (f : D → D → Option D) : Prop := ∀ x y d e G H (Q : VK), Same G H → Rep T G x d → Rep T G y e → ∀ z, f d e = some z → PQ T G H Q z → r x y H Q
def op2 (f : D → D → Option D) (ma mb : Res D) : Res D := ma.bind fun a => mb.bind fun b => .ofO (f a b)
@[simp] theorem op2_ok (f : D → D → Option D) (a b : D) : op2 f (.ok a) (.ok b) = .ofO (f a b) := id rfl
theorem OpD.or {T : Kt} {r r' : R2} {f g : D → D → Option D} (h : OpD T r f) (h' : OpD T r' g) : OpD T (fun x y H Q => r x y H Q ∨ r' x y H Q) (fun a b => (f a b).orElse fun _ => g a b) := by
  intro x y d e G H Q s rx ry z hz q
  cases hf : f d e with
  | some w =>
    have e1 : w = z := by simpa [hf] using hz
    exact .inl (h x y d e G H Q s rx ry z (by rw [hf, e1]) q)
  | none =>
    have e1 : g d e = some z := by simpa [hf] using hz
    exact .inr (h' x y d e G H Q s rx ry z e1 q)
theorem OpR.or {X : Cx} {f : Value → Value → Sem Value} {r r' : R2} (h : OpR X f r) (h' : OpR X f r') : OpR X f (fun x y H Q => r x y H Q ∨ r' x y H Q) := by
  intro pins s σ H x y v u Q I rx ry q
  rcases q with q | q
  · exact h pins s σ H x y v u Q I rx ry q
  · exact h' pins s σ H x y v u Q I rx ry q

section
variable {X : Cx} {T : Kt} {W : WX} {k : Nat} {env : Env'} {a b c e o : Expr} {es : List Expr} {ma mb mc m : Res D} {pos : Pos}

theorem SE.op {ta tb : TE} {r : R2} {f : D → D → Option D} (hd : OpD T r f) (ha : SE T W ta env ma) (hb : SE T W tb env mb) : SE T W (tOp r ta tb) env (op2 f ma mb) := by
  intro H0 σ H G M Q h
  refine ha H0 σ H G M _ ((Res.sat_bind h).mono (fun x hx v1 H1 G1 f1 r1 => ?_) fun _ _ z => z)
  refine hb H0 σ H1 G1 (M.fr f1) _ ((Res.sat_bind hx).mono (fun y hy v2 H2 G2 f2 r2 => ?_) fun _ _ z => z.fr f1)
  cases hf : f x y with
  | none => rw [hf] at hy; exact hy.elim
  | some w =>
    rw [hf] at hy
    exact hd _ _ x y G2 H2 Q f2.s (r1.mono f2.g) r2 w hf ((PQ.fr f1 hy).fr f2)

theorem px_op {op : Operator} {r : R2} {f : D → D → Option D} (ho : OpR X (binaryOp op) r) (hd : OpD T r f) (ha : PX X T W a env ma) (hb : PX X T W b env mb) : PX X T W (.BinOp a op b pos) env (op2 f ma mb) := by
  obtain ⟨ta, pa, sa⟩ := ha.ex
  obtain ⟨tb, pb, sb⟩ := hb.ex
  exact ⟨_, pe_op ho pa pb, SE.op hd sa sb⟩
theorem px_cmpR {op : CmpOp} {r : R2} {f : D → D → Option D} (ho : OpR X (compareOp op) r) (hd : OpD T r f) (ha : PX X T W a env ma) (hb : PX X T W b env mb) (hm : behindInMarks op b = false) : PX X T W (.Compare a [op] [b] pos) env (op2 f ma mb) := by
  obtain ⟨ta, pa, sa⟩ := ha.ex
  obtain ⟨tb, pb, sb⟩ := hb.ex
  exact ⟨_, pe_cmpR ho pa pb hm, SE.op hd sa sb⟩
theorem px_ix {r : R2} {f : D → D → Option D} (ho : IxR X r) (hd : OpD T r f) (ha : PX X T W a env ma) (hb : PX X T W b env mb) (hs : PlainIx b) : PX X T W (.Subscript a b pos) env (op2 f ma mb) := by
  obtain ⟨ta, pa, sa⟩ := ha.ex
  obtain ⟨tb, pb, sb⟩ := hb.ex
  exact ⟨_, pe_ix ho pa pb hs, SE.op hd sa sb⟩

/-! names, constants -/
theorem px_v (i : Nat) {x : Str} {d : D} (he : env[i]? = some (some (.val d))) (hN : X.N[i]? = some x) (hv : Vis X.env.scope x) (hd : (x == ("__debug__" : Str)) = false) (hcd : (x == ("__classdict__" : Str)) = false) : PX X T W (.Name x pos) env (.ok d) := by
  refine ⟨_, pe_var (i := i) hN hv hd hcd, fun H0 σ H G M Q h => ?_⟩
  obtain ⟨v, h1, h2⟩ := M.sl i _ he
  exact ⟨v, h1, h v H G (Fr.refl M.gh) h2⟩
theorem SE.const {v : V} {d : D} (r : ∀ G, Rep T G v d) : SE T W (tC v) env (.ok d) := fun H0 σ H G M Q h => h v H G (Fr.refl M.gh) (r G)
theorem px_int {i : Int} {j pos} : PX X T W (.Constant (.int i) j pos) env (.ok (.int i)) := ⟨_, pe_int, SE.const fun _ => .int i⟩
theorem px_bl {i : Bool} {j pos} : PX X T W (.Constant (.bool i) j pos) env (.ok (.bl i)) := ⟨_, pe_bl, SE.const fun _ => .bl i⟩
theorem px_non {j pos} : PX X T W (.Constant .none j pos) env (.ok .non) := ⟨_, pe_non, SE.const fun _ => .non⟩
theorem px_str {s : Str} {j pos} : PX X T W (.Constant (.str s) j pos) env (.ok (.str s)) := ⟨_, pe_str, SE.const fun _ => .str s⟩
/-- a module's constant -/
theorem px_glob {x : Str} {v : V} {u : Value} {d : D} (hg : Gl X x) (hm : X.mg x = some u) (r : RelV v u) (rd : ∀ G, Rep T G v d) (hd : (x == ("__debug__" : Str)) = false) : PX X T W (.Name x pos) env (.ok d) := ⟨_, pe_glob hg hm r hd, SE.const rd⟩

/-! unary -/
def UnD (T : Kt) (r : V → Hp → VK → Prop) (f : D → Option D) : Prop := ∀ x d G H (Q : VK), Same G H → Rep T G x d → ∀ z, f d = some z → PQ T G H Q z → r x H Q
def op1 (f : D → Option D) (ma : Res D) : Res D := ma.bind fun a => .ofO (f a)
@[simp] theorem op1_ok (f : D → Option D) (a : D) : op1 f (.ok a) = .ofO (f a) := id rfl
theorem SE.un {ta : TE} {r : V → Hp → VK → Prop} {f : D → Option D} (hd : UnD T r f) (ha : SE T W ta env ma) : SE T W (tUn r ta) env (op1 f ma) := by
  intro H0 σ H G M Q h
  refine ha H0 σ H G M _ ((Res.sat_bind h).mono (fun x hx v1 H1 G1 f1 r1 => ?_) fun _ _ z => z)
  cases hf : f x with
  | none => rw [hf] at hx; exact hx.elim
  | some w =>
    rw [hf] at hx
    exact hd _ x G1 H1 Q f1.s r1 w hf (PQ.fr f1 hx)
theorem px_un {op : UnaryOp} {r : V → Hp → VK → Prop} {f : D → Option D} (ho : UnR X (unaryOp op) r) (hd : UnD T r f) (ha : PX X T W a env ma) : PX X T W (.UnaryOp op a pos) env (op1 f ma) := by
  obtain ⟨ta, pa, sa⟩ := ha.ex
  exact ⟨_, pe_un ho pa, SE.un hd sa⟩

/-! argument lists -/
def consR (ma : Res D) (ms : Res (List D)) : Res (List D) := ma.bind fun a => ms.bind fun l => .ok (a :: l)
@[simp] theorem consR_ok (a : D) (l : List D) : consR (.ok a) (.ok l) = .ok (a :: l) := id rfl
theorem pax_nil : PAX X T W [] env (.ok []) := ⟨_, pa_nil, fun H0 σ H G M Q h => h [] H G (Fr.refl M.gh) .nil⟩
theorem pax_cons {ms : Res (List D)} (he : PX X T W e env ma) (hr : PAX X T W es env ms) (hs : starEach (e :: es) X.env = (false, eval e X.env) :: starEach es X.env := by rfl) : PAX X T W (e :: es) env (consR ma ms) := by
  obtain ⟨ta, pa, sa⟩ := he.ex
  obtain ⟨tr, pr, sr⟩ := hr.ex
  refine ⟨_, pa_cons pa pr hs, fun H0 σ H G M Q h => ?_⟩
  refine sa H0 σ H G M _ ((Res.sat_bind h).mono (fun x hx v1 H1 G1 f1 r1 => ?_) fun _ _ z => z)
  refine sr H0 σ H1 G1 (M.fr f1) _ ((Res.sat_bind hx).mono (fun l hl vs H2 G2 f2 r2 => ?_) fun _ _ z => z.fr f1)
  exact hl (v1 :: vs) H2 G2 (f1.trans f2) (.cons (r1.mono f2.g) r2)

/-! displays -/
def lstR (ms : Res (List D)) : Res D := ms.bind fun l => if l.length ≤ sizeLine then .ok (.lst l) else .bad
def tupR (ms : Res (List D)) : Res D := ms.bind fun l => if l.length ≤ sizeLine then .ok (.tup l) else .bad
theorem px_lst {ms : Res (List D)} (h : PAX X T W es env ms) : PX X T W (.List es pos) env (lstR ms) := by
  obtain ⟨t, p, s⟩ := h.ex
  refine ⟨_, pe_lst p, fun H0 σ H G M Q h => ?_⟩
  refine s H0 σ H G M _ ((Res.sat_bind h).mono (fun l hl vs H1 G1 f1 r1 => ?_) fun _ _ z => z)
  by_cases hz : l.length ≤ sizeLine
  · rw [if_pos hz] at hl
    refine ⟨by rw [r1.length]; exact hz, fun q nq => hl _ _ _ (f1.trans (Fr.new f1.s nq)) (.lst upd_same (r1.mono (same_upd (f1.s.free nq))))⟩
  · rw [if_neg hz] at hl; exact hl.elim
theorem px_tup {ms : Res (List D)} {x1} (h : PAX X T W es env ms) : PX X T W (.Tuple es x1 pos) env (tupR ms) := by
  obtain ⟨t, p, s⟩ := h.ex
  refine ⟨_, pe_tup p, fun H0 σ H G M Q h => ?_⟩
  refine s H0 σ H G M _ ((Res.sat_bind h).mono (fun l hl vs H1 G1 f1 r1 => ?_) fun _ _ z => z)
  by_cases hz : l.length ≤ sizeLine
  · rw [if_pos hz] at hl
    refine ⟨by rw [r1.length]; exact hz, fun q nq => hl _ _ _ (f1.trans (Fr.new f1.s nq)) (.tup (SqT.of upd_same) (r1.mono (same_upd (f1.s.free nq))))⟩
  · rw [if_neg hz] at hl; exact hl.elim

/-! calls of what is built in -/
def CallD (T : Kt) (r : List V → Hp → VK → Prop) (f : List D → Option D) : Prop := ∀ xs ds G H (Q : VK), Same G H → Reps T G xs ds → ∀ z, f ds = some z → PQ T G H Q z → r xs H Q
def callO (f : List D → Option D) (ms : Res (List D)) : Res D := ms.bind fun l => .ofO (f l)
@[simp] theorem callO_ok (f : List D → Option D) (l : List D) : callO f (.ok l) = .ofO (f l) := id rfl
theorem SE.cb {ta : TA} {ms : Res (List D)} {r : List V → Hp → VK → Prop} {f : List D → Option D} (hd : CallD T r f) (ha : SA T W ta env ms) : SE T W (tCB r ta) env (callO f ms) := by
  intro H0 σ H G M Q h
  refine ha H0 σ H G M _ ((Res.sat_bind h).mono (fun x hx v1 H1 G1 f1 r1 => ?_) fun _ _ z => z)
  cases hf : f x with
  | none => rw [hf] at hx; exact hx.elim
  | some w =>
    rw [hf] at hx
    exact hd _ x G1 H1 Q f1.s r1 w hf (PQ.fr f1 hx)
theorem CallD.or {r r' : List V → Hp → VK → Prop} {f g : List D → Option D} (h : CallD T r f) (h' : CallD T r' g) : CallD T (fun x H Q => r x H Q ∨ r' x H Q) (fun a => (f a).orElse fun _ => g a) := by
  intro x d G H Q s rx z hz q
  cases hf : f d with
  | some w =>
    have e1 : w = z := by simpa [hf] using hz
    exact .inl (h x d G H Q s rx z (by rw [hf, e1]) q)
  | none =>
    have e1 : g d = some z := by simpa [hf] using hz
    exact .inr (h' x d G H Q s rx z e1 q)
theorem CallR.or {f : Value} {r r' : List V → Hp → VK → Prop} (h : CallR X f r) (h' : CallR X f r') : CallR X f (fun x H Q => r x H Q ∨ r' x H Q) := by
  intro pins s σ H x u Q I rx q
  rcases q with q | q
  · exact h pins s σ H x u Q I rx q
  · exact h' pins s σ H x u Q I rx q
theorem px_callB {x : Str} {id : String} {p : Pos} {ms : Res (List D)} {r : List V → Hp → VK → Prop} {f : List D → Option D} (hc : CallR X (.builtin id) r) (hd : CallD T r f) (hg : Gl X x) (hm : X.mg x = none) (hv : bootBuiltins x = some (.builtin id)) (ha : PAX X T W (e :: es) env ms)
    (hn : x ≠ "__name__" := by decide) (hdb : (x == ("__debug__" : Str)) = false := by decide) (he : starEach (e :: es) X.env = (false, eval e X.env) :: starEach es X.env := by rfl) (hpl : (backTo pos (starEach es X.env)).any (·.1) = false := by rfl) :
    PX X T W (.Call (.Name x p) (e :: es) [] pos) env (callO f ms) := by
  obtain ⟨t, pa, sa⟩ := ha.ex
  exact ⟨_, pe_callB hc hg hm hv pa hn hdb he hpl, SE.cb hd sa⟩
theorem px_callTy {x : Str} {id : String} {p : Pos} {ms : Res (List D)} {r : List V → Hp → VK → Prop} {f : List D → Option D} (hc : CallR X (.type id) r) (hd : CallD T r f) (hg : Gl X x) (hm : X.mg x = none) (hv : bootBuiltins x = some (.type id)) (ha : PAX X T W (e :: es) env ms)
    (hn : x ≠ "__name__" := by decide) (hdb : (x == ("__debug__" : Str)) = false := by decide) (he : starEach (e :: es) X.env = (false, eval e X.env) :: starEach es X.env := by rfl) (hpl : (backTo pos (starEach es X.env)).any (·.1) = false := by rfl) :
    PX X T W (.Call (.Name x p) (e :: es) [] pos) env (callO f ms) := by
  obtain ⟨t, pa, sa⟩ := ha.ex
  exact ⟨_, pe_callTy hc hg hm hv pa hn hdb he hpl, SE.cb hd sa⟩
end
end Px

namespace Px
open PySem PySem.Spec PyProof.Rows L2

/-! ### operators by data -/
def addD : D → D → Option D
  | .int i, .int j => some (.int (i + j))
  | .lst a, .lst b => if a.length + b.length ≤ sizeLine then some (.lst (a ++ b)) else none
  | .tup a, .tup b => if a ≠ [] ∧ b ≠ [] ∧ a.length + b.length ≤ sizeLine then some (.tup (a ++ b)) else none
  | .str a, .str b => if a.length + b.length ≤ sizeLine then some (.str (a ++ b)) else none
  | _, _ => none
def subD : D → D → Option D
  | .int i, .int j => some (.int (i - j))
  | _, _ => none
def mulOK (i j : Int) : Bool := decide (i.natAbs.log2 + j.natAbs.log2 < 100000000)
def mulD : D → D → Option D
  | .int i, .int j => if mulOK i j then some (.int (i * j)) else none
  | _, _ => none
def modD : D → D → Option D
  | .int i, .int j => if j ≠ 0 then some (.int (i.fmod j)) else none
  | _, _ => none
def divD : D → D → Option D
  | .int i, .int j => if 0 < j ∧ j.natAbs.log2 < 9000 then some (.int (i / j)) else none
  | _, _ => none
def powD : D → D → Option D
  | .int i, .int j => if 0 ≤ j ∧ j ≤ 1000000 ∧ i.natAbs < 2 ^ 64 then some (.int (i ^ j.toNat)) else none
  | _, _ => none
def repD : D → D → Option D
  | .lst a, .int k => if -(2 ^ 63) ≤ k ∧ k < 2 ^ 63 ∧ a.length * k.toNat ≤ sizeLine then some (.lst (List.replicate k.toNat a).flatten) else none
  | x, y => mulD x y
def toInts : List D → Option (List Int)
  | [] => some []
  | .int i :: r => match toInts r with
    | some l => some (i :: l)
    | none => none
  | _ => none
def ltD : D → D → Option D
  | .int i, .int j => some (.bl (decide (i < j)))
  | .tup a, .tup b => match toInts a, toInts b with
    | some ns, some ms => some (.bl (HT.lexLt ns ms))
    | _, _ => none
  | _, _ => none
def leD : D → D → Option D
  | .int i, .int j => some (.bl (decide (i ≤ j)))
  | _, _ => none
def gtD : D → D → Option D
  | .int i, .int j => some (.bl (decide (j < i)))
  | _, _ => none
def geD : D → D → Option D
  | .int i, .int j => some (.bl (decide (j ≤ i)))
  | _, _ => none
def D.isNon : D → Bool
  | .non => true
  | _ => false
def isND (a b : D) : Option D := if b.isNon then some (.bl a.isNon) else none
def notND (a b : D) : Option D := if b.isNon then some (.bl !a.isNon) else none
def negD : D → Option D
  | .int i => some (.int (-i))
  | _ => none
def lenD : List D → Option D
  | [.lst l] => some (.int l.length)
  | [.scr l] => some (.int l.length)
  | [.tup l] => some (.int l.length)
  | [.str s] => if s.length ≤ sizeLine then some (.int s.length) else none
  | _ => none
def intD : List D → Option D
  | [.int i] => some (.int i)
  | [.bl b] => some (.int (if b then 1 else 0))
  | _ => none
def absD : List D → Option D
  | [.int i] => some (.int (if i < 0 then -i else i))
  | _ => none
def maxD : List D → Option D
  | [.int i, .int j] => some (.int (if j > i then j else i))
  | _ => none
def minD : List D → Option D
  | [.int i, .int j] => some (.int (if j < i then j else i))
  | _ => none
def listD : List D → Option D
  | [.lst l] => some (.lst l)
  | [.scr l] => some (.lst l)
  | [.tup l] => some (.lst l)
  | _ => none
def tupleD : List D → Option D
  | [.lst l] => some (.tup l)
  | [.scr l] => some (.tup l)
  | [.tup l] => some (.tup l)
  | _ => none
def ixD : D → D → Option D
  | .lst l, .int i => atI l i
  | .scr l, .int i => atI l i
  | .tup l, .int i => atI l i
  | .str z, .int i => if z.length ≤ sizeLine then (atI z.cps.toList i).map fun c => .str ⟨#[c]⟩ else none
  | _, _ => none

theorem rep_int {T : Kt} {G : Hp} {x : V} {i : Int} (h : Rep T G x (.int i)) : x = .int i := by cases h; rfl

theorem atI_len {α β : Type} {xs : List α} {ys : List β} {i : Int} {y : β} (h : xs.length = ys.length) (e : atI ys i = some y) : ∃ j : Nat, ys[j]? = some y ∧ ∀ x, xs[j]? = some x → atI xs i = some x := by
  unfold atI at e ⊢
  rw [h]
  cases q : ixN ys.length i with
  | none => rw [q] at e; cases e
  | some j =>
    rw [q] at e
    exact ⟨j, e, fun x hx => hx⟩
theorem Reps.atI {T : Kt} {G : Hp} {vs : List V} {ds : List D} {i : Int} {d : D} (r : Reps T G vs ds) (e : L2.atI ds i = some d) : ∃ v, L2.atI vs i = some v ∧ Rep T G v d := by
  obtain ⟨j, h1, h2⟩ := atI_len (xs := vs) r.length e
  obtain ⟨v, h3, h4⟩ := r.get h1
  exact ⟨v, h2 v h3, h4⟩

section
variable {X : Cx} {T : Kt}
theorem op_mulB : OpR X (binaryOp .Mult) (rI (fun i j => mulOK i j = true) fun i j => .int (i * j)) := opI fun i j _ _ _ _ _ hc q => mul_int q (by
  have b : ∀ x : Int, Builtin.Int.intBits x ≤ x.natAbs.log2 + 1 := fun x => by
    unfold Builtin.Int.intBits
    split <;> omega
  have h3 : i.natAbs.log2 + j.natAbs.log2 < 100000000 := of_decide_eq_true hc
  exact PyProof.Rows.mulOk_of_bits (b i) (b j) (by omega))

def rAddAll (K : PySem.W.Frag) : R2 := fun x y H Q => (rI0 fun i j => .int (i + j)) x y H Q ∨ (rCat x y H Q ∨ (rCatT K x y H Q ∨ (∃ i j, x = V.str i ∧ y = V.str j ∧ i.length + j.length ≤ sizeLine ∧ Q (V.str (i ++ j)) H)))
theorem op_addAll : OpR X (binaryOp .Add) (rAddAll X.K) := OpR.or op_add (OpR.or op_cat (OpR.or op_catT op_add_str))
theorem od_add : OpD T (rAddAll T.K) addD := by
  intro x y d e G H Q s rx ry z hz q
  cases rx <;> cases ry <;> simp only [addD] at hz <;> try (cases hz; done)
  · cases hz; exact .inl ⟨_, _, rfl, rfl, q _ _ _ (Fr.refl s) (.int _)⟩
  · split at hz
    · rename_i hl; cases hz; exact .inr (.inr (.inr ⟨_, _, rfl, rfl, hl, q _ _ _ (Fr.refl s) (.str _)⟩))
    · cases hz
  · split at hz
    · rename_i a vs ds h1 r1 b ws es h2 r2 hl
      cases hz
      refine .inr (.inl ⟨_, _, _, _, rfl, rfl, s _ _ h1, s _ _ h2, by rw [r1.length, r2.length]; exact hl, fun p np => q _ _ _ (Fr.new s np) (.lst upd_same ((r1.append r2).mono (same_upd (s.free np))))⟩)
    · cases hz
  · split at hz
    · rename_i a vs ds h1 r1 b ws es h2 r2 hl
      obtain ⟨n1, n2, hl⟩ := hl
      cases hz
      have m1 : vs ≠ [] := fun z => n1 (by subst z; cases r1; rfl)
      have m2 : ws ≠ [] := fun z => n2 (by subst z; cases r2; rfl)
      refine .inr (.inr (.inl ⟨_, _, _, _, rfl, rfl, sqT_same s h1, sqT_same s h2, m1, by rw [r1.length, r2.length]; exact hl, fun z => absurd z m2, fun _ p np => q _ _ _ (Fr.new s np) (.tup (SqT.of upd_same) ((r1.append r2).mono (same_upd (s.free np))))⟩))
    · cases hz
theorem od_int {C : Int → Int → Prop} {g : Int → Int → V} {f : D → D → Option D} (h : ∀ x y z, f x y = some z → ∃ i j, x = .int i ∧ y = .int j ∧ C i j ∧ ∀ G, Rep T G (g i j) z) : OpD T (rI C g) f := by
  intro x y d e G H Q s rx ry z hz q
  obtain ⟨i, j, rfl, rfl, c, r⟩ := h _ _ _ hz
  cases rx; cases ry
  exact ⟨i, j, rfl, rfl, c, q _ _ _ (Fr.refl s) (r _)⟩
theorem od_int0 {g : Int → Int → V} {f : D → D → Option D} (h : ∀ x y z, f x y = some z → ∃ i j, x = .int i ∧ y = .int j ∧ ∀ G, Rep T G (g i j) z) : OpD T (rI0 g) f := by
  intro x y d e G H Q s rx ry z hz q
  obtain ⟨i, j, rfl, rfl, r⟩ := h _ _ _ hz
  cases rx; cases ry
  exact ⟨i, j, rfl, rfl, q _ _ _ (Fr.refl s) (r _)⟩
theorem od_sub : OpD T (rI0 fun i j => .int (i - j)) subD := od_int0 fun x y z h => by
  unfold subD at h; split at h <;> cases h; exact ⟨_, _, rfl, rfl, fun _ => .int _⟩
theorem od_mul : OpD T (rI (fun i j => mulOK i j = true) fun i j => .int (i * j)) mulD := od_int fun x y z h => by
  unfold mulD at h; split at h
  · split at h
    · cases h; exact ⟨_, _, rfl, rfl, by assumption, fun _ => .int _⟩
    · cases h
  · cases h
theorem od_mod : OpD T (rI (fun _ j => j ≠ 0) fun i j => .int (i.fmod j)) modD := od_int fun x y z h => by
  unfold modD at h; split at h
  · split at h
    · cases h; exact ⟨_, _, rfl, rfl, by assumption, fun _ => .int _⟩
    · cases h
  · cases h
theorem od_div : OpD T (rI CDivW fun i j => .int (i / j)) divD := od_int fun x y z h => by
  unfold divD at h; split at h
  · split at h
    · cases h; exact ⟨_, _, rfl, rfl, by assumption, fun _ => .int _⟩
    · cases h
  · cases h
theorem od_pow : OpD T (rI CPow fun i j => .int (i ^ j.toNat)) powD := od_int fun x y z h => by
  unfold powD at h; split at h
  · split at h
    · cases h; exact ⟨_, _, rfl, rfl, by assumption, fun _ => .int _⟩
    · cases h
  · cases h
def rMulAll : R2 := fun x y H Q => rRep x y H Q ∨ (rI (fun i j => mulOK i j = true) fun i j => .int (i * j)) x y H Q
theorem op_mulAll : OpR X (binaryOp .Mult) rMulAll := OpR.or op_rep op_mulB
theorem reps_rep {G : Hp} {vs : List V} {ds : List D} (r : Reps T G vs ds) : ∀ n, Reps T G (List.replicate n vs).flatten (List.replicate n ds).flatten
  | 0 => .nil
  | n + 1 => by
    rw [List.replicate_succ, List.replicate_succ, List.flatten_cons, List.flatten_cons]
    exact r.append (reps_rep r n)
theorem od_rep : OpD T rMulAll repD := by
  intro x y d e G H Q s rx ry z hz q
  by_cases hh : ∃ l, d = .lst l
  · obtain ⟨l, rfl⟩ := hh
    cases rx
    cases ry <;> simp only [repD, mulD] at hz <;> try (cases hz; done)
    split at hz
    · rename_i h1 r1 _ hl
      cases hz
      exact .inl ⟨_, _, _, rfl, rfl, s _ _ h1, hl.1, hl.2.1, by rw [r1.length]; exact hl.2.2, fun p np => q _ _ _ (Fr.new s np) (.lst upd_same ((reps_rep r1 _).mono (same_upd (s.free np))))⟩
    · cases hz
  · have e1 : mulD d e = some z := by
      unfold repD at hz
      split at hz
      · exact absurd ⟨_, rfl⟩ hh
      · exact hz
    exact .inr (od_mul x y d e G H Q s rx ry z e1 q)
theorem od_le : OpD T (rI0 fun i j => .bl (decide (i ≤ j))) leD := od_int0 fun x y z h => by
  unfold leD at h; split at h <;> cases h; exact ⟨_, _, rfl, rfl, fun _ => .bl _⟩
theorem od_gt : OpD T (rI0 fun i j => .bl (decide (j < i))) gtD := od_int0 fun x y z h => by
  unfold gtD at h; split at h <;> cases h; exact ⟨_, _, rfl, rfl, fun _ => .bl _⟩
theorem od_ge : OpD T (rI0 fun i j => .bl (decide (j ≤ i))) geD := od_int0 fun x y z h => by
  unfold geD at h; split at h <;> cases h; exact ⟨_, _, rfl, rfl, fun _ => .bl _⟩
def rLtAll (K : PySem.W.Frag) : R2 := fun x y H Q => (rI0 fun i j => .bl (decide (i < j))) x y H Q ∨ rLtT K x y H Q
theorem op_ltAll (hu : X.A.units < cLine) : OpR X (compareOp .Lt) (rLtAll X.K) := OpR.or op_lt (op_ltT hu)
theorem toInts_eq : ∀ {ds : List D} {ns : List Int}, toInts ds = some ns → ds = ns.map D.int
  | [], _, h => by cases h; rfl
  | .int i :: r, ns, h => by
    unfold toInts at h
    split at h
    · rename_i l hl; cases h; rw [toInts_eq hl]; rfl
    · cases h
  | .non :: _, _, h => by cases h
  | .bl _ :: _, _, h => by cases h
  | .str _ :: _, _, h => by cases h
  | .lst _ :: _, _, h => by cases h
  | .scr _ :: _, _, h => by cases h
  | .tup _ :: _, _, h => by cases h
  | .obj _ _ :: _, _, h => by cases h
theorem reps_ints {G : Hp} : ∀ {ns : List Int} {vs : List V}, Reps T G vs (ns.map D.int) → vs = ns.map V.int
  | [], _, r => by cases r; rfl
  | n :: ns, _, r => by
    cases r with
    | cons a r => cases a; rw [reps_ints r]; rfl
theorem od_lt : OpD T (rLtAll T.K) ltD := by
  intro x y d e G H Q s rx ry z hz q
  unfold ltD at hz
  split at hz
  · cases hz; cases rx; cases ry; exact .inl ⟨_, _, rfl, rfl, q _ _ _ (Fr.refl s) (.bl _)⟩
  · split at hz
    · rename_i ns ms h1 h2
      cases hz
      rw [toInts_eq h1] at rx
      rw [toInts_eq h2] at ry
      cases rx with
      | tup t1 r1 => cases ry with
        | tup t2 r2 =>
          rw [reps_ints r1] at t1
          rw [reps_ints r2] at t2
          exact .inr ⟨_, _, _, _, rfl, rfl, sqT_same s t1, sqT_same s t2, q _ _ _ (Fr.refl s) (.bl _)⟩
    · cases hz
  · cases hz
theorem rep_isNon {G : Hp} {x : V} {d : D} (r : Rep T G x d) : decide (x = .non) = d.isNon := by cases r <;> rfl
theorem od_isN : OpD T (fun x y H Q => y = V.non ∧ Q (V.bl (decide (x = V.non))) H) isND := by
  intro x y d e G H Q s rx ry z hz q
  unfold isND at hz
  cases e <;> simp [D.isNon] at hz
  subst hz
  cases ry
  refine ⟨rfl, q _ _ _ (Fr.refl s) ?_⟩
  have := rep_isNon rx
  rw [this]
  exact .bl _
theorem od_notN : OpD T (fun x y H Q => y = V.non ∧ Q (V.bl !decide (x = V.non)) H) notND := by
  intro x y d e G H Q s rx ry z hz q
  unfold notND at hz
  cases e <;> simp [D.isNon] at hz
  subst hz
  cases ry
  refine ⟨rfl, q _ _ _ (Fr.refl s) ?_⟩
  have := rep_isNon rx
  rw [this]
  exact .bl _
theorem ud_neg : UnD T (rU fun i => V.int (-i)) negD := by
  intro x d G H Q s rx z hz q
  cases rx <;> simp [negD] at hz
  subst hz
  exact ⟨_, rfl, q _ _ _ (Fr.refl s) (.int _)⟩
theorem reps1 {G : Hp} {xs : List V} {d : D} (r : Reps T G xs [d]) : ∃ x, xs = [x] ∧ Rep T G x d := by
  cases r with
  | cons a r => cases r; exact ⟨_, rfl, a⟩
theorem reps2 {G : Hp} {xs : List V} {d e : D} (r : Reps T G xs [d, e]) : ∃ x y, xs = [x, y] ∧ Rep T G x d ∧ Rep T G y e := by
  cases r with
  | cons a r => obtain ⟨y, rfl, b⟩ := reps1 r; exact ⟨_, _, rfl, a, b⟩
theorem cd_len : CallD T (fun xs H Q => ∃ x n, xs = [x] ∧ LenV T.K x H n ∧ Q (V.int n) H) lenD := by
  intro xs ds G H Q s r z hz q
  unfold lenD at hz
  split at hz <;> try (cases hz; done)
  · cases hz; obtain ⟨x, rfl, rr⟩ := reps1 r; cases rr with
    | lst h r => exact ⟨_, _, rfl, .inl ⟨_, SqL.of (s _ _ h), rfl⟩, by rw [r.length]; exact q _ _ _ (Fr.refl s) (.int _)⟩
  · cases hz; obtain ⟨x, rfl, rr⟩ := reps1 r; cases rr with
    | scr h r => exact ⟨_, _, rfl, .inl ⟨_, s.seq h, rfl⟩, by rw [r.length]; exact q _ _ _ (Fr.refl s) (.int _)⟩
  · cases hz; obtain ⟨x, rfl, rr⟩ := reps1 r; cases rr with
    | tup h r => exact ⟨_, _, rfl, .inr ⟨_, sqT_same s h, rfl⟩, by rw [r.length]; exact q _ _ _ (Fr.refl s) (.int _)⟩
  · split at hz
    · cases hz; obtain ⟨x, rfl, rr⟩ := reps1 r; cases rr with
      | str y => exact ⟨_, _, rfl, ⟨by assumption, rfl⟩, q _ _ _ (Fr.refl s) (.int _)⟩
    · cases hz
theorem cd_int : CallD T (fun xs H Q => (∃ i, xs = [V.int i] ∧ Q (V.int i) H) ∨ ∃ k, xs = [V.bl k] ∧ Q (V.int (if k = true then 1 else 0)) H) intD := by
  intro xs ds G H Q s r z hz q
  unfold intD at hz
  split at hz <;> cases hz
  · obtain ⟨x, rfl, rr⟩ := reps1 r; cases rr; exact .inl ⟨_, rfl, q _ _ _ (Fr.refl s) (.int _)⟩
  · obtain ⟨x, rfl, rr⟩ := reps1 r; cases rr; exact .inr ⟨_, rfl, q _ _ _ (Fr.refl s) (.int _)⟩
theorem cd_abs : CallD T (fun xs H Q => ∃ i, xs = [V.int i] ∧ Q (V.int (if i < 0 then -i else i)) H) absD := by
  intro xs ds G H Q s r z hz q
  unfold absD at hz
  split at hz <;> cases hz
  obtain ⟨x, rfl, rr⟩ := reps1 r; cases rr; exact ⟨_, rfl, q _ _ _ (Fr.refl s) (.int _)⟩
theorem cd_max : CallD T (fun xs H Q => ∃ i j, xs = [V.int i, V.int j] ∧ Q (V.int (if j > i then j else i)) H) maxD := by
  intro xs ds G H Q s r z hz q
  unfold maxD at hz
  split at hz <;> cases hz
  obtain ⟨x, y, rfl, r1, r2⟩ := reps2 r; cases r1; cases r2; exact ⟨_, _, rfl, q _ _ _ (Fr.refl s) (.int _)⟩
theorem cd_min : CallD T (fun xs H Q => ∃ i j, xs = [V.int i, V.int j] ∧ Q (V.int (if j < i then j else i)) H) minD := by
  intro xs ds G H Q s r z hz q
  unfold minD at hz
  split at hz <;> cases hz
  obtain ⟨x, y, rfl, r1, r2⟩ := reps2 r; cases r1; cases r2; exact ⟨_, _, rfl, q _ _ _ (Fr.refl s) (.int _)⟩
theorem cd_list : CallD T (fun xs H Q => ∃ p ys, xs = [V.ref p] ∧ (SqL T.K H p ys ∨ SqT T.K H p ys) ∧ ∀ (l : Addr), H l = none → Q (V.ref l) (upd H l (HO.lst ys))) listD := by
  intro xs ds G H Q s r z hz q
  unfold listD at hz
  split at hz <;> cases hz <;> (obtain ⟨x, rfl, rr⟩ := reps1 r; cases rr)
  · exact ⟨_, _, rfl, .inl (SqL.of (s _ _ (by assumption))), fun p np => q _ _ _ (Fr.new s np) (.lst upd_same (Reps.mono (same_upd (s.free np)) (by assumption)))⟩
  · exact ⟨_, _, rfl, .inl (s.seq (by assumption)), fun p np => q _ _ _ (Fr.new s np) (.lst upd_same (Reps.mono (same_upd (s.free np)) (by assumption)))⟩
  · exact ⟨_, _, rfl, .inr (sqT_same s (by assumption)), fun p np => q _ _ _ (Fr.new s np) (.lst upd_same (Reps.mono (same_upd (s.free np)) (by assumption)))⟩
theorem cd_tuple : CallD T (fun xs H Q => ∃ p ys, xs = [V.ref p] ∧ ((SqL T.K H p ys ∧ ∀ (l : Addr), H l = none → Q (V.ref l) (upd H l (HO.tup ys))) ∨ SqT T.K H p ys ∧ Q (V.ref p) H)) tupleD := by
  intro xs ds G H Q s r z hz q
  unfold tupleD at hz
  split at hz <;> cases hz <;> (obtain ⟨x, rfl, rr⟩ := reps1 r; cases rr)
  · exact ⟨_, _, rfl, .inl ⟨SqL.of (s _ _ (by assumption)), fun p np => q _ _ _ (Fr.new s np) (.tup (SqT.of upd_same) (Reps.mono (same_upd (s.free np)) (by assumption)))⟩⟩
  · exact ⟨_, _, rfl, .inl ⟨s.seq (by assumption), fun p np => q _ _ _ (Fr.new s np) (.tup (SqT.of upd_same) (Reps.mono (same_upd (s.free np)) (by assumption)))⟩⟩
  · exact ⟨_, _, rfl, .inr ⟨sqT_same s (by assumption), q _ _ _ (Fr.refl s) (.tup (by assumption) (by assumption))⟩⟩
theorem od_ix : OpD T (rIx T.K) ixD := by
  intro x y d e G H Q s rx ry z hz q
  unfold ixD at hz
  split at hz <;> try (cases hz; done)
  · cases ry; cases rx with
    | lst h r =>
      obtain ⟨v, h1, h2⟩ := r.atI hz
      exact .inl ⟨_, _, _, _, rfl, rfl, SqL.of (s _ _ h), h1, q _ _ _ (Fr.refl s) h2⟩
  · cases ry; cases rx with
    | scr h r =>
      obtain ⟨v, h1, h2⟩ := r.atI hz
      exact .inl ⟨_, _, _, _, rfl, rfl, s.seq h, h1, q _ _ _ (Fr.refl s) h2⟩
  · cases ry; cases rx with
    | tup h r =>
      obtain ⟨v, h1, h2⟩ := r.atI hz
      exact .inr (.inl ⟨_, _, _, _, rfl, rfl, sqT_same s h, h1, q _ _ _ (Fr.refl s) h2⟩)
  · split at hz
    · cases ry; cases rx with
      | str zz =>
        rename_i zs i hl
        cases hc : atI zs.cps.toList i with
        | none => rw [hc] at hz; cases hz
        | some c =>
          rw [hc] at hz; cases hz
          exact .inr (.inr ⟨_, _, c, rfl, rfl, hl, hc, q _ _ _ (Fr.refl s) (.str _)⟩)
    · cases hz
end
end Px

namespace Px
open PySem PySem.Spec PyProof.Rows L2

/-! ### equality of data -/
mutual
def toP : D → Option PyData
  | .non => some .none
  | .bl b => some (.bool b)
  | .int i => some (.int i)
  | .str s => some (.str s)
  | .lst l => (toPs l).map .list
  | .scr l => (toPs l).map .list
  | .tup l => (toPs l).map .tuple
  | .obj _ _ => none
def toPs : List D → Option (List PyData)
  | [] => some []
  | d :: r => match toP d, toPs r with
    | some p, some q => some (p :: q)
    | _, _ => none
end
def eqD (a b : D) : Option D := match toP a, toP b with
  | some p, some q => if SeqAt.shaped p && SeqAt.shaped q then some (.bl (PyData.eqv p q)) else none
  | _, _ => none
def neD (a b : D) : Option D := match toP a, toP b with
  | some p, some q => if SeqAt.shaped p && SeqAt.shaped q then some (.bl (!PyData.eqv p q)) else none
  | _, _ => none
section
variable {X : Cx} {T : Kt} {G : Hp}
mutual
theorem rep_dp : ∀ {d : D} {v : V} {p : PyData}, Rep T G v d → toP d = some p → Dp T.K G v p
  | _, _, _, .non, h => by cases h; exact .non
  | _, _, _, .bl b, h => by cases h; exact .bl b
  | _, _, _, .int b, h => by cases h; exact .int b
  | _, _, _, .str b, h => by cases h; exact .str b
  | .lst l, _, _, .lst e r, h => by
    unfold toP at h
    cases q : toPs l with
    | none => rw [q] at h; cases h
    | some ps => rw [q] at h; cases h; exact .lst (SqL.of e) (reps_dp r q)
  | .scr l, _, _, .scr e r, h => by
    unfold toP at h
    cases q : toPs l with
    | none => rw [q] at h; cases h
    | some ps => rw [q] at h; cases h; exact .lst e (reps_dp r q)
  | .tup l, _, _, .tup e r, h => by
    unfold toP at h
    cases q : toPs l with
    | none => rw [q] at h; cases h
    | some ps => rw [q] at h; cases h; exact .tup e (reps_dp r q)
  | _, _, _, .obj _ _ _ _ _, h => by unfold toP at h; cases h
theorem reps_dp : ∀ {ds : List D} {vs : List V} {ps : List PyData}, Reps T G vs ds → toPs ds = some ps → DpAll T.K G vs ps
  | _, _, _, .nil, h => by unfold toPs at h; cases h; exact .nil
  | d :: ds, _, _, .cons a r, h => by
    unfold toPs at h
    split at h
    · rename_i p q h1 h2; cases h; exact .cons (rep_dp a h1) (reps_dp r h2)
    · cases h
end
theorem dp_mono {H H' : Hp} {K : PySem.W.Frag} (s : Same H H') : ∀ {v : V} {p : PyData}, Dp K H v p → Dp K H' v p := fun {v p} h => by
  refine Dp.rec (motive_1 := fun v p _ => Dp K H' v p) (motive_2 := fun vs ps _ => DpAll K H' vs ps) ?_ ?_ ?_ ?_ ?_ ?_ ?_ ?_ h
  · exact .non
  · exact fun b => .bl b
  · exact fun b => .int b
  · exact fun b => .str b
  · exact fun e _ r => .lst (s.seq e) r
  · exact fun e _ r => .tup (sqT_same s e) r
  · exact .nil
  · exact fun _ _ a r => .cons a r
theorem od_eq : OpD T (rEqD T.K) eqD := by
  intro x y d e G H Q s rx ry z hz q
  unfold eqD at hz
  split at hz
  · rename_i p p' h1 h2
    split at hz
    · rename_i hs
      rw [Bool.and_eq_true] at hs
      cases hz
      exact ⟨p, p', dp_mono s (rep_dp rx h1), dp_mono s (rep_dp ry h2), hs.1, hs.2, q _ _ _ (Fr.refl s) (.bl _)⟩
    · cases hz
  · cases hz
theorem od_ne : OpD T (rNeD T.K) neD := by
  intro x y d e G H Q s rx ry z hz q
  unfold neD at hz
  split at hz
  · rename_i p p' h1 h2
    split at hz
    · rename_i hs
      rw [Bool.and_eq_true] at hs
      cases hz
      exact ⟨p, p', dp_mono s (rep_dp rx h1), dp_mono s (rep_dp ry h2), hs.1, hs.2, q _ _ _ (Fr.refl s) (.bl _)⟩
    · cases hz
  · cases hz
end

/-! ### truth, and, or, not, tests -/
def truD : D → Option Bool
  | .non => some false
  | .bl b => some b
  | .int i => some (i != 0)
  | .str s => if s.length ≤ sizeLine then some ((s.length : Int) != 0) else none
  | .lst l => some (!l.isEmpty)
  | .scr l => some (!l.isEmpty)
  | .tup l => some (!l.isEmpty)
  | .obj _ _ => none
def truR (m : Res D) : Res Bool := m.bind fun d => .ofO (truD d)
@[simp] theorem truR_ok (d : D) : truR (.ok d) = .ofO (truD d) := id rfl
def iteR {α : Type} (c : Res Bool) (a b : Res α) : Res α := c.bind fun k => if k then a else b
@[simp] theorem iteR_ok {α : Type} (k : Bool) (a b : Res α) : iteR (.ok k) a b = if k then a else b := id rfl
def notB (c : Res Bool) : Res Bool := c.bind fun k => .ok (!k)
@[simp] theorem notB_ok (k : Bool) : notB (.ok k) = .ok (!k) := id rfl
def andB (c d : Res Bool) : Res Bool := c.bind fun k => if k then d else .ok false
@[simp] theorem andB_true (d : Res Bool) : andB (.ok true) d = d := id rfl
@[simp] theorem andB_false (d : Res Bool) : andB (.ok false) d = .ok false := id rfl
def orB (c d : Res Bool) : Res Bool := c.bind fun k => if k then .ok true else d
@[simp] theorem orB_true (d : Res Bool) : orB (.ok true) d = .ok true := id rfl
@[simp] theorem orB_false (d : Res Bool) : orB (.ok false) d = d := id rfl
def blR (m : Res D) : Res Bool := m.bind fun d => match d with
  | .bl b => .ok b
  | _ => .bad
@[simp] theorem blR_ok (b : Bool) : blR (.ok (.bl b)) = .ok b := id rfl
def andV (a b : Res D) : Res D := (blR a).bind fun k => if k then b else .ok (.bl false)
@[simp] theorem andV_true (d : Res D) : andV (.ok (.bl true)) d = d := id rfl
@[simp] theorem andV_false (d : Res D) : andV (.ok (.bl false)) d = .ok (.bl false) := id rfl
def orV (a b : Res D) : Res D := (blR a).bind fun k => if k then .ok (.bl true) else b
@[simp] theorem orV_true (d : Res D) : orV (.ok (.bl true)) d = .ok (.bl true) := id rfl
@[simp] theorem orV_false (d : Res D) : orV (.ok (.bl false)) d = d := id rfl
def notV (a : Res D) : Res D := (blR a).bind fun k => .ok (.bl (!k))
@[simp] theorem notV_ok (k : Bool) : notV (.ok (.bl k)) = .ok (.bl (!k)) := id rfl

section
variable {X : Cx} {T : Kt} {W : WX} {k : Nat} {env : Env'} {a b c e o : Expr} {es : List Expr} {ma mb mc m : Res D} {pos : Pos}

theorem isEmpty_reps {G : Hp} {vs : List V} {ds : List D} (r : Reps T G vs ds) : (!vs.isEmpty) = !ds.isEmpty := by cases r <;> rfl
theorem tru_rep {G H : Hp} (s : Same G H) {v : V} {d : D} {b : Bool} (r : Rep T G v d) (h : truD d = some b) : TruV T.K v H b := by
  cases r <;> simp only [truD] at h <;> try (cases h; done)
  · cases h; rfl
  · cases h; rfl
  · cases h; rfl
  · split at h
    · cases h; exact ⟨by assumption, rfl⟩
    · cases h
  · rename_i e r; cases h; exact .inl ⟨_, SqL.of (s _ _ e), (isEmpty_reps r).symm⟩
  · rename_i e r; cases h; exact .inl ⟨_, s.seq e, (isEmpty_reps r).symm⟩
  · rename_i e r; cases h; exact .inr (.inl ⟨_, sqT_same s e, (isEmpty_reps r).symm⟩)
/-- any plain expression as a test -/
theorem ptx_tru (hk : X.K = T.K) (h : PX X T W e env m) (he : ∀ whole, isTrue e X.env whole = (do let v ← whole; standAt e.pos; holding [v] (truthy v))) : PTX X T W e env (truR m) := by
  obtain ⟨t, p, s⟩ := h.ex
  refine ⟨_, pt_truth p he, fun H0 σ H G M Q h => ?_⟩
  refine s H0 σ H G M _ ((Res.sat_bind h).mono (fun x hx v1 H1 G1 f1 r1 => ?_) fun _ _ z => z)
  cases hf : truD x with
  | none => rw [hf] at hx; exact hx.elim
  | some w =>
    rw [hf] at hx
    refine ⟨w, ?_, hx _ _ f1⟩
    rw [hk]
    exact tru_rep f1.s r1 hf
/-- a comparison as a test -/
theorem ptx_cmp {op : CmpOp} {r : R2} {f : D → D → Option D} (ho : OpR X (compareOp op) r) (hd : OpD T r f) (ha : PX X T W a env ma) (hb : PX X T W b env mb) (hm : behindInMarks op b = false) : PTX X T W (.Compare a [op] [b] pos) env (blR (op2 f ma mb)) := by
  obtain ⟨ta, pa, sa⟩ := ha.ex
  obtain ⟨tb, pb, sb⟩ := hb.ex
  refine ⟨_, pt_cmpR ho pa pb hm, fun H0 σ H G M Q h => ?_⟩
  refine SE.op hd sa sb H0 σ H G M _ ((Res.sat_bind h).mono (fun x hx v1 H1 G1 f1 r1 => ?_) fun _ _ z => z)
  cases r1 <;> first | exact ⟨_, rfl, hx _ _ f1⟩ | exact hx.elim
theorem ptx_not {mt : Res Bool} (h : PTX X T W a env mt) : PTX X T W (.UnaryOp .Not a pos) env (notB mt) := by
  obtain ⟨t, p, s⟩ := h.ex
  refine ⟨_, pt_not p, fun H0 σ H G M Q h => ?_⟩
  exact s H0 σ H G M _ ((Res.sat_bind h).mono (fun x hx H1 G1 f1 => hx _ _ f1) fun _ _ z => z)
theorem pwx_and1 {mt : Res Bool} (h : PTX X T W a env mt) : PWX X T W (.BoolOp .And [a] pos) env mt := by
  obtain ⟨t, p, s⟩ := h.ex
  exact ⟨_, pw_and1 p, s⟩
theorem pwx_or1 {mt : Res Bool} (h : PTX X T W a env mt) : PWX X T W (.BoolOp .Or [a] pos) env mt := by
  obtain ⟨t, p, s⟩ := h.ex
  exact ⟨_, pw_or1 p, s⟩
theorem pwx_and {rest : List Expr} {mt mu : Res Bool} (h : PTX X T W a env mt) (h' : PWX X T W (.BoolOp .And (b :: rest) pos) env mu) : PWX X T W (.BoolOp .And (a :: b :: rest) pos) env (andB mt mu) := by
  obtain ⟨t, p, s⟩ := h.ex
  obtain ⟨t', p', s'⟩ := h'.ex
  refine ⟨_, pw_and p p', fun H0 σ H G M Q h => ?_⟩
  refine s H0 σ H G M _ ((Res.sat_bind h).mono (fun x hx H1 G1 f1 => ?_) fun _ _ z => z)
  cases x with
  | true => exact iteT (s' H0 σ H1 G1 (M.fr f1) _ (Res.sat.mono hx (fun y hy => hy.fr f1) fun _ _ z => z.fr f1))
  | false => exact iteF (hx _ _ f1)
theorem pwx_or {rest : List Expr} {mt mu : Res Bool} (h : PTX X T W a env mt) (h' : PWX X T W (.BoolOp .Or (b :: rest) pos) env mu) : PWX X T W (.BoolOp .Or (a :: b :: rest) pos) env (orB mt mu) := by
  obtain ⟨t, p, s⟩ := h.ex
  obtain ⟨t', p', s'⟩ := h'.ex
  refine ⟨_, pw_or p p', fun H0 σ H G M Q h => ?_⟩
  refine s H0 σ H G M _ ((Res.sat_bind h).mono (fun x hx H1 G1 f1 => ?_) fun _ _ z => z)
  cases x with
  | true => exact iteT (hx _ _ f1)
  | false => exact iteF (s' H0 σ H1 G1 (M.fr f1) _ (Res.sat.mono hx (fun y hy => hy.fr f1) fun _ _ z => z.fr f1))
theorem PWX.pt {mt : Res Bool} (h : PWX X T W e env mt) : PTX X T W e env mt := by
  obtain ⟨t, p, s⟩ := h.ex
  exact ⟨_, p.pt, s⟩
/-- and, or, not as values of bools -/
theorem px_one {op} (h : PX X T W a env m) : PX X T W (.BoolOp op [a] pos) env m := by
  obtain ⟨t, p, s⟩ := h.ex
  exact ⟨_, pe_one p, s⟩
theorem px_and {rest : List Expr} (h : PX X T W a env ma) (h' : PX X T W (.BoolOp .And (b :: rest) pos) env mb) : PX X T W (.BoolOp .And (a :: b :: rest) pos) env (andV ma mb) := by
  obtain ⟨t, p, s⟩ := h.ex
  obtain ⟨t', p', s'⟩ := h'.ex
  refine ⟨_, pe_and p p', fun H0 σ H G M Q h => ?_⟩
  refine s H0 σ H G M _ ((Res.sat_bind (Res.sat_bind h)).mono (fun x hx v1 H1 G1 f1 r1 => ?_) fun _ _ z => z)
  cases r1 <;> try exact hx.elim
  rename_i kk
  refine ⟨kk, rfl, ?_⟩
  cases kk with
  | true => exact iteT (s' H0 σ H1 G1 (M.fr f1) _ (Res.sat.mono hx (fun y hy => hy.fr f1) fun _ _ z => z.fr f1))
  | false => exact iteF (PQ.fr f1 hx _ _ _ (Fr.refl f1.s) (.bl _))
theorem px_or {rest : List Expr} (h : PX X T W a env ma) (h' : PX X T W (.BoolOp .Or (b :: rest) pos) env mb) : PX X T W (.BoolOp .Or (a :: b :: rest) pos) env (orV ma mb) := by
  obtain ⟨t, p, s⟩ := h.ex
  obtain ⟨t', p', s'⟩ := h'.ex
  refine ⟨_, pe_or p p', fun H0 σ H G M Q h => ?_⟩
  refine s H0 σ H G M _ ((Res.sat_bind (Res.sat_bind h)).mono (fun x hx v1 H1 G1 f1 r1 => ?_) fun _ _ z => z)
  cases r1 <;> try exact hx.elim
  rename_i kk
  refine ⟨kk, rfl, ?_⟩
  cases kk with
  | true => exact iteT (PQ.fr f1 hx _ _ _ (Fr.refl f1.s) (.bl _))
  | false => exact iteF (s' H0 σ H1 G1 (M.fr f1) _ (Res.sat.mono hx (fun y hy => hy.fr f1) fun _ _ z => z.fr f1))
theorem px_not (h : PX X T W a env ma) : PX X T W (.UnaryOp .Not a pos) env (notV ma) := by
  obtain ⟨t, p, s⟩ := h.ex
  refine ⟨_, pe_not p, fun H0 σ H G M Q h => ?_⟩
  refine s H0 σ H G M _ ((Res.sat_bind (Res.sat_bind h)).mono (fun x hx v1 H1 G1 f1 r1 => ?_) fun _ _ z => z)
  cases r1 <;> try exact hx.elim
  exact ⟨_, rfl, PQ.fr f1 hx _ _ _ (Fr.refl f1.s) (.bl _)⟩
theorem px_ite {mt : Res Bool} (h : PTX X T W c env mt) (ha : PX X T W a env ma) (hb : PX X T W b env mb) : PX X T W (.IfExp c a b pos) env (iteR mt ma mb) := by
  obtain ⟨t, p, s⟩ := h.ex
  obtain ⟨ta, pa, sa⟩ := ha.ex
  obtain ⟨tb, pb, sb⟩ := hb.ex
  refine ⟨_, pe_ifExp p pa pb, fun H0 σ H G M Q h => ?_⟩
  refine s H0 σ H G M _ ((Res.sat_bind h).mono (fun x hx H1 G1 f1 => ?_) fun _ _ z => z)
  cases x with
  | true => exact iteT (sa H0 σ H1 G1 (M.fr f1) _ (Res.sat.mono hx (fun y hy => hy.fr f1) fun _ _ z => z.fr f1))
  | false => exact iteF (sb H0 σ H1 G1 (M.fr f1) _ (Res.sat.mono hx (fun y hy => hy.fr f1) fun _ _ z => z.fr f1))
/-- a < b < c -/
def chnR (f g : D → D → Option D) (ma mb mc : Res D) : Res D := ma.bind fun a => mb.bind fun b => (blR (.ofO (f a b))).bind fun k => if k then mc.bind fun c => .ofO (g b c) else .ok (.bl false)
theorem SE.chain {ta tb tc : TE} {r r' : R2} {f g : D → D → Option D} (hd : OpD T r f) (hd' : OpD T r' g) (ha : SE T W ta env ma) (hb : SE T W tb env mb) (hc : SE T W tc env mc) : SE T W (tChain r r' ta tb tc) env (chnR f g ma mb mc) := by
  intro H0 σ H G M Q h
  refine ha H0 σ H G M _ ((Res.sat_bind h).mono (fun x hx v1 H1 G1 f1 r1 => ?_) fun _ _ z => z)
  refine hb H0 σ H1 G1 (M.fr f1) _ ((Res.sat_bind hx).mono (fun y hy v2 H2 G2 f2 r2 => ?_) fun _ _ z => z.fr f1)
  cases hf : f x y with
  | none => rw [hf] at hy; exact hy.elim
  | some w =>
    rw [hf] at hy
    refine hd _ _ x y G2 H2 _ f2.s (r1.mono f2.g) r2 w hf fun v3 H3 G3 f3 r3 => ?_
    cases r3 <;> try exact hy.elim
    rename_i kk
    refine ⟨kk, rfl, ?_⟩
    have f13 := (f1.trans f2).trans f3
    cases kk with
    | false => exact iteF (PQ.fr f13 hy _ _ _ (Fr.refl f13.s) (.bl _))
    | true =>
      refine iteT (hc H0 σ H3 G3 (M.fr f13) _ ((Res.sat_bind (show (mc.bind _).sat _ _ from hy)).mono (fun z hz v4 H4 G4 f4 r4 => ?_) fun _ _ z => z.fr f13))
      cases hg : g y z with
      | none => rw [hg] at hz; exact hz.elim
      | some u =>
        rw [hg] at hz
        exact hd' _ _ y z G4 H4 Q f4.s (r2.mono (f3.trans f4).g) r4 u hg (PQ.fr (f13.trans f4) hz)
theorem px_chain {op op' : CmpOp} {r r' : R2} {f g : D → D → Option D} (ho : OpR X (compareOp op) r) (hd : OpD T r f) (ho' : OpR X (compareOp op') r') (hd' : OpD T r' g) (ha : PX X T W a env ma) (hb : PX X T W b env mb) (hc : PX X T W c env mc) (hm : lastMarks [op, op'] [b, c] = false) :
    PX X T W (.Compare a [op, op'] [b, c] pos) env (chnR f g ma mb mc) := by
  obtain ⟨ta, pa, sa⟩ := ha.ex
  obtain ⟨tb, pb, sb⟩ := hb.ex
  obtain ⟨tc, pc, sc⟩ := hc.ex
  exact ⟨_, pe_chain ho ho' pa pb pc hm, SE.chain hd hd' sa sb sc⟩
theorem ptx_chain {op op' : CmpOp} {r r' : R2} {f g : D → D → Option D} (ho : OpR X (compareOp op) r) (hd : OpD T r f) (ho' : OpR X (compareOp op') r') (hd' : OpD T r' g) (ha : PX X T W a env ma) (hb : PX X T W b env mb) (hc : PX X T W c env mc) (hm : lastMarks [op, op'] [b, c] = false) :
    PTX X T W (.Compare a [op, op'] [b, c] pos) env (blR (chnR f g ma mb mc)) := by
  obtain ⟨ta, pa, sa⟩ := ha.ex
  obtain ⟨tb, pb, sb⟩ := hb.ex
  obtain ⟨tc, pc, sc⟩ := hc.ex
  refine ⟨_, pt_chain ho ho' pa pb pc hm, fun H0 σ H G M Q h => ?_⟩
  refine SE.chain hd hd' sa sb sc H0 σ H G M _ ((Res.sat_bind h).mono (fun x hx v1 H1 G1 f1 r1 => ?_) fun _ _ z => z)
  cases r1 <;> first | exact ⟨_, rfl, hx _ _ f1⟩ | exact hx.elim

/-! ### slices -/
def partR (mo : Option (Res D)) : Res (Option Int) := match mo with
  | none => .ok none
  | some m => m.bind fun d => match d with
    | .int i => .ok (some i)
    | _ => .bad
@[simp] theorem partR_none : partR none = .ok none := id rfl
@[simp] theorem partR_ok (i : Int) : partR (some (.ok (.int i))) = .ok (some i) := id rfl
def cutD (l : List D) (lo hi : Option Int) : List D := (l.drop (HT.sIx l.length 0 lo)).take (HT.sIx l.length l.length hi - HT.sIx l.length 0 lo)
def sliceD (d : D) (lo hi : Option Int) : Option D := match d with
  | .lst l => some (.lst (cutD l lo hi))
  | .scr l => some (.lst (cutD l lo hi))
  | .tup l => some (.tup (cutD l lo hi))
  | .str s => if s.length ≤ sizeLine then some (.str (cutS s lo hi)) else none
  | _ => none
def sliceR (m : Res D) (lo hi : Option (Res D)) : Res D := m.bind fun d => (partR lo).bind fun l => (partR hi).bind fun h => .ofO (sliceD d l h)
structure POX (X : Cx) (T : Kt) (W : WX) (e : Option Expr) (env : Env') (m : Option (Res D)) : Prop where
  ex : ∃ t, PO X e t ∧ ∀ H0 σ H G, Mat T H0 σ H G env → ∀ Q : Option Int → Hp → Prop, (partR m).sat (fun o => ∀ H' G', Fr G H G' H' → Q o H') (EX T (WE W σ) G H) → t σ H Q
theorem pox_none : POX X T W none env none := ⟨_, po_none, fun H0 σ H G M Q h => h _ _ (Fr.refl M.gh)⟩
theorem pox_some (h : PX X T W e env m) : POX X T W (some e) env (some m) := by
  obtain ⟨t, p, s⟩ := h.ex
  refine ⟨_, po_some p, fun H0 σ H G M Q h => ?_⟩
  refine s H0 σ H G M _ ((Res.sat_bind h).mono (fun x hx v1 H1 G1 f1 r1 => ?_) fun _ _ z => z)
  cases r1 <;> first | exact ⟨_, rfl, hx _ _ f1⟩ | exact hx.elim
theorem cutV_len {G : Hp} {vs : List V} {ds : List D} (r : Reps T G vs ds) (lo hi : Option Int) : Reps T G (cutV vs lo hi) (cutD ds lo hi) := by
  unfold cutV cutD
  rw [r.length]
  exact (r.drop _).take _
theorem cutD_whole (ds : List D) {lo hi : Option Int} : (HT.sIx ds.length 0 lo = 0 ∧ HT.sIx ds.length ds.length hi = ds.length) → cutD ds lo hi = ds := fun h => by
  unfold cutD
  rw [h.1, h.2]
  simp
def rSlAll (K : PySem.W.Frag) : V → Option Int → Option Int → Hp → VK → Prop := fun x lo hi H Q => rSlL K x lo hi H Q ∨ (rSlA K x lo hi H Q ∨ rSlS x lo hi H Q)
theorem px_slice {lo hi : Option Expr} {ml mh : Option (Res D)} {p2 : Pos} (hk : X.K = T.K) (he : PX X T W e env m) (hl : POX X T W lo env ml) (hh : POX X T W hi env mh) : PX X T W (.Subscript e (.Slice lo hi none p2) pos) env (sliceR m ml mh) := by
  obtain ⟨t, p, s⟩ := he.ex
  obtain ⟨tl, pl, sl⟩ := hl.ex
  obtain ⟨th, ph, sh⟩ := hh.ex
  refine ⟨_, pe_slice (r := rSlAll X.K) (sl_list.or (sl_tupA.or sl_str)) p pl ph, fun H0 σ H G M Q h => ?_⟩
  refine s H0 σ H G M _ ((Res.sat_bind h).mono (fun x hx v1 H1 G1 f1 r1 => ?_) fun _ _ z => z)
  refine sl H0 σ H1 G1 (M.fr f1) _ ((Res.sat_bind hx).mono (fun o1 hy H2 G2 f2 => ?_) fun _ _ z => z.fr f1)
  refine sh H0 σ H2 G2 (M.fr (f1.trans f2)) _ ((Res.sat_bind hy).mono (fun o2 hz H3 G3 f3 => ?_) fun _ _ z => z.fr (f1.trans f2))
  have f13 := (f1.trans f2).trans f3
  have r3 := r1.mono (f2.trans f3).g
  rw [hk]
  cases r3 <;> simp only [sliceD] at hz <;> try exact hz.elim
  · split at hz
    · exact .inr (.inr ⟨_, rfl, by assumption, PQ.fr f13 hz _ _ _ (Fr.refl f13.s) (.str _)⟩)
    · exact hz.elim
  · rename_i e r
    exact .inl ⟨_, _, rfl, SqL.of (f13.s _ _ e), fun q nq => PQ.fr f13 hz _ _ _ (Fr.new f13.s nq) (.lst upd_same ((cutV_len r _ _).mono (same_upd (f13.s.free nq))))⟩
  · rename_i e r
    exact .inl ⟨_, _, rfl, f13.s.seq e, fun q nq => PQ.fr f13 hz _ _ _ (Fr.new f13.s nq) (.lst upd_same ((cutV_len r _ _).mono (same_upd (f13.s.free nq))))⟩
  · rename_i e r
    refine .inr (.inl ⟨_, _, rfl, sqT_same f13.s e, fun hw => ?_, fun _ q nq => PQ.fr f13 hz _ _ _ (Fr.new f13.s nq) (.tup (SqT.of upd_same) ((cutV_len r _ _).mono (same_upd (f13.s.free nq))))⟩)
    refine PQ.fr f13 hz _ _ _ (Fr.refl f13.s) (.tup e ?_)
    rw [cutD_whole _ (by rw [← r.length]; exact hw)]
    exact r
end
end Px

namespace Px
open PySem PySem.Spec PyProof.Rows L2

/-! ### statements -/
inductive Fl (L S : Type) where
  | nx (s : S) | rt (d : D) | bk (l : L) | ct (l : L)
inductive Xk where
  | ex | fall | fn

def Out (T : Kt) (G0 H0 : Hp) (Dn : Ends) {L S : Type} (el : L → Env') (eo : S → Env') : Fl L S → Prop
  | .nx s => ∀ σ H G, Fr G0 H0 G H → Mat T H0 σ H G (eo s) → Dn.nx σ H
  | .rt d => ∀ v H G, Fr G0 H0 G H → Rep T G v d → Dn.rt v H
  | .bk s => ∀ σ H G, Fr G0 H0 G H → Mat T H0 σ H G (el s) → Dn.bk σ H
  | .ct s => ∀ σ H G, Fr G0 H0 G H → Mat T H0 σ H G (el s) → Dn.ct σ H
def EXS (T : Kt) (W : WX) (G H : Hp) : Nat → List D → Prop := fun c vs => ∀ σ, EX T (WE W σ) G H c vs
def XOk (x : Xk) (Dn : Ends) (nx : L2.St → Hp → Prop) : Prop := match x with
  | .ex => True
  | .fall => nx = Dn.nx
  | .fn => nx = fun _ H => Dn.rt .non H

def SS (T : Kt) (W : WX) (x : Xk) (ts : TS) (env : Env') {O L S : Type} (m : Res O) (ι : O → Fl L S) (el : L → Env') (eo : S → Env') : Prop :=
  ∀ G0 H0 σ H G, Fr G0 H0 G H → Mat T H0 σ H G env → ∀ (Dn : Ends) (nx : L2.St → Hp → Prop), XOk x Dn nx → m.sat (fun o => Out T G0 H0 Dn el eo (ι o)) (EXS T W G0 H0) → ts { Dn with nx := nx } σ H
structure PBX (X : Cx) (T : Kt) (W : WX) (x : Xk) (sts : List Stmt) (env : Env') {O L S : Type} (m : Res O) (ι : O → Fl L S) (el : L → Env') (eo : S → Env') : Prop where
  ex : ∃ t, PSs X sts t ∧ SS T W x t env m ι el eo

/-- env' tells no more than env -/
def subE : Env' → Env' → Prop
  | [], [] => True
  | none :: a, _ :: b => subE a b
  | some c :: a, d :: b => d = some c ∧ subE a b
  | _, _ => False
theorem subE_len : ∀ {a b : Env'}, subE a b → a.length = b.length
  | [], [], _ => rfl
  | none :: a, _ :: b, h => congrArg (· + 1) (subE_len (a := a) (b := b) h)
  | some c :: a, d :: b, h => congrArg (· + 1) (subE_len h.2)
theorem subE_get : ∀ {a b : Env'}, subE a b → ∀ (i : Nat) (c : Cell), a[i]? = some (some c) → b[i]? = some (some c)
  | [], [], _, i, c, e => by simp at e
  | none :: a, d :: b, h, 0, c, e => by simp at e
  | none :: a, d :: b, h, i + 1, c, e => by simpa using subE_get (a := a) (b := b) h i c (by simpa using e)
  | some c' :: a, d :: b, h, 0, c, e => by simp at e; subst e; simp [h.1]
  | some c' :: a, d :: b, h, i + 1, c, e => by simpa using subE_get h.2 i c (by simpa using e)
theorem Mat.sub {T : Kt} {H0 : Hp} {σ : L2.St} {H G : Hp} {env env' : Env'} (m : Mat T H0 σ H G env) (h : subE env' env) : Mat T H0 σ H G env' := m.weak (subE_len h) (subE_get h)

section
variable {X : Cx} {T : Kt} {W : WX} {k : Nat} {x : Xk} {env : Env'} {a b c e o : Expr} {es : List Expr} {st : Stmt} {rest : List Stmt} {ma mb mc me : Res D} {pos : Pos} {O L S : Type} {m : Res O} {ι : O → Fl L S} {el : L → Env'} {eo : S → Env'}

theorem EXS.ex {G0 H0 G H : Hp} (f : Fr G0 H0 G H) {σ : L2.St} {c : Nat} {vs : List D} (h : EXS T W G0 H0 c vs) : EX T (WE W σ) G H c vs := (h σ).fr f
theorem sat_ex {α : Type} {G0 H0 G H : Hp} (f : Fr G0 H0 G H) {σ : L2.St} {m : Res α} {P : α → Prop} (h : m.sat P (EXS T W G0 H0)) : m.sat P (EX T (WE W σ) G H) := h.mono (fun _ z => z) fun _ _ z => z.ex f

theorem pb_nil {s : S} {o : O} (hi : ι o = .nx s) (he : eo s = env) : PBX X T W .fall [] env (.ok o) ι el eo := by
  refine ⟨_, pss_nil, fun G0 H0 σ H G F M Dn nx hx h => ?_⟩
  have h' : Out T G0 H0 Dn el eo (ι o) := h
  rw [hi] at h'
  obtain rfl : nx = Dn.nx := hx
  exact h' σ H G F (he ▸ M)
theorem pb_end {o : O} (hi : ι o = .rt .non) : PBX X T W .fn [] env (.ok o) ι el eo := by
  refine ⟨_, pss_nil, fun G0 H0 σ H G F M Dn nx hx h => ?_⟩
  have h' : Out T G0 H0 Dn el eo (ι o) := h
  rw [hi] at h'
  obtain rfl : nx = fun _ H => Dn.rt .non H := hx
  exact h' .non H G F .non
/-- x = e -/
theorem pb_asg (i : Nat) {y : Str} {pos' : Pos} {k : D → Res O} (hN : X.N.Nodup) (hi : X.N[i]? = some y) (hx : Loc X.env.scope y) (he : PX X T W e env me) (hs : swapsWith e (some (.Name y pos')) pos.line X.env = pure false)
    (hf : X.fn y = true ∨ X.env.scope.names.lookup y = some .local) (hr : ∀ d, PBX X T W x rest (env.set i (some (.val d))) (k d) ι el eo) :
    PBX X T W x (.Assign [.Name y pos'] e pos :: rest) env (me.bind k) ι el eo := by
  obtain ⟨te, pe, se⟩ := he.ex
  have hr' : ∃ u, PSs X rest u ∧ ∀ d, SS T W x u (env.set i (some (.val d))) (k d) ι el eo := by
    refine ⟨fun D σ H => ∃ u, PSs X rest u ∧ u D σ H, ⟨fun pins s σ H D I h => ?_⟩, fun d => ?_⟩
    · obtain ⟨u, p, q⟩ := h
      exact p.run pins s σ H D I q
    · obtain ⟨u, p, s⟩ := (hr d).ex
      intro G0 H0 σ H G F M Dn nx hx h
      exact ⟨u, p, s G0 H0 σ H G F M Dn nx hx h⟩
  obtain ⟨u, pu, su⟩ := hr'
  refine ⟨_, pss_cons (ps_set hN hi hx pe hs hf) pu, fun G0 H0 σ H G F M Dn nx hx h => ?_⟩
  refine se H0 σ H G M _ ((sat_ex F (Res.sat_bind h)).mono (fun d hd v1 H1 G1 f1 r1 => ?_) fun _ _ z => z)
  exact su d G0 H0 _ H1 G1 (F.trans f1) ((M.fr f1).setv r1 i) Dn nx hx hd
/-- the rest of a block under a binder: one reading for all -/
theorem PBX.all {α : Type} {env : α → Env'} {m : α → Res O} (hr : ∀ d, PBX X T W x rest (env d) (m d) ι el eo) : ∃ u, PSs X rest u ∧ ∀ d, SS T W x u (env d) (m d) ι el eo := by
  refine ⟨fun D σ H => ∃ u, PSs X rest u ∧ u D σ H, ⟨fun pins s σ H D I h => ?_⟩, fun d => ?_⟩
  · obtain ⟨u, p, q⟩ := h
    exact p.run pins s σ H D I q
  · obtain ⟨u, p, s⟩ := (hr d).ex
    intro G0 H0 σ H G F M Dn nx hx h
    exact ⟨u, p, s G0 H0 σ H G F M Dn nx hx h⟩
theorem PX.all {α : Type} {env : α → Env'} {m : α → Res D} (hr : ∀ d, PX X T W e (env d) (m d)) : ∃ u, PE X e u ∧ ∀ d, SE T W u (env d) (m d) := by
  refine ⟨fun σ H Q => ∃ u, PE X e u ∧ u σ H Q, ⟨fun pins s σ H D I h => ?_⟩, fun d => ?_⟩
  · obtain ⟨u, p, q⟩ := h
    exact p.run pins s σ H D I q
  · obtain ⟨u, p, s⟩ := (hr d).ex
    intro H0 σ H G M Q h
    exact ⟨u, p, s H0 σ H G M Q h⟩
theorem PTX.all {α : Type} {env : α → Env'} {m : α → Res Bool} (hr : ∀ d, PTX X T W e (env d) (m d)) : ∃ u, PT X e u ∧ ∀ d, ST T W u (env d) (m d) := by
  refine ⟨fun σ H Q => ∃ u, PT X e u ∧ u σ H Q, ⟨fun pins s σ H D I h => ?_⟩, fun d => ?_⟩
  · obtain ⟨u, p, q⟩ := h
    exact p.run pins s σ H D I q
  · obtain ⟨u, p, s⟩ := (hr d).ex
    intro H0 σ H G M Q h
    exact ⟨u, p, s H0 σ H G M Q h⟩
/-- return e -/
theorem pb_ret {r : D → O} (hi : ∀ d, ι (r d) = .rt d) (he : PX X T W e env me) : PBX X T W x (.Return (some e) pos :: rest) env (me.bind fun d => .ok (r d)) ι el eo := by
  obtain ⟨te, pe, se⟩ := he.ex
  refine ⟨_, pss_cons (ps_ret pe) pss_never, fun G0 H0 σ H G F M Dn nx hx h => ?_⟩
  refine se H0 σ H G M _ ((sat_ex F (Res.sat_bind h)).mono (fun d hd v1 H1 G1 f1 r1 => ?_) fun _ _ z => z)
  have h' : Out T G0 H0 Dn el eo (ι (r d)) := hd
  rw [hi] at h'
  exact h' v1 H1 G1 (F.trans f1) r1
theorem pb_retD {ιd : D → Fl L S} (hi : ∀ d, ιd d = .rt d) (he : PX X T W e env me) : PBX X T W x (.Return (some e) pos :: rest) env me ιd el eo := by
  obtain ⟨te, pe, se⟩ := he.ex
  refine ⟨_, pss_cons (ps_ret pe) pss_never, fun G0 H0 σ H G F M Dn nx hx h => ?_⟩
  refine se H0 σ H G M _ ((sat_ex F h).mono (fun d hd v1 H1 G1 f1 r1 => ?_) fun _ _ z => z)
  rw [hi] at hd
  exact hd v1 H1 G1 (F.trans f1) r1
theorem pb_retN {o : O} (hi : ι o = .rt .non) : PBX X T W x (.Return none pos :: rest) env (.ok o) ι el eo := by
  refine ⟨_, pss_cons ps_retN pss_never, fun G0 H0 σ H G F M Dn nx hx h => ?_⟩
  have h' : Out T G0 H0 Dn el eo (ι o) := h
  rw [hi] at h'
  exact h' .non H G F .non
theorem pb_break {o : O} {l : L} (hi : ι o = .bk l) (he : el l = env) : PBX X T W x (.Break pos :: rest) env (.ok o) ι el eo := by
  refine ⟨_, pss_cons ps_break pss_never, fun G0 H0 σ H G F M Dn nx hx h => ?_⟩
  have h' : Out T G0 H0 Dn el eo (ι o) := h
  rw [hi] at h'
  exact h' σ H G F (he ▸ M)
theorem pb_cont {o : O} {l : L} (hi : ι o = .ct l) (he : subE (el l) env) : PBX X T W x (.Continue pos :: rest) env (.ok o) ι el eo := by
  refine ⟨_, pss_cons ps_continue pss_never, fun G0 H0 σ H G F M Dn nx hx h => ?_⟩
  have h' : Out T G0 H0 Dn el eo (ι o) := h
  rw [hi] at h'
  exact h' σ H G F (M.sub he)
/-- what can't be reached -/
theorem pb_bad {sts : List Stmt} : PBX X T W x sts env (.bad : Res O) ι el eo := ⟨_, pss_never, fun G0 H0 σ H G F M Dn nx hx h => h⟩
theorem pb_pass (h : PBX X T W x rest env m ι el eo) : PBX X T W x (.Pass pos :: rest) env m ι el eo := by
  obtain ⟨u, pu, su⟩ := h.ex
  exact ⟨_, pss_cons ps_pass pu, fun G0 H0 σ H G F M Dn nx hx h => su G0 H0 σ H G F M Dn nx hx h⟩
/-- forgetting -/
theorem PBX.weak {sts : List Stmt} {env' : Env'} (h : PBX X T W x sts env' m ι el eo) (s : subE env' env) : PBX X T W x sts env m ι el eo := by
  obtain ⟨u, pu, su⟩ := h.ex
  exact ⟨u, pu, fun G0 H0 σ H G F M Dn nx hx h => su G0 H0 σ H G F (M.sub s) Dn nx hx h⟩
theorem pb_nilS {s : S} {o : O} (hi : ι o = .nx s) (he : subE (eo s) env) : PBX X T W .fall [] env (.ok o) ι el eo := (pb_nil hi rfl).weak he
/-- e; -/
theorem pb_expr {k : D → Res O} (he : PX X T W e env me) (hs : swapsWith e none pos.line X.env = pure false) (hr : ∀ d, PBX X T W x rest env (k d) ι el eo) : PBX X T W x (.Expr e pos :: rest) env (me.bind k) ι el eo := by
  obtain ⟨te, pe, se⟩ := he.ex
  obtain ⟨u, pu, su⟩ := PBX.all hr
  refine ⟨_, pss_cons (ps_expr pe hs) pu, fun G0 H0 σ H G F M Dn nx hx h => ?_⟩
  refine se H0 σ H G M _ ((sat_ex F (Res.sat_bind h)).mono (fun d hd v1 H1 G1 f1 r1 => ?_) fun _ _ z => z)
  exact su d G0 H0 _ H1 G1 (F.trans f1) (M.fr f1) Dn nx hx hd

/-! if -/
theorem pb_if_x0 {A : List Stmt} {mt : Res Bool} {mA mr : Res O} (hc : PTX X T W c env mt) (hA : PBX X T W .ex A env mA ι el eo) (hr : PBX X T W x rest env mr ι el eo) :
    PBX X T W x (.If c A [] pos :: rest) env (iteR mt mA mr) ι el eo := by
  obtain ⟨tc, pc, sc⟩ := hc.ex
  obtain ⟨ta, pa, sa⟩ := hA.ex
  obtain ⟨u, pu, su⟩ := hr.ex
  refine ⟨_, pss_cons (ps_if pc pa pss_nil) pu, fun G0 H0 σ H G F M Dn nx hx h => ?_⟩
  refine sc H0 σ H G M _ ((sat_ex F (Res.sat_bind h)).mono (fun d hd H1 G1 f1 => ?_) fun _ _ z => z)
  cases d with
  | true => exact iteT (sa G0 H0 σ H1 G1 (F.trans f1) (M.fr f1) Dn _ trivial hd)
  | false => exact iteF (su G0 H0 σ H1 G1 (F.trans f1) (M.fr f1) Dn nx hx hd)
theorem pb_if_xx {A B : List Stmt} {mt : Res Bool} {mA mB : Res O} (hc : PTX X T W c env mt) (hA : PBX X T W .ex A env mA ι el eo) (hB : PBX X T W .ex B env mB ι el eo) :
    PBX X T W x (.If c A B pos :: rest) env (iteR mt mA mB) ι el eo := by
  obtain ⟨tc, pc, sc⟩ := hc.ex
  obtain ⟨ta, pa, sa⟩ := hA.ex
  obtain ⟨tb, pb, sb⟩ := hB.ex
  refine ⟨_, pss_cons (ps_if pc pa pb) pss_never, fun G0 H0 σ H G F M Dn nx hx h => ?_⟩
  refine sc H0 σ H G M _ ((sat_ex F (Res.sat_bind h)).mono (fun d hd H1 G1 f1 => ?_) fun _ _ z => z)
  cases d with
  | true => exact iteT (sa G0 H0 σ H1 G1 (F.trans f1) (M.fr f1) Dn _ trivial hd)
  | false => exact iteF (sb G0 H0 σ H1 G1 (F.trans f1) (M.fr f1) Dn _ trivial hd)
/-- the last statement: both branches end as the block does -/
theorem pb_if_last {A B : List Stmt} {mt : Res Bool} {mA mB : Res O} (hc : PTX X T W c env mt) (hA : PBX X T W x A env mA ι el eo) (hB : PBX X T W x B env mB ι el eo) :
    PBX X T W x [.If c A B pos] env (iteR mt mA mB) ι el eo := by
  obtain ⟨tc, pc, sc⟩ := hc.ex
  obtain ⟨ta, pa, sa⟩ := hA.ex
  obtain ⟨tb, pb, sb⟩ := hB.ex
  refine ⟨_, pss_one (ps_if pc pa pb), fun G0 H0 σ H G F M Dn nx hx h => ?_⟩
  refine sc H0 σ H G M _ ((sat_ex F (Res.sat_bind h)).mono (fun d hd H1 G1 f1 => ?_) fun _ _ z => z)
  cases d with
  | true => exact iteT (sa G0 H0 σ H1 G1 (F.trans f1) (M.fr f1) Dn nx hx hd)
  | false => exact iteF (sb G0 H0 σ H1 G1 (F.trans f1) (M.fr f1) Dn nx hx hd)
/-- a branch that ends, one that goes on with what follows -/
theorem pb_if_xj {A B : List Stmt} {mt : Res Bool} {S' : Type} {e' : S' → Env'} {mA : Res O} {mB : Res S'} {k : S' → Res O} (hc : PTX X T W c env mt) (hA : PBX X T W .ex A env mA ι el eo) (hB : PBX X T W .fall B env mB (Fl.nx (L := L)) el e') (hr : ∀ s, PBX X T W x rest (e' s) (k s) ι el eo) :
    PBX X T W x (.If c A B pos :: rest) env (iteR mt mA (mB.bind k)) ι el eo := by
  obtain ⟨tc, pc, sc⟩ := hc.ex
  obtain ⟨ta, pa, sa⟩ := hA.ex
  obtain ⟨tb, pb, sb⟩ := hB.ex
  obtain ⟨u, pu, su⟩ := PBX.all hr
  refine ⟨_, pss_cons (ps_if pc pa pb) pu, fun G0 H0 σ H G F M Dn nx hx h => ?_⟩
  refine sc H0 σ H G M _ ((sat_ex F (Res.sat_bind h)).mono (fun d hd H1 G1 f1 => ?_) fun _ _ z => z)
  cases d with
  | true => exact iteT (sa G0 H0 σ H1 G1 (F.trans f1) (M.fr f1) Dn _ trivial hd)
  | false => exact iteF (sb G0 H0 σ H1 G1 (F.trans f1) (M.fr f1) { Dn with nx := u { Dn with nx := nx } } _ rfl ((Res.sat_bind hd).mono (fun s hs σ2 H2 G2 F2 M2 => su s G0 H0 σ2 H2 G2 F2 M2 Dn nx hx hs) fun _ _ z => z))
theorem pb_if_jx {A B : List Stmt} {mt : Res Bool} {S' : Type} {e' : S' → Env'} {mA : Res S'} {mB : Res O} {k : S' → Res O} (hc : PTX X T W c env mt) (hA : PBX X T W .fall A env mA (Fl.nx (L := L)) el e') (hB : PBX X T W .ex B env mB ι el eo) (hr : ∀ s, PBX X T W x rest (e' s) (k s) ι el eo) :
    PBX X T W x (.If c A B pos :: rest) env (iteR mt (mA.bind k) mB) ι el eo := by
  obtain ⟨tc, pc, sc⟩ := hc.ex
  obtain ⟨ta, pa, sa⟩ := hA.ex
  obtain ⟨tb, pb, sb⟩ := hB.ex
  obtain ⟨u, pu, su⟩ := PBX.all hr
  refine ⟨_, pss_cons (ps_if pc pa pb) pu, fun G0 H0 σ H G F M Dn nx hx h => ?_⟩
  refine sc H0 σ H G M _ ((sat_ex F (Res.sat_bind h)).mono (fun d hd H1 G1 f1 => ?_) fun _ _ z => z)
  cases d with
  | false => exact iteF (sb G0 H0 σ H1 G1 (F.trans f1) (M.fr f1) Dn _ trivial hd)
  | true => exact iteT (sa G0 H0 σ H1 G1 (F.trans f1) (M.fr f1) { Dn with nx := u { Dn with nx := nx } } _ rfl ((Res.sat_bind hd).mono (fun s hs σ2 H2 G2 F2 M2 => su s G0 H0 σ2 H2 G2 F2 M2 Dn nx hx hs) fun _ _ z => z))
/-- both branches go on with what follows -/
theorem pb_if_j {A B : List Stmt} {mt : Res Bool} {S' : Type} {e' : S' → Env'} {mA mB : Res S'} {k : S' → Res O} (hc : PTX X T W c env mt) (hA : PBX X T W .fall A env mA (Fl.nx (L := L)) el e') (hB : PBX X T W .fall B env mB (Fl.nx (L := L)) el e') (hr : ∀ s, PBX X T W x rest (e' s) (k s) ι el eo) :
    PBX X T W x (.If c A B pos :: rest) env ((iteR mt mA mB).bind k) ι el eo := by
  obtain ⟨tc, pc, sc⟩ := hc.ex
  obtain ⟨ta, pa, sa⟩ := hA.ex
  obtain ⟨tb, pb, sb⟩ := hB.ex
  obtain ⟨u, pu, su⟩ := PBX.all hr
  refine ⟨_, pss_cons (ps_if pc pa pb) pu, fun G0 H0 σ H G F M Dn nx hx h => ?_⟩
  refine sc H0 σ H G M _ ((sat_ex F (Res.sat_bind (Res.sat_bind h))).mono (fun d hd H1 G1 f1 => ?_) fun _ _ z => z)
  cases d with
  | true => exact iteT (sa G0 H0 σ H1 G1 (F.trans f1) (M.fr f1) { Dn with nx := u { Dn with nx := nx } } _ rfl (Res.sat.mono hd (fun s hs σ2 H2 G2 F2 M2 => su s G0 H0 σ2 H2 G2 F2 M2 Dn nx hx hs) fun _ _ z => z))
  | false => exact iteF (sb G0 H0 σ H1 G1 (F.trans f1) (M.fr f1) { Dn with nx := u { Dn with nx := nx } } _ rfl (Res.sat.mono hd (fun s hs σ2 H2 G2 F2 M2 => su s G0 H0 σ2 H2 G2 F2 M2 Dn nx hx hs) fun _ _ z => z))
/-- both branches may end or go on: Fl -/
def flK {L S' O : Type} (r : D → O) (bk ct : L → O) (k : S' → Res O) : Fl L S' → Res O
  | .nx s => k s
  | .rt d => .ok (r d)
  | .bk l => .ok (bk l)
  | .ct l => .ok (ct l)
theorem pb_if_f {A B : List Stmt} {mt : Res Bool} {S' : Type} {e' : S' → Env'} {mA mB : Res (Fl L S')} {r : D → O} {bk ct : L → O} {k : S' → Res O} (hc : PTX X T W c env mt) (hA : PBX X T W .fall A env mA id el e') (hB : PBX X T W .fall B env mB id el e')
    (h1 : ∀ d, ι (r d) = .rt d) (h2 : ∀ d, ι (bk d) = .bk d) (h3 : ∀ d, ι (ct d) = .ct d) (hr : ∀ s, PBX X T W x rest (e' s) (k s) ι el eo) :
    PBX X T W x (.If c A B pos :: rest) env ((iteR mt mA mB).bind (flK r bk ct k)) ι el eo := by
  obtain ⟨tc, pc, sc⟩ := hc.ex
  obtain ⟨ta, pa, sa⟩ := hA.ex
  obtain ⟨tb, pb, sb⟩ := hB.ex
  obtain ⟨u, pu, su⟩ := PBX.all hr
  refine ⟨_, pss_cons (ps_if pc pa pb) pu, fun G0 H0 σ H G F M Dn nx hx h => ?_⟩
  have go : ∀ (o : Fl L S'), (flK r bk ct k o).sat (fun o => Out T G0 H0 Dn el eo (ι o)) (EXS T W G0 H0) → Out T G0 H0 { Dn with nx := u { Dn with nx := nx } } el e' (id o) := fun o ho => by
    cases o with
    | nx s => exact fun σ2 H2 G2 F2 M2 => su s G0 H0 σ2 H2 G2 F2 M2 Dn nx hx ho
    | rt d =>
      have h' : Out T G0 H0 Dn el eo (ι (r d)) := ho
      rw [h1] at h'; exact h'
    | bk d =>
      have h' : Out T G0 H0 Dn el eo (ι (bk d)) := ho
      rw [h2] at h'; exact h'
    | ct d =>
      have h' : Out T G0 H0 Dn el eo (ι (ct d)) := ho
      rw [h3] at h'; exact h'
  refine sc H0 σ H G M _ ((sat_ex F (Res.sat_bind (Res.sat_bind h))).mono (fun d hd H1 G1 f1 => ?_) fun _ _ z => z)
  cases d with
  | true => exact iteT (sa G0 H0 σ H1 G1 (F.trans f1) (M.fr f1) { Dn with nx := u { Dn with nx := nx } } _ rfl (Res.sat.mono hd go fun _ _ z => z))
  | false => exact iteF (sb G0 H0 σ H1 G1 (F.trans f1) (M.fr f1) { Dn with nx := u { Dn with nx := nx } } _ rfl (Res.sat.mono hd go fun _ _ z => z))
end
end Px

namespace Px
open PySem PySem.Spec PyProof.Rows L2

section
variable {T : Kt} {H0 : Hp} {σ : L2.St} {H G : Hp} {env : Env'}
theorem get_set {α : Type} {l : List α} {i j : Nat} {a b : α} (e : (l.set i a)[j]? = some b) : (i = j ∧ b = a ∧ i < l.length) ∨ (i ≠ j ∧ l[j]? = some b) := by
  by_cases q : i = j
  · subst q
    have hl : i < l.length := by
      rcases Nat.lt_or_ge i l.length with z | z
      · exact z
      · rw [List.getElem?_eq_none (by simpa using z)] at e; cases e
    rw [List.getElem?_set_self hl] at e
    cases e
    exact .inl ⟨rfl, rfl, hl⟩
  · rw [List.getElem?_set_ne q] at e
    exact .inr ⟨q, e⟩
/-- a slot gets a fresh list of its own -/
theorem Mat.seto (m : Mat T H0 σ H G env) {a : Addr} {vs : List V} {ds : List D} (i : Nat) (h1 : H a = some (.lst vs)) (h2 : G a = none) (h3 : H0 a = none) (r : Reps T G vs ds)
    (fresh : ∀ (j : Nat) (c : Cell), env[j]? = some (some c) → c.isVal = false → σ[j]? = some (some (.ref a)) → False) : Mat T H0 (σ.set i (some (.ref a))) H G (env.set i (some (.own ds))) := by
  refine ⟨m.gh, by simp [m.len], fun j c e => ?_, fun j k c d' b e1 e2 n1 n2 s1 s2 => ?_⟩
  · rcases get_set e with ⟨rfl, q, hl⟩ | ⟨q, e⟩
    · cases q
      exact ⟨.ref a, by rw [List.getElem?_set_self (by rw [← m.len]; exact hl)], a, vs, rfl, h1, h2, h3, r⟩
    · rw [List.getElem?_set_ne q]
      exact m.sl j c e
  · rcases get_set e1 with ⟨rfl, q, hl⟩ | ⟨q, e1⟩ <;> rcases get_set e2 with ⟨rfl, q', hl'⟩ | ⟨q', e2⟩
    · rfl
    · rw [List.getElem?_set_self (by rw [← m.len]; exact hl)] at s1
      rw [List.getElem?_set_ne q'] at s2
      cases s1
      exact (fresh k d' e2 n2 s2).elim
    · rw [List.getElem?_set_self (by rw [← m.len]; exact hl')] at s2
      rw [List.getElem?_set_ne q] at s1
      cases s2
      exact (fresh j c e1 n1 s1).elim
    · rw [List.getElem?_set_ne q] at s1
      rw [List.getElem?_set_ne q'] at s2
      exact m.dj j k c d' b e1 e2 n1 n2 s1 s2
theorem Mat.fresh (m : Mat T H0 σ H G env) {a : Addr} (h : H a = none) : ∀ (j : Nat) (c : Cell), env[j]? = some (some c) → c.isVal = false → σ[j]? = some (some (.ref a)) → False := fun j c e n s => by
  obtain ⟨v, h1, h2⟩ := m.sl j c e
  rw [h1] at s
  cases s
  cases c with
  | val d => cases n
  | own ds => obtain ⟨b, vs, e1, e2, _⟩ := h2; cases e1; rw [h] at e2; cases e2
  | ins b c ds => obtain ⟨C, dx, vs, e1, _, e2, _⟩ := h2; cases e1; rw [h] at e2; cases e2
theorem Mat.own (m : Mat T H0 σ H G env) {i : Nat} {ds : List D} (e : env[i]? = some (some (.own ds))) : ∃ a vs, σ[i]? = some (some (.ref a)) ∧ H a = some (.lst vs) ∧ G a = none ∧ H0 a = none ∧ Reps T G vs ds := by
  obtain ⟨v, h1, a, vs, rfl, h2, h3, h4, h5⟩ := m.sl i _ e
  exact ⟨a, vs, h1, h2, h3, h4, h5⟩
/-- the own list at a is changed -/
theorem Mat.updo (m : Mat T H0 σ H G env) {i : Nat} {a : Addr} {ds ds' : List D} {vs' : List V} (e : env[i]? = some (some (.own ds))) (s : σ[i]? = some (some (.ref a))) (h2 : G a = none) (h3 : H0 a = none) (r : Reps T G vs' ds') :
    Mat T H0 σ (upd H a (.lst vs')) G (env.set i (some (.own ds'))) := by
  refine ⟨fun b o z => ?_, by simp [m.len], fun j c e' => ?_, fun j k c d' b e1 e2 n1 n2 s1 s2 => ?_⟩
  · rw [upd_ne (show b ≠ a from fun w => by subst w; rw [h2] at z; cases z)]
    exact m.gh _ _ z
  · rcases get_set e' with ⟨rfl, q, hl⟩ | ⟨q, e'⟩
    · cases q
      exact ⟨.ref a, s, a, vs', rfl, upd_same, h2, h3, r⟩
    · obtain ⟨v, z1, z2⟩ := m.sl j c e'
      refine ⟨v, z1, ?_⟩
      cases c with
      | val d => exact z2
      | own es =>
        obtain ⟨b, ws, rfl, y1, y2, y3, y4⟩ := z2
        refine ⟨b, ws, rfl, ?_, y2, y3, y4⟩
        rw [upd_ne (show b ≠ a from fun w => q (m.dj i j _ _ a e e' rfl rfl s (by rw [← w]; exact z1)))]
        exact y1
      | ins b c es =>
        obtain ⟨C, dx, ws, rfl, y0, y1, y5, y2, y3, y4⟩ := z2
        refine ⟨C, dx, ws, rfl, y0, ?_, y5, y2, y3, y4⟩
        rw [upd_ne (show b ≠ a from fun w => q (m.dj i j _ _ a e e' rfl rfl s (by rw [← w]; exact z1)))]
        exact y1
  · have key : ∀ (j : Nat) (c : Cell), (env.set i (some (.own ds')))[j]? = some (some c) → c.isVal = false → ∃ c', env[j]? = some (some c') ∧ c'.isVal = false := fun j c e n => by
      rcases get_set e with ⟨rfl, q, hl⟩ | ⟨q, e⟩
      · exact ⟨_, by assumption, rfl⟩
      · exact ⟨c, e, n⟩
    obtain ⟨c1, x1, y1⟩ := key j c e1 n1
    obtain ⟨c2, x2, y2⟩ := key k d' e2 n2
    exact m.dj j k c1 c2 b x1 x2 y1 y2 s1 s2
/-- the own list stands fast from here on -/
theorem Mat.frz (m : Mat T H0 σ H G env) {i : Nat} {a : Addr} {ds : List D} {vs : List V} (e : env[i]? = some (some (.own ds))) (s : σ[i]? = some (some (.ref a))) (h1 : H a = some (.lst vs)) (h2 : G a = none) (r : Reps T G vs ds) :
    Mat T H0 σ H (upd G a (.lst vs)) (env.set i (some (.val (.lst ds)))) := by
  have sg : Same G (upd G a (.lst vs)) := same_upd h2
  refine ⟨fun b o z => ?_, by simp [m.len], fun j c e' => ?_, fun j k c d' b e1 e2 n1 n2 s1 s2 => ?_⟩
  · by_cases w : b = a
    · subst w; rw [upd_same] at z; rw [h1]; exact z
    · rw [upd_ne w] at z; exact m.gh _ _ z
  · rcases get_set e' with ⟨rfl, q, hl⟩ | ⟨q, e'⟩
    · cases q
      exact ⟨.ref a, s, .lst upd_same (r.mono sg)⟩
    · obtain ⟨v, z1, z2⟩ := m.sl j c e'
      refine ⟨v, z1, ?_⟩
      cases c with
      | val d => exact Rep.mono sg z2
      | own es =>
        obtain ⟨b, ws, rfl, y1, y2, y3, y4⟩ := z2
        refine ⟨b, ws, rfl, y1, ?_, y3, y4.mono sg⟩
        rw [upd_ne (show b ≠ a from fun w => q (m.dj i j _ _ a e e' rfl rfl s (by rw [← w]; exact z1)))]
        exact y2
      | ins b c es =>
        obtain ⟨C, dx, ws, rfl, y0, y1, y5, y2, y3, y4⟩ := z2
        refine ⟨C, dx, ws, rfl, y0, y1, y5, ?_, y3, y4.mono sg⟩
        rw [upd_ne (show b ≠ a from fun w => q (m.dj i j _ _ a e e' rfl rfl s (by rw [← w]; exact z1)))]
        exact y2
  · have key : ∀ (j : Nat) (c : Cell), (env.set i (some (.val (.lst ds))))[j]? = some (some c) → c.isVal = false → env[j]? = some (some c) := fun j c e n => by
      rcases get_set e with ⟨rfl, q, hl⟩ | ⟨q, e⟩
      · cases q; cases n
      · exact e
    exact m.dj j k c d' b (key j c e1 n1) (key k d' e2 n2) n1 n2 s1 s2
theorem Mat.unset (m : Mat T H0 σ H G env) (i : Nat) : Mat T H0 (σ.set i none) H G (env.set i none) := by
  refine ⟨m.gh, by simp [m.len], fun j c e => ?_, fun j k c d' b e1 e2 n1 n2 s1 s2 => ?_⟩
  · rcases get_set e with ⟨rfl, q, hl⟩ | ⟨q, e⟩
    · cases q
    · rw [List.getElem?_set_ne q]; exact m.sl j c e
  · rcases get_set e1 with ⟨rfl, q, hl⟩ | ⟨q, e1⟩
    · cases q
    · rcases get_set e2 with ⟨rfl, q', hl⟩ | ⟨q', e2⟩
      · cases q'
      · rw [List.getElem?_set_ne q] at s1
        rw [List.getElem?_set_ne q'] at s2
        exact m.dj j k c d' b e1 e2 n1 n2 s1 s2
end
theorem Fr.updo {G0 H0 G H : Hp} (f : Fr G0 H0 G H) {a : Addr} {o : HO} (h2 : G a = none) (h3 : H0 a = none) : Fr G0 H0 G (upd H a o) :=
  ⟨fun b x e => by rw [upd_ne (ne_of_none e h3)]; exact f.h b x e, f.g, fun b x e => by rw [upd_ne (ne_of_none e h2)]; exact f.s b x e, f.n⟩
theorem Fr.frz {G0 H0 G H : Hp} (f : Fr G0 H0 G H) {a : Addr} {o : HO} (h1 : H a = some o) (h2 : G a = none) (h3 : H0 a = none) : Fr G0 H0 (upd G a o) H where
  h := f.h
  g := f.g.trans (same_upd h2)
  s := fun b x e => by
    by_cases q : b = a
    · subst q; rw [upd_same] at e; rw [h1]; exact e
    · rw [upd_ne q] at e; exact f.s b x e
  n := fun b x e => by
    by_cases q : b = a
    · subst q; exact .inr h3
    · rw [upd_ne q] at e; exact f.n b x e

/-! ### lists of one's own -/
def PO (T : Kt) (G H : Hp) (Q : VK) : List D → Prop := fun ds => ∀ a vs H' G', Fr G H G' H' → H a = none → H' a = some (.lst vs) → G' a = none → Reps T G' vs ds → Q (.ref a) H'
def SO (T : Kt) (W : WX) (te : TE) (env : Env') (m : Res (List D)) : Prop := ∀ H0 σ H G, Mat T H0 σ H G env → ∀ Q : VK, m.sat (PO T G H Q) (EX T (WE W σ) G H) → te σ H Q
structure PXO (X : Cx) (T : Kt) (W : WX) (e : Expr) (env : Env') (m : Res (List D)) : Prop where
  ex : ∃ t, PE X e t ∧ SO T W t env m
def lstV (m : Res (List D)) : Res D := m.bind fun l => .ok (.lst l)
@[simp] theorem lstV_ok (l : List D) : lstV (.ok l) = .ok (.lst l) := id rfl

section
variable {X : Cx} {T : Kt} {W : WX} {k : Nat} {x : Xk} {env : Env'} {a b c e o : Expr} {es : List Expr} {st : Stmt} {rest : List Stmt} {ma mb mc me : Res D} {pos : Pos} {O L S : Type} {m : Res O} {ι : O → Fl L S} {el : L → Env'} {eo : S → Env'}

theorem PXO.px {mo : Res (List D)} (h : PXO X T W e env mo) : PX X T W e env (lstV mo) := by
  obtain ⟨t, p, s⟩ := h.ex
  refine ⟨_, p, fun H0 σ H G M Q h => ?_⟩
  refine s H0 σ H G M _ ((Res.sat_bind h).mono (fun l hl a vs H' G' f h1 h2 h3 r => ?_) fun _ _ z => z)
  exact hl (.ref a) H' (upd G' a (.lst vs)) (f.frz h2 h3 h1) (.lst upd_same (r.mono (same_upd h3)))
def dispR (ms : Res (List D)) : Res (List D) := ms.bind fun l => if l.length ≤ sizeLine then .ok l else .bad
theorem pxo_lst {ms : Res (List D)} (h : PAX X T W es env ms) : PXO X T W (.List es pos) env (dispR ms) := by
  obtain ⟨t, p, s⟩ := h.ex
  refine ⟨_, pe_lst p, fun H0 σ H G M Q h => ?_⟩
  refine s H0 σ H G M _ ((Res.sat_bind h).mono (fun l hl vs H1 G1 f1 r1 => ?_) fun _ _ z => z)
  by_cases hz : l.length ≤ sizeLine
  · rw [if_pos hz] at hl
    exact ⟨by rw [r1.length]; exact hz, fun q nq => hl q vs _ G1 (f1.trans (Fr.newH f1.s nq)) (f1.h.free nq) upd_same (f1.s.free nq) r1⟩
  · rw [if_neg hz] at hl; exact hl.elim
/-- operators that make lists -/
def OpO (T : Kt) (r : R2) (f : D → D → Option (List D)) : Prop := ∀ x y d e G H (Q : VK), Same G H → Rep T G x d → Rep T G y e → ∀ z, f d e = some z → PO T G H Q z → r x y H Q
def op2o (f : D → D → Option (List D)) (ma mb : Res D) : Res (List D) := ma.bind fun a => mb.bind fun b => .ofO (f a b)
@[simp] theorem op2o_ok (f : D → D → Option (List D)) (a b : D) : op2o f (.ok a) (.ok b) = .ofO (f a b) := id rfl
theorem PO.fr {Q : VK} {G H G1 H1 : Hp} (f : Fr G H G1 H1) {d : List D} (h : PO T G H Q d) : PO T G1 H1 Q d := fun a vs H' G' f' h1 => h a vs H' G' (f.trans f') (f.h.free h1)
theorem pxo_op {op : Operator} {r : R2} {f : D → D → Option (List D)} (ho : OpR X (binaryOp op) r) (hd : OpO T r f) (ha : PX X T W a env ma) (hb : PX X T W b env mb) : PXO X T W (.BinOp a op b pos) env (op2o f ma mb) := by
  obtain ⟨ta, pa, sa⟩ := ha.ex
  obtain ⟨tb, pb, sb⟩ := hb.ex
  refine ⟨_, pe_op ho pa pb, fun H0 σ H G M Q h => ?_⟩
  refine sa H0 σ H G M _ ((Res.sat_bind h).mono (fun x hx v1 H1 G1 f1 r1 => ?_) fun _ _ z => z)
  refine sb H0 σ H1 G1 (M.fr f1) _ ((Res.sat_bind hx).mono (fun y hy v2 H2 G2 f2 r2 => ?_) fun _ _ z => z.fr f1)
  cases hf : f x y with
  | none => rw [hf] at hy; exact hy.elim
  | some w =>
    rw [hf] at hy
    exact hd _ _ x y G2 H2 Q f2.s (r1.mono f2.g) r2 w hf ((PO.fr f1 hy).fr f2)
def catO : D → D → Option (List D)
  | .lst a, .lst b => if a.length + b.length ≤ sizeLine then some (a ++ b) else none
  | _, _ => none
theorem oo_cat : OpO T (rAddAll T.K) catO := by
  intro x y d e G H Q s rx ry z hz q
  unfold catO at hz
  split at hz
  · split at hz
    · rename_i hl
      cases hz
      cases rx with
      | lst h1 r1 => cases ry with
        | lst h2 r2 => exact .inr (.inl ⟨_, _, _, _, rfl, rfl, s _ _ h1, s _ _ h2, by rw [r1.length, r2.length]; exact hl, fun p np => q p _ _ G (Fr.newH s np) np upd_same (s.free np) (r1.append r2)⟩)
    · cases hz
  · cases hz
def repO : D → D → Option (List D)
  | .lst a, .int k => if -(2 ^ 63) ≤ k ∧ k < 2 ^ 63 ∧ a.length * k.toNat ≤ sizeLine then some (List.replicate k.toNat a).flatten else none
  | _, _ => none
theorem oo_rep : OpO T rMulAll repO := by
  intro x y d e G H Q s rx ry z hz q
  unfold repO at hz
  split at hz
  · split at hz
    · rename_i hl
      cases hz
      cases rx with
      | lst h1 r1 => cases ry with
        | int k => exact .inl ⟨_, _, _, rfl, rfl, s _ _ h1, hl.1, hl.2.1, by rw [r1.length]; exact hl.2.2, fun p np => q p _ _ G (Fr.newH s np) np upd_same (s.free np) (reps_rep r1 _)⟩
    · cases hz
  · cases hz
/-- list(xs) -/
def listO : List D → Option (List D)
  | [.lst l] => some l
  | [.scr l] => some l
  | [.tup l] => some l
  | _ => none
def callOo (f : List D → Option (List D)) (ms : Res (List D)) : Res (List D) := ms.bind fun l => .ofO (f l)
@[simp] theorem callOo_ok (f : List D → Option (List D)) (l : List D) : callOo f (.ok l) = .ofO (f l) := id rfl
theorem pxo_list {p : Pos} {ms : Res (List D)} (hk : X.K = T.K) (hg : Gl X "list") (hm : X.mg "list" = none) (ha : PAX X T W (e :: es) env ms)
    (he : starEach (e :: es) X.env = (false, eval e X.env) :: starEach es X.env := by rfl) (hpl : (backTo pos (starEach es X.env)).any (·.1) = false := by rfl) :
    PXO X T W (.Call (.Name "list" p) (e :: es) [] pos) env (callOo listO ms) := by
  obtain ⟨t, pa, sa⟩ := ha.ex
  refine ⟨_, pe_callTy call_list_of hg hm (by decide +kernel) pa (by decide) (by decide) he hpl, fun H0 σ H G M Q h => ?_⟩
  refine sa H0 σ H G M _ ((Res.sat_bind h).mono (fun l hl vs H1 G1 f1 r1 => ?_) fun _ _ z => z)
  rw [hk]
  cases hf : listO l with
  | none => rw [hf] at hl; exact hl.elim
  | some w =>
    rw [hf] at hl
    have q : PO T G1 H1 Q w := PO.fr f1 hl
    unfold listO at hf
    split at hf <;> cases hf <;> (obtain ⟨x, rfl, rr⟩ := reps1 r1; cases rr)
    · exact ⟨_, _, rfl, .inl (SqL.of (f1.s _ _ (by assumption))), fun p np => q p _ _ G1 (Fr.newH f1.s np) np upd_same (f1.s.free np) (by assumption)⟩
    · exact ⟨_, _, rfl, .inl (f1.s.seq (by assumption)), fun p np => q p _ _ G1 (Fr.newH f1.s np) np upd_same (f1.s.free np) (by assumption)⟩
    · exact ⟨_, _, rfl, .inr (sqT_same f1.s (by assumption)), fun p np => q p _ _ G1 (Fr.newH f1.s np) np upd_same (f1.s.free np) (by assumption)⟩
/-- xs[a:b] of a list -/
def sliceO (m : Res D) (lo hi : Option (Res D)) : Res (List D) := m.bind fun d => (partR lo).bind fun l => (partR hi).bind fun h => match d with
  | .lst x => .ok (cutD x l h)
  | .scr x => .ok (cutD x l h)
  | _ => .bad
theorem pxo_slice {m : Res D} {lo hi : Option Expr} {ml mh : Option (Res D)} {p2 : Pos} (hk : X.K = T.K) (he : PX X T W e env m) (hl : POX X T W lo env ml) (hh : POX X T W hi env mh) : PXO X T W (.Subscript e (.Slice lo hi none p2) pos) env (sliceO m ml mh) := by
  obtain ⟨t, p, s⟩ := he.ex
  obtain ⟨tl, pl, sl⟩ := hl.ex
  obtain ⟨th, ph, sh⟩ := hh.ex
  refine ⟨_, pe_slice sl_list p pl ph, fun H0 σ H G M Q h => ?_⟩
  refine s H0 σ H G M _ ((Res.sat_bind h).mono (fun x hx v1 H1 G1 f1 r1 => ?_) fun _ _ z => z)
  refine sl H0 σ H1 G1 (M.fr f1) _ ((Res.sat_bind hx).mono (fun o1 hy H2 G2 f2 => ?_) fun _ _ z => z.fr f1)
  refine sh H0 σ H2 G2 (M.fr (f1.trans f2)) _ ((Res.sat_bind hy).mono (fun o2 hz H3 G3 f3 => ?_) fun _ _ z => z.fr (f1.trans f2))
  have f13 := (f1.trans f2).trans f3
  have r3 := r1.mono (f2.trans f3).g
  rw [hk]
  cases r3 <;> try exact hz.elim
  · rename_i e r
    exact ⟨_, _, rfl, SqL.of (f13.s _ _ e), fun q nq => PO.fr f13 hz q _ _ G3 (Fr.newH f13.s nq) nq upd_same (f13.s.free nq) (cutV_len r _ _)⟩
  · rename_i e r
    exact ⟨_, _, rfl, f13.s.seq e, fun q nq => PO.fr f13 hz q _ _ G3 (Fr.newH f13.s nq) nq upd_same (f13.s.free nq) (cutV_len r _ _)⟩
/-- x = e, a new list that x alone holds -/
theorem pb_asgO (i : Nat) {y : Str} {pos' : Pos} {mo : Res (List D)} {k : List D → Res O} (hN : X.N.Nodup) (hi : X.N[i]? = some y) (hx : Loc X.env.scope y) (he : PXO X T W e env mo) (hs : swapsWith e (some (.Name y pos')) pos.line X.env = pure false)
    (hf : X.fn y = true ∨ X.env.scope.names.lookup y = some .local) (hr : ∀ d, PBX X T W x rest (env.set i (some (.own d))) (k d) ι el eo) :
    PBX X T W x (.Assign [.Name y pos'] e pos :: rest) env (mo.bind k) ι el eo := by
  obtain ⟨te, pe, se⟩ := he.ex
  obtain ⟨u, pu, su⟩ := PBX.all hr
  refine ⟨_, pss_cons (ps_set hN hi hx pe hs hf) pu, fun G0 H0 σ H G F M Dn nx hx h => ?_⟩
  refine se H0 σ H G M _ ((sat_ex F (Res.sat_bind h)).mono (fun d hd a vs H1 G1 f1 h1 h2 h3 r1 => ?_) fun _ _ z => z)
  exact su d G0 H0 _ H1 G1 (F.trans f1) ((M.fr f1).seto i h2 h3 (F.h.free h1) r1 (M.fresh h1)) Dn nx hx hd
def appR {O : Type} (ds : List D) (me : Res D) (k : List D → Res O) : Res O := me.bind fun d => if ds.length < sizeLine then k (ds ++ [d]) else .bad
@[simp] theorem appR_ok {O : Type} (ds : List D) (d : D) (k : List D → Res O) : appR ds (.ok d) k = if ds.length < sizeLine then k (ds ++ [d]) else .bad := id rfl
def setR {O : Type} (ds : List D) (me mq : Res D) (k : List D → Res O) : Res O := me.bind fun d => mq.bind fun j => match j with
  | .int n => (match ixN ds.length n with
    | some z => k (ds.set z d)
    | none => .bad)
  | _ => .bad
/-- x.append(e) -/
theorem pb_append (i : Nat) {ds : List D} {o : Expr} {p1 p2 : Pos} {k : List D → Res O} (hk : X.K = T.K) (hi : env[i]? = some (some (.own ds))) (he : PX X T W e env me)
    (hpe : ∀ te, PE X e te → PS X st (tDrop (tBM X.K "list" rAppend (tVar i) (tCons te tNil)))) (hr : ∀ d, PBX X T W x rest (env.set i (some (.own d))) (k d) ι el eo) :
    PBX X T W x (st :: rest) env (appR ds me k) ι el eo := by
  obtain ⟨te, pe, se⟩ := he.ex
  obtain ⟨u, pu, su⟩ := PBX.all hr
  refine ⟨_, pss_cons (hpe te pe) pu, fun G0 H0 σ H G F M Dn nx hx h => ?_⟩
  obtain ⟨a, vs, s1, h1, h2, h3, r⟩ := M.own hi
  refine ⟨_, s1, .inl ⟨rfl, _, SqL.of h1⟩, ?_⟩
  refine se H0 σ H G M _ ((sat_ex F (Res.sat_bind h)).mono (fun d hd v1 H1 G1 f1 r1 => ?_) fun _ _ z => z)
  have M1 := M.fr f1
  obtain ⟨a', vs', s1', h1', h2', h3', r'⟩ := M1.own hi
  rw [s1] at s1'
  cases s1'
  by_cases hl : ds.length < sizeLine
  · rw [if_pos hl] at hd
    refine ⟨a, vs', v1, rfl, rfl, h1', by rw [r'.length]; exact hl, ?_⟩
    exact su _ G0 H0 _ _ G1 ((F.trans f1).updo h2' h3') (M1.updo hi s1 h2' h3' (r'.append (.cons r1 .nil))) Dn nx hx hd
  · rw [if_neg hl] at hd; exact hd.elim
/-- x[i] = e -/
theorem pb_setitem (i : Nat) {ds : List D} {q : Expr} {mq : Res D} {k : List D → Res O} (hi : env[i]? = some (some (.own ds))) (he : PX X T W e env me) (hq : PX X T W q env mq)
    (hpe : ∀ te tq, PE X e te → PE X q tq → PS X st (tAsg te (gSub (tVar i) tq rSetL))) (hr : ∀ d, PBX X T W x rest (env.set i (some (.own d))) (k d) ι el eo) :
    PBX X T W x (st :: rest) env (setR ds me mq k) ι el eo := by
  obtain ⟨te, pe, se⟩ := he.ex
  obtain ⟨tq, pq, sq⟩ := hq.ex
  obtain ⟨u, pu, su⟩ := PBX.all hr
  refine ⟨_, pss_cons (hpe te tq pe pq) pu, fun G0 H0 σ H G F M Dn nx hx h => ?_⟩
  refine se H0 σ H G M _ ((sat_ex F (Res.sat_bind h)).mono (fun d hd v1 H1 G1 f1 r1 => ?_) fun _ _ z => z)
  have M1 := M.fr f1
  obtain ⟨a, vs, s1, h1, h2, h3, r⟩ := M1.own hi
  refine ⟨_, s1, ?_⟩
  refine sq H0 σ H1 G1 M1 _ ((sat_ex (F.trans f1) (Res.sat_bind hd)).mono (fun j hj v2 H2 G2 f2 r2 => ?_) fun _ _ z => z)
  have M2 := M1.fr f2
  obtain ⟨a', vs', s1', h1', h2', h3', r'⟩ := M2.own hi
  rw [s1] at s1'
  cases s1'
  cases r2 <;> try exact hj.elim
  rename_i n
  cases hz : ixN ds.length n with
  | none => simp only [hz] at hj; exact hj.elim
  | some z =>
    simp only [hz] at hj
    refine ⟨a, vs', n, z, rfl, rfl, h1', by rw [r'.length]; exact hz, ?_⟩
    exact su _ G0 H0 _ _ G2 (((F.trans f1).trans f2).updo h2' h3') (M2.updo hi s1 h2' h3' (Reps.set (r1.mono f2.g) z r')) Dn nx hx hj
/-- from here on the list stands fast -/
theorem pb_frz (i : Nat) {ds : List D} {sts : List Stmt} (hi : env[i]? = some (some (.own ds))) (h : PBX X T W x sts (env.set i (some (.val (.lst ds)))) m ι el eo) : PBX X T W x sts env m ι el eo := by
  obtain ⟨u, pu, su⟩ := h.ex
  refine ⟨u, pu, fun G0 H0 σ H G F M Dn nx hx h => ?_⟩
  obtain ⟨a, vs, s1, h1, h2, h3, r⟩ := M.own hi
  exact su G0 H0 σ H _ (F.frz h1 h2 h3) (M.frz hi s1 h1 h2 r) Dn nx hx h

/-! reading a list of one's own -/
def D.scalar : D → Bool
  | .non => true
  | .bl _ => true
  | .int _ => true
  | .str _ => true
  | _ => false
def scaR (m : Res D) : Res D := m.bind fun d => if d.scalar then .ok d else .bad
@[simp] theorem scaR_int (i : Int) : scaR (.ok (.int i)) = .ok (.int i) := id rfl
@[simp] theorem scaR_bl (i : Bool) : scaR (.ok (.bl i)) = .ok (.bl i) := id rfl
@[simp] theorem scaR_non : scaR (.ok .non) = .ok .non := id rfl
@[simp] theorem scaR_str (s : Str) : scaR (.ok (.str s)) = .ok (.str s) := id rfl
/-- G' without a -/
def wo (G : Hp) (a : Addr) : Hp := fun b => if b = a then none else G b
theorem wo_same {G : Hp} {a : Addr} : wo G a a = none := if_pos rfl
theorem wo_ne {G : Hp} {a b : Addr} (h : b ≠ a) : wo G a b = G b := if_neg h
theorem Fr.borrow {G H G' H' : Hp} {a : Addr} {o : HO} (h2 : G a = none) (f : Fr (upd G a o) H G' H') : Fr G H (wo G' a) H' where
  h := f.h
  g := fun b x e => by
    have n : b ≠ a := ne_of_none e h2
    rw [wo_ne n]
    exact f.g b x (by rw [upd_ne n]; exact e)
  s := fun b x e => by
    by_cases n : b = a
    · rw [n, wo_same] at e; cases e
    · rw [wo_ne n] at e; exact f.s b x e
  n := fun b x e => by
    by_cases n : b = a
    · rw [n, wo_same] at e; cases e
    · rw [wo_ne n] at e
      rcases f.n b x e with z | z
      · rw [upd_ne n] at z; exact .inl z
      · exact .inr z
theorem rep_scalar {G G' : Hp} {v : V} {d : D} (r : Rep T G v d) (h : d.scalar = true) : Rep T G' v d := by
  cases r <;> first | exact .non | exact .bl _ | exact .int _ | exact .str _ | cases h
/-- no error -/
def noErr {α : Type} (m : Res α) : Res α := match m with
  | .ok a => .ok a
  | _ => .bad
@[simp] theorem noErr_ok {α : Type} (a : α) : noErr (.ok a) = .ok a := id rfl
theorem noErr_sat {α : Type} {m : Res α} {P : α → Prop} {E E' : Nat → List D → Prop} (h : (noErr m).sat P E) : m.sat P E' := by
  cases m <;> first | exact h | exact h.elim
theorem px_bor (i : Nat) {ds : List D} (hi : env[i]? = some (some (.own ds))) (h : PX X T W e (env.set i (some (.val (.lst ds)))) me) : PX X T W e env (scaR (noErr me)) := by
  obtain ⟨t, p, s⟩ := h.ex
  refine ⟨t, p, fun H0 σ H G M Q h => ?_⟩
  obtain ⟨a, vs, s1, h1, h2, h3, r⟩ := M.own hi
  refine s H0 σ H _ (M.frz hi s1 h1 h2 r) _ (noErr_sat ((Res.sat_bind h).mono (fun d hd v H' G' f r' => ?_) (E' := fun _ _ => True) fun _ _ _ => trivial))
  by_cases hs : d.scalar = true
  · rw [if_pos hs] at hd
    exact hd v H' _ (Fr.borrow h2 f) (rep_scalar r' hs)
  · rw [if_neg hs] at hd; exact hd.elim
theorem ptx_bor (i : Nat) {ds : List D} {mt : Res Bool} (hi : env[i]? = some (some (.own ds))) (h : PTX X T W e (env.set i (some (.val (.lst ds)))) mt) : PTX X T W e env (noErr mt) := by
  obtain ⟨t, p, s⟩ := h.ex
  refine ⟨t, p, fun H0 σ H G M Q h => ?_⟩
  obtain ⟨a, vs, s1, h1, h2, h3, r⟩ := M.own hi
  exact s H0 σ H _ (M.frz hi s1 h1 h2 r) _ (noErr_sat (h.mono (fun d hd H' G' f => hd H' _ (Fr.borrow h2 f)) (E' := fun _ _ => True) fun _ _ _ => trivial))
/-- x[e], x a list of one's own: any item -/
def ixO (ds : List D) (mq : Res D) : Res D := mq.bind fun j => match j with
  | .int n => .ofO (atI ds n)
  | _ => .bad
@[simp] theorem ixO_ok (ds : List D) (n : Int) : ixO ds (.ok (.int n)) = .ofO (atI ds n) := id rfl
theorem px_ixo (i : Nat) {ds : List D} {q : Expr} {mq : Res D} (hk : X.K = T.K) (hi : env[i]? = some (some (.own ds))) (ho : PE X o (tVar i)) (hq : PX X T W q env mq) (hs : PlainIx q) : PX X T W (.Subscript o q pos) env (ixO ds mq) := by
  obtain ⟨tq, pq, sq⟩ := hq.ex
  refine ⟨_, pe_ix ix_list ho pq hs, fun H0 σ H G M Q h => ?_⟩
  obtain ⟨a, vs, s1, h1, h2, h3, r⟩ := M.own hi
  refine ⟨_, s1, ?_⟩
  refine sq H0 σ H G M _ ((Res.sat_bind h).mono (fun j hj v2 H2 G2 f2 r2 => ?_) fun _ _ z => z)
  obtain ⟨a', vs', s1', h1', h2', h3', r'⟩ := (M.fr f2).own hi
  rw [s1] at s1'
  cases s1'
  rw [hk]
  cases r2 <;> try exact hj.elim
  rename_i n
  cases hz : atI ds n with
  | none => simp only [hz] at hj; exact hj.elim
  | some z =>
    simp only [hz] at hj
    obtain ⟨v, y1, y2⟩ := r'.atI hz
    exact ⟨a, vs', n, v, rfl, rfl, SqL.of h1', y1, PQ.fr f2 hj v H2 G2 (Fr.refl f2.s) y2⟩
end
end Px

namespace Px
open PySem PySem.Spec PyProof.Rows L2

/-! ### what is walked -/
structure Walks (T : Kt) (J : It) (Gi : Hp) (ds : List D) : Prop where
  stop : ∀ i H, Same Gi H → ds.length ≤ i → J.stop i H
  go : ∀ i H, Same Gi H → i < ds.length → J.go i H
  yld : ∀ i H x H' G, Same Gi G → Same G H → i < ds.length → J.yld i H x H' → ∃ d G', ds[i]? = some d ∧ Fr G H G' H' ∧ Rep T G' x d
def SI (T : Kt) (W : WX) (wi : TI) (env : Env') (m : Res (List D)) : Prop := ∀ H0 σ H G, Mat T H0 σ H G env → ∀ R : It → Hp → Prop, m.sat (fun ds => ∀ J H' G', Fr G H G' H' → Walks T J G' ds → R J H') (EX T (WE W σ) G H) → wi σ H R
structure PIX (X : Cx) (T : Kt) (W : WX) (tg iter : Expr) (env : Env') (m : Res (List D)) : Prop where
  ex : ∃ wi, PI X tg iter wi ∧ SI T W wi env m
theorem PI.or {X : Cx} {tg iter : Expr} {w w' : TI} (h : PI X tg iter w) (h' : PI X tg iter w') : PI X tg iter (fun σ H R => w σ H R ∨ w' σ H R) := ⟨fun pins s σ H R I q => by
  rcases q with q | q
  · exact h.run pins s σ H R I q
  · exact h'.run pins s σ H R I q⟩
def chars (s : Str) : List D := s.cps.toList.map fun c => .str ⟨#[c]⟩
def itemsD : D → Option (List D)
  | .lst l => some l
  | .scr l => some l
  | .tup l => some l
  | .str s => some (chars s)
  | _ => none
def itemsR (m : Res D) : Res (List D) := m.bind fun d => .ofO (itemsD d)
@[simp] theorem itemsR_ok (d : D) : itemsR (.ok d) = .ofO (itemsD d) := id rfl
theorem walks_list {T : Kt} {G : Hp} {a : Addr} {vs : List V} {ds : List D} (h : G a = some (.lst vs) ∨ SqL T.K G a vs) (r : Reps T G vs ds) : Walks T (Itl T.K a) G ds := by
  have hs : SqL T.K G a vs := by rcases h with h | h; exact SqL.of h; exact h
  refine ⟨fun i H s hi => ⟨vs, s.seq hs, by rw [r.length]; exact hi⟩, fun i H s hi => ?_, fun i H x H' G1 s s1 hi y => ?_⟩
  · obtain ⟨v, h1, _⟩ := r.get (List.getElem?_eq_getElem hi)
    exact ⟨vs, v, s.seq hs, h1⟩
  · obtain ⟨rfl, y⟩ := y
    obtain ⟨d, h1, h2⟩ := r.getV (y vs ((s.trans s1).seq hs))
    exact ⟨d, G1, h1, Fr.refl s1, h2.mono s⟩
theorem walks_tup {T : Kt} {G : Hp} {a : Addr} {vs : List V} {ds : List D} (hs : SqT T.K G a vs) (r : Reps T G vs ds) : Walks T (Itt T.K a) G ds := by
  refine ⟨fun i H s hi => ⟨vs, sqT_same s hs, by rw [r.length]; exact hi⟩, fun i H s hi => ?_, fun i H x H' G1 s s1 hi y => ?_⟩
  · obtain ⟨v, h1, _⟩ := r.get (List.getElem?_eq_getElem hi)
    exact ⟨vs, v, sqT_same s hs, h1⟩
  · obtain ⟨rfl, y⟩ := y
    obtain ⟨d, h1, h2⟩ := r.getV (y vs (sqT_same (s.trans s1) hs))
    exact ⟨d, G1, h1, Fr.refl s1, h2.mono s⟩
theorem walks_str {T : Kt} {G : Hp} (s : Str) : Walks T (Its s) G (chars s) := by
  have hl : (chars s).length = s.cps.size := by simp [chars]
  refine ⟨fun i H _ hi => by rw [hl] at hi; exact hi, fun i H _ hi => by rw [hl] at hi; exact hi, fun i H x H' G1 s0 s1 hi y => ?_⟩
  obtain ⟨rfl, c, h1, rfl⟩ := y
  refine ⟨.str ⟨#[c]⟩, G1, ?_, Fr.refl s1, .str _⟩
  unfold chars
  rw [List.getElem?_map]
  rw [show s.cps.toList[i]? = some c by simpa using h1]
  rfl
def intsD (lo : Int) (n : Nat) : List D := (List.range n).map fun (i : Nat) => D.int (lo + (i : Int))
theorem walks_range {T : Kt} {G : Hp} (lo : Int) (n : Nat) : Walks T (Itr lo n) G (intsD lo n) := by
  have hl : (intsD lo n).length = n := by simp [intsD]
  refine ⟨fun i H _ hi => by rw [hl] at hi; exact hi, fun i H _ hi => by rw [hl] at hi; exact hi, fun i H x H' G1 s0 s1 hi y => ?_⟩
  obtain ⟨rfl, rfl⟩ := y
  rw [hl] at hi
  refine ⟨.int (lo + i), G1, ?_, Fr.refl s1, .int _⟩
  unfold intsD
  rw [List.getElem?_map, List.getElem?_range hi]
  rfl
theorem Res.bind_sat {α β : Type} {m : Res α} {k : α → Res β} {P : β → Prop} {E : Nat → List D → Prop} (h : m.sat (fun a => (k a).sat P E) E) : (m.bind k).sat P E := by
  cases m with
  | ok a => exact h
  | err c vs => exact h
  | bad => exact h
def rng1 : List D → Option (List D)
  | [.int j] => if -(2 ^ 62) ≤ j ∧ j < 2 ^ 62 then some (intsD 0 j.toNat) else none
  | _ => none
def rng2 : List D → Option (List D)
  | [.int i, .int j] => if -(2 ^ 62) ≤ i ∧ i < 2 ^ 62 ∧ -(2 ^ 62) ≤ j ∧ j < 2 ^ 62 then some (intsD i (j - i).toNat) else none
  | _ => none

section
variable {X : Cx} {T : Kt} {W : WX} {k : Nat} {x : Xk} {env : Env'} {a b c e o tg iter : Expr} {es : List Expr} {st : Stmt} {rest body : List Stmt} {ma mb mc me : Res D} {pos : Pos} {O L S : Type} {m : Res O} {ι : O → Fl L S} {el : L → Env'} {eo : S → Env'}

theorem pix_seq (hk : X.K = T.K) (h : PX X T W e env me) : PIX X T W tg e env (itemsR me) := by
  obtain ⟨t, p, s⟩ := h.ex
  refine ⟨_, PI.or (pi_list p) (PI.or (pi_tup p) (pi_str p)), fun H0 σ H G M R h => ?_⟩
  rw [hk]
  cases hm : me with
  | bad => rw [hm] at h; exact h.elim
  | err c vs =>
    rw [hm] at h
    exact .inl (s H0 σ H G M _ (by rw [hm]; exact h))
  | ok d =>
    rw [hm] at h
    cases hd : itemsD d with
    | none => rw [itemsR_ok, hd] at h; exact h.elim
    | some l =>
      rw [itemsR_ok, hd] at h
      have go : ∀ Q, PQ T G H Q d → t σ H Q := fun Q hq => s H0 σ H G M Q (by rw [hm]; exact hq)
      unfold itemsD at hd
      split at hd <;> cases hd
      · refine .inl (go _ fun v H' G' f r => ?_)
        cases r with
        | lst h1 r => exact ⟨_, rfl, ⟨_, SqL.of (f.s _ _ h1)⟩, h _ H' G' f (walks_list (.inl h1) r)⟩
      · refine .inl (go _ fun v H' G' f r => ?_)
        cases r with
        | scr h1 r => exact ⟨_, rfl, ⟨_, f.s.seq h1⟩, h _ H' G' f (walks_list (.inr h1) r)⟩
      · refine .inr (.inl (go _ fun v H' G' f r => ?_))
        cases r with
        | tup h1 r => exact ⟨_, rfl, ⟨_, sqT_same f.s h1⟩, h _ H' G' f (walks_tup h1 r)⟩
      · refine .inr (.inr (go _ fun v H' G' f r => ?_))
        cases r with
        | str => exact ⟨_, rfl, h _ H' G' f (walks_str _)⟩
theorem pix_range1 {p pos : Pos} {ms : Res (List D)} (hg : Gl X "range") (hm : X.mg "range" = none) (ha : PAX X T W [a] env ms) (hs : starEach [a] X.env = [(false, eval a X.env)] := by rfl) : PIX X T W tg (.Call (.Name "range" p) [a] [] pos) env (callOo rng1 ms) := by
  obtain ⟨t, pa, s⟩ := ha.ex
  refine ⟨_, pi_range1 hg hm pa hs, fun H0 σ H G M R h => ?_⟩
  refine s H0 σ H G M _ ((Res.sat_bind h).mono (fun l hl vs H1 G1 f1 r1 => ?_) fun _ _ z => z)
  unfold rng1 at hl
  split at hl
  · split at hl
    · rename_i hb
      obtain ⟨y, rfl, rr⟩ := reps1 r1
      cases rr
      exact ⟨_, rfl, hb.1, hb.2, hl _ H1 G1 f1 (walks_range _ _)⟩
    · exact hl.elim
  · exact hl.elim
theorem pix_range2 {p pos : Pos} {ms : Res (List D)} (hg : Gl X "range") (hm : X.mg "range" = none) (ha : PAX X T W [a, b] env ms) (hs : starEach [a, b] X.env = [(false, eval a X.env), (false, eval b X.env)] := by rfl) (hs2 : starEach [b] X.env = [(false, eval b X.env)] := by rfl) :
    PIX X T W tg (.Call (.Name "range" p) [a, b] [] pos) env (callOo rng2 ms) := by
  obtain ⟨t, pa, s⟩ := ha.ex
  refine ⟨_, pi_range2 hg hm pa hs hs2, fun H0 σ H G M R h => ?_⟩
  refine s H0 σ H G M _ ((Res.sat_bind h).mono (fun l hl vs H1 G1 f1 r1 => ?_) fun _ _ z => z)
  unfold rng2 at hl
  split at hl
  · split at hl
    · rename_i hb
      obtain ⟨y, z, rfl, rr, rr'⟩ := reps2 r1
      cases rr
      cases rr'
      exact ⟨_, _, rfl, hb, hl _ H1 G1 f1 (walks_range _ _)⟩
    · exact hl.elim
  · exact hl.elim

/-! ### for -/
inductive Lp (S : Type) where
  | nx (s : S) | rt (d : D)
def forG {S O : Type} (ι : O → Fl S S) (fb : S → D → Res O) : List D → S → Res (Lp S)
  | [], s => .ok (.nx s)
  | d :: ds, s => (fb s d).bind fun o => match ι o with
    | .nx s' => forG ι fb ds s'
    | .ct s' => forG ι fb ds s'
    | .bk s' => .ok (.nx s')
    | .rt d => .ok (.rt d)
def lpK {S O : Type} (r : D → Res O) (k : S → Res O) : Lp S → Res O
  | .nx s => k s
  | .rt d => r d
@[simp] theorem lpK_nx {S O : Type} (r : D → Res O) (k : S → Res O) (s : S) : lpK r k (.nx s) = k s := id rfl
@[simp] theorem lpK_rt {S O : Type} (r : D → Res O) (k : S → Res O) (d : D) : lpK r k (.rt d) = r d := id rfl
/-- a loop without return, break -/
def forR {S : Type} (fb : S → D → Res S) : List D → S → Res S
  | [], s => .ok s
  | d :: ds, s => (fb s d).bind fun s' => forR fb ds s'
theorem forG_nx {S : Type} (fb : S → D → Res S) : ∀ (ds : List D) (s : S), forG Fl.nx fb ds s = (forR fb ds s).bind fun s => .ok (.nx s)
  | [], s => rfl
  | d :: ds, s => by
    unfold forG forR
    cases fb s d with
    | ok s' => exact forG_nx fb ds s'
    | err c vs => rfl
    | bad => rfl
theorem forG_cons {S O : Type} (ι : O → Fl S S) (fb : S → D → Res O) (d : D) (ds : List D) (s : S) : forG ι fb (d :: ds) s = (fb s d).bind fun o => match ι o with
    | .nx s' => forG ι fb ds s'
    | .ct s' => forG ι fb ds s'
    | .bk s' => .ok (.nx s')
    | .rt d => .ok (.rt d) := rfl

/-- what a target does with an item -/
def SG (T : Kt) (g : TG) (is : List Nat) (tb : Env' → D → Option Env') : Prop := ∀ H0 σ H G env v d env', Mat T H0 σ H G env → Rep T G v d → tb env d = some env' → ∀ Q : L2.St → Hp → Prop, (∀ σ', Mat T H0 σ' H G env' → (∀ vs : List Nat, (∀ i ∈ is, i ∈ vs) → wipe σ' vs = wipe σ vs) → Q σ' H) → g v σ H Q
structure PGX (X : Cx) (T : Kt) (tg : Expr) (is : List Nat) (tb : Env' → D → Option Env') : Prop where
  ex : ∃ g, PG X tg g ∧ SG T g is tb
theorem wipe_get (σ : L2.St) : ∀ (vs : List Nat) (j : Nat), (wipe σ vs)[j]? = if j ∈ vs ∧ j < σ.length then some none else σ[j]?
  | [], j => by simp [wipe]
  | v :: vs, j => by
    unfold wipe
    by_cases q : v = j
    · subst q
      by_cases hl : v < σ.length
      · rw [List.getElem?_set_self (by rw [wipe_length]; exact hl), if_pos ⟨List.mem_cons_self, hl⟩]
      · rw [if_neg (fun z => hl z.2), List.getElem?_eq_none (by rw [List.length_set, wipe_length]; omega), List.getElem?_eq_none (by omega)]
    · rw [List.getElem?_set_ne q, wipe_get σ vs j]
      have : (j ∈ v :: vs) ↔ j ∈ vs := by
        rw [List.mem_cons]
        exact ⟨fun z => z.resolve_left (fun w => q w.symm), .inr⟩
      simp only [this]
theorem wipe_set {σ : L2.St} {vs : List Nat} {i : Nat} {x : Option V} (h : i ∈ vs) : wipe (σ.set i x) vs = wipe σ vs := by
  apply List.ext_getElem?
  intro j
  rw [wipe_get, wipe_get, List.length_set]
  by_cases q : j ∈ vs ∧ j < σ.length
  · rw [if_pos q, if_pos q]
  · rw [if_neg q, if_neg q]
    by_cases w : i = j
    · subst w
      rw [List.getElem?_eq_none (by rw [List.length_set]; exact Nat.le_of_not_lt fun z => q ⟨h, z⟩), List.getElem?_eq_none (Nat.le_of_not_lt fun z => q ⟨h, z⟩)]
    · rw [List.getElem?_set_ne w]
theorem pgx_name (i : Nat) {y : Str} {pos : Pos} (hN : X.N.Nodup) (hi : X.N[i]? = some y) (hx : Loc X.env.scope y) (hf : X.fn y = true ∨ X.env.scope.names.lookup y = some .local) : PGX X T (.Name y pos) [i] (fun env d => some (env.set i (some (.val d)))) := by
  refine ⟨_, pg_name hN hi hx hf, fun H0 σ H G env v d env' M r e Q q => ?_⟩
  cases e
  exact q _ (M.setv r i) fun vs hv => wipe_set (hv i List.mem_cons_self)
def setAll : Env' → List Nat → List D → Option Env'
  | env, [], [] => some env
  | env, i :: is, d :: ds => setAll (env.set i (some (.val d))) is ds
  | _, _, _ => none
theorem sg_all {G H : Hp} {H0 : Hp} : ∀ (is : List Nat) {gs : TGs} (hg : gs = is.foldr (fun i g => gCons (gName i) g) gNil) {σ : L2.St} {env env' : Env'} {vs : List V} {ds : List D}, Mat T H0 σ H G env → Reps T G vs ds → setAll env is ds = some env' → ∀ Q : L2.St → Hp → Prop, (∀ σ', Mat T H0 σ' H G env' → (∀ vs : List Nat, (∀ i ∈ is, i ∈ vs) → wipe σ' vs = wipe σ vs) → Q σ' H) → gs vs σ H Q
  | [], _, rfl, σ, env, env', vs, [], M, r, e, Q, q => by
    cases r
    cases e
    exact ⟨rfl, q _ M fun _ _ => rfl⟩
  | [], _, rfl, σ, env, env', vs, d :: ds, M, r, e, Q, q => by cases e
  | i :: is, _, rfl, σ, env, env', vs, [], M, r, e, Q, q => by cases e
  | i :: is, _, rfl, σ, env, env', vs, d :: ds, M, r, e, Q, q => by
    cases r with
    | cons a r => exact ⟨_, _, rfl, sg_all is rfl (M.setv a i) r e Q fun σ' M' hw => q σ' M' fun vs hv => (hw vs fun j hj => hv j (List.mem_cons_of_mem _ hj)).trans (wipe_set (hv i List.mem_cons_self))⟩
theorem pgx_tup (is : List Nat) {es : List Expr} {kk : Nat} {pos : Pos} (hk : X.K = T.K) (hc : X.calm = true) (h : PGs X es (is.foldr (fun i g => gCons (gName i) g) gNil)) (hn : (assignEach es X.env).length = is.length) (hst : (assignEach es X.env).findIdx? (·.1) = none) :
    PGX X T (.Tuple es kk pos) is (fun env d => match d with
      | .tup l => setAll env is l
      | _ => none) := by
  refine ⟨_, pg_tup hc h hn hst, fun H0 σ H G env v d env' M r e Q q => ?_⟩
  rw [hk]
  cases r <;> try (cases e; done)
  rename_i a vs ds h1 r
  have hl : ∀ (is : List Nat) (ds : List D) (env : Env'), setAll env is ds = some env' → ds.length = is.length := by
    intro is
    induction is with
    | nil => intro ds env e; cases ds; rfl; cases e
    | cons i is ih => intro ds env e; cases ds; cases e; exact congrArg (· + 1) (ih _ _ e)
  exact ⟨_, _, rfl, sqT_same M.gh h1, by rw [r.length]; exact hl is ds env e, sg_all is rfl M r e Q q⟩

theorem pb_for {pos : Pos} {ms : Res (List D)} {Ob S' : Type} {e1 : S' → Env'} {s0 : S'} {is : List Nat} {tb : Env' → D → Option Env'} {fb : S' → D → Res Ob} {ιb : Ob → Fl S' S'} {r : D → Res O} {k : S' → Res O} (hp : PassesOwn (model X.prog X.w) X.A X.env X.xe) (hc : X.calm = true) (hi : PIX X T W tg iter env ms) (hg : PGX X T tg is tb) (h0 : subE (e1 s0) env)
    (hb : ∀ s d, match tb (e1 s) d with
      | some env' => PBX X T W .fall body env' (fb s d) ιb e1 e1
      | none => fb s d = .bad) (hrt : ∀ d, r d = .bad ∨ ∃ o, r d = .ok o ∧ ι o = .rt d) (hr : ∀ s, PBX X T W x rest (e1 s) (k s) ι el eo) (hs : ∀ x, foldedSetIterable iter X.env x = pure x := by intro _; rfl) :
    PBX X T W x (.For tg iter body [] pos :: rest) env (ms.bind fun ds => (forG ιb fb ds s0).bind (lpK r k)) ι el eo := by
  obtain ⟨wi, pi, si⟩ := hi.ex
  obtain ⟨g, pg, sg⟩ := hg.ex
  obtain ⟨u, pu, su⟩ := PBX.all hr
  have hb' : ∃ tb', PSs X body tb' ∧ ∀ s d env', tb (e1 s) d = some env' → SS T W .fall tb' env' (fb s d) ιb e1 e1 := by
    refine ⟨fun D σ H => ∃ u, PSs X body u ∧ u D σ H, ⟨fun pins s σ H D I h => ?_⟩, fun s d env' e => ?_⟩
    · obtain ⟨u, p, q⟩ := h
      exact p.run pins s σ H D I q
    · have q := hb s d
      rw [e] at q
      obtain ⟨u, p, s⟩ := q.ex
      intro G0 H0 σ H G F M Dn nx hx h
      exact ⟨u, p, s G0 H0 σ H G F M Dn nx hx h⟩
  obtain ⟨tb', pb, sb⟩ := hb'
  refine ⟨_, pss_cons (ps_for hp hc pi pg pb hs) pu, fun G0 H0 σ H G F M Dn nx hx h => ?_⟩
  refine si H0 σ H G M _ ((sat_ex F (Res.sat_bind h)).mono (fun ds hd J H1 G1 f1 wk => ?_) fun _ _ z => z)
  refine ⟨fun i n σ H => ∃ s G, i ≤ ds.length ∧ n = ds.length - i ∧ Fr G0 H0 G H ∧ Same G1 G ∧ Mat T H0 σ H G (e1 s) ∧ ((forG ιb fb (ds.drop i) s).bind (lpK r k)).sat (fun o => Out T G0 H0 Dn el eo (ι o)) (EXS T W G0 H0),
    ⟨_, s0, G1, Nat.zero_le _, rfl, F.trans f1, Same.refl _, (M.fr f1).sub h0, hd⟩, ?_⟩
  rintro i n σ2 H2 ⟨s, G2, hi, rfl, F2, s2, M2, hd2⟩
  by_cases hlt : i < ds.length
  · refine .inr ⟨wk.go i H2 (s2.trans F2.s) hlt, ?_⟩
    refine ⟨fun σ H => ∃ s G, Fr G0 H0 G H ∧ Same G1 G ∧ Mat T H0 σ H G (e1 s) ∧ ((forG ιb fb (ds.drop (i + 1)) s).bind (lpK r k)).sat (fun o => Out T G0 H0 Dn el eo (ι o)) (EXS T W G0 H0), ?_, ?_⟩
    · rintro σ3 H3 ⟨s3, G3, F3, s3', M3, hd3⟩
      exact ⟨ds.length - (i + 1), by omega, s3, G3, hlt, rfl, F3, s3', M3, hd3⟩
    · intro v H3 y
      obtain ⟨d, G3, hds, f3, rv⟩ := wk.yld i H2 v H3 G2 s2 F2.s hlt y
      have hdr : ds.drop i = d :: ds.drop (i + 1) := by
        obtain ⟨hx1, hx2⟩ := List.getElem?_eq_some_iff.mp hds
        rw [← hx2]
        exact List.drop_eq_getElem_cons hlt
      rw [hdr, forG_cons] at hd2
      have hd3 := Res.sat_bind (Res.sat_bind hd2)
      cases he : tb (e1 s) d with
      | none =>
        have q := hb s d
        rw [he] at q
        have q' : fb s d = .bad := q
        rw [q'] at hd3
        exact hd3.elim
      | some env' =>
        refine sg H0 σ2 H3 G3 _ v d env' (M2.fr f3) rv he _ fun σ3 M3 _ => ?_
        have F3 := F2.trans f3
        refine sb s d env' he G1 H0 σ3 H3 G3 ⟨F3.h, s2.trans f3.g, F3.s, fun b o e => ?_⟩ M3 { Dn with nx := fun σ H => ∃ s G, Fr G0 H0 G H ∧ Same G1 G ∧ Mat T H0 σ H G (e1 s) ∧ ((forG ιb fb (ds.drop (i + 1)) s).bind (lpK r k)).sat (fun o => Out T G0 H0 Dn el eo (ι o)) (EXS T W G0 H0), ct := fun σ H => ∃ s G, Fr G0 H0 G H ∧ Same G1 G ∧ Mat T H0 σ H G (e1 s) ∧ ((forG ιb fb (ds.drop (i + 1)) s).bind (lpK r k)).sat (fun o => Out T G0 H0 Dn el eo (ι o)) (EXS T W G0 H0), bk := u { Dn with nx := nx } } _ rfl (hd3.mono (fun o ho => ?_) fun c vs z σ C dd ns ws H' G' h1 h2 h3 f h5 h6 => ?_)
        · rcases F3.n b o e with z | z
          · exact .inl ((F.g.trans f1.g) _ _ z)
          · exact .inr z
        · have lift : ∀ {G' H' : Hp}, Fr G1 H0 G' H' → Fr G0 H0 G' H' := fun f => ⟨f.h, (F.g.trans f1.g).trans f.g, f.s, fun b o e => by
            rcases f.n b o e with z | z
            · exact (F.trans f1).n b o z
            · exact .inr z⟩
          cases hio : ιb o with
          | nx s' =>
            rw [hio] at ho
            exact fun σ4 H4 G4 F4 M4 => ⟨s', G4, lift F4, F4.g, M4, Res.bind_sat ho⟩
          | ct s' =>
            rw [hio] at ho
            exact fun σ4 H4 G4 F4 M4 => ⟨s', G4, lift F4, F4.g, M4, Res.bind_sat ho⟩
          | bk s' =>
            rw [hio] at ho
            exact fun σ4 H4 G4 F4 M4 => su s' G0 H0 σ4 H4 G4 (lift F4) M4 Dn nx hx ho
          | rt d' =>
            rw [hio] at ho
            rcases hrt d' with e | ⟨o, e, e2⟩
            · have h' : (r d').sat (fun o => Out T G0 H0 Dn el eo (ι o)) (EXS T W G0 H0) := ho
              rw [e] at h'
              exact h'.elim
            · have h' : (r d').sat (fun o => Out T G0 H0 Dn el eo (ι o)) (EXS T W G0 H0) := ho
              rw [e] at h'
              have h'' : Out T G0 H0 Dn el eo (ι o) := h'
              rw [e2] at h''
              exact fun v4 H4 G4 F4 r4 => h'' v4 H4 G4 (lift F4) r4
        · have f' : Fr G0 H0 G' H' := ⟨f.h, (F.g.trans f1.g).trans f.g, f.s, fun b o e => by
            rcases f.n b o e with z | z
            · exact (F.trans f1).n b o z
            · exact .inr z⟩
          exact z σ C dd ns ws H' G' h1 h2 h3 f' h5 h6
  · refine .inl ⟨wk.stop i H2 (s2.trans F2.s) (by omega), ?_⟩
    have hdr : ds.drop i = [] := List.drop_eq_nil_of_le (by omega)
    rw [hdr] at hd2
    exact su s G0 H0 σ2 H2 G2 F2 M2 Dn nx hx hd2
/-- a loop without return and break -/
theorem pb_forS {pos : Pos} {ms : Res (List D)} {S' : Type} {e1 : S' → Env'} {s0 : S'} {is : List Nat} {tb : Env' → D → Option Env'} {fb : S' → D → Res S'} {k : S' → Res O} (hp : PassesOwn (model X.prog X.w) X.A X.env X.xe) (hc : X.calm = true) (hi : PIX X T W tg iter env ms) (hg : PGX X T tg is tb) (h0 : subE (e1 s0) env)
    (hb : ∀ s d, match tb (e1 s) d with
      | some env' => PBX X T W .fall body env' (fb s d) Fl.nx e1 e1
      | none => fb s d = .bad) (hr : ∀ s, PBX X T W x rest (e1 s) (k s) ι el eo) (hs : ∀ x, foldedSetIterable iter X.env x = pure x := by intro _; rfl) :
    PBX X T W x (.For tg iter body [] pos :: rest) env (ms.bind fun ds => (forR fb ds s0).bind k) ι el eo := by
  have h := pb_for (pos := pos) (r := fun _ => .bad) hp hc hi hg h0 hb (fun _ => .inl rfl) hr hs
  have e : (fun ds => (forG Fl.nx fb ds s0).bind (lpK (fun _ => .bad) k)) = fun ds => (forR fb ds s0).bind k := by
    funext ds
    rw [forG_nx]
    cases forR fb ds s0 <;> rfl
  rw [e] at h
  exact h

/-! ### while -/
def whileG {S O : Type} (ι : O → Fl S S) (c : S → Res Bool) (fb : S → Res O) : Nat → S → Res (Lp S)
  | 0, _ => .bad
  | n + 1, s => (c s).bind fun b => if b then (fb s).bind fun o => match ι o with
    | .nx s' => whileG ι c fb n s'
    | .ct s' => whileG ι c fb n s'
    | .bk s' => .ok (.nx s')
    | .rt d => .ok (.rt d)
    else .ok (.nx s)
def whileR {S : Type} (c : S → Res Bool) (fb : S → Res S) : Nat → S → Res S
  | 0, _ => .bad
  | n + 1, s => (c s).bind fun b => if b then (fb s).bind fun s' => whileR c fb n s' else .ok s
theorem whileG_nx {S : Type} (c : S → Res Bool) (fb : S → Res S) : ∀ (n : Nat) (s : S), whileG Fl.nx c fb n s = (whileR c fb n s).bind fun s => .ok (.nx s)
  | 0, s => rfl
  | n + 1, s => by
    unfold whileG whileR
    cases c s with
    | ok b =>
      cases b with
      | true =>
        cases hfb : fb s with
        | ok s' =>
          simp only [Res.ok_bind, if_true]
          exact whileG_nx c fb n s'
        | err c vs => simp only [Res.ok_bind, if_true, Res.err_bind]
        | bad => simp only [Res.ok_bind, if_true, Res.bad_bind]
      | false => rfl
    | err c vs => rfl
    | bad => rfl
theorem pb_while {pos : Pos} {Ob S' : Type} {e1 : S' → Env'} {s0 : S'} {n0 : Nat} {fc : S' → Res Bool} {fb : S' → Res Ob} {ιb : Ob → Fl S' S'} {r : D → Res O} {k : S' → Res O} (hp : PassesOwn (model X.prog X.w) X.A X.env X.xe) (h0 : subE (e1 s0) env)
    (hcd : ∀ s, PTX X T W c (e1 s) (fc s)) (hb : ∀ s, PBX X T W .fall body (e1 s) (fb s) ιb e1 e1) (hrt : ∀ d, r d = .bad ∨ ∃ o, r d = .ok o ∧ ι o = .rt d) (hr : ∀ s, PBX X T W x rest (e1 s) (k s) ι el eo) :
    PBX X T W x (.While c body [] pos :: rest) env ((whileG ιb fc fb n0 s0).bind (lpK r k)) ι el eo := by
  obtain ⟨tc, pc, sc⟩ := PTX.all hcd
  obtain ⟨u, pu, su⟩ := PBX.all hr
  obtain ⟨tb', pb, sb⟩ := PBX.all hb
  refine ⟨_, pss_cons (ps_while hp pc pb) pu, fun G0 H0 σ H G F M Dn nx hx h => ?_⟩
  refine ⟨fun n σ H => ∃ s G, Fr G0 H0 G H ∧ Mat T H0 σ H G (e1 s) ∧ ((whileG ιb fc fb n s).bind (lpK r k)).sat (fun o => Out T G0 H0 Dn el eo (ι o)) (EXS T W G0 H0), ⟨n0, s0, G, F, M.sub h0, h⟩, ?_⟩
  rintro n σ2 H2 ⟨s, G2, F2, M2, hd2⟩
  cases n with
  | zero => exact hd2.elim
  | succ n =>
    refine sc s H0 σ2 H2 G2 M2 _ ((sat_ex F2 (Res.sat_bind (Res.sat_bind hd2))).mono (fun b hbb H3 G3 f3 => ?_) fun _ _ z => z)
    cases b with
    | false => exact iteF (su s G0 H0 σ2 H3 G3 (F2.trans f3) (M2.fr f3) Dn nx hx hbb)
    | true =>
      refine iteT ⟨fun σ H => ∃ s G, Fr G0 H0 G H ∧ Mat T H0 σ H G (e1 s) ∧ ((whileG ιb fc fb n s).bind (lpK r k)).sat (fun o => Out T G0 H0 Dn el eo (ι o)) (EXS T W G0 H0), fun σ4 H4 h4 => ⟨n, Nat.lt_succ_self n, h4⟩, ?_⟩
      refine sb s G0 H0 σ2 H3 G3 (F2.trans f3) (M2.fr f3) { Dn with nx := fun σ H => ∃ s G, Fr G0 H0 G H ∧ Mat T H0 σ H G (e1 s) ∧ ((whileG ιb fc fb n s).bind (lpK r k)).sat (fun o => Out T G0 H0 Dn el eo (ι o)) (EXS T W G0 H0), ct := fun σ H => ∃ s G, Fr G0 H0 G H ∧ Mat T H0 σ H G (e1 s) ∧ ((whileG ιb fc fb n s).bind (lpK r k)).sat (fun o => Out T G0 H0 Dn el eo (ι o)) (EXS T W G0 H0), bk := u { Dn with nx := nx } } _ rfl ((Res.sat_bind (k := fun o => match ιb o with
    | .nx s' => whileG ιb fc fb n s'
    | .ct s' => whileG ιb fc fb n s'
    | .bk s' => .ok (.nx s')
    | .rt d => .ok (.rt d)) hbb).mono (fun o ho => ?_) fun _ _ z => z)
      cases hio : ιb o with
      | nx s' =>
        rw [hio] at ho
        exact fun σ4 H4 G4 F4 M4 => ⟨s', G4, F4, M4, Res.bind_sat ho⟩
      | ct s' =>
        rw [hio] at ho
        exact fun σ4 H4 G4 F4 M4 => ⟨s', G4, F4, M4, Res.bind_sat ho⟩
      | bk s' =>
        rw [hio] at ho
        exact fun σ4 H4 G4 F4 M4 => su s' G0 H0 σ4 H4 G4 F4 M4 Dn nx hx ho
      | rt d' =>
        rw [hio] at ho
        rcases hrt d' with e | ⟨o, e, e2⟩
        · have h' : (r d').sat (fun o => Out T G0 H0 Dn el eo (ι o)) (EXS T W G0 H0) := ho
          rw [e] at h'
          exact h'.elim
        · have h' : (r d').sat (fun o => Out T G0 H0 Dn el eo (ι o)) (EXS T W G0 H0) := ho
          rw [e] at h'
          have h'' : Out T G0 H0 Dn el eo (ι o) := h'
          rw [e2] at h''
          exact fun v4 H4 G4 F4 r4 => h'' v4 H4 G4 F4 r4
theorem pb_whileS {pos : Pos} {S' : Type} {e1 : S' → Env'} {s0 : S'} {n0 : Nat} {fc : S' → Res Bool} {fb : S' → Res S'} {k : S' → Res O} (hp : PassesOwn (model X.prog X.w) X.A X.env X.xe) (h0 : subE (e1 s0) env)
    (hcd : ∀ s, PTX X T W c (e1 s) (fc s)) (hb : ∀ s, PBX X T W .fall body (e1 s) (fb s) Fl.nx e1 e1) (hr : ∀ s, PBX X T W x rest (e1 s) (k s) ι el eo) :
    PBX X T W x (.While c body [] pos :: rest) env ((whileR fc fb n0 s0).bind k) ι el eo := by
  have h := pb_while (pos := pos) (n0 := n0) (r := fun _ => .bad) hp h0 hcd hb (fun _ => .inl rfl) hr
  rw [whileG_nx] at h
  have e : ((whileR fc fb n0 s0).bind fun s => Res.ok (Lp.nx s)).bind (lpK (fun _ => .bad) k) = (whileR fc fb n0 s0).bind k := by cases whileR fc fb n0 s0 <;> rfl
  rw [e] at h
  exact h
end
end Px

namespace Px
open PySem PySem.Spec PyProof.Rows L2

/-! ### list comprehensions -/
def WN : WX := fun _ _ _ _ => False
def compR (fc : D → Res Bool) (fe : D → Res D) : List D → Res (List D)
  | [] => .ok []
  | d :: ds => (noErr (fc d)).bind fun b => if b then (noErr (fe d)).bind fun y => (compR fc fe ds).bind fun ys => .ok (y :: ys) else compR fc fe ds
def compL (fc : D → Res Bool) (fe : D → Res D) (ms : Res (List D)) : Res (List D) := ms.bind fun ds => if ds.length ≤ sizeLine then compR fc fe ds else .bad
/-- without an if -/
def mapR (fe : D → Res D) : List D → Res (List D)
  | [] => .ok []
  | d :: ds => (noErr (fe d)).bind fun y => (mapR fe ds).bind fun ys => .ok (y :: ys)
def mapL (fe : D → Res D) (ms : Res (List D)) : Res (List D) := ms.bind fun ds => if ds.length ≤ sizeLine then mapR fe ds else .bad
theorem compR_map (fe : D → Res D) : ∀ ds, compR (fun _ => .ok true) fe ds = mapR fe ds
  | [] => rfl
  | d :: ds => by
    unfold compR mapR
    rw [compR_map fe ds]
    rfl
theorem compL_map (fe : D → Res D) (ms : Res (List D)) : compL (fun _ => .ok true) fe ms = mapL fe ms := by
  unfold compL mapL
  congr 1
  funext ds
  rw [compR_map]
def wipeE (env : Env') : List Nat → Env'
  | [] => env
  | v :: vs => (wipeE env vs).set v none
theorem Mat.wipe {T : Kt} {H0 : Hp} {σ : L2.St} {H G : Hp} {env : Env'} (m : Mat T H0 σ H G env) : ∀ vs : List Nat, Mat T H0 (L2.wipe σ vs) H G (wipeE env vs)
  | [] => m
  | v :: vs => (m.wipe vs).unset v

theorem wipe_wipe (σ : L2.St) (vs : List Nat) : L2.wipe (L2.wipe σ vs) vs = L2.wipe σ vs := by
  apply List.ext_getElem?
  intro j
  rw [wipe_get, wipe_get, wipe_length]
  by_cases q : j ∈ vs ∧ j < σ.length
  · rw [if_pos q, if_pos q]
  · rw [if_neg q]

structure PTsX (X : Cx) (T : Kt) (W : WX) (es : List Expr) (env : Env') (m : Res Bool) : Prop where
  ex : ∃ t, PTs X es t ∧ ST T W t env m

section
variable {X : Cx} {T : Kt} {W : WX} {k : Nat} {x : Xk} {env : Env'} {a b c e o tg iter elt : Expr} {es ifs : List Expr} {st : Stmt} {rest body : List Stmt} {ma mb mc me : Res D} {pos : Pos} {O L S : Type} {m : Res O} {ι : O → Fl L S} {el : L → Env'} {eo : S → Env'}
theorem ptsx_nil : PTsX X T W [] env (.ok true) := ⟨_, pts_nil, fun H0 σ H G M Q h => h H G (Fr.refl M.gh)⟩
theorem ptsx_one {mt : Res Bool} (h : PTX X T W c env mt) : PTsX X T W [c] env mt := by
  obtain ⟨t, p, s⟩ := h.ex
  exact ⟨_, pts_one p, s⟩

abbrev BX (X : Cx) (scope : Scope) (s : Shared) (H : Hp) (C : Addr) (cl : List (Str × Addr)) (fp : List Addr) : Cx := X.blk s H scope (compEnvC scope cl C X.env) fp
structure LcX (X : Cx) (T : Kt) (W : WX) (tg iter elt : Expr) (ifs : List Expr) (scope : Scope) (own : List (Str × Nat)) (env : Env') (m : Res (List D)) : Prop where
  ex : ∃ wi g tt te, PI X tg iter wi ∧ (∀ s H C cl fp, PG (BX X scope s H C cl fp) tg g) ∧ (∀ s H C cl fp, PTs (BX X scope s H C cl fp) ifs tt) ∧ (∀ s H C cl fp, PE (BX X scope s H C cl fp) elt te) ∧ SO T W (tLc wi g tt te (own.map (·.2))) env m
theorem lcx {scope : Scope} {own : List (Str × Nat)} {ms : Res (List D)} {is : List Nat} {tb : Env' → D → Option Env'} {fc : D → Res Bool} {fe : D → Res D} (hi : PIX X T W tg iter env ms)
    (hg : ∀ s H C cl fp, PGX (BX X scope s H C cl fp) T tg is tb) (his : ∀ i ∈ is, i ∈ own.map (·.2))
    (ht : ∀ s H C cl fp d, match tb (wipeE env (own.map (·.2))) d with
      | some env' => PTsX (BX X scope s H C cl fp) T WN ifs env' (fc d)
      | none => True)
    (hn : ∀ d, match tb (wipeE env (own.map (·.2))) d with
      | some _ => True
      | none => fc d = .bad)
    (he : ∀ s H C cl fp d, match tb (wipeE env (own.map (·.2))) d with
      | some env' => PX (BX X scope s H C cl fp) T WN elt env' (fe d)
      | none => True) :
    LcX X T W tg iter elt ifs scope own env (compL fc fe ms) := by
  obtain ⟨wi, pi, si⟩ := hi.ex
  have hg' : ∃ g, (∀ s H C cl fp, PG (BX X scope s H C cl fp) tg g) ∧ SG T g is tb := by
    refine ⟨fun v σ H Q => ∀ s H' C cl fp, ∃ g, PG (BX X scope s H' C cl fp) tg g ∧ g v σ H Q, fun s H' C cl fp => ⟨fun pins s1 σ H v u Q I r h => ?_⟩, fun H0 σ H G env v d env' M r e Q q s H' C cl fp => ?_⟩
    · obtain ⟨g, p, q⟩ := h s H' C cl fp
      exact p.run pins s1 σ H v u Q I r q
    · obtain ⟨g, p, sg⟩ := (hg s H' C cl fp).ex
      exact ⟨g, p, sg H0 σ H G env v d env' M r e Q q⟩
  obtain ⟨g, pg, sg⟩ := hg'
  have ht' : ∃ t, (∀ s H C cl fp, PTs (BX X scope s H C cl fp) ifs t) ∧ ∀ d env', tb (wipeE env (own.map (·.2))) d = some env' → ST T WN t env' (fc d) := by
    refine ⟨fun σ H Q => ∀ s H' C cl fp, ∃ g, PTs (BX X scope s H' C cl fp) ifs g ∧ g σ H Q, fun s H' C cl fp => ⟨fun pins s1 σ H Q I h => ?_⟩, fun d env' e H0 σ H G M Q h s H' C cl fp => ?_⟩
    · obtain ⟨g, p, q⟩ := h s H' C cl fp
      exact p.run pins s1 σ H Q I q
    · have z := ht s H' C cl fp d
      rw [e] at z
      obtain ⟨g, p, sg⟩ := z.ex
      exact ⟨g, p, sg H0 σ H G M Q h⟩
  obtain ⟨tt, pt, stt⟩ := ht'
  have he' : ∃ t, (∀ s H C cl fp, PE (BX X scope s H C cl fp) elt t) ∧ ∀ d env', tb (wipeE env (own.map (·.2))) d = some env' → SE T WN t env' (fe d) := by
    refine ⟨fun σ H Q => ∀ s H' C cl fp, ∃ g, PE (BX X scope s H' C cl fp) elt g ∧ g σ H Q, fun s H' C cl fp => ⟨fun pins s1 σ H Q I h => ?_⟩, fun d env' e H0 σ H G M Q h s H' C cl fp => ?_⟩
    · obtain ⟨g, p, q⟩ := h s H' C cl fp
      exact p.run pins s1 σ H Q I q
    · have z := he s H' C cl fp d
      rw [e] at z
      obtain ⟨g, p, sg⟩ := z.ex
      exact ⟨g, p, sg H0 σ H G M Q h⟩
  obtain ⟨te, pe, see⟩ := he'
  refine ⟨wi, g, tt, te, pi, pg, pt, pe, fun H0 σ H G M Q h => ?_⟩
  refine si H0 σ H G M _ ((Res.sat_bind h).mono (fun ds hd J H1 G1 f1 wk Dn nD => ?_) fun _ _ z => z)
  by_cases hz : ds.length ≤ sizeLine
  · rw [if_pos hz] at hd
    have gD : G1 Dn = none := f1.s.free nD
    have hHD : H Dn = none := f1.h.free nD
    let E := EX T (WE W σ) G H
    refine ⟨fun i n H' => ∃ acc vs G', i ≤ ds.length ∧ n = ds.length - i ∧ acc.length ≤ i ∧ Fr G1 H1 G' H' ∧ G' Dn = none ∧ H' Dn = some (.lst vs) ∧ Reps T G' vs acc ∧ ((compR fc fe (ds.drop i)).bind fun l => .ok (acc ++ l)).sat (PO T G H Q) E,
      ⟨_, [], [], G1, Nat.zero_le _, rfl, Nat.zero_le _, Fr.newH f1.s nD, gD, upd_same, .nil, ?_⟩, ?_⟩
    · have : ((compR fc fe (ds.drop 0)).bind fun l => .ok ([] ++ l)) = compR fc fe ds := by
        rw [List.drop_zero]; cases compR fc fe ds <;> rfl
      rw [this]; exact hd
    · rintro i n H2 ⟨acc, vs, G2, hi, rfl, hac, F2, gD2, hD2, r2, hd2⟩
      by_cases hlt : i < ds.length
      · refine .inr ⟨wk.go i H2 (F2.g.trans F2.s) hlt, fun H' => ∃ acc vs G', acc.length ≤ i + 1 ∧ Fr G1 H1 G' H' ∧ G' Dn = none ∧ H' Dn = some (.lst vs) ∧ Reps T G' vs acc ∧ ((compR fc fe (ds.drop (i + 1))).bind fun l => .ok (acc ++ l)).sat (PO T G H Q) E, ?_, ?_⟩
        · rintro H3 ⟨acc3, vs3, G3, h3⟩
          exact ⟨ds.length - (i + 1), by omega, acc3, vs3, G3, hlt, rfl, h3⟩
        · intro v H3 y
          obtain ⟨d, G3, hds, f3, rv⟩ := wk.yld i H2 v H3 G2 F2.g F2.s hlt y
          have hdr : ds.drop i = d :: ds.drop (i + 1) := by
            obtain ⟨hx1, hx2⟩ := List.getElem?_eq_some_iff.mp hds
            rw [← hx2]
            exact List.drop_eq_getElem_cons hlt
          rw [hdr] at hd2
          unfold compR at hd2
          have hd3 := Res.sat_bind (Res.sat_bind hd2)
          have F3 := F2.trans f3
          have keepD : ∀ {G' H' : Hp}, Fr G2 H2 G' H' → G' Dn = none ∧ H' Dn = some (.lst vs) := fun {G' H'} f => by
            refine ⟨?_, f.h _ _ hD2⟩
            cases q : G' Dn with
            | none => rfl
            | some o =>
              rcases f.n Dn o q with z | z
              · rw [gD2] at z; cases z
              · rw [hD2] at z; cases z
          have M3 : Mat T H0 (L2.wipe σ (own.map (·.2))) H3 G3 (wipeE env (own.map (·.2))) := ((M.fr f1).fr F3).wipe _
          cases hte : tb (wipeE env (own.map (·.2))) d with
          | none =>
            have z := hn d
            rw [hte] at z
            have z' : fc d = .bad := z
            rw [z'] at hd3
            exact hd3.elim
          | some env' =>
            refine sg H0 _ H3 G3 _ v d env' M3 rv hte _ fun σ3 M3' hw => ⟨(hw _ his).trans (wipe_wipe σ _), ?_⟩
            refine stt d env' hte H0 σ3 H3 G3 M3' _ (noErr_sat (hd3.mono (fun bb hbb H4 G4 f4 => ?_) (E' := E) fun _ _ z => z))
            cases bb with
            | true =>
              refine iteT (see d env' hte H0 σ3 H4 G4 (M3'.fr f4) _ (noErr_sat ((Res.sat_bind (Res.sat_bind (show (((noErr (fe d)).bind fun y => (compR fc fe (ds.drop (i + 1))).bind fun ys => .ok (y :: ys)).bind fun l => .ok (acc ++ l)).sat _ _ from Res.bind_sat hbb))).mono (fun y hy v5 H5 G5 f5 r5 => ?_) (E' := E) fun _ _ z => z)))
              have f25 := (f3.trans f4).trans f5
              obtain ⟨g5, h5⟩ := keepD f25
              have hl : vs.length = acc.length := r2.length
              refine ⟨vs, h5, by rw [hl]; omega, acc ++ [y], vs ++ [v5], G5, by rw [List.length_append]; exact Nat.succ_le_succ hac, (F2.trans f25).updo g5 nD, g5, upd_same, (r2.mono f25.g).append (.cons r5 .nil), ?_⟩
              have e1 : (((compR fc fe (ds.drop (i + 1))).bind fun ys => Res.ok (y :: ys)).bind fun l => .ok (acc ++ l)) = (compR fc fe (ds.drop (i + 1))).bind fun l => .ok (acc ++ [y] ++ l) := by
                cases compR fc fe (ds.drop (i + 1)) with
                | ok l => simp
                | err c vs => rfl
                | bad => rfl
              rw [← e1]
              exact Res.bind_sat hy
            | false =>
              have f24 := f3.trans f4
              obtain ⟨g4, h4⟩ := keepD f24
              refine iteF ⟨acc, vs, G4, by omega, F2.trans f24, g4, h4, r2.mono f24.g, ?_⟩
              exact Res.bind_sat hbb
      · refine .inl ⟨wk.stop i H2 (F2.g.trans F2.s) (by omega), ?_⟩
        have hdr : ds.drop i = [] := List.drop_eq_nil_of_le (by omega)
        rw [hdr] at hd2
        have hq : PO T G H Q acc := by
          have := hd2
          unfold compR at this
          simp only [Res.ok_bind, List.append_nil] at this
          exact this
        exact hq Dn vs H2 G2 (f1.trans F2) hHD hD2 gD2 r2
  · rw [if_neg hz] at hd; exact hd.elim
/-- without an if -/
theorem lcx_map {scope : Scope} {own : List (Str × Nat)} {ms : Res (List D)} {is : List Nat} {tb : Env' → D → Option Env'} {fe : D → Res D} (hi : PIX X T W tg iter env ms)
    (hg : ∀ s H C cl fp, PGX (BX X scope s H C cl fp) T tg is tb) (his : ∀ i ∈ is, i ∈ own.map (·.2)) (htb : ∀ d, ∃ env', tb (wipeE env (own.map (·.2))) d = some env')
    (he : ∀ s H C cl fp d, match tb (wipeE env (own.map (·.2))) d with
      | some env' => PX (BX X scope s H C cl fp) T WN elt env' (fe d)
      | none => True) :
    LcX X T W tg iter elt [] scope own env (mapL fe ms) := by
  rw [← compL_map]
  refine lcx hi hg his (fun s H C cl fp d => ?_) (fun d => ?_) he
  · obtain ⟨env', e⟩ := htb d
    rw [e]
    exact ptsx_nil
  · obtain ⟨env', e⟩ := htb d
    rw [e]
    trivial
theorem LcX.pxo {scope : Scope} {own : List (Str × Nat)} {mo : Res (List D)} (h : LcX X T W tg iter elt ifs scope own env mo) (hc : X.calm = true) (hN : X.N.Nodup) (ok : BlkOk X.N X.env.scope scope own) (hs : ∀ x, foldedSetIterable iter X.env x = pure x) :
    PXO X T W (.ListComp elt [⟨tg, iter, ifs, 0⟩] scope pos) env mo := by
  obtain ⟨wi, g, tt, te, pi, pg, pt, pe, so⟩ := h.ex
  exact ⟨_, pe_lc hc hN pi ok pg pt pe hs, so⟩
/-- x = [..] -/
theorem pb_asgLcO (i : Nat) {y : Str} {py spos : Pos} {scope : Scope} {own : List (Str × Nat)} {mo : Res (List D)} {k : List D → Res O} (h : LcX X T W tg iter elt ifs scope own env mo) (hc : X.calm = true) (hN : X.N.Nodup) (hy : X.N[i]? = some y) (hyl : X.env.scope.names.lookup y = some .local)
    (hsw : swapsWith (.ListComp elt [⟨tg, iter, ifs, 0⟩] scope pos) (some (.Name y py)) spos.line X.env = pure true) (ok : BlkOk X.N X.env.scope scope own) (hs : ∀ x, foldedSetIterable iter X.env x = pure x) (hr : ∀ d, PBX X T W x rest (env.set i (some (.own d))) (k d) ι el eo) :
    PBX X T W x (.Assign [.Name y py] (.ListComp elt [⟨tg, iter, ifs, 0⟩] scope pos) spos :: rest) env (mo.bind k) ι el eo := by
  obtain ⟨wi, g, tt, te, pi, pg, pt, pe, so⟩ := h.ex
  obtain ⟨u, pu, su⟩ := PBX.all hr
  refine ⟨_, pss_cons (ps_setLc hc hN hy hyl hsw pi ok pg pt pe hs) pu, fun G0 H0 σ H G F M Dn nx hx h => ?_⟩
  show tLc wi g tt te (own.map (·.2)) σ H (fun x H1 => gName i x σ H1 (u { Dn with nx := nx }))
  refine so H0 σ H G M _ ((sat_ex F (Res.sat_bind h)).mono (fun d hd a vs H1 G1 f1 h1 h2 h3 r1 => ?_) fun _ _ z => z)
  exact su d G0 H0 _ H1 G1 (F.trans f1) ((M.fr f1).seto i h2 h3 (F.h.free h1) r1 (M.fresh h1)) Dn nx hx hd
/-- x = [..], standing fast at once -/
theorem pb_asgLc (i : Nat) {y : Str} {py spos : Pos} {scope : Scope} {own : List (Str × Nat)} {mo : Res (List D)} {k : D → Res O} (h : LcX X T W tg iter elt ifs scope own env mo) (hc : X.calm = true) (hN : X.N.Nodup) (hy : X.N[i]? = some y) (hyl : X.env.scope.names.lookup y = some .local)
    (hsw : swapsWith (.ListComp elt [⟨tg, iter, ifs, 0⟩] scope pos) (some (.Name y py)) spos.line X.env = pure true) (ok : BlkOk X.N X.env.scope scope own) (hs : ∀ x, foldedSetIterable iter X.env x = pure x) (hr : ∀ d, PBX X T W x rest (env.set i (some (.val d))) (k d) ι el eo) :
    PBX X T W x (.Assign [.Name y py] (.ListComp elt [⟨tg, iter, ifs, 0⟩] scope pos) spos :: rest) env ((lstV mo).bind k) ι el eo := by
  obtain ⟨wi, g, tt, te, pi, pg, pt, pe, so⟩ := h.ex
  obtain ⟨u, pu, su⟩ := PBX.all hr
  refine ⟨_, pss_cons (ps_setLc hc hN hy hyl hsw pi ok pg pt pe hs) pu, fun G0 H0 σ H G F M Dn nx hx h => ?_⟩
  have h' := Res.sat_bind (Res.sat_bind h)
  show tLc wi g tt te (own.map (·.2)) σ H (fun x H1 => gName i x σ H1 (u { Dn with nx := nx }))
  refine so H0 σ H G M _ ((sat_ex F h').mono (fun d hd a vs H1 G1 f1 h1 h2 h3 r1 => ?_) fun _ _ z => z)
  have f2 := f1.frz h2 h3 h1
  exact su (.lst d) G0 H0 _ H1 _ (F.trans f2) ((M.fr f2).setv (.lst upd_same (r1.mono (same_upd h3))) i) Dn nx hx hd
end
end Px

namespace Px
open PySem PySem.Spec PyProof.Rows L2

/-! ### defs -/
def pureSp (T : Kt) (n : Nat) (m : List D → Res D) : Sp := fun vs H Q E => ∃ G ds, Same G H ∧ Reps T G vs ds ∧ ds.length = n ∧ (m ds).sat (PQ T G H Q) (EX T E G H)
def erase (H : Hp) (x : Addr) : Hp := fun b => if b = x then none else H b
def initSp (T : Kt) (n c : Nat) (m : List D → Res (List D)) : Sp := fun vs H Q E => ∃ G ds x C dx ws, vs = .ref x :: ws ∧ T.ca c = some C ∧ H x = some (.ins C dx []) ∧ G x = none ∧ Same G H ∧ Reps T G ws ds ∧ ds.length + 1 = n ∧
  (m ds).sat (fun fs => ∀ H' G', Fr G (erase H x) G' H' → Rep T G' (.ref x) (.obj c fs) → Q .non H') (EX T E G (erase H x))

structure FP where
  P : Program
  w : World
  K : PySem.W.Frag
  mg : Str → Option Value
  base : Heap
abbrev xOf (g : FP) (N : List Str) (qual : Str) (st : Stmt) (f : Addr) (cdv : Value) (A : Around) (outer : List Env) (s : Shared) (H : Hp) (E : XK) : Cx := cxOf (L2.CX g.P g.w) g.P g.w g.K g.mg g.base N qual (defScope st) f cdv A outer s H E
abbrev WD (E : XK) : WX := fun cls d _ H => E cls d H
def envS (n : Nat) (ds : List D) : Env' := ds.map (fun d => some (.val d)) ++ List.replicate (n - ds.length) none

theorem ctx_of {g : FP} {N ps : List Str} {qual : Str} {st : Stmt} {f : Addr} {cdv : Value} {A : Around} {outer : List Env} {s : Shared} {H : Hp} {E : XK} {T : Kt} {k : Nat} (hT : g.K = T.K) (S : FnScope N ps (defScope st)) (hr : Room k (A.deeper (envOfC qual (defScope st) s.heap.objs.size f cdv))) :
    Ctx (xOf g N qual st f cdv A outer s H E) T (WD E) k where
  calm := rfl
  nd := S.nd
  kk := hT
  pass := fun σ => passAt (W := WD E) (takes_of rfl rfl rfl rfl) σ
  room := hr
  po := PassesOwn.leaving
theorem mat_start {T : Kt} {N : List Str} {G H : Hp} {vs : List V} {ds : List D} (s : Same G H) (r : Reps T G vs ds) (hl : ds.length ≤ N.length) : Mat T H (L2.start N vs) H G (envS N.length ds) := by
  have hlv := r.length
  refine ⟨s, by simp [L2.start, envS, hlv], fun i c e => ?_, fun i j c d a e1 e2 n1 n2 s1 s2 => ?_⟩
  · unfold envS at e
    rcases Nat.lt_or_ge i ds.length with hi | hi
    · rw [List.getElem?_append_left (by simpa using hi), List.getElem?_map, List.getElem?_eq_getElem hi] at e
      cases e
      obtain ⟨v, h1, h2⟩ := r.get (List.getElem?_eq_getElem hi)
      refine ⟨v, ?_, h2⟩
      unfold L2.start
      rw [List.getElem?_append_left (by rw [List.length_map, hlv]; exact hi), List.getElem?_map, h1]
      rfl
    · rw [List.getElem?_append_right (by simpa using hi)] at e
      rw [List.getElem?_replicate] at e
      split at e <;> cases e
  · exfalso
    unfold envS at e1
    rcases Nat.lt_or_ge i ds.length with hi | hi
    · rw [List.getElem?_append_left (by simpa using hi), List.getElem?_map, List.getElem?_eq_getElem hi] at e1
      cases e1
      cases n1
    · rw [List.getElem?_append_right (by simpa using hi)] at e1
      rw [List.getElem?_replicate] at e1
      split at e1 <;> cases e1

/-- how a def's body is looked at, whatever its defaults are -/
def OkRule (g : FP) (qual : Str) (st : Stmt) (f : Addr) (fd : FuncData) (N ps : List Str) (k : Nat) : Prop := ∀ sp : Sp, (∀ vs H Q E, sp vs H Q E → vs.length = ps.length) →
  (∀ (cdv : Value) (A : Around) (outer : List Env) (s : Shared) (H : Hp) (vs : List V) (Q : VK) (E : XK), Room k (A.deeper (envOfC qual (defScope st) s.heap.objs.size f cdv)) → sp vs H Q E →
    ∃ t, PSs (xOf g N qual st f cdv A outer s H E) (defBody st) t ∧ t { nx := fun _ H' => Q .non H', rt := Q } (L2.start N vs) H) → FnOk g.P g.w g.K g.mg g.base (L2.CX g.P g.w) (k + 1) f fd ps sp
theorem rule_fun {g : FP} {x qual : Str} {st : Stmt} {f : Addr} {fd : FuncData} {N ps : List Str} {k : Nat} (F : Fun g.K x qual st f fd) (S : FnScope N ps (defScope st)) : OkRule g qual st f fd N ps k := fun sp len h => F.okX S len h
theorem rule_funD {g : FP} {x qual : Str} {st : Stmt} {f : Addr} {fd : FuncData} {N ps : List Str} {k : Nat} {dvs : List V} {kws : List (Str × V)} (F : FunD g.K x qual (defArgs st) (defBody st) (defScope st) dvs kws f fd) (S : FnScope N ps (defScope st)) : OkRule g qual st f fd N ps k := fun sp len h => F.ok S len h
abbrev noE : Empty → Env' := fun z => nomatch z
theorem fn_pure {g : FP} {qual : Str} {st : Stmt} {f : Addr} {fd : FuncData} {N ps : List Str} {k : Nat} {T : Kt} {m : List D → Res D} (hT : g.K = T.K) (R : OkRule g qual st f fd N ps k) (S : FnScope N ps (defScope st))
    (h : ∀ cdv A outer s H E, Ctx (xOf g N qual st f cdv A outer s H E) T (WD E) k → ∀ ds : List D, ds.length = ps.length → PBX (xOf g N qual st f cdv A outer s H E) T (WD E) .fn (defBody st) (envS N.length ds) (m ds) (Fl.rt (L := Empty) (S := Empty)) noE noE) :
    FnOk g.P g.w g.K g.mg g.base (L2.CX g.P g.w) (k + 1) f fd ps (pureSp T ps.length m) := by
  refine R _ (fun vs H Q E h => ?_) (fun cdv A outer s H vs Q E hr h0 => ?_)
  · obtain ⟨G, ds, _, r, hl, _⟩ := h
    rw [r.length]; exact hl
  · obtain ⟨G, ds, sm, r, hl, hq⟩ := h0
    obtain ⟨t, p, ss⟩ := (h cdv A outer s H E (ctx_of hT S hr) ds hl).ex
    have hpl : ps.length ≤ N.length := by have := congrArg List.length S.pre; rw [List.length_take] at this; omega
    refine ⟨t, p, ?_⟩
    exact ss G H _ H G (Fr.refl sm) (mat_start sm r (by omega)) { nx := fun _ H' => Q .non H', rt := Q } _ rfl (hq.mono (fun d hd => hd) fun c vs z σ => z)

/-- __init__ -/
def initE (n : Nat) (x : Addr) (c : Nat) (ds : List D) : Env' := some (.ins x c []) :: (ds.map (fun d => some (.val d)) ++ List.replicate (n - (ds.length + 1)) none)
theorem mat_init {T : Kt} {N : List Str} {G H : Hp} {ws : List V} {ds : List D} {x C dx : Addr} {c : Nat} (s : Same G H) (hc : T.ca c = some C) (hx : H x = some (.ins C dx [])) (gx : G x = none) (r : Reps T G ws ds) (hl : ds.length + 1 ≤ N.length) : Mat T (erase H x) (L2.start N (.ref x :: ws)) H G (initE N.length x c ds) := by
  have M := mat_start (T := T) (N := N) (vs := .non :: ws) (ds := .non :: ds) s (.cons .non r) (by simpa using hl)
  have hh : erase H x x = none := if_pos rfl
  have e1 : initE N.length x c ds = (envS N.length (.non :: ds)).set 0 (some (.ins x c [])) := rfl
  have e2 : start N (V.ref x :: ws) = (L2.start N (V.non :: ws)).set 0 (some (.ref x)) := rfl
  rw [e1, e2]
  refine ⟨s, by simp [M.len], fun j cc e => ?_, fun j k cc d a e1 e2 n1 n2 s1 s2 => ?_⟩
  · rcases get_set e with ⟨rfl, q, hl⟩ | ⟨q, e⟩
    · cases q
      exact ⟨.ref x, by rw [List.getElem?_set_self (by rw [← M.len]; exact hl)], C, dx, [], rfl, hc, by simpa using hx, Nat.zero_le _, gx, hh, .nil⟩
    · obtain ⟨v, h1, h2⟩ := M.sl j cc e
      refine ⟨v, by rw [List.getElem?_set_ne q]; exact h1, ?_⟩
      cases cc with
      | val d => exact h2
      | own es =>
        unfold envS at e
        rcases Nat.lt_or_ge j (D.non :: ds).length with hi | hi
        · rw [List.getElem?_append_left (by simpa using hi), List.getElem?_map, List.getElem?_eq_getElem hi] at e; cases e
        · rw [List.getElem?_append_right (by simpa using hi), List.getElem?_replicate] at e; split at e <;> cases e
      | ins b c es =>
        unfold envS at e
        rcases Nat.lt_or_ge j (D.non :: ds).length with hi | hi
        · rw [List.getElem?_append_left (by simpa using hi), List.getElem?_map, List.getElem?_eq_getElem hi] at e; cases e
        · rw [List.getElem?_append_right (by simpa using hi), List.getElem?_replicate] at e; split at e <;> cases e
  · have key : ∀ (j : Nat) (cc : Cell), ((envS N.length (.non :: ds)).set 0 (some (.ins x c [])))[j]? = some (some cc) → cc.isVal = false → j = 0 := fun j cc e n => by
      rcases get_set e with ⟨rfl, q, hl⟩ | ⟨q, e⟩
      · rfl
      · unfold envS at e
        rcases Nat.lt_or_ge j (D.non :: ds).length with hi | hi
        · rw [List.getElem?_append_left (by simpa using hi), List.getElem?_map, List.getElem?_eq_getElem hi] at e; cases e; cases n
        · rw [List.getElem?_append_right (by simpa using hi), List.getElem?_replicate] at e; split at e <;> cases e
    rw [key j cc e1 n1, key k d e2 n2]
abbrev insE (n : Nat) (x : Addr) (c : Nat) : List D → Env' := fun fs => some (.ins x c fs) :: List.replicate (n - 1) none
/-- all fields are there -/
def chkL (n : Nat) (m : Res (List D)) : Res (List D) := m.bind fun fs => if fs.length = n then .ok fs else .bad
theorem fn_init {g : FP} {qual : Str} {st : Stmt} {f : Addr} {fd : FuncData} {N ps : List Str} {k c : Nat} {T : Kt} {m : List D → Res (List D)} (hT : g.K = T.K) (R : OkRule g qual st f fd N ps k) (S : FnScope N ps (defScope st))
    (h : ∀ cdv A outer s H E, Ctx (xOf g N qual st f cdv A outer s H E) T (WD E) k → ∀ (x : Addr) (ds : List D), ds.length + 1 = ps.length → PBX (xOf g N qual st f cdv A outer s H E) T (WD E) .fall (defBody st) (initE N.length x c ds) (m ds) (Fl.nx (L := Empty) (S := List D)) noE (insE N.length x c)) :
    FnOk g.P g.w g.K g.mg g.base (L2.CX g.P g.w) (k + 1) f fd ps (initSp T ps.length c fun ds => chkL (T.at_ c).length (m ds)) := by
  refine R _ (fun vs H Q E h => ?_) (fun cdv A outer s H vs Q E hr h0 => ?_)
  · obtain ⟨G, ds, x, C, dx, ws, rfl, _, _, _, _, r, hl, _⟩ := h
    rw [List.length_cons, r.length]; exact hl
  · obtain ⟨G, ds, x, C, dx, ws, rfl, hc, hx, gx, sm, r, hl, hq⟩ := h0
    obtain ⟨t, p, ss⟩ := (h cdv A outer s H E (ctx_of hT S hr) x ds hl).ex
    have hpl : ps.length ≤ N.length := by have := congrArg List.length S.pre; rw [List.length_take] at this; omega
    have hh : erase H x x = none := if_pos rfl
    have hne : ∀ b, b ≠ x → erase H x b = H b := fun b n => if_neg n
    have F0 : Fr G (erase H x) G H := ⟨fun b o e => by
      have n : b ≠ x := fun z => by subst z; rw [hh] at e; cases e
      rw [hne b n] at e; exact e, Same.refl _, sm, fun b o e => .inl e⟩
    refine ⟨t, p, ?_⟩
    dsimp only at hq
    cases hmm : m ds with
    | bad => rw [hmm] at hq; exact hq.elim
    | err cc vs =>
      rw [hmm] at hq
      refine ss G (erase H x) _ H G F0 (mat_init sm hc hx gx r (by omega)) { nx := fun _ H' => Q .non H', rt := Q } _ rfl ?_
      rw [hmm]
      have hq' : EX T E G (erase H x) cc vs := hq
      exact fun σ => hq'
    | ok fs =>
      rw [hmm] at hq
      by_cases hl2 : fs.length = (T.at_ c).length
      case neg =>
        have e : chkL (T.at_ c).length (.ok fs) = .bad := if_neg hl2
        rw [e] at hq
        exact hq.elim
      have e : chkL (T.at_ c).length (.ok fs) = .ok fs := if_pos hl2
      rw [e] at hq
      refine ss G (erase H x) _ H G F0 (mat_init sm hc hx gx r (by omega)) { nx := fun _ H' => Q .non H', rt := Q } _ rfl ?_
      rw [hmm]
      intro σ H1 G1 F1 M1
      obtain ⟨v, h1, C', dx', vs', rfl, hc', ha, hle, ga, ha0, r'⟩ := M1.sl 0 (.ins x c fs) rfl
      have htk : (T.at_ c).take fs.length = T.at_ c := by rw [hl2]; exact List.take_length
      rw [htk] at ha
      exact hq H1 _ (F1.frz ha ga ha0) (.obj hc' upd_same rfl (by rw [r'.length, hl2]) (r'.mono (same_upd ga)))
end Px

namespace Px
open PySem PySem.Spec PyProof.Rows L2

theorem lookup_zip {T : Kt} {G : Hp} {f : Str} : ∀ {ns : List Str} {vs : List V} {ds : List D} {d : D}, Reps T G vs ds → (ns.zip ds).lookup f = some d → ∃ v, (ns.zip vs).lookup f = some v ∧ Rep T G v d
  | [], _, _, _, _, h => by cases h
  | n :: ns, _, _, _, .nil, h => by cases h
  | n :: ns, v :: vs, e :: ds, d, .cons a r, h => by
    rw [List.zip_cons_cons] at h ⊢
    rw [List.lookup_cons] at h ⊢
    cases q : f == n with
    | true => rw [q] at h; cases h; exact ⟨v, rfl, a⟩
    | false => rw [q] at h; exact lookup_zip r h
theorem lookup_zip_none {f : Str} : ∀ {ns : List Str} {vs : List V}, ns.all (fun n => f != n) = true → (ns.zip vs).lookup f = none
  | [], _, _ => rfl
  | n :: ns, [], _ => rfl
  | n :: ns, v :: vs, h => by
    rw [List.all_cons, Bool.and_eq_true] at h
    rw [List.zip_cons_cons, List.lookup_cons]
    have q : (f == n) = false := by simpa using h.1
    rw [q]
    exact lookup_zip_none h.2

/-- what is known of the text's classes -/
structure KtOk (T : Kt) : Prop where
  cls : ∀ c C, T.ca c = some C → Cls T.K C
  no : ∀ c C, T.ca c = some C → ∀ f ∈ T.at_ c, NoAttr T.K C f
  ty : ∀ c C, T.ca c = some C → PySem.W.findIn T.K (.ref C) "__class__" = some (some (.builtin "object.__class__")) ∧ PySem.W.specialIn T.K (.builtin "object.__class__") "__get__" = some (some (.builtin "getset_descriptor.__get__")) ∧ PySem.W.takesIn T.K (.builtin "object.__class__") = some true ∧ PySem.W.mroIn T.K C (.type "object") = some true
  sub : ∀ c d C E, T.ca c = some C → T.ca d = some E → PySem.W.kitOne T.K (.ref C) (.ref E) = some (T.sub c d)
  bt : ∀ d E n, T.ca d = some E → n ∈ ["NoneType", "bool", "int", "str", "list", "tuple", "dict"] → PySem.W.kitOne T.K (.type n) (.ref E) = some false
  tb : ∀ d E n, T.ca d = some E → n ∈ ["bool", "int", "str", "list", "tuple", "dict"] → PySem.W.kitOne T.K (.ref E) (.type n) = some false

section
variable {X : Cx} {T : Kt} {W : WX} {k k' : Nat} {env : Env'} {a b c e o : Expr} {es : List Expr} {ma mb mc m : Res D} {pos : Pos}

/-! ### fields -/
def fldD (at_ : Nat → List Str) (f : Str) : D → Option D
  | .obj c ds => ((at_ c).zip ds).lookup f
  | _ => none
theorem zip_mem {α : Type} {f : Str} {d : α} : ∀ {ns : List Str} {ds : List α}, (ns.zip ds).lookup f = some d → f ∈ ns
  | [], _, h => by cases h
  | n :: ns, [], h => by cases h
  | n :: ns, e :: ds, h => by
    rw [List.zip_cons_cons, List.lookup_cons] at h
    cases q : f == n with
    | true => rw [eq_of_beq q]; exact List.mem_cons_self
    | false => rw [q] at h; exact List.mem_cons_of_mem _ (zip_mem h)
theorem px_fld {f : Str} (hk : X.K = T.K) (S : KtOk T) (he : PX X T W e env m) (hb : attributeBase e f X.env (eval e X.env) = eval e X.env) : PX X T W (.Attribute e f pos) env (op1 (fldD T.at_ f) m) := by
  obtain ⟨t, p, s⟩ := he.ex
  refine ⟨_, pe_fld p hb, fun H0 σ H G M Q h => ?_⟩
  refine s H0 σ H G M _ ((Res.sat_bind h).mono (fun x hx v1 H1 G1 f1 r1 => ?_) fun _ _ z => z)
  cases hf : fldD T.at_ f x with
  | none => rw [hf] at hx; exact hx.elim
  | some w =>
    rw [hf] at hx
    unfold fldD at hf
    split at hf
    · cases r1 with
      | obj hc hg hn hl rr =>
        rename_i ds C dx aa ns vs
        subst hn
        obtain ⟨v, h1, h2⟩ := lookup_zip rr hf
        rw [hk]
        exact ⟨_, _, _, _, v, rfl, f1.s _ _ hg, S.cls _ _ hc, S.no _ _ hc f (zip_mem hf), h1, hx v _ _ f1 h2⟩
    · cases hf

/-! ### isinstance -/
def isBT (n : String) : D → Option Bool
  | .non => some false
  | .bl _ => some (n == "bool" || n == "int")
  | .int _ => some (n == "int")
  | .str _ => some (n == "str")
  | .lst _ => some (n == "list")
  | .tup _ => some (n == "tuple")
  | .obj _ _ => some false
  | .scr _ => none
def isiD (n : String) : D → Option D := fun d => (isBT n d).map .bl
def isOwn (sub : Nat → Nat → Bool) (c : Nat) : D → Option Bool
  | .obj d _ => some (sub d c)
  | .scr _ => none
  | _ => some false
def isCD (sub : Nat → Nat → Bool) (c : Nat) : D → Option D := fun d => (isOwn sub c d).map .bl
theorem ty_of {G H : Hp} {v : V} {d : D} (S : KtOk T) (s : Same G H) (r : Rep T G v d) (hd : ∀ l, d ≠ .scr l) : ∃ t, TyX T.K H v t ∧ (match d with
    | .non => t = .type "NoneType"
    | .bl _ => t = .type "bool"
    | .int _ => t = .type "int"
    | .str _ => t = .type "str"
    | .lst _ => t = .type "list"
    | .scr _ => False
    | .tup _ => t = .type "tuple"
    | .obj c _ => ∃ C, T.ca c = some C ∧ t = .ref C) := by
  cases r with
  | non => exact ⟨_, .base .non, rfl⟩
  | bl b => exact ⟨_, .base (.bl b), rfl⟩
  | int b => exact ⟨_, .base (.int b), rfl⟩
  | str b => exact ⟨_, .base (.str b), rfl⟩
  | lst h _ => exact ⟨_, .base (.lst (s _ _ h)), rfl⟩
  | scr h _ => exact absurd rfl (hd _)
  | tup h _ =>
    rcases sqT_same s h with (h | ⟨o, h⟩) | ⟨o, _, _, h1, h2, _⟩
    · exact ⟨_, .base (.tup h), rfl⟩
    · exact ⟨_, .fTuple h, rfl⟩
    · exact ⟨_, .kTuple h1 h2, rfl⟩
  | obj hc hg _ _ _ =>
    obtain ⟨h1, h2, h3, h4⟩ := S.ty _ _ hc
    exact ⟨_, .base (.ins (s _ _ hg) (S.cls _ _ hc) h1 h2 h3 h4), _, hc, rfl⟩
/-- isinstance(e, T), T built in -/
theorem px_isi {n : String} {x : Str} {p p2 : Pos} (hk : X.K = T.K) (S : KtOk T) (hn : n ∈ ["bool", "int", "str", "list", "tuple", "dict"]) (hg : Gl X "isinstance") (hm : X.mg "isinstance" = none) (hgt : Gl X x) (hmt : X.mg x = none) (hvt : bootBuiltins x = some (.type n)) (hnt : x ≠ "__name__") (hdt : (x == ("__debug__" : Str)) = false) (he : PX X T W e env m)
    (hs : starEach [e, .Name x p2] X.env = (false, eval e X.env) :: starEach [.Name x p2] X.env := by rfl) (hs2 : starEach [.Name x p2] X.env = (false, eval (.Name x p2) X.env) :: starEach [] X.env := by rfl) (hpl : (backTo pos (starEach [.Name x p2] X.env)).any (·.1) = false := by rfl) :
    PX X T W (.Call (.Name "isinstance" p) [e, .Name x p2] [] pos) env (op1 (isiD n) m) := by
  obtain ⟨t, pe, s⟩ := he.ex
  have pb : PE X (.Name x p2) (tC (.ty n)) := pe_bltn hgt hmt hvt rfl hnt hdt
  refine ⟨_, pe_callB call_isi hg hm (by decide +kernel) (pa_cons pe (pa_cons pb pa_nil hs2) hs) (by decide) (by decide) hs hpl, fun H0 σ H G M Q h => ?_⟩
  refine s H0 σ H G M _ ((Res.sat_bind h).mono (fun d hd v1 H1 G1 f1 r1 => ?_) fun _ _ z => z)
  show rIsi X.K [v1, .ty n] H1 Q
  have fin : ∀ (bb : Bool) (t : Value), TyX T.K H1 v1 t → PySem.W.kitOne T.K t (.type n) = some bb → isBT n d = some bb → rIsi X.K [v1, .ty n] H1 Q := fun bb t h1 h2 h3 => by
    unfold isiD at hd
    rw [h3] at hd
    rw [hk]
    exact ⟨v1, .ty n, t, .type n, bb, rfl, .ty n, h1, h2, hd _ _ _ f1 (.bl bb)⟩
  by_cases hscr : ∃ l, d = .scr l
  · obtain ⟨l, rfl⟩ := hscr
    exact hd.elim
  · obtain ⟨tt, ty, ht⟩ := ty_of S f1.s r1 fun l z => hscr ⟨l, z⟩
    simp only [List.mem_cons, List.not_mem_nil, or_false] at hn
    cases d with
    | non => subst ht; refine fin _ _ ty ?_ rfl; rcases hn with rfl | rfl | rfl | rfl | rfl | rfl <;> exact kit_ty (by decide +kernel)
    | bl b => subst ht; refine fin _ _ ty ?_ rfl; rcases hn with rfl | rfl | rfl | rfl | rfl | rfl <;> exact kit_ty (by decide +kernel)
    | int b => subst ht; refine fin _ _ ty ?_ rfl; rcases hn with rfl | rfl | rfl | rfl | rfl | rfl <;> exact kit_ty (by decide +kernel)
    | str b => subst ht; refine fin _ _ ty ?_ rfl; rcases hn with rfl | rfl | rfl | rfl | rfl | rfl <;> exact kit_ty (by decide +kernel)
    | lst b => subst ht; refine fin _ _ ty ?_ rfl; rcases hn with rfl | rfl | rfl | rfl | rfl | rfl <;> exact kit_ty (by decide +kernel)
    | scr b => exact ht.elim
    | tup b => subst ht; refine fin _ _ ty ?_ rfl; rcases hn with rfl | rfl | rfl | rfl | rfl | rfl <;> exact kit_ty (by decide +kernel)
    | obj c ds =>
      obtain ⟨C, hc, rfl⟩ := ht
      exact fin false _ ty (S.tb c C n hc (by simpa using hn)) rfl
/-- isinstance(e, C), a class of the text's own -/
theorem px_isC {cc : Nat} {C : Addr} {x : Str} {p p2 : Pos} (hk : X.K = T.K) (S : KtOk T) (hc : T.ca cc = some C) (hg : Gl X "isinstance") (hm : X.mg "isinstance" = none) (hgt : Gl X x) (hmt : X.mg x = some (.ref C)) (hdt : (x == ("__debug__" : Str)) = false) (he : PX X T W e env m)
    (hs : starEach [e, .Name x p2] X.env = (false, eval e X.env) :: starEach [.Name x p2] X.env := by rfl) (hs2 : starEach [.Name x p2] X.env = (false, eval (.Name x p2) X.env) :: starEach [] X.env := by rfl) (hpl : (backTo pos (starEach [.Name x p2] X.env)).any (·.1) = false := by rfl) :
    PX X T W (.Call (.Name "isinstance" p) [e, .Name x p2] [] pos) env (op1 (isCD T.sub cc) m) := by
  obtain ⟨t, pe, s⟩ := he.ex
  have pb : PE X (.Name x p2) (tC (.ref C)) := pe_glob hgt hmt rfl hdt
  refine ⟨_, pe_callB call_isi hg hm (by decide +kernel) (pa_cons pe (pa_cons pb pa_nil hs2) hs) (by decide) (by decide) hs hpl, fun H0 σ H G M Q h => ?_⟩
  refine s H0 σ H G M _ ((Res.sat_bind h).mono (fun d hd v1 H1 G1 f1 r1 => ?_) fun _ _ z => z)
  show rIsi X.K [v1, .ref C] H1 Q
  have fin : ∀ (bb : Bool) (t : Value), TyX T.K H1 v1 t → PySem.W.kitOne T.K t (.ref C) = some bb → isOwn T.sub cc d = some bb → rIsi X.K [v1, .ref C] H1 Q := fun bb t h1 h2 h3 => by
    unfold isCD at hd
    rw [h3] at hd
    rw [hk]
    exact ⟨v1, .ref C, t, .ref C, bb, rfl, .own C, h1, h2, hd _ _ _ f1 (.bl bb)⟩
  by_cases hscr : ∃ l, d = .scr l
  · obtain ⟨l, rfl⟩ := hscr
    exact hd.elim
  · obtain ⟨tt, ty, ht⟩ := ty_of S f1.s r1 fun l z => hscr ⟨l, z⟩
    cases d with
    | non => subst ht; exact fin _ _ ty (S.bt cc C _ hc (by simp)) rfl
    | bl b => subst ht; exact fin _ _ ty (S.bt cc C _ hc (by simp)) rfl
    | int b => subst ht; exact fin _ _ ty (S.bt cc C _ hc (by simp)) rfl
    | str b => subst ht; exact fin _ _ ty (S.bt cc C _ hc (by simp)) rfl
    | lst b => subst ht; exact fin _ _ ty (S.bt cc C _ hc (by simp)) rfl
    | scr b => exact ht.elim
    | tup b => subst ht; exact fin _ _ ty (S.bt cc C _ hc (by simp)) rfl
    | obj c ds =>
      obtain ⟨C', hc', rfl⟩ := ht
      exact fin _ _ ty (S.sub c cc C' C hc' hc) rfl
end

/-! ### calls -/
section
variable {X : Cx} {CX : CXT} {k : Nat} {f C : Addr} {fd : FuncData} {ps : List Str} {sp : Sp} {E : L2.St → XK} {x m : Str} {p pos apos : Pos} {e o : Expr} {es : List Expr} {ta : TE} {t : TA} {dvs : List V} {ds : List Value}
theorem run_fnD {pins : List (Addr × Obj)} {σ : L2.St} {H : Hp} {s : Shared} {Q : VK} {us : List Value} {vs : List V} {E : XK} {A : Around} (hA : A.frames = X.A.frames) (F : FnOk X.prog X.w X.K X.mg X.base CX k f fd ps sp) (hr : Room k A) (hb : Binds X.K fd ps ds) (hd : Vals dvs ds) (hx : PassesAt CX X σ E)
    (I : Inv X pins σ H s) (r : Vals vs us) (h : sp (vs ++ dvs) H Q E) : wpAny (model X.prog X.w) A (call (.ref f) us) (EP X pins σ Q) X.xe s := by
  have r2 : Vals (vs ++ dvs) (us ++ ds) := r.append hd
  have hl : (us ++ ds).length = ps.length := by rw [← r2.length]; exact F.len _ _ _ _ h
  have e0 : Env0 X.prog X.w X.K X.mg X.base A X.stack s H := by
    have e := I.env0
    exact ⟨by rw [hA]; exact e.frames, e.mod, e.bs, e.bsz, e.funs, e.frf, e.hok, e.bare⟩
  refine wpAny_call (codeAny_mono (F.run A X.stack s H ⟨us, []⟩ (us ++ ds) (vs ++ dvs) Q E hr e0 (hb s us I.kIn hl) r2 h) fun r s' hq => ?_)
  cases r with
  | error e => exact hx pins H s e s' I hq
  | ok fl =>
    cases fl with
    | ret u => exact I.after hq
    | next => exact False.elim hq
    | brk => exact False.elim hq
    | cont => exact False.elim hq
def tCallD (sp : Sp) (dvs : List V) (E : L2.St → XK) (t : TA) : TE := fun σ H Q => t σ H fun vs H1 => sp (vs ++ dvs) H1 Q (E σ)
theorem pe_callD {E : L2.St → XK} (F : FnOk X.prog X.w X.K X.mg X.base CX k f fd ps sp) (hr : Room k X.A) (hg : Gl X x) (hm : X.mg x = some (.ref f)) (hk : PySem.W.keepIn X.K (.ref f) = true) (hb : Binds X.K fd ps ds) (hd : Vals dvs ds) (hx : ∀ σ, PassesAt CX X σ (E σ))
    (ha : PA X (e :: es) t) (hdb : (x == ("__debug__" : Str)) = false := by decide) (he : starEach (e :: es) X.env = (false, eval e X.env) :: starEach es X.env := by rfl) (hpl : (backTo pos (starEach es X.env)).any (·.1) = false := by rfl) :
    PE X (.Call (.Name x p) (e :: es) [] pos) (tCallD sp dvs E t) := by
  refine ⟨fun pins s σ H Q I h => ?_⟩
  refine wpAny_Call_Name_kw (ld_glob I hg hm ?_ hdb)
  refine PySem.W.callWith_K (h₀ := X.base) I.ok.mod.kin hk (thn (ha.run pos pins s σ H _ I h) fun us s1 ⟨vs, H1, I1, r, q⟩ => ⟨I1.kIn, ?_⟩) he hpl
  exact run_fnD rfl F hr hb hd (hx σ) I1 r q
theorem pe_callD0 {E : L2.St → XK} (F : FnOk X.prog X.w X.K X.mg X.base CX k f fd ps sp) (hr : Room k X.A) (hg : Gl X x) (hm : X.mg x = some (.ref f)) (hk : PySem.W.keepIn X.K (.ref f) = true) (hb : Binds X.K fd ps ds) (hd : Vals dvs ds) (hx : ∀ σ, PassesAt CX X σ (E σ))
    (hdb : (x == ("__debug__" : Str)) = false := by decide) : PE X (.Call (.Name x p) [] [] pos) (tCallD sp dvs E tNil) := by
  refine ⟨fun pins s σ H Q I h => ?_⟩
  refine wpAny_Call_Name_kw (ld_glob I hg hm ?_ hdb)
  exact PySem.W.callWith_K0 I.kIn hk (run_fnD (us := []) rfl F hr hb hd (hx σ) I .nil h)
def tMethD (C : Addr) (m : Str) (sp : Sp) (dvs : List V) (E : L2.St → XK) (ta : TE) (t : TA) : TE := fun σ H Q => ta σ H fun x H1 => ∃ a dx fs, x = .ref a ∧ H1 a = some (.ins C dx fs) ∧ fs.lookup m = none ∧
  t σ H1 fun vs H2 => sp (x :: (vs ++ dvs)) H2 Q (E σ)
theorem pe_methD {pl : Sem Bool} {E : L2.St → XK} (he : PE X o ta) (c : Cls X.K C) (hm : Meth X.K C m f) (F : FnOk X.prog X.w X.K X.mg X.base CX k f fd ps sp) (hr : Room k X.A) (hb : Binds X.K fd ps ds) (hd : Vals dvs ds) (hx : ∀ σ, PassesAt CX X σ (E σ)) (ha : PA X (e :: es) t)
    (hst : starEach (e :: es) X.env = (false, eval e X.env) :: starEach es X.env := by rfl) (hpl : (backTo pos (starEach es X.env)).any (·.1) = false := by rfl)
    (ht : eval (.Call (.Attribute o m apos) (e :: es) [] pos) X.env = (do
      let ov ← eval o X.env
      standAt apos.atName
      let (f, first) ← holding [ov] (getMethod ov m pl)
      callWith pos f first (backTo pos (starEach (e :: es) X.env)) (backToKw pos (keywordEach [] X.env))) := by rfl) :
    PE X (.Call (.Attribute o m apos) (e :: es) [] pos) (tMethD C m sp dvs E ta t) := by
  refine ⟨fun pins s σ H Q I h => ?_⟩
  refine PySem.W.methodCall_KW (pl := pl) (thn (he.run pins s σ H _ I h) fun u s1 ⟨x, H1, I1, rx, a, dx, fs, ex, ea, l, q⟩ => ?_) ht
  subst ex
  obtain rfl : u = Value.ref a := rx
  refine getmeth_ok I1 ea c hm l ?_
  refine PySem.W.callWith_K (first := [.ref a]) (h₀ := X.base) I.ok.mod.kin hm.kp (thn (ha.run pos pins s1 σ H1 _ I1 q) fun us s2 ⟨vs, H2, I2, r, q2⟩ => ⟨I2.kIn, ?_⟩) hst hpl
  exact run_fnD (us := .ref a :: us) (vs := .ref a :: vs) rfl F hr hb hd (hx σ) I2 (.cons rfl r) q2
theorem pe_methD0 {pl : Sem Bool} {E : L2.St → XK} (he : PE X o ta) (c : Cls X.K C) (hm : Meth X.K C m f) (F : FnOk X.prog X.w X.K X.mg X.base CX k f fd ps sp) (hr : Room k X.A) (hb : Binds X.K fd ps ds) (hd : Vals dvs ds) (hx : ∀ σ, PassesAt CX X σ (E σ))
    (ht : eval (.Call (.Attribute o m apos) [] [] pos) X.env = (do
      let ov ← eval o X.env
      standAt apos.atName
      let (f, first) ← holding [ov] (getMethod ov m pl)
      callWith pos f first (backTo pos (starEach [] X.env)) (backToKw pos (keywordEach [] X.env))) := by rfl) :
    PE X (.Call (.Attribute o m apos) [] [] pos) (tMethD C m sp dvs E ta tNil) := by
  refine ⟨fun pins s σ H Q I h => ?_⟩
  refine PySem.W.methodCall_KW (pl := pl) (thn (he.run pins s σ H _ I h) fun u s1 ⟨x, H1, I1, rx, a, dx, fs, ex, ea, l, q⟩ => ?_) ht
  subst ex
  obtain rfl : u = Value.ref a := rx
  refine getmeth_ok I1 ea c hm l ?_
  exact PySem.W.callWith_K0 (first := [.ref a]) I1.kIn hm.kp (run_fnD (us := [.ref a]) (vs := [.ref a]) rfl F hr hb hd (hx σ) I1 (.cons rfl .nil) q)
/-- own binary operators: both sides of the class at C -/
def tOwn2 (C : Addr) (sp : Sp) (E : L2.St → XK) (ta tb : TE) : TE := fun σ H Q => ta σ H fun x H1 => tb σ H1 fun y H2 => ∃ a b dx dy fs gs, x = .ref a ∧ y = .ref b ∧ H2 a = some (.ins C dx fs) ∧ H2 b = some (.ins C dy gs) ∧ sp [x, y] H2 Q (E σ)
theorem cmpBack_of {v : V} {u : Value} {s : Shared} {Q : Value → Shared → Prop} (r : RelV v u) (h : Q u s) : PySem.W.CmpBack Q u s := by
  cases v with
  | non => cases (show u = _ from r); exact h
  | bl b => cases (show u = _ from r); exact h
  | int b => obtain ⟨t, rfl⟩ := (show ∃ t, u = Value.int b t from r); exact h
  | str b => obtain ⟨t, rfl⟩ := (show ∃ t, u = Value.str b t from r); exact h
  | byt b => obtain ⟨t, rfl⟩ := (show ∃ t, u = Value.bytes b t from r); exact h
  | flt b => obtain ⟨t, rfl⟩ := (show ∃ t, u = Value.float b t from r); exact h
  | ref b => cases (show u = _ from r); exact h
  | ty b => cases (show u = _ from r); exact h
theorem pe_own2 {op : Operator} {l r : Expr} {tb : TE} {E : L2.St → XK} (hl : PE X l ta) (hr' : PE X r tb) (hc : PySem.W.selfFirst X.K C = true) (hs : PySem.W.findIn X.K (.ref C) (PySem.dunder op.info.2) = some (some (.ref f))) (hf : PySem.W.isFn X.K (.ref f) = true)
    (F : FnOk X.prog X.w X.K X.mg X.base CX k f fd ps sp) (hr : Room k X.A) (hb : Binds X.K fd ps []) (hx : ∀ σ, PassesAt CX X σ (E σ)) : PE X (.BinOp l op r pos) (tOwn2 C sp E ta tb) := by
  refine ⟨fun pins s σ H Q I h => wpAny_BinOp (binT hl hr' I h fun v u s2 x y H2 I2 rx ry q => ?_)⟩
  obtain ⟨a, b, dx, dy, fs, gs, rfl, rfl, ha, hb', q⟩ := q
  cases rx
  cases ry
  obtain ⟨mA, J, _⟩ := ins_get I2.hok ha
  obtain ⟨mB, J', _⟩ := ins_get I2.hok hb'
  obtain ⟨od, J, _⟩ := J.look
  obtain ⟨od', J', _⟩ := J'.look
  obtain ⟨m, hF⟩ := I2.fr
  refine PySem.W.binop_K hF I2.ok.mod.kin J J'.type hc hs hf ?_
  refine thn (run_fnD (us := [.ref a, .ref b]) (vs := [.ref a, .ref b]) (dvs := []) rfl F hr hb .nil (hx σ) I2 (.cons rfl (.cons rfl .nil)) q) fun u s3 hq => ?_
  obtain ⟨w, H3, I3, rw3, q3⟩ := hq
  exact cmpBack_of rw3 ⟨w, H3, I3, rw3, q3⟩
/-- own ==, the left side of the class at C; the right side's type is known -/
def tOwnEq (K : PySem.W.Frag) (C : Addr) (sp : Sp) (E : L2.St → XK) (ta tb : TE) : TE := fun σ H Q => ta σ H fun x H1 => tb σ H1 fun y H2 => ∃ a dx fs t, x = .ref a ∧ H2 a = some (.ins C dx fs) ∧ TyX K H2 y t ∧ PySem.W.notFirst K C t = true ∧ sp [x, y] H2 Q (E σ)
theorem pe_ownEq {l r : Expr} {tb : TE} {E : L2.St → XK} (hl : PE X l ta) (hr' : PE X r tb) (hs : PySem.W.findIn X.K (.ref C) "__eq__" = some (some (.ref f))) (hf : PySem.W.isFn X.K (.ref f) = true)
    (F : FnOk X.prog X.w X.K X.mg X.base CX k f fd ps sp) (hr : Room k X.A) (hb : Binds X.K fd ps []) (hx : ∀ σ, PassesAt CX X σ (E σ)) (hm : behindInMarks .Eq r = false) : PE X (.Compare l [.Eq] [r] pos) (tOwnEq X.K C sp E ta tb) := by
  refine ⟨fun pins s σ H Q I h => wpAny_Compare1 (binT hl hr' I h fun v u s2 x y H2 I2 rx ry q => ?_) hm⟩
  obtain ⟨a, dx, fs, t, rfl, ha, ty, nf, q⟩ := q
  cases rx
  obtain ⟨mA, J, _⟩ := ins_get I2.hok ha
  obtain ⟨od, J, _⟩ := J.look
  obtain ⟨m, hF⟩ := I2.fr
  obtain ⟨P, Z, p, _⟩ := kit_of I2 ry ty
  refine PySem.W.cmp_K (op := .Eq) (tb := t) hr.units0 hF I2.ok.mod.kin J (Z.ty _ _ I2.kIn p) nf hs hf ?_
  refine thn (run_fnD (us := [.ref a, u]) (vs := [.ref a, y]) (dvs := []) rfl F hr hb .nil (hx σ) I2 (.cons rfl (.cons ry .nil)) q) fun u s3 hq => ?_
  obtain ⟨w, H3, I3, rw3, q3⟩ := hq
  exact cmpBack_of rw3 ⟨w, H3, I3, rw3, q3⟩
/-- o(e, ..), o an instance with an own __call__ -/
def tCallI (C : Addr) (sp : Sp) (E : L2.St → XK) (ta : TE) (t : TA) : TE := fun σ H Q => ta σ H fun x H1 => ∃ a dx fs, x = .ref a ∧ H1 a = some (.ins C dx fs) ∧ t σ H1 fun vs H2 => H2 a = some (.ins C dx fs) ∧ sp (x :: vs) H2 Q (E σ)
theorem inst_callWith {A : Around} {E' : Value → Shared → Prop} {s : Shared} {x' C' : Addr} {ox : Obj} {Q : Value → Shared → Prop} {M : Model} {args : List (Bool × Sem Value)} (hplain : (args.any (·.1)) = false) (hd : ox.data = .plain)
    (h : wpAny M A (evalArgs (.ref x') true args []) (fun a s₁ => (∃ od, PySem.W.InstAt s₁.heap x' ox C' od) ∧ wpAny M A (call (.ref x') ([] ++ a.pos) a.kw) Q E' s₁) E' s) : wpAny M A (callWith pos (.ref x') [] args []) Q E' s := by
  unfold callWith
  refine wpAny_bind (wpAny_holding (wpAny_mono h (fun a s₁ h₁ => wpAny_bind (wpAny_standAt ?_)) fun _ _ y => y))
  obtain ⟨⟨od, I⟩, h₂⟩ := h₁
  have L := PySem.W.kco_keeper (M := M) I hd
  simp only [hplain]
  refine wpAny_bind (L.here ?_)
  have tail : ∀ {t : Sem Value}, wpAny M A t Q E' s₁ → wpAny M A (t >>= fun r => holding [r] point >>= fun _ => pure r) Q E' s₁ :=
    fun ht => wpAny_bind (wpAny_mono ht (fun r s₂ hr => wpAny_bind (wpAny_holding (wpAny_point (wpAny_pure hr)))) fun _ _ y => y)
  exact tail (wpAny_operateT h₂)
theorem pe_callI {E : L2.St → XK} (ho : PE X (.Name x p) ta) (ha : PA X (e :: es) t) (hs : PySem.W.findIn X.K (.ref C) "__call__" = some (some (.ref f))) (hf : PySem.W.isFn X.K (.ref f) = true) (hfn : PySem.W.fnIn X.K f = true)
    (F : FnOk X.prog X.w X.K X.mg X.base CX k f fd ps sp) (hr : Room (k + 1) X.A) (hb : Binds X.K fd ps []) (hx : ∀ σ, PassesAt CX X σ (E σ))
    (he : starEach (e :: es) X.env = (false, eval e X.env) :: starEach es X.env := by rfl) (hpl : (backTo pos (starEach es X.env)).any (·.1) = false := by rfl) :
    PE X (.Call (.Name x p) (e :: es) [] pos) (tCallI C sp E ta t) := by
  refine ⟨fun pins s σ H Q I h => ?_⟩
  refine wpAny_Call_Name_kw (thn (ho.run pins s σ H _ I h) fun u s1 ⟨y, H1, I1, ry, a, dx, fs, ey, ea, q1⟩ => ?_)
  subst ey
  obtain rfl : u = Value.ref a := ry
  rw [he]
  refine inst_callWith (ox := PySem.W.instObj C dx) (C' := C) (by show (false || (backTo pos (starEach es X.env)).any (·.1)) = false; rw [hpl]; rfl) rfl (PySem.Calls.evalArgs_plain ?_)
  have ha' := ha.run pos pins s1 σ H1 _ I1 q1
  rw [he] at ha'
  refine thn ha' fun us s2 ⟨vs, H2, I2, r, ea2, q2⟩ => ?_
  obtain ⟨mA, J, _⟩ := ins_get I2.hok ea2
  obtain ⟨od, J, _⟩ := J.look
  refine ⟨⟨_, J⟩, ?_⟩
  have r2 : Vals (.ref a :: vs) (.ref a :: us) := .cons rfl r
  have hl := F.len _ _ _ _ q2
  have b := hb s2 (.ref a :: us) I2.kIn (by rw [List.append_nil, ← r2.length]; exact hl)
  rw [List.append_nil] at b
  have e0 : Env0 X.prog X.w X.K X.mg X.base X.A.in1 X.stack s2 H2 := I2.env0.in1
  refine wpAny_call (PySem.W.kco_code I2.kIn J rfl hs hf hfn (codeAny_mono (F.run X.A X.stack s2 H2 ⟨.ref a :: us, []⟩ (.ref a :: us) (.ref a :: vs) Q (E σ) (hr.mono (Nat.le_succ k)) I2.env0 b r2 q2) fun r s' hq => ?_))
  cases r with
  | error e => exact hx σ pins H2 s2 e s' I2 hq
  | ok fl =>
    cases fl with
    | ret u => exact I2.after hq
    | next => exact False.elim hq
    | brk => exact False.elim hq
    | cont => exact False.elim hq
end
end Px

namespace Px
open PySem PySem.Spec PyProof.Rows L2

/-! ### calls of the text's own defs, by mirrors -/
def callR (m : List D → Res D) (dd : List D) (ms : Res (List D)) : Res D := ms.bind fun l => m (l ++ dd)
@[simp] theorem callR_ok (m : List D → Res D) (dd l : List D) : callR m dd (.ok l) = m (l ++ dd) := id rfl
def methR (c : Nat) (m : List D → Res D) (dd : List D) (mo : Res D) (ms : Res (List D)) : Res D := mo.bind fun o => match o with
  | .obj c' _ => if c' = c then ms.bind fun l => m (o :: (l ++ dd)) else .bad
  | _ => .bad
def makeR (c : Nat) (m : List D → Res (List D)) (dd : List D) (ms : Res (List D)) : Res D := ms.bind fun l => (m (l ++ dd)).bind fun fs => .ok (.obj c fs)
def propR (c : Nat) (m : List D → Res D) (mo : Res D) : Res D := mo.bind fun o => match o with
  | .obj c' _ => if c' = c then noErr (m [o]) else .bad
  | _ => .bad
def own2R (c : Nat) (m : List D → Res D) (ma mb : Res D) : Res D := ma.bind fun a => mb.bind fun b => match a, b with
  | .obj c1 _, .obj c2 _ => if c1 = c ∧ c2 = c then m [a, b] else .bad
  | _, _ => .bad
/-- own ==: the left side an object of class c; the right side anything known (of another class: not below it) -/
def ownEqR (sub : Nat → Nat → Bool) (c : Nat) (m : List D → Res D) (ma mb : Res D) : Res D := ma.bind fun a => mb.bind fun b => match a with
  | .obj c1 _ => if c1 = c then (match b with
      | .obj c2 _ => if c2 = c ∨ sub c2 c = false then m [a, b] else .bad
      | .scr _ => .bad
      | _ => m [a, b]) else .bad
  | _ => .bad
def callI (c : Nat) (m : List D → Res D) (mo : Res D) (ms : Res (List D)) : Res D := mo.bind fun o => match o with
  | .obj c' _ => if c' = c then ms.bind fun l => m (o :: l) else .bad
  | _ => .bad

section
variable {X : Cx} {T : Kt} {W : WX} {k k' : Nat} {env : Env'} {a b c e o : Expr} {es : List Expr} {mo ma mb m : Res D} {ms : Res (List D)} {pos : Pos} {mm : List D → Res D} {mi : List D → Res (List D)} {f C : Addr} {fd : FuncData} {ps : List Str} {x : Str} {p apos : Pos} {dvs : List V} {ds : List Value} {dd : List D} {n : Nat} {cc : Nat}

theorem rep_obj {G : Hp} {v : V} {c : Nat} {l : List D} (r : Rep T G v (.obj c l)) : ∃ a C dx ns vs, v = .ref a ∧ T.ca c = some C ∧ G a = some (.ins C dx (ns.zip vs)) ∧ ns = T.at_ c := by
  cases r with
  | obj hc hg hn hl rr => exact ⟨_, _, _, _, _, rfl, hc, hg, hn⟩
theorem pure_of {G H : Hp} {σ : L2.St} {vs : List V} {l : List D} {Q : VK} {E : XK} (s : Same G H) (r : Reps T G vs l) (hn : ∀ ds, ds.length ≠ n → mm ds = .bad) (h : (mm l).sat (PQ T G H Q) (EX T E G H)) : pureSp T n mm vs H Q E := by
  refine ⟨G, l, s, r, ?_, h⟩
  rcases Decidable.em (l.length = n) with z | z
  · exact z
  · rw [hn l z] at h; exact h.elim
theorem px_call (Cc : Ctx X T W k') (F : FnOk X.prog X.w X.K X.mg X.base (L2.CX X.prog X.w) k f fd ps (pureSp T n mm)) (hn : ∀ ds, ds.length ≠ n → mm ds = .bad) (hk : k ≤ k') (hg : Gl X x) (hm : X.mg x = some (.ref f)) (hkp : PySem.W.keepIn X.K (.ref f) = true) (hb : L2.Binds X.K fd ps ds) (hd : Vals dvs ds) (rd : ∀ G, Reps T G dvs dd)
    (ha : PAX X T W (e :: es) env ms) (hdb : (x == ("__debug__" : Str)) = false := by decide) (he : starEach (e :: es) X.env = (false, eval e X.env) :: starEach es X.env := by rfl) (hpl : (backTo pos (starEach es X.env)).any (·.1) = false := by rfl) :
    PX X T W (.Call (.Name x p) (e :: es) [] pos) env (callR mm dd ms) := by
  obtain ⟨t, pa, sa⟩ := ha.ex
  refine ⟨_, pe_callD F (Cc.room.mono hk) hg hm hkp hb hd Cc.pass pa hdb he hpl, fun H0 σ H G M Q h => ?_⟩
  refine sa H0 σ H G M _ ((Res.sat_bind h).mono (fun l hl vs H1 G1 f1 r1 => ?_) fun _ _ z => z)
  exact pure_of (σ := σ) f1.s (r1.append (rd G1)) hn (hl.mono (fun d z => z.fr f1) fun _ _ z => z.fr f1)
theorem px_call0 (Cc : Ctx X T W k') (F : FnOk X.prog X.w X.K X.mg X.base (L2.CX X.prog X.w) k f fd ps (pureSp T n mm)) (hn : ∀ ds, ds.length ≠ n → mm ds = .bad) (hk : k ≤ k') (hg : Gl X x) (hm : X.mg x = some (.ref f)) (hkp : PySem.W.keepIn X.K (.ref f) = true) (hb : L2.Binds X.K fd ps ds) (hd : Vals dvs ds) (rd : ∀ G, Reps T G dvs dd)
    (hdb : (x == ("__debug__" : Str)) = false := by decide) : PX X T W (.Call (.Name x p) [] [] pos) env (callR mm dd (.ok [])) := by
  refine ⟨_, pe_callD0 F (Cc.room.mono hk) hg hm hkp hb hd Cc.pass hdb, fun H0 σ H G M Q h => ?_⟩
  exact pure_of (σ := σ) M.gh (rd G) hn h
theorem px_make (Cc : Ctx X T W k') (M0 : Mk X.K C f) (hc : T.ca cc = some C) (F : FnOk X.prog X.w X.K X.mg X.base (L2.CX X.prog X.w) k f fd ps (initSp T n cc mi)) (hn : ∀ ds, ds.length + 1 ≠ n → mi ds = .bad) (hk : k + 1 ≤ k') (hg : Gl X x) (hm : X.mg x = some (.ref C)) (hb : L2.Binds X.K fd ps ds) (hd : Vals dvs ds) (rd : ∀ G, Reps T G dvs dd)
    {t : TA} (pm : ∀ E : L2.St → XK, (∀ σ, PassesAt (L2.CX X.prog X.w) X σ (E σ)) → PE X e (fun σ H Q => t σ H fun vs H1 => ∀ x dx, H1 x = none → H1 dx = none → dx ≠ x → initSp T n cc mi (.ref x :: (vs ++ dvs)) (upd (upd H1 dx (.own x)) x (.ins C dx [])) (fun v H2 => v = .non ∧ Q (.ref x) H2) (E σ))) (sa : SA T W t env ms) :
    PX X T W e env (makeR cc mi dd ms) := by
  refine ⟨_, pm (WE W) Cc.pass, fun H0 σ H G M Q h => ?_⟩
  refine sa H0 σ H G M _ ((Res.sat_bind h).mono (fun l hl vs H1 G1 f1 r1 x dx nx ndx hne => ?_) fun _ _ z => z)
  have hl' := Res.sat_bind hl
  have hlen : (l ++ dd).length + 1 = n := by
    rcases Decidable.em ((l ++ dd).length + 1 = n) with z | z
    · exact z
    · rw [hn _ z] at hl'; exact hl'.elim
  have gx : G1 x = none := f1.s.free nx
  have s1 : Same H1 (upd (upd H1 dx (.own x)) x (.ins C dx [])) := (same_upd ndx).trans (same_upd (by rw [upd_ne (Ne.symm hne)]; exact nx))
  have lift : ∀ {G' H'}, Fr G1 (erase (upd (upd H1 dx (.own x)) x (.ins C dx [])) x) G' H' → Fr G1 H1 G' H' := fun {G' H'} ff => by
    have key : ∀ b o, H1 b = some o → erase (upd (upd H1 dx (.own x)) x (.ins C dx [])) x b = some o := fun b o e => by
      have n1 : b ≠ x := ne_of_none e nx
      unfold erase
      rw [if_neg n1]
      exact s1 b o e
    refine ⟨fun b o e => ff.h b o (key b o e), ff.g, ff.s, fun b o e => ?_⟩
    rcases ff.n b o e with z | z
    · exact .inl z
    · refine .inr ?_
      cases q : H1 b with
      | none => rfl
      | some u => rw [key b u q] at z; cases z
  refine ⟨G1, l ++ dd, x, C, dx, vs ++ dvs, rfl, hc, upd_same, gx, f1.s.trans s1, r1.append (rd G1), hlen, hl'.mono (fun fs hfs H' G' ff rr => ⟨rfl, hfs _ _ _ (f1.trans (lift ff)) rr⟩) fun c vs z C' d' ns ws H' G' h1 h2 h3 ff h5 h6 => z C' d' ns ws H' G' h1 h2 h3 (f1.trans (lift ff)) h5 h6⟩
theorem run_makeD {CX : CXT} {sp : Sp} {pins : List (Addr × Obj)} {σ : L2.St} {H : Hp} {s : Shared} {Q : VK} {us : List Value} {vs : List V} {E : XK} (M : Mk X.K C f) (F : FnOk X.prog X.w X.K X.mg X.base CX k f fd ps sp) (hr : Room (k + 1) X.A) (hb : L2.Binds X.K fd ps ds) (hd : Vals dvs ds)
    (hx : PassesAt CX X σ E) (I : L2.Inv X pins σ H s) (r : Vals vs us)
    (h : ∀ x dx, H x = none → H dx = none → dx ≠ x → sp (.ref x :: (vs ++ dvs)) (upd (upd H dx (.own x)) x (.ins C dx [])) (fun v H2 => v = .non ∧ Q (.ref x) H2) E) :
    wpAny (model X.prog X.w) X.A (call (.ref C) us) (EP X pins σ Q) X.xe s := by
  have hq := h (s.heap.objs.size + 1) s.heap.objs.size (I.hok.fresh (Nat.le_succ _)) (I.hok.fresh (Nat.le_refl _)) (Nat.ne_of_lt (Nat.lt_succ_self _))
  have I2 := Inv.made (C := C) I
  have r2 : Vals (V.ref (s.heap.objs.size + 1) :: (vs ++ dvs)) (Value.ref (s.heap.objs.size + 1) :: (us ++ ds)) := .cons rfl (r.append hd)
  have hl : (Value.ref (s.heap.objs.size + 1) :: us ++ ds).length = ps.length := by
    have e := r2.length
    rw [F.len _ _ _ _ hq] at e
    exact e.symm
  refine wpAny_call (make_map (f := f) I.kIn M.makes M.init (beq_iff_eq.mp M.fn) (codeAny_mono (F.run _ X.stack _ _ ⟨Value.ref (s.heap.objs.size + 1) :: us, []⟩ (Value.ref (s.heap.objs.size + 1) :: (us ++ ds)) _ _ E (hr.make C us [])
    (I2.env0.make C us []) (hb _ (Value.ref (s.heap.objs.size + 1) :: us) I2.kIn hl) r2 hq) fun r s' hq' => ?_))
  cases r with
  | error e => exact hx pins _ _ e s' I2 hq'
  | ok fl =>
    cases fl with
    | ret u =>
      obtain ⟨v, H', I3, rv, ev, q3⟩ := I2.after hq'
      subst ev
      exact ⟨rv, ⟨V.ref (s.heap.objs.size + 1), H', I3, rfl, q3⟩⟩
    | next => exact False.elim hq'
    | brk => exact False.elim hq'
    | cont => exact False.elim hq'
theorem px_makeN (Cc : Ctx X T W k') (M0 : Mk X.K C f) (hc : T.ca cc = some C) (F : FnOk X.prog X.w X.K X.mg X.base (L2.CX X.prog X.w) k f fd ps (initSp T n cc mi)) (hn : ∀ ds, ds.length + 1 ≠ n → mi ds = .bad) (hk : k + 1 ≤ k') (hg : Gl X x) (hm : X.mg x = some (.ref C)) (hb : L2.Binds X.K fd ps ds) (hd : Vals dvs ds) (rd : ∀ G, Reps T G dvs dd)
    (ha : PAX X T W (e :: es) env ms) (hdb : (x == ("__debug__" : Str)) = false := by decide) (he : starEach (e :: es) X.env = (false, eval e X.env) :: starEach es X.env := by rfl) (hpl : (backTo pos (starEach es X.env)).any (·.1) = false := by rfl) :
    PX X T W (.Call (.Name x p) (e :: es) [] pos) env (makeR cc mi dd ms) := by
  obtain ⟨t, pa, sa⟩ := ha.ex
  refine px_make Cc M0 hc F hn hk hg hm hb hd rd (fun E hx => ⟨fun pins s σ H Q I h => ?_⟩) sa
  refine wpAny_Call_Name_kw (ld_glob I hg hm ?_ hdb)
  refine PySem.W.callWith_K (h₀ := X.base) I.ok.mod.kin M0.kp (thn (pa.run pos pins s σ H _ I h) fun us s1 ⟨vs, H1, I1, r, q⟩ => ⟨I1.kIn, ?_⟩) he hpl
  exact run_makeD M0 F (Cc.room.mono hk) hb hd (hx σ) I1 r q
theorem px_make0 (Cc : Ctx X T W k') (M0 : Mk X.K C f) (hc : T.ca cc = some C) (F : FnOk X.prog X.w X.K X.mg X.base (L2.CX X.prog X.w) k f fd ps (initSp T n cc mi)) (hn : ∀ ds, ds.length + 1 ≠ n → mi ds = .bad) (hk : k + 1 ≤ k') (hg : Gl X x) (hm : X.mg x = some (.ref C)) (hb : L2.Binds X.K fd ps ds) (hd : Vals dvs ds) (rd : ∀ G, Reps T G dvs dd)
    (hdb : (x == ("__debug__" : Str)) = false := by decide) : PX X T W (.Call (.Name x p) [] [] pos) env (makeR cc mi dd (.ok [])) := by
  refine px_make Cc M0 hc F hn hk hg hm hb hd rd (t := tNil) (fun E hx => ⟨fun pins s σ H Q I h => ?_⟩) (fun H0 σ H G M Q h => h [] H G (Fr.refl M.gh) .nil)
  refine wpAny_Call_Name_kw (ld_glob I hg hm ?_ hdb)
  exact PySem.W.callWith_K0 I.kIn M0.kp (run_makeD (us := []) M0 F (Cc.room.mono hk) hb hd (hx σ) I .nil h)
theorem px_meth {m' : Str} {pl : Sem Bool} (Cc : Ctx X T W k') (S : KtOk T) (hM : Meth X.K C m' f) (hc : T.ca cc = some C) (hno : (T.at_ cc).all (fun n => m' != n) = true) (F : FnOk X.prog X.w X.K X.mg X.base (L2.CX X.prog X.w) k f fd ps (pureSp T n mm)) (hn : ∀ ds, ds.length ≠ n → mm ds = .bad) (hk : k ≤ k') (hb : L2.Binds X.K fd ps ds) (hd : Vals dvs ds) (rd : ∀ G, Reps T G dvs dd)
    (ho : PX X T W o env mo) (ha : PAX X T W (e :: es) env ms) (hst : starEach (e :: es) X.env = (false, eval e X.env) :: starEach es X.env := by rfl) (hpl : (backTo pos (starEach es X.env)).any (·.1) = false := by rfl)
    (ht : eval (.Call (.Attribute o m' apos) (e :: es) [] pos) X.env = (do
      let ov ← eval o X.env
      standAt apos.atName
      let (f, first) ← holding [ov] (getMethod ov m' pl)
      callWith pos f first (backTo pos (starEach (e :: es) X.env)) (backToKw pos (keywordEach [] X.env))) := by rfl) :
    PX X T W (.Call (.Attribute o m' apos) (e :: es) [] pos) env (methR cc mm dd mo ms) := by
  obtain ⟨to, po, so⟩ := ho.ex
  obtain ⟨t, pa, sa⟩ := ha.ex
  refine ⟨_, pe_methD po (by rw [Cc.kk]; exact S.cls cc C hc) hM F (Cc.room.mono hk) hb hd Cc.pass pa hst hpl ht, fun H0 σ H G M Q h => ?_⟩
  refine so H0 σ H G M _ ((Res.sat_bind h).mono (fun d hd' v1 H1 G1 f1 r1 => ?_) fun _ _ z => z)
  have r1' := r1
  cases d <;> try exact hd'.elim
  · rename_i cc' l'
    by_cases e1 : cc' = cc
    · subst e1
      obtain ⟨aa, C', dx, ns, vs', rfl, hc', hg, hns⟩ := rep_obj r1
      rw [hc] at hc'
      cases hc'
      simp only [if_true] at hd'
      refine ⟨aa, dx, _, rfl, f1.s _ _ hg, by rw [hns]; exact lookup_zip_none hno, ?_⟩
      refine sa H0 σ H1 G1 (M.fr f1) _ ((Res.sat_bind hd').mono (fun l hl2 ws H2 G2 f2 r2 => ?_) fun _ _ z => z.fr f1)
      have f12 := f1.trans f2
      exact pure_of (σ := σ) f2.s (.cons (r1'.mono f2.g) (r2.append (rd G2))) hn (hl2.mono (fun d z => z.fr f12) fun _ _ z => z.fr f12)
    · simp only [if_neg e1] at hd'; exact hd'.elim
theorem px_meth0 {m' : Str} {pl : Sem Bool} (Cc : Ctx X T W k') (S : KtOk T) (hM : Meth X.K C m' f) (hc : T.ca cc = some C) (hno : (T.at_ cc).all (fun n => m' != n) = true) (F : FnOk X.prog X.w X.K X.mg X.base (L2.CX X.prog X.w) k f fd ps (pureSp T n mm)) (hn : ∀ ds, ds.length ≠ n → mm ds = .bad) (hk : k ≤ k') (hb : L2.Binds X.K fd ps ds) (hd : Vals dvs ds) (rd : ∀ G, Reps T G dvs dd)
    (ho : PX X T W o env mo)
    (ht : eval (.Call (.Attribute o m' apos) [] [] pos) X.env = (do
      let ov ← eval o X.env
      standAt apos.atName
      let (f, first) ← holding [ov] (getMethod ov m' pl)
      callWith pos f first (backTo pos (starEach [] X.env)) (backToKw pos (keywordEach [] X.env))) := by rfl) :
    PX X T W (.Call (.Attribute o m' apos) [] [] pos) env (methR cc mm dd mo (.ok [])) := by
  obtain ⟨to, po, so⟩ := ho.ex
  refine ⟨_, pe_methD0 po (by rw [Cc.kk]; exact S.cls cc C hc) hM F (Cc.room.mono hk) hb hd Cc.pass ht, fun H0 σ H G M Q h => ?_⟩
  refine so H0 σ H G M _ ((Res.sat_bind h).mono (fun d hd' v1 H1 G1 f1 r1 => ?_) fun _ _ z => z)
  have r1' := r1
  cases d <;> try exact hd'.elim
  · rename_i cc' l'
    by_cases e1 : cc' = cc
    · subst e1
      obtain ⟨aa, C', dx, ns, vs', rfl, hc', hg, hns⟩ := rep_obj r1
      rw [hc] at hc'
      cases hc'
      simp only [if_true] at hd'
      refine ⟨aa, dx, _, rfl, f1.s _ _ hg, by rw [hns]; exact lookup_zip_none hno, ?_⟩
      exact pure_of (σ := σ) f1.s (.cons r1' (rd G1)) hn (Res.sat.mono hd' (fun d z => z.fr f1) fun _ _ z => z.fr f1)
    · simp only [if_neg e1] at hd'; exact hd'.elim
theorem px_prop {f' : Str} {pp : Addr} (Cc : Ctx X T W k') (S : KtOk T) (hp : PropOf X.K C f' pp f) (hc : T.ca cc = some C) (F : FnOk X.prog X.w X.K X.mg X.base (L2.CX X.prog X.w) k f fd ps (pureSp T n mm)) (hn : ∀ ds, ds.length ≠ n → mm ds = .bad) (hk : k + 1 ≤ k') (hb : L2.Binds X.K fd ps [])
    (ho : PX X T W o env mo) (hab : attributeBase o f' X.env (eval o X.env) = eval o X.env) : PX X T W (.Attribute o f' pos) env (propR cc mm mo) := by
  obtain ⟨to, po, so⟩ := ho.ex
  refine ⟨_, pe_prop po (by rw [Cc.kk]; exact S.cls cc C hc) hp F (Cc.room.mono hk) hb .nil passL hab, fun H0 σ H G M Q h => ?_⟩
  refine so H0 σ H G M _ ((Res.sat_bind h).mono (fun d hd' v1 H1 G1 f1 r1 => ?_) fun _ _ z => z)
  have r1' := r1
  cases d <;> try exact hd'.elim
  · rename_i cc' l'
    by_cases e1 : cc' = cc
    · subst e1
      obtain ⟨aa, C', dx, ns, vs', rfl, hc', hg, hns⟩ := rep_obj r1
      rw [hc] at hc'
      cases hc'
      simp only [if_true] at hd'
      refine ⟨aa, dx, _, rfl, f1.s _ _ hg, ?_⟩
      exact pure_of (σ := σ) f1.s (.cons r1' .nil) hn (noErr_sat (Res.sat.mono hd' (fun d z => z.fr f1) (E' := fun _ _ => True) fun _ _ _ => trivial))
    · simp only [if_neg e1] at hd'; exact hd'.elim
theorem px_own2 {op : Operator} (Cc : Ctx X T W k') (hsf : PySem.W.selfFirst X.K C = true) (hs : PySem.W.findIn X.K (.ref C) (PySem.dunder op.info.2) = some (some (.ref f))) (hf : PySem.W.isFn X.K (.ref f) = true) (hc : T.ca cc = some C)
    (F : FnOk X.prog X.w X.K X.mg X.base (L2.CX X.prog X.w) k f fd ps (pureSp T n mm)) (hn : ∀ ds, ds.length ≠ n → mm ds = .bad) (hk : k ≤ k') (hb : L2.Binds X.K fd ps []) (ha : PX X T W a env ma) (hb' : PX X T W b env mb) : PX X T W (.BinOp a op b pos) env (own2R cc mm ma mb) := by
  obtain ⟨ta, pa, sa⟩ := ha.ex
  obtain ⟨tb, pb, sb⟩ := hb'.ex
  refine ⟨_, pe_own2 pa pb hsf hs hf F (Cc.room.mono hk) hb Cc.pass, fun H0 σ H G M Q h => ?_⟩
  refine sa H0 σ H G M _ ((Res.sat_bind h).mono (fun d1 hd1 v1 H1 G1 f1 r1 => ?_) fun _ _ z => z)
  refine sb H0 σ H1 G1 (M.fr f1) _ ((Res.sat_bind hd1).mono (fun d2 hd2 v2 H2 G2 f2 r2 => ?_) fun _ _ z => z.fr f1)
  have f12 := f1.trans f2
  have r1' := r1.mono f2.g
  have r2' := r2
  cases d1 <;> try exact hd2.elim
  cases d2 <;> try exact hd2.elim
  rename_i c1 l1 c2 l2
  by_cases e1 : c1 = cc ∧ c2 = cc
  · obtain ⟨rfl, rfl⟩ := e1
    simp only [and_self, if_true] at hd2
    have go := pure_of (σ := σ) (E := WE W σ) f2.s (.cons r1' (.cons r2' .nil)) hn (hd2.mono (fun d z => z.fr f12) fun _ _ z => z.fr f12)
    cases r1' with
    | obj hc1 hg1 hn1 hl1 rr1 => cases r2' with
      | obj hc2 hg2 hn2 hl2 rr2 =>
        rw [hc] at hc1 hc2
        cases hc1
        cases hc2
        exact ⟨_, _, _, _, _, _, rfl, rfl, f2.s _ _ hg1, f2.s _ _ hg2, go⟩
  · simp only [if_neg e1] at hd2; exact hd2.elim
theorem px_ownEq (Cc : Ctx X T W k') (S : KtOk T) (hs : PySem.W.findIn X.K (.ref C) "__eq__" = some (some (.ref f))) (hf : PySem.W.isFn X.K (.ref f) = true) (hc : T.ca cc = some C) (hnf : ∀ n ∈ ["NoneType", "bool", "int", "str", "list", "tuple", "dict"], PySem.W.notFirst T.K C (.type n) = true)
    (hnc : ∀ d E, T.ca d = some E → d = cc ∨ T.sub d cc = false → PySem.W.notFirst T.K C (.ref E) = true)
    (F : FnOk X.prog X.w X.K X.mg X.base (L2.CX X.prog X.w) k f fd ps (pureSp T n mm)) (hn : ∀ ds, ds.length ≠ n → mm ds = .bad) (hk : k ≤ k') (hb : L2.Binds X.K fd ps []) (ha : PX X T W a env ma) (hb' : PX X T W b env mb) (hm : behindInMarks .Eq b = false) : PX X T W (.Compare a [.Eq] [b] pos) env (ownEqR T.sub cc mm ma mb) := by
  obtain ⟨ta, pa, sa⟩ := ha.ex
  obtain ⟨tb, pb, sb⟩ := hb'.ex
  refine ⟨_, pe_ownEq pa pb hs hf F (Cc.room.mono hk) hb Cc.pass hm, fun H0 σ H G M Q h => ?_⟩
  refine sa H0 σ H G M _ ((Res.sat_bind h).mono (fun d1 hd1 v1 H1 G1 f1 r1 => ?_) fun _ _ z => z)
  refine sb H0 σ H1 G1 (M.fr f1) _ ((Res.sat_bind hd1).mono (fun d2 hd2 v2 H2 G2 f2 r2 => ?_) fun _ _ z => z.fr f1)
  have f12 := f1.trans f2
  have r1' := r1.mono f2.g
  cases d1 <;> try exact hd2.elim
  rename_i c1 l1
  by_cases e1 : c1 = cc
  · subst e1
    simp only [if_true] at hd2
    have hscr : ∀ l, d2 ≠ .scr l := fun l z => by subst z; exact hd2.elim
    obtain ⟨tt, ty, ht⟩ := ty_of S f2.s r2 hscr
    have key : (mm [.obj c1 l1, d2]).sat (PQ T G2 H2 Q) (EX T (WE W σ) G2 H2) → PySem.W.notFirst T.K C tt = true → ∃ a dx fs t, v1 = .ref a ∧ H2 a = some (.ins C dx fs) ∧ TyX X.K H2 v2 t ∧ PySem.W.notFirst X.K C t = true ∧ pureSp T n mm [v1, v2] H2 Q (WE W σ) := fun z nf => by
      have go := pure_of (σ := σ) f2.s (.cons r1' (.cons r2 .nil)) hn z
      cases r1' with
      | obj hc1 hg1 hn1 hl1 rr1 =>
        rw [hc] at hc1
        cases hc1
        rw [Cc.kk]
        exact ⟨_, _, _, tt, rfl, f2.s _ _ hg1, ty, nf, go⟩
    have lift : ∀ {z : Res D}, z.sat (PQ T G H Q) (EX T (WE W σ) G H) → z.sat (PQ T G2 H2 Q) (EX T (WE W σ) G2 H2) := fun z => z.mono (fun d z => z.fr f12) fun _ _ z => z.fr f12
    cases d2 with
    | non => subst ht; exact key (lift hd2) (hnf _ (by simp))
    | bl b => subst ht; exact key (lift hd2) (hnf _ (by simp))
    | int b => subst ht; exact key (lift hd2) (hnf _ (by simp))
    | str b => subst ht; exact key (lift hd2) (hnf _ (by simp))
    | lst b => subst ht; exact key (lift hd2) (hnf _ (by simp))
    | scr b => exact ht.elim
    | tup b => subst ht; exact key (lift hd2) (hnf _ (by simp))
    | obj c2 l2 =>
      obtain ⟨C', hc', rfl⟩ := ht
      by_cases e2 : c2 = c1 ∨ T.sub c2 c1 = false
      · simp only [if_pos e2] at hd2
        exact key (lift hd2) (hnc _ _ hc' e2)
      · simp only [if_neg e2] at hd2; exact hd2.elim
  · simp only [if_neg e1] at hd2; exact hd2.elim
theorem px_callI (Cc : Ctx X T W k') (hs : PySem.W.findIn X.K (.ref C) "__call__" = some (some (.ref f))) (hf : PySem.W.isFn X.K (.ref f) = true) (hfn : PySem.W.fnIn X.K f = true) (hc : T.ca cc = some C)
    (F : FnOk X.prog X.w X.K X.mg X.base (L2.CX X.prog X.w) k f fd ps (pureSp T n mm)) (hn : ∀ ds, ds.length ≠ n → mm ds = .bad) (hk : k + 1 ≤ k') (hb : L2.Binds X.K fd ps []) (ho : PX X T W (.Name x p) env mo) (ha : PAX X T W (e :: es) env ms)
    (he : starEach (e :: es) X.env = (false, eval e X.env) :: starEach es X.env := by rfl) (hpl : (backTo pos (starEach es X.env)).any (·.1) = false := by rfl) : PX X T W (.Call (.Name x p) (e :: es) [] pos) env (callI cc mm mo ms) := by
  obtain ⟨to, po, so⟩ := ho.ex
  obtain ⟨t, pa, sa⟩ := ha.ex
  refine ⟨_, pe_callI po pa hs hf hfn F (Cc.room.mono hk) hb Cc.pass he hpl, fun H0 σ H G M Q h => ?_⟩
  refine so H0 σ H G M _ ((Res.sat_bind h).mono (fun d hd' v1 H1 G1 f1 r1 => ?_) fun _ _ z => z)
  have r1' := r1
  cases d <;> try exact hd'.elim
  · rename_i cc' l'
    by_cases e1 : cc' = cc
    · subst e1
      obtain ⟨aa, C', dx, ns, vs', rfl, hc', hg, hns⟩ := rep_obj r1
      rw [hc] at hc'
      cases hc'
      simp only [if_true] at hd'
      refine ⟨aa, dx, _, rfl, f1.s _ _ hg, ?_⟩
      refine sa H0 σ H1 G1 (M.fr f1) _ ((Res.sat_bind hd').mono (fun l hl2 ws H2 G2 f2 r2 => ?_) fun _ _ z => z.fr f1)
      have f12 := f1.trans f2
      exact ⟨f2.h _ _ (f1.s _ _ hg), pure_of (σ := σ) f2.s (.cons (r1'.mono f2.g) r2) hn (hl2.mono (fun d z => z.fr f12) fun _ _ z => z.fr f12)⟩
    · simp only [if_neg e1] at hd'; exact hd'.elim
end
/-- self.f = e in an __init__ -/
theorem pb_self {X : Cx} {T : Kt} {W : WX} {x : Xk} {env : Env'} {e : Expr} {me : Res D} {st : Stmt} {rest : List Stmt} {O L S : Type} {ι : O → Fl L S} {el : L → Env'} {eo : S → Env'} (i : Nat) {a : Addr} {c : Nat} {ds : List D} {f : Str} {k : D → Res O} (hk : X.K = T.K) (Sk : KtOk T) (hi : env[i]? = some (some (.ins a c ds))) (hf : (T.at_ c)[ds.length]? = some f) (hfr : ((T.at_ c).take ds.length).all (fun n => f != n) = true) (h1000 : ds.length < 1000)
    (he : PX X T W e env me) (hpe : ∀ te, PE X e te → PS X st (sFld X.K (tVar i) te f)) (hr : ∀ d, PBX X T W x rest (env.set i (some (.ins a c (ds ++ [d])))) (k d) ι el eo) :
    PBX X T W x (st :: rest) env (me.bind k) ι el eo := by
  obtain ⟨te, pe, se⟩ := he.ex
  obtain ⟨u, pu, su⟩ := PBX.all hr
  refine ⟨_, pss_cons (hpe te pe) pu, fun G0 H0 σ H G F M Dn nx hx h => ?_⟩
  refine se H0 σ H G M _ ((sat_ex F (Res.sat_bind h)).mono (fun d hd v1 H1 G1 f1 r1 => ?_) fun _ _ z => z)
  have M1 := M.fr f1
  obtain ⟨v, s1, C, dx, vs, rfl, hc, ha, hle, ga, h0, r⟩ := M1.sl i _ hi
  have hlt : ds.length < (T.at_ c).length := (List.getElem?_eq_some_iff.mp hf).1
  have hvl : vs.length = ds.length := r.length
  have tk : ((T.at_ c).take ds.length).length = ds.length := by rw [List.length_take]; omega
  have pz : ∀ (ns : List Str) (ws : List V), ns.length = ws.length → ns.all (fun n => f != n) = true → putF f v1 (ns.zip ws) = (ns ++ [f]).zip (ws ++ [v1]) := by
    intro ns
    induction ns with
    | nil => intro ws hl _; cases ws; rfl; cases hl
    | cons n ns ih =>
      intro ws hl hall
      cases ws with
      | nil => cases hl
      | cons w ws =>
        rw [List.all_cons, Bool.and_eq_true] at hall
        rw [List.zip_cons_cons, List.cons_append, List.cons_append, List.zip_cons_cons]
        have ne : n ≠ f := fun z => by subst z; simp at hall
        unfold putF
        rw [if_neg ne, ih ws (by simpa using hl) hall.2]
  have tk2 : (T.at_ c).take (ds ++ [d]).length = (T.at_ c).take ds.length ++ [f] := by
    rw [List.length_append, List.length_singleton, List.take_add_one, hf]
    rfl
  refine ⟨_, s1, a, C, dx, _, rfl, ha, by rw [hk]; exact Sk.cls c C hc, by rw [hk]; exact Sk.no c C hc f (List.mem_of_getElem? hf), ?_, ?_⟩
  · rw [List.length_zip, tk, hvl]; omega
  · rw [pz _ _ (by rw [tk, hvl]) hfr]
    refine su d G0 H0 σ _ G1 ((F.trans f1).updo ga h0) ?_ Dn nx hx hd
    refine ⟨fun b o z => ?_, by simp [M1.len], fun j cc e' => ?_, fun j k c1 d1 b e1 e2 n1 n2 t1 t2 => ?_⟩
    · rw [upd_ne (show b ≠ a from fun w => by subst w; rw [ga] at z; cases z)]
      exact M1.gh _ _ z
    · rcases get_set e' with ⟨rfl, q, hl⟩ | ⟨q, e'⟩
      · cases q
        refine ⟨.ref a, s1, C, dx, vs ++ [v1], rfl, hc, ?_, ?_, ga, h0, r.append (.cons r1 .nil)⟩
        · rw [upd_same, tk2]
        · rw [List.length_append, List.length_singleton]; omega
      · obtain ⟨v, z1, z2⟩ := M1.sl j cc e'
        refine ⟨v, z1, ?_⟩
        cases cc with
        | val d => exact z2
        | own es =>
          obtain ⟨b, ws, rfl, y1, y2, y3, y4⟩ := z2
          refine ⟨b, ws, rfl, ?_, y2, y3, y4⟩
          rw [upd_ne (show b ≠ a from fun w => q (M1.dj i j _ _ a hi e' rfl rfl s1 (by rw [← w]; exact z1)))]
          exact y1
        | ins b c es =>
          obtain ⟨C, dx, ws, rfl, y0, y1, y5, y2, y3, y4⟩ := z2
          refine ⟨C, dx, ws, rfl, y0, ?_, y5, y2, y3, y4⟩
          rw [upd_ne (show b ≠ a from fun w => q (M1.dj i j _ _ a hi e' rfl rfl s1 (by rw [← w]; exact z1)))]
          exact y1
    · have key : ∀ (j : Nat) (cc : Cell), (env.set i (some (.ins a c (ds ++ [d]))))[j]? = some (some cc) → cc.isVal = false → ∃ c', env[j]? = some (some c') ∧ c'.isVal = false := fun j cc e n => by
        rcases get_set e with ⟨rfl, q, hl⟩ | ⟨q, e⟩
        · exact ⟨_, hi, rfl⟩
        · exact ⟨cc, e, n⟩
      obtain ⟨c3, x1, y1⟩ := key j c1 e1 n1
      obtain ⟨c4, x2, y2⟩ := key k d1 e2 n2
      exact M1.dj j k c3 c4 b x1 x2 y1 y2 t1 t2
end Px

namespace Px
open PySem PySem.Spec PyProof.Rows L2
section
variable {X : Cx} {T : Kt} {W : WX} {k : Nat} {x : Xk} {env : Env'} {a b c e o : Expr} {es : List Expr} {st : Stmt} {sts rest : List Stmt} {ma mb mc me : Res D} {mt : Res Bool} {pos : Pos} {O L S : Type} {m : Res O} {ι : O → Fl L S} {el : L → Env'} {eo : S → Env'}
theorem nrm (env : Env') (h : PBX X T W x sts env m ι el eo) : PBX X T W x sts env m ι el eo := h
theorem nrmX (env : Env') (h : PX X T W e env me) : PX X T W e env me := h
theorem nrmT (env : Env') (h : PTX X T W e env mt) : PTX X T W e env mt := h
theorem nrmTs (env : Env') (h : PTsX X T W es env mt) : PTsX X T W es env mt := h
theorem pb_breakS {o : O} {l : L} (hi : ι o = .bk l) (he : subE (el l) env) : PBX X T W x (.Break pos :: rest) env (.ok o) ι el eo := (pb_break (env := el l) hi rfl).weak he
theorem Ctx.blk {scope : Scope} {s : Shared} {H : Hp} {C : Addr} {cl : List (Str × Addr)} {fp : List Addr} (h : Ctx X T W k) : Ctx (BX X scope s H C cl fp) T WN k where
  calm := h.calm
  nd := h.nd
  kk := h.kk
  pass := fun σ pins H s e s' I c => passL pins σ H s e s' I c
  room := h.room
  po := PassesOwn.never
/-- == of data, or an own == -/
def eqAny (sub : Nat → Nat → Bool) (c : Nat) (m : List D → Res D) (ma mb : Res D) : Res D := ma.bind fun a => match a with
  | .obj c' l => ownEqR sub c m (.ok (.obj c' l)) mb
  | d => op2 eqD (.ok d) mb
theorem PX.or {m1 m2 m : Res D} (h1 : PX X T W e env m1) (h2 : PX X T W e env m2) (hm : m = m1 ∨ m = m2) : PX X T W e env m := by
  rcases hm with rfl | rfl
  · exact h1
  · exact h2
theorem px_eqAny {sub : Nat → Nat → Bool} {cc : Nat} {mm : List D → Res D} (h1 : PX X T W e env (op2 eqD ma mb)) (h2 : PX X T W e env (ownEqR sub cc mm ma mb)) : PX X T W e env (eqAny sub cc mm ma mb) := by
  refine h1.or h2 ?_
  cases ma with
  | ok d => cases d <;> first | exact .inr rfl | exact .inl rfl
  | err c vs => exact .inl rfl
  | bad => exact .inl rfl
end
/-! list(range(..)) -/
def lrng1 : List D → Option (List D)
  | [.int n] => if 0 ≤ n ∧ n ≤ 16777216 then some (intsD 0 n.toNat) else none
  | _ => none
def lrng2 : List D → Option (List D)
  | [.int a, .int b] => if 0 ≤ a ∧ b ≤ 16777216 ∧ a ≤ 16777216 ∧ 0 ≤ b then some (intsD a (b - a).toNat) else none
  | _ => none
theorem reps_intsD {T : Kt} {G : Hp} (a b : Int) : Reps T G (rgV a b) (intsD a (b - a).toNat) := by
  unfold rgV intsD
  have go : ∀ l : List Nat, Reps T G (l.map fun (i : Nat) => V.int (a + i)) (l.map fun (i : Nat) => D.int (a + (i : Int))) := by
    intro l
    induction l with
    | nil => exact .nil
    | cons i r ih => exact .cons (.int _) ih
  exact go _
section
variable {X : Cx} {T : Kt} {W : WX} {env : Env'} {a b : Expr} {ma mb : Res D} {p p2 pos pos2 : Pos}
theorem pxo_listRg1 (hc : X.calm = true) (hg : Gl X "list") (hm : X.mg "list" = none) (hg2 : Gl X "range") (hm2 : X.mg "range" = none) (ha : PX X T W a env ma) (na : starEach [.Call (.Name "range" p2) [a] [] pos2] X.env = (false, eval (.Call (.Name "range" p2) [a] [] pos2) X.env) :: starEach [] X.env := by rfl) (na2 : starEach [a] X.env = (false, eval a X.env) :: starEach [] X.env := by rfl) :
    PXO X T W (.Call (.Name "list" p) [.Call (.Name "range" p2) [a] [] pos2] [] pos) env (callOo lrng1 (consR ma (.ok []))) := by
  obtain ⟨t, pa, s⟩ := ha.ex
  refine ⟨_, pe_listRg hc hg hm (prg_1 hg2 hm2 pa na2) na, fun H0 σ H G M Q h => ?_⟩
  refine s H0 σ H G M _ ((Res.sat_bind (Res.sat_bind h)).mono (fun x hx v1 H1 G1 f1 r1 => ?_) fun _ _ z => z)
  have hx' : (Res.ofO (lrng1 [x])).sat (PO T G H Q) (EX T (WE W σ) G H) := hx
  cases r1 <;> try exact hx'.elim
  rename_i n
  unfold lrng1 at hx'
  by_cases hb : 0 ≤ n ∧ n ≤ 16777216
  · simp only [if_pos hb] at hx'
    have q : PO T G1 H1 Q _ := PO.fr f1 hx'
    refine ⟨n, rfl, RgOk.of_le (Int.le_refl 0) hb.2 (by decide) hb.1, fun q' nq => ?_⟩
    have := reps_intsD (T := T) (G := G1) 0 n
    rw [Int.sub_zero] at this
    exact q q' _ _ G1 (Fr.newH f1.s nq) nq upd_same (f1.s.free nq) this
  · simp only [if_neg hb] at hx'; exact hx'.elim
theorem pxo_listRg2 (hc : X.calm = true) (hg : Gl X "list") (hm : X.mg "list" = none) (hg2 : Gl X "range") (hm2 : X.mg "range" = none) (ha : PX X T W a env ma) (hb : PX X T W b env mb) (na : starEach [.Call (.Name "range" p2) [a, b] [] pos2] X.env = (false, eval (.Call (.Name "range" p2) [a, b] [] pos2) X.env) :: starEach [] X.env := by rfl) (na2 : starEach [a, b] X.env = (false, eval a X.env) :: starEach [b] X.env := by rfl) (na3 : starEach [b] X.env = (false, eval b X.env) :: starEach [] X.env := by rfl) (na4 : (backTo pos2 (starEach [b] X.env)).any (·.1) = false := by rfl) :
    PXO X T W (.Call (.Name "list" p) [.Call (.Name "range" p2) [a, b] [] pos2] [] pos) env (callOo lrng2 (consR ma (consR mb (.ok [])))) := by
  obtain ⟨t, pa, s⟩ := ha.ex
  obtain ⟨t2, pb, s2⟩ := hb.ex
  refine ⟨_, pe_listRg hc hg hm (prg_2 hg2 hm2 pa pb na2 na3 na4) na, fun H0 σ H G M Q h => ?_⟩
  refine s H0 σ H G M _ ((Res.sat_bind (Res.sat_bind h)).mono (fun x hx v1 H1 G1 f1 r1 => ?_) fun _ _ z => z)
  have hx2 : mb.sat (fun y => (Res.ofO (lrng2 [x, y])).sat (PO T G H Q) (EX T (WE W σ) G H)) (EX T (WE W σ) G H) := by
    cases mb <;> exact hx
  refine s2 H0 σ H1 G1 (M.fr f1) _ (hx2.mono (fun y hy v2 H2 G2 f2 r2 => ?_) fun _ _ z => z.fr f1)
  have hx' : (Res.ofO (lrng2 [x, y])).sat (PO T G H Q) (EX T (WE W σ) G H) := hy
  cases r1 <;> try exact hx'.elim
  cases r2 <;> try exact hx'.elim
  rename_i n m
  unfold lrng2 at hx'
  by_cases hb : 0 ≤ n ∧ m ≤ 16777216 ∧ n ≤ 16777216 ∧ 0 ≤ m
  · simp only [if_pos hb] at hx'
    have f12 := f1.trans f2
    have q : PO T G2 H2 Q _ := PO.fr f12 hx'
    exact ⟨n, m, rfl, rfl, RgOk.of_le hb.1 hb.2.1 hb.2.2.1 hb.2.2.2, fun q' nq => q q' _ _ G2 (Fr.newH f12.s nq) nq upd_same (f12.s.free nq) (reps_intsD n m)⟩
  · simp only [if_neg hb] at hx'; exact hx'.elim
end
/-- enough turns for any while -/
def fuel : Nat := 2 ^ 70
theorem kit_bt {K : PySem.W.Frag} {E : Addr} {n : String} (h1 : PySem.W.isClsIn K E = true) (h2 : PySem.W.typeIn K (.ref E) = some (.type "type")) (h3 : PySem.W.subIn K (.type n) (.ref E) = some false) : PySem.W.kitOne K (.type n) (.ref E) = some false := by
  unfold PySem.W.kitOne PySem.W.kitCls
  have e : (Value.type n == Value.ref E) = false := rfl
  have h1' : (PySem.W.clsIn K E).isSome = true := h1
  rw [e, if_neg Bool.false_ne_true]
  dsimp only
  rw [h1', h2, h3]
  rfl
theorem kit_tb {K : PySem.W.Frag} {E : Addr} {n : String} (h0 : PySem.W.kitMeta n = true) (h3 : PySem.W.subIn K (.ref E) (.type n) = some false) : PySem.W.kitOne K (.ref E) (.type n) = some false := by
  unfold PySem.W.kitOne PySem.W.kitCls
  have e : (Value.ref E == Value.type n) = false := rfl
  rw [e, if_neg Bool.false_ne_true]
  dsimp only
  rw [h0, h3]
  rfl
theorem kit_self {K : PySem.W.Frag} {E : Addr} : PySem.W.kitOne K (.ref E) (.ref E) = some true := by
  unfold PySem.W.kitOne
  rw [if_pos (by simp)]
theorem kit_cc {K : PySem.W.Frag} {C E : Addr} {b : Bool} (hne : C ≠ E) (h1 : PySem.W.isClsIn K E = true) (h2 : PySem.W.typeIn K (.ref E) = some (.type "type")) (h3 : PySem.W.subIn K (.ref C) (.ref E) = some b) : PySem.W.kitOne K (.ref C) (.ref E) = some b := by
  unfold PySem.W.kitOne PySem.W.kitCls
  have e : (Value.ref C == Value.ref E) = false := by simpa using hne
  have h1' : (PySem.W.clsIn K E).isSome = true := h1
  rw [e, if_neg Bool.false_ne_true]
  dsimp only
  rw [h1', h2, h3]
  rfl
theorem nf_bt {K : PySem.W.Frag} {C : Addr} {n : String} (h3 : PySem.W.subIn K (.type n) (.ref C) = some false) : PySem.W.notFirst K C (.type n) = true := by
  unfold PySem.W.notFirst
  rw [h3]
  simp
theorem nf_cc {K : PySem.W.Frag} {C E : Addr} (h3 : PySem.W.subIn K (.ref E) (.ref C) = some false) : PySem.W.notFirst K C (.ref E) = true := by
  unfold PySem.W.notFirst
  rw [h3]
  simp
theorem nf_self {K : PySem.W.Frag} {C : Addr} : PySem.W.notFirst K C (.ref C) = true := by
  unfold PySem.W.notFirst
  simp
end Px

namespace Px
open PySem PySem.Spec PyProof.Rows L2
/-! ### plain words for the mathematics -/
theorem dispR_ok (l : List D) : dispR (.ok l) = if l.length ≤ 16777216 then .ok l else .bad := by
  unfold dispR; rw [Res.ok_bind, sizeLine_eq]
theorem tupR_ok (l : List D) : tupR (.ok l) = if l.length ≤ 16777216 then .ok (.tup l) else .bad := by
  unfold tupR; rw [Res.ok_bind, sizeLine_eq]
theorem appR_ok' {O : Type} (ds : List D) (d : D) (k : List D → Res O) : appR ds (.ok d) k = if ds.length < 16777216 then k (ds ++ [d]) else .bad := by
  unfold appR; rw [Res.ok_bind, sizeLine_eq]
theorem appR_go {O : Type} {ds : List D} {d : D} {k : List D → Res O} (h : ds.length < 16777216) : appR ds (.ok d) k = k (ds ++ [d]) := by
  rw [appR_ok', if_pos h]
theorem ix_lst {l : List D} {n : Nat} {d : D} (h : l[n]? = some d) : ixD (.lst l) (.int n) = some d := atI_nat h
theorem ix_scr {l : List D} {n : Nat} {d : D} (h : l[n]? = some d) : ixD (.scr l) (.int n) = some d := atI_nat h
theorem ix_tup' {l : List D} {n : Nat} {d : D} (h : l[n]? = some d) : ixD (.tup l) (.int n) = some d := atI_nat h
@[simp] theorem addD_int (i j : Int) : addD (.int i) (.int j) = some (.int (i + j)) := id rfl
theorem addD_lst {a b : List D} (h : a.length + b.length ≤ 16777216) : addD (.lst a) (.lst b) = some (.lst (a ++ b)) := by
  simp only [addD, sizeLine_eq, if_pos h]
@[simp] theorem subD_int (i j : Int) : subD (.int i) (.int j) = some (.int (i - j)) := id rfl
@[simp] theorem ltD_int (i j : Int) : ltD (.int i) (.int j) = some (.bl (decide (i < j))) := id rfl
@[simp] theorem leD_int (i j : Int) : leD (.int i) (.int j) = some (.bl (decide (i ≤ j))) := id rfl
@[simp] theorem gtD_int (i j : Int) : gtD (.int i) (.int j) = some (.bl (decide (j < i))) := id rfl
@[simp] theorem geD_int (i j : Int) : geD (.int i) (.int j) = some (.bl (decide (j ≤ i))) := id rfl
@[simp] theorem intD_int (i : Int) : intD [.int i] = some (.int i) := id rfl
@[simp] theorem absD_int (i : Int) : absD [.int i] = some (.int (if i < 0 then -i else i)) := id rfl
@[simp] theorem maxD_int (i j : Int) : maxD [.int i, .int j] = some (.int (if j > i then j else i)) := id rfl
@[simp] theorem minD_int (i j : Int) : minD [.int i, .int j] = some (.int (if j < i then j else i)) := id rfl
@[simp] theorem lenD_lst (l : List D) : lenD [.lst l] = some (.int l.length) := id rfl
@[simp] theorem lenD_scr (l : List D) : lenD [.scr l] = some (.int l.length) := id rfl
@[simp] theorem lenD_tup (l : List D) : lenD [.tup l] = some (.int l.length) := id rfl
@[simp] theorem truD_bl (b : Bool) : truD (.bl b) = some b := id rfl
@[simp] theorem truD_int (i : Int) : truD (.int i) = some (i != 0) := id rfl
@[simp] theorem itemsD_lst (l : List D) : itemsD (.lst l) = some l := id rfl
@[simp] theorem itemsD_scr (l : List D) : itemsD (.scr l) = some l := id rfl
@[simp] theorem itemsD_tup (l : List D) : itemsD (.tup l) = some l := id rfl
@[simp] theorem listO_lst (l : List D) : listO [.lst l] = some l := id rfl
@[simp] theorem listO_tup (l : List D) : listO [.tup l] = some l := id rfl
@[simp] theorem tupleD_lst (l : List D) : tupleD [.lst l] = some (.tup l) := id rfl
@[simp] theorem tupleD_tup (l : List D) : tupleD [.tup l] = some (.tup l) := id rfl
@[simp] theorem isND_non (d : D) : isND d .non = some (.bl d.isNon) := id rfl
@[simp] theorem notND_non (d : D) : notND d .non = some (.bl !d.isNon) := id rfl
@[simp] theorem isNon_non : D.isNon .non = true := id rfl
@[simp] theorem isNon_int (i : Int) : D.isNon (.int i) = false := id rfl
@[simp] theorem isNon_bl (i : Bool) : D.isNon (.bl i) = false := id rfl
@[simp] theorem isNon_lst (i : List D) : D.isNon (.lst i) = false := id rfl
@[simp] theorem isNon_tup (i : List D) : D.isNon (.tup i) = false := id rfl
@[simp] theorem isNon_str (s : Str) : D.isNon (.str s) = false := id rfl
@[simp] theorem isNon_obj (c : Nat) (i : List D) : D.isNon (.obj c i) = false := id rfl
theorem modD_int {i j : Int} (h : j ≠ 0) : modD (.int i) (.int j) = some (.int (i.fmod j)) := by simp only [modD, ne_eq, h, not_false_eq_true, if_true]
theorem modD_pos {i j : Int} (h : 0 < j) : modD (.int i) (.int j) = some (.int (i % j)) := by
  rw [modD_int (by omega), Int.fmod_eq_emod_of_nonneg i (by omega)]
theorem divD_pos {i j : Int} (h : 0 < j) (h2 : j.natAbs.log2 < 9000) : divD (.int i) (.int j) = some (.int (i / j)) := by
  simp only [divD, if_pos (And.intro h h2)]
theorem powD_int {i j : Int} (h : 0 ≤ j) (h2 : j ≤ 1000000) (h3 : i.natAbs < 2 ^ 64) : powD (.int i) (.int j) = some (.int (i ^ j.toNat)) := by
  simp only [powD, if_pos (And.intro h (And.intro h2 h3))]
theorem mulD_int {i j : Int} (h : i.natAbs.log2 + j.natAbs.log2 < 100000000) : mulD (.int i) (.int j) = some (.int (i * j)) := by
  simp only [mulD, mulOK, decide_eq_true h, if_true]
theorem repD_int {i j : Int} (h : i.natAbs.log2 + j.natAbs.log2 < 100000000) : repD (.int i) (.int j) = some (.int (i * j)) := mulD_int h
theorem repD_lst {l : List D} {k : Int} (h0 : 0 ≤ k) (h1 : k < 16777216) (h : l.length * k.toNat ≤ 16777216) : repD (.lst l) (.int k) = some (.lst (List.replicate k.toNat l).flatten) := by
  have h3 : -(2 ^ 63) ≤ k ∧ k < 2 ^ 63 ∧ l.length * k.toNat ≤ 16777216 := ⟨by omega, by omega, h⟩
  simp only [repD, sizeLine_eq, if_pos h3]
/-- log2 below a bound -/
theorem log2_lt {i : Int} {n : Nat} (h : i.natAbs < 2 ^ n) (hn : 0 < n) : i.natAbs.log2 < n := PySem.Flt.log2_lt_of hn h
theorem log2_of {i : Int} {b : Int} (h0 : 0 ≤ i) (h : i < b) {n : Nat} (hb : b ≤ 2 ^ n) (hn : 0 < n) : i.natAbs.log2 < n := by
  refine log2_lt ?_ hn
  have h1 : i < 2 ^ n := Int.lt_of_lt_of_le h hb
  have h2 : ((2 ^ n : Nat) : Int) = (2 : Int) ^ n := by simp
  omega
/-! worths -/
def W : Option Int → D
  | none => .non
  | some i => .int i
@[simp] theorem W_none : W none = .non := id rfl
@[simp] theorem W_some (i : Int) : W (some i) = .int i := id rfl
@[simp] theorem isNon_W (w : Option Int) : D.isNon (W w) = w.isNone := by cases w <;> rfl
theorem W_inj {a b : Option Int} (h : W a = W b) : a = b := by
  cases a <;> cases b <;> simp [W] at h <;> first | rfl | (subst h; rfl)
/-- equality of two worths -/
theorem toP_W (w : Option Int) : toP (W w) = some (match w with | none => .none | some i => .int i) := by cases w <;> rfl
theorem shaped_W (w : Option Int) : SeqAt.shaped (match w with | none => PyData.none | some i => .int i) = true := by
  cases w <;> simp [SeqAt.shaped, PyData.canLay0, PyData.depth]
theorem eqD_W (a b : Option Int) : eqD (W a) (W b) = some (.bl (decide (a = b))) := by
  unfold eqD
  rw [toP_W, toP_W]
  simp only [shaped_W, Bool.and_self, if_true]
  cases a <;> cases b <;> simp [PyData.eqv] <;> (rw [Bool.eq_iff_iff]; simp)
theorem neD_W (a b : Option Int) : neD (W a) (W b) = some (.bl (!decide (a = b))) := by
  unfold neD
  rw [toP_W, toP_W]
  simp only [shaped_W, Bool.and_self, if_true]
  cases a <;> cases b <;> simp [PyData.eqv] <;> (rw [Bool.eq_iff_iff]; simp)
theorem eqD_int (a b : Int) : eqD (.int a) (.int b) = some (.bl (decide (a = b))) := by simpa using eqD_W (some a) (some b)
theorem neD_int (a b : Int) : neD (.int a) (.int b) = some (.bl (!decide (a = b))) := by simpa using neD_W (some a) (some b)
theorem eqD_bl (a b : Bool) : eqD (.bl a) (.bl b) = some (.bl (a == b)) := by
  have : ∀ b, SeqAt.shaped (PyData.bool b) = true := fun b => by simp [SeqAt.shaped, PyData.canLay0, PyData.depth]
  unfold eqD; simp only [toP, this, Bool.and_self, if_true]; rfl
theorem neD_bl (a b : Bool) : neD (.bl a) (.bl b) = some (.bl (!(a == b))) := by
  have : ∀ b, SeqAt.shaped (PyData.bool b) = true := fun b => by simp [SeqAt.shaped, PyData.canLay0, PyData.depth]
  unfold neD; simp only [toP, this, Bool.and_self, if_true]; rfl
/-! loops -/
theorem forR_inv {S : Type} {fb : S → D → Res S} {ds : List D} (P : Nat → S → Prop) {s0 : S} (h0 : P 0 s0) (hs : ∀ i s d, ds[i]? = some d → P i s → ∃ s', fb s d = .ok s' ∧ P (i + 1) s') : ∃ s, forR fb ds s0 = .ok s ∧ P ds.length s := by
  induction ds generalizing P s0 with
  | nil => exact ⟨s0, rfl, h0⟩
  | cons d ds ih =>
    obtain ⟨s', e, p⟩ := hs 0 s0 d rfl h0
    obtain ⟨s, e2, p2⟩ := ih (fun i s => P (i + 1) s) p fun i s x hx hp => hs (i + 1) s x (by simpa using hx) hp
    refine ⟨s, ?_, by simpa using p2⟩
    unfold forR
    rw [e, Res.ok_bind, e2]
/-- a loop that goes through, or leaves by a return -/
theorem forG_inv {S : Type} {fb : S → D → Res (Fl S S)} {ds : List D} (P : Nat → S → Prop) {s0 : S} (h0 : P 0 s0) (hs : ∀ i s d, ds[i]? = some d → P i s → ∃ s', fb s d = .ok (.nx s') ∧ P (i + 1) s') : ∃ s, forG id fb ds s0 = .ok (.nx s) ∧ P ds.length s := by
  induction ds generalizing P s0 with
  | nil => exact ⟨s0, rfl, h0⟩
  | cons d ds ih =>
    obtain ⟨s', e, p⟩ := hs 0 s0 d rfl h0
    obtain ⟨s, e2, p2⟩ := ih (fun i s => P (i + 1) s) p fun i s x hx hp => hs (i + 1) s x (by simpa using hx) hp
    refine ⟨s, ?_, by simpa using p2⟩
    unfold forG
    rw [e, Res.ok_bind]
    exact e2
theorem forG_find {S : Type} {fb : S → D → Res (Fl S S)} {ds : List D} (P : Nat → S → Prop) (R : D → Prop) {s0 : S} (h0 : P 0 s0) (hs : ∀ i s d, ds[i]? = some d → P i s → (∃ s', fb s d = .ok (.nx s') ∧ P (i + 1) s') ∨ ∃ r, fb s d = .ok (.rt r) ∧ R r) : (∃ s, forG id fb ds s0 = .ok (.nx s) ∧ P ds.length s) ∨ ∃ r, forG id fb ds s0 = .ok (.rt r) ∧ R r := by
  induction ds generalizing P s0 with
  | nil => exact .inl ⟨s0, rfl, h0⟩
  | cons d ds ih =>
    rcases hs 0 s0 d rfl h0 with ⟨s', e, p⟩ | ⟨r, e, p⟩
    · rcases ih (fun i s => P (i + 1) s) p fun i s x hx hp => hs (i + 1) s x (by simpa using hx) hp with ⟨s, e2, p2⟩ | ⟨r, e2, p2⟩
      · refine .inl ⟨s, ?_, by simpa using p2⟩
        unfold forG
        rw [e, Res.ok_bind]
        exact e2
      · refine .inr ⟨r, ?_, p2⟩
        unfold forG
        rw [e, Res.ok_bind]
        exact e2
    · refine .inr ⟨r, ?_, p⟩
      unfold forG
      rw [e, Res.ok_bind]
      rfl
theorem mapR_ok {α : Type} {fe : D → Res D} {g : α → D} {h : α → D} : ∀ {l : List α}, (∀ x ∈ l, fe (g x) = .ok (h x)) → mapR fe (l.map g) = .ok (l.map h)
  | [], _ => rfl
  | x :: l, hh => by
    rw [List.map_cons, List.map_cons]
    unfold mapR
    rw [hh x List.mem_cons_self, noErr_ok, Res.ok_bind, mapR_ok fun y hy => hh y (List.mem_cons_of_mem _ hy), Res.ok_bind]
theorem mapL_ok {α : Type} {fe : D → Res D} {g : α → D} {h : α → D} {l : List α} (hl : l.length ≤ 16777216) (hh : ∀ x ∈ l, fe (g x) = .ok (h x)) : mapL fe (.ok (l.map g)) = .ok (l.map h) := by
  unfold mapL
  rw [Res.ok_bind, sizeLine_eq, if_pos (by simpa using hl)]
  exact mapR_ok hh
theorem intsD_zero (n : Nat) : intsD 0 n = (List.range n).map fun (i : Nat) => D.int (i : Int) := by
  unfold intsD; congr 1; funext i; rw [Int.zero_add]
theorem rng1_nat {n : Nat} (h : n ≤ 16777216) : rng1 [.int n] = some ((List.range n).map fun (i : Nat) => D.int (i : Int)) := by
  have h3 : -(2 ^ 62) ≤ (n : Int) ∧ (n : Int) < 2 ^ 62 := by
    have : (2 : Int) ^ 62 = 4611686018427387904 := by decide
    omega
  rw [← intsD_zero]
  simp only [rng1, if_pos h3, Int.toNat_natCast]
theorem lrng1_nat {n : Nat} (h : n ≤ 16777216) : lrng1 [.int n] = some ((List.range n).map fun (i : Nat) => D.int (i : Int)) := by
  have h3 : 0 ≤ (n : Int) ∧ (n : Int) ≤ 16777216 := by omega
  rw [← intsD_zero]
  simp only [lrng1, if_pos h3, Int.toNat_natCast]
theorem range_get {n i : Nat} {d : D} (h : ((List.range n).map fun (i : Nat) => D.int (i : Int))[i]? = some d) : i < n ∧ d = .int i := by
  rw [List.getElem?_map] at h
  cases q : (List.range n)[i]? with
  | none => rw [q] at h; cases h
  | some k =>
    rw [q] at h
    have hi : i < n := by
      have := (List.getElem?_eq_some_iff.mp q).1
      simpa using this
    rw [List.getElem?_range hi] at q
    cases q
    cases h
    exact ⟨hi, rfl⟩
/-! ### what a mirror comes to -/
def To {α : Type} (m : Res α) (R : α → Prop) : Prop := ∃ y, m = .ok y ∧ R y
theorem To.ok {α : Type} {a : α} {R : α → Prop} (h : R a) : To (.ok a) R := ⟨a, rfl, h⟩
theorem To.of {α : Type} {m : Res α} {a : α} {R : α → Prop} (e : m = .ok a) (h : R a) : To m R := ⟨a, e, h⟩
theorem To.eq {α : Type} {m : Res α} {a : α} (h : To m fun y => y = a) : m = .ok a := by
  obtain ⟨y, e, rfl⟩ := h
  exact e
theorem To.bind {α β : Type} {m : Res α} {k : α → Res β} {P : α → Prop} {R : β → Prop} (h : To m P) (hk : ∀ a, P a → To (k a) R) : To (m.bind k) R := by
  obtain ⟨a, e, p⟩ := h
  rw [e, Res.ok_bind]
  exact hk a p
theorem To.bindE {α β : Type} {m : Res α} {k : α → Res β} {a : α} {R : β → Prop} (e : m = .ok a) (hk : To (k a) R) : To (m.bind k) R := by
  rw [e, Res.ok_bind]
  exact hk
theorem To.mono {α : Type} {m : Res α} {P R : α → Prop} (h : To m P) (hk : ∀ a, P a → R a) : To m R := by
  obtain ⟨a, e, p⟩ := h
  exact ⟨a, e, hk a p⟩
theorem To.iteT {α : Type} {c : Res Bool} {a b : Res α} {R : α → Prop} (e : c = .ok true) (h : To a R) : To (iteR c a b) R := by
  rw [e]; exact h
theorem To.iteF {α : Type} {c : Res Bool} {a b : Res α} {R : α → Prop} (e : c = .ok false) (h : To b R) : To (iteR c a b) R := by
  rw [e]; exact h
theorem To.ite {α : Type} {c : Res Bool} {a b : Res α} {R : α → Prop} {k : Bool} (e : c = .ok k) (h : k = true → To a R) (h' : k = false → To b R) : To (iteR c a b) R := by
  rw [e]
  cases k
  · exact h' rfl
  · exact h rfl
theorem To.forR {S : Type} {fb : S → D → Res S} {ds : List D} (P : Nat → S → Prop) {s0 : S} (h0 : P 0 s0) (hs : ∀ i s d, ds[i]? = some d → P i s → To (fb s d) (P (i + 1))) : To (forR fb ds s0) (P ds.length) := forR_inv P h0 hs
/-- where a loop may go -/
def LpTo {S : Type} (P : S → Prop) (Q : D → Prop) : Lp S → Prop
  | .nx s => P s
  | .rt d => Q d
def FlTo {S : Type} (P : S → Prop) (Q : D → Prop) (B : S → Prop) : Fl S S → Prop
  | .nx s => P s
  | .ct s => P s
  | .rt d => Q d
  | .bk s => B s
theorem To.forG {S : Type} {fb : S → D → Res (Fl S S)} {ds : List D} (P : Nat → S → Prop) (Q : D → Prop) (B : S → Prop) {s0 : S} (h0 : P 0 s0) (hs : ∀ i s d, ds[i]? = some d → P i s → To (fb s d) (FlTo (P (i + 1)) Q B)) : To (forG id fb ds s0) (LpTo (fun s => P ds.length s ∨ B s) Q) := by
  induction ds generalizing P s0 with
  | nil => exact ⟨_, rfl, .inl h0⟩
  | cons d ds ih =>
    obtain ⟨o, e, p⟩ := hs 0 s0 d rfl h0
    unfold Px.forG
    rw [e, Res.ok_bind]
    cases o with
    | nx s =>
      have q := ih (fun i s => P (i + 1) s) p fun i s x hx hp => hs (i + 1) s x (by simpa using hx) hp
      simpa using q
    | ct s =>
      have q := ih (fun i s => P (i + 1) s) p fun i s x hx hp => hs (i + 1) s x (by simpa using hx) hp
      simpa using q
    | rt d => exact ⟨_, rfl, p⟩
    | bk s => exact ⟨_, rfl, .inr p⟩
theorem To.lp {S O : Type} {m : Res (Lp S)} {r : D → Res O} {k : S → Res O} {P : S → Prop} {Q : D → Prop} {R : O → Prop} (h : To m (LpTo P Q)) (hk : ∀ s, P s → To (k s) R) (hr : ∀ d, Q d → To (r d) R) : To (m.bind (lpK r k)) R := by
  refine h.bind fun o ho => ?_
  cases o with
  | nx s => exact hk s ho
  | rt d => exact hr d ho
/-- a while, by a number that falls -/
theorem To.whileR {S : Type} {c : S → Res Bool} {fb : S → Res S} (P : S → Prop) (μ : S → Nat) (hc : ∀ s, P s → ∃ b, c s = .ok b ∧ (b = true → To (fb s) fun s' => P s' ∧ μ s' < μ s)) : ∀ (n : Nat) (s0 : S), P s0 → μ s0 < n → To (whileR c fb n s0) fun s => P s ∧ c s = .ok false
  | 0, s0, _, h => absurd h (Nat.not_lt_zero _)
  | n + 1, s0, p, h => by
    obtain ⟨b, e, hb⟩ := hc s0 p
    unfold Px.whileR
    rw [e, Res.ok_bind]
    cases b with
    | false => exact ⟨s0, rfl, p, e⟩
    | true =>
      refine (hb rfl).bind fun s' hs' => ?_
      exact To.whileR P μ hc n s' hs'.1 (Nat.lt_of_lt_of_le hs'.2 (Nat.le_of_lt_succ h))
theorem To.appR {O : Type} {ds : List D} {me : Res D} {k : List D → Res O} {P : D → Prop} {R : O → Prop} (hl : ds.length < 16777216) (h : To me P) (hk : ∀ d, P d → To (k (ds ++ [d])) R) : To (appR ds me k) R := by
  unfold Px.appR
  refine h.bind fun d hd => ?_
  rw [sizeLine_eq, if_pos hl]
  exact hk d hd
end Px

namespace Px
open PySem PySem.Spec PyProof.Rows L2
/-! ### calls with keywords -/
def pickI {α : Type} : List Nat → List α → List α
  | [], _ => []
  | i :: r, l => match l[i]? with
    | some x => x :: pickI r l
    | none => pickI r l
theorem Reps.pick {T : Kt} {G : Hp} {vs : List V} {ds : List D} (r : Reps T G vs ds) : ∀ idx : List Nat, Reps T G (pickI idx vs) (pickI idx ds)
  | [] => .nil
  | i :: idx => by
    unfold pickI
    cases h : ds[i]? with
    | some d =>
      obtain ⟨v, h1, h2⟩ := r.get h
      rw [h1]
      exact .cons h2 (r.pick idx)
    | none =>
      have : vs[i]? = none := by
        rw [List.getElem?_eq_none_iff] at h ⊢
        rw [r.length]; exact h
      rw [this]
      exact r.pick idx
theorem vals_pick {vs : List V} {us : List Value} (r : Vals vs us) : ∀ idx : List Nat, Vals (pickI idx vs) (pickI idx us)
  | [] => .nil
  | i :: idx => by
    unfold pickI
    cases h : vs[i]? with
    | some d =>
      obtain ⟨v, h1, h2⟩ := Vals.get r h
      rw [h1]
      exact .cons h2 (vals_pick r idx)
    | none =>
      have : us[i]? = none := by
        rw [List.getElem?_eq_none_iff] at h ⊢
        rw [← r.length]; exact h
      rw [this]
      exact vals_pick r idx
theorem pick_succ {α : Type} (x : α) (l : List α) : ∀ idx : List Nat, pickI (idx.map (· + 1)) (x :: l) = pickI idx l
  | [] => rfl
  | i :: idx => by
    show (match (x :: l)[i + 1]? with | some y => y :: pickI (idx.map (· + 1)) (x :: l) | none => pickI (idx.map (· + 1)) (x :: l)) = _
    rw [List.getElem?_cons_succ, pick_succ x l idx]
    rfl
theorem pick_self {α : Type} (x : α) (l : List α) (idx : List Nat) : pickI (0 :: idx.map (· + 1)) (x :: l) = x :: pickI idx l := by
  show x :: pickI (idx.map (· + 1)) (x :: l) = _
  rw [pick_succ]
/-- how a call with keywords binds: idx puts the positional values, the keywords' values and the defaults that lack in the order of the parameters -/
structure KBI (K : PySem.W.Frag) (fd : FuncData) (ps : List Str) (n : Nat) (ks : List Str) (idx : List Nat) (dvs : List V) : Prop where
  ex : ∃ its : List Value, Vals dvs its ∧ ∀ (s : Shared) (us ws : List Value), K.In s.heap → us.length = n → ws.length = ks.length → BindsTo s fd ⟨us, ks.zip ws⟩ (ps.zip (pickI idx (us ++ (ws ++ its))))
/-- the arguments in the parameters' order -/
def kwL (n k : Nat) (idx : List Nat) (dd : List D) (mp mk : Res (List D)) : Res (List D) := mp.bind fun us => mk.bind fun ws => if us.length = n ∧ ws.length = k then .ok (pickI idx (us ++ (ws ++ dd))) else .bad
@[simp] theorem kwL_ok (n k : Nat) (idx : List Nat) (dd us ws : List D) : kwL n k idx dd (.ok us) (.ok ws) = if us.length = n ∧ ws.length = k then .ok (pickI idx (us ++ (ws ++ dd))) else .bad := id rfl
def tKw (n k : Nat) (idx : List Nat) (dvs : List V) (t tk : TA) : TA := fun σ H Q => t σ H fun vs H1 => tk σ H1 fun zs H2 => vs.length = n ∧ zs.length = k ∧ Q (pickI idx (vs ++ (zs ++ dvs))) H2
structure PKX (X : Cx) (T : Kt) (W : WX) (kws : List Keyword) (env : Env') (m : Res (List D)) : Prop where
  ex : ∃ t, PK X kws t ∧ SA T W t env m
section
variable {X : Cx} {T : Kt} {W : WX} {k k' : Nat} {env : Env'} {e o : Expr} {es : List Expr} {kws : List Keyword} {mo ma : Res D} {ms mk : Res (List D)} {pos kpos : Pos} {nm : Option Str} {mm : List D → Res D} {mi : List D → Res (List D)} {f C : Addr} {fd : FuncData} {ps ks : List Str} {x m : Str} {p apos : Pos} {dvs : List V} {dd : List D} {n np nk : Nat} {cc : Nat} {idx : List Nat} {t tk : TA} {ta : TE} {CX : CXT} {sp : Sp}
theorem pkx_nil : PKX X T W [] env (.ok []) := ⟨_, pk_nil, fun H0 σ H G M Q h => h [] H G (Fr.refl M.gh) .nil⟩
theorem pkx_cons (he : PX X T W e env ma) (hr : PKX X T W kws env ms) : PKX X T W (⟨nm, e, kpos⟩ :: kws) env (consR ma ms) := by
  obtain ⟨ta, pa, sa⟩ := he.ex
  obtain ⟨tr, pr, sr⟩ := hr.ex
  refine ⟨_, pk_cons pa pr, fun H0 σ H G M Q h => ?_⟩
  refine sa H0 σ H G M _ ((Res.sat_bind h).mono (fun x hx v1 H1 G1 f1 r1 => ?_) fun _ _ z => z)
  refine sr H0 σ H1 G1 (M.fr f1) _ ((Res.sat_bind hx).mono (fun l hl vs H2 G2 f2 r2 => ?_) fun _ _ z => z.fr f1)
  exact hl (v1 :: vs) H2 G2 (f1.trans f2) (.cons (r1.mono f2.g) r2)
theorem sa_kw (sa : SA T W t env ms) (sk : SA T W tk env mk) (rd : ∀ G, Reps T G dvs dd) : SA T W (tKw np nk idx dvs t tk) env (kwL np nk idx dd ms mk) := by
  intro H0 σ H G M Q h
  refine sa H0 σ H G M _ ((Res.sat_bind h).mono (fun l hl vs H1 G1 f1 r1 => ?_) fun _ _ z => z)
  refine sk H0 σ H1 G1 (M.fr f1) _ ((Res.sat_bind hl).mono (fun l2 hl2 zs H2 G2 f2 r2 => ?_) fun _ _ z => z.fr f1)
  by_cases hh : l.length = np ∧ l2.length = nk
  · rw [if_pos hh] at hl2
    exact ⟨by rw [r1.length]; exact hh.1, by rw [r2.length]; exact hh.2, hl2 _ H2 G2 (f1.trans f2) (((r1.mono f2.g).append (r2.append (rd G2))).pick idx)⟩
  · rw [if_neg hh] at hl2
    exact hl2.elim
theorem run_fnK {pins : List (Addr × Obj)} {σ : L2.St} {H : Hp} {s : Shared} {Q : VK} {us ws : List Value} {vs zs : List V} {E : XK} (F : FnOk X.prog X.w X.K X.mg X.base CX k f fd ps sp) (hr : Room k X.A) (hb : KBI X.K fd ps np ks idx dvs) (hx : PassesAt CX X σ E)
    (I : Inv X pins σ H s) (r : Vals vs us) (rz : Vals zs ws) (l1 : vs.length = np) (l2 : zs.length = ks.length) (h : sp (pickI idx (vs ++ (zs ++ dvs)) ++ []) H Q E) : wpAny (model X.prog X.w) X.A (call (.ref f) us (ks.zip ws)) (EP X pins σ Q) X.xe s := by
  rw [List.append_nil] at h
  obtain ⟨its, ri, to⟩ := hb.ex
  have r2 : Vals (pickI idx (vs ++ (zs ++ dvs))) (pickI idx (us ++ (ws ++ its))) := vals_pick (r.append (rz.append ri)) idx
  refine wpAny_call (codeAny_mono (F.run X.A X.stack s H ⟨us, ks.zip ws⟩ (pickI idx (us ++ (ws ++ its))) (pickI idx (vs ++ (zs ++ dvs))) Q E hr I.env0 (to s us ws I.kIn (r.length.symm.trans l1) (rz.length.symm.trans l2)) r2 h) fun r s' hq => ?_)
  cases r with
  | error e => exact hx pins H s e s' I hq
  | ok fl =>
    cases fl with
    | ret u => exact I.after hq
    | next => exact False.elim hq
    | brk => exact False.elim hq
    | cont => exact False.elim hq
def tCallT (sp : Sp) (dvs : List V) (E : L2.St → XK) (t : TA) : TE := fun σ H Q => t σ H fun vs H1 => sp (vs ++ dvs) H1 Q (E σ)
theorem pe_callKw {E : L2.St → XK} (F : FnOk X.prog X.w X.K X.mg X.base CX k f fd ps sp) (hr : Room k X.A) (hg : Gl X x) (hm : X.mg x = some (.ref f)) (hk : PySem.W.keepIn X.K (.ref f) = true) (hb : KBI X.K fd ps np ks idx dvs) (hx : ∀ σ, PassesAt CX X σ (E σ))
    (ha : PA X (e :: es) t) (hkw : PK X kws tk) (hall : (backToKw pos (keywordEach kws X.env)).all (·.1.isSome) = true := by rfl) (hks : (backToKw pos (keywordEach kws X.env)).filterMap (·.1) = ks := by rfl)
    (hdb : (x == ("__debug__" : Str)) = false := by decide) (he : starEach (e :: es) X.env = (false, eval e X.env) :: starEach es X.env := by rfl)
    (hpl : ((backTo pos (starEach (e :: es) X.env)).any (·.1) || (backToKw pos (keywordEach kws X.env)).any (·.1.isNone)) = false := by rfl) :
    PE X (.Call (.Name x p) (e :: es) kws pos) (tCallT sp [] E (tKw np ks.length idx dvs t tk)) := by
  refine ⟨fun pins s σ H Q I h => ?_⟩
  refine wpAny_Call_Name_kw (ld_glob I hg hm ?_ hdb)
  refine PySem.W.callWith_KW (h₀ := X.base) I.ok.mod.kin hk hall (thn (ha.run pos pins s σ H _ I h) fun us s1 ⟨vs, H1, I1, r, q⟩ => ?_) hpl he
  refine thn (hkw.run pos pins s1 σ H1 _ I1 q) fun ws s2 ⟨zs, H2, I2, rz, l1, l2, q2⟩ => ⟨I2.kIn, ?_⟩
  rw [hks]
  exact run_fnK F hr hb (hx σ) I2 r rz l1 l2 q2
theorem pe_callKw0 {E : L2.St → XK} (F : FnOk X.prog X.w X.K X.mg X.base CX k f fd ps sp) (hr : Room k X.A) (hg : Gl X x) (hm : X.mg x = some (.ref f)) (hk : PySem.W.keepIn X.K (.ref f) = true) (hb : KBI X.K fd ps np ks idx dvs) (hx : ∀ σ, PassesAt CX X σ (E σ))
    (hkw : PK X kws tk) (hall : (backToKw pos (keywordEach kws X.env)).all (·.1.isSome) = true := by rfl) (hks : (backToKw pos (keywordEach kws X.env)).filterMap (·.1) = ks := by rfl)
    (hdb : (x == ("__debug__" : Str)) = false := by decide)
    (hpl : ((backTo pos (starEach [] X.env)).any (·.1) || (backToKw pos (keywordEach kws X.env)).any (·.1.isNone)) = false := by rfl) :
    PE X (.Call (.Name x p) [] kws pos) (tCallT sp [] E (tKw np ks.length idx dvs tNil tk)) := by
  refine ⟨fun pins s σ H Q I h => ?_⟩
  refine wpAny_Call_Name_kw (ld_glob I hg hm ?_ hdb)
  refine PySem.W.callWith_KW0 (h₀ := X.base) I.ok.mod.kin hk hall ?_ hpl
  refine thn (hkw.run pos pins s σ H _ I h) fun ws s2 ⟨zs, H2, I2, rz, l1, l2, q2⟩ => ⟨I2.kIn, ?_⟩
  rw [hks]
  exact run_fnK (us := []) F hr hb (hx σ) I2 .nil rz l1 l2 q2
theorem px_callKw (Cc : Ctx X T W k') (F : FnOk X.prog X.w X.K X.mg X.base (L2.CX X.prog X.w) k f fd ps (pureSp T n mm)) (hn : ∀ ds, ds.length ≠ n → mm ds = .bad) (hk : k ≤ k') (hg : Gl X x) (hm : X.mg x = some (.ref f)) (hkp : PySem.W.keepIn X.K (.ref f) = true) (hb : KBI X.K fd ps np ks idx dvs) (rd : ∀ G, Reps T G dvs dd)
    (ha : PAX X T W (e :: es) env ms) (hkw : PKX X T W kws env mk) (hall : (backToKw pos (keywordEach kws X.env)).all (·.1.isSome) = true := by rfl) (hks : (backToKw pos (keywordEach kws X.env)).filterMap (·.1) = ks := by rfl) (hdb : (x == ("__debug__" : Str)) = false := by decide) (he : starEach (e :: es) X.env = (false, eval e X.env) :: starEach es X.env := by rfl)
    (hpl : ((backTo pos (starEach (e :: es) X.env)).any (·.1) || (backToKw pos (keywordEach kws X.env)).any (·.1.isNone)) = false := by rfl) :
    PX X T W (.Call (.Name x p) (e :: es) kws pos) env (callR mm [] (kwL np ks.length idx dd ms mk)) := by
  obtain ⟨t, pa, sa⟩ := ha.ex
  obtain ⟨tk, pk, sk⟩ := hkw.ex
  refine ⟨_, pe_callKw F (Cc.room.mono hk) hg hm hkp hb Cc.pass pa pk hall hks hdb he hpl, fun H0 σ H G M Q h => ?_⟩
  refine sa_kw sa sk rd H0 σ H G M _ ((Res.sat_bind h).mono (fun l hl vs H1 G1 f1 r1 => ?_) fun _ _ z => z)
  exact pure_of (σ := σ) f1.s (r1.append .nil) hn (hl.mono (fun d z => z.fr f1) fun _ _ z => z.fr f1)
theorem px_callKw0 (Cc : Ctx X T W k') (F : FnOk X.prog X.w X.K X.mg X.base (L2.CX X.prog X.w) k f fd ps (pureSp T n mm)) (hn : ∀ ds, ds.length ≠ n → mm ds = .bad) (hk : k ≤ k') (hg : Gl X x) (hm : X.mg x = some (.ref f)) (hkp : PySem.W.keepIn X.K (.ref f) = true) (hb : KBI X.K fd ps np ks idx dvs) (rd : ∀ G, Reps T G dvs dd)
    (hkw : PKX X T W kws env mk) (hall : (backToKw pos (keywordEach kws X.env)).all (·.1.isSome) = true := by rfl) (hks : (backToKw pos (keywordEach kws X.env)).filterMap (·.1) = ks := by rfl) (hdb : (x == ("__debug__" : Str)) = false := by decide)
    (hpl : ((backTo pos (starEach [] X.env)).any (·.1) || (backToKw pos (keywordEach kws X.env)).any (·.1.isNone)) = false := by rfl) :
    PX X T W (.Call (.Name x p) [] kws pos) env (callR mm [] (kwL np ks.length idx dd (.ok []) mk)) := by
  obtain ⟨tk, pk, sk⟩ := hkw.ex
  have s0 : SA T W tNil env (.ok []) := fun H0 σ H G M Q h => h [] H G (Fr.refl M.gh) .nil
  refine ⟨_, pe_callKw0 F (Cc.room.mono hk) hg hm hkp hb Cc.pass pk hall hks hdb hpl, fun H0 σ H G M Q h => ?_⟩
  refine sa_kw s0 sk rd H0 σ H G M _ ((Res.sat_bind h).mono (fun l hl vs H1 G1 f1 r1 => ?_) fun _ _ z => z)
  exact pure_of (σ := σ) f1.s (r1.append .nil) hn (hl.mono (fun d z => z.fr f1) fun _ _ z => z.fr f1)
/-! methods -/
def tMethT (C : Addr) (m : Str) (sp : Sp) (E : L2.St → XK) (ta : TE) (t : TA) : TE := fun σ H Q => ta σ H fun x H1 => ∃ a dx fs, x = .ref a ∧ H1 a = some (.ins C dx fs) ∧ fs.lookup m = none ∧
  t σ H1 fun vs H2 => sp (x :: (vs ++ [])) H2 Q (E σ)
theorem pe_methKw {pl : Sem Bool} {E : L2.St → XK} (he : PE X o ta) (c : Cls X.K C) (hm : Meth X.K C m f) (F : FnOk X.prog X.w X.K X.mg X.base CX k f fd ps sp) (hr : Room k X.A) (hb : KBI X.K fd ps (np + 1) ks (0 :: idx.map (· + 1)) dvs) (hx : ∀ σ, PassesAt CX X σ (E σ)) (ha : PA X (e :: es) t) (hkw : PK X kws tk)
    (hall : (backToKw pos (keywordEach kws X.env)).all (·.1.isSome) = true := by rfl) (hks : (backToKw pos (keywordEach kws X.env)).filterMap (·.1) = ks := by rfl)
    (hst : starEach (e :: es) X.env = (false, eval e X.env) :: starEach es X.env := by rfl) (hpl : ((backTo pos (starEach (e :: es) X.env)).any (·.1) || (backToKw pos (keywordEach kws X.env)).any (·.1.isNone)) = false := by rfl)
    (ht : eval (.Call (.Attribute o m apos) (e :: es) kws pos) X.env = (do
      let ov ← eval o X.env
      standAt apos.atName
      let (f, first) ← holding [ov] (getMethod ov m pl)
      callWith pos f first (backTo pos (starEach (e :: es) X.env)) (backToKw pos (keywordEach kws X.env))) := by rfl) :
    PE X (.Call (.Attribute o m apos) (e :: es) kws pos) (tMethT C m sp E ta (tKw np ks.length idx dvs t tk)) := by
  refine ⟨fun pins s σ H Q I h => ?_⟩
  refine PySem.W.methodCall_KW (pl := pl) (thn (he.run pins s σ H _ I h) fun u s1 ⟨x, H1, I1, rx, a, dx, fs, ex, ea, l, q⟩ => ?_) ht
  subst ex
  obtain rfl : u = Value.ref a := rx
  refine getmeth_ok I1 ea c hm l ?_
  refine PySem.W.callWith_KW (first := [.ref a]) (h₀ := X.base) I.ok.mod.kin hm.kp hall (thn (ha.run pos pins s1 σ H1 _ I1 q) fun us s2 ⟨vs, H2, I2, r, q2⟩ => ?_) hpl hst
  refine thn (hkw.run pos pins s2 σ H2 _ I2 q2) fun ws s3 ⟨zs, H3, I3, rz, l1, l2, q3⟩ => ⟨I3.kIn, ?_⟩
  rw [hks]
  refine run_fnK (us := .ref a :: us) (vs := .ref a :: vs) F hr hb (hx σ) I3 (.cons rfl r) rz (congrArg Nat.succ l1) l2 ?_
  rw [List.cons_append, pick_self]
  exact q3
theorem pe_methKw0 {pl : Sem Bool} {E : L2.St → XK} (he : PE X o ta) (c : Cls X.K C) (hm : Meth X.K C m f) (F : FnOk X.prog X.w X.K X.mg X.base CX k f fd ps sp) (hr : Room k X.A) (hb : KBI X.K fd ps (np + 1) ks (0 :: idx.map (· + 1)) dvs) (hx : ∀ σ, PassesAt CX X σ (E σ)) (hkw : PK X kws tk)
    (hall : (backToKw pos (keywordEach kws X.env)).all (·.1.isSome) = true := by rfl) (hks : (backToKw pos (keywordEach kws X.env)).filterMap (·.1) = ks := by rfl)
    (hpl : ((backTo pos (starEach [] X.env)).any (·.1) || (backToKw pos (keywordEach kws X.env)).any (·.1.isNone)) = false := by rfl)
    (ht : eval (.Call (.Attribute o m apos) [] kws pos) X.env = (do
      let ov ← eval o X.env
      standAt apos.atName
      let (f, first) ← holding [ov] (getMethod ov m pl)
      callWith pos f first (backTo pos (starEach [] X.env)) (backToKw pos (keywordEach kws X.env))) := by rfl) :
    PE X (.Call (.Attribute o m apos) [] kws pos) (tMethT C m sp E ta (tKw np ks.length idx dvs tNil tk)) := by
  refine ⟨fun pins s σ H Q I h => ?_⟩
  refine PySem.W.methodCall_KW (pl := pl) (thn (he.run pins s σ H _ I h) fun u s1 ⟨x, H1, I1, rx, a, dx, fs, ex, ea, l, q⟩ => ?_) ht
  subst ex
  obtain rfl : u = Value.ref a := rx
  refine getmeth_ok I1 ea c hm l ?_
  refine PySem.W.callWith_KW0 (first := [.ref a]) (h₀ := X.base) I.ok.mod.kin hm.kp hall ?_ hpl
  refine thn (hkw.run pos pins s1 σ H1 _ I1 q) fun ws s3 ⟨zs, H3, I3, rz, l1, l2, q3⟩ => ⟨I3.kIn, ?_⟩
  rw [hks]
  refine run_fnK (us := [.ref a]) (vs := [.ref a]) F hr hb (hx σ) I3 (.cons rfl .nil) rz (congrArg Nat.succ l1) l2 ?_
  rw [List.cons_append, pick_self]
  exact q3
theorem sem_meth (S : KtOk T) (hc : T.ca cc = some C) (hno : (T.at_ cc).all (fun n => m != n) = true) (hn : ∀ ds, ds.length ≠ n → mm ds = .bad) {ta : TE} {t : TA} (so : SE T W ta env mo) (sa : SA T W t env ms) : SE T W (tMethT C m (pureSp T n mm) (WE W) ta t) env (methR cc mm [] mo ms) := by
  intro H0 σ H G M Q h
  refine so H0 σ H G M _ ((Res.sat_bind h).mono (fun d hd' v1 H1 G1 f1 r1 => ?_) fun _ _ z => z)
  have r1' := r1
  cases d <;> try exact hd'.elim
  · rename_i cc' l'
    by_cases e1 : cc' = cc
    · subst e1
      obtain ⟨aa, C', dx, ns, vs', rfl, hc', hg, hns⟩ := rep_obj r1
      rw [hc] at hc'
      cases hc'
      simp only [if_true] at hd'
      refine ⟨aa, dx, _, rfl, f1.s _ _ hg, by rw [hns]; exact lookup_zip_none hno, ?_⟩
      refine sa H0 σ H1 G1 (M.fr f1) _ ((Res.sat_bind hd').mono (fun l hl2 ws H2 G2 f2 r2 => ?_) fun _ _ z => z.fr f1)
      exact pure_of (σ := σ) (f1.trans f2).s (.cons (r1'.mono f2.g) (r2.append .nil)) hn (hl2.mono (fun d z => z.fr (f1.trans f2)) fun _ _ z => z.fr (f1.trans f2))
    · simp only [if_neg e1] at hd'; exact hd'.elim
theorem px_methKw {pl : Sem Bool} (Cc : Ctx X T W k') (S : KtOk T) (hM : Meth X.K C m f) (hc : T.ca cc = some C) (hno : (T.at_ cc).all (fun n => m != n) = true) (F : FnOk X.prog X.w X.K X.mg X.base (L2.CX X.prog X.w) k f fd ps (pureSp T n mm)) (hn : ∀ ds, ds.length ≠ n → mm ds = .bad) (hk : k ≤ k') (hb : KBI X.K fd ps (np + 1) ks (0 :: idx.map (· + 1)) dvs) (rd : ∀ G, Reps T G dvs dd)
    (ho : PX X T W o env mo) (ha : PAX X T W (e :: es) env ms) (hkw : PKX X T W kws env mk)
    (hall : (backToKw pos (keywordEach kws X.env)).all (·.1.isSome) = true := by rfl) (hks : (backToKw pos (keywordEach kws X.env)).filterMap (·.1) = ks := by rfl)
    (hst : starEach (e :: es) X.env = (false, eval e X.env) :: starEach es X.env := by rfl) (hpl : ((backTo pos (starEach (e :: es) X.env)).any (·.1) || (backToKw pos (keywordEach kws X.env)).any (·.1.isNone)) = false := by rfl)
    (ht : eval (.Call (.Attribute o m apos) (e :: es) kws pos) X.env = (do
      let ov ← eval o X.env
      standAt apos.atName
      let (f, first) ← holding [ov] (getMethod ov m pl)
      callWith pos f first (backTo pos (starEach (e :: es) X.env)) (backToKw pos (keywordEach kws X.env))) := by rfl) :
    PX X T W (.Call (.Attribute o m apos) (e :: es) kws pos) env (methR cc mm [] mo (kwL np ks.length idx dd ms mk)) := by
  obtain ⟨to, po, so⟩ := ho.ex
  obtain ⟨t, pa, sa⟩ := ha.ex
  obtain ⟨tk, pk, sk⟩ := hkw.ex
  exact ⟨_, pe_methKw po (by rw [Cc.kk]; exact S.cls cc C hc) hM F (Cc.room.mono hk) hb Cc.pass pa pk hall hks hst hpl ht, sem_meth S hc hno hn so (sa_kw sa sk rd)⟩
theorem px_methKw0 {pl : Sem Bool} (Cc : Ctx X T W k') (S : KtOk T) (hM : Meth X.K C m f) (hc : T.ca cc = some C) (hno : (T.at_ cc).all (fun n => m != n) = true) (F : FnOk X.prog X.w X.K X.mg X.base (L2.CX X.prog X.w) k f fd ps (pureSp T n mm)) (hn : ∀ ds, ds.length ≠ n → mm ds = .bad) (hk : k ≤ k') (hb : KBI X.K fd ps (np + 1) ks (0 :: idx.map (· + 1)) dvs) (rd : ∀ G, Reps T G dvs dd)
    (ho : PX X T W o env mo) (hkw : PKX X T W kws env mk)
    (hall : (backToKw pos (keywordEach kws X.env)).all (·.1.isSome) = true := by rfl) (hks : (backToKw pos (keywordEach kws X.env)).filterMap (·.1) = ks := by rfl)
    (hpl : ((backTo pos (starEach [] X.env)).any (·.1) || (backToKw pos (keywordEach kws X.env)).any (·.1.isNone)) = false := by rfl)
    (ht : eval (.Call (.Attribute o m apos) [] kws pos) X.env = (do
      let ov ← eval o X.env
      standAt apos.atName
      let (f, first) ← holding [ov] (getMethod ov m pl)
      callWith pos f first (backTo pos (starEach [] X.env)) (backToKw pos (keywordEach kws X.env))) := by rfl) :
    PX X T W (.Call (.Attribute o m apos) [] kws pos) env (methR cc mm [] mo (kwL np ks.length idx dd (.ok []) mk)) := by
  obtain ⟨to, po, so⟩ := ho.ex
  obtain ⟨tk, pk, sk⟩ := hkw.ex
  have s0 : SA T W tNil env (.ok []) := fun H0 σ H G M Q h => h [] H G (Fr.refl M.gh) .nil
  exact ⟨_, pe_methKw0 po (by rw [Cc.kk]; exact S.cls cc C hc) hM F (Cc.room.mono hk) hb Cc.pass pk hall hks hpl ht, sem_meth S hc hno hn so (sa_kw s0 sk rd)⟩
/-! making an object by keywords -/
theorem run_makeKw {pins : List (Addr × Obj)} {σ : L2.St} {H : Hp} {s : Shared} {Q : VK} {us ws : List Value} {vs zs : List V} {E : XK} (M : Mk X.K C f) (F : FnOk X.prog X.w X.K X.mg X.base CX k f fd ps sp) (hr : Room (k + 1) X.A) (hb : KBI X.K fd ps (np + 1) ks (0 :: idx.map (· + 1)) dvs)
    (hx : PassesAt CX X σ E) (I : L2.Inv X pins σ H s) (r : Vals vs us) (rz : Vals zs ws) (l1 : vs.length = np) (l2 : zs.length = ks.length)
    (h : ∀ x dx, H x = none → H dx = none → dx ≠ x → sp (.ref x :: (pickI idx (vs ++ (zs ++ dvs)) ++ [])) (upd (upd H dx (.own x)) x (.ins C dx [])) (fun v H2 => v = .non ∧ Q (.ref x) H2) E) :
    wpAny (model X.prog X.w) X.A (call (.ref C) us (ks.zip ws)) (EP X pins σ Q) X.xe s := by
  have hq := h (s.heap.objs.size + 1) s.heap.objs.size (I.hok.fresh (Nat.le_succ _)) (I.hok.fresh (Nat.le_refl _)) (Nat.ne_of_lt (Nat.lt_succ_self _))
  have I2 := Inv.made (C := C) I
  obtain ⟨its, ri, to⟩ := hb.ex
  have r0 : Vals (V.ref (s.heap.objs.size + 1) :: (vs ++ (zs ++ dvs))) (Value.ref (s.heap.objs.size + 1) :: (us ++ (ws ++ its))) := .cons rfl (r.append (rz.append ri))
  have r2 := vals_pick r0 (0 :: idx.map (· + 1))
  rw [pick_self] at r2
  rw [List.append_nil] at hq
  refine wpAny_call (make_map (f := f) I.kIn M.makes M.init (beq_iff_eq.mp M.fn) (codeAny_mono (F.run _ X.stack _ _ ⟨Value.ref (s.heap.objs.size + 1) :: us, ks.zip ws⟩ (pickI (0 :: idx.map (· + 1)) (Value.ref (s.heap.objs.size + 1) :: (us ++ (ws ++ its)))) _ _ E (hr.make C us (ks.zip ws))
    (I2.env0.make C us (ks.zip ws)) (to _ (Value.ref (s.heap.objs.size + 1) :: us) ws I2.kIn (congrArg Nat.succ (r.length.symm.trans l1)) (rz.length.symm.trans l2)) r2 hq) fun r s' hq' => ?_))
  cases r with
  | error e => exact hx pins _ _ e s' I2 hq'
  | ok fl =>
    cases fl with
    | ret u =>
      obtain ⟨v, H', I3, rv, ev, q3⟩ := I2.after hq'
      subst ev
      exact ⟨rv, ⟨V.ref (s.heap.objs.size + 1), H', I3, rfl, q3⟩⟩
    | next => exact False.elim hq'
    | brk => exact False.elim hq'
    | cont => exact False.elim hq'
theorem px_makeKw (Cc : Ctx X T W k') (M0 : Mk X.K C f) (hc : T.ca cc = some C) (F : FnOk X.prog X.w X.K X.mg X.base (L2.CX X.prog X.w) k f fd ps (initSp T n cc mi)) (hn : ∀ ds, ds.length + 1 ≠ n → mi ds = .bad) (hk : k + 1 ≤ k') (hg : Gl X x) (hm : X.mg x = some (.ref C)) (hb0 : L2.Binds X.K fd ps []) (hb : KBI X.K fd ps (np + 1) ks (0 :: idx.map (· + 1)) dvs) (rd : ∀ G, Reps T G dvs dd)
    (ha : PAX X T W (e :: es) env ms) (hkw : PKX X T W kws env mk) (hall : (backToKw pos (keywordEach kws X.env)).all (·.1.isSome) = true := by rfl) (hks : (backToKw pos (keywordEach kws X.env)).filterMap (·.1) = ks := by rfl) (hdb : (x == ("__debug__" : Str)) = false := by decide) (he : starEach (e :: es) X.env = (false, eval e X.env) :: starEach es X.env := by rfl)
    (hpl : ((backTo pos (starEach (e :: es) X.env)).any (·.1) || (backToKw pos (keywordEach kws X.env)).any (·.1.isNone)) = false := by rfl) :
    PX X T W (.Call (.Name x p) (e :: es) kws pos) env (makeR cc mi [] (kwL np ks.length idx dd ms mk)) := by
  obtain ⟨t, pa, sa⟩ := ha.ex
  obtain ⟨tk, pk, sk⟩ := hkw.ex
  refine px_make Cc M0 hc F hn hk hg hm hb0 .nil (fun _ => .nil) (t := tKw np ks.length idx dvs t tk) (fun E hx => ⟨fun pins s σ H Q I h => ?_⟩) (sa_kw sa sk rd)
  refine wpAny_Call_Name_kw (ld_glob I hg hm ?_ hdb)
  refine PySem.W.callWith_KW (h₀ := X.base) I.ok.mod.kin M0.kp hall (thn (pa.run pos pins s σ H _ I h) fun us s1 ⟨vs, H1, I1, r, q⟩ => ?_) hpl he
  refine thn (pk.run pos pins s1 σ H1 _ I1 q) fun ws s2 ⟨zs, H2, I2, rz, l1, l2, q2⟩ => ⟨I2.kIn, ?_⟩
  rw [hks]
  exact run_makeKw M0 F (Cc.room.mono hk) hb (hx σ) I2 r rz l1 l2 q2
theorem px_makeKw0 (Cc : Ctx X T W k') (M0 : Mk X.K C f) (hc : T.ca cc = some C) (F : FnOk X.prog X.w X.K X.mg X.base (L2.CX X.prog X.w) k f fd ps (initSp T n cc mi)) (hn : ∀ ds, ds.length + 1 ≠ n → mi ds = .bad) (hk : k + 1 ≤ k') (hg : Gl X x) (hm : X.mg x = some (.ref C)) (hb0 : L2.Binds X.K fd ps []) (hb : KBI X.K fd ps (np + 1) ks (0 :: idx.map (· + 1)) dvs) (rd : ∀ G, Reps T G dvs dd)
    (hkw : PKX X T W kws env mk) (hall : (backToKw pos (keywordEach kws X.env)).all (·.1.isSome) = true := by rfl) (hks : (backToKw pos (keywordEach kws X.env)).filterMap (·.1) = ks := by rfl) (hdb : (x == ("__debug__" : Str)) = false := by decide)
    (hpl : ((backTo pos (starEach [] X.env)).any (·.1) || (backToKw pos (keywordEach kws X.env)).any (·.1.isNone)) = false := by rfl) :
    PX X T W (.Call (.Name x p) [] kws pos) env (makeR cc mi [] (kwL np ks.length idx dd (.ok []) mk)) := by
  obtain ⟨tk, pk, sk⟩ := hkw.ex
  have s0 : SA T W tNil env (.ok []) := fun H0 σ H G M Q h => h [] H G (Fr.refl M.gh) .nil
  refine px_make Cc M0 hc F hn hk hg hm hb0 .nil (fun _ => .nil) (t := tKw np ks.length idx dvs tNil tk) (fun E hx => ⟨fun pins s σ H Q I h => ?_⟩) (sa_kw s0 sk rd)
  refine wpAny_Call_Name_kw (ld_glob I hg hm ?_ hdb)
  refine PySem.W.callWith_KW0 (h₀ := X.base) I.ok.mod.kin M0.kp hall ?_ hpl
  refine thn (pk.run pos pins s σ H _ I h) fun ws s2 ⟨zs, H2, I2, rz, l1, l2, q2⟩ => ⟨I2.kIn, ?_⟩
  rw [hks]
  exact run_makeKw (us := []) M0 F (Cc.room.mono hk) hb (hx σ) I2 .nil rz l1 l2 q2
end
/-! ### how such calls bind -/
section
variable {K : PySem.W.Frag} {x qual : Str} {st : Stmt} {params : Arguments} {body : List Stmt} {scope : Scope} {dvs : List V} {kws : List (Str × V)} {f : Addr} {fd : FuncData} {ps ks : List Str} {n : Nat} {idx : List Nat}
theorem kbi_fun (F : Fun K x qual st f fd) (h : ∀ (kV doc pm : Value) (an : Option Addr) (cdv ct : Value) (us ws : List Value), us.length = n → ws.length = ks.length → bindArgs (PySem.W.fnOf x qual (defArgs st) (defBody st) (defScope st) .none kV doc pm an cdv ct) ⟨us, ks.zip ws⟩ = pure (ps.zip (pickI idx (us ++ ws)))) : KBI K fd ps n ks idx [] := by
  obtain ⟨oc, od, kV, doc, pm, an, cdv, ct, osl, rfl, lk, hcd⟩ := F.ex
  refine ⟨[], .nil, fun s us ws X l1 l2 => ?_⟩
  rw [List.append_nil]
  exact .of_eq (h kV doc pm an cdv ct us ws l1 l2)
theorem kbi_kwd (F : FunD K x qual params body scope [] kws f fd) (ms : List (Str × V)) (hk : kws ≠ []) (hms : ∀ q ∈ ms, q ∈ kws)
    (h : ∀ (D : Addr) (doc pm : Value) (an : Option Addr) (cdv ct : Value) (us ws mv : List Value), us.length = n → ws.length = ks.length → mv.length = ms.length → KwChain D ((ms.map (·.1)).zip mv) (bindArgs (PySem.W.fnOf x qual params body scope .none (.ref D) doc pm an cdv ct) ⟨us, ks.zip ws⟩) (ps.zip (pickI idx (us ++ (ws ++ mv))))) : KBI K fd ps n ks idx (ms.map (·.2)) := by
  obtain ⟨oc, od, dV, kV, doc, pm, an, cdv, ct, osl, rfl, lk, hcd, hD, hK⟩ := F.ex
  rcases hD with ⟨_, rfl⟩ | ⟨e, _⟩
  · rcases hK with e | ⟨D, rfl, hq⟩
    · exact absurd e hk
    · obtain ⟨mv, hl, rk, hks⟩ := kwd_vals (ms := ms) fun q hm => hq q (hms q hm)
      refine ⟨mv, rk, fun s us ws X l1 l2 => ?_⟩
      exact BindsTo.of_looks fun M => KwChain.looks X hks (h D doc pm an cdv ct us ws mv l1 l2 hl)
  · exact absurd rfl e
theorem kbi_dfl (F : FunD K x qual params body scope dvs kws f fd) (hd : dvs ≠ [])
    (h : ∀ (T : Addr) (kV doc pm : Value) (an : Option Addr) (cdv ct : Value) (us ws its : List Value), us.length = n → ws.length = ks.length → its.length = dvs.length → ∃ k, bindArgs (PySem.W.fnOf x qual params body scope (.ref T) kV doc pm an cdv ct) ⟨us, ks.zip ws⟩ = seqItems? (.ref T) >>= k ∧ k (some its.toArray) = pure (ps.zip (pickI idx (us ++ (ws ++ its))))) : KBI K fd ps n ks idx dvs := by
  obtain ⟨oc, od, dV, kV, doc, pm, an, cdv, ct, osl, rfl, lk, hcd, hD, hK⟩ := F.ex
  rcases hD with ⟨e, _⟩ | ⟨_, T, o, its, m, rfl, lT, oT, rT⟩
  · exact absurd e hd
  · refine ⟨its, rT, fun s us ws X l1 l2 => ?_⟩
    obtain ⟨k, e1, e2⟩ := h T kV doc pm an cdv ct us ws its l1 l2 rT.length.symm
    refine BindsTo.of_looks fun M => ?_
    rw [e1]
    exact looks_items X lT oT (.of_pure e2)
end
end Px

namespace K03
open PySem PySem.Spec PyProof.Rows L2 Px
def topS (i : Nat) : Stmt := PySem.Challenge.pw_holdsitself_k03_the_lesser_of_two.main.body.getD i (.Pass ⟨0, 0, 0, 0⟩)
def at_ : Nat → List Str
  | 0 => ["table", "more"]
  | _ => []
def sub_ : Nat → Nat → Bool := fun a b => a == b
abbrev s_law : Stmt := topS 46
theorem sc_law : FnScope ["script", "shape", "many", "by", "grades", "due", "raw", "numbers", "worths", "made", "one", "two", "whole", "told", "k", "worth", "row", "digit", "grade"] ["script"] (defScope s_law) := ⟨rfl, rfl, rfl, by decide +kernel, rfl, by decide +kernel, by decide +kernel⟩
abbrev s__law_digits : Stmt := topS 25
theorem sc__law_digits : FnScope ["cell", "sizes", "row", "rest", "seed", "great", "k", "twice"] ["cell", "sizes"] (defScope s__law_digits) := ⟨rfl, rfl, rfl, by decide +kernel, rfl, by decide +kernel, by decide +kernel⟩
abbrev s__law_cell : Stmt := topS 24
theorem sc__law_cell : FnScope ["script", "k", "seed", "cell"] ["script", "k"] (defScope s__law_cell) := ⟨rfl, rfl, rfl, by decide +kernel, rfl, by decide +kernel, by decide +kernel⟩
abbrev s__law_raised : Stmt := topS 32
theorem sc__law_raised : FnScope ["grade", "by", "entries", "entry"] ["grade", "by"] (defScope s__law_raised) := ⟨rfl, rfl, rfl, by decide +kernel, rfl, by decide +kernel, by decide +kernel⟩
abbrev s__law_grade : Stmt := topS 27
theorem sc__law_grade : FnScope ["cell", "tame", "row", "many", "amount", "gain", "entries", "last", "k"] ["cell", "tame"] (defScope s__law_grade) := ⟨rfl, rfl, rfl, by decide +kernel, rfl, by decide +kernel, by decide +kernel⟩
abbrev s__law_entry : Stmt := topS 26
theorem sc__law_entry : FnScope ["kind", "amount", "least", "endless", "small"] ["kind", "amount", "least", "endless"] (defScope s__law_entry) := ⟨rfl, rfl, rfl, by decide +kernel, rfl, by decide +kernel, by decide +kernel⟩
abbrev s__law_standing : Stmt := topS 31
theorem sc__law_standing : FnScope ["grade", "number", "entries", "head", "entry"] ["grade", "number"] (defScope s__law_standing) := ⟨rfl, rfl, rfl, by decide +kernel, rfl, by decide +kernel, by decide +kernel⟩
abbrev s__law_longer : Stmt := topS 30
theorem sc__law_longer : FnScope ["grade", "many", "entries", "k"] ["grade", "many"] (defScope s__law_longer) := ⟨rfl, rfl, rfl, by decide +kernel, rfl, by decide +kernel, by decide +kernel⟩
abbrev s__law_whole : Stmt := topS 21
theorem sc__law_whole : FnScope ["value"] ["value"] (defScope s__law_whole) := ⟨rfl, rfl, rfl, by decide +kernel, rfl, by decide +kernel, by decide +kernel⟩
abbrev s__law_least_of_all : Stmt := topS 35
theorem sc__law_least_of_all : FnScope ["grades", "due", "grade"] ["grades"] (defScope s__law_least_of_all) := ⟨rfl, rfl, rfl, by decide +kernel, rfl, by decide +kernel, by decide +kernel⟩
abbrev s__law_both : Stmt := topS 34
theorem sc__law_both : FnScope ["one", "two", "behind_another", "size", "table", "number"] ["one", "two", "behind_another"] (defScope s__law_both) := ⟨rfl, rfl, rfl, by decide +kernel, rfl, by decide +kernel, by decide +kernel⟩
abbrev s__law_lesser : Stmt := topS 33
theorem sc__law_lesser : FnScope ["one", "two"] ["one", "two"] (defScope s__law_lesser) := ⟨rfl, rfl, rfl, by decide +kernel, rfl, by decide +kernel, by decide +kernel⟩
abbrev s__law_at : Stmt := topS 28
theorem sc__law_at : FnScope ["grade", "worth"] ["grade", "worth"] (defScope s__law_at) := ⟨rfl, rfl, rfl, by decide +kernel, rfl, by decide +kernel, by decide +kernel⟩
abbrev s_Grade_init : Stmt := inClass (topS 19) 0
theorem sc_Grade_init : FnScope ["self", "table", "more", "bad"] ["self", "table", "more"] (defScope s_Grade_init) := ⟨rfl, rfl, rfl, by decide +kernel, rfl, by decide +kernel, by decide +kernel⟩
abbrev s_first_bad_entry : Stmt := topS 16
theorem sc_first_bad_entry : FnScope ["table", "index", "entry"] ["table"] (defScope s_first_bad_entry) := ⟨rfl, rfl, rfl, by decide +kernel, rfl, by decide +kernel, by decide +kernel⟩
abbrev s_is_worth : Stmt := topS 3
theorem sc_is_worth : FnScope ["thing"] ["thing"] (defScope s_is_worth) := ⟨rfl, rfl, rfl, by decide +kernel, rfl, by decide +kernel, by decide +kernel⟩
abbrev s_is_number : Stmt := topS 2
theorem sc_is_number : FnScope ["thing"] ["thing"] (defScope s_is_number) := ⟨rfl, rfl, rfl, by decide +kernel, rfl, by decide +kernel, by decide +kernel⟩
abbrev s_is_whole : Stmt := topS 1
theorem sc_is_whole : FnScope ["thing"] ["thing"] (defScope s_is_whole) := ⟨rfl, rfl, rfl, by decide +kernel, rfl, by decide +kernel, by decide +kernel⟩
abbrev s_is_before : Stmt := topS 5
theorem sc_is_before : FnScope ["one", "two"] ["one", "two"] (defScope s_is_before) := ⟨rfl, rfl, rfl, by decide +kernel, rfl, by decide +kernel, by decide +kernel⟩
abbrev s_rank_of : Stmt := topS 4
theorem sc_rank_of : FnScope ["worth"] ["worth"] (defScope s_rank_of) := ⟨rfl, rfl, rfl, by decide +kernel, rfl, by decide +kernel, by decide +kernel⟩
abbrev s_is_right_more : Stmt := topS 17
theorem sc_is_right_more : FnScope ["table", "more", "last"] ["table", "more"] (defScope s_is_right_more) := ⟨rfl, rfl, rfl, by decide +kernel, rfl, by decide +kernel, by decide +kernel⟩
abbrev s_least_table : Stmt := topS 18
theorem sc_least_table : FnScope ["table", "more", "size"] ["table", "more"] (defScope s_least_table) := ⟨rfl, rfl, rfl, by decide +kernel, rfl, by decide +kernel, by decide +kernel⟩
abbrev s_beyond : Stmt := topS 14
theorem sc_beyond : FnScope ["number", "more"] ["number", "more"] (defScope s_beyond) := ⟨rfl, rfl, rfl, by decide +kernel, rfl, by decide +kernel, by decide +kernel⟩
abbrev s__law_grouped : Stmt := topS 36
theorem sc__law_grouped : FnScope ["made", "digits", "rest", "row", "k", "at"] ["made", "digits"] (defScope s__law_grouped) := ⟨rfl, rfl, rfl, by decide +kernel, rfl, by decide +kernel, by decide +kernel⟩
abbrev s_Grade_or : Stmt := inClass (topS 19) 4
theorem sc_Grade_or : FnScope ["self", "other", "size", "table", "number"] ["self", "other"] (defScope s_Grade_or) := ⟨rfl, rfl, rfl, by decide +kernel, rfl, by decide +kernel, by decide +kernel⟩
abbrev s_least_of : Stmt := topS 6
theorem sc_least_of : FnScope ["worths", "least", "worth"] ["worths"] (defScope s_least_of) := ⟨rfl, rfl, rfl, by decide +kernel, rfl, by decide +kernel, by decide +kernel⟩
abbrev s_led : Stmt := topS 15
theorem sc_led : FnScope ["table", "more", "worth"] ["table", "more", "worth"] (defScope s_led) := ⟨rfl, rfl, rfl, by decide +kernel, rfl, by decide +kernel, by decide +kernel⟩
abbrev s__law_tells : Stmt := topS 38
theorem sc__law_tells : FnScope ["made", "due", "worths", "worth"] ["made", "due", "worths"] (defScope s__law_tells) := ⟨rfl, rfl, rfl, by decide +kernel, rfl, by decide +kernel, by decide +kernel⟩
abbrev s__law_same_worths : Stmt := topS 23
theorem sc__law_same_worths : FnScope ["told", "due", "k"] ["told", "due"] (defScope s__law_same_worths) := ⟨rfl, rfl, rfl, by decide +kernel, rfl, by decide +kernel, by decide +kernel⟩
abbrev s__law_same_worth : Stmt := topS 22
theorem sc__law_same_worth : FnScope ["told", "due"] ["told", "due"] (defScope s__law_same_worth) := ⟨rfl, rfl, rfl, by decide +kernel, rfl, by decide +kernel, by decide +kernel⟩
abbrev s__law_least_entries : Stmt := topS 29
theorem sc__law_least_entries : FnScope ["grade", "entries", "k", "place", "due"] ["grade"] (defScope s__law_least_entries) := ⟨rfl, rfl, rfl, by decide +kernel, rfl, by decide +kernel, by decide +kernel⟩
abbrev s_Grade_call : Stmt := inClass (topS 19) 1
theorem sc_Grade_call : FnScope ["self", "worth"] ["self", "worth"] (defScope s_Grade_call) := ⟨rfl, rfl, rfl, by decide +kernel, rfl, by decide +kernel, by decide +kernel⟩
abbrev s__law_equal : Stmt := topS 44
theorem sc__law_equal : FnScope ["one", "two", "told"] ["one", "two"] (defScope s__law_equal) := ⟨rfl, rfl, rfl, by decide +kernel, rfl, by decide +kernel, by decide +kernel⟩
abbrev s_Grade_eq : Stmt := inClass (topS 19) 2
theorem sc_Grade_eq : FnScope ["self", "other"] ["self", "other"] (defScope s_Grade_eq) := ⟨rfl, rfl, rfl, by decide +kernel, rfl, by decide +kernel, by decide +kernel⟩
abbrev s__law_stands_where_one : Stmt := topS 39
theorem sc__law_stands_where_one : FnScope ["made", "grades", "numbers", "least", "number", "due", "grade", "told"] ["made", "grades", "numbers"] (defScope s__law_stands_where_one) := ⟨rfl, rfl, rfl, by decide +kernel, rfl, by decide +kernel, by decide +kernel⟩
abbrev s_Grade_stands_at : Stmt := inClass (topS 19) 5
theorem sc_Grade_stands_at : FnScope ["self", "number"] ["self", "number"] (defScope s_Grade_stands_at) := ⟨rfl, rfl, rfl, by decide +kernel, rfl, by decide +kernel, by decide +kernel⟩
abbrev s_Grade_standing : Stmt := inClass (topS 19) 6
theorem sc_Grade_standing : FnScope ["self", "number"] ["self"] (defScope s_Grade_standing) := ⟨rfl, rfl, rfl, by decide +kernel, rfl, by decide +kernel, by decide +kernel⟩
abbrev s__law_expression : Stmt := topS 37
theorem sc__law_expression : FnScope ["made", "grades", "digits", "row", "dues", "k", "at"] ["made", "grades", "digits"] (defScope s__law_expression) := ⟨rfl, rfl, rfl, by decide +kernel, rfl, by decide +kernel, by decide +kernel⟩
abbrev s_Grade_rshift : Stmt := inClass (topS 19) 3
theorem sc_Grade_rshift : FnScope ["self", "other", "size", "table", "number"] ["self", "other"] (defScope s_Grade_rshift) := ⟨rfl, rfl, rfl, by decide +kernel, rfl, by decide +kernel, by decide +kernel⟩
abbrev s_total_of : Stmt := topS 8
theorem sc_total_of : FnScope ["worths", "total", "worth"] ["worths"] (defScope s_total_of) := ⟨rfl, rfl, rfl, by decide +kernel, rfl, by decide +kernel, by decide +kernel⟩
abbrev s__law_goes_over : Stmt := topS 45
theorem sc__law_goes_over : FnScope ["made", "grades", "worths", "one", "two", "three", "due", "left", "right"] ["made", "grades", "worths"] (defScope s__law_goes_over) := ⟨rfl, rfl, rfl, by decide +kernel, rfl, by decide +kernel, by decide +kernel⟩
abbrev s__law_row_told : Stmt := topS 40
theorem sc__law_row_told : FnScope ["row", "least", "greatest", "total", "worth", "worths"] ["row"] (defScope s__law_row_told) := ⟨rfl, rfl, rfl, by decide +kernel, rfl, by decide +kernel, by decide +kernel⟩
abbrev s_greatest_of : Stmt := topS 7
theorem sc_greatest_of : FnScope ["worths", "greatest", "worth"] ["worths"] (defScope s_greatest_of) := ⟨rfl, rfl, rfl, by decide +kernel, rfl, by decide +kernel, by decide +kernel⟩
abbrev s__law_order_told : Stmt := topS 41
theorem sc__law_order_told : FnScope ["row", "k", "other", "told", "due"] ["row"] (defScope s__law_order_told) := ⟨rfl, rfl, rfl, by decide +kernel, rfl, by decide +kernel, by decide +kernel⟩
abbrev s__law_long_rows_told : Stmt := topS 42
theorem sc__law_long_rows_told : FnScope ["grades", "numbers", "grade", "row", "k", "number"] ["grades", "numbers"] (defScope s__law_long_rows_told) := ⟨rfl, rfl, rfl, by decide +kernel, rfl, by decide +kernel, by decide +kernel⟩
abbrev s__law_great_row : Stmt := topS 43
theorem sc__law_great_row : FnScope ["cell", "row", "many", "worths", "k"] ["cell"] (defScope s__law_great_row) := ⟨rfl, rfl, rfl, by decide +kernel, rfl, by decide +kernel, by decide +kernel⟩
structure Adr where
  C_Grade : Addr
  f__law_digits : Addr
  fd__law_digits : FuncData
  f__law_cell : Addr
  fd__law_cell : FuncData
  f__law_raised : Addr
  fd__law_raised : FuncData
  f__law_entry : Addr
  fd__law_entry : FuncData
  f__law_grade : Addr
  fd__law_grade : FuncData
  f__law_whole : Addr
  fd__law_whole : FuncData
  f__law_longer : Addr
  fd__law_longer : FuncData
  f__law_standing : Addr
  fd__law_standing : FuncData
  f__law_lesser : Addr
  fd__law_lesser : FuncData
  f__law_at : Addr
  fd__law_at : FuncData
  f__law_both : Addr
  fd__law_both : FuncData
  f__law_least_of_all : Addr
  fd__law_least_of_all : FuncData
  f_is_whole : Addr
  fd_is_whole : FuncData
  f_is_number : Addr
  fd_is_number : FuncData
  f_is_worth : Addr
  fd_is_worth : FuncData
  f_rank_of : Addr
  fd_rank_of : FuncData
  f_is_before : Addr
  fd_is_before : FuncData
  f_first_bad_entry : Addr
  fd_first_bad_entry : FuncData
  f_is_right_more : Addr
  fd_is_right_more : FuncData
  f_beyond : Addr
  fd_beyond : FuncData
  f_least_table : Addr
  fd_least_table : FuncData
  f_Grade_init : Addr
  fd_Grade_init : FuncData
  dvs_Grade_init : List V
  dv_Grade_init_1 : List V
  ds_Grade_init_1 : List Value
  f_least_of : Addr
  fd_least_of : FuncData
  f_led : Addr
  fd_led : FuncData
  f_Grade_or : Addr
  fd_Grade_or : FuncData
  f__law_grouped : Addr
  fd__law_grouped : FuncData
  f__law_same_worth : Addr
  fd__law_same_worth : FuncData
  f__law_same_worths : Addr
  fd__law_same_worths : FuncData
  f__law_least_entries : Addr
  fd__law_least_entries : FuncData
  f_Grade_call : Addr
  fd_Grade_call : FuncData
  f__law_tells : Addr
  fd__law_tells : FuncData
  f_Grade_eq : Addr
  fd_Grade_eq : FuncData
  f__law_equal : Addr
  fd__law_equal : FuncData
  f_Grade_stands_at : Addr
  fd_Grade_stands_at : FuncData
  f_Grade_standing : Addr
  fd_Grade_standing : FuncData
  p_Grade_standing : Addr
  f__law_stands_where_one : Addr
  fd__law_stands_where_one : FuncData
  f_total_of : Addr
  fd_total_of : FuncData
  f_Grade_rshift : Addr
  fd_Grade_rshift : FuncData
  f__law_expression : Addr
  fd__law_expression : FuncData
  f__law_goes_over : Addr
  fd__law_goes_over : FuncData
  f_greatest_of : Addr
  fd_greatest_of : FuncData
  f__law_row_told : Addr
  fd__law_row_told : FuncData
  f__law_order_told : Addr
  fd__law_order_told : FuncData
  f__law_long_rows_told : Addr
  fd__law_long_rows_told : FuncData
  f__law_great_row : Addr
  fd__law_great_row : FuncData
  f_law : Addr
  fd_law : FuncData
  t_MOST_ENTRIES : Tok
def mkT (g : FP) (a : Adr) : Kt where
  K := g.K
  ca := fun i => match i with
    | 0 => some a.C_Grade
    | _ => none
  at_ := at_
  sub := sub_
  xa := fun _ => none
  xt := fun _ => []
structure Txt (g : FP) (a : Adr) : Prop where
  kt : KtOk (mkT g a)
  _law_digits_F : Fun g.K "_law_digits" "_law_digits" s__law_digits a.f__law_digits a.fd__law_digits
  _law_digits_b : L2.Binds g.K a.fd__law_digits ["cell", "sizes"] []
  h__law_digits : g.mg "_law_digits" = some (.ref a.f__law_digits)
  _law_cell_F : Fun g.K "_law_cell" "_law_cell" s__law_cell a.f__law_cell a.fd__law_cell
  _law_cell_b : L2.Binds g.K a.fd__law_cell ["script", "k"] []
  h__law_cell : g.mg "_law_cell" = some (.ref a.f__law_cell)
  _law_raised_F : Fun g.K "_law_raised" "_law_raised" s__law_raised a.f__law_raised a.fd__law_raised
  _law_raised_b : L2.Binds g.K a.fd__law_raised ["grade", "by"] []
  h__law_raised : g.mg "_law_raised" = some (.ref a.f__law_raised)
  _law_entry_F : Fun g.K "_law_entry" "_law_entry" s__law_entry a.f__law_entry a.fd__law_entry
  _law_entry_b : L2.Binds g.K a.fd__law_entry ["kind", "amount", "least", "endless"] []
  h__law_entry : g.mg "_law_entry" = some (.ref a.f__law_entry)
  _law_grade_F : Fun g.K "_law_grade" "_law_grade" s__law_grade a.f__law_grade a.fd__law_grade
  _law_grade_b : L2.Binds g.K a.fd__law_grade ["cell", "tame"] []
  h__law_grade : g.mg "_law_grade" = some (.ref a.f__law_grade)
  _law_whole_F : Fun g.K "_law_whole" "_law_whole" s__law_whole a.f__law_whole a.fd__law_whole
  _law_whole_b : L2.Binds g.K a.fd__law_whole ["value"] []
  h__law_whole : g.mg "_law_whole" = some (.ref a.f__law_whole)
  _law_longer_F : Fun g.K "_law_longer" "_law_longer" s__law_longer a.f__law_longer a.fd__law_longer
  _law_longer_b : L2.Binds g.K a.fd__law_longer ["grade", "many"] []
  h__law_longer : g.mg "_law_longer" = some (.ref a.f__law_longer)
  _law_standing_F : Fun g.K "_law_standing" "_law_standing" s__law_standing a.f__law_standing a.fd__law_standing
  _law_standing_b : L2.Binds g.K a.fd__law_standing ["grade", "number"] []
  h__law_standing : g.mg "_law_standing" = some (.ref a.f__law_standing)
  _law_lesser_F : Fun g.K "_law_lesser" "_law_lesser" s__law_lesser a.f__law_lesser a.fd__law_lesser
  _law_lesser_b : L2.Binds g.K a.fd__law_lesser ["one", "two"] []
  h__law_lesser : g.mg "_law_lesser" = some (.ref a.f__law_lesser)
  _law_at_F : Fun g.K "_law_at" "_law_at" s__law_at a.f__law_at a.fd__law_at
  _law_at_b : L2.Binds g.K a.fd__law_at ["grade", "worth"] []
  h__law_at : g.mg "_law_at" = some (.ref a.f__law_at)
  _law_both_F : Fun g.K "_law_both" "_law_both" s__law_both a.f__law_both a.fd__law_both
  _law_both_b : L2.Binds g.K a.fd__law_both ["one", "two", "behind_another"] []
  h__law_both : g.mg "_law_both" = some (.ref a.f__law_both)
  _law_least_of_all_F : Fun g.K "_law_least_of_all" "_law_least_of_all" s__law_least_of_all a.f__law_least_of_all a.fd__law_least_of_all
  _law_least_of_all_b : L2.Binds g.K a.fd__law_least_of_all ["grades"] []
  h__law_least_of_all : g.mg "_law_least_of_all" = some (.ref a.f__law_least_of_all)
  is_whole_F : Fun g.K "is_whole" "is_whole" s_is_whole a.f_is_whole a.fd_is_whole
  is_whole_b : L2.Binds g.K a.fd_is_whole ["thing"] []
  h_is_whole : g.mg "is_whole" = some (.ref a.f_is_whole)
  is_number_F : Fun g.K "is_number" "is_number" s_is_number a.f_is_number a.fd_is_number
  is_number_b : L2.Binds g.K a.fd_is_number ["thing"] []
  h_is_number : g.mg "is_number" = some (.ref a.f_is_number)
  is_worth_F : Fun g.K "is_worth" "is_worth" s_is_worth a.f_is_worth a.fd_is_worth
  is_worth_b : L2.Binds g.K a.fd_is_worth ["thing"] []
  h_is_worth : g.mg "is_worth" = some (.ref a.f_is_worth)
  rank_of_F : Fun g.K "rank_of" "rank_of" s_rank_of a.f_rank_of a.fd_rank_of
  rank_of_b : L2.Binds g.K a.fd_rank_of ["worth"] []
  rank_of_kw0 : KBI g.K a.fd_rank_of ["worth"] 0 ["worth"] [0] []
  rank_of_kr0 : ∀ G, Reps (mkT g a) G [] []
  h_rank_of : g.mg "rank_of" = some (.ref a.f_rank_of)
  is_before_F : Fun g.K "is_before" "is_before" s_is_before a.f_is_before a.fd_is_before
  is_before_b : L2.Binds g.K a.fd_is_before ["one", "two"] []
  is_before_kw0 : KBI g.K a.fd_is_before ["one", "two"] 0 ["two", "one"] [1, 0] []
  is_before_kr0 : ∀ G, Reps (mkT g a) G [] []
  h_is_before : g.mg "is_before" = some (.ref a.f_is_before)
  first_bad_entry_F : Fun g.K "first_bad_entry" "first_bad_entry" s_first_bad_entry a.f_first_bad_entry a.fd_first_bad_entry
  first_bad_entry_b : L2.Binds g.K a.fd_first_bad_entry ["table"] []
  h_first_bad_entry : g.mg "first_bad_entry" = some (.ref a.f_first_bad_entry)
  is_right_more_F : Fun g.K "is_right_more" "is_right_more" s_is_right_more a.f_is_right_more a.fd_is_right_more
  is_right_more_b : L2.Binds g.K a.fd_is_right_more ["table", "more"] []
  h_is_right_more : g.mg "is_right_more" = some (.ref a.f_is_right_more)
  beyond_F : Fun g.K "beyond" "beyond" s_beyond a.f_beyond a.fd_beyond
  beyond_b : L2.Binds g.K a.fd_beyond ["number", "more"] []
  h_beyond : g.mg "beyond" = some (.ref a.f_beyond)
  least_table_F : Fun g.K "least_table" "least_table" s_least_table a.f_least_table a.fd_least_table
  least_table_b : L2.Binds g.K a.fd_least_table ["table", "more"] []
  h_least_table : g.mg "least_table" = some (.ref a.f_least_table)
  Grade_init_FD : FunD g.K "__init__" "Grade.__init__" (defArgs s_Grade_init) (defBody s_Grade_init) (defScope s_Grade_init) a.dvs_Grade_init [] a.f_Grade_init a.fd_Grade_init
  Grade_init_b : L2.Binds g.K a.fd_Grade_init ["self", "table", "more"] []
  Grade_init_b1 : L2.Binds g.K a.fd_Grade_init ["self", "table", "more"] a.ds_Grade_init_1
  Grade_init_d1 : Vals a.dv_Grade_init_1 a.ds_Grade_init_1
  Grade_init_r1 : ∀ G, Reps (mkT g a) G a.dv_Grade_init_1 [.tup [], .int 0]
  mk_Grade : Mk g.K a.C_Grade a.f_Grade_init
  least_of_F : Fun g.K "least_of" "least_of" s_least_of a.f_least_of a.fd_least_of
  least_of_b : L2.Binds g.K a.fd_least_of ["worths"] []
  least_of_kw0 : KBI g.K a.fd_least_of ["worths"] 0 ["worths"] [0] []
  least_of_kr0 : ∀ G, Reps (mkT g a) G [] []
  h_least_of : g.mg "least_of" = some (.ref a.f_least_of)
  led_F : Fun g.K "led" "led" s_led a.f_led a.fd_led
  led_b : L2.Binds g.K a.fd_led ["table", "more", "worth"] []
  h_led : g.mg "led" = some (.ref a.f_led)
  Grade_or_F : Fun g.K "__or__" "Grade.__or__" s_Grade_or a.f_Grade_or a.fd_Grade_or
  Grade_or_b : L2.Binds g.K a.fd_Grade_or ["self", "other"] []
  Grade_or_at : PySem.W.findIn g.K (.ref a.C_Grade) "__or__" = some (some (.ref a.f_Grade_or))
  Grade_or_fn : PySem.W.isFn g.K (.ref a.f_Grade_or) = true
  Grade_or_me : Meth g.K a.C_Grade "__or__" a.f_Grade_or
  _law_grouped_F : Fun g.K "_law_grouped" "_law_grouped" s__law_grouped a.f__law_grouped a.fd__law_grouped
  _law_grouped_b : L2.Binds g.K a.fd__law_grouped ["made", "digits"] []
  h__law_grouped : g.mg "_law_grouped" = some (.ref a.f__law_grouped)
  _law_same_worth_F : Fun g.K "_law_same_worth" "_law_same_worth" s__law_same_worth a.f__law_same_worth a.fd__law_same_worth
  _law_same_worth_b : L2.Binds g.K a.fd__law_same_worth ["told", "due"] []
  h__law_same_worth : g.mg "_law_same_worth" = some (.ref a.f__law_same_worth)
  _law_same_worths_F : Fun g.K "_law_same_worths" "_law_same_worths" s__law_same_worths a.f__law_same_worths a.fd__law_same_worths
  _law_same_worths_b : L2.Binds g.K a.fd__law_same_worths ["told", "due"] []
  h__law_same_worths : g.mg "_law_same_worths" = some (.ref a.f__law_same_worths)
  _law_least_entries_F : Fun g.K "_law_least_entries" "_law_least_entries" s__law_least_entries a.f__law_least_entries a.fd__law_least_entries
  _law_least_entries_b : L2.Binds g.K a.fd__law_least_entries ["grade"] []
  h__law_least_entries : g.mg "_law_least_entries" = some (.ref a.f__law_least_entries)
  Grade_call_F : Fun g.K "__call__" "Grade.__call__" s_Grade_call a.f_Grade_call a.fd_Grade_call
  Grade_call_b : L2.Binds g.K a.fd_Grade_call ["self", "worth"] []
  Grade_call_at : PySem.W.findIn g.K (.ref a.C_Grade) "__call__" = some (some (.ref a.f_Grade_call))
  Grade_call_fn : PySem.W.isFn g.K (.ref a.f_Grade_call) = true
  Grade_call_me : Meth g.K a.C_Grade "__call__" a.f_Grade_call
  Grade_call_fi : PySem.W.fnIn g.K a.f_Grade_call = true
  _law_tells_F : Fun g.K "_law_tells" "_law_tells" s__law_tells a.f__law_tells a.fd__law_tells
  _law_tells_b : L2.Binds g.K a.fd__law_tells ["made", "due", "worths"] []
  h__law_tells : g.mg "_law_tells" = some (.ref a.f__law_tells)
  Grade_eq_F : Fun g.K "__eq__" "Grade.__eq__" s_Grade_eq a.f_Grade_eq a.fd_Grade_eq
  Grade_eq_b : L2.Binds g.K a.fd_Grade_eq ["self", "other"] []
  Grade_eq_at : PySem.W.findIn g.K (.ref a.C_Grade) "__eq__" = some (some (.ref a.f_Grade_eq))
  Grade_eq_fn : PySem.W.isFn g.K (.ref a.f_Grade_eq) = true
  Grade_eq_me : Meth g.K a.C_Grade "__eq__" a.f_Grade_eq
  _law_equal_F : Fun g.K "_law_equal" "_law_equal" s__law_equal a.f__law_equal a.fd__law_equal
  _law_equal_b : L2.Binds g.K a.fd__law_equal ["one", "two"] []
  h__law_equal : g.mg "_law_equal" = some (.ref a.f__law_equal)
  Grade_stands_at_F : Fun g.K "stands_at" "Grade.stands_at" s_Grade_stands_at a.f_Grade_stands_at a.fd_Grade_stands_at
  Grade_stands_at_b : L2.Binds g.K a.fd_Grade_stands_at ["self", "number"] []
  Grade_stands_at_at : PySem.W.findIn g.K (.ref a.C_Grade) "stands_at" = some (some (.ref a.f_Grade_stands_at))
  Grade_stands_at_fn : PySem.W.isFn g.K (.ref a.f_Grade_stands_at) = true
  Grade_stands_at_me : Meth g.K a.C_Grade "stands_at" a.f_Grade_stands_at
  Grade_standing_F : Fun g.K "standing" "Grade.standing" s_Grade_standing a.f_Grade_standing a.fd_Grade_standing
  Grade_standing_b : L2.Binds g.K a.fd_Grade_standing ["self"] []
  Grade_standing_pr : PropOf g.K a.C_Grade "standing" a.p_Grade_standing a.f_Grade_standing
  _law_stands_where_one_F : Fun g.K "_law_stands_where_one" "_law_stands_where_one" s__law_stands_where_one a.f__law_stands_where_one a.fd__law_stands_where_one
  _law_stands_where_one_b : L2.Binds g.K a.fd__law_stands_where_one ["made", "grades", "numbers"] []
  h__law_stands_where_one : g.mg "_law_stands_where_one" = some (.ref a.f__law_stands_where_one)
  total_of_F : Fun g.K "total_of" "total_of" s_total_of a.f_total_of a.fd_total_of
  total_of_b : L2.Binds g.K a.fd_total_of ["worths"] []
  total_of_kw0 : KBI g.K a.fd_total_of ["worths"] 0 ["worths"] [0] []
  total_of_kr0 : ∀ G, Reps (mkT g a) G [] []
  h_total_of : g.mg "total_of" = some (.ref a.f_total_of)
  Grade_rshift_F : Fun g.K "__rshift__" "Grade.__rshift__" s_Grade_rshift a.f_Grade_rshift a.fd_Grade_rshift
  Grade_rshift_b : L2.Binds g.K a.fd_Grade_rshift ["self", "other"] []
  Grade_rshift_at : PySem.W.findIn g.K (.ref a.C_Grade) "__rshift__" = some (some (.ref a.f_Grade_rshift))
  Grade_rshift_fn : PySem.W.isFn g.K (.ref a.f_Grade_rshift) = true
  Grade_rshift_me : Meth g.K a.C_Grade "__rshift__" a.f_Grade_rshift
  _law_expression_F : Fun g.K "_law_expression" "_law_expression" s__law_expression a.f__law_expression a.fd__law_expression
  _law_expression_b : L2.Binds g.K a.fd__law_expression ["made", "grades", "digits"] []
  h__law_expression : g.mg "_law_expression" = some (.ref a.f__law_expression)
  _law_goes_over_F : Fun g.K "_law_goes_over" "_law_goes_over" s__law_goes_over a.f__law_goes_over a.fd__law_goes_over
  _law_goes_over_b : L2.Binds g.K a.fd__law_goes_over ["made", "grades", "worths"] []
  h__law_goes_over : g.mg "_law_goes_over" = some (.ref a.f__law_goes_over)
  greatest_of_F : Fun g.K "greatest_of" "greatest_of" s_greatest_of a.f_greatest_of a.fd_greatest_of
  greatest_of_b : L2.Binds g.K a.fd_greatest_of ["worths"] []
  greatest_of_kw0 : KBI g.K a.fd_greatest_of ["worths"] 0 ["worths"] [0] []
  greatest_of_kr0 : ∀ G, Reps (mkT g a) G [] []
  h_greatest_of : g.mg "greatest_of" = some (.ref a.f_greatest_of)
  _law_row_told_F : Fun g.K "_law_row_told" "_law_row_told" s__law_row_told a.f__law_row_told a.fd__law_row_told
  _law_row_told_b : L2.Binds g.K a.fd__law_row_told ["row"] []
  h__law_row_told : g.mg "_law_row_told" = some (.ref a.f__law_row_told)
  _law_order_told_F : Fun g.K "_law_order_told" "_law_order_told" s__law_order_told a.f__law_order_told a.fd__law_order_told
  _law_order_told_b : L2.Binds g.K a.fd__law_order_told ["row"] []
  h__law_order_told : g.mg "_law_order_told" = some (.ref a.f__law_order_told)
  _law_long_rows_told_F : Fun g.K "_law_long_rows_told" "_law_long_rows_told" s__law_long_rows_told a.f__law_long_rows_told a.fd__law_long_rows_told
  _law_long_rows_told_b : L2.Binds g.K a.fd__law_long_rows_told ["grades", "numbers"] []
  h__law_long_rows_told : g.mg "_law_long_rows_told" = some (.ref a.f__law_long_rows_told)
  _law_great_row_F : Fun g.K "_law_great_row" "_law_great_row" s__law_great_row a.f__law_great_row a.fd__law_great_row
  _law_great_row_b : L2.Binds g.K a.fd__law_great_row ["cell"] []
  h__law_great_row : g.mg "_law_great_row" = some (.ref a.f__law_great_row)
  law_F : Fun g.K "law" "law" s_law a.f_law a.fd_law
  law_b : L2.Binds g.K a.fd_law ["script"] []
  h_law : g.mg "law" = some (.ref a.f_law)
  h_Grade : g.mg "Grade" = some (.ref a.C_Grade)
  sf_Grade : PySem.W.selfFirst g.K a.C_Grade = true
  nf_Grade : ∀ n ∈ ["NoneType", "bool", "int", "str", "list", "tuple", "dict"], PySem.W.notFirst g.K a.C_Grade (.type n) = true
  nc_Grade : ∀ d E, (mkT g a).ca d = some E → d = 0 ∨ sub_ d 0 = false → PySem.W.notFirst g.K a.C_Grade (.ref E) = true
  n_abs : g.mg "abs" = none
  n_bool : g.mg "bool" = none
  n_int : g.mg "int" = none
  n_isinstance : g.mg "isinstance" = none
  n_len : g.mg "len" = none
  n_list : g.mg "list" = none
  n_max : g.mg "max" = none
  n_min : g.mg "min" = none
  n_range : g.mg "range" = none
  n_tuple : g.mg "tuple" = none
  k_MOST_ENTRIES : g.mg "MOST_ENTRIES" = some (.int 30 a.t_MOST_ENTRIES)
theorem Txt._law_digits_R {g : FP} {a : Adr} (S : Txt g a) {k : Nat} : OkRule g "_law_digits" s__law_digits a.f__law_digits a.fd__law_digits ["cell", "sizes", "row", "rest", "seed", "great", "k", "twice"] ["cell", "sizes"] k := rule_fun S._law_digits_F sc__law_digits
theorem Txt._law_cell_R {g : FP} {a : Adr} (S : Txt g a) {k : Nat} : OkRule g "_law_cell" s__law_cell a.f__law_cell a.fd__law_cell ["script", "k", "seed", "cell"] ["script", "k"] k := rule_fun S._law_cell_F sc__law_cell
theorem Txt._law_raised_R {g : FP} {a : Adr} (S : Txt g a) {k : Nat} : OkRule g "_law_raised" s__law_raised a.f__law_raised a.fd__law_raised ["grade", "by", "entries", "entry"] ["grade", "by"] k := rule_fun S._law_raised_F sc__law_raised
theorem Txt._law_entry_R {g : FP} {a : Adr} (S : Txt g a) {k : Nat} : OkRule g "_law_entry" s__law_entry a.f__law_entry a.fd__law_entry ["kind", "amount", "least", "endless", "small"] ["kind", "amount", "least", "endless"] k := rule_fun S._law_entry_F sc__law_entry
theorem Txt._law_grade_R {g : FP} {a : Adr} (S : Txt g a) {k : Nat} : OkRule g "_law_grade" s__law_grade a.f__law_grade a.fd__law_grade ["cell", "tame", "row", "many", "amount", "gain", "entries", "last", "k"] ["cell", "tame"] k := rule_fun S._law_grade_F sc__law_grade
theorem Txt._law_whole_R {g : FP} {a : Adr} (S : Txt g a) {k : Nat} : OkRule g "_law_whole" s__law_whole a.f__law_whole a.fd__law_whole ["value"] ["value"] k := rule_fun S._law_whole_F sc__law_whole
theorem Txt._law_longer_R {g : FP} {a : Adr} (S : Txt g a) {k : Nat} : OkRule g "_law_longer" s__law_longer a.f__law_longer a.fd__law_longer ["grade", "many", "entries", "k"] ["grade", "many"] k := rule_fun S._law_longer_F sc__law_longer
theorem Txt._law_standing_R {g : FP} {a : Adr} (S : Txt g a) {k : Nat} : OkRule g "_law_standing" s__law_standing a.f__law_standing a.fd__law_standing ["grade", "number", "entries", "head", "entry"] ["grade", "number"] k := rule_fun S._law_standing_F sc__law_standing
theorem Txt._law_lesser_R {g : FP} {a : Adr} (S : Txt g a) {k : Nat} : OkRule g "_law_lesser" s__law_lesser a.f__law_lesser a.fd__law_lesser ["one", "two"] ["one", "two"] k := rule_fun S._law_lesser_F sc__law_lesser
theorem Txt._law_at_R {g : FP} {a : Adr} (S : Txt g a) {k : Nat} : OkRule g "_law_at" s__law_at a.f__law_at a.fd__law_at ["grade", "worth"] ["grade", "worth"] k := rule_fun S._law_at_F sc__law_at
theorem Txt._law_both_R {g : FP} {a : Adr} (S : Txt g a) {k : Nat} : OkRule g "_law_both" s__law_both a.f__law_both a.fd__law_both ["one", "two", "behind_another", "size", "table", "number"] ["one", "two", "behind_another"] k := rule_fun S._law_both_F sc__law_both
theorem Txt._law_least_of_all_R {g : FP} {a : Adr} (S : Txt g a) {k : Nat} : OkRule g "_law_least_of_all" s__law_least_of_all a.f__law_least_of_all a.fd__law_least_of_all ["grades", "due", "grade"] ["grades"] k := rule_fun S._law_least_of_all_F sc__law_least_of_all
theorem Txt.is_whole_R {g : FP} {a : Adr} (S : Txt g a) {k : Nat} : OkRule g "is_whole" s_is_whole a.f_is_whole a.fd_is_whole ["thing"] ["thing"] k := rule_fun S.is_whole_F sc_is_whole
theorem Txt.is_number_R {g : FP} {a : Adr} (S : Txt g a) {k : Nat} : OkRule g "is_number" s_is_number a.f_is_number a.fd_is_number ["thing"] ["thing"] k := rule_fun S.is_number_F sc_is_number
theorem Txt.is_worth_R {g : FP} {a : Adr} (S : Txt g a) {k : Nat} : OkRule g "is_worth" s_is_worth a.f_is_worth a.fd_is_worth ["thing"] ["thing"] k := rule_fun S.is_worth_F sc_is_worth
theorem Txt.rank_of_R {g : FP} {a : Adr} (S : Txt g a) {k : Nat} : OkRule g "rank_of" s_rank_of a.f_rank_of a.fd_rank_of ["worth"] ["worth"] k := rule_fun S.rank_of_F sc_rank_of
theorem Txt.is_before_R {g : FP} {a : Adr} (S : Txt g a) {k : Nat} : OkRule g "is_before" s_is_before a.f_is_before a.fd_is_before ["one", "two"] ["one", "two"] k := rule_fun S.is_before_F sc_is_before
theorem Txt.first_bad_entry_R {g : FP} {a : Adr} (S : Txt g a) {k : Nat} : OkRule g "first_bad_entry" s_first_bad_entry a.f_first_bad_entry a.fd_first_bad_entry ["table", "index", "entry"] ["table"] k := rule_fun S.first_bad_entry_F sc_first_bad_entry
theorem Txt.is_right_more_R {g : FP} {a : Adr} (S : Txt g a) {k : Nat} : OkRule g "is_right_more" s_is_right_more a.f_is_right_more a.fd_is_right_more ["table", "more", "last"] ["table", "more"] k := rule_fun S.is_right_more_F sc_is_right_more
theorem Txt.beyond_R {g : FP} {a : Adr} (S : Txt g a) {k : Nat} : OkRule g "beyond" s_beyond a.f_beyond a.fd_beyond ["number", "more"] ["number", "more"] k := rule_fun S.beyond_F sc_beyond
theorem Txt.least_table_R {g : FP} {a : Adr} (S : Txt g a) {k : Nat} : OkRule g "least_table" s_least_table a.f_least_table a.fd_least_table ["table", "more", "size"] ["table", "more"] k := rule_fun S.least_table_F sc_least_table
theorem Txt.Grade_init_R {g : FP} {a : Adr} (S : Txt g a) {k : Nat} : OkRule g "Grade.__init__" s_Grade_init a.f_Grade_init a.fd_Grade_init ["self", "table", "more", "bad"] ["self", "table", "more"] k := rule_funD S.Grade_init_FD sc_Grade_init
theorem Txt.least_of_R {g : FP} {a : Adr} (S : Txt g a) {k : Nat} : OkRule g "least_of" s_least_of a.f_least_of a.fd_least_of ["worths", "least", "worth"] ["worths"] k := rule_fun S.least_of_F sc_least_of
theorem Txt.led_R {g : FP} {a : Adr} (S : Txt g a) {k : Nat} : OkRule g "led" s_led a.f_led a.fd_led ["table", "more", "worth"] ["table", "more", "worth"] k := rule_fun S.led_F sc_led
theorem Txt.Grade_or_R {g : FP} {a : Adr} (S : Txt g a) {k : Nat} : OkRule g "Grade.__or__" s_Grade_or a.f_Grade_or a.fd_Grade_or ["self", "other", "size", "table", "number"] ["self", "other"] k := rule_fun S.Grade_or_F sc_Grade_or
theorem Txt._law_grouped_R {g : FP} {a : Adr} (S : Txt g a) {k : Nat} : OkRule g "_law_grouped" s__law_grouped a.f__law_grouped a.fd__law_grouped ["made", "digits", "rest", "row", "k", "at"] ["made", "digits"] k := rule_fun S._law_grouped_F sc__law_grouped
theorem Txt._law_same_worth_R {g : FP} {a : Adr} (S : Txt g a) {k : Nat} : OkRule g "_law_same_worth" s__law_same_worth a.f__law_same_worth a.fd__law_same_worth ["told", "due"] ["told", "due"] k := rule_fun S._law_same_worth_F sc__law_same_worth
theorem Txt._law_same_worths_R {g : FP} {a : Adr} (S : Txt g a) {k : Nat} : OkRule g "_law_same_worths" s__law_same_worths a.f__law_same_worths a.fd__law_same_worths ["told", "due", "k"] ["told", "due"] k := rule_fun S._law_same_worths_F sc__law_same_worths
theorem Txt._law_least_entries_R {g : FP} {a : Adr} (S : Txt g a) {k : Nat} : OkRule g "_law_least_entries" s__law_least_entries a.f__law_least_entries a.fd__law_least_entries ["grade", "entries", "k", "place", "due"] ["grade"] k := rule_fun S._law_least_entries_F sc__law_least_entries
theorem Txt.Grade_call_R {g : FP} {a : Adr} (S : Txt g a) {k : Nat} : OkRule g "Grade.__call__" s_Grade_call a.f_Grade_call a.fd_Grade_call ["self", "worth"] ["self", "worth"] k := rule_fun S.Grade_call_F sc_Grade_call
theorem Txt._law_tells_R {g : FP} {a : Adr} (S : Txt g a) {k : Nat} : OkRule g "_law_tells" s__law_tells a.f__law_tells a.fd__law_tells ["made", "due", "worths", "worth"] ["made", "due", "worths"] k := rule_fun S._law_tells_F sc__law_tells
theorem Txt.Grade_eq_R {g : FP} {a : Adr} (S : Txt g a) {k : Nat} : OkRule g "Grade.__eq__" s_Grade_eq a.f_Grade_eq a.fd_Grade_eq ["self", "other"] ["self", "other"] k := rule_fun S.Grade_eq_F sc_Grade_eq
theorem Txt._law_equal_R {g : FP} {a : Adr} (S : Txt g a) {k : Nat} : OkRule g "_law_equal" s__law_equal a.f__law_equal a.fd__law_equal ["one", "two", "told"] ["one", "two"] k := rule_fun S._law_equal_F sc__law_equal
theorem Txt.Grade_stands_at_R {g : FP} {a : Adr} (S : Txt g a) {k : Nat} : OkRule g "Grade.stands_at" s_Grade_stands_at a.f_Grade_stands_at a.fd_Grade_stands_at ["self", "number"] ["self", "number"] k := rule_fun S.Grade_stands_at_F sc_Grade_stands_at
theorem Txt.Grade_standing_R {g : FP} {a : Adr} (S : Txt g a) {k : Nat} : OkRule g "Grade.standing" s_Grade_standing a.f_Grade_standing a.fd_Grade_standing ["self", "number"] ["self"] k := rule_fun S.Grade_standing_F sc_Grade_standing
theorem Txt._law_stands_where_one_R {g : FP} {a : Adr} (S : Txt g a) {k : Nat} : OkRule g "_law_stands_where_one" s__law_stands_where_one a.f__law_stands_where_one a.fd__law_stands_where_one ["made", "grades", "numbers", "least", "number", "due", "grade", "told"] ["made", "grades", "numbers"] k := rule_fun S._law_stands_where_one_F sc__law_stands_where_one
theorem Txt.total_of_R {g : FP} {a : Adr} (S : Txt g a) {k : Nat} : OkRule g "total_of" s_total_of a.f_total_of a.fd_total_of ["worths", "total", "worth"] ["worths"] k := rule_fun S.total_of_F sc_total_of
theorem Txt.Grade_rshift_R {g : FP} {a : Adr} (S : Txt g a) {k : Nat} : OkRule g "Grade.__rshift__" s_Grade_rshift a.f_Grade_rshift a.fd_Grade_rshift ["self", "other", "size", "table", "number"] ["self", "other"] k := rule_fun S.Grade_rshift_F sc_Grade_rshift
theorem Txt._law_expression_R {g : FP} {a : Adr} (S : Txt g a) {k : Nat} : OkRule g "_law_expression" s__law_expression a.f__law_expression a.fd__law_expression ["made", "grades", "digits", "row", "dues", "k", "at"] ["made", "grades", "digits"] k := rule_fun S._law_expression_F sc__law_expression
theorem Txt._law_goes_over_R {g : FP} {a : Adr} (S : Txt g a) {k : Nat} : OkRule g "_law_goes_over" s__law_goes_over a.f__law_goes_over a.fd__law_goes_over ["made", "grades", "worths", "one", "two", "three", "due", "left", "right"] ["made", "grades", "worths"] k := rule_fun S._law_goes_over_F sc__law_goes_over
theorem Txt.greatest_of_R {g : FP} {a : Adr} (S : Txt g a) {k : Nat} : OkRule g "greatest_of" s_greatest_of a.f_greatest_of a.fd_greatest_of ["worths", "greatest", "worth"] ["worths"] k := rule_fun S.greatest_of_F sc_greatest_of
theorem Txt._law_row_told_R {g : FP} {a : Adr} (S : Txt g a) {k : Nat} : OkRule g "_law_row_told" s__law_row_told a.f__law_row_told a.fd__law_row_told ["row", "least", "greatest", "total", "worth", "worths"] ["row"] k := rule_fun S._law_row_told_F sc__law_row_told
theorem Txt._law_order_told_R {g : FP} {a : Adr} (S : Txt g a) {k : Nat} : OkRule g "_law_order_told" s__law_order_told a.f__law_order_told a.fd__law_order_told ["row", "k", "other", "told", "due"] ["row"] k := rule_fun S._law_order_told_F sc__law_order_told
theorem Txt._law_long_rows_told_R {g : FP} {a : Adr} (S : Txt g a) {k : Nat} : OkRule g "_law_long_rows_told" s__law_long_rows_told a.f__law_long_rows_told a.fd__law_long_rows_told ["grades", "numbers", "grade", "row", "k", "number"] ["grades", "numbers"] k := rule_fun S._law_long_rows_told_F sc__law_long_rows_told
theorem Txt._law_great_row_R {g : FP} {a : Adr} (S : Txt g a) {k : Nat} : OkRule g "_law_great_row" s__law_great_row a.f__law_great_row a.fd__law_great_row ["cell", "row", "many", "worths", "k"] ["cell"] k := rule_fun S._law_great_row_F sc__law_great_row
theorem Txt.law_R {g : FP} {a : Adr} (S : Txt g a) {k : Nat} : OkRule g "law" s_law a.f_law a.fd_law ["script", "shape", "many", "by", "grades", "due", "raw", "numbers", "worths", "made", "one", "two", "whole", "told", "k", "worth", "row", "digit", "grade"] ["script"] k := rule_fun S.law_F sc_law
end K03

namespace K03
open PySem PySem.Spec PyProof.Rows L2 Px
def b__law_digits (cell_0 sizes_0 : D) : Res D := Res.bind (dispR (.ok [])) fun row_0 => Res.bind (callO intD (consR (.ok cell_0) (.ok []))) fun rest_0 => Res.bind (op2 modD (callO intD (consR (.ok rest_0) (.ok []))) (.ok (.int 2147483629))) fun seed_0 => Res.bind (op2 geD (.ok rest_0) (op2 powD (.ok (.int 10)) (.ok (.int 18)))) fun great_0 => Res.bind (iteR (truR (.ok great_0)) (Res.bind (op2 subD (.ok rest_0) (op2 powD (.ok (.int 10)) (.ok (.int 18)))) fun rest_1 => .ok rest_1) (.ok rest_0)) fun s_0 => Res.bind (callOo rng1 (consR (callO lenD (consR (.ok sizes_0) (.ok []))) (.ok []))) fun ds => Res.bind (forR (fun (s_1 : List D × D × D) (k_0 : D) => Res.bind (op2 modD (callO intD (consR (op2 addD (op2 addD (op2 repD (.ok s_1.2.2) (.ok (.int 48271))) (op2 repD (.ok (.int 974711)) (.ok k_0))) (.ok (.int 12345))) (.ok []))) (.ok (.int 2147483647))) fun seed_1 => iteR (andB (truR (.ok great_0)) (blR (op2 gtD (.ok s_1.2.1) (.ok (.int 0))))) (appR s_1.1 (op2 modD (callO intD (consR (.ok s_1.2.1) (.ok []))) (op2 ixD (.ok sizes_0) (.ok k_0))) fun row_1 => Res.bind (op2 divD (callO intD (consR (.ok s_1.2.1) (.ok []))) (op2 ixD (.ok sizes_0) (.ok k_0))) fun rest_2 => .ok (row_1, rest_2, seed_1)) (Res.bind (op2 modD (callO intD (consR (op2 repD (.ok seed_1) (op2 addD (op2 divD (.ok seed_1) (.ok (.int 65537))) (.ok (.int 3)))) (.ok []))) (.ok (.int 2147483629))) fun twice_0 => appR s_1.1 (op2 modD (op2 divD (.ok twice_0) (.ok (.int 19))) (op2 ixD (.ok sizes_0) (.ok k_0))) fun row_2 => .ok (row_2, s_1.2.1, seed_1))) ds (row_0, s_0, seed_0)) fun s_1 => .ok (.lst s_1.1)
def m__law_digits : List D → Res D
  | [cell_0, sizes_0] => b__law_digits cell_0 sizes_0
  | _ => .bad
theorem hn__law_digits : ∀ ds : List D, ds.length ≠ 2 → m__law_digits ds = .bad := by
  intro ds h
  unfold m__law_digits
  split
  · exact absurd rfl h
  · rfl
theorem ok__law_digits {g : FP} {a : Adr} (S : Txt g a) : FnOk g.P g.w g.K g.mg g.base (L2.CX g.P g.w) 1 a.f__law_digits a.fd__law_digits ["cell", "sizes"] (pureSp (mkT g a) 2 m__law_digits) := by
  refine fn_pure rfl S._law_digits_R sc__law_digits fun cdv A outer s H E C ds hl => ?_
  match ds, hl with
  | [cell_0, sizes_0], _ =>
    show PBX _ _ _ _ _ [some (.val cell_0), some (.val sizes_0), none, none, none, none, none, none] (b__law_digits cell_0 sizes_0) _ _ _
    unfold b__law_digits
    exact (pb_asgO 2 C.nd rfl (.inl rfl) (pxo_lst pax_nil) rfl (.inl rfl) (fun row_0 => nrm [some (.val cell_0), some (.val sizes_0), some (.own row_0), none, none, none, none, none] (pb_asg 3 C.nd rfl (.inl rfl) (px_callTy call_int1 cd_int (by rfl) S.n_int (by decide +kernel) (pax_cons (px_v 0 rfl rfl (.inl rfl) (by decide) (by decide)) pax_nil)) rfl (.inl rfl) (fun rest_0 => nrm [some (.val cell_0), some (.val sizes_0), some (.own row_0), some (.val rest_0), none, none, none, none] (pb_asg 4 C.nd rfl (.inl rfl) (px_op op_modN od_mod (px_callTy call_int1 cd_int (by rfl) S.n_int (by decide +kernel) (pax_cons (px_v 3 rfl rfl (.inl rfl) (by decide) (by decide)) pax_nil)) px_int) rfl (.inl rfl) (fun seed_0 => nrm [some (.val cell_0), some (.val sizes_0), some (.own row_0), some (.val rest_0), some (.val seed_0), none, none, none] (pb_asg 5 C.nd rfl (.inl rfl) (px_cmpR op_ge od_ge (px_v 3 rfl rfl (.inl rfl) (by decide) (by decide)) (px_op op_pow od_pow px_int px_int) (nomark _)) rfl (.inl rfl) (fun great_0 => nrm [some (.val cell_0), some (.val sizes_0), some (.own row_0), some (.val rest_0), some (.val seed_0), some (.val great_0), none, none] (pb_if_j (e' := fun (s_0 : D) => ([some (.val cell_0), some (.val sizes_0), some (.own row_0), some (.val s_0), some (.val seed_0), some (.val great_0), none, none] : Env')) (ptx_tru C.kk (px_v 5 rfl rfl (.inl rfl) (by decide) (by decide)) (fun _ => rfl)) (pb_asg 3 C.nd rfl (.inl rfl) (px_op op_sub od_sub (px_v 3 rfl rfl (.inl rfl) (by decide) (by decide)) (px_op op_pow od_pow px_int px_int)) rfl (.inl rfl) (fun rest_1 => nrm [some (.val cell_0), some (.val sizes_0), some (.own row_0), some (.val rest_1), some (.val seed_0), some (.val great_0), none, none] (pb_nilS (s := rest_1) rfl (by simp [subE])))) (pb_nilS (s := rest_0) rfl (by simp [subE])) (fun s_0 => nrm [some (.val cell_0), some (.val sizes_0), some (.own row_0), some (.val s_0), some (.val seed_0), some (.val great_0), none, none] (pb_forS (e1 := (fun (s_1 : List D × D × D) => ([some (.val cell_0), some (.val sizes_0), some (.own s_1.1), some (.val s_1.2.1), some (.val s_1.2.2), some (.val great_0), none, none] : Env'))) (s0 := (row_0, s_0, seed_0)) C.po C.calm (pix_range1 (by rfl) S.n_range (pax_cons (px_callB call_len cd_len (by rfl) S.n_len PySem.boot_len (pax_cons (px_v 1 rfl rfl (.inl rfl) (by decide) (by decide)) pax_nil)) pax_nil)) (pgx_name 6 C.nd rfl (.inl rfl) (.inl rfl)) (by simp [subE]) (fun s_1 k_0 => nrm [some (.val cell_0), some (.val sizes_0), some (.own s_1.1), some (.val s_1.2.1), some (.val s_1.2.2), some (.val great_0), some (.val k_0), none] (pb_asg 4 C.nd rfl (.inl rfl) (px_op op_modN od_mod (px_callTy call_int1 cd_int (by rfl) S.n_int (by decide +kernel) (pax_cons (px_op op_addAll od_add (px_op op_addAll od_add (px_op op_mulAll od_rep (px_v 4 rfl rfl (.inl rfl) (by decide) (by decide)) px_int) (px_op op_mulAll od_rep px_int (px_v 6 rfl rfl (.inl rfl) (by decide) (by decide)))) px_int) pax_nil)) px_int) rfl (.inl rfl) (fun seed_1 => nrm [some (.val cell_0), some (.val sizes_0), some (.own s_1.1), some (.val s_1.2.1), some (.val seed_1), some (.val great_0), some (.val k_0), none] (pb_if_last (PWX.pt (pwx_and (ptx_tru C.kk (px_v 5 rfl rfl (.inl rfl) (by decide) (by decide)) (fun _ => rfl)) (pwx_and1 (ptx_cmp op_gt od_gt (px_v 3 rfl rfl (.inl rfl) (by decide) (by decide)) px_int (nomark _))))) (pb_append 2 (o := .Name "row" ⟨0, 0, 0, 0⟩) (p1 := ⟨0, 0, 0, 0⟩) (p2 := ⟨0, 0, 0, 0⟩) C.kk rfl (px_op op_modN od_mod (px_callTy call_int1 cd_int (by rfl) S.n_int (by decide +kernel) (pax_cons (px_v 3 rfl rfl (.inl rfl) (by decide) (by decide)) pax_nil)) (px_ix ix_seq od_ix (px_v 1 rfl rfl (.inl rfl) (by decide) (by decide)) (px_v 6 rfl rfl (.inl rfl) (by decide) (by decide)) (fun _ _ => rfl))) (fun _ h => ps_expr (pe_bm PySem.F.plainAttrs_list PySem.F.slot_list_append PySem.F.type_list_append mt_append (pv 2 rfl (.inl rfl)) (pa_cons h pa_nil))) (fun row_1 => nrm [some (.val cell_0), some (.val sizes_0), some (.own row_1), some (.val s_1.2.1), some (.val seed_1), some (.val great_0), some (.val k_0), none] (pb_asg 3 C.nd rfl (.inl rfl) (px_op op_fdivW od_div (px_callTy call_int1 cd_int (by rfl) S.n_int (by decide +kernel) (pax_cons (px_v 3 rfl rfl (.inl rfl) (by decide) (by decide)) pax_nil)) (px_ix ix_seq od_ix (px_v 1 rfl rfl (.inl rfl) (by decide) (by decide)) (px_v 6 rfl rfl (.inl rfl) (by decide) (by decide)) (fun _ _ => rfl))) rfl (.inl rfl) (fun rest_2 => nrm [some (.val cell_0), some (.val sizes_0), some (.own row_1), some (.val rest_2), some (.val seed_1), some (.val great_0), some (.val k_0), none] (pb_nilS (s := (row_1, rest_2, seed_1)) rfl (by simp [subE])))))) (pb_asg 7 C.nd rfl (.inl rfl) (px_op op_modN od_mod (px_callTy call_int1 cd_int (by rfl) S.n_int (by decide +kernel) (pax_cons (px_op op_mulAll od_rep (px_v 4 rfl rfl (.inl rfl) (by decide) (by decide)) (px_op op_addAll od_add (px_op op_fdivW od_div (px_v 4 rfl rfl (.inl rfl) (by decide) (by decide)) px_int) px_int)) pax_nil)) px_int) rfl (.inl rfl) (fun twice_0 => nrm [some (.val cell_0), some (.val sizes_0), some (.own s_1.1), some (.val s_1.2.1), some (.val seed_1), some (.val great_0), some (.val k_0), some (.val twice_0)] (pb_append 2 (o := .Name "row" ⟨0, 0, 0, 0⟩) (p1 := ⟨0, 0, 0, 0⟩) (p2 := ⟨0, 0, 0, 0⟩) C.kk rfl (px_op op_modN od_mod (px_op op_fdivW od_div (px_v 7 rfl rfl (.inl rfl) (by decide) (by decide)) px_int) (px_ix ix_seq od_ix (px_v 1 rfl rfl (.inl rfl) (by decide) (by decide)) (px_v 6 rfl rfl (.inl rfl) (by decide) (by decide)) (fun _ _ => rfl))) (fun _ h => ps_expr (pe_bm PySem.F.plainAttrs_list PySem.F.slot_list_append PySem.F.type_list_append mt_append (pv 2 rfl (.inl rfl)) (pa_cons h pa_nil))) (fun row_2 => nrm [some (.val cell_0), some (.val sizes_0), some (.own row_2), some (.val s_1.2.1), some (.val seed_1), some (.val great_0), some (.val k_0), some (.val twice_0)] (pb_nilS (s := (row_2, s_1.2.1, seed_1)) rfl (by simp [subE])))))))))) (fun s_1 => nrm [some (.val cell_0), some (.val sizes_0), some (.own s_1.1), some (.val s_1.2.1), some (.val s_1.2.2), some (.val great_0), none, none] (pb_frz 2 rfl (nrm [some (.val cell_0), some (.val sizes_0), some (.val (.lst s_1.1)), some (.val s_1.2.1), some (.val s_1.2.2), some (.val great_0), none, none] (pb_retD (fun _ => rfl) (px_v 2 rfl rfl (.inl rfl) (by decide) (by decide)))))) (fun _ => rfl))))))))))))
def b__law_cell (script_0 k_0 : D) : Res D := iteR (blR (op2 ltD (.ok k_0) (callO lenD (consR (.ok script_0) (.ok []))))) (op2 ixD (.ok script_0) (.ok k_0)) (Res.bind (.ok (.int 17)) fun seed_0 => Res.bind (itemsR (.ok script_0)) fun ds => Res.bind (forR (fun (s_0 : D) (cell_0 : D) => Res.bind (op2 modD (callO intD (consR (op2 addD (op2 repD (.ok s_0) (.ok (.int 31))) (op2 modD (callO intD (consR (.ok cell_0) (.ok []))) (.ok (.int 1000003)))) (.ok []))) (.ok (.int 1000003))) fun seed_1 => .ok seed_1) ds seed_0) fun s_0 => op2 modD (callO intD (consR (op2 repD (op2 repD (op2 addD (.ok s_0) (.ok (.int 7))) (op2 addD (.ok k_0) (.ok (.int 3)))) (.ok (.int 69621))) (.ok []))) (.ok (.int 2147483647)))
def m__law_cell : List D → Res D
  | [script_0, k_0] => b__law_cell script_0 k_0
  | _ => .bad
theorem hn__law_cell : ∀ ds : List D, ds.length ≠ 2 → m__law_cell ds = .bad := by
  intro ds h
  unfold m__law_cell
  split
  · exact absurd rfl h
  · rfl
theorem ok__law_cell {g : FP} {a : Adr} (S : Txt g a) : FnOk g.P g.w g.K g.mg g.base (L2.CX g.P g.w) 1 a.f__law_cell a.fd__law_cell ["script", "k"] (pureSp (mkT g a) 2 m__law_cell) := by
  refine fn_pure rfl S._law_cell_R sc__law_cell fun cdv A outer s H E C ds hl => ?_
  match ds, hl with
  | [script_0, k_0], _ =>
    show PBX _ _ _ _ _ [some (.val script_0), some (.val k_0), none, none] (b__law_cell script_0 k_0) _ _ _
    unfold b__law_cell
    exact (pb_if_x0 (ptx_cmp (op_ltAll C.room.units0) od_lt (px_v 1 rfl rfl (.inl rfl) (by decide) (by decide)) (px_callB call_len cd_len (by rfl) S.n_len PySem.boot_len (pax_cons (px_v 0 rfl rfl (.inl rfl) (by decide) (by decide)) pax_nil)) (nomark _)) (pb_retD (fun _ => rfl) (px_ix ix_seq od_ix (px_v 0 rfl rfl (.inl rfl) (by decide) (by decide)) (px_v 1 rfl rfl (.inl rfl) (by decide) (by decide)) (fun _ _ => rfl))) (pb_asg 2 C.nd rfl (.inl rfl) px_int rfl (.inl rfl) (fun seed_0 => nrm [some (.val script_0), some (.val k_0), some (.val seed_0), none] (pb_forS (e1 := (fun (s_0 : D) => ([some (.val script_0), some (.val k_0), some (.val s_0), none] : Env'))) (s0 := seed_0) C.po C.calm (pix_seq C.kk (px_v 0 rfl rfl (.inl rfl) (by decide) (by decide))) (pgx_name 3 C.nd rfl (.inl rfl) (.inl rfl)) (by simp [subE]) (fun s_0 cell_0 => nrm [some (.val script_0), some (.val k_0), some (.val s_0), some (.val cell_0)] (pb_asg 2 C.nd rfl (.inl rfl) (px_op op_modN od_mod (px_callTy call_int1 cd_int (by rfl) S.n_int (by decide +kernel) (pax_cons (px_op op_addAll od_add (px_op op_mulAll od_rep (px_v 2 rfl rfl (.inl rfl) (by decide) (by decide)) px_int) (px_op op_modN od_mod (px_callTy call_int1 cd_int (by rfl) S.n_int (by decide +kernel) (pax_cons (px_v 3 rfl rfl (.inl rfl) (by decide) (by decide)) pax_nil)) px_int)) pax_nil)) px_int) rfl (.inl rfl) (fun seed_1 => nrm [some (.val script_0), some (.val k_0), some (.val seed_1), some (.val cell_0)] (pb_nilS (s := seed_1) rfl (by simp [subE]))))) (fun s_0 => nrm [some (.val script_0), some (.val k_0), some (.val s_0), none] (pb_retD (fun _ => rfl) (px_op op_modN od_mod (px_callTy call_int1 cd_int (by rfl) S.n_int (by decide +kernel) (pax_cons (px_op op_mulAll od_rep (px_op op_mulAll od_rep (px_op op_addAll od_add (px_v 2 rfl rfl (.inl rfl) (by decide) (by decide)) px_int) (px_op op_addAll od_add (px_v 1 rfl rfl (.inl rfl) (by decide) (by decide)) px_int)) px_int) pax_nil)) px_int))) (fun _ => rfl)))))
def b__law_raised (grade_0 by_0 : D) : Res D := Res.bind (dispR (.ok [])) fun entries_0 => Res.bind (itemsR (op2 ixD (.ok grade_0) (.ok (.int 0)))) fun ds => Res.bind (forR (fun (s_0 : List D) (entry_0 : D) => iteR (blR (op2 isND (.ok entry_0) (.ok .non))) (appR s_0 (.ok .non) fun entries_1 => .ok entries_1) (appR s_0 (op2 addD (.ok entry_0) (.ok by_0)) fun entries_2 => .ok entries_2)) ds entries_0) fun s_0 => iteR (blR (op2 isND (op2 ixD (.ok grade_0) (.ok (.int 1))) (.ok .non))) (lstV (dispR (consR (.ok (.lst s_0)) (consR (.ok .non) (.ok []))))) (lstV (dispR (consR (.ok (.lst s_0)) (consR (op2 addD (op2 ixD (.ok grade_0) (.ok (.int 1))) (.ok by_0)) (.ok [])))))
def m__law_raised : List D → Res D
  | [grade_0, by_0] => b__law_raised grade_0 by_0
  | _ => .bad
theorem hn__law_raised : ∀ ds : List D, ds.length ≠ 2 → m__law_raised ds = .bad := by
  intro ds h
  unfold m__law_raised
  split
  · exact absurd rfl h
  · rfl
theorem ok__law_raised {g : FP} {a : Adr} (S : Txt g a) : FnOk g.P g.w g.K g.mg g.base (L2.CX g.P g.w) 1 a.f__law_raised a.fd__law_raised ["grade", "by"] (pureSp (mkT g a) 2 m__law_raised) := by
  refine fn_pure rfl S._law_raised_R sc__law_raised fun cdv A outer s H E C ds hl => ?_
  match ds, hl with
  | [grade_0, by_0], _ =>
    show PBX _ _ _ _ _ [some (.val grade_0), some (.val by_0), none, none] (b__law_raised grade_0 by_0) _ _ _
    unfold b__law_raised
    exact (pb_asgO 2 C.nd rfl (.inl rfl) (pxo_lst pax_nil) rfl (.inl rfl) (fun entries_0 => nrm [some (.val grade_0), some (.val by_0), some (.own entries_0), none] (pb_forS (e1 := (fun (s_0 : List D) => ([some (.val grade_0), some (.val by_0), some (.own s_0), none] : Env'))) (s0 := entries_0) C.po C.calm (pix_seq C.kk (px_ix ix_seq od_ix (px_v 0 rfl rfl (.inl rfl) (by decide) (by decide)) px_int (fun _ _ => rfl))) (pgx_name 3 C.nd rfl (.inl rfl) (.inl rfl)) (by simp [subE]) (fun s_0 entry_0 => nrm [some (.val grade_0), some (.val by_0), some (.own s_0), some (.val entry_0)] (pb_if_last (ptx_cmp op_isN od_isN (px_v 3 rfl rfl (.inl rfl) (by decide) (by decide)) px_non (nomark _)) (pb_append 2 (o := .Name "entries" ⟨0, 0, 0, 0⟩) (p1 := ⟨0, 0, 0, 0⟩) (p2 := ⟨0, 0, 0, 0⟩) C.kk rfl px_non (fun _ h => ps_expr (pe_bm PySem.F.plainAttrs_list PySem.F.slot_list_append PySem.F.type_list_append mt_append (pv 2 rfl (.inl rfl)) (pa_cons h pa_nil))) (fun entries_1 => nrm [some (.val grade_0), some (.val by_0), some (.own entries_1), some (.val entry_0)] (pb_nilS (s := entries_1) rfl (by simp [subE])))) (pb_append 2 (o := .Name "entries" ⟨0, 0, 0, 0⟩) (p1 := ⟨0, 0, 0, 0⟩) (p2 := ⟨0, 0, 0, 0⟩) C.kk rfl (px_op op_addAll od_add (px_v 3 rfl rfl (.inl rfl) (by decide) (by decide)) (px_v 1 rfl rfl (.inl rfl) (by decide) (by decide))) (fun _ h => ps_expr (pe_bm PySem.F.plainAttrs_list PySem.F.slot_list_append PySem.F.type_list_append mt_append (pv 2 rfl (.inl rfl)) (pa_cons h pa_nil))) (fun entries_2 => nrm [some (.val grade_0), some (.val by_0), some (.own entries_2), some (.val entry_0)] (pb_nilS (s := entries_2) rfl (by simp [subE])))))) (fun s_0 => nrm [some (.val grade_0), some (.val by_0), some (.own s_0), none] (pb_frz 2 rfl (nrm [some (.val grade_0), some (.val by_0), some (.val (.lst s_0)), none] (pb_if_x0 (ptx_cmp op_isN od_isN (px_ix ix_seq od_ix (px_v 0 rfl rfl (.inl rfl) (by decide) (by decide)) px_int (fun _ _ => rfl)) px_non (nomark _)) (pb_retD (fun _ => rfl) (PXO.px (pxo_lst (pax_cons (px_v 2 rfl rfl (.inl rfl) (by decide) (by decide)) (pax_cons px_non pax_nil))))) (pb_retD (fun _ => rfl) (PXO.px (pxo_lst (pax_cons (px_v 2 rfl rfl (.inl rfl) (by decide) (by decide)) (pax_cons (px_op op_addAll od_add (px_ix ix_seq od_ix (px_v 0 rfl rfl (.inl rfl) (by decide) (by decide)) px_int (fun _ _ => rfl)) (px_v 1 rfl rfl (.inl rfl) (by decide) (by decide))) pax_nil))))))))) (fun _ => rfl))))
def b__law_entry (kind_0 amount_0 least_0 endless_0 : D) : Res D := iteR (andB (blR (op2 eqD (.ok kind_0) (.ok (.int 11)))) (truR (.ok endless_0))) (.ok .non) (Res.bind (lstV (dispR (consR (.ok (.int 0)) (consR (.ok (.int 0)) (consR (.ok (.int 0)) (consR (.ok (.int 0)) (consR (.ok (.int 0)) (consR (.ok (.int 1)) (consR (.ok (.int 1)) (consR (op2 modD (callO intD (consR (.ok amount_0) (.ok []))) (.ok (.int 3))) (consR (op2 modD (callO intD (consR (.ok amount_0) (.ok []))) (.ok (.int 5))) (consR (op2 modD (callO intD (consR (.ok amount_0) (.ok []))) (.ok (.int 12))) (.ok []))))))))))))) fun small_0 => op2 addD (.ok least_0) (op2 ixD (op2 addD (.ok small_0) (lstV (dispR (consR (.ok amount_0) (consR (.ok (.int 2)) (consR (op2 repD (.ok amount_0) (op2 powD (.ok (.int 10)) (.ok (.int 12)))) (.ok []))))))) (.ok kind_0)))
def m__law_entry : List D → Res D
  | [kind_0, amount_0, least_0, endless_0] => b__law_entry kind_0 amount_0 least_0 endless_0
  | _ => .bad
theorem hn__law_entry : ∀ ds : List D, ds.length ≠ 4 → m__law_entry ds = .bad := by
  intro ds h
  unfold m__law_entry
  split
  · exact absurd rfl h
  · rfl
theorem ok__law_entry {g : FP} {a : Adr} (S : Txt g a) : FnOk g.P g.w g.K g.mg g.base (L2.CX g.P g.w) 1 a.f__law_entry a.fd__law_entry ["kind", "amount", "least", "endless"] (pureSp (mkT g a) 4 m__law_entry) := by
  refine fn_pure rfl S._law_entry_R sc__law_entry fun cdv A outer s H E C ds hl => ?_
  match ds, hl with
  | [kind_0, amount_0, least_0, endless_0], _ =>
    show PBX _ _ _ _ _ [some (.val kind_0), some (.val amount_0), some (.val least_0), some (.val endless_0), none] (b__law_entry kind_0 amount_0 least_0 endless_0) _ _ _
    unfold b__law_entry
    exact (pb_if_x0 (PWX.pt (pwx_and (ptx_cmp (op_eqD C.room.units) od_eq (px_v 0 rfl rfl (.inl rfl) (by decide) (by decide)) px_int (nomark _)) (pwx_and1 (ptx_tru C.kk (px_v 3 rfl rfl (.inl rfl) (by decide) (by decide)) (fun _ => rfl))))) (pb_retD (fun _ => rfl) px_non) (pb_asg 4 C.nd rfl (.inl rfl) (PXO.px (pxo_lst (pax_cons px_int (pax_cons px_int (pax_cons px_int (pax_cons px_int (pax_cons px_int (pax_cons px_int (pax_cons px_int (pax_cons (px_op op_modN od_mod (px_callTy call_int1 cd_int (by rfl) S.n_int (by decide +kernel) (pax_cons (px_v 1 rfl rfl (.inl rfl) (by decide) (by decide)) pax_nil)) px_int) (pax_cons (px_op op_modN od_mod (px_callTy call_int1 cd_int (by rfl) S.n_int (by decide +kernel) (pax_cons (px_v 1 rfl rfl (.inl rfl) (by decide) (by decide)) pax_nil)) px_int) (pax_cons (px_op op_modN od_mod (px_callTy call_int1 cd_int (by rfl) S.n_int (by decide +kernel) (pax_cons (px_v 1 rfl rfl (.inl rfl) (by decide) (by decide)) pax_nil)) px_int) pax_nil)))))))))))) rfl (.inl rfl) (fun small_0 => nrm [some (.val kind_0), some (.val amount_0), some (.val least_0), some (.val endless_0), some (.val small_0)] (pb_retD (fun _ => rfl) (px_op op_addAll od_add (px_v 2 rfl rfl (.inl rfl) (by decide) (by decide)) (px_ix ix_seq od_ix (px_op op_addAll od_add (px_v 4 rfl rfl (.inl rfl) (by decide) (by decide)) (PXO.px (pxo_lst (pax_cons (px_v 1 rfl rfl (.inl rfl) (by decide) (by decide)) (pax_cons px_int (pax_cons (px_op op_mulAll od_rep (px_v 1 rfl rfl (.inl rfl) (by decide) (by decide)) (px_op op_pow od_pow px_int px_int)) pax_nil)))))) (px_v 0 rfl rfl (.inl rfl) (by decide) (by decide)) (fun _ _ => rfl)))))))
def b__law_grade (cell_0 tame_0 : D) : Res D := Res.bind (callR m__law_digits [] (consR (.ok cell_0) (consR (op2 addD (op2 addD (lstV (dispR (consR (.ok (.int 70)) (consR (.ok (.int 11)) (.ok []))))) (op2 repD (lstV (dispR (consR (.ok (.int 13)) (.ok [])))) (.ok (.int 30)))) (op2 repD (lstV (dispR (consR (op2 powD (.ok (.int 10)) (.ok (.int 20))) (.ok [])))) (.ok (.int 31)))) (.ok [])))) fun row_0 => Res.bind (op2 ixD (.ok row_0) (.ok (.int 0))) fun many_0 => Res.bind (iteR (blR (op2 gtD (.ok many_0) (.ok (.int 30)))) (Res.bind (op2 ixD (lstV (dispR (consR (.ok (.int 0)) (consR (.ok (.int 1)) (consR (.ok (.int 2)) (consR (.ok (.int 3)) (consR (.ok (.int 4)) (consR (.ok (.int 5)) (consR (.ok (.int 6)) (consR (.ok (.int 2)) (consR (.ok (.int 3)) (consR (.ok (.int 4)) (consR (.ok (.int 30)) (consR (.ok (.int 1)) (consR (.ok (.int 3)) (.ok [])))))))))))))))) (op2 modD (callO intD (consR (op2 subD (.ok many_0) (.ok (.int 31))) (.ok []))) (.ok (.int 13)))) fun many_1 => .ok many_1) (.ok many_0)) fun s_0 => Res.bind (op2 ixD (.ok row_0) (.ok (.int 32))) fun amount_0 => Res.bind (op2 ixD (lstV (dispR (consR (.ok (.int 0)) (consR (.ok (.int 0)) (consR (.ok (.int 0)) (consR (.ok (.int 1)) (consR (.ok (.int 1)) (consR (.ok (.int 2)) (consR (.ok .non) (consR (.ok .non) (consR (op2 modD (callO intD (consR (.ok amount_0) (.ok []))) (.ok (.int 40))) (consR (.ok amount_0) (consR (op2 repD (.ok amount_0) (op2 powD (.ok (.int 10)) (.ok (.int 12)))) (.ok [])))))))))))))) (op2 ixD (.ok row_0) (.ok (.int 1)))) fun gain_0 => Res.bind (iteR (truR (.ok tame_0)) (Res.bind (op2 ixD (lstV (dispR (consR (.ok (.int 0)) (consR (.ok (.int 0)) (consR (.ok (.int 0)) (consR (.ok (.int 1)) (consR (.ok (.int 1)) (consR (.ok (.int 2)) (consR (.ok (.int 0)) (consR (.ok (.int 0)) (consR (op2 modD (callO intD (consR (.ok amount_0) (.ok []))) (.ok (.int 4))) (consR (.ok (.int 1)) (consR (.ok (.int 3)) (.ok [])))))))))))))) (op2 ixD (.ok row_0) (.ok (.int 1)))) fun gain_1 => .ok gain_1) (.ok gain_0)) fun s_1 => Res.bind (dispR (.ok [])) fun entries_0 => Res.bind (.ok (.int 0)) fun last_0 => Res.bind (callOo rng1 (consR (.ok s_0) (.ok []))) fun ds => Res.bind (forR (fun (s_2 : List D × D) (k_0 : D) => Res.bind (iteR (blR (op2 notND (.ok s_2.2) (.ok .non))) (Res.bind (callR m__law_entry [] (consR (op2 ixD (.ok row_0) (op2 addD (.ok (.int 2)) (.ok k_0))) (consR (op2 ixD (.ok row_0) (op2 addD (.ok (.int 33)) (.ok k_0))) (consR (callO maxD (consR (.ok s_2.2) (consR (.ok k_0) (.ok [])))) (consR (op2 isND (.ok s_1) (.ok .non)) (.ok [])))))) fun last_1 => .ok last_1) (.ok s_2.2)) fun s_3 => Res.bind (iteR (blR (op2 notND (.ok s_1) (.ok .non))) (Res.bind (callO minD (consR (.ok s_3) (consR (op2 addD (.ok s_0) (.ok s_1)) (.ok [])))) fun last_2 => .ok last_2) (.ok s_3)) fun s_4 => appR s_2.1 (.ok s_4) fun entries_1 => .ok (entries_1, s_4)) ds (entries_0, last_0)) fun s_2 => lstV (dispR (consR (.ok (.lst s_2.1)) (consR (.ok s_1) (.ok []))))
def m__law_grade : List D → Res D
  | [cell_0, tame_0] => b__law_grade cell_0 tame_0
  | _ => .bad
theorem hn__law_grade : ∀ ds : List D, ds.length ≠ 2 → m__law_grade ds = .bad := by
  intro ds h
  unfold m__law_grade
  split
  · exact absurd rfl h
  · rfl
theorem ok__law_grade {g : FP} {a : Adr} (S : Txt g a) : FnOk g.P g.w g.K g.mg g.base (L2.CX g.P g.w) 2 a.f__law_grade a.fd__law_grade ["cell", "tame"] (pureSp (mkT g a) 2 m__law_grade) := by
  refine fn_pure rfl S._law_grade_R sc__law_grade fun cdv A outer s H E C ds hl => ?_
  match ds, hl with
  | [cell_0, tame_0], _ =>
    show PBX _ _ _ _ _ [some (.val cell_0), some (.val tame_0), none, none, none, none, none, none, none] (b__law_grade cell_0 tame_0) _ _ _
    unfold b__law_grade
    exact (pb_asg 2 C.nd rfl (.inl rfl) (px_call C (ok__law_digits S) hn__law_digits (by decide) (by rfl) S.h__law_digits S._law_digits_F.kp S._law_digits_b .nil (fun _ => .nil) (pax_cons (px_v 0 rfl rfl (.inl rfl) (by decide) (by decide)) (pax_cons (px_op op_addAll od_add (px_op op_addAll od_add (PXO.px (pxo_lst (pax_cons px_int (pax_cons px_int pax_nil)))) (px_op op_mulAll od_rep (PXO.px (pxo_lst (pax_cons px_int pax_nil))) px_int)) (px_op op_mulAll od_rep (PXO.px (pxo_lst (pax_cons (px_op op_pow od_pow px_int px_int) pax_nil))) px_int)) pax_nil))) rfl (.inl rfl) (fun row_0 => nrm [some (.val cell_0), some (.val tame_0), some (.val row_0), none, none, none, none, none, none] (pb_asg 3 C.nd rfl (.inl rfl) (px_ix ix_seq od_ix (px_v 2 rfl rfl (.inl rfl) (by decide) (by decide)) px_int (fun _ _ => rfl)) rfl (.inl rfl) (fun many_0 => nrm [some (.val cell_0), some (.val tame_0), some (.val row_0), some (.val many_0), none, none, none, none, none] (pb_if_j (e' := fun (s_0 : D) => ([some (.val cell_0), some (.val tame_0), some (.val row_0), some (.val s_0), none, none, none, none, none] : Env')) (ptx_cmp op_gt od_gt (px_v 3 rfl rfl (.inl rfl) (by decide) (by decide)) px_int (nomark _)) (pb_asg 3 C.nd rfl (.inl rfl) (px_ix ix_seq od_ix (PXO.px (pxo_lst (pax_cons px_int (pax_cons px_int (pax_cons px_int (pax_cons px_int (pax_cons px_int (pax_cons px_int (pax_cons px_int (pax_cons px_int (pax_cons px_int (pax_cons px_int (pax_cons px_int (pax_cons px_int (pax_cons px_int pax_nil))))))))))))))) (px_op op_modN od_mod (px_callTy call_int1 cd_int (by rfl) S.n_int (by decide +kernel) (pax_cons (px_op op_sub od_sub (px_v 3 rfl rfl (.inl rfl) (by decide) (by decide)) px_int) pax_nil)) px_int) (fun _ _ => rfl)) rfl (.inl rfl) (fun many_1 => nrm [some (.val cell_0), some (.val tame_0), some (.val row_0), some (.val many_1), none, none, none, none, none] (pb_nilS (s := many_1) rfl (by simp [subE])))) (pb_nilS (s := many_0) rfl (by simp [subE])) (fun s_0 => nrm [some (.val cell_0), some (.val tame_0), some (.val row_0), some (.val s_0), none, none, none, none, none] (pb_asg 4 C.nd rfl (.inl rfl) (px_ix ix_seq od_ix (px_v 2 rfl rfl (.inl rfl) (by decide) (by decide)) px_int (fun _ _ => rfl)) rfl (.inl rfl) (fun amount_0 => nrm [some (.val cell_0), some (.val tame_0), some (.val row_0), some (.val s_0), some (.val amount_0), none, none, none, none] (pb_asg 5 C.nd rfl (.inl rfl) (px_ix ix_seq od_ix (PXO.px (pxo_lst (pax_cons px_int (pax_cons px_int (pax_cons px_int (pax_cons px_int (pax_cons px_int (pax_cons px_int (pax_cons px_non (pax_cons px_non (pax_cons (px_op op_modN od_mod (px_callTy call_int1 cd_int (by rfl) S.n_int (by decide +kernel) (pax_cons (px_v 4 rfl rfl (.inl rfl) (by decide) (by decide)) pax_nil)) px_int) (pax_cons (px_v 4 rfl rfl (.inl rfl) (by decide) (by decide)) (pax_cons (px_op op_mulAll od_rep (px_v 4 rfl rfl (.inl rfl) (by decide) (by decide)) (px_op op_pow od_pow px_int px_int)) pax_nil))))))))))))) (px_ix ix_seq od_ix (px_v 2 rfl rfl (.inl rfl) (by decide) (by decide)) px_int (fun _ _ => rfl)) (fun _ _ => rfl)) rfl (.inl rfl) (fun gain_0 => nrm [some (.val cell_0), some (.val tame_0), some (.val row_0), some (.val s_0), some (.val amount_0), some (.val gain_0), none, none, none] (pb_if_j (e' := fun (s_1 : D) => ([some (.val cell_0), some (.val tame_0), some (.val row_0), some (.val s_0), some (.val amount_0), some (.val s_1), none, none, none] : Env')) (ptx_tru C.kk (px_v 1 rfl rfl (.inl rfl) (by decide) (by decide)) (fun _ => rfl)) (pb_asg 5 C.nd rfl (.inl rfl) (px_ix ix_seq od_ix (PXO.px (pxo_lst (pax_cons px_int (pax_cons px_int (pax_cons px_int (pax_cons px_int (pax_cons px_int (pax_cons px_int (pax_cons px_int (pax_cons px_int (pax_cons (px_op op_modN od_mod (px_callTy call_int1 cd_int (by rfl) S.n_int (by decide +kernel) (pax_cons (px_v 4 rfl rfl (.inl rfl) (by decide) (by decide)) pax_nil)) px_int) (pax_cons px_int (pax_cons px_int pax_nil))))))))))))) (px_ix ix_seq od_ix (px_v 2 rfl rfl (.inl rfl) (by decide) (by decide)) px_int (fun _ _ => rfl)) (fun _ _ => rfl)) rfl (.inl rfl) (fun gain_1 => nrm [some (.val cell_0), some (.val tame_0), some (.val row_0), some (.val s_0), some (.val amount_0), some (.val gain_1), none, none, none] (pb_nilS (s := gain_1) rfl (by simp [subE])))) (pb_nilS (s := gain_0) rfl (by simp [subE])) (fun s_1 => nrm [some (.val cell_0), some (.val tame_0), some (.val row_0), some (.val s_0), some (.val amount_0), some (.val s_1), none, none, none] (pb_asgO 6 C.nd rfl (.inl rfl) (pxo_lst pax_nil) rfl (.inl rfl) (fun entries_0 => nrm [some (.val cell_0), some (.val tame_0), some (.val row_0), some (.val s_0), some (.val amount_0), some (.val s_1), some (.own entries_0), none, none] (pb_asg 7 C.nd rfl (.inl rfl) px_int rfl (.inl rfl) (fun last_0 => nrm [some (.val cell_0), some (.val tame_0), some (.val row_0), some (.val s_0), some (.val amount_0), some (.val s_1), some (.own entries_0), some (.val last_0), none] (pb_forS (e1 := (fun (s_2 : List D × D) => ([some (.val cell_0), some (.val tame_0), some (.val row_0), some (.val s_0), some (.val amount_0), some (.val s_1), some (.own s_2.1), some (.val s_2.2), none] : Env'))) (s0 := (entries_0, last_0)) C.po C.calm (pix_range1 (by rfl) S.n_range (pax_cons (px_v 3 rfl rfl (.inl rfl) (by decide) (by decide)) pax_nil)) (pgx_name 8 C.nd rfl (.inl rfl) (.inl rfl)) (by simp [subE]) (fun s_2 k_0 => nrm [some (.val cell_0), some (.val tame_0), some (.val row_0), some (.val s_0), some (.val amount_0), some (.val s_1), some (.own s_2.1), some (.val s_2.2), some (.val k_0)] (pb_if_j (e' := fun (s_3 : D) => ([some (.val cell_0), some (.val tame_0), some (.val row_0), some (.val s_0), some (.val amount_0), some (.val s_1), some (.own s_2.1), some (.val s_3), some (.val k_0)] : Env')) (ptx_cmp op_notN od_notN (px_v 7 rfl rfl (.inl rfl) (by decide) (by decide)) px_non (nomark _)) (pb_asg 7 C.nd rfl (.inl rfl) (px_call C (ok__law_entry S) hn__law_entry (by decide) (by rfl) S.h__law_entry S._law_entry_F.kp S._law_entry_b .nil (fun _ => .nil) (pax_cons (px_ix ix_seq od_ix (px_v 2 rfl rfl (.inl rfl) (by decide) (by decide)) (px_op op_addAll od_add px_int (px_v 8 rfl rfl (.inl rfl) (by decide) (by decide))) (fun _ _ => rfl)) (pax_cons (px_ix ix_seq od_ix (px_v 2 rfl rfl (.inl rfl) (by decide) (by decide)) (px_op op_addAll od_add px_int (px_v 8 rfl rfl (.inl rfl) (by decide) (by decide))) (fun _ _ => rfl)) (pax_cons (px_callB (call_max2 C.calm) cd_max (by rfl) S.n_max (by decide +kernel) (pax_cons (px_v 7 rfl rfl (.inl rfl) (by decide) (by decide)) (pax_cons (px_v 8 rfl rfl (.inl rfl) (by decide) (by decide)) pax_nil))) (pax_cons (px_cmpR op_isN od_isN (px_v 5 rfl rfl (.inl rfl) (by decide) (by decide)) px_non (nomark _)) pax_nil))))) rfl (.inl rfl) (fun last_1 => nrm [some (.val cell_0), some (.val tame_0), some (.val row_0), some (.val s_0), some (.val amount_0), some (.val s_1), some (.own s_2.1), some (.val last_1), some (.val k_0)] (pb_nilS (s := last_1) rfl (by simp [subE])))) (pb_nilS (s := s_2.2) rfl (by simp [subE])) (fun s_3 => nrm [some (.val cell_0), some (.val tame_0), some (.val row_0), some (.val s_0), some (.val amount_0), some (.val s_1), some (.own s_2.1), some (.val s_3), some (.val k_0)] (pb_if_j (e' := fun (s_4 : D) => ([some (.val cell_0), some (.val tame_0), some (.val row_0), some (.val s_0), some (.val amount_0), some (.val s_1), some (.own s_2.1), some (.val s_4), some (.val k_0)] : Env')) (ptx_cmp op_notN od_notN (px_v 5 rfl rfl (.inl rfl) (by decide) (by decide)) px_non (nomark _)) (pb_asg 7 C.nd rfl (.inl rfl) (px_callB (call_min2 C.calm) cd_min (by rfl) S.n_min (by decide +kernel) (pax_cons (px_v 7 rfl rfl (.inl rfl) (by decide) (by decide)) (pax_cons (px_op op_addAll od_add (px_v 3 rfl rfl (.inl rfl) (by decide) (by decide)) (px_v 5 rfl rfl (.inl rfl) (by decide) (by decide))) pax_nil))) rfl (.inl rfl) (fun last_2 => nrm [some (.val cell_0), some (.val tame_0), some (.val row_0), some (.val s_0), some (.val amount_0), some (.val s_1), some (.own s_2.1), some (.val last_2), some (.val k_0)] (pb_nilS (s := last_2) rfl (by simp [subE])))) (pb_nilS (s := s_3) rfl (by simp [subE])) (fun s_4 => nrm [some (.val cell_0), some (.val tame_0), some (.val row_0), some (.val s_0), some (.val amount_0), some (.val s_1), some (.own s_2.1), some (.val s_4), some (.val k_0)] (pb_append 6 (o := .Name "entries" ⟨0, 0, 0, 0⟩) (p1 := ⟨0, 0, 0, 0⟩) (p2 := ⟨0, 0, 0, 0⟩) C.kk rfl (px_v 7 rfl rfl (.inl rfl) (by decide) (by decide)) (fun _ h => ps_expr (pe_bm PySem.F.plainAttrs_list PySem.F.slot_list_append PySem.F.type_list_append mt_append (pv 6 rfl (.inl rfl)) (pa_cons h pa_nil))) (fun entries_1 => nrm [some (.val cell_0), some (.val tame_0), some (.val row_0), some (.val s_0), some (.val amount_0), some (.val s_1), some (.own entries_1), some (.val s_4), some (.val k_0)] (pb_nilS (s := (entries_1, s_4)) rfl (by simp [subE]))))))))) (fun s_2 => nrm [some (.val cell_0), some (.val tame_0), some (.val row_0), some (.val s_0), some (.val amount_0), some (.val s_1), some (.own s_2.1), some (.val s_2.2), none] (pb_frz 6 rfl (nrm [some (.val cell_0), some (.val tame_0), some (.val row_0), some (.val s_0), some (.val amount_0), some (.val s_1), some (.val (.lst s_2.1)), some (.val s_2.2), none] (pb_retD (fun _ => rfl) (PXO.px (pxo_lst (pax_cons (px_v 6 rfl rfl (.inl rfl) (by decide) (by decide)) (pax_cons (px_v 5 rfl rfl (.inl rfl) (by decide) (by decide)) pax_nil)))))))) (fun _ => rfl))))))))))))))))))
def b__law_whole (value_0 : D) : Res D := andV (op1 (isiD "int") (.ok value_0)) (notV (op1 (isiD "bool") (.ok value_0)))
def m__law_whole : List D → Res D
  | [value_0] => b__law_whole value_0
  | _ => .bad
theorem hn__law_whole : ∀ ds : List D, ds.length ≠ 1 → m__law_whole ds = .bad := by
  intro ds h
  unfold m__law_whole
  split
  · exact absurd rfl h
  · rfl
theorem ok__law_whole {g : FP} {a : Adr} (S : Txt g a) : FnOk g.P g.w g.K g.mg g.base (L2.CX g.P g.w) 1 a.f__law_whole a.fd__law_whole ["value"] (pureSp (mkT g a) 1 m__law_whole) := by
  refine fn_pure rfl S._law_whole_R sc__law_whole fun cdv A outer s H E C ds hl => ?_
  match ds, hl with
  | [value_0], _ =>
    show PBX _ _ _ _ _ [some (.val value_0)] (b__law_whole value_0) _ _ _
    unfold b__law_whole
    exact (pb_retD (fun _ => rfl) (px_and (px_isi C.kk S.kt (by simp) (by rfl) S.n_isinstance (by rfl) S.n_int (by decide +kernel) (by decide) (by decide) (px_v 0 rfl rfl (.inl rfl) (by decide) (by decide))) (px_one (px_not (px_isi C.kk S.kt (by simp) (by rfl) S.n_isinstance (by rfl) S.n_bool (by decide +kernel) (by decide) (by decide) (px_v 0 rfl rfl (.inl rfl) (by decide) (by decide)))))))
def b__law_longer (grade_0 many_0 : D) : Res D := Res.bind (callOo listO (consR (op2 ixD (.ok grade_0) (.ok (.int 0))) (.ok []))) fun entries_0 => Res.bind (callOo rng2 (consR (callO lenD (consR (op2 ixD (.ok grade_0) (.ok (.int 0))) (.ok []))) (consR (.ok many_0) (.ok [])))) fun ds => Res.bind (forR (fun (s_0 : List D) (k_0 : D) => iteR (truR (callR m__law_whole [] (consR (op2 ixD (.ok grade_0) (.ok (.int 1))) (.ok [])))) (appR s_0 (op2 addD (.ok k_0) (op2 ixD (.ok grade_0) (.ok (.int 1)))) fun entries_1 => .ok entries_1) (appR s_0 (.ok .non) fun entries_2 => .ok entries_2)) ds entries_0) fun s_0 => lstV (dispR (consR (.ok (.lst s_0)) (consR (op2 ixD (.ok grade_0) (.ok (.int 1))) (.ok []))))
def m__law_longer : List D → Res D
  | [grade_0, many_0] => b__law_longer grade_0 many_0
  | _ => .bad
theorem hn__law_longer : ∀ ds : List D, ds.length ≠ 2 → m__law_longer ds = .bad := by
  intro ds h
  unfold m__law_longer
  split
  · exact absurd rfl h
  · rfl
theorem ok__law_longer {g : FP} {a : Adr} (S : Txt g a) : FnOk g.P g.w g.K g.mg g.base (L2.CX g.P g.w) 2 a.f__law_longer a.fd__law_longer ["grade", "many"] (pureSp (mkT g a) 2 m__law_longer) := by
  refine fn_pure rfl S._law_longer_R sc__law_longer fun cdv A outer s H E C ds hl => ?_
  match ds, hl with
  | [grade_0, many_0], _ =>
    show PBX _ _ _ _ _ [some (.val grade_0), some (.val many_0), none, none] (b__law_longer grade_0 many_0) _ _ _
    unfold b__law_longer
    exact (pb_asgO 2 C.nd rfl (.inl rfl) (pxo_list C.kk (by rfl) S.n_list (pax_cons (px_ix ix_seq od_ix (px_v 0 rfl rfl (.inl rfl) (by decide) (by decide)) px_int (fun _ _ => rfl)) pax_nil)) rfl (.inl rfl) (fun entries_0 => nrm [some (.val grade_0), some (.val many_0), some (.own entries_0), none] (pb_forS (e1 := (fun (s_0 : List D) => ([some (.val grade_0), some (.val many_0), some (.own s_0), none] : Env'))) (s0 := entries_0) C.po C.calm (pix_range2 (by rfl) S.n_range (pax_cons (px_callB call_len cd_len (by rfl) S.n_len PySem.boot_len (pax_cons (px_ix ix_seq od_ix (px_v 0 rfl rfl (.inl rfl) (by decide) (by decide)) px_int (fun _ _ => rfl)) pax_nil)) (pax_cons (px_v 1 rfl rfl (.inl rfl) (by decide) (by decide)) pax_nil))) (pgx_name 3 C.nd rfl (.inl rfl) (.inl rfl)) (by simp [subE]) (fun s_0 k_0 => nrm [some (.val grade_0), some (.val many_0), some (.own s_0), some (.val k_0)] (pb_if_last (ptx_tru C.kk (px_call C (ok__law_whole S) hn__law_whole (by decide) (by rfl) S.h__law_whole S._law_whole_F.kp S._law_whole_b .nil (fun _ => .nil) (pax_cons (px_ix ix_seq od_ix (px_v 0 rfl rfl (.inl rfl) (by decide) (by decide)) px_int (fun _ _ => rfl)) pax_nil)) (fun _ => rfl)) (pb_append 2 (o := .Name "entries" ⟨0, 0, 0, 0⟩) (p1 := ⟨0, 0, 0, 0⟩) (p2 := ⟨0, 0, 0, 0⟩) C.kk rfl (px_op op_addAll od_add (px_v 3 rfl rfl (.inl rfl) (by decide) (by decide)) (px_ix ix_seq od_ix (px_v 0 rfl rfl (.inl rfl) (by decide) (by decide)) px_int (fun _ _ => rfl))) (fun _ h => ps_expr (pe_bm PySem.F.plainAttrs_list PySem.F.slot_list_append PySem.F.type_list_append mt_append (pv 2 rfl (.inl rfl)) (pa_cons h pa_nil))) (fun entries_1 => nrm [some (.val grade_0), some (.val many_0), some (.own entries_1), some (.val k_0)] (pb_nilS (s := entries_1) rfl (by simp [subE])))) (pb_append 2 (o := .Name "entries" ⟨0, 0, 0, 0⟩) (p1 := ⟨0, 0, 0, 0⟩) (p2 := ⟨0, 0, 0, 0⟩) C.kk rfl px_non (fun _ h => ps_expr (pe_bm PySem.F.plainAttrs_list PySem.F.slot_list_append PySem.F.type_list_append mt_append (pv 2 rfl (.inl rfl)) (pa_cons h pa_nil))) (fun entries_2 => nrm [some (.val grade_0), some (.val many_0), some (.own entries_2), some (.val k_0)] (pb_nilS (s := entries_2) rfl (by simp [subE])))))) (fun s_0 => nrm [some (.val grade_0), some (.val many_0), some (.own s_0), none] (pb_frz 2 rfl (nrm [some (.val grade_0), some (.val many_0), some (.val (.lst s_0)), none] (pb_retD (fun _ => rfl) (PXO.px (pxo_lst (pax_cons (px_v 2 rfl rfl (.inl rfl) (by decide) (by decide)) (pax_cons (px_ix ix_seq od_ix (px_v 0 rfl rfl (.inl rfl) (by decide) (by decide)) px_int (fun _ _ => rfl)) pax_nil)))))))) (fun _ => rfl))))
def b__law_standing (grade_0 number_0 : D) : Res D := Res.bind (op2 ixD (callR m__law_longer [] (consR (.ok grade_0) (consR (op2 addD (.ok number_0) (.ok (.int 1))) (.ok [])))) (.ok (.int 0))) fun entries_0 => Res.bind (dispR (.ok [])) fun head_0 => Res.bind (itemsR (sliceR (.ok entries_0) none (some (.ok number_0)))) fun ds => Res.bind (forR (fun (s_0 : List D) (entry_0 : D) => iteR (orB (blR (op2 isND (.ok entry_0) (.ok .non))) (blR (op2 gtD (.ok entry_0) (.ok number_0)))) (appR s_0 (.ok number_0) fun head_1 => .ok head_1) (appR s_0 (.ok entry_0) fun head_2 => .ok head_2)) ds head_0) fun s_0 => lstV (dispR (consR (op2 addD (op2 addD (.ok (.lst s_0)) (lstV (dispR (consR (.ok number_0) (.ok []))))) (sliceR (.ok entries_0) (some (op2 addD (.ok number_0) (.ok (.int 1)))) none)) (consR (op2 ixD (.ok grade_0) (.ok (.int 1))) (.ok []))))
def m__law_standing : List D → Res D
  | [grade_0, number_0] => b__law_standing grade_0 number_0
  | _ => .bad
theorem hn__law_standing : ∀ ds : List D, ds.length ≠ 2 → m__law_standing ds = .bad := by
  intro ds h
  unfold m__law_standing
  split
  · exact absurd rfl h
  · rfl
theorem ok__law_standing {g : FP} {a : Adr} (S : Txt g a) : FnOk g.P g.w g.K g.mg g.base (L2.CX g.P g.w) 3 a.f__law_standing a.fd__law_standing ["grade", "number"] (pureSp (mkT g a) 2 m__law_standing) := by
  refine fn_pure rfl S._law_standing_R sc__law_standing fun cdv A outer s H E C ds hl => ?_
  match ds, hl with
  | [grade_0, number_0], _ =>
    show PBX _ _ _ _ _ [some (.val grade_0), some (.val number_0), none, none, none] (b__law_standing grade_0 number_0) _ _ _
    unfold b__law_standing
    exact (pb_asg 2 C.nd rfl (.inl rfl) (px_ix ix_seq od_ix (px_call C (ok__law_longer S) hn__law_longer (by decide) (by rfl) S.h__law_longer S._law_longer_F.kp S._law_longer_b .nil (fun _ => .nil) (pax_cons (px_v 0 rfl rfl (.inl rfl) (by decide) (by decide)) (pax_cons (px_op op_addAll od_add (px_v 1 rfl rfl (.inl rfl) (by decide) (by decide)) px_int) pax_nil))) px_int (fun _ _ => rfl)) rfl (.inl rfl) (fun entries_0 => nrm [some (.val grade_0), some (.val number_0), some (.val entries_0), none, none] (pb_asgO 3 C.nd rfl (.inl rfl) (pxo_lst pax_nil) rfl (.inl rfl) (fun head_0 => nrm [some (.val grade_0), some (.val number_0), some (.val entries_0), some (.own head_0), none] (pb_forS (e1 := (fun (s_0 : List D) => ([some (.val grade_0), some (.val number_0), some (.val entries_0), some (.own s_0), none] : Env'))) (s0 := head_0) C.po C.calm (pix_seq C.kk (px_slice C.kk (px_v 2 rfl rfl (.inl rfl) (by decide) (by decide)) pox_none (pox_some (px_v 1 rfl rfl (.inl rfl) (by decide) (by decide))))) (pgx_name 4 C.nd rfl (.inl rfl) (.inl rfl)) (by simp [subE]) (fun s_0 entry_0 => nrm [some (.val grade_0), some (.val number_0), some (.val entries_0), some (.own s_0), some (.val entry_0)] (pb_if_last (PWX.pt (pwx_or (ptx_cmp op_isN od_isN (px_v 4 rfl rfl (.inl rfl) (by decide) (by decide)) px_non (nomark _)) (pwx_or1 (ptx_cmp op_gt od_gt (px_v 4 rfl rfl (.inl rfl) (by decide) (by decide)) (px_v 1 rfl rfl (.inl rfl) (by decide) (by decide)) (nomark _))))) (pb_append 3 (o := .Name "head" ⟨0, 0, 0, 0⟩) (p1 := ⟨0, 0, 0, 0⟩) (p2 := ⟨0, 0, 0, 0⟩) C.kk rfl (px_v 1 rfl rfl (.inl rfl) (by decide) (by decide)) (fun _ h => ps_expr (pe_bm PySem.F.plainAttrs_list PySem.F.slot_list_append PySem.F.type_list_append mt_append (pv 3 rfl (.inl rfl)) (pa_cons h pa_nil))) (fun head_1 => nrm [some (.val grade_0), some (.val number_0), some (.val entries_0), some (.own head_1), some (.val entry_0)] (pb_nilS (s := head_1) rfl (by simp [subE])))) (pb_append 3 (o := .Name "head" ⟨0, 0, 0, 0⟩) (p1 := ⟨0, 0, 0, 0⟩) (p2 := ⟨0, 0, 0, 0⟩) C.kk rfl (px_v 4 rfl rfl (.inl rfl) (by decide) (by decide)) (fun _ h => ps_expr (pe_bm PySem.F.plainAttrs_list PySem.F.slot_list_append PySem.F.type_list_append mt_append (pv 3 rfl (.inl rfl)) (pa_cons h pa_nil))) (fun head_2 => nrm [some (.val grade_0), some (.val number_0), some (.val entries_0), some (.own head_2), some (.val entry_0)] (pb_nilS (s := head_2) rfl (by simp [subE])))))) (fun s_0 => nrm [some (.val grade_0), some (.val number_0), some (.val entries_0), some (.own s_0), none] (pb_frz 3 rfl (nrm [some (.val grade_0), some (.val number_0), some (.val entries_0), some (.val (.lst s_0)), none] (pb_retD (fun _ => rfl) (PXO.px (pxo_lst (pax_cons (px_op op_addAll od_add (px_op op_addAll od_add (px_v 3 rfl rfl (.inl rfl) (by decide) (by decide)) (PXO.px (pxo_lst (pax_cons (px_v 1 rfl rfl (.inl rfl) (by decide) (by decide)) pax_nil)))) (px_slice C.kk (px_v 2 rfl rfl (.inl rfl) (by decide) (by decide)) (pox_some (px_op op_addAll od_add (px_v 1 rfl rfl (.inl rfl) (by decide) (by decide)) px_int)) pox_none)) (pax_cons (px_ix ix_seq od_ix (px_v 0 rfl rfl (.inl rfl) (by decide) (by decide)) px_int (fun _ _ => rfl)) pax_nil)))))))) (fun _ => rfl))))))
def b__law_lesser (one_0 two_0 : D) : Res D := iteR (blR (op2 isND (.ok one_0) (.ok .non))) (.ok two_0) (iteR (orB (blR (op2 isND (.ok two_0) (.ok .non))) (blR (op2 ltD (.ok one_0) (.ok two_0)))) (.ok one_0) (.ok two_0))
def m__law_lesser : List D → Res D
  | [one_0, two_0] => b__law_lesser one_0 two_0
  | _ => .bad
theorem hn__law_lesser : ∀ ds : List D, ds.length ≠ 2 → m__law_lesser ds = .bad := by
  intro ds h
  unfold m__law_lesser
  split
  · exact absurd rfl h
  · rfl
theorem ok__law_lesser {g : FP} {a : Adr} (S : Txt g a) : FnOk g.P g.w g.K g.mg g.base (L2.CX g.P g.w) 1 a.f__law_lesser a.fd__law_lesser ["one", "two"] (pureSp (mkT g a) 2 m__law_lesser) := by
  refine fn_pure rfl S._law_lesser_R sc__law_lesser fun cdv A outer s H E C ds hl => ?_
  match ds, hl with
  | [one_0, two_0], _ =>
    show PBX _ _ _ _ _ [some (.val one_0), some (.val two_0)] (b__law_lesser one_0 two_0) _ _ _
    unfold b__law_lesser
    exact (pb_if_x0 (ptx_cmp op_isN od_isN (px_v 0 rfl rfl (.inl rfl) (by decide) (by decide)) px_non (nomark _)) (pb_retD (fun _ => rfl) (px_v 1 rfl rfl (.inl rfl) (by decide) (by decide))) (pb_if_x0 (PWX.pt (pwx_or (ptx_cmp op_isN od_isN (px_v 1 rfl rfl (.inl rfl) (by decide) (by decide)) px_non (nomark _)) (pwx_or1 (ptx_cmp (op_ltAll C.room.units0) od_lt (px_v 0 rfl rfl (.inl rfl) (by decide) (by decide)) (px_v 1 rfl rfl (.inl rfl) (by decide) (by decide)) (nomark _))))) (pb_retD (fun _ => rfl) (px_v 0 rfl rfl (.inl rfl) (by decide) (by decide))) (pb_retD (fun _ => rfl) (px_v 1 rfl rfl (.inl rfl) (by decide) (by decide)))))
def b__law_at (grade_0 worth_0 : D) : Res D := iteR (blR (op2 isND (.ok worth_0) (.ok .non))) (.ok .non) (iteR (blR (op2 ltD (.ok worth_0) (callO lenD (consR (op2 ixD (.ok grade_0) (.ok (.int 0))) (.ok []))))) (op2 ixD (op2 ixD (.ok grade_0) (.ok (.int 0))) (.ok worth_0)) (iteR (blR (op2 isND (op2 ixD (.ok grade_0) (.ok (.int 1))) (.ok .non))) (.ok .non) (op2 addD (.ok worth_0) (op2 ixD (.ok grade_0) (.ok (.int 1))))))
def m__law_at : List D → Res D
  | [grade_0, worth_0] => b__law_at grade_0 worth_0
  | _ => .bad
theorem hn__law_at : ∀ ds : List D, ds.length ≠ 2 → m__law_at ds = .bad := by
  intro ds h
  unfold m__law_at
  split
  · exact absurd rfl h
  · rfl
theorem ok__law_at {g : FP} {a : Adr} (S : Txt g a) : FnOk g.P g.w g.K g.mg g.base (L2.CX g.P g.w) 1 a.f__law_at a.fd__law_at ["grade", "worth"] (pureSp (mkT g a) 2 m__law_at) := by
  refine fn_pure rfl S._law_at_R sc__law_at fun cdv A outer s H E C ds hl => ?_
  match ds, hl with
  | [grade_0, worth_0], _ =>
    show PBX _ _ _ _ _ [some (.val grade_0), some (.val worth_0)] (b__law_at grade_0 worth_0) _ _ _
    unfold b__law_at
    exact (pb_if_x0 (ptx_cmp op_isN od_isN (px_v 1 rfl rfl (.inl rfl) (by decide) (by decide)) px_non (nomark _)) (pb_retD (fun _ => rfl) px_non) (pb_if_x0 (ptx_cmp (op_ltAll C.room.units0) od_lt (px_v 1 rfl rfl (.inl rfl) (by decide) (by decide)) (px_callB call_len cd_len (by rfl) S.n_len PySem.boot_len (pax_cons (px_ix ix_seq od_ix (px_v 0 rfl rfl (.inl rfl) (by decide) (by decide)) px_int (fun _ _ => rfl)) pax_nil)) (nomark _)) (pb_retD (fun _ => rfl) (px_ix ix_seq od_ix (px_ix ix_seq od_ix (px_v 0 rfl rfl (.inl rfl) (by decide) (by decide)) px_int (fun _ _ => rfl)) (px_v 1 rfl rfl (.inl rfl) (by decide) (by decide)) (fun _ _ => rfl))) (pb_if_x0 (ptx_cmp op_isN od_isN (px_ix ix_seq od_ix (px_v 0 rfl rfl (.inl rfl) (by decide) (by decide)) px_int (fun _ _ => rfl)) px_non (nomark _)) (pb_retD (fun _ => rfl) px_non) (pb_retD (fun _ => rfl) (px_op op_addAll od_add (px_v 1 rfl rfl (.inl rfl) (by decide) (by decide)) (px_ix ix_seq od_ix (px_v 0 rfl rfl (.inl rfl) (by decide) (by decide)) px_int (fun _ _ => rfl)))))))
def b__law_both (one_0 two_0 behind_another_0 : D) : Res D := Res.bind (callO maxD (consR (callO lenD (consR (op2 ixD (.ok one_0) (.ok (.int 0))) (.ok []))) (consR (callO lenD (consR (op2 ixD (.ok two_0) (.ok (.int 0))) (.ok []))) (.ok [])))) fun size_0 => iteR (notB (truR (.ok behind_another_0))) (Res.bind (lstV (mapL (fun number_0 => callR m__law_lesser [] (consR (callR m__law_at [] (consR (.ok one_0) (consR (.ok number_0) (.ok [])))) (consR (callR m__law_at [] (consR (.ok two_0) (consR (.ok number_0) (.ok [])))) (.ok [])))) (callOo rng1 (consR (.ok size_0) (.ok []))))) fun table_0 => lstV (dispR (consR (.ok table_0) (consR (callR m__law_lesser [] (consR (op2 ixD (.ok one_0) (.ok (.int 1))) (consR (op2 ixD (.ok two_0) (.ok (.int 1))) (.ok [])))) (.ok []))))) (Res.bind (lstV (mapL (fun number_1 => callR m__law_at [] (consR (.ok two_0) (consR (callR m__law_at [] (consR (.ok one_0) (consR (.ok number_1) (.ok [])))) (.ok [])))) (callOo rng1 (consR (.ok size_0) (.ok []))))) fun table_1 => iteR (orB (blR (op2 isND (op2 ixD (.ok one_0) (.ok (.int 1))) (.ok .non))) (blR (op2 isND (op2 ixD (.ok two_0) (.ok (.int 1))) (.ok .non)))) (lstV (dispR (consR (.ok table_1) (consR (.ok .non) (.ok []))))) (lstV (dispR (consR (.ok table_1) (consR (op2 addD (op2 ixD (.ok one_0) (.ok (.int 1))) (op2 ixD (.ok two_0) (.ok (.int 1)))) (.ok []))))))
def m__law_both : List D → Res D
  | [one_0, two_0, behind_another_0] => b__law_both one_0 two_0 behind_another_0
  | _ => .bad
theorem hn__law_both : ∀ ds : List D, ds.length ≠ 3 → m__law_both ds = .bad := by
  intro ds h
  unfold m__law_both
  split
  · exact absurd rfl h
  · rfl
theorem ok__law_both {g : FP} {a : Adr} (S : Txt g a) : FnOk g.P g.w g.K g.mg g.base (L2.CX g.P g.w) 2 a.f__law_both a.fd__law_both ["one", "two", "behind_another"] (pureSp (mkT g a) 3 m__law_both) := by
  refine fn_pure rfl S._law_both_R sc__law_both fun cdv A outer s H E C ds hl => ?_
  match ds, hl with
  | [one_0, two_0, behind_another_0], _ =>
    show PBX _ _ _ _ _ [some (.val one_0), some (.val two_0), some (.val behind_another_0), none, none, none] (b__law_both one_0 two_0 behind_another_0) _ _ _
    unfold b__law_both
    exact (pb_asg 3 C.nd rfl (.inl rfl) (px_callB (call_max2 C.calm) cd_max (by rfl) S.n_max (by decide +kernel) (pax_cons (px_callB call_len cd_len (by rfl) S.n_len PySem.boot_len (pax_cons (px_ix ix_seq od_ix (px_v 0 rfl rfl (.inr (.inl rfl)) (by decide) (by decide)) px_int (fun _ _ => rfl)) pax_nil)) (pax_cons (px_callB call_len cd_len (by rfl) S.n_len PySem.boot_len (pax_cons (px_ix ix_seq od_ix (px_v 1 rfl rfl (.inr (.inl rfl)) (by decide) (by decide)) px_int (fun _ _ => rfl)) pax_nil)) pax_nil))) rfl (.inl rfl) (fun size_0 => nrm [some (.val one_0), some (.val two_0), some (.val behind_another_0), some (.val size_0), none, none] (pb_if_x0 (ptx_not (ptx_tru C.kk (px_v 2 rfl rfl (.inl rfl) (by decide) (by decide)) (fun _ => rfl))) (pb_asgLc 4 (lcx_map (own := [("number", 5)]) (pix_range1 (by rfl) S.n_range (pax_cons (px_v 3 rfl rfl (.inl rfl) (by decide) (by decide)) pax_nil)) (fun _ _ _ _ _ => pgx_name 5 C.nd rfl (.inl rfl) (.inr rfl)) (by decide) (fun _ => ⟨_, rfl⟩) (fun _ _ _ _ _ number_0 => nrmX [some (.val one_0), some (.val two_0), some (.val behind_another_0), some (.val size_0), none, some (.val number_0)] (px_call (Ctx.blk C) (ok__law_lesser S) hn__law_lesser (by decide) (by rfl) S.h__law_lesser S._law_lesser_F.kp S._law_lesser_b .nil (fun _ => .nil) (pax_cons (px_call (Ctx.blk C) (ok__law_at S) hn__law_at (by decide) (by rfl) S.h__law_at S._law_at_F.kp S._law_at_b .nil (fun _ => .nil) (pax_cons (px_v (x := "one") 0 rfl rfl (.inr (.inl rfl)) (by decide) (by decide)) (pax_cons (px_v (x := "number") 5 rfl rfl (.inl rfl) (by decide) (by decide)) pax_nil))) (pax_cons (px_call (Ctx.blk C) (ok__law_at S) hn__law_at (by decide) (by rfl) S.h__law_at S._law_at_F.kp S._law_at_b .nil (fun _ => .nil) (pax_cons (px_v (x := "two") 1 rfl rfl (.inr (.inl rfl)) (by decide) (by decide)) (pax_cons (px_v (x := "number") 5 rfl rfl (.inl rfl) (by decide) (by decide)) pax_nil))) pax_nil))))) C.calm C.nd rfl rfl (sw_true rfl rfl rfl (by decide +kernel)) (blkOk_by (N := ["one", "two", "behind_another", "size", "table", "number"]) (sc := defScope s__law_both) (by decide +kernel)) (fun _ => rfl) (fun table_0 => nrm [some (.val one_0), some (.val two_0), some (.val behind_another_0), some (.val size_0), some (.val table_0), none] (pb_retD (fun _ => rfl) (PXO.px (pxo_lst (pax_cons (px_v 4 rfl rfl (.inl rfl) (by decide) (by decide)) (pax_cons (px_call C (ok__law_lesser S) hn__law_lesser (by decide) (by rfl) S.h__law_lesser S._law_lesser_F.kp S._law_lesser_b .nil (fun _ => .nil) (pax_cons (px_ix ix_seq od_ix (px_v 0 rfl rfl (.inr (.inl rfl)) (by decide) (by decide)) px_int (fun _ _ => rfl)) (pax_cons (px_ix ix_seq od_ix (px_v 1 rfl rfl (.inr (.inl rfl)) (by decide) (by decide)) px_int (fun _ _ => rfl)) pax_nil))) pax_nil))))))) (pb_asgLc 4 (lcx_map (own := [("number", 5)]) (pix_range1 (by rfl) S.n_range (pax_cons (px_v 3 rfl rfl (.inl rfl) (by decide) (by decide)) pax_nil)) (fun _ _ _ _ _ => pgx_name 5 C.nd rfl (.inl rfl) (.inr rfl)) (by decide) (fun _ => ⟨_, rfl⟩) (fun _ _ _ _ _ number_1 => nrmX [some (.val one_0), some (.val two_0), some (.val behind_another_0), some (.val size_0), none, some (.val number_1)] (px_call (Ctx.blk C) (ok__law_at S) hn__law_at (by decide) (by rfl) S.h__law_at S._law_at_F.kp S._law_at_b .nil (fun _ => .nil) (pax_cons (px_v (x := "two") 1 rfl rfl (.inr (.inl rfl)) (by decide) (by decide)) (pax_cons (px_call (Ctx.blk C) (ok__law_at S) hn__law_at (by decide) (by rfl) S.h__law_at S._law_at_F.kp S._law_at_b .nil (fun _ => .nil) (pax_cons (px_v (x := "one") 0 rfl rfl (.inr (.inl rfl)) (by decide) (by decide)) (pax_cons (px_v (x := "number") 5 rfl rfl (.inl rfl) (by decide) (by decide)) pax_nil))) pax_nil))))) C.calm C.nd rfl rfl (sw_true rfl rfl rfl (by decide +kernel)) (blkOk_by (N := ["one", "two", "behind_another", "size", "table", "number"]) (sc := defScope s__law_both) (by decide +kernel)) (fun _ => rfl) (fun table_1 => nrm [some (.val one_0), some (.val two_0), some (.val behind_another_0), some (.val size_0), some (.val table_1), none] (pb_if_x0 (PWX.pt (pwx_or (ptx_cmp op_isN od_isN (px_ix ix_seq od_ix (px_v 0 rfl rfl (.inr (.inl rfl)) (by decide) (by decide)) px_int (fun _ _ => rfl)) px_non (nomark _)) (pwx_or1 (ptx_cmp op_isN od_isN (px_ix ix_seq od_ix (px_v 1 rfl rfl (.inr (.inl rfl)) (by decide) (by decide)) px_int (fun _ _ => rfl)) px_non (nomark _))))) (pb_retD (fun _ => rfl) (PXO.px (pxo_lst (pax_cons (px_v 4 rfl rfl (.inl rfl) (by decide) (by decide)) (pax_cons px_non pax_nil))))) (pb_retD (fun _ => rfl) (PXO.px (pxo_lst (pax_cons (px_v 4 rfl rfl (.inl rfl) (by decide) (by decide)) (pax_cons (px_op op_addAll od_add (px_ix ix_seq od_ix (px_v 0 rfl rfl (.inr (.inl rfl)) (by decide) (by decide)) px_int (fun _ _ => rfl)) (px_ix ix_seq od_ix (px_v 1 rfl rfl (.inr (.inl rfl)) (by decide) (by decide)) px_int (fun _ _ => rfl))) pax_nil)))))))))))
def b__law_least_of_all (grades_0 : D) : Res D := Res.bind (lstV (dispR (consR (lstV (dispR (.ok []))) (consR (.ok .non) (.ok []))))) fun due_0 => Res.bind (itemsR (.ok grades_0)) fun ds => Res.bind (forR (fun (s_0 : D) (grade_0 : D) => Res.bind (callR m__law_both [] (consR (.ok s_0) (consR (.ok grade_0) (consR (.ok (.bl false)) (.ok []))))) fun due_1 => .ok due_1) ds due_0) fun s_0 => .ok s_0
def m__law_least_of_all : List D → Res D
  | [grades_0] => b__law_least_of_all grades_0
  | _ => .bad
theorem hn__law_least_of_all : ∀ ds : List D, ds.length ≠ 1 → m__law_least_of_all ds = .bad := by
  intro ds h
  unfold m__law_least_of_all
  split
  · exact absurd rfl h
  · rfl
theorem ok__law_least_of_all {g : FP} {a : Adr} (S : Txt g a) : FnOk g.P g.w g.K g.mg g.base (L2.CX g.P g.w) 3 a.f__law_least_of_all a.fd__law_least_of_all ["grades"] (pureSp (mkT g a) 1 m__law_least_of_all) := by
  refine fn_pure rfl S._law_least_of_all_R sc__law_least_of_all fun cdv A outer s H E C ds hl => ?_
  match ds, hl with
  | [grades_0], _ =>
    show PBX _ _ _ _ _ [some (.val grades_0), none, none] (b__law_least_of_all grades_0) _ _ _
    unfold b__law_least_of_all
    exact (pb_asg 1 C.nd rfl (.inl rfl) (PXO.px (pxo_lst (pax_cons (PXO.px (pxo_lst pax_nil)) (pax_cons px_non pax_nil)))) rfl (.inl rfl) (fun due_0 => nrm [some (.val grades_0), some (.val due_0), none] (pb_forS (e1 := (fun (s_0 : D) => ([some (.val grades_0), some (.val s_0), none] : Env'))) (s0 := due_0) C.po C.calm (pix_seq C.kk (px_v 0 rfl rfl (.inl rfl) (by decide) (by decide))) (pgx_name 2 C.nd rfl (.inl rfl) (.inl rfl)) (by simp [subE]) (fun s_0 grade_0 => nrm [some (.val grades_0), some (.val s_0), some (.val grade_0)] (pb_asg 1 C.nd rfl (.inl rfl) (px_call C (ok__law_both S) hn__law_both (by decide) (by rfl) S.h__law_both S._law_both_F.kp S._law_both_b .nil (fun _ => .nil) (pax_cons (px_v 1 rfl rfl (.inl rfl) (by decide) (by decide)) (pax_cons (px_v 2 rfl rfl (.inl rfl) (by decide) (by decide)) (pax_cons px_bl pax_nil)))) rfl (.inl rfl) (fun due_1 => nrm [some (.val grades_0), some (.val due_1), some (.val grade_0)] (pb_nilS (s := due_1) rfl (by simp [subE]))))) (fun s_0 => nrm [some (.val grades_0), some (.val s_0), none] (pb_retD (fun _ => rfl) (px_v 1 rfl rfl (.inl rfl) (by decide) (by decide)))) (fun _ => rfl))))
def b_is_whole (thing_0 : D) : Res D := andV (op1 (isiD "int") (.ok thing_0)) (notV (op1 (isiD "bool") (.ok thing_0)))
def m_is_whole : List D → Res D
  | [thing_0] => b_is_whole thing_0
  | _ => .bad
theorem hn_is_whole : ∀ ds : List D, ds.length ≠ 1 → m_is_whole ds = .bad := by
  intro ds h
  unfold m_is_whole
  split
  · exact absurd rfl h
  · rfl
theorem ok_is_whole {g : FP} {a : Adr} (S : Txt g a) : FnOk g.P g.w g.K g.mg g.base (L2.CX g.P g.w) 1 a.f_is_whole a.fd_is_whole ["thing"] (pureSp (mkT g a) 1 m_is_whole) := by
  refine fn_pure rfl S.is_whole_R sc_is_whole fun cdv A outer s H E C ds hl => ?_
  match ds, hl with
  | [thing_0], _ =>
    show PBX _ _ _ _ _ [some (.val thing_0)] (b_is_whole thing_0) _ _ _
    unfold b_is_whole
    exact (pb_retD (fun _ => rfl) (px_and (px_isi C.kk S.kt (by simp) (by rfl) S.n_isinstance (by rfl) S.n_int (by decide +kernel) (by decide) (by decide) (px_v 0 rfl rfl (.inl rfl) (by decide) (by decide))) (px_one (px_not (px_isi C.kk S.kt (by simp) (by rfl) S.n_isinstance (by rfl) S.n_bool (by decide +kernel) (by decide) (by decide) (px_v 0 rfl rfl (.inl rfl) (by decide) (by decide)))))))
def b_is_number (thing_0 : D) : Res D := andV (callR m_is_whole [] (consR (.ok thing_0) (.ok []))) (op2 geD (.ok thing_0) (.ok (.int 0)))
def m_is_number : List D → Res D
  | [thing_0] => b_is_number thing_0
  | _ => .bad
theorem hn_is_number : ∀ ds : List D, ds.length ≠ 1 → m_is_number ds = .bad := by
  intro ds h
  unfold m_is_number
  split
  · exact absurd rfl h
  · rfl
theorem ok_is_number {g : FP} {a : Adr} (S : Txt g a) : FnOk g.P g.w g.K g.mg g.base (L2.CX g.P g.w) 2 a.f_is_number a.fd_is_number ["thing"] (pureSp (mkT g a) 1 m_is_number) := by
  refine fn_pure rfl S.is_number_R sc_is_number fun cdv A outer s H E C ds hl => ?_
  match ds, hl with
  | [thing_0], _ =>
    show PBX _ _ _ _ _ [some (.val thing_0)] (b_is_number thing_0) _ _ _
    unfold b_is_number
    exact (pb_retD (fun _ => rfl) (px_and (px_call C (ok_is_whole S) hn_is_whole (by decide) (by rfl) S.h_is_whole S.is_whole_F.kp S.is_whole_b .nil (fun _ => .nil) (pax_cons (px_v 0 rfl rfl (.inl rfl) (by decide) (by decide)) pax_nil)) (px_one (px_cmpR op_ge od_ge (px_v 0 rfl rfl (.inl rfl) (by decide) (by decide)) px_int (nomark _)))))
def b_is_worth (thing_0 : D) : Res D := orV (op2 isND (.ok thing_0) (.ok .non)) (callR m_is_number [] (consR (.ok thing_0) (.ok [])))
def m_is_worth : List D → Res D
  | [thing_0] => b_is_worth thing_0
  | _ => .bad
theorem hn_is_worth : ∀ ds : List D, ds.length ≠ 1 → m_is_worth ds = .bad := by
  intro ds h
  unfold m_is_worth
  split
  · exact absurd rfl h
  · rfl
theorem ok_is_worth {g : FP} {a : Adr} (S : Txt g a) : FnOk g.P g.w g.K g.mg g.base (L2.CX g.P g.w) 3 a.f_is_worth a.fd_is_worth ["thing"] (pureSp (mkT g a) 1 m_is_worth) := by
  refine fn_pure rfl S.is_worth_R sc_is_worth fun cdv A outer s H E C ds hl => ?_
  match ds, hl with
  | [thing_0], _ =>
    show PBX _ _ _ _ _ [some (.val thing_0)] (b_is_worth thing_0) _ _ _
    unfold b_is_worth
    exact (pb_retD (fun _ => rfl) (px_or (px_cmpR op_isN od_isN (px_v 0 rfl rfl (.inl rfl) (by decide) (by decide)) px_non (nomark _)) (px_one (px_call C (ok_is_number S) hn_is_number (by decide) (by rfl) S.h_is_number S.is_number_F.kp S.is_number_b .nil (fun _ => .nil) (pax_cons (px_v 0 rfl rfl (.inl rfl) (by decide) (by decide)) pax_nil)))))
def b_rank_of (worth_0 : D) : Res D := iteR (blR (op2 isND (.ok worth_0) (.ok .non))) (tupR (consR (.ok (.int 1)) (consR (.ok (.int 0)) (.ok [])))) (tupR (consR (.ok (.int 0)) (consR (.ok worth_0) (.ok []))))
def m_rank_of : List D → Res D
  | [worth_0] => b_rank_of worth_0
  | _ => .bad
theorem hn_rank_of : ∀ ds : List D, ds.length ≠ 1 → m_rank_of ds = .bad := by
  intro ds h
  unfold m_rank_of
  split
  · exact absurd rfl h
  · rfl
theorem ok_rank_of {g : FP} {a : Adr} (S : Txt g a) : FnOk g.P g.w g.K g.mg g.base (L2.CX g.P g.w) 1 a.f_rank_of a.fd_rank_of ["worth"] (pureSp (mkT g a) 1 m_rank_of) := by
  refine fn_pure rfl S.rank_of_R sc_rank_of fun cdv A outer s H E C ds hl => ?_
  match ds, hl with
  | [worth_0], _ =>
    show PBX _ _ _ _ _ [some (.val worth_0)] (b_rank_of worth_0) _ _ _
    unfold b_rank_of
    exact (pb_if_x0 (ptx_cmp op_isN od_isN (px_v 0 rfl rfl (.inl rfl) (by decide) (by decide)) px_non (nomark _)) (pb_retD (fun _ => rfl) (px_tup (pax_cons px_int (pax_cons px_int pax_nil)))) (pb_retD (fun _ => rfl) (px_tup (pax_cons px_int (pax_cons (px_v 0 rfl rfl (.inl rfl) (by decide) (by decide)) pax_nil)))))
def b_is_before (one_0 two_0 : D) : Res D := op2 ltD (callR m_rank_of [] (consR (.ok one_0) (.ok []))) (callR m_rank_of [] (consR (.ok two_0) (.ok [])))
def m_is_before : List D → Res D
  | [one_0, two_0] => b_is_before one_0 two_0
  | _ => .bad
theorem hn_is_before : ∀ ds : List D, ds.length ≠ 2 → m_is_before ds = .bad := by
  intro ds h
  unfold m_is_before
  split
  · exact absurd rfl h
  · rfl
theorem ok_is_before {g : FP} {a : Adr} (S : Txt g a) : FnOk g.P g.w g.K g.mg g.base (L2.CX g.P g.w) 2 a.f_is_before a.fd_is_before ["one", "two"] (pureSp (mkT g a) 2 m_is_before) := by
  refine fn_pure rfl S.is_before_R sc_is_before fun cdv A outer s H E C ds hl => ?_
  match ds, hl with
  | [one_0, two_0], _ =>
    show PBX _ _ _ _ _ [some (.val one_0), some (.val two_0)] (b_is_before one_0 two_0) _ _ _
    unfold b_is_before
    exact (pb_retD (fun _ => rfl) (px_cmpR (op_ltAll C.room.units0) od_lt (px_call C (ok_rank_of S) hn_rank_of (by decide) (by rfl) S.h_rank_of S.rank_of_F.kp S.rank_of_b .nil (fun _ => .nil) (pax_cons (px_v 0 rfl rfl (.inl rfl) (by decide) (by decide)) pax_nil)) (px_call C (ok_rank_of S) hn_rank_of (by decide) (by rfl) S.h_rank_of S.rank_of_F.kp S.rank_of_b .nil (fun _ => .nil) (pax_cons (px_v 1 rfl rfl (.inl rfl) (by decide) (by decide)) pax_nil)) (nomark _)))
def b_first_bad_entry (table_0 : D) : Res D := Res.bind (callOo rng1 (consR (callO lenD (consR (.ok table_0) (.ok []))) (.ok []))) fun ds => Res.bind (forG id (fun (s_0 : Unit) (index_0 : D) => Res.bind (op2 ixD (.ok table_0) (.ok index_0)) fun entry_0 => iteR (orB (blR (op2 geD (.ok index_0) (.ok (.int 30)))) (notB (truR (callR m_is_worth [] (consR (.ok entry_0) (.ok [])))))) (Res.bind (.ok index_0) fun d => .ok (.rt d)) (iteR (andB (blR (op2 notND (.ok entry_0) (.ok .non))) (blR (op2 ltD (.ok entry_0) (.ok index_0)))) (Res.bind (.ok index_0) fun d => .ok (.rt d)) (iteR (andB (blR (op2 gtD (.ok index_0) (.ok (.int 0)))) (truR (callR m_is_before [] (consR (.ok entry_0) (consR (op2 ixD (.ok table_0) (op2 subD (.ok index_0) (.ok (.int 1)))) (.ok [])))))) (Res.bind (.ok index_0) fun d => .ok (.rt d)) (.ok (.nx ()))))) ds ()) (lpK (fun d => .ok d) fun s_0 => .ok .non)
def m_first_bad_entry : List D → Res D
  | [table_0] => b_first_bad_entry table_0
  | _ => .bad
theorem hn_first_bad_entry : ∀ ds : List D, ds.length ≠ 1 → m_first_bad_entry ds = .bad := by
  intro ds h
  unfold m_first_bad_entry
  split
  · exact absurd rfl h
  · rfl
theorem ok_first_bad_entry {g : FP} {a : Adr} (S : Txt g a) : FnOk g.P g.w g.K g.mg g.base (L2.CX g.P g.w) 4 a.f_first_bad_entry a.fd_first_bad_entry ["table"] (pureSp (mkT g a) 1 m_first_bad_entry) := by
  refine fn_pure rfl S.first_bad_entry_R sc_first_bad_entry fun cdv A outer s H E C ds hl => ?_
  match ds, hl with
  | [table_0], _ =>
    show PBX _ _ _ _ _ [some (.val table_0), none, none] (b_first_bad_entry table_0) _ _ _
    unfold b_first_bad_entry
    exact (pb_for (e1 := (fun (s_0 : Unit) => ([some (.val table_0), none, none] : Env'))) (s0 := ()) (r := (fun d => .ok d)) C.po C.calm (pix_range1 (by rfl) S.n_range (pax_cons (px_callB call_len cd_len (by rfl) S.n_len PySem.boot_len (pax_cons (px_v 0 rfl rfl (.inl rfl) (by decide) (by decide)) pax_nil)) pax_nil)) (pgx_name 1 C.nd rfl (.inl rfl) (.inl rfl)) (by simp [subE]) (fun s_0 index_0 => nrm [some (.val table_0), some (.val index_0), none] (pb_asg 2 C.nd rfl (.inl rfl) (px_ix ix_seq od_ix (px_v 0 rfl rfl (.inl rfl) (by decide) (by decide)) (px_v 1 rfl rfl (.inl rfl) (by decide) (by decide)) (fun _ _ => rfl)) rfl (.inl rfl) (fun entry_0 => nrm [some (.val table_0), some (.val index_0), some (.val entry_0)] (pb_if_x0 (PWX.pt (pwx_or (ptx_cmp op_ge od_ge (px_v 1 rfl rfl (.inl rfl) (by decide) (by decide)) (px_glob (v := .int 30) (by rfl) S.k_MOST_ENTRIES ⟨_, rfl⟩ (fun _ => .int _) (by decide)) (nomark _)) (pwx_or1 (ptx_not (ptx_tru C.kk (px_call C (ok_is_worth S) hn_is_worth (by decide) (by rfl) S.h_is_worth S.is_worth_F.kp S.is_worth_b .nil (fun _ => .nil) (pax_cons (px_v 2 rfl rfl (.inl rfl) (by decide) (by decide)) pax_nil)) (fun _ => rfl)))))) (pb_ret (r := Fl.rt) (fun _ => rfl) (px_v 1 rfl rfl (.inl rfl) (by decide) (by decide))) (pb_if_x0 (PWX.pt (pwx_and (ptx_cmp op_notN od_notN (px_v 2 rfl rfl (.inl rfl) (by decide) (by decide)) px_non (nomark _)) (pwx_and1 (ptx_cmp (op_ltAll C.room.units0) od_lt (px_v 2 rfl rfl (.inl rfl) (by decide) (by decide)) (px_v 1 rfl rfl (.inl rfl) (by decide) (by decide)) (nomark _))))) (pb_ret (r := Fl.rt) (fun _ => rfl) (px_v 1 rfl rfl (.inl rfl) (by decide) (by decide))) (pb_if_x0 (PWX.pt (pwx_and (ptx_cmp op_gt od_gt (px_v 1 rfl rfl (.inl rfl) (by decide) (by decide)) px_int (nomark _)) (pwx_and1 (ptx_tru C.kk (px_call C (ok_is_before S) hn_is_before (by decide) (by rfl) S.h_is_before S.is_before_F.kp S.is_before_b .nil (fun _ => .nil) (pax_cons (px_v 2 rfl rfl (.inl rfl) (by decide) (by decide)) (pax_cons (px_ix ix_seq od_ix (px_v 0 rfl rfl (.inl rfl) (by decide) (by decide)) (px_op op_sub od_sub (px_v 1 rfl rfl (.inl rfl) (by decide) (by decide)) px_int) (fun _ _ => rfl)) pax_nil))) (fun _ => rfl))))) (pb_ret (r := Fl.rt) (fun _ => rfl) (px_v 1 rfl rfl (.inl rfl) (by decide) (by decide))) (pb_nilS (s := ()) rfl (by simp [subE])))))))) (fun d => .inr ⟨_, rfl, rfl⟩) (fun s_0 => nrm [some (.val table_0), none, none] (pb_retD (fun _ => rfl) px_non)) (fun _ => rfl))
def b_is_right_more (table_0 more_0 : D) : Res D := iteR (notB (truR (callR m_is_worth [] (consR (.ok more_0) (.ok []))))) (.ok (.bl false)) (iteR (orB (blR (op2 isND (.ok more_0) (.ok .non))) (blR (op2 eqD (callO lenD (consR (.ok table_0) (.ok []))) (.ok (.int 0))))) (.ok (.bl true)) (Res.bind (op2 ixD (.ok table_0) (op2 subD (callO lenD (consR (.ok table_0) (.ok []))) (.ok (.int 1)))) fun last_0 => andV (op2 notND (.ok last_0) (.ok .non)) (op2 leD (.ok last_0) (op2 addD (callO lenD (consR (.ok table_0) (.ok []))) (.ok more_0)))))
def m_is_right_more : List D → Res D
  | [table_0, more_0] => b_is_right_more table_0 more_0
  | _ => .bad
theorem hn_is_right_more : ∀ ds : List D, ds.length ≠ 2 → m_is_right_more ds = .bad := by
  intro ds h
  unfold m_is_right_more
  split
  · exact absurd rfl h
  · rfl
theorem ok_is_right_more {g : FP} {a : Adr} (S : Txt g a) : FnOk g.P g.w g.K g.mg g.base (L2.CX g.P g.w) 4 a.f_is_right_more a.fd_is_right_more ["table", "more"] (pureSp (mkT g a) 2 m_is_right_more) := by
  refine fn_pure rfl S.is_right_more_R sc_is_right_more fun cdv A outer s H E C ds hl => ?_
  match ds, hl with
  | [table_0, more_0], _ =>
    show PBX _ _ _ _ _ [some (.val table_0), some (.val more_0), none] (b_is_right_more table_0 more_0) _ _ _
    unfold b_is_right_more
    exact (pb_if_x0 (ptx_not (ptx_tru C.kk (px_call C (ok_is_worth S) hn_is_worth (by decide) (by rfl) S.h_is_worth S.is_worth_F.kp S.is_worth_b .nil (fun _ => .nil) (pax_cons (px_v 1 rfl rfl (.inl rfl) (by decide) (by decide)) pax_nil)) (fun _ => rfl))) (pb_retD (fun _ => rfl) px_bl) (pb_if_x0 (PWX.pt (pwx_or (ptx_cmp op_isN od_isN (px_v 1 rfl rfl (.inl rfl) (by decide) (by decide)) px_non (nomark _)) (pwx_or1 (ptx_cmp (op_eqD C.room.units) od_eq (px_callB call_len cd_len (by rfl) S.n_len PySem.boot_len (pax_cons (px_v 0 rfl rfl (.inl rfl) (by decide) (by decide)) pax_nil)) px_int (nomark _))))) (pb_retD (fun _ => rfl) px_bl) (pb_asg 2 C.nd rfl (.inl rfl) (px_ix ix_seq od_ix (px_v 0 rfl rfl (.inl rfl) (by decide) (by decide)) (px_op op_sub od_sub (px_callB call_len cd_len (by rfl) S.n_len PySem.boot_len (pax_cons (px_v 0 rfl rfl (.inl rfl) (by decide) (by decide)) pax_nil)) px_int) (fun _ _ => rfl)) rfl (.inl rfl) (fun last_0 => nrm [some (.val table_0), some (.val more_0), some (.val last_0)] (pb_retD (fun _ => rfl) (px_and (px_cmpR op_notN od_notN (px_v 2 rfl rfl (.inl rfl) (by decide) (by decide)) px_non (nomark _)) (px_one (px_cmpR op_le od_le (px_v 2 rfl rfl (.inl rfl) (by decide) (by decide)) (px_op op_addAll od_add (px_callB call_len cd_len (by rfl) S.n_len PySem.boot_len (pax_cons (px_v 0 rfl rfl (.inl rfl) (by decide) (by decide)) pax_nil)) (px_v 1 rfl rfl (.inl rfl) (by decide) (by decide))) (nomark _)))))))))
def b_beyond (number_0 more_0 : D) : Res D := iteR (blR (op2 isND (.ok more_0) (.ok .non))) (.ok .non) (op2 addD (.ok number_0) (.ok more_0))
def m_beyond : List D → Res D
  | [number_0, more_0] => b_beyond number_0 more_0
  | _ => .bad
theorem hn_beyond : ∀ ds : List D, ds.length ≠ 2 → m_beyond ds = .bad := by
  intro ds h
  unfold m_beyond
  split
  · exact absurd rfl h
  · rfl
theorem ok_beyond {g : FP} {a : Adr} (S : Txt g a) : FnOk g.P g.w g.K g.mg g.base (L2.CX g.P g.w) 1 a.f_beyond a.fd_beyond ["number", "more"] (pureSp (mkT g a) 2 m_beyond) := by
  refine fn_pure rfl S.beyond_R sc_beyond fun cdv A outer s H E C ds hl => ?_
  match ds, hl with
  | [number_0, more_0], _ =>
    show PBX _ _ _ _ _ [some (.val number_0), some (.val more_0)] (b_beyond number_0 more_0) _ _ _
    unfold b_beyond
    exact (pb_if_x0 (ptx_cmp op_isN od_isN (px_v 1 rfl rfl (.inl rfl) (by decide) (by decide)) px_non (nomark _)) (pb_retD (fun _ => rfl) px_non) (pb_retD (fun _ => rfl) (px_op op_addAll od_add (px_v 0 rfl rfl (.inl rfl) (by decide) (by decide)) (px_v 1 rfl rfl (.inl rfl) (by decide) (by decide)))))
def b_least_table (table_0 more_0 : D) : Res D := Res.bind (callO lenD (consR (.ok table_0) (.ok []))) fun size_0 => Res.bind (whileR (fun (s_0 : D) => andB (blR (op2 gtD (.ok s_0) (.ok (.int 0)))) (blR (op2 eqD (op2 ixD (.ok table_0) (op2 subD (.ok s_0) (.ok (.int 1)))) (callR m_beyond [] (consR (op2 subD (.ok s_0) (.ok (.int 1))) (consR (.ok more_0) (.ok []))))))) (fun (s_0 : D) => Res.bind (op2 subD (.ok s_0) (.ok (.int 1))) fun size_1 => .ok size_1) fuel size_0) fun s_0 => callO tupleD (consR (sliceR (.ok table_0) none (some (.ok s_0))) (.ok []))
def m_least_table : List D → Res D
  | [table_0, more_0] => b_least_table table_0 more_0
  | _ => .bad
theorem hn_least_table : ∀ ds : List D, ds.length ≠ 2 → m_least_table ds = .bad := by
  intro ds h
  unfold m_least_table
  split
  · exact absurd rfl h
  · rfl
theorem ok_least_table {g : FP} {a : Adr} (S : Txt g a) : FnOk g.P g.w g.K g.mg g.base (L2.CX g.P g.w) 2 a.f_least_table a.fd_least_table ["table", "more"] (pureSp (mkT g a) 2 m_least_table) := by
  refine fn_pure rfl S.least_table_R sc_least_table fun cdv A outer s H E C ds hl => ?_
  match ds, hl with
  | [table_0, more_0], _ =>
    show PBX _ _ _ _ _ [some (.val table_0), some (.val more_0), none] (b_least_table table_0 more_0) _ _ _
    unfold b_least_table
    exact (pb_asg 2 C.nd rfl (.inl rfl) (px_callB call_len cd_len (by rfl) S.n_len PySem.boot_len (pax_cons (px_v 0 rfl rfl (.inl rfl) (by decide) (by decide)) pax_nil)) rfl (.inl rfl) (fun size_0 => nrm [some (.val table_0), some (.val more_0), some (.val size_0)] (pb_whileS (e1 := (fun (s_0 : D) => ([some (.val table_0), some (.val more_0), some (.val s_0)] : Env'))) (s0 := size_0) (n0 := fuel) C.po (by simp [subE]) (fun s_0 => nrmT [some (.val table_0), some (.val more_0), some (.val s_0)] (PWX.pt (pwx_and (ptx_cmp op_gt od_gt (px_v 2 rfl rfl (.inl rfl) (by decide) (by decide)) px_int (nomark _)) (pwx_and1 (ptx_cmp (op_eqD C.room.units) od_eq (px_ix ix_seq od_ix (px_v 0 rfl rfl (.inl rfl) (by decide) (by decide)) (px_op op_sub od_sub (px_v 2 rfl rfl (.inl rfl) (by decide) (by decide)) px_int) (fun _ _ => rfl)) (px_call C (ok_beyond S) hn_beyond (by decide) (by rfl) S.h_beyond S.beyond_F.kp S.beyond_b .nil (fun _ => .nil) (pax_cons (px_op op_sub od_sub (px_v 2 rfl rfl (.inl rfl) (by decide) (by decide)) px_int) (pax_cons (px_v 1 rfl rfl (.inl rfl) (by decide) (by decide)) pax_nil))) (nomark _)))))) (fun s_0 => nrm [some (.val table_0), some (.val more_0), some (.val s_0)] (pb_asg 2 C.nd rfl (.inl rfl) (px_op op_sub od_sub (px_v 2 rfl rfl (.inl rfl) (by decide) (by decide)) px_int) rfl (.inl rfl) (fun size_1 => nrm [some (.val table_0), some (.val more_0), some (.val size_1)] (pb_nilS (s := size_1) rfl (by simp [subE]))))) (fun s_0 => nrm [some (.val table_0), some (.val more_0), some (.val s_0)] (pb_retD (fun _ => rfl) (px_callTy call_tuple_of cd_tuple (by rfl) S.n_tuple (by decide +kernel) (pax_cons (px_slice C.kk (px_v 0 rfl rfl (.inl rfl) (by decide) (by decide)) pox_none (pox_some (px_v 2 rfl rfl (.inl rfl) (by decide) (by decide)))) pax_nil)))))))
def b_Grade_init (table_0 more_0 : D) : Res (List D) := Res.bind (callR m_first_bad_entry [] (consR (.ok table_0) (.ok []))) fun bad_0 => iteR (blR (op2 notND (.ok bad_0) (.ok .non))) .bad (iteR (notB (truR (callR m_is_right_more [] (consR (.ok table_0) (consR (.ok more_0) (.ok [])))))) .bad (Res.bind (callR m_least_table [] (consR (.ok table_0) (consR (.ok more_0) (.ok [])))) fun table_1 => Res.bind (.ok more_0) fun more_1 => .ok [table_1, more_1]))
def m_Grade_init : List D → Res (List D)
  | [table_0, more_0] => b_Grade_init table_0 more_0
  | _ => .bad
def i_Grade_init (ds : List D) : Res (List D) := chkL 2 (m_Grade_init ds)
theorem hn_Grade_init : ∀ ds : List D, ds.length + 1 ≠ 3 → i_Grade_init ds = .bad := by
  intro ds h
  unfold i_Grade_init m_Grade_init
  split
  · exact absurd rfl h
  · rfl
theorem ok_Grade_init {g : FP} {a : Adr} (S : Txt g a) : FnOk g.P g.w g.K g.mg g.base (L2.CX g.P g.w) 5 a.f_Grade_init a.fd_Grade_init ["self", "table", "more"] (initSp (mkT g a) 3 0 i_Grade_init) := by
  refine fn_init (T := mkT g a) (m := m_Grade_init) rfl S.Grade_init_R sc_Grade_init fun cdv A outer s H E C xself ds hl => ?_
  match ds, hl with
  | [table_0, more_0], _ =>
    show PBX _ _ _ _ _ [some (.ins xself 0 []), some (.val table_0), some (.val more_0), none] (b_Grade_init table_0 more_0) _ _ _
    unfold b_Grade_init
    exact (pb_asg 3 C.nd rfl (.inl rfl) (px_call C (ok_first_bad_entry S) hn_first_bad_entry (by decide) (by rfl) S.h_first_bad_entry S.first_bad_entry_F.kp S.first_bad_entry_b .nil (fun _ => .nil) (pax_cons (px_v 1 rfl rfl (.inl rfl) (by decide) (by decide)) pax_nil)) rfl (.inl rfl) (fun bad_0 => nrm [some (.ins xself 0 []), some (.val table_0), some (.val more_0), some (.val bad_0)] (pb_if_x0 (ptx_cmp op_notN od_notN (px_v 3 rfl rfl (.inl rfl) (by decide) (by decide)) px_non (nomark _)) pb_bad (pb_if_x0 (ptx_not (ptx_tru C.kk (px_call C (ok_is_right_more S) hn_is_right_more (by decide) (by rfl) S.h_is_right_more S.is_right_more_F.kp S.is_right_more_b .nil (fun _ => .nil) (pax_cons (px_v 1 rfl rfl (.inl rfl) (by decide) (by decide)) (pax_cons (px_v 2 rfl rfl (.inl rfl) (by decide) (by decide)) pax_nil))) (fun _ => rfl))) pb_bad (pb_self 0 C.kk S.kt rfl rfl rfl (by simp) (px_call C (ok_least_table S) hn_least_table (by decide) (by rfl) S.h_least_table S.least_table_F.kp S.least_table_b .nil (fun _ => .nil) (pax_cons (px_v 1 rfl rfl (.inl rfl) (by decide) (by decide)) (pax_cons (px_v 2 rfl rfl (.inl rfl) (by decide) (by decide)) pax_nil))) (fun _ h => ps_fld (pv 0 rfl (.inl rfl)) h rfl) (fun table_1 => nrm [some (.ins xself 0 [table_1]), some (.val table_0), some (.val more_0), some (.val bad_0)] (pb_self 0 C.kk S.kt rfl rfl rfl (by simp) (px_v 2 rfl rfl (.inl rfl) (by decide) (by decide)) (fun _ h => ps_fld (pv 0 rfl (.inl rfl)) h rfl) (fun more_1 => nrm [some (.ins xself 0 [table_1, more_1]), some (.val table_0), some (.val more_0), some (.val bad_0)] (pb_nilS (s := [table_1, more_1]) rfl (by simp [subE, insE, List.replicate]))))))))))
def b_least_of (worths_0 : D) : Res D := Res.bind (.ok .non) fun least_0 => Res.bind (itemsR (.ok worths_0)) fun ds => Res.bind (forR (fun (s_0 : D) (worth_0 : D) => iteR (truR (callR m_is_before [] (consR (.ok worth_0) (consR (.ok s_0) (.ok []))))) (Res.bind (.ok worth_0) fun least_1 => .ok least_1) (.ok s_0)) ds least_0) fun s_0 => .ok s_0
def m_least_of : List D → Res D
  | [worths_0] => b_least_of worths_0
  | _ => .bad
theorem hn_least_of : ∀ ds : List D, ds.length ≠ 1 → m_least_of ds = .bad := by
  intro ds h
  unfold m_least_of
  split
  · exact absurd rfl h
  · rfl
theorem ok_least_of {g : FP} {a : Adr} (S : Txt g a) : FnOk g.P g.w g.K g.mg g.base (L2.CX g.P g.w) 3 a.f_least_of a.fd_least_of ["worths"] (pureSp (mkT g a) 1 m_least_of) := by
  refine fn_pure rfl S.least_of_R sc_least_of fun cdv A outer s H E C ds hl => ?_
  match ds, hl with
  | [worths_0], _ =>
    show PBX _ _ _ _ _ [some (.val worths_0), none, none] (b_least_of worths_0) _ _ _
    unfold b_least_of
    exact (pb_asg 1 C.nd rfl (.inl rfl) px_non rfl (.inl rfl) (fun least_0 => nrm [some (.val worths_0), some (.val least_0), none] (pb_forS (e1 := (fun (s_0 : D) => ([some (.val worths_0), some (.val s_0), none] : Env'))) (s0 := least_0) C.po C.calm (pix_seq C.kk (px_v 0 rfl rfl (.inl rfl) (by decide) (by decide))) (pgx_name 2 C.nd rfl (.inl rfl) (.inl rfl)) (by simp [subE]) (fun s_0 worth_0 => nrm [some (.val worths_0), some (.val s_0), some (.val worth_0)] (pb_if_last (ptx_tru C.kk (px_call C (ok_is_before S) hn_is_before (by decide) (by rfl) S.h_is_before S.is_before_F.kp S.is_before_b .nil (fun _ => .nil) (pax_cons (px_v 2 rfl rfl (.inl rfl) (by decide) (by decide)) (pax_cons (px_v 1 rfl rfl (.inl rfl) (by decide) (by decide)) pax_nil))) (fun _ => rfl)) (pb_asg 1 C.nd rfl (.inl rfl) (px_v 2 rfl rfl (.inl rfl) (by decide) (by decide)) rfl (.inl rfl) (fun least_1 => nrm [some (.val worths_0), some (.val least_1), some (.val worth_0)] (pb_nilS (s := least_1) rfl (by simp [subE])))) (pb_nilS (s := s_0) rfl (by simp [subE])))) (fun s_0 => nrm [some (.val worths_0), some (.val s_0), none] (pb_retD (fun _ => rfl) (px_v 1 rfl rfl (.inl rfl) (by decide) (by decide)))) (fun _ => rfl))))
def b_led (table_0 more_0 worth_0 : D) : Res D := iteR (blR (op2 isND (.ok worth_0) (.ok .non))) (.ok .non) (iteR (blR (op2 ltD (.ok worth_0) (callO lenD (consR (.ok table_0) (.ok []))))) (op2 ixD (.ok table_0) (.ok worth_0)) (callR m_beyond [] (consR (.ok worth_0) (consR (.ok more_0) (.ok [])))))
def m_led : List D → Res D
  | [table_0, more_0, worth_0] => b_led table_0 more_0 worth_0
  | _ => .bad
theorem hn_led : ∀ ds : List D, ds.length ≠ 3 → m_led ds = .bad := by
  intro ds h
  unfold m_led
  split
  · exact absurd rfl h
  · rfl
theorem ok_led {g : FP} {a : Adr} (S : Txt g a) : FnOk g.P g.w g.K g.mg g.base (L2.CX g.P g.w) 2 a.f_led a.fd_led ["table", "more", "worth"] (pureSp (mkT g a) 3 m_led) := by
  refine fn_pure rfl S.led_R sc_led fun cdv A outer s H E C ds hl => ?_
  match ds, hl with
  | [table_0, more_0, worth_0], _ =>
    show PBX _ _ _ _ _ [some (.val table_0), some (.val more_0), some (.val worth_0)] (b_led table_0 more_0 worth_0) _ _ _
    unfold b_led
    exact (pb_if_x0 (ptx_cmp op_isN od_isN (px_v 2 rfl rfl (.inl rfl) (by decide) (by decide)) px_non (nomark _)) (pb_retD (fun _ => rfl) px_non) (pb_if_x0 (ptx_cmp (op_ltAll C.room.units0) od_lt (px_v 2 rfl rfl (.inl rfl) (by decide) (by decide)) (px_callB call_len cd_len (by rfl) S.n_len PySem.boot_len (pax_cons (px_v 0 rfl rfl (.inl rfl) (by decide) (by decide)) pax_nil)) (nomark _)) (pb_retD (fun _ => rfl) (px_ix ix_seq od_ix (px_v 0 rfl rfl (.inl rfl) (by decide) (by decide)) (px_v 2 rfl rfl (.inl rfl) (by decide) (by decide)) (fun _ _ => rfl))) (pb_retD (fun _ => rfl) (px_call C (ok_beyond S) hn_beyond (by decide) (by rfl) S.h_beyond S.beyond_F.kp S.beyond_b .nil (fun _ => .nil) (pax_cons (px_v 2 rfl rfl (.inl rfl) (by decide) (by decide)) (pax_cons (px_v 1 rfl rfl (.inl rfl) (by decide) (by decide)) pax_nil))))))
def b_Grade_or (self_0 other_0 : D) : Res D := Res.bind (callO maxD (consR (callO lenD (consR (op1 (fldD at_ "table") (.ok self_0)) (.ok []))) (consR (callO lenD (consR (op1 (fldD at_ "table") (.ok other_0)) (.ok []))) (.ok [])))) fun size_0 => Res.bind (lstV (mapL (fun number_0 => callR m_least_of [] (consR (lstV (dispR (consR (callR m_led [] (consR (op1 (fldD at_ "table") (.ok self_0)) (consR (op1 (fldD at_ "more") (.ok self_0)) (consR (.ok number_0) (.ok []))))) (consR (callR m_led [] (consR (op1 (fldD at_ "table") (.ok other_0)) (consR (op1 (fldD at_ "more") (.ok other_0)) (consR (.ok number_0) (.ok []))))) (.ok []))))) (.ok []))) (callOo rng1 (consR (.ok size_0) (.ok []))))) fun table_0 => makeR 0 i_Grade_init [] (consR (.ok table_0) (consR (callR m_least_of [] (consR (lstV (dispR (consR (op1 (fldD at_ "more") (.ok self_0)) (consR (op1 (fldD at_ "more") (.ok other_0)) (.ok []))))) (.ok []))) (.ok [])))
def m_Grade_or : List D → Res D
  | [self_0, other_0] => b_Grade_or self_0 other_0
  | _ => .bad
theorem hn_Grade_or : ∀ ds : List D, ds.length ≠ 2 → m_Grade_or ds = .bad := by
  intro ds h
  unfold m_Grade_or
  split
  · exact absurd rfl h
  · rfl
theorem ok_Grade_or {g : FP} {a : Adr} (S : Txt g a) : FnOk g.P g.w g.K g.mg g.base (L2.CX g.P g.w) 7 a.f_Grade_or a.fd_Grade_or ["self", "other"] (pureSp (mkT g a) 2 m_Grade_or) := by
  refine fn_pure rfl S.Grade_or_R sc_Grade_or fun cdv A outer s H E C ds hl => ?_
  match ds, hl with
  | [self_0, other_0], _ =>
    show PBX _ _ _ _ _ [some (.val self_0), some (.val other_0), none, none, none] (b_Grade_or self_0 other_0) _ _ _
    unfold b_Grade_or
    exact (pb_asg 2 C.nd rfl (.inl rfl) (px_callB (call_max2 C.calm) cd_max (by rfl) S.n_max (by decide +kernel) (pax_cons (px_callB call_len cd_len (by rfl) S.n_len PySem.boot_len (pax_cons (px_fld C.kk S.kt (px_v 0 rfl rfl (.inr (.inl rfl)) (by decide) (by decide)) rfl) pax_nil)) (pax_cons (px_callB call_len cd_len (by rfl) S.n_len PySem.boot_len (pax_cons (px_fld C.kk S.kt (px_v 1 rfl rfl (.inr (.inl rfl)) (by decide) (by decide)) rfl) pax_nil)) pax_nil))) rfl (.inl rfl) (fun size_0 => nrm [some (.val self_0), some (.val other_0), some (.val size_0), none, none] (pb_asgLc 3 (lcx_map (own := [("number", 4)]) (pix_range1 (by rfl) S.n_range (pax_cons (px_v 2 rfl rfl (.inl rfl) (by decide) (by decide)) pax_nil)) (fun _ _ _ _ _ => pgx_name 4 C.nd rfl (.inl rfl) (.inr rfl)) (by decide) (fun _ => ⟨_, rfl⟩) (fun _ _ _ _ _ number_0 => nrmX [some (.val self_0), some (.val other_0), some (.val size_0), none, some (.val number_0)] (px_call (Ctx.blk C) (ok_least_of S) hn_least_of (by decide) (by rfl) S.h_least_of S.least_of_F.kp S.least_of_b .nil (fun _ => .nil) (pax_cons (PXO.px (pxo_lst (pax_cons (px_call (Ctx.blk C) (ok_led S) hn_led (by decide) (by rfl) S.h_led S.led_F.kp S.led_b .nil (fun _ => .nil) (pax_cons (px_fld (Ctx.blk C).kk S.kt (px_v (x := "self") 0 rfl rfl (.inr (.inl rfl)) (by decide) (by decide)) rfl) (pax_cons (px_fld (Ctx.blk C).kk S.kt (px_v (x := "self") 0 rfl rfl (.inr (.inl rfl)) (by decide) (by decide)) rfl) (pax_cons (px_v (x := "number") 4 rfl rfl (.inl rfl) (by decide) (by decide)) pax_nil)))) (pax_cons (px_call (Ctx.blk C) (ok_led S) hn_led (by decide) (by rfl) S.h_led S.led_F.kp S.led_b .nil (fun _ => .nil) (pax_cons (px_fld (Ctx.blk C).kk S.kt (px_v (x := "other") 1 rfl rfl (.inr (.inl rfl)) (by decide) (by decide)) rfl) (pax_cons (px_fld (Ctx.blk C).kk S.kt (px_v (x := "other") 1 rfl rfl (.inr (.inl rfl)) (by decide) (by decide)) rfl) (pax_cons (px_v (x := "number") 4 rfl rfl (.inl rfl) (by decide) (by decide)) pax_nil)))) pax_nil)))) pax_nil)))) C.calm C.nd rfl rfl (sw_true rfl rfl rfl (by decide +kernel)) (blkOk_by (N := ["self", "other", "size", "table", "number"]) (sc := defScope s_Grade_or) (by decide +kernel)) (fun _ => rfl) (fun table_0 => nrm [some (.val self_0), some (.val other_0), some (.val size_0), some (.val table_0), none] (pb_retD (fun _ => rfl) (px_makeN C S.mk_Grade rfl (ok_Grade_init S) hn_Grade_init (by decide) (by rfl) S.h_Grade S.Grade_init_b .nil (fun _ => .nil) (pax_cons (px_v 3 rfl rfl (.inl rfl) (by decide) (by decide)) (pax_cons (px_call C (ok_least_of S) hn_least_of (by decide) (by rfl) S.h_least_of S.least_of_F.kp S.least_of_b .nil (fun _ => .nil) (pax_cons (PXO.px (pxo_lst (pax_cons (px_fld C.kk S.kt (px_v 0 rfl rfl (.inr (.inl rfl)) (by decide) (by decide)) rfl) (pax_cons (px_fld C.kk S.kt (px_v 1 rfl rfl (.inr (.inl rfl)) (by decide) (by decide)) rfl) pax_nil)))) pax_nil)) pax_nil))))))))
def b__law_grouped (made_0 digits_0 : D) : Res D := Res.bind (lstV (callOo listO (consR (.ok made_0) (.ok [])))) fun rest_0 => Res.bind (dispR (.ok [])) fun row_0 => Res.bind (callOo rng1 (consR (callO lenD (consR (.ok made_0) (.ok []))) (.ok []))) fun ds => Res.bind (forR (fun (s_0 : D × List D) (k_0 : D) => Res.bind (op2 modD (callO intD (consR (op2 ixD (.ok digits_0) (.ok k_0)) (.ok []))) (callO lenD (consR (.ok s_0.1) (.ok [])))) fun at_0 => appR s_0.2 (op2 ixD (.ok s_0.1) (.ok at_0)) fun row_1 => Res.bind (op2 addD (sliceR (.ok s_0.1) none (some (.ok at_0))) (sliceR (.ok s_0.1) (some (op2 addD (.ok at_0) (.ok (.int 1)))) none)) fun rest_1 => .ok (rest_1, row_1)) ds (rest_0, row_0)) fun s_0 => Res.bind (callOo rng1 (consR (op2 subD (callO lenD (consR (.ok made_0) (.ok []))) (.ok (.int 1))) (.ok []))) fun ds => Res.bind (forR (fun (s_1 : D) (k_1 : D) => Res.bind (op2 modD (callO intD (consR (op2 ixD (.ok digits_0) (op2 addD (callO lenD (consR (.ok made_0) (.ok []))) (.ok k_1))) (.ok []))) (op2 subD (callO lenD (consR (.ok s_1) (.ok []))) (.ok (.int 1)))) fun at_1 => Res.bind (op2 addD (op2 addD (sliceR (.ok s_1) none (some (.ok at_1))) (lstV (dispR (consR (own2R 0 m_Grade_or (op2 ixD (.ok s_1) (.ok at_1)) (op2 ixD (.ok s_1) (op2 addD (.ok at_1) (.ok (.int 1))))) (.ok []))))) (sliceR (.ok s_1) (some (op2 addD (.ok at_1) (.ok (.int 2)))) none)) fun row_2 => .ok row_2) ds (.lst s_0.2)) fun s_1 => op2 ixD (.ok s_1) (.ok (.int 0))
def m__law_grouped : List D → Res D
  | [made_0, digits_0] => b__law_grouped made_0 digits_0
  | _ => .bad
theorem hn__law_grouped : ∀ ds : List D, ds.length ≠ 2 → m__law_grouped ds = .bad := by
  intro ds h
  unfold m__law_grouped
  split
  · exact absurd rfl h
  · rfl
theorem ok__law_grouped {g : FP} {a : Adr} (S : Txt g a) : FnOk g.P g.w g.K g.mg g.base (L2.CX g.P g.w) 8 a.f__law_grouped a.fd__law_grouped ["made", "digits"] (pureSp (mkT g a) 2 m__law_grouped) := by
  refine fn_pure rfl S._law_grouped_R sc__law_grouped fun cdv A outer s H E C ds hl => ?_
  match ds, hl with
  | [made_0, digits_0], _ =>
    show PBX _ _ _ _ _ [some (.val made_0), some (.val digits_0), none, none, none, none] (b__law_grouped made_0 digits_0) _ _ _
    unfold b__law_grouped
    exact (pb_asg 2 C.nd rfl (.inl rfl) (PXO.px (pxo_list C.kk (by rfl) S.n_list (pax_cons (px_v 0 rfl rfl (.inl rfl) (by decide) (by decide)) pax_nil))) rfl (.inl rfl) (fun rest_0 => nrm [some (.val made_0), some (.val digits_0), some (.val rest_0), none, none, none] (pb_asgO 3 C.nd rfl (.inl rfl) (pxo_lst pax_nil) rfl (.inl rfl) (fun row_0 => nrm [some (.val made_0), some (.val digits_0), some (.val rest_0), some (.own row_0), none, none] (pb_forS (e1 := (fun (s_0 : D × List D) => ([some (.val made_0), some (.val digits_0), some (.val s_0.1), some (.own s_0.2), none, none] : Env'))) (s0 := (rest_0, row_0)) C.po C.calm (pix_range1 (by rfl) S.n_range (pax_cons (px_callB call_len cd_len (by rfl) S.n_len PySem.boot_len (pax_cons (px_v 0 rfl rfl (.inl rfl) (by decide) (by decide)) pax_nil)) pax_nil)) (pgx_name 4 C.nd rfl (.inl rfl) (.inl rfl)) (by simp [subE]) (fun s_0 k_0 => nrm [some (.val made_0), some (.val digits_0), some (.val s_0.1), some (.own s_0.2), some (.val k_0), none] (pb_asg 5 C.nd rfl (.inl rfl) (px_op op_modN od_mod (px_callTy call_int1 cd_int (by rfl) S.n_int (by decide +kernel) (pax_cons (px_ix ix_seq od_ix (px_v 1 rfl rfl (.inl rfl) (by decide) (by decide)) (px_v 4 rfl rfl (.inl rfl) (by decide) (by decide)) (fun _ _ => rfl)) pax_nil)) (px_callB call_len cd_len (by rfl) S.n_len PySem.boot_len (pax_cons (px_v 2 rfl rfl (.inl rfl) (by decide) (by decide)) pax_nil))) rfl (.inl rfl) (fun at_0 => nrm [some (.val made_0), some (.val digits_0), some (.val s_0.1), some (.own s_0.2), some (.val k_0), some (.val at_0)] (pb_append 3 (o := .Name "row" ⟨0, 0, 0, 0⟩) (p1 := ⟨0, 0, 0, 0⟩) (p2 := ⟨0, 0, 0, 0⟩) C.kk rfl (px_ix ix_seq od_ix (px_v 2 rfl rfl (.inl rfl) (by decide) (by decide)) (px_v 5 rfl rfl (.inl rfl) (by decide) (by decide)) (fun _ _ => rfl)) (fun _ h => ps_expr (pe_bm PySem.F.plainAttrs_list PySem.F.slot_list_append PySem.F.type_list_append mt_append (pv 3 rfl (.inl rfl)) (pa_cons h pa_nil))) (fun row_1 => nrm [some (.val made_0), some (.val digits_0), some (.val s_0.1), some (.own row_1), some (.val k_0), some (.val at_0)] (pb_asg 2 C.nd rfl (.inl rfl) (px_op op_addAll od_add (px_slice C.kk (px_v 2 rfl rfl (.inl rfl) (by decide) (by decide)) pox_none (pox_some (px_v 5 rfl rfl (.inl rfl) (by decide) (by decide)))) (px_slice C.kk (px_v 2 rfl rfl (.inl rfl) (by decide) (by decide)) (pox_some (px_op op_addAll od_add (px_v 5 rfl rfl (.inl rfl) (by decide) (by decide)) px_int)) pox_none)) rfl (.inl rfl) (fun rest_1 => nrm [some (.val made_0), some (.val digits_0), some (.val rest_1), some (.own row_1), some (.val k_0), some (.val at_0)] (pb_nilS (s := (rest_1, row_1)) rfl (by simp [subE]))))))))) (fun s_0 => nrm [some (.val made_0), some (.val digits_0), some (.val s_0.1), some (.own s_0.2), none, none] (pb_frz 3 rfl (nrm [some (.val made_0), some (.val digits_0), some (.val s_0.1), some (.val (.lst s_0.2)), none, none] (pb_forS (e1 := (fun (s_1 : D) => ([some (.val made_0), some (.val digits_0), some (.val s_0.1), some (.val s_1), none, none] : Env'))) (s0 := (.lst s_0.2)) C.po C.calm (pix_range1 (by rfl) S.n_range (pax_cons (px_op op_sub od_sub (px_callB call_len cd_len (by rfl) S.n_len PySem.boot_len (pax_cons (px_v 0 rfl rfl (.inl rfl) (by decide) (by decide)) pax_nil)) px_int) pax_nil)) (pgx_name 4 C.nd rfl (.inl rfl) (.inl rfl)) (by simp [subE]) (fun s_1 k_1 => nrm [some (.val made_0), some (.val digits_0), some (.val s_0.1), some (.val s_1), some (.val k_1), none] (pb_asg 5 C.nd rfl (.inl rfl) (px_op op_modN od_mod (px_callTy call_int1 cd_int (by rfl) S.n_int (by decide +kernel) (pax_cons (px_ix ix_seq od_ix (px_v 1 rfl rfl (.inl rfl) (by decide) (by decide)) (px_op op_addAll od_add (px_callB call_len cd_len (by rfl) S.n_len PySem.boot_len (pax_cons (px_v 0 rfl rfl (.inl rfl) (by decide) (by decide)) pax_nil)) (px_v 4 rfl rfl (.inl rfl) (by decide) (by decide))) (fun _ _ => rfl)) pax_nil)) (px_op op_sub od_sub (px_callB call_len cd_len (by rfl) S.n_len PySem.boot_len (pax_cons (px_v 3 rfl rfl (.inl rfl) (by decide) (by decide)) pax_nil)) px_int)) rfl (.inl rfl) (fun at_1 => nrm [some (.val made_0), some (.val digits_0), some (.val s_0.1), some (.val s_1), some (.val k_1), some (.val at_1)] (pb_asg 3 C.nd rfl (.inl rfl) (px_op op_addAll od_add (px_op op_addAll od_add (px_slice C.kk (px_v 3 rfl rfl (.inl rfl) (by decide) (by decide)) pox_none (pox_some (px_v 5 rfl rfl (.inl rfl) (by decide) (by decide)))) (PXO.px (pxo_lst (pax_cons (px_own2 (op := .BitOr) C S.sf_Grade S.Grade_or_at S.Grade_or_fn rfl (ok_Grade_or S) hn_Grade_or (by decide) S.Grade_or_b (px_ix ix_seq od_ix (px_v 3 rfl rfl (.inl rfl) (by decide) (by decide)) (px_v 5 rfl rfl (.inl rfl) (by decide) (by decide)) (fun _ _ => rfl)) (px_ix ix_seq od_ix (px_v 3 rfl rfl (.inl rfl) (by decide) (by decide)) (px_op op_addAll od_add (px_v 5 rfl rfl (.inl rfl) (by decide) (by decide)) px_int) (fun _ _ => rfl))) pax_nil)))) (px_slice C.kk (px_v 3 rfl rfl (.inl rfl) (by decide) (by decide)) (pox_some (px_op op_addAll od_add (px_v 5 rfl rfl (.inl rfl) (by decide) (by decide)) px_int)) pox_none)) rfl (.inl rfl) (fun row_2 => nrm [some (.val made_0), some (.val digits_0), some (.val s_0.1), some (.val row_2), some (.val k_1), some (.val at_1)] (pb_nilS (s := row_2) rfl (by simp [subE]))))))) (fun s_1 => nrm [some (.val made_0), some (.val digits_0), some (.val s_0.1), some (.val s_1), none, none] (pb_retD (fun _ => rfl) (px_ix ix_seq od_ix (px_v 3 rfl rfl (.inl rfl) (by decide) (by decide)) px_int (fun _ _ => rfl)))) (fun _ => rfl))))) (fun _ => rfl))))))
def b__law_same_worth (told_0 due_0 : D) : Res D := iteR (blR (op2 isND (.ok due_0) (.ok .non))) (op2 isND (.ok told_0) (.ok .non)) (andV (callR m__law_whole [] (consR (.ok told_0) (.ok []))) (op2 eqD (.ok told_0) (.ok due_0)))
def m__law_same_worth : List D → Res D
  | [told_0, due_0] => b__law_same_worth told_0 due_0
  | _ => .bad
theorem hn__law_same_worth : ∀ ds : List D, ds.length ≠ 2 → m__law_same_worth ds = .bad := by
  intro ds h
  unfold m__law_same_worth
  split
  · exact absurd rfl h
  · rfl
theorem ok__law_same_worth {g : FP} {a : Adr} (S : Txt g a) : FnOk g.P g.w g.K g.mg g.base (L2.CX g.P g.w) 2 a.f__law_same_worth a.fd__law_same_worth ["told", "due"] (pureSp (mkT g a) 2 m__law_same_worth) := by
  refine fn_pure rfl S._law_same_worth_R sc__law_same_worth fun cdv A outer s H E C ds hl => ?_
  match ds, hl with
  | [told_0, due_0], _ =>
    show PBX _ _ _ _ _ [some (.val told_0), some (.val due_0)] (b__law_same_worth told_0 due_0) _ _ _
    unfold b__law_same_worth
    exact (pb_if_x0 (ptx_cmp op_isN od_isN (px_v 1 rfl rfl (.inl rfl) (by decide) (by decide)) px_non (nomark _)) (pb_retD (fun _ => rfl) (px_cmpR op_isN od_isN (px_v 0 rfl rfl (.inl rfl) (by decide) (by decide)) px_non (nomark _))) (pb_retD (fun _ => rfl) (px_and (px_call C (ok__law_whole S) hn__law_whole (by decide) (by rfl) S.h__law_whole S._law_whole_F.kp S._law_whole_b .nil (fun _ => .nil) (pax_cons (px_v 0 rfl rfl (.inl rfl) (by decide) (by decide)) pax_nil)) (px_one (px_cmpR (op_eqD C.room.units) od_eq (px_v 0 rfl rfl (.inl rfl) (by decide) (by decide)) (px_v 1 rfl rfl (.inl rfl) (by decide) (by decide)) (nomark _))))))
def b__law_same_worths (told_0 due_0 : D) : Res D := iteR (orB (notB (truR (op1 (isiD "tuple") (.ok told_0)))) (blR (op2 neD (callO lenD (consR (.ok told_0) (.ok []))) (callO lenD (consR (.ok due_0) (.ok [])))))) (.ok (.bl false)) (Res.bind (callOo rng1 (consR (callO lenD (consR (.ok due_0) (.ok []))) (.ok []))) fun ds => Res.bind (forG id (fun (s_0 : Unit) (k_0 : D) => iteR (notB (truR (callR m__law_same_worth [] (consR (op2 ixD (.ok told_0) (.ok k_0)) (consR (op2 ixD (.ok due_0) (.ok k_0)) (.ok [])))))) (Res.bind (.ok (.bl false)) fun d => .ok (.rt d)) (.ok (.nx ()))) ds ()) (lpK (fun d => .ok d) fun s_0 => .ok (.bl true)))
def m__law_same_worths : List D → Res D
  | [told_0, due_0] => b__law_same_worths told_0 due_0
  | _ => .bad
theorem hn__law_same_worths : ∀ ds : List D, ds.length ≠ 2 → m__law_same_worths ds = .bad := by
  intro ds h
  unfold m__law_same_worths
  split
  · exact absurd rfl h
  · rfl
theorem ok__law_same_worths {g : FP} {a : Adr} (S : Txt g a) : FnOk g.P g.w g.K g.mg g.base (L2.CX g.P g.w) 3 a.f__law_same_worths a.fd__law_same_worths ["told", "due"] (pureSp (mkT g a) 2 m__law_same_worths) := by
  refine fn_pure rfl S._law_same_worths_R sc__law_same_worths fun cdv A outer s H E C ds hl => ?_
  match ds, hl with
  | [told_0, due_0], _ =>
    show PBX _ _ _ _ _ [some (.val told_0), some (.val due_0), none] (b__law_same_worths told_0 due_0) _ _ _
    unfold b__law_same_worths
    exact (pb_if_x0 (PWX.pt (pwx_or (ptx_not (ptx_tru C.kk (px_isi C.kk S.kt (by simp) (by rfl) S.n_isinstance (by rfl) S.n_tuple (by decide +kernel) (by decide) (by decide) (px_v 0 rfl rfl (.inl rfl) (by decide) (by decide))) (fun _ => rfl))) (pwx_or1 (ptx_cmp (op_neD C.room.units) od_ne (px_callB call_len cd_len (by rfl) S.n_len PySem.boot_len (pax_cons (px_v 0 rfl rfl (.inl rfl) (by decide) (by decide)) pax_nil)) (px_callB call_len cd_len (by rfl) S.n_len PySem.boot_len (pax_cons (px_v 1 rfl rfl (.inl rfl) (by decide) (by decide)) pax_nil)) (nomark _))))) (pb_retD (fun _ => rfl) px_bl) (pb_for (e1 := (fun (s_0 : Unit) => ([some (.val told_0), some (.val due_0), none] : Env'))) (s0 := ()) (r := (fun d => .ok d)) C.po C.calm (pix_range1 (by rfl) S.n_range (pax_cons (px_callB call_len cd_len (by rfl) S.n_len PySem.boot_len (pax_cons (px_v 1 rfl rfl (.inl rfl) (by decide) (by decide)) pax_nil)) pax_nil)) (pgx_name 2 C.nd rfl (.inl rfl) (.inl rfl)) (by simp [subE]) (fun s_0 k_0 => nrm [some (.val told_0), some (.val due_0), some (.val k_0)] (pb_if_x0 (ptx_not (ptx_tru C.kk (px_call C (ok__law_same_worth S) hn__law_same_worth (by decide) (by rfl) S.h__law_same_worth S._law_same_worth_F.kp S._law_same_worth_b .nil (fun _ => .nil) (pax_cons (px_ix ix_seq od_ix (px_v 0 rfl rfl (.inl rfl) (by decide) (by decide)) (px_v 2 rfl rfl (.inl rfl) (by decide) (by decide)) (fun _ _ => rfl)) (pax_cons (px_ix ix_seq od_ix (px_v 1 rfl rfl (.inl rfl) (by decide) (by decide)) (px_v 2 rfl rfl (.inl rfl) (by decide) (by decide)) (fun _ _ => rfl)) pax_nil))) (fun _ => rfl))) (pb_ret (r := Fl.rt) (fun _ => rfl) px_bl) (pb_nilS (s := ()) rfl (by simp [subE])))) (fun d => .inr ⟨_, rfl, rfl⟩) (fun s_0 => nrm [some (.val told_0), some (.val due_0), none] (pb_retD (fun _ => rfl) px_bl)) (fun _ => rfl)))
def b__law_least_entries (grade_0 : D) : Res D := Res.bind (lstV (callOo listO (consR (op2 ixD (.ok grade_0) (.ok (.int 0))) (.ok [])))) fun entries_0 => Res.bind (callOo rng1 (consR (callO lenD (consR (op2 ixD (.ok grade_0) (.ok (.int 0))) (.ok []))) (.ok []))) fun ds => Res.bind (forG id (fun (s_0 : D) (k_0 : D) => Res.bind (op2 subD (callO lenD (consR (.ok s_0) (.ok []))) (.ok (.int 1))) fun place_0 => Res.bind (.ok .non) fun due_0 => Res.bind (iteR (blR (op2 notND (op2 ixD (.ok grade_0) (.ok (.int 1))) (.ok .non))) (Res.bind (op2 addD (.ok place_0) (op2 ixD (.ok grade_0) (.ok (.int 1)))) fun due_1 => .ok due_1) (.ok due_0)) fun s_1 => iteR (blR (op2 neD (op2 ixD (.ok s_0) (.ok place_0)) (.ok s_1))) (Res.bind (.ok s_0) fun d => .ok (.rt d)) (Res.bind (sliceR (.ok s_0) none (some (.ok place_0))) fun entries_1 => .ok (.nx entries_1))) ds entries_0) (lpK (fun d => .ok d) fun s_0 => .ok s_0)
def m__law_least_entries : List D → Res D
  | [grade_0] => b__law_least_entries grade_0
  | _ => .bad
theorem hn__law_least_entries : ∀ ds : List D, ds.length ≠ 1 → m__law_least_entries ds = .bad := by
  intro ds h
  unfold m__law_least_entries
  split
  · exact absurd rfl h
  · rfl
theorem ok__law_least_entries {g : FP} {a : Adr} (S : Txt g a) : FnOk g.P g.w g.K g.mg g.base (L2.CX g.P g.w) 1 a.f__law_least_entries a.fd__law_least_entries ["grade"] (pureSp (mkT g a) 1 m__law_least_entries) := by
  refine fn_pure rfl S._law_least_entries_R sc__law_least_entries fun cdv A outer s H E C ds hl => ?_
  match ds, hl with
  | [grade_0], _ =>
    show PBX _ _ _ _ _ [some (.val grade_0), none, none, none, none] (b__law_least_entries grade_0) _ _ _
    unfold b__law_least_entries
    exact (pb_asg 1 C.nd rfl (.inl rfl) (PXO.px (pxo_list C.kk (by rfl) S.n_list (pax_cons (px_ix ix_seq od_ix (px_v 0 rfl rfl (.inl rfl) (by decide) (by decide)) px_int (fun _ _ => rfl)) pax_nil))) rfl (.inl rfl) (fun entries_0 => nrm [some (.val grade_0), some (.val entries_0), none, none, none] (pb_for (e1 := (fun (s_0 : D) => ([some (.val grade_0), some (.val s_0), none, none, none] : Env'))) (s0 := entries_0) (r := (fun d => .ok d)) C.po C.calm (pix_range1 (by rfl) S.n_range (pax_cons (px_callB call_len cd_len (by rfl) S.n_len PySem.boot_len (pax_cons (px_ix ix_seq od_ix (px_v 0 rfl rfl (.inl rfl) (by decide) (by decide)) px_int (fun _ _ => rfl)) pax_nil)) pax_nil)) (pgx_name 2 C.nd rfl (.inl rfl) (.inl rfl)) (by simp [subE]) (fun s_0 k_0 => nrm [some (.val grade_0), some (.val s_0), some (.val k_0), none, none] (pb_asg 3 C.nd rfl (.inl rfl) (px_op op_sub od_sub (px_callB call_len cd_len (by rfl) S.n_len PySem.boot_len (pax_cons (px_v 1 rfl rfl (.inl rfl) (by decide) (by decide)) pax_nil)) px_int) rfl (.inl rfl) (fun place_0 => nrm [some (.val grade_0), some (.val s_0), some (.val k_0), some (.val place_0), none] (pb_asg 4 C.nd rfl (.inl rfl) px_non rfl (.inl rfl) (fun due_0 => nrm [some (.val grade_0), some (.val s_0), some (.val k_0), some (.val place_0), some (.val due_0)] (pb_if_j (e' := fun (s_1 : D) => ([some (.val grade_0), some (.val s_0), some (.val k_0), some (.val place_0), some (.val s_1)] : Env')) (ptx_cmp op_notN od_notN (px_ix ix_seq od_ix (px_v 0 rfl rfl (.inl rfl) (by decide) (by decide)) px_int (fun _ _ => rfl)) px_non (nomark _)) (pb_asg 4 C.nd rfl (.inl rfl) (px_op op_addAll od_add (px_v 3 rfl rfl (.inl rfl) (by decide) (by decide)) (px_ix ix_seq od_ix (px_v 0 rfl rfl (.inl rfl) (by decide) (by decide)) px_int (fun _ _ => rfl))) rfl (.inl rfl) (fun due_1 => nrm [some (.val grade_0), some (.val s_0), some (.val k_0), some (.val place_0), some (.val due_1)] (pb_nilS (s := due_1) rfl (by simp [subE])))) (pb_nilS (s := due_0) rfl (by simp [subE])) (fun s_1 => nrm [some (.val grade_0), some (.val s_0), some (.val k_0), some (.val place_0), some (.val s_1)] (pb_if_x0 (ptx_cmp (op_neD C.room.units) od_ne (px_ix ix_seq od_ix (px_v 1 rfl rfl (.inl rfl) (by decide) (by decide)) (px_v 3 rfl rfl (.inl rfl) (by decide) (by decide)) (fun _ _ => rfl)) (px_v 4 rfl rfl (.inl rfl) (by decide) (by decide)) (nomark _)) (pb_ret (r := Fl.rt) (fun _ => rfl) (px_v 1 rfl rfl (.inl rfl) (by decide) (by decide))) (pb_asg 1 C.nd rfl (.inl rfl) (px_slice C.kk (px_v 1 rfl rfl (.inl rfl) (by decide) (by decide)) pox_none (pox_some (px_v 3 rfl rfl (.inl rfl) (by decide) (by decide)))) rfl (.inl rfl) (fun entries_1 => nrm [some (.val grade_0), some (.val entries_1), some (.val k_0), some (.val place_0), some (.val s_1)] (pb_nilS (s := entries_1) rfl (by simp [subE])))))))))))) (fun d => .inr ⟨_, rfl, rfl⟩) (fun s_0 => nrm [some (.val grade_0), some (.val s_0), none, none, none] (pb_retD (fun _ => rfl) (px_v 1 rfl rfl (.inl rfl) (by decide) (by decide)))) (fun _ => rfl))))
def b_Grade_call (self_0 worth_0 : D) : Res D := callR m_led [] (consR (op1 (fldD at_ "table") (.ok self_0)) (consR (op1 (fldD at_ "more") (.ok self_0)) (consR (.ok worth_0) (.ok []))))
def m_Grade_call : List D → Res D
  | [self_0, worth_0] => b_Grade_call self_0 worth_0
  | _ => .bad
theorem hn_Grade_call : ∀ ds : List D, ds.length ≠ 2 → m_Grade_call ds = .bad := by
  intro ds h
  unfold m_Grade_call
  split
  · exact absurd rfl h
  · rfl
theorem ok_Grade_call {g : FP} {a : Adr} (S : Txt g a) : FnOk g.P g.w g.K g.mg g.base (L2.CX g.P g.w) 3 a.f_Grade_call a.fd_Grade_call ["self", "worth"] (pureSp (mkT g a) 2 m_Grade_call) := by
  refine fn_pure rfl S.Grade_call_R sc_Grade_call fun cdv A outer s H E C ds hl => ?_
  match ds, hl with
  | [self_0, worth_0], _ =>
    show PBX _ _ _ _ _ [some (.val self_0), some (.val worth_0)] (b_Grade_call self_0 worth_0) _ _ _
    unfold b_Grade_call
    exact (pb_retD (fun _ => rfl) (px_call C (ok_led S) hn_led (by decide) (by rfl) S.h_led S.led_F.kp S.led_b .nil (fun _ => .nil) (pax_cons (px_fld C.kk S.kt (px_v 0 rfl rfl (.inl rfl) (by decide) (by decide)) rfl) (pax_cons (px_fld C.kk S.kt (px_v 0 rfl rfl (.inl rfl) (by decide) (by decide)) rfl) (pax_cons (px_v 1 rfl rfl (.inl rfl) (by decide) (by decide)) pax_nil)))))
def b__law_tells (made_0 due_0 worths_0 : D) : Res D := iteR (orB (notB (truR (op1 (isCD sub_ 0) (.ok made_0)))) (notB (truR (callR m__law_same_worths [] (consR (op1 (fldD at_ "table") (.ok made_0)) (consR (callR m__law_least_entries [] (consR (.ok due_0) (.ok []))) (.ok []))))))) (.ok (.bl false)) (iteR (notB (truR (callR m__law_same_worth [] (consR (op1 (fldD at_ "more") (.ok made_0)) (consR (op2 ixD (.ok due_0) (.ok (.int 1))) (.ok [])))))) (.ok (.bl false)) (Res.bind (itemsR (.ok worths_0)) fun ds => Res.bind (forG id (fun (s_0 : Unit) (worth_0 : D) => iteR (notB (truR (callR m__law_same_worth [] (consR (callI 0 m_Grade_call (.ok made_0) (consR (.ok worth_0) (.ok []))) (consR (callR m__law_at [] (consR (.ok due_0) (consR (.ok worth_0) (.ok [])))) (.ok [])))))) (Res.bind (.ok (.bl false)) fun d => .ok (.rt d)) (.ok (.nx ()))) ds ()) (lpK (fun d => .ok d) fun s_0 => .ok (.bl true))))
def m__law_tells : List D → Res D
  | [made_0, due_0, worths_0] => b__law_tells made_0 due_0 worths_0
  | _ => .bad
theorem hn__law_tells : ∀ ds : List D, ds.length ≠ 3 → m__law_tells ds = .bad := by
  intro ds h
  unfold m__law_tells
  split
  · exact absurd rfl h
  · rfl
theorem ok__law_tells {g : FP} {a : Adr} (S : Txt g a) : FnOk g.P g.w g.K g.mg g.base (L2.CX g.P g.w) 5 a.f__law_tells a.fd__law_tells ["made", "due", "worths"] (pureSp (mkT g a) 3 m__law_tells) := by
  refine fn_pure rfl S._law_tells_R sc__law_tells fun cdv A outer s H E C ds hl => ?_
  match ds, hl with
  | [made_0, due_0, worths_0], _ =>
    show PBX _ _ _ _ _ [some (.val made_0), some (.val due_0), some (.val worths_0), none] (b__law_tells made_0 due_0 worths_0) _ _ _
    unfold b__law_tells
    exact (pb_if_x0 (PWX.pt (pwx_or (ptx_not (ptx_tru C.kk (px_isC C.kk S.kt rfl (by rfl) S.n_isinstance (by rfl) S.h_Grade (by decide) (px_v 0 rfl rfl (.inl rfl) (by decide) (by decide))) (fun _ => rfl))) (pwx_or1 (ptx_not (ptx_tru C.kk (px_call C (ok__law_same_worths S) hn__law_same_worths (by decide) (by rfl) S.h__law_same_worths S._law_same_worths_F.kp S._law_same_worths_b .nil (fun _ => .nil) (pax_cons (px_fld C.kk S.kt (px_v 0 rfl rfl (.inl rfl) (by decide) (by decide)) rfl) (pax_cons (px_call C (ok__law_least_entries S) hn__law_least_entries (by decide) (by rfl) S.h__law_least_entries S._law_least_entries_F.kp S._law_least_entries_b .nil (fun _ => .nil) (pax_cons (px_v 1 rfl rfl (.inl rfl) (by decide) (by decide)) pax_nil)) pax_nil))) (fun _ => rfl)))))) (pb_retD (fun _ => rfl) px_bl) (pb_if_x0 (ptx_not (ptx_tru C.kk (px_call C (ok__law_same_worth S) hn__law_same_worth (by decide) (by rfl) S.h__law_same_worth S._law_same_worth_F.kp S._law_same_worth_b .nil (fun _ => .nil) (pax_cons (px_fld C.kk S.kt (px_v 0 rfl rfl (.inl rfl) (by decide) (by decide)) rfl) (pax_cons (px_ix ix_seq od_ix (px_v 1 rfl rfl (.inl rfl) (by decide) (by decide)) px_int (fun _ _ => rfl)) pax_nil))) (fun _ => rfl))) (pb_retD (fun _ => rfl) px_bl) (pb_for (e1 := (fun (s_0 : Unit) => ([some (.val made_0), some (.val due_0), some (.val worths_0), none] : Env'))) (s0 := ()) (r := (fun d => .ok d)) C.po C.calm (pix_seq C.kk (px_v 2 rfl rfl (.inl rfl) (by decide) (by decide))) (pgx_name 3 C.nd rfl (.inl rfl) (.inl rfl)) (by simp [subE]) (fun s_0 worth_0 => nrm [some (.val made_0), some (.val due_0), some (.val worths_0), some (.val worth_0)] (pb_if_x0 (ptx_not (ptx_tru C.kk (px_call C (ok__law_same_worth S) hn__law_same_worth (by decide) (by rfl) S.h__law_same_worth S._law_same_worth_F.kp S._law_same_worth_b .nil (fun _ => .nil) (pax_cons (px_callI C S.Grade_call_at S.Grade_call_fn S.Grade_call_fi rfl (ok_Grade_call S) hn_Grade_call (by decide) S.Grade_call_b (px_v 0 rfl rfl (.inl rfl) (by decide) (by decide)) (pax_cons (px_v 3 rfl rfl (.inl rfl) (by decide) (by decide)) pax_nil)) (pax_cons (px_call C (ok__law_at S) hn__law_at (by decide) (by rfl) S.h__law_at S._law_at_F.kp S._law_at_b .nil (fun _ => .nil) (pax_cons (px_v 1 rfl rfl (.inl rfl) (by decide) (by decide)) (pax_cons (px_v 3 rfl rfl (.inl rfl) (by decide) (by decide)) pax_nil))) pax_nil))) (fun _ => rfl))) (pb_ret (r := Fl.rt) (fun _ => rfl) px_bl) (pb_nilS (s := ()) rfl (by simp [subE])))) (fun d => .inr ⟨_, rfl, rfl⟩) (fun s_0 => nrm [some (.val made_0), some (.val due_0), some (.val worths_0), none] (pb_retD (fun _ => rfl) px_bl)) (fun _ => rfl))))
def b_Grade_eq (self_0 other_0 : D) : Res D := andV (op1 (isCD sub_ 0) (.ok other_0)) (andV (op2 eqD (op1 (fldD at_ "table") (.ok self_0)) (op1 (fldD at_ "table") (.ok other_0))) (op2 eqD (op1 (fldD at_ "more") (.ok self_0)) (op1 (fldD at_ "more") (.ok other_0))))
def m_Grade_eq : List D → Res D
  | [self_0, other_0] => b_Grade_eq self_0 other_0
  | _ => .bad
theorem hn_Grade_eq : ∀ ds : List D, ds.length ≠ 2 → m_Grade_eq ds = .bad := by
  intro ds h
  unfold m_Grade_eq
  split
  · exact absurd rfl h
  · rfl
theorem ok_Grade_eq {g : FP} {a : Adr} (S : Txt g a) : FnOk g.P g.w g.K g.mg g.base (L2.CX g.P g.w) 1 a.f_Grade_eq a.fd_Grade_eq ["self", "other"] (pureSp (mkT g a) 2 m_Grade_eq) := by
  refine fn_pure rfl S.Grade_eq_R sc_Grade_eq fun cdv A outer s H E C ds hl => ?_
  match ds, hl with
  | [self_0, other_0], _ =>
    show PBX _ _ _ _ _ [some (.val self_0), some (.val other_0)] (b_Grade_eq self_0 other_0) _ _ _
    unfold b_Grade_eq
    exact (pb_retD (fun _ => rfl) (px_and (px_isC C.kk S.kt rfl (by rfl) S.n_isinstance (by rfl) S.h_Grade (by decide) (px_v 1 rfl rfl (.inl rfl) (by decide) (by decide))) (px_and (px_cmpR (op_eqD C.room.units) od_eq (px_fld C.kk S.kt (px_v 0 rfl rfl (.inl rfl) (by decide) (by decide)) rfl) (px_fld C.kk S.kt (px_v 1 rfl rfl (.inl rfl) (by decide) (by decide)) rfl) (nomark _)) (px_one (px_cmpR (op_eqD C.room.units) od_eq (px_fld C.kk S.kt (px_v 0 rfl rfl (.inl rfl) (by decide) (by decide)) rfl) (px_fld C.kk S.kt (px_v 1 rfl rfl (.inl rfl) (by decide) (by decide)) rfl) (nomark _))))))
def b__law_equal (one_0 two_0 : D) : Res D := Res.bind (ownEqR sub_ 0 m_Grade_eq (.ok one_0) (.ok two_0)) fun told_0 => andV (op1 (isiD "bool") (.ok told_0)) (.ok told_0)
def m__law_equal : List D → Res D
  | [one_0, two_0] => b__law_equal one_0 two_0
  | _ => .bad
theorem hn__law_equal : ∀ ds : List D, ds.length ≠ 2 → m__law_equal ds = .bad := by
  intro ds h
  unfold m__law_equal
  split
  · exact absurd rfl h
  · rfl
theorem ok__law_equal {g : FP} {a : Adr} (S : Txt g a) : FnOk g.P g.w g.K g.mg g.base (L2.CX g.P g.w) 2 a.f__law_equal a.fd__law_equal ["one", "two"] (pureSp (mkT g a) 2 m__law_equal) := by
  refine fn_pure rfl S._law_equal_R sc__law_equal fun cdv A outer s H E C ds hl => ?_
  match ds, hl with
  | [one_0, two_0], _ =>
    show PBX _ _ _ _ _ [some (.val one_0), some (.val two_0), none] (b__law_equal one_0 two_0) _ _ _
    unfold b__law_equal
    exact (pb_asg 2 C.nd rfl (.inl rfl) (px_ownEq C S.kt S.Grade_eq_at S.Grade_eq_fn rfl S.nf_Grade S.nc_Grade (ok_Grade_eq S) hn_Grade_eq (by decide) S.Grade_eq_b (px_v 0 rfl rfl (.inl rfl) (by decide) (by decide)) (px_v 1 rfl rfl (.inl rfl) (by decide) (by decide)) (nomark _)) rfl (.inl rfl) (fun told_0 => nrm [some (.val one_0), some (.val two_0), some (.val told_0)] (pb_retD (fun _ => rfl) (px_and (px_isi C.kk S.kt (by simp) (by rfl) S.n_isinstance (by rfl) S.n_bool (by decide +kernel) (by decide) (by decide) (px_v 2 rfl rfl (.inl rfl) (by decide) (by decide))) (px_one (px_v 2 rfl rfl (.inl rfl) (by decide) (by decide)))))))
def b_Grade_stands_at (self_0 number_0 : D) : Res D := andV (callR m_is_number [] (consR (.ok number_0) (.ok []))) (op2 eqD (callR m_led [] (consR (op1 (fldD at_ "table") (.ok self_0)) (consR (op1 (fldD at_ "more") (.ok self_0)) (consR (.ok number_0) (.ok []))))) (.ok number_0))
def m_Grade_stands_at : List D → Res D
  | [self_0, number_0] => b_Grade_stands_at self_0 number_0
  | _ => .bad
theorem hn_Grade_stands_at : ∀ ds : List D, ds.length ≠ 2 → m_Grade_stands_at ds = .bad := by
  intro ds h
  unfold m_Grade_stands_at
  split
  · exact absurd rfl h
  · rfl
theorem ok_Grade_stands_at {g : FP} {a : Adr} (S : Txt g a) : FnOk g.P g.w g.K g.mg g.base (L2.CX g.P g.w) 3 a.f_Grade_stands_at a.fd_Grade_stands_at ["self", "number"] (pureSp (mkT g a) 2 m_Grade_stands_at) := by
  refine fn_pure rfl S.Grade_stands_at_R sc_Grade_stands_at fun cdv A outer s H E C ds hl => ?_
  match ds, hl with
  | [self_0, number_0], _ =>
    show PBX _ _ _ _ _ [some (.val self_0), some (.val number_0)] (b_Grade_stands_at self_0 number_0) _ _ _
    unfold b_Grade_stands_at
    exact (pb_retD (fun _ => rfl) (px_and (px_call C (ok_is_number S) hn_is_number (by decide) (by rfl) S.h_is_number S.is_number_F.kp S.is_number_b .nil (fun _ => .nil) (pax_cons (px_v 1 rfl rfl (.inl rfl) (by decide) (by decide)) pax_nil)) (px_one (px_cmpR (op_eqD C.room.units) od_eq (px_call C (ok_led S) hn_led (by decide) (by rfl) S.h_led S.led_F.kp S.led_b .nil (fun _ => .nil) (pax_cons (px_fld C.kk S.kt (px_v 0 rfl rfl (.inl rfl) (by decide) (by decide)) rfl) (pax_cons (px_fld C.kk S.kt (px_v 0 rfl rfl (.inl rfl) (by decide) (by decide)) rfl) (pax_cons (px_v 1 rfl rfl (.inl rfl) (by decide) (by decide)) pax_nil)))) (px_v 1 rfl rfl (.inl rfl) (by decide) (by decide)) (nomark _)))))
def b_Grade_standing (self_0 : D) : Res D := Res.bind (callOo rng1 (consR (callO lenD (consR (op1 (fldD at_ "table") (.ok self_0)) (.ok []))) (.ok []))) fun ds => Res.bind (forG id (fun (s_0 : Unit) (number_0 : D) => iteR (blR (op2 eqD (op2 ixD (op1 (fldD at_ "table") (.ok self_0)) (.ok number_0)) (.ok number_0))) (Res.bind (.ok number_0) fun d => .ok (.rt d)) (.ok (.nx ()))) ds ()) (lpK (fun d => .ok d) fun s_0 => iteR (blR (op2 eqD (op1 (fldD at_ "more") (.ok self_0)) (.ok (.int 0)))) (callO lenD (consR (op1 (fldD at_ "table") (.ok self_0)) (.ok []))) (.ok .non))
def m_Grade_standing : List D → Res D
  | [self_0] => b_Grade_standing self_0
  | _ => .bad
theorem hn_Grade_standing : ∀ ds : List D, ds.length ≠ 1 → m_Grade_standing ds = .bad := by
  intro ds h
  unfold m_Grade_standing
  split
  · exact absurd rfl h
  · rfl
theorem ok_Grade_standing {g : FP} {a : Adr} (S : Txt g a) : FnOk g.P g.w g.K g.mg g.base (L2.CX g.P g.w) 1 a.f_Grade_standing a.fd_Grade_standing ["self"] (pureSp (mkT g a) 1 m_Grade_standing) := by
  refine fn_pure rfl S.Grade_standing_R sc_Grade_standing fun cdv A outer s H E C ds hl => ?_
  match ds, hl with
  | [self_0], _ =>
    show PBX _ _ _ _ _ [some (.val self_0), none] (b_Grade_standing self_0) _ _ _
    unfold b_Grade_standing
    exact (pb_for (e1 := (fun (s_0 : Unit) => ([some (.val self_0), none] : Env'))) (s0 := ()) (r := (fun d => .ok d)) C.po C.calm (pix_range1 (by rfl) S.n_range (pax_cons (px_callB call_len cd_len (by rfl) S.n_len PySem.boot_len (pax_cons (px_fld C.kk S.kt (px_v 0 rfl rfl (.inl rfl) (by decide) (by decide)) rfl) pax_nil)) pax_nil)) (pgx_name 1 C.nd rfl (.inl rfl) (.inl rfl)) (by simp [subE]) (fun s_0 number_0 => nrm [some (.val self_0), some (.val number_0)] (pb_if_x0 (ptx_cmp (op_eqD C.room.units) od_eq (px_ix ix_seq od_ix (px_fld C.kk S.kt (px_v 0 rfl rfl (.inl rfl) (by decide) (by decide)) rfl) (px_v 1 rfl rfl (.inl rfl) (by decide) (by decide)) (fun _ _ => rfl)) (px_v 1 rfl rfl (.inl rfl) (by decide) (by decide)) (nomark _)) (pb_ret (r := Fl.rt) (fun _ => rfl) (px_v 1 rfl rfl (.inl rfl) (by decide) (by decide))) (pb_nilS (s := ()) rfl (by simp [subE])))) (fun d => .inr ⟨_, rfl, rfl⟩) (fun s_0 => nrm [some (.val self_0), none] (pb_if_x0 (ptx_cmp (op_eqD C.room.units) od_eq (px_fld C.kk S.kt (px_v 0 rfl rfl (.inl rfl) (by decide) (by decide)) rfl) px_int (nomark _)) (pb_retD (fun _ => rfl) (px_callB call_len cd_len (by rfl) S.n_len PySem.boot_len (pax_cons (px_fld C.kk S.kt (px_v 0 rfl rfl (.inl rfl) (by decide) (by decide)) rfl) pax_nil))) (pb_retD (fun _ => rfl) px_non))) (fun _ => rfl))
def b__law_stands_where_one (made_0 grades_0 numbers_0 : D) : Res D := Res.bind (.ok .non) fun least_0 => Res.bind (itemsR (.ok numbers_0)) fun ds => Res.bind (forG id (fun (s_0 : D) (number_0 : D) => Res.bind (.ok (.bl false)) fun due_0 => Res.bind (itemsR (.ok grades_0)) fun ds => Res.bind (forR (fun (s_1 : D) (grade_0 : D) => iteR (blR (op2 eqD (callR m__law_at [] (consR (.ok grade_0) (consR (.ok number_0) (.ok [])))) (.ok number_0))) (Res.bind (.ok (.bl true)) fun due_1 => .ok due_1) (.ok s_1)) ds due_0) fun s_1 => Res.bind (methR 0 m_Grade_stands_at [] (.ok made_0) (consR (.ok number_0) (.ok []))) fun told_0 => iteR (orB (notB (truR (op1 (isiD "bool") (.ok told_0)))) (blR (op2 neD (.ok told_0) (.ok s_1)))) (Res.bind (.ok (.bl false)) fun d => .ok (.rt d)) (iteR (andB (truR (.ok s_1)) (blR (op2 isND (.ok s_0) (.ok .non)))) (Res.bind (.ok number_0) fun least_1 => .ok (.nx least_1)) (.ok (.nx s_0)))) ds least_0) (lpK (fun d => .ok d) fun s_0 => callR m__law_same_worth [] (consR (propR 0 m_Grade_standing (.ok made_0)) (consR (.ok s_0) (.ok []))))
def m__law_stands_where_one : List D → Res D
  | [made_0, grades_0, numbers_0] => b__law_stands_where_one made_0 grades_0 numbers_0
  | _ => .bad
theorem hn__law_stands_where_one : ∀ ds : List D, ds.length ≠ 3 → m__law_stands_where_one ds = .bad := by
  intro ds h
  unfold m__law_stands_where_one
  split
  · exact absurd rfl h
  · rfl
theorem ok__law_stands_where_one {g : FP} {a : Adr} (S : Txt g a) : FnOk g.P g.w g.K g.mg g.base (L2.CX g.P g.w) 4 a.f__law_stands_where_one a.fd__law_stands_where_one ["made", "grades", "numbers"] (pureSp (mkT g a) 3 m__law_stands_where_one) := by
  refine fn_pure rfl S._law_stands_where_one_R sc__law_stands_where_one fun cdv A outer s H E C ds hl => ?_
  match ds, hl with
  | [made_0, grades_0, numbers_0], _ =>
    show PBX _ _ _ _ _ [some (.val made_0), some (.val grades_0), some (.val numbers_0), none, none, none, none, none] (b__law_stands_where_one made_0 grades_0 numbers_0) _ _ _
    unfold b__law_stands_where_one
    exact (pb_asg 3 C.nd rfl (.inl rfl) px_non rfl (.inl rfl) (fun least_0 => nrm [some (.val made_0), some (.val grades_0), some (.val numbers_0), some (.val least_0), none, none, none, none] (pb_for (e1 := (fun (s_0 : D) => ([some (.val made_0), some (.val grades_0), some (.val numbers_0), some (.val s_0), none, none, none, none] : Env'))) (s0 := least_0) (r := (fun d => .ok d)) C.po C.calm (pix_seq C.kk (px_v 2 rfl rfl (.inl rfl) (by decide) (by decide))) (pgx_name 4 C.nd rfl (.inl rfl) (.inl rfl)) (by simp [subE]) (fun s_0 number_0 => nrm [some (.val made_0), some (.val grades_0), some (.val numbers_0), some (.val s_0), some (.val number_0), none, none, none] (pb_asg 5 C.nd rfl (.inl rfl) px_bl rfl (.inl rfl) (fun due_0 => nrm [some (.val made_0), some (.val grades_0), some (.val numbers_0), some (.val s_0), some (.val number_0), some (.val due_0), none, none] (pb_forS (e1 := (fun (s_1 : D) => ([some (.val made_0), some (.val grades_0), some (.val numbers_0), some (.val s_0), some (.val number_0), some (.val s_1), none, none] : Env'))) (s0 := due_0) C.po C.calm (pix_seq C.kk (px_v 1 rfl rfl (.inl rfl) (by decide) (by decide))) (pgx_name 6 C.nd rfl (.inl rfl) (.inl rfl)) (by simp [subE]) (fun s_1 grade_0 => nrm [some (.val made_0), some (.val grades_0), some (.val numbers_0), some (.val s_0), some (.val number_0), some (.val s_1), some (.val grade_0), none] (pb_if_last (ptx_cmp (op_eqD C.room.units) od_eq (px_call C (ok__law_at S) hn__law_at (by decide) (by rfl) S.h__law_at S._law_at_F.kp S._law_at_b .nil (fun _ => .nil) (pax_cons (px_v 6 rfl rfl (.inl rfl) (by decide) (by decide)) (pax_cons (px_v 4 rfl rfl (.inl rfl) (by decide) (by decide)) pax_nil))) (px_v 4 rfl rfl (.inl rfl) (by decide) (by decide)) (nomark _)) (pb_asg 5 C.nd rfl (.inl rfl) px_bl rfl (.inl rfl) (fun due_1 => nrm [some (.val made_0), some (.val grades_0), some (.val numbers_0), some (.val s_0), some (.val number_0), some (.val due_1), some (.val grade_0), none] (pb_nilS (s := due_1) rfl (by simp [subE])))) (pb_nilS (s := s_1) rfl (by simp [subE])))) (fun s_1 => nrm [some (.val made_0), some (.val grades_0), some (.val numbers_0), some (.val s_0), some (.val number_0), some (.val s_1), none, none] (pb_asg 7 C.nd rfl (.inl rfl) (px_meth C S.kt S.Grade_stands_at_me rfl rfl (ok_Grade_stands_at S) hn_Grade_stands_at (by decide) S.Grade_stands_at_b .nil (fun _ => .nil) (px_v 0 rfl rfl (.inl rfl) (by decide) (by decide)) (pax_cons (px_v 4 rfl rfl (.inl rfl) (by decide) (by decide)) pax_nil)) rfl (.inl rfl) (fun told_0 => nrm [some (.val made_0), some (.val grades_0), some (.val numbers_0), some (.val s_0), some (.val number_0), some (.val s_1), none, some (.val told_0)] (pb_if_x0 (PWX.pt (pwx_or (ptx_not (ptx_tru C.kk (px_isi C.kk S.kt (by simp) (by rfl) S.n_isinstance (by rfl) S.n_bool (by decide +kernel) (by decide) (by decide) (px_v 7 rfl rfl (.inl rfl) (by decide) (by decide))) (fun _ => rfl))) (pwx_or1 (ptx_cmp (op_neD C.room.units) od_ne (px_v 7 rfl rfl (.inl rfl) (by decide) (by decide)) (px_v 5 rfl rfl (.inl rfl) (by decide) (by decide)) (nomark _))))) (pb_ret (r := Fl.rt) (fun _ => rfl) px_bl) (pb_if_last (PWX.pt (pwx_and (ptx_tru C.kk (px_v 5 rfl rfl (.inl rfl) (by decide) (by decide)) (fun _ => rfl)) (pwx_and1 (ptx_cmp op_isN od_isN (px_v 3 rfl rfl (.inl rfl) (by decide) (by decide)) px_non (nomark _))))) (pb_asg 3 C.nd rfl (.inl rfl) (px_v 4 rfl rfl (.inl rfl) (by decide) (by decide)) rfl (.inl rfl) (fun least_1 => nrm [some (.val made_0), some (.val grades_0), some (.val numbers_0), some (.val least_1), some (.val number_0), some (.val s_1), none, some (.val told_0)] (pb_nilS (s := least_1) rfl (by simp [subE])))) (pb_nilS (s := s_0) rfl (by simp [subE]))))))) (fun _ => rfl))))) (fun d => .inr ⟨_, rfl, rfl⟩) (fun s_0 => nrm [some (.val made_0), some (.val grades_0), some (.val numbers_0), some (.val s_0), none, none, none, none] (pb_retD (fun _ => rfl) (px_call C (ok__law_same_worth S) hn__law_same_worth (by decide) (by rfl) S.h__law_same_worth S._law_same_worth_F.kp S._law_same_worth_b .nil (fun _ => .nil) (pax_cons (px_prop C S.kt S.Grade_standing_pr rfl (ok_Grade_standing S) hn_Grade_standing (by decide) S.Grade_standing_b (px_v 0 rfl rfl (.inl rfl) (by decide) (by decide)) rfl) (pax_cons (px_v 3 rfl rfl (.inl rfl) (by decide) (by decide)) pax_nil))))) (fun _ => rfl))))
def b_total_of (worths_0 : D) : Res D := Res.bind (.ok (.int 0)) fun total_0 => Res.bind (itemsR (.ok worths_0)) fun ds => Res.bind (forG id (fun (s_0 : D) (worth_0 : D) => iteR (blR (op2 isND (.ok worth_0) (.ok .non))) (Res.bind (.ok .non) fun d => .ok (.rt d)) (Res.bind (op2 addD (.ok s_0) (.ok worth_0)) fun total_1 => .ok (.nx total_1))) ds total_0) (lpK (fun d => .ok d) fun s_0 => .ok s_0)
def m_total_of : List D → Res D
  | [worths_0] => b_total_of worths_0
  | _ => .bad
theorem hn_total_of : ∀ ds : List D, ds.length ≠ 1 → m_total_of ds = .bad := by
  intro ds h
  unfold m_total_of
  split
  · exact absurd rfl h
  · rfl
theorem ok_total_of {g : FP} {a : Adr} (S : Txt g a) : FnOk g.P g.w g.K g.mg g.base (L2.CX g.P g.w) 1 a.f_total_of a.fd_total_of ["worths"] (pureSp (mkT g a) 1 m_total_of) := by
  refine fn_pure rfl S.total_of_R sc_total_of fun cdv A outer s H E C ds hl => ?_
  match ds, hl with
  | [worths_0], _ =>
    show PBX _ _ _ _ _ [some (.val worths_0), none, none] (b_total_of worths_0) _ _ _
    unfold b_total_of
    exact (pb_asg 1 C.nd rfl (.inl rfl) px_int rfl (.inl rfl) (fun total_0 => nrm [some (.val worths_0), some (.val total_0), none] (pb_for (e1 := (fun (s_0 : D) => ([some (.val worths_0), some (.val s_0), none] : Env'))) (s0 := total_0) (r := (fun d => .ok d)) C.po C.calm (pix_seq C.kk (px_v 0 rfl rfl (.inl rfl) (by decide) (by decide))) (pgx_name 2 C.nd rfl (.inl rfl) (.inl rfl)) (by simp [subE]) (fun s_0 worth_0 => nrm [some (.val worths_0), some (.val s_0), some (.val worth_0)] (pb_if_x0 (ptx_cmp op_isN od_isN (px_v 2 rfl rfl (.inl rfl) (by decide) (by decide)) px_non (nomark _)) (pb_ret (r := Fl.rt) (fun _ => rfl) px_non) (pb_asg 1 C.nd rfl (.inl rfl) (px_op op_addAll od_add (px_v 1 rfl rfl (.inl rfl) (by decide) (by decide)) (px_v 2 rfl rfl (.inl rfl) (by decide) (by decide))) rfl (.inl rfl) (fun total_1 => nrm [some (.val worths_0), some (.val total_1), some (.val worth_0)] (pb_nilS (s := total_1) rfl (by simp [subE])))))) (fun d => .inr ⟨_, rfl, rfl⟩) (fun s_0 => nrm [some (.val worths_0), some (.val s_0), none] (pb_retD (fun _ => rfl) (px_v 1 rfl rfl (.inl rfl) (by decide) (by decide)))) (fun _ => rfl))))
def b_Grade_rshift (self_0 other_0 : D) : Res D := Res.bind (callO maxD (consR (callO lenD (consR (op1 (fldD at_ "table") (.ok self_0)) (.ok []))) (consR (callO lenD (consR (op1 (fldD at_ "table") (.ok other_0)) (.ok []))) (.ok [])))) fun size_0 => Res.bind (lstV (mapL (fun number_0 => callR m_led [] (consR (op1 (fldD at_ "table") (.ok other_0)) (consR (op1 (fldD at_ "more") (.ok other_0)) (consR (callR m_led [] (consR (op1 (fldD at_ "table") (.ok self_0)) (consR (op1 (fldD at_ "more") (.ok self_0)) (consR (.ok number_0) (.ok []))))) (.ok []))))) (callOo rng1 (consR (.ok size_0) (.ok []))))) fun table_0 => makeR 0 i_Grade_init [] (consR (.ok table_0) (consR (callR m_total_of [] (consR (lstV (dispR (consR (op1 (fldD at_ "more") (.ok self_0)) (consR (op1 (fldD at_ "more") (.ok other_0)) (.ok []))))) (.ok []))) (.ok [])))
def m_Grade_rshift : List D → Res D
  | [self_0, other_0] => b_Grade_rshift self_0 other_0
  | _ => .bad
theorem hn_Grade_rshift : ∀ ds : List D, ds.length ≠ 2 → m_Grade_rshift ds = .bad := by
  intro ds h
  unfold m_Grade_rshift
  split
  · exact absurd rfl h
  · rfl
theorem ok_Grade_rshift {g : FP} {a : Adr} (S : Txt g a) : FnOk g.P g.w g.K g.mg g.base (L2.CX g.P g.w) 7 a.f_Grade_rshift a.fd_Grade_rshift ["self", "other"] (pureSp (mkT g a) 2 m_Grade_rshift) := by
  refine fn_pure rfl S.Grade_rshift_R sc_Grade_rshift fun cdv A outer s H E C ds hl => ?_
  match ds, hl with
  | [self_0, other_0], _ =>
    show PBX _ _ _ _ _ [some (.val self_0), some (.val other_0), none, none, none] (b_Grade_rshift self_0 other_0) _ _ _
    unfold b_Grade_rshift
    exact (pb_asg 2 C.nd rfl (.inl rfl) (px_callB (call_max2 C.calm) cd_max (by rfl) S.n_max (by decide +kernel) (pax_cons (px_callB call_len cd_len (by rfl) S.n_len PySem.boot_len (pax_cons (px_fld C.kk S.kt (px_v 0 rfl rfl (.inr (.inl rfl)) (by decide) (by decide)) rfl) pax_nil)) (pax_cons (px_callB call_len cd_len (by rfl) S.n_len PySem.boot_len (pax_cons (px_fld C.kk S.kt (px_v 1 rfl rfl (.inr (.inl rfl)) (by decide) (by decide)) rfl) pax_nil)) pax_nil))) rfl (.inl rfl) (fun size_0 => nrm [some (.val self_0), some (.val other_0), some (.val size_0), none, none] (pb_asgLc 3 (lcx_map (own := [("number", 4)]) (pix_range1 (by rfl) S.n_range (pax_cons (px_v 2 rfl rfl (.inl rfl) (by decide) (by decide)) pax_nil)) (fun _ _ _ _ _ => pgx_name 4 C.nd rfl (.inl rfl) (.inr rfl)) (by decide) (fun _ => ⟨_, rfl⟩) (fun _ _ _ _ _ number_0 => nrmX [some (.val self_0), some (.val other_0), some (.val size_0), none, some (.val number_0)] (px_call (Ctx.blk C) (ok_led S) hn_led (by decide) (by rfl) S.h_led S.led_F.kp S.led_b .nil (fun _ => .nil) (pax_cons (px_fld (Ctx.blk C).kk S.kt (px_v (x := "other") 1 rfl rfl (.inr (.inl rfl)) (by decide) (by decide)) rfl) (pax_cons (px_fld (Ctx.blk C).kk S.kt (px_v (x := "other") 1 rfl rfl (.inr (.inl rfl)) (by decide) (by decide)) rfl) (pax_cons (px_call (Ctx.blk C) (ok_led S) hn_led (by decide) (by rfl) S.h_led S.led_F.kp S.led_b .nil (fun _ => .nil) (pax_cons (px_fld (Ctx.blk C).kk S.kt (px_v (x := "self") 0 rfl rfl (.inr (.inl rfl)) (by decide) (by decide)) rfl) (pax_cons (px_fld (Ctx.blk C).kk S.kt (px_v (x := "self") 0 rfl rfl (.inr (.inl rfl)) (by decide) (by decide)) rfl) (pax_cons (px_v (x := "number") 4 rfl rfl (.inl rfl) (by decide) (by decide)) pax_nil)))) pax_nil)))))) C.calm C.nd rfl rfl (sw_true rfl rfl rfl (by decide +kernel)) (blkOk_by (N := ["self", "other", "size", "table", "number"]) (sc := defScope s_Grade_rshift) (by decide +kernel)) (fun _ => rfl) (fun table_0 => nrm [some (.val self_0), some (.val other_0), some (.val size_0), some (.val table_0), none] (pb_retD (fun _ => rfl) (px_makeN C S.mk_Grade rfl (ok_Grade_init S) hn_Grade_init (by decide) (by rfl) S.h_Grade S.Grade_init_b .nil (fun _ => .nil) (pax_cons (px_v 3 rfl rfl (.inl rfl) (by decide) (by decide)) (pax_cons (px_call C (ok_total_of S) hn_total_of (by decide) (by rfl) S.h_total_of S.total_of_F.kp S.total_of_b .nil (fun _ => .nil) (pax_cons (PXO.px (pxo_lst (pax_cons (px_fld C.kk S.kt (px_v 0 rfl rfl (.inr (.inl rfl)) (by decide) (by decide)) rfl) (pax_cons (px_fld C.kk S.kt (px_v 1 rfl rfl (.inr (.inl rfl)) (by decide) (by decide)) rfl) pax_nil)))) pax_nil)) pax_nil))))))))
def b__law_expression (made_0 grades_0 digits_0 : D) : Res D := Res.bind (lstV (callOo listO (consR (.ok made_0) (.ok [])))) fun row_0 => Res.bind (lstV (callOo listO (consR (.ok grades_0) (.ok [])))) fun dues_0 => Res.bind (callOo rng1 (consR (op2 subD (callO lenD (consR (.ok made_0) (.ok []))) (.ok (.int 1))) (.ok []))) fun ds => Res.bind (forR (fun (s_0 : D × D) (k_0 : D) => Res.bind (op2 modD (callO intD (consR (op2 divD (op2 ixD (.ok digits_0) (.ok k_0)) (.ok (.int 2))) (.ok []))) (op2 subD (callO lenD (consR (.ok s_0.1) (.ok []))) (.ok (.int 1)))) fun at_0 => iteR (blR (op2 eqD (op2 modD (callO intD (consR (op2 ixD (.ok digits_0) (.ok k_0)) (.ok []))) (.ok (.int 2))) (.ok (.int 0)))) (Res.bind (op2 addD (op2 addD (sliceR (.ok s_0.1) none (some (.ok at_0))) (lstV (dispR (consR (own2R 0 m_Grade_or (op2 ixD (.ok s_0.1) (.ok at_0)) (op2 ixD (.ok s_0.1) (op2 addD (.ok at_0) (.ok (.int 1))))) (.ok []))))) (sliceR (.ok s_0.1) (some (op2 addD (.ok at_0) (.ok (.int 2)))) none)) fun row_1 => Res.bind (op2 addD (op2 addD (sliceR (.ok s_0.2) none (some (.ok at_0))) (lstV (dispR (consR (callR m__law_both [] (consR (op2 ixD (.ok s_0.2) (.ok at_0)) (consR (op2 ixD (.ok s_0.2) (op2 addD (.ok at_0) (.ok (.int 1)))) (consR (.ok (.bl false)) (.ok []))))) (.ok []))))) (sliceR (.ok s_0.2) (some (op2 addD (.ok at_0) (.ok (.int 2)))) none)) fun dues_1 => .ok (row_1, dues_1)) (Res.bind (op2 addD (op2 addD (sliceR (.ok s_0.1) none (some (.ok at_0))) (lstV (dispR (consR (own2R 0 m_Grade_rshift (op2 ixD (.ok s_0.1) (.ok at_0)) (op2 ixD (.ok s_0.1) (op2 addD (.ok at_0) (.ok (.int 1))))) (.ok []))))) (sliceR (.ok s_0.1) (some (op2 addD (.ok at_0) (.ok (.int 2)))) none)) fun row_2 => Res.bind (op2 addD (op2 addD (sliceR (.ok s_0.2) none (some (.ok at_0))) (lstV (dispR (consR (callR m__law_both [] (consR (op2 ixD (.ok s_0.2) (.ok at_0)) (consR (op2 ixD (.ok s_0.2) (op2 addD (.ok at_0) (.ok (.int 1)))) (consR (.ok (.bl true)) (.ok []))))) (.ok []))))) (sliceR (.ok s_0.2) (some (op2 addD (.ok at_0) (.ok (.int 2)))) none)) fun dues_2 => .ok (row_2, dues_2))) ds (row_0, dues_0)) fun s_0 => lstV (dispR (consR (op2 ixD (.ok s_0.1) (.ok (.int 0))) (consR (op2 ixD (.ok s_0.2) (.ok (.int 0))) (.ok []))))
def m__law_expression : List D → Res D
  | [made_0, grades_0, digits_0] => b__law_expression made_0 grades_0 digits_0
  | _ => .bad
theorem hn__law_expression : ∀ ds : List D, ds.length ≠ 3 → m__law_expression ds = .bad := by
  intro ds h
  unfold m__law_expression
  split
  · exact absurd rfl h
  · rfl
theorem ok__law_expression {g : FP} {a : Adr} (S : Txt g a) : FnOk g.P g.w g.K g.mg g.base (L2.CX g.P g.w) 8 a.f__law_expression a.fd__law_expression ["made", "grades", "digits"] (pureSp (mkT g a) 3 m__law_expression) := by
  refine fn_pure rfl S._law_expression_R sc__law_expression fun cdv A outer s H E C ds hl => ?_
  match ds, hl with
  | [made_0, grades_0, digits_0], _ =>
    show PBX _ _ _ _ _ [some (.val made_0), some (.val grades_0), some (.val digits_0), none, none, none, none] (b__law_expression made_0 grades_0 digits_0) _ _ _
    unfold b__law_expression
    exact (pb_asg 3 C.nd rfl (.inl rfl) (PXO.px (pxo_list C.kk (by rfl) S.n_list (pax_cons (px_v 0 rfl rfl (.inl rfl) (by decide) (by decide)) pax_nil))) rfl (.inl rfl) (fun row_0 => nrm [some (.val made_0), some (.val grades_0), some (.val digits_0), some (.val row_0), none, none, none] (pb_asg 4 C.nd rfl (.inl rfl) (PXO.px (pxo_list C.kk (by rfl) S.n_list (pax_cons (px_v 1 rfl rfl (.inl rfl) (by decide) (by decide)) pax_nil))) rfl (.inl rfl) (fun dues_0 => nrm [some (.val made_0), some (.val grades_0), some (.val digits_0), some (.val row_0), some (.val dues_0), none, none] (pb_forS (e1 := (fun (s_0 : D × D) => ([some (.val made_0), some (.val grades_0), some (.val digits_0), some (.val s_0.1), some (.val s_0.2), none, none] : Env'))) (s0 := (row_0, dues_0)) C.po C.calm (pix_range1 (by rfl) S.n_range (pax_cons (px_op op_sub od_sub (px_callB call_len cd_len (by rfl) S.n_len PySem.boot_len (pax_cons (px_v 0 rfl rfl (.inl rfl) (by decide) (by decide)) pax_nil)) px_int) pax_nil)) (pgx_name 5 C.nd rfl (.inl rfl) (.inl rfl)) (by simp [subE]) (fun s_0 k_0 => nrm [some (.val made_0), some (.val grades_0), some (.val digits_0), some (.val s_0.1), some (.val s_0.2), some (.val k_0), none] (pb_asg 6 C.nd rfl (.inl rfl) (px_op op_modN od_mod (px_callTy call_int1 cd_int (by rfl) S.n_int (by decide +kernel) (pax_cons (px_op op_fdivW od_div (px_ix ix_seq od_ix (px_v 2 rfl rfl (.inl rfl) (by decide) (by decide)) (px_v 5 rfl rfl (.inl rfl) (by decide) (by decide)) (fun _ _ => rfl)) px_int) pax_nil)) (px_op op_sub od_sub (px_callB call_len cd_len (by rfl) S.n_len PySem.boot_len (pax_cons (px_v 3 rfl rfl (.inl rfl) (by decide) (by decide)) pax_nil)) px_int)) rfl (.inl rfl) (fun at_0 => nrm [some (.val made_0), some (.val grades_0), some (.val digits_0), some (.val s_0.1), some (.val s_0.2), some (.val k_0), some (.val at_0)] (pb_if_last (ptx_cmp (op_eqD C.room.units) od_eq (px_op op_modN od_mod (px_callTy call_int1 cd_int (by rfl) S.n_int (by decide +kernel) (pax_cons (px_ix ix_seq od_ix (px_v 2 rfl rfl (.inl rfl) (by decide) (by decide)) (px_v 5 rfl rfl (.inl rfl) (by decide) (by decide)) (fun _ _ => rfl)) pax_nil)) px_int) px_int (nomark _)) (pb_asg 3 C.nd rfl (.inl rfl) (px_op op_addAll od_add (px_op op_addAll od_add (px_slice C.kk (px_v 3 rfl rfl (.inl rfl) (by decide) (by decide)) pox_none (pox_some (px_v 6 rfl rfl (.inl rfl) (by decide) (by decide)))) (PXO.px (pxo_lst (pax_cons (px_own2 (op := .BitOr) C S.sf_Grade S.Grade_or_at S.Grade_or_fn rfl (ok_Grade_or S) hn_Grade_or (by decide) S.Grade_or_b (px_ix ix_seq od_ix (px_v 3 rfl rfl (.inl rfl) (by decide) (by decide)) (px_v 6 rfl rfl (.inl rfl) (by decide) (by decide)) (fun _ _ => rfl)) (px_ix ix_seq od_ix (px_v 3 rfl rfl (.inl rfl) (by decide) (by decide)) (px_op op_addAll od_add (px_v 6 rfl rfl (.inl rfl) (by decide) (by decide)) px_int) (fun _ _ => rfl))) pax_nil)))) (px_slice C.kk (px_v 3 rfl rfl (.inl rfl) (by decide) (by decide)) (pox_some (px_op op_addAll od_add (px_v 6 rfl rfl (.inl rfl) (by decide) (by decide)) px_int)) pox_none)) rfl (.inl rfl) (fun row_1 => nrm [some (.val made_0), some (.val grades_0), some (.val digits_0), some (.val row_1), some (.val s_0.2), some (.val k_0), some (.val at_0)] (pb_asg 4 C.nd rfl (.inl rfl) (px_op op_addAll od_add (px_op op_addAll od_add (px_slice C.kk (px_v 4 rfl rfl (.inl rfl) (by decide) (by decide)) pox_none (pox_some (px_v 6 rfl rfl (.inl rfl) (by decide) (by decide)))) (PXO.px (pxo_lst (pax_cons (px_call C (ok__law_both S) hn__law_both (by decide) (by rfl) S.h__law_both S._law_both_F.kp S._law_both_b .nil (fun _ => .nil) (pax_cons (px_ix ix_seq od_ix (px_v 4 rfl rfl (.inl rfl) (by decide) (by decide)) (px_v 6 rfl rfl (.inl rfl) (by decide) (by decide)) (fun _ _ => rfl)) (pax_cons (px_ix ix_seq od_ix (px_v 4 rfl rfl (.inl rfl) (by decide) (by decide)) (px_op op_addAll od_add (px_v 6 rfl rfl (.inl rfl) (by decide) (by decide)) px_int) (fun _ _ => rfl)) (pax_cons px_bl pax_nil)))) pax_nil)))) (px_slice C.kk (px_v 4 rfl rfl (.inl rfl) (by decide) (by decide)) (pox_some (px_op op_addAll od_add (px_v 6 rfl rfl (.inl rfl) (by decide) (by decide)) px_int)) pox_none)) rfl (.inl rfl) (fun dues_1 => nrm [some (.val made_0), some (.val grades_0), some (.val digits_0), some (.val row_1), some (.val dues_1), some (.val k_0), some (.val at_0)] (pb_nilS (s := (row_1, dues_1)) rfl (by simp [subE])))))) (pb_asg 3 C.nd rfl (.inl rfl) (px_op op_addAll od_add (px_op op_addAll od_add (px_slice C.kk (px_v 3 rfl rfl (.inl rfl) (by decide) (by decide)) pox_none (pox_some (px_v 6 rfl rfl (.inl rfl) (by decide) (by decide)))) (PXO.px (pxo_lst (pax_cons (px_own2 (op := .RShift) C S.sf_Grade S.Grade_rshift_at S.Grade_rshift_fn rfl (ok_Grade_rshift S) hn_Grade_rshift (by decide) S.Grade_rshift_b (px_ix ix_seq od_ix (px_v 3 rfl rfl (.inl rfl) (by decide) (by decide)) (px_v 6 rfl rfl (.inl rfl) (by decide) (by decide)) (fun _ _ => rfl)) (px_ix ix_seq od_ix (px_v 3 rfl rfl (.inl rfl) (by decide) (by decide)) (px_op op_addAll od_add (px_v 6 rfl rfl (.inl rfl) (by decide) (by decide)) px_int) (fun _ _ => rfl))) pax_nil)))) (px_slice C.kk (px_v 3 rfl rfl (.inl rfl) (by decide) (by decide)) (pox_some (px_op op_addAll od_add (px_v 6 rfl rfl (.inl rfl) (by decide) (by decide)) px_int)) pox_none)) rfl (.inl rfl) (fun row_2 => nrm [some (.val made_0), some (.val grades_0), some (.val digits_0), some (.val row_2), some (.val s_0.2), some (.val k_0), some (.val at_0)] (pb_asg 4 C.nd rfl (.inl rfl) (px_op op_addAll od_add (px_op op_addAll od_add (px_slice C.kk (px_v 4 rfl rfl (.inl rfl) (by decide) (by decide)) pox_none (pox_some (px_v 6 rfl rfl (.inl rfl) (by decide) (by decide)))) (PXO.px (pxo_lst (pax_cons (px_call C (ok__law_both S) hn__law_both (by decide) (by rfl) S.h__law_both S._law_both_F.kp S._law_both_b .nil (fun _ => .nil) (pax_cons (px_ix ix_seq od_ix (px_v 4 rfl rfl (.inl rfl) (by decide) (by decide)) (px_v 6 rfl rfl (.inl rfl) (by decide) (by decide)) (fun _ _ => rfl)) (pax_cons (px_ix ix_seq od_ix (px_v 4 rfl rfl (.inl rfl) (by decide) (by decide)) (px_op op_addAll od_add (px_v 6 rfl rfl (.inl rfl) (by decide) (by decide)) px_int) (fun _ _ => rfl)) (pax_cons px_bl pax_nil)))) pax_nil)))) (px_slice C.kk (px_v 4 rfl rfl (.inl rfl) (by decide) (by decide)) (pox_some (px_op op_addAll od_add (px_v 6 rfl rfl (.inl rfl) (by decide) (by decide)) px_int)) pox_none)) rfl (.inl rfl) (fun dues_2 => nrm [some (.val made_0), some (.val grades_0), some (.val digits_0), some (.val row_2), some (.val dues_2), some (.val k_0), some (.val at_0)] (pb_nilS (s := (row_2, dues_2)) rfl (by simp [subE])))))))))) (fun s_0 => nrm [some (.val made_0), some (.val grades_0), some (.val digits_0), some (.val s_0.1), some (.val s_0.2), none, none] (pb_retD (fun _ => rfl) (PXO.px (pxo_lst (pax_cons (px_ix ix_seq od_ix (px_v 3 rfl rfl (.inl rfl) (by decide) (by decide)) px_int (fun _ _ => rfl)) (pax_cons (px_ix ix_seq od_ix (px_v 4 rfl rfl (.inl rfl) (by decide) (by decide)) px_int (fun _ _ => rfl)) pax_nil)))))) (fun _ => rfl))))))
def b__law_goes_over (made_0 grades_0 worths_0 : D) : Res D := Res.bind (op2 ixD (.ok made_0) (.ok (.int 0))) fun one_0 => Res.bind (op2 ixD (.ok made_0) (.ok (.int 1))) fun two_0 => Res.bind (op2 ixD (.ok made_0) (.ok (.int 2))) fun three_0 => Res.bind (callR m__law_both [] (consR (callR m__law_both [] (consR (op2 ixD (.ok grades_0) (.ok (.int 0))) (consR (op2 ixD (.ok grades_0) (.ok (.int 1))) (consR (.ok (.bl false)) (.ok []))))) (consR (op2 ixD (.ok grades_0) (.ok (.int 2))) (consR (.ok (.bl true)) (.ok []))))) fun due_0 => Res.bind (own2R 0 m_Grade_rshift (own2R 0 m_Grade_or (.ok one_0) (.ok two_0)) (.ok three_0)) fun left_0 => Res.bind (own2R 0 m_Grade_or (own2R 0 m_Grade_rshift (.ok one_0) (.ok three_0)) (own2R 0 m_Grade_rshift (.ok two_0) (.ok three_0))) fun right_0 => iteR (orB (notB (truR (callR m__law_tells [] (consR (.ok left_0) (consR (.ok due_0) (consR (.ok worths_0) (.ok []))))))) (orB (notB (truR (callR m__law_tells [] (consR (.ok right_0) (consR (.ok due_0) (consR (.ok worths_0) (.ok []))))))) (notB (truR (callR m__law_equal [] (consR (.ok left_0) (consR (.ok right_0) (.ok [])))))))) (.ok (.bl false)) (Res.bind (callR m__law_both [] (consR (op2 ixD (.ok grades_0) (.ok (.int 0))) (consR (callR m__law_both [] (consR (op2 ixD (.ok grades_0) (.ok (.int 1))) (consR (op2 ixD (.ok grades_0) (.ok (.int 2))) (consR (.ok (.bl false)) (.ok []))))) (consR (.ok (.bl true)) (.ok []))))) fun due_1 => Res.bind (own2R 0 m_Grade_rshift (.ok one_0) (own2R 0 m_Grade_or (.ok two_0) (.ok three_0))) fun left_1 => Res.bind (own2R 0 m_Grade_or (own2R 0 m_Grade_rshift (.ok one_0) (.ok two_0)) (own2R 0 m_Grade_rshift (.ok one_0) (.ok three_0))) fun right_1 => andV (callR m__law_tells [] (consR (.ok left_1) (consR (.ok due_1) (consR (.ok worths_0) (.ok []))))) (andV (callR m__law_tells [] (consR (.ok right_1) (consR (.ok due_1) (consR (.ok worths_0) (.ok []))))) (callR m__law_equal [] (consR (.ok left_1) (consR (.ok right_1) (.ok []))))))
def m__law_goes_over : List D → Res D
  | [made_0, grades_0, worths_0] => b__law_goes_over made_0 grades_0 worths_0
  | _ => .bad
theorem hn__law_goes_over : ∀ ds : List D, ds.length ≠ 3 → m__law_goes_over ds = .bad := by
  intro ds h
  unfold m__law_goes_over
  split
  · exact absurd rfl h
  · rfl
theorem ok__law_goes_over {g : FP} {a : Adr} (S : Txt g a) : FnOk g.P g.w g.K g.mg g.base (L2.CX g.P g.w) 8 a.f__law_goes_over a.fd__law_goes_over ["made", "grades", "worths"] (pureSp (mkT g a) 3 m__law_goes_over) := by
  refine fn_pure rfl S._law_goes_over_R sc__law_goes_over fun cdv A outer s H E C ds hl => ?_
  match ds, hl with
  | [made_0, grades_0, worths_0], _ =>
    show PBX _ _ _ _ _ [some (.val made_0), some (.val grades_0), some (.val worths_0), none, none, none, none, none, none] (b__law_goes_over made_0 grades_0 worths_0) _ _ _
    unfold b__law_goes_over
    exact (pb_asg 3 C.nd rfl (.inl rfl) (px_ix ix_seq od_ix (px_v 0 rfl rfl (.inl rfl) (by decide) (by decide)) px_int (fun _ _ => rfl)) rfl (.inl rfl) (fun one_0 => nrm [some (.val made_0), some (.val grades_0), some (.val worths_0), some (.val one_0), none, none, none, none, none] (pb_asg 4 C.nd rfl (.inl rfl) (px_ix ix_seq od_ix (px_v 0 rfl rfl (.inl rfl) (by decide) (by decide)) px_int (fun _ _ => rfl)) rfl (.inl rfl) (fun two_0 => nrm [some (.val made_0), some (.val grades_0), some (.val worths_0), some (.val one_0), some (.val two_0), none, none, none, none] (pb_asg 5 C.nd rfl (.inl rfl) (px_ix ix_seq od_ix (px_v 0 rfl rfl (.inl rfl) (by decide) (by decide)) px_int (fun _ _ => rfl)) rfl (.inl rfl) (fun three_0 => nrm [some (.val made_0), some (.val grades_0), some (.val worths_0), some (.val one_0), some (.val two_0), some (.val three_0), none, none, none] (pb_asg 6 C.nd rfl (.inl rfl) (px_call C (ok__law_both S) hn__law_both (by decide) (by rfl) S.h__law_both S._law_both_F.kp S._law_both_b .nil (fun _ => .nil) (pax_cons (px_call C (ok__law_both S) hn__law_both (by decide) (by rfl) S.h__law_both S._law_both_F.kp S._law_both_b .nil (fun _ => .nil) (pax_cons (px_ix ix_seq od_ix (px_v 1 rfl rfl (.inl rfl) (by decide) (by decide)) px_int (fun _ _ => rfl)) (pax_cons (px_ix ix_seq od_ix (px_v 1 rfl rfl (.inl rfl) (by decide) (by decide)) px_int (fun _ _ => rfl)) (pax_cons px_bl pax_nil)))) (pax_cons (px_ix ix_seq od_ix (px_v 1 rfl rfl (.inl rfl) (by decide) (by decide)) px_int (fun _ _ => rfl)) (pax_cons px_bl pax_nil)))) rfl (.inl rfl) (fun due_0 => nrm [some (.val made_0), some (.val grades_0), some (.val worths_0), some (.val one_0), some (.val two_0), some (.val three_0), some (.val due_0), none, none] (pb_asg 7 C.nd rfl (.inl rfl) (px_own2 (op := .RShift) C S.sf_Grade S.Grade_rshift_at S.Grade_rshift_fn rfl (ok_Grade_rshift S) hn_Grade_rshift (by decide) S.Grade_rshift_b (px_own2 (op := .BitOr) C S.sf_Grade S.Grade_or_at S.Grade_or_fn rfl (ok_Grade_or S) hn_Grade_or (by decide) S.Grade_or_b (px_v 3 rfl rfl (.inl rfl) (by decide) (by decide)) (px_v 4 rfl rfl (.inl rfl) (by decide) (by decide))) (px_v 5 rfl rfl (.inl rfl) (by decide) (by decide))) rfl (.inl rfl) (fun left_0 => nrm [some (.val made_0), some (.val grades_0), some (.val worths_0), some (.val one_0), some (.val two_0), some (.val three_0), some (.val due_0), some (.val left_0), none] (pb_asg 8 C.nd rfl (.inl rfl) (px_own2 (op := .BitOr) C S.sf_Grade S.Grade_or_at S.Grade_or_fn rfl (ok_Grade_or S) hn_Grade_or (by decide) S.Grade_or_b (px_own2 (op := .RShift) C S.sf_Grade S.Grade_rshift_at S.Grade_rshift_fn rfl (ok_Grade_rshift S) hn_Grade_rshift (by decide) S.Grade_rshift_b (px_v 3 rfl rfl (.inl rfl) (by decide) (by decide)) (px_v 5 rfl rfl (.inl rfl) (by decide) (by decide))) (px_own2 (op := .RShift) C S.sf_Grade S.Grade_rshift_at S.Grade_rshift_fn rfl (ok_Grade_rshift S) hn_Grade_rshift (by decide) S.Grade_rshift_b (px_v 4 rfl rfl (.inl rfl) (by decide) (by decide)) (px_v 5 rfl rfl (.inl rfl) (by decide) (by decide)))) rfl (.inl rfl) (fun right_0 => nrm [some (.val made_0), some (.val grades_0), some (.val worths_0), some (.val one_0), some (.val two_0), some (.val three_0), some (.val due_0), some (.val left_0), some (.val right_0)] (pb_if_x0 (PWX.pt (pwx_or (ptx_not (ptx_tru C.kk (px_call C (ok__law_tells S) hn__law_tells (by decide) (by rfl) S.h__law_tells S._law_tells_F.kp S._law_tells_b .nil (fun _ => .nil) (pax_cons (px_v 7 rfl rfl (.inl rfl) (by decide) (by decide)) (pax_cons (px_v 6 rfl rfl (.inl rfl) (by decide) (by decide)) (pax_cons (px_v 2 rfl rfl (.inl rfl) (by decide) (by decide)) pax_nil)))) (fun _ => rfl))) (pwx_or (ptx_not (ptx_tru C.kk (px_call C (ok__law_tells S) hn__law_tells (by decide) (by rfl) S.h__law_tells S._law_tells_F.kp S._law_tells_b .nil (fun _ => .nil) (pax_cons (px_v 8 rfl rfl (.inl rfl) (by decide) (by decide)) (pax_cons (px_v 6 rfl rfl (.inl rfl) (by decide) (by decide)) (pax_cons (px_v 2 rfl rfl (.inl rfl) (by decide) (by decide)) pax_nil)))) (fun _ => rfl))) (pwx_or1 (ptx_not (ptx_tru C.kk (px_call C (ok__law_equal S) hn__law_equal (by decide) (by rfl) S.h__law_equal S._law_equal_F.kp S._law_equal_b .nil (fun _ => .nil) (pax_cons (px_v 7 rfl rfl (.inl rfl) (by decide) (by decide)) (pax_cons (px_v 8 rfl rfl (.inl rfl) (by decide) (by decide)) pax_nil))) (fun _ => rfl))))))) (pb_retD (fun _ => rfl) px_bl) (pb_asg 6 C.nd rfl (.inl rfl) (px_call C (ok__law_both S) hn__law_both (by decide) (by rfl) S.h__law_both S._law_both_F.kp S._law_both_b .nil (fun _ => .nil) (pax_cons (px_ix ix_seq od_ix (px_v 1 rfl rfl (.inl rfl) (by decide) (by decide)) px_int (fun _ _ => rfl)) (pax_cons (px_call C (ok__law_both S) hn__law_both (by decide) (by rfl) S.h__law_both S._law_both_F.kp S._law_both_b .nil (fun _ => .nil) (pax_cons (px_ix ix_seq od_ix (px_v 1 rfl rfl (.inl rfl) (by decide) (by decide)) px_int (fun _ _ => rfl)) (pax_cons (px_ix ix_seq od_ix (px_v 1 rfl rfl (.inl rfl) (by decide) (by decide)) px_int (fun _ _ => rfl)) (pax_cons px_bl pax_nil)))) (pax_cons px_bl pax_nil)))) rfl (.inl rfl) (fun due_1 => nrm [some (.val made_0), some (.val grades_0), some (.val worths_0), some (.val one_0), some (.val two_0), some (.val three_0), some (.val due_1), some (.val left_0), some (.val right_0)] (pb_asg 7 C.nd rfl (.inl rfl) (px_own2 (op := .RShift) C S.sf_Grade S.Grade_rshift_at S.Grade_rshift_fn rfl (ok_Grade_rshift S) hn_Grade_rshift (by decide) S.Grade_rshift_b (px_v 3 rfl rfl (.inl rfl) (by decide) (by decide)) (px_own2 (op := .BitOr) C S.sf_Grade S.Grade_or_at S.Grade_or_fn rfl (ok_Grade_or S) hn_Grade_or (by decide) S.Grade_or_b (px_v 4 rfl rfl (.inl rfl) (by decide) (by decide)) (px_v 5 rfl rfl (.inl rfl) (by decide) (by decide)))) rfl (.inl rfl) (fun left_1 => nrm [some (.val made_0), some (.val grades_0), some (.val worths_0), some (.val one_0), some (.val two_0), some (.val three_0), some (.val due_1), some (.val left_1), some (.val right_0)] (pb_asg 8 C.nd rfl (.inl rfl) (px_own2 (op := .BitOr) C S.sf_Grade S.Grade_or_at S.Grade_or_fn rfl (ok_Grade_or S) hn_Grade_or (by decide) S.Grade_or_b (px_own2 (op := .RShift) C S.sf_Grade S.Grade_rshift_at S.Grade_rshift_fn rfl (ok_Grade_rshift S) hn_Grade_rshift (by decide) S.Grade_rshift_b (px_v 3 rfl rfl (.inl rfl) (by decide) (by decide)) (px_v 4 rfl rfl (.inl rfl) (by decide) (by decide))) (px_own2 (op := .RShift) C S.sf_Grade S.Grade_rshift_at S.Grade_rshift_fn rfl (ok_Grade_rshift S) hn_Grade_rshift (by decide) S.Grade_rshift_b (px_v 3 rfl rfl (.inl rfl) (by decide) (by decide)) (px_v 5 rfl rfl (.inl rfl) (by decide) (by decide)))) rfl (.inl rfl) (fun right_1 => nrm [some (.val made_0), some (.val grades_0), some (.val worths_0), some (.val one_0), some (.val two_0), some (.val three_0), some (.val due_1), some (.val left_1), some (.val right_1)] (pb_retD (fun _ => rfl) (px_and (px_call C (ok__law_tells S) hn__law_tells (by decide) (by rfl) S.h__law_tells S._law_tells_F.kp S._law_tells_b .nil (fun _ => .nil) (pax_cons (px_v 7 rfl rfl (.inl rfl) (by decide) (by decide)) (pax_cons (px_v 6 rfl rfl (.inl rfl) (by decide) (by decide)) (pax_cons (px_v 2 rfl rfl (.inl rfl) (by decide) (by decide)) pax_nil)))) (px_and (px_call C (ok__law_tells S) hn__law_tells (by decide) (by rfl) S.h__law_tells S._law_tells_F.kp S._law_tells_b .nil (fun _ => .nil) (pax_cons (px_v 8 rfl rfl (.inl rfl) (by decide) (by decide)) (pax_cons (px_v 6 rfl rfl (.inl rfl) (by decide) (by decide)) (pax_cons (px_v 2 rfl rfl (.inl rfl) (by decide) (by decide)) pax_nil)))) (px_one (px_call C (ok__law_equal S) hn__law_equal (by decide) (by rfl) S.h__law_equal S._law_equal_F.kp S._law_equal_b .nil (fun _ => .nil) (pax_cons (px_v 7 rfl rfl (.inl rfl) (by decide) (by decide)) (pax_cons (px_v 8 rfl rfl (.inl rfl) (by decide) (by decide)) pax_nil))))))))))))))))))))))))))
def b_greatest_of (worths_0 : D) : Res D := Res.bind (.ok (.int 0)) fun greatest_0 => Res.bind (itemsR (.ok worths_0)) fun ds => Res.bind (forG id (fun (s_0 : D) (worth_0 : D) => iteR (blR (op2 isND (.ok worth_0) (.ok .non))) (Res.bind (.ok .non) fun d => .ok (.rt d)) (iteR (blR (op2 gtD (.ok worth_0) (.ok s_0))) (Res.bind (.ok worth_0) fun greatest_1 => .ok (.nx greatest_1)) (.ok (.nx s_0)))) ds greatest_0) (lpK (fun d => .ok d) fun s_0 => .ok s_0)
def m_greatest_of : List D → Res D
  | [worths_0] => b_greatest_of worths_0
  | _ => .bad
theorem hn_greatest_of : ∀ ds : List D, ds.length ≠ 1 → m_greatest_of ds = .bad := by
  intro ds h
  unfold m_greatest_of
  split
  · exact absurd rfl h
  · rfl
theorem ok_greatest_of {g : FP} {a : Adr} (S : Txt g a) : FnOk g.P g.w g.K g.mg g.base (L2.CX g.P g.w) 1 a.f_greatest_of a.fd_greatest_of ["worths"] (pureSp (mkT g a) 1 m_greatest_of) := by
  refine fn_pure rfl S.greatest_of_R sc_greatest_of fun cdv A outer s H E C ds hl => ?_
  match ds, hl with
  | [worths_0], _ =>
    show PBX _ _ _ _ _ [some (.val worths_0), none, none] (b_greatest_of worths_0) _ _ _
    unfold b_greatest_of
    exact (pb_asg 1 C.nd rfl (.inl rfl) px_int rfl (.inl rfl) (fun greatest_0 => nrm [some (.val worths_0), some (.val greatest_0), none] (pb_for (e1 := (fun (s_0 : D) => ([some (.val worths_0), some (.val s_0), none] : Env'))) (s0 := greatest_0) (r := (fun d => .ok d)) C.po C.calm (pix_seq C.kk (px_v 0 rfl rfl (.inl rfl) (by decide) (by decide))) (pgx_name 2 C.nd rfl (.inl rfl) (.inl rfl)) (by simp [subE]) (fun s_0 worth_0 => nrm [some (.val worths_0), some (.val s_0), some (.val worth_0)] (pb_if_x0 (ptx_cmp op_isN od_isN (px_v 2 rfl rfl (.inl rfl) (by decide) (by decide)) px_non (nomark _)) (pb_ret (r := Fl.rt) (fun _ => rfl) px_non) (pb_if_last (ptx_cmp op_gt od_gt (px_v 2 rfl rfl (.inl rfl) (by decide) (by decide)) (px_v 1 rfl rfl (.inl rfl) (by decide) (by decide)) (nomark _)) (pb_asg 1 C.nd rfl (.inl rfl) (px_v 2 rfl rfl (.inl rfl) (by decide) (by decide)) rfl (.inl rfl) (fun greatest_1 => nrm [some (.val worths_0), some (.val greatest_1), some (.val worth_0)] (pb_nilS (s := greatest_1) rfl (by simp [subE])))) (pb_nilS (s := s_0) rfl (by simp [subE]))))) (fun d => .inr ⟨_, rfl, rfl⟩) (fun s_0 => nrm [some (.val worths_0), some (.val s_0), none] (pb_retD (fun _ => rfl) (px_v 1 rfl rfl (.inl rfl) (by decide) (by decide)))) (fun _ => rfl))))
def b__law_row_told (row_0 : D) : Res D := Res.bind (.ok .non) fun least_0 => Res.bind (.ok (.int 0)) fun greatest_0 => Res.bind (.ok (.int 0)) fun total_0 => Res.bind (itemsR (.ok row_0)) fun ds => Res.bind (forR (fun (s_0 : D × D × D) (worth_0 : D) => Res.bind (callR m__law_lesser [] (consR (.ok s_0.1) (consR (.ok worth_0) (.ok [])))) fun least_1 => Res.bind (iteR (andB (blR (op2 notND (.ok s_0.2.1) (.ok .non))) (orB (blR (op2 isND (.ok worth_0) (.ok .non))) (blR (op2 gtD (.ok worth_0) (.ok s_0.2.1))))) (Res.bind (.ok worth_0) fun greatest_1 => .ok greatest_1) (.ok s_0.2.1)) fun s_1 => iteR (andB (blR (op2 notND (.ok s_0.2.2) (.ok .non))) (blR (op2 notND (.ok worth_0) (.ok .non)))) (Res.bind (op2 addD (.ok s_0.2.2) (.ok worth_0)) fun total_1 => .ok (least_1, s_1, total_1)) (Res.bind (.ok .non) fun total_2 => .ok (least_1, s_1, total_2))) ds (least_0, greatest_0, total_0)) fun s_0 => Res.bind (itemsR (lstV (dispR (consR (lstV (callOo listO (consR (.ok row_0) (.ok [])))) (consR (callO tupleD (consR (.ok row_0) (.ok []))) (.ok [])))))) fun ds => Res.bind (forG id (fun (s_2 : Unit) (worths_0 : D) => iteR (orB (notB (truR (callR m__law_same_worth [] (consR (callR m_least_of [] (consR (.ok worths_0) (.ok []))) (consR (.ok s_0.1) (.ok [])))))) (notB (truR (callR m__law_same_worth [] (consR (callR m_greatest_of [] (consR (.ok worths_0) (.ok []))) (consR (.ok s_0.2.1) (.ok []))))))) (Res.bind (.ok (.bl false)) fun d => .ok (.rt d)) (iteR (orB (notB (truR (callR m__law_same_worth [] (consR (callR m_total_of [] (consR (.ok worths_0) (.ok []))) (consR (.ok s_0.2.2) (.ok [])))))) (blR (op2 neD (lstV (callOo listO (consR (.ok worths_0) (.ok [])))) (.ok row_0)))) (Res.bind (.ok (.bl false)) fun d => .ok (.rt d)) (.ok (.nx ())))) ds ()) (lpK (fun d => .ok d) fun s_2 => iteR (notB (truR (callR m__law_same_worth [] (consR (callR m_least_of [] (kwL 0 (List.length (α := Str) ["worths"]) [0] [] (.ok []) (consR (lstV (callOo listO (consR (.ok row_0) (.ok [])))) (.ok [])))) (consR (.ok s_0.1) (.ok [])))))) (.ok (.bl false)) (iteR (notB (truR (callR m__law_same_worth [] (consR (callR m_total_of [] (kwL 0 (List.length (α := Str) ["worths"]) [0] [] (.ok []) (consR (lstV (callOo listO (consR (.ok row_0) (.ok [])))) (.ok [])))) (consR (.ok s_0.2.2) (.ok [])))))) (.ok (.bl false)) (callR m__law_same_worth [] (consR (callR m_greatest_of [] (kwL 0 (List.length (α := Str) ["worths"]) [0] [] (.ok []) (consR (lstV (callOo listO (consR (.ok row_0) (.ok [])))) (.ok [])))) (consR (.ok s_0.2.1) (.ok []))))))
def m__law_row_told : List D → Res D
  | [row_0] => b__law_row_told row_0
  | _ => .bad
theorem hn__law_row_told : ∀ ds : List D, ds.length ≠ 1 → m__law_row_told ds = .bad := by
  intro ds h
  unfold m__law_row_told
  split
  · exact absurd rfl h
  · rfl
theorem ok__law_row_told {g : FP} {a : Adr} (S : Txt g a) : FnOk g.P g.w g.K g.mg g.base (L2.CX g.P g.w) 4 a.f__law_row_told a.fd__law_row_told ["row"] (pureSp (mkT g a) 1 m__law_row_told) := by
  refine fn_pure rfl S._law_row_told_R sc__law_row_told fun cdv A outer s H E C ds hl => ?_
  match ds, hl with
  | [row_0], _ =>
    show PBX _ _ _ _ _ [some (.val row_0), none, none, none, none, none] (b__law_row_told row_0) _ _ _
    unfold b__law_row_told
    exact (pb_asg 1 C.nd rfl (.inl rfl) px_non rfl (.inl rfl) (fun least_0 => nrm [some (.val row_0), some (.val least_0), none, none, none, none] (pb_asg 2 C.nd rfl (.inl rfl) px_int rfl (.inl rfl) (fun greatest_0 => nrm [some (.val row_0), some (.val least_0), some (.val greatest_0), none, none, none] (pb_asg 3 C.nd rfl (.inl rfl) px_int rfl (.inl rfl) (fun total_0 => nrm [some (.val row_0), some (.val least_0), some (.val greatest_0), some (.val total_0), none, none] (pb_forS (e1 := (fun (s_0 : D × D × D) => ([some (.val row_0), some (.val s_0.1), some (.val s_0.2.1), some (.val s_0.2.2), none, none] : Env'))) (s0 := (least_0, greatest_0, total_0)) C.po C.calm (pix_seq C.kk (px_v 0 rfl rfl (.inl rfl) (by decide) (by decide))) (pgx_name 4 C.nd rfl (.inl rfl) (.inl rfl)) (by simp [subE]) (fun s_0 worth_0 => nrm [some (.val row_0), some (.val s_0.1), some (.val s_0.2.1), some (.val s_0.2.2), some (.val worth_0), none] (pb_asg 1 C.nd rfl (.inl rfl) (px_call C (ok__law_lesser S) hn__law_lesser (by decide) (by rfl) S.h__law_lesser S._law_lesser_F.kp S._law_lesser_b .nil (fun _ => .nil) (pax_cons (px_v 1 rfl rfl (.inl rfl) (by decide) (by decide)) (pax_cons (px_v 4 rfl rfl (.inl rfl) (by decide) (by decide)) pax_nil))) rfl (.inl rfl) (fun least_1 => nrm [some (.val row_0), some (.val least_1), some (.val s_0.2.1), some (.val s_0.2.2), some (.val worth_0), none] (pb_if_j (e' := fun (s_1 : D) => ([some (.val row_0), some (.val least_1), some (.val s_1), some (.val s_0.2.2), some (.val worth_0), none] : Env')) (PWX.pt (pwx_and (ptx_cmp op_notN od_notN (px_v 2 rfl rfl (.inl rfl) (by decide) (by decide)) px_non (nomark _)) (pwx_and1 (PWX.pt (pwx_or (ptx_cmp op_isN od_isN (px_v 4 rfl rfl (.inl rfl) (by decide) (by decide)) px_non (nomark _)) (pwx_or1 (ptx_cmp op_gt od_gt (px_v 4 rfl rfl (.inl rfl) (by decide) (by decide)) (px_v 2 rfl rfl (.inl rfl) (by decide) (by decide)) (nomark _)))))))) (pb_asg 2 C.nd rfl (.inl rfl) (px_v 4 rfl rfl (.inl rfl) (by decide) (by decide)) rfl (.inl rfl) (fun greatest_1 => nrm [some (.val row_0), some (.val least_1), some (.val greatest_1), some (.val s_0.2.2), some (.val worth_0), none] (pb_nilS (s := greatest_1) rfl (by simp [subE])))) (pb_nilS (s := s_0.2.1) rfl (by simp [subE])) (fun s_1 => nrm [some (.val row_0), some (.val least_1), some (.val s_1), some (.val s_0.2.2), some (.val worth_0), none] (pb_if_last (PWX.pt (pwx_and (ptx_cmp op_notN od_notN (px_v 3 rfl rfl (.inl rfl) (by decide) (by decide)) px_non (nomark _)) (pwx_and1 (ptx_cmp op_notN od_notN (px_v 4 rfl rfl (.inl rfl) (by decide) (by decide)) px_non (nomark _))))) (pb_asg 3 C.nd rfl (.inl rfl) (px_op op_addAll od_add (px_v 3 rfl rfl (.inl rfl) (by decide) (by decide)) (px_v 4 rfl rfl (.inl rfl) (by decide) (by decide))) rfl (.inl rfl) (fun total_1 => nrm [some (.val row_0), some (.val least_1), some (.val s_1), some (.val total_1), some (.val worth_0), none] (pb_nilS (s := (least_1, s_1, total_1)) rfl (by simp [subE])))) (pb_asg 3 C.nd rfl (.inl rfl) px_non rfl (.inl rfl) (fun total_2 => nrm [some (.val row_0), some (.val least_1), some (.val s_1), some (.val total_2), some (.val worth_0), none] (pb_nilS (s := (least_1, s_1, total_2)) rfl (by simp [subE])))))))))) (fun s_0 => nrm [some (.val row_0), some (.val s_0.1), some (.val s_0.2.1), some (.val s_0.2.2), none, none] (pb_for (e1 := (fun (s_2 : Unit) => ([some (.val row_0), some (.val s_0.1), some (.val s_0.2.1), some (.val s_0.2.2), none, none] : Env'))) (s0 := ()) (r := (fun d => .ok d)) C.po C.calm (pix_seq C.kk (PXO.px (pxo_lst (pax_cons (PXO.px (pxo_list C.kk (by rfl) S.n_list (pax_cons (px_v 0 rfl rfl (.inl rfl) (by decide) (by decide)) pax_nil))) (pax_cons (px_callTy call_tuple_of cd_tuple (by rfl) S.n_tuple (by decide +kernel) (pax_cons (px_v 0 rfl rfl (.inl rfl) (by decide) (by decide)) pax_nil)) pax_nil))))) (pgx_name 5 C.nd rfl (.inl rfl) (.inl rfl)) (by simp [subE]) (fun s_2 worths_0 => nrm [some (.val row_0), some (.val s_0.1), some (.val s_0.2.1), some (.val s_0.2.2), none, some (.val worths_0)] (pb_if_x0 (PWX.pt (pwx_or (ptx_not (ptx_tru C.kk (px_call C (ok__law_same_worth S) hn__law_same_worth (by decide) (by rfl) S.h__law_same_worth S._law_same_worth_F.kp S._law_same_worth_b .nil (fun _ => .nil) (pax_cons (px_call C (ok_least_of S) hn_least_of (by decide) (by rfl) S.h_least_of S.least_of_F.kp S.least_of_b .nil (fun _ => .nil) (pax_cons (px_v 5 rfl rfl (.inl rfl) (by decide) (by decide)) pax_nil)) (pax_cons (px_v 1 rfl rfl (.inl rfl) (by decide) (by decide)) pax_nil))) (fun _ => rfl))) (pwx_or1 (ptx_not (ptx_tru C.kk (px_call C (ok__law_same_worth S) hn__law_same_worth (by decide) (by rfl) S.h__law_same_worth S._law_same_worth_F.kp S._law_same_worth_b .nil (fun _ => .nil) (pax_cons (px_call C (ok_greatest_of S) hn_greatest_of (by decide) (by rfl) S.h_greatest_of S.greatest_of_F.kp S.greatest_of_b .nil (fun _ => .nil) (pax_cons (px_v 5 rfl rfl (.inl rfl) (by decide) (by decide)) pax_nil)) (pax_cons (px_v 2 rfl rfl (.inl rfl) (by decide) (by decide)) pax_nil))) (fun _ => rfl)))))) (pb_ret (r := Fl.rt) (fun _ => rfl) px_bl) (pb_if_x0 (PWX.pt (pwx_or (ptx_not (ptx_tru C.kk (px_call C (ok__law_same_worth S) hn__law_same_worth (by decide) (by rfl) S.h__law_same_worth S._law_same_worth_F.kp S._law_same_worth_b .nil (fun _ => .nil) (pax_cons (px_call C (ok_total_of S) hn_total_of (by decide) (by rfl) S.h_total_of S.total_of_F.kp S.total_of_b .nil (fun _ => .nil) (pax_cons (px_v 5 rfl rfl (.inl rfl) (by decide) (by decide)) pax_nil)) (pax_cons (px_v 3 rfl rfl (.inl rfl) (by decide) (by decide)) pax_nil))) (fun _ => rfl))) (pwx_or1 (ptx_cmp (op_neD C.room.units) od_ne (PXO.px (pxo_list C.kk (by rfl) S.n_list (pax_cons (px_v 5 rfl rfl (.inl rfl) (by decide) (by decide)) pax_nil))) (px_v 0 rfl rfl (.inl rfl) (by decide) (by decide)) (nomark _))))) (pb_ret (r := Fl.rt) (fun _ => rfl) px_bl) (pb_nilS (s := ()) rfl (by simp [subE]))))) (fun d => .inr ⟨_, rfl, rfl⟩) (fun s_2 => nrm [some (.val row_0), some (.val s_0.1), some (.val s_0.2.1), some (.val s_0.2.2), none, none] (pb_if_x0 (ptx_not (ptx_tru C.kk (px_call C (ok__law_same_worth S) hn__law_same_worth (by decide) (by rfl) S.h__law_same_worth S._law_same_worth_F.kp S._law_same_worth_b .nil (fun _ => .nil) (pax_cons (px_callKw0 C (ok_least_of S) hn_least_of (by decide) (by rfl) S.h_least_of S.least_of_F.kp S.least_of_kw0 S.least_of_kr0  (pkx_cons (PXO.px (pxo_list C.kk (by rfl) S.n_list (pax_cons (px_v 0 rfl rfl (.inl rfl) (by decide) (by decide)) pax_nil))) pkx_nil)) (pax_cons (px_v 1 rfl rfl (.inl rfl) (by decide) (by decide)) pax_nil))) (fun _ => rfl))) (pb_retD (fun _ => rfl) px_bl) (pb_if_x0 (ptx_not (ptx_tru C.kk (px_call C (ok__law_same_worth S) hn__law_same_worth (by decide) (by rfl) S.h__law_same_worth S._law_same_worth_F.kp S._law_same_worth_b .nil (fun _ => .nil) (pax_cons (px_callKw0 C (ok_total_of S) hn_total_of (by decide) (by rfl) S.h_total_of S.total_of_F.kp S.total_of_kw0 S.total_of_kr0  (pkx_cons (PXO.px (pxo_list C.kk (by rfl) S.n_list (pax_cons (px_v 0 rfl rfl (.inl rfl) (by decide) (by decide)) pax_nil))) pkx_nil)) (pax_cons (px_v 3 rfl rfl (.inl rfl) (by decide) (by decide)) pax_nil))) (fun _ => rfl))) (pb_retD (fun _ => rfl) px_bl) (pb_retD (fun _ => rfl) (px_call C (ok__law_same_worth S) hn__law_same_worth (by decide) (by rfl) S.h__law_same_worth S._law_same_worth_F.kp S._law_same_worth_b .nil (fun _ => .nil) (pax_cons (px_callKw0 C (ok_greatest_of S) hn_greatest_of (by decide) (by rfl) S.h_greatest_of S.greatest_of_F.kp S.greatest_of_kw0 S.greatest_of_kr0  (pkx_cons (PXO.px (pxo_list C.kk (by rfl) S.n_list (pax_cons (px_v 0 rfl rfl (.inl rfl) (by decide) (by decide)) pax_nil))) pkx_nil)) (pax_cons (px_v 2 rfl rfl (.inl rfl) (by decide) (by decide)) pax_nil))))))) (fun _ => rfl))) (fun _ => rfl))))))))
def b__law_order_told (row_0 : D) : Res D := Res.bind (callOo rng1 (consR (callO lenD (consR (.ok row_0) (.ok []))) (.ok []))) fun ds => Res.bind (forG id (fun (s_0 : Unit) (k_0 : D) => Res.bind (op2 ixD (.ok row_0) (op2 modD (op2 addD (op2 repD (.ok k_0) (.ok (.int 2))) (.ok (.int 1))) (callO lenD (consR (.ok row_0) (.ok []))))) fun other_0 => Res.bind (itemsR (lstV (dispR (consR (callR m_is_before [] (consR (op2 ixD (.ok row_0) (.ok k_0)) (consR (.ok other_0) (.ok [])))) (consR (callR m_is_before [] (kwL 0 (List.length (α := Str) ["two", "one"]) [1, 0] [] (.ok []) (consR (.ok other_0) (consR (op2 ixD (.ok row_0) (.ok k_0)) (.ok []))))) (.ok [])))))) fun ds => Res.bind (forG id (fun (s_1 : Unit) (told_0 : D) => iteR (orB (notB (truR (op1 (isiD "bool") (.ok told_0)))) (blR (op2 neD (.ok told_0) (andV (op2 notND (op2 ixD (.ok row_0) (.ok k_0)) (.ok .non)) (orV (op2 isND (.ok other_0) (.ok .non)) (op2 ltD (op2 ixD (.ok row_0) (.ok k_0)) (.ok other_0))))))) (Res.bind (.ok (.bl false)) fun d => .ok (.rt d)) (.ok (.nx ()))) ds ()) (lpK (fun d => .ok (.rt d)) fun s_1 => Res.bind (lstV (dispR (consR (.ok (.int 1)) (consR (.ok (.int 0)) (.ok []))))) fun due_0 => Res.bind (iteR (blR (op2 notND (op2 ixD (.ok row_0) (.ok k_0)) (.ok .non))) (Res.bind (lstV (dispR (consR (.ok (.int 0)) (consR (op2 ixD (.ok row_0) (.ok k_0)) (.ok []))))) fun due_1 => .ok due_1) (.ok due_0)) fun s_2 => iteR (orB (notB (truR (callR m__law_same_worths [] (consR (callR m_rank_of [] (consR (op2 ixD (.ok row_0) (.ok k_0)) (.ok []))) (consR (.ok s_2) (.ok [])))))) (notB (truR (callR m__law_same_worths [] (consR (callR m_rank_of [] (kwL 0 (List.length (α := Str) ["worth"]) [0] [] (.ok []) (consR (op2 ixD (.ok row_0) (.ok k_0)) (.ok [])))) (consR (.ok s_2) (.ok []))))))) (Res.bind (.ok (.bl false)) fun d => .ok (.rt d)) (.ok (.nx ())))) ds ()) (lpK (fun d => .ok d) fun s_0 => .ok (.bl true))
def m__law_order_told : List D → Res D
  | [row_0] => b__law_order_told row_0
  | _ => .bad
theorem hn__law_order_told : ∀ ds : List D, ds.length ≠ 1 → m__law_order_told ds = .bad := by
  intro ds h
  unfold m__law_order_told
  split
  · exact absurd rfl h
  · rfl
theorem ok__law_order_told {g : FP} {a : Adr} (S : Txt g a) : FnOk g.P g.w g.K g.mg g.base (L2.CX g.P g.w) 4 a.f__law_order_told a.fd__law_order_told ["row"] (pureSp (mkT g a) 1 m__law_order_told) := by
  refine fn_pure rfl S._law_order_told_R sc__law_order_told fun cdv A outer s H E C ds hl => ?_
  match ds, hl with
  | [row_0], _ =>
    show PBX _ _ _ _ _ [some (.val row_0), none, none, none, none] (b__law_order_told row_0) _ _ _
    unfold b__law_order_told
    exact (pb_for (e1 := (fun (s_0 : Unit) => ([some (.val row_0), none, none, none, none] : Env'))) (s0 := ()) (r := (fun d => .ok d)) C.po C.calm (pix_range1 (by rfl) S.n_range (pax_cons (px_callB call_len cd_len (by rfl) S.n_len PySem.boot_len (pax_cons (px_v 0 rfl rfl (.inl rfl) (by decide) (by decide)) pax_nil)) pax_nil)) (pgx_name 1 C.nd rfl (.inl rfl) (.inl rfl)) (by simp [subE]) (fun s_0 k_0 => nrm [some (.val row_0), some (.val k_0), none, none, none] (pb_asg 2 C.nd rfl (.inl rfl) (px_ix ix_seq od_ix (px_v 0 rfl rfl (.inl rfl) (by decide) (by decide)) (px_op op_modN od_mod (px_op op_addAll od_add (px_op op_mulAll od_rep (px_v 1 rfl rfl (.inl rfl) (by decide) (by decide)) px_int) px_int) (px_callB call_len cd_len (by rfl) S.n_len PySem.boot_len (pax_cons (px_v 0 rfl rfl (.inl rfl) (by decide) (by decide)) pax_nil))) (fun _ _ => rfl)) rfl (.inl rfl) (fun other_0 => nrm [some (.val row_0), some (.val k_0), some (.val other_0), none, none] (pb_for (e1 := (fun (s_1 : Unit) => ([some (.val row_0), some (.val k_0), some (.val other_0), none, none] : Env'))) (s0 := ()) (r := (fun d => .ok (.rt d))) C.po C.calm (pix_seq C.kk (PXO.px (pxo_lst (pax_cons (px_call C (ok_is_before S) hn_is_before (by decide) (by rfl) S.h_is_before S.is_before_F.kp S.is_before_b .nil (fun _ => .nil) (pax_cons (px_ix ix_seq od_ix (px_v 0 rfl rfl (.inl rfl) (by decide) (by decide)) (px_v 1 rfl rfl (.inl rfl) (by decide) (by decide)) (fun _ _ => rfl)) (pax_cons (px_v 2 rfl rfl (.inl rfl) (by decide) (by decide)) pax_nil))) (pax_cons (px_callKw0 C (ok_is_before S) hn_is_before (by decide) (by rfl) S.h_is_before S.is_before_F.kp S.is_before_kw0 S.is_before_kr0  (pkx_cons (px_v 2 rfl rfl (.inl rfl) (by decide) (by decide)) (pkx_cons (px_ix ix_seq od_ix (px_v 0 rfl rfl (.inl rfl) (by decide) (by decide)) (px_v 1 rfl rfl (.inl rfl) (by decide) (by decide)) (fun _ _ => rfl)) pkx_nil))) pax_nil))))) (pgx_name 3 C.nd rfl (.inl rfl) (.inl rfl)) (by simp [subE]) (fun s_1 told_0 => nrm [some (.val row_0), some (.val k_0), some (.val other_0), some (.val told_0), none] (pb_if_x0 (PWX.pt (pwx_or (ptx_not (ptx_tru C.kk (px_isi C.kk S.kt (by simp) (by rfl) S.n_isinstance (by rfl) S.n_bool (by decide +kernel) (by decide) (by decide) (px_v 3 rfl rfl (.inl rfl) (by decide) (by decide))) (fun _ => rfl))) (pwx_or1 (ptx_cmp (op_neD C.room.units) od_ne (px_v 3 rfl rfl (.inl rfl) (by decide) (by decide)) (px_and (px_cmpR op_notN od_notN (px_ix ix_seq od_ix (px_v 0 rfl rfl (.inl rfl) (by decide) (by decide)) (px_v 1 rfl rfl (.inl rfl) (by decide) (by decide)) (fun _ _ => rfl)) px_non (nomark _)) (px_one (px_or (px_cmpR op_isN od_isN (px_v 2 rfl rfl (.inl rfl) (by decide) (by decide)) px_non (nomark _)) (px_one (px_cmpR (op_ltAll C.room.units0) od_lt (px_ix ix_seq od_ix (px_v 0 rfl rfl (.inl rfl) (by decide) (by decide)) (px_v 1 rfl rfl (.inl rfl) (by decide) (by decide)) (fun _ _ => rfl)) (px_v 2 rfl rfl (.inl rfl) (by decide) (by decide)) (nomark _)))))) (nomark _))))) (pb_ret (r := Fl.rt) (fun _ => rfl) px_bl) (pb_nilS (s := ()) rfl (by simp [subE])))) (fun d => .inr ⟨_, rfl, rfl⟩) (fun s_1 => nrm [some (.val row_0), some (.val k_0), some (.val other_0), none, none] (pb_asg 4 C.nd rfl (.inl rfl) (PXO.px (pxo_lst (pax_cons px_int (pax_cons px_int pax_nil)))) rfl (.inl rfl) (fun due_0 => nrm [some (.val row_0), some (.val k_0), some (.val other_0), none, some (.val due_0)] (pb_if_j (e' := fun (s_2 : D) => ([some (.val row_0), some (.val k_0), some (.val other_0), none, some (.val s_2)] : Env')) (ptx_cmp op_notN od_notN (px_ix ix_seq od_ix (px_v 0 rfl rfl (.inl rfl) (by decide) (by decide)) (px_v 1 rfl rfl (.inl rfl) (by decide) (by decide)) (fun _ _ => rfl)) px_non (nomark _)) (pb_asg 4 C.nd rfl (.inl rfl) (PXO.px (pxo_lst (pax_cons px_int (pax_cons (px_ix ix_seq od_ix (px_v 0 rfl rfl (.inl rfl) (by decide) (by decide)) (px_v 1 rfl rfl (.inl rfl) (by decide) (by decide)) (fun _ _ => rfl)) pax_nil)))) rfl (.inl rfl) (fun due_1 => nrm [some (.val row_0), some (.val k_0), some (.val other_0), none, some (.val due_1)] (pb_nilS (s := due_1) rfl (by simp [subE])))) (pb_nilS (s := due_0) rfl (by simp [subE])) (fun s_2 => nrm [some (.val row_0), some (.val k_0), some (.val other_0), none, some (.val s_2)] (pb_if_x0 (PWX.pt (pwx_or (ptx_not (ptx_tru C.kk (px_call C (ok__law_same_worths S) hn__law_same_worths (by decide) (by rfl) S.h__law_same_worths S._law_same_worths_F.kp S._law_same_worths_b .nil (fun _ => .nil) (pax_cons (px_call C (ok_rank_of S) hn_rank_of (by decide) (by rfl) S.h_rank_of S.rank_of_F.kp S.rank_of_b .nil (fun _ => .nil) (pax_cons (px_ix ix_seq od_ix (px_v 0 rfl rfl (.inl rfl) (by decide) (by decide)) (px_v 1 rfl rfl (.inl rfl) (by decide) (by decide)) (fun _ _ => rfl)) pax_nil)) (pax_cons (px_v 4 rfl rfl (.inl rfl) (by decide) (by decide)) pax_nil))) (fun _ => rfl))) (pwx_or1 (ptx_not (ptx_tru C.kk (px_call C (ok__law_same_worths S) hn__law_same_worths (by decide) (by rfl) S.h__law_same_worths S._law_same_worths_F.kp S._law_same_worths_b .nil (fun _ => .nil) (pax_cons (px_callKw0 C (ok_rank_of S) hn_rank_of (by decide) (by rfl) S.h_rank_of S.rank_of_F.kp S.rank_of_kw0 S.rank_of_kr0  (pkx_cons (px_ix ix_seq od_ix (px_v 0 rfl rfl (.inl rfl) (by decide) (by decide)) (px_v 1 rfl rfl (.inl rfl) (by decide) (by decide)) (fun _ _ => rfl)) pkx_nil)) (pax_cons (px_v 4 rfl rfl (.inl rfl) (by decide) (by decide)) pax_nil))) (fun _ => rfl)))))) (pb_ret (r := Fl.rt) (fun _ => rfl) px_bl) (pb_nilS (s := ()) rfl (by simp [subE])))))))) (fun _ => rfl))))) (fun d => .inr ⟨_, rfl, rfl⟩) (fun s_0 => nrm [some (.val row_0), none, none, none, none] (pb_retD (fun _ => rfl) px_bl)) (fun _ => rfl))
def b__law_long_rows_told (grades_0 numbers_0 : D) : Res D := Res.bind (itemsR (.ok grades_0)) fun ds => Res.bind (forG id (fun (s_0 : Unit) (grade_0 : D) => Res.bind (lstV (mapL (fun number_0 => callR m__law_at [] (consR (.ok grade_0) (consR (.ok number_0) (.ok [])))) (itemsR (.ok numbers_0)))) fun row_0 => iteR (orB (notB (truR (callR m__law_row_told [] (consR (.ok row_0) (.ok []))))) (notB (truR (callR m__law_row_told [] (consR (lstV (mapL (fun k_0 => op2 ixD (.ok row_0) (op2 subD (op2 subD (callO lenD (consR (.ok row_0) (.ok []))) (.ok (.int 1))) (.ok k_0))) (callOo rng1 (consR (callO lenD (consR (.ok row_0) (.ok []))) (.ok []))))) (.ok [])))))) (Res.bind (.ok (.bl false)) fun d => .ok (.rt d)) (.ok (.nx ()))) ds ()) (lpK (fun d => .ok d) fun s_0 => .ok (.bl true))
def m__law_long_rows_told : List D → Res D
  | [grades_0, numbers_0] => b__law_long_rows_told grades_0 numbers_0
  | _ => .bad
theorem hn__law_long_rows_told : ∀ ds : List D, ds.length ≠ 2 → m__law_long_rows_told ds = .bad := by
  intro ds h
  unfold m__law_long_rows_told
  split
  · exact absurd rfl h
  · rfl
theorem ok__law_long_rows_told {g : FP} {a : Adr} (S : Txt g a) : FnOk g.P g.w g.K g.mg g.base (L2.CX g.P g.w) 5 a.f__law_long_rows_told a.fd__law_long_rows_told ["grades", "numbers"] (pureSp (mkT g a) 2 m__law_long_rows_told) := by
  refine fn_pure rfl S._law_long_rows_told_R sc__law_long_rows_told fun cdv A outer s H E C ds hl => ?_
  match ds, hl with
  | [grades_0, numbers_0], _ =>
    show PBX _ _ _ _ _ [some (.val grades_0), some (.val numbers_0), none, none, none, none] (b__law_long_rows_told grades_0 numbers_0) _ _ _
    unfold b__law_long_rows_told
    exact (pb_for (e1 := (fun (s_0 : Unit) => ([some (.val grades_0), some (.val numbers_0), none, none, none, none] : Env'))) (s0 := ()) (r := (fun d => .ok d)) C.po C.calm (pix_seq C.kk (px_v 0 rfl rfl (.inl rfl) (by decide) (by decide))) (pgx_name 2 C.nd rfl (.inr rfl) (.inl rfl)) (by simp [subE]) (fun s_0 grade_0 => nrm [some (.val grades_0), some (.val numbers_0), some (.val grade_0), none, none, none] (pb_asg 3 C.nd rfl (.inr rfl) (PXO.px (LcX.pxo (lcx_map (own := [("number", 5)]) (pix_seq C.kk (px_v 1 rfl rfl (.inl rfl) (by decide) (by decide))) (fun _ _ _ _ _ => pgx_name 5 C.nd rfl (.inl rfl) (.inr rfl)) (by decide) (fun _ => ⟨_, rfl⟩) (fun _ _ _ _ _ number_0 => nrmX [some (.val grades_0), some (.val numbers_0), some (.val grade_0), none, none, some (.val number_0)] (px_call (Ctx.blk C) (ok__law_at S) hn__law_at (by decide) (by rfl) S.h__law_at S._law_at_F.kp S._law_at_b .nil (fun _ => .nil) (pax_cons (px_v (x := "grade") 2 rfl rfl (.inr (.inl rfl)) (by decide) (by decide)) (pax_cons (px_v (x := "number") 5 rfl rfl (.inl rfl) (by decide) (by decide)) pax_nil))))) C.calm C.nd (blkOk_by (N := ["grades", "numbers", "grade", "row", "k", "number"]) (sc := defScope s__law_long_rows_told) (by decide +kernel)) (fun _ => rfl))) rfl (.inl rfl) (fun row_0 => nrm [some (.val grades_0), some (.val numbers_0), some (.val grade_0), some (.val row_0), none, none] (pb_if_x0 (PWX.pt (pwx_or (ptx_not (ptx_tru C.kk (px_call C (ok__law_row_told S) hn__law_row_told (by decide) (by rfl) S.h__law_row_told S._law_row_told_F.kp S._law_row_told_b .nil (fun _ => .nil) (pax_cons (px_v 3 rfl rfl (.inr (.inl rfl)) (by decide) (by decide)) pax_nil)) (fun _ => rfl))) (pwx_or1 (ptx_not (ptx_tru C.kk (px_call C (ok__law_row_told S) hn__law_row_told (by decide) (by rfl) S.h__law_row_told S._law_row_told_F.kp S._law_row_told_b .nil (fun _ => .nil) (pax_cons (PXO.px (LcX.pxo (lcx_map (own := [("k", 4)]) (pix_range1 (by rfl) S.n_range (pax_cons (px_callB call_len cd_len (by rfl) S.n_len PySem.boot_len (pax_cons (px_v 3 rfl rfl (.inr (.inl rfl)) (by decide) (by decide)) pax_nil)) pax_nil)) (fun _ _ _ _ _ => pgx_name 4 C.nd rfl (.inl rfl) (.inr rfl)) (by decide) (fun _ => ⟨_, rfl⟩) (fun _ _ _ _ _ k_0 => nrmX [some (.val grades_0), some (.val numbers_0), some (.val grade_0), some (.val row_0), some (.val k_0), none] (px_ix ix_seq od_ix (px_v (x := "row") 3 rfl rfl (.inr (.inl rfl)) (by decide) (by decide)) (px_op op_sub od_sub (px_op op_sub od_sub (px_callB call_len cd_len (by rfl) S.n_len PySem.boot_len (pax_cons (px_v (x := "row") 3 rfl rfl (.inr (.inl rfl)) (by decide) (by decide)) pax_nil)) px_int) (px_v (x := "k") 4 rfl rfl (.inl rfl) (by decide) (by decide))) (fun _ _ => rfl)))) C.calm C.nd (blkOk_by (N := ["grades", "numbers", "grade", "row", "k", "number"]) (sc := defScope s__law_long_rows_told) (by decide +kernel)) (fun _ => rfl))) pax_nil)) (fun _ => rfl)))))) (pb_ret (r := Fl.rt) (fun _ => rfl) px_bl) (pb_nilS (s := ()) rfl (by simp [subE])))))) (fun d => .inr ⟨_, rfl, rfl⟩) (fun s_0 => nrm [some (.val grades_0), some (.val numbers_0), none, none, none, none] (pb_retD (fun _ => rfl) px_bl)) (fun _ => rfl))
def b__law_great_row (cell_0 : D) : Res D := Res.bind (callR m__law_digits [] (consR (.ok cell_0) (consR (lstV (dispR (consR (.ok (.int 16)) (consR (.ok (.int 51)) (consR (.ok (.int 1191)) (consR (.ok (.int 2520)) (consR (.ok (.int 2520)) (consR (.ok (.int 2520)) (consR (.ok (.int 3)) (consR (op2 powD (.ok (.int 10)) (.ok (.int 20))) (consR (.ok (.int 2520)) (.ok [])))))))))))) (.ok [])))) fun row_0 => Res.bind (op2 addD (.ok (.int 10)) (op2 ixD (.ok row_0) (.ok (.int 1)))) fun many_0 => Res.bind (iteR (blR (op2 eqD (op2 ixD (.ok row_0) (.ok (.int 0))) (.ok (.int 0)))) (Res.bind (op2 addD (.ok (.int 10)) (op2 ixD (.ok row_0) (.ok (.int 2)))) fun many_1 => .ok many_1) (.ok many_0)) fun s_0 => Res.bind (mapL (fun k_0 => op2 addD (op2 addD (op2 ixD (.ok row_0) (.ok (.int 7))) (.ok (.int 10))) (op2 modD (callO intD (consR (op2 repD (.ok k_0) (.ok (.int 7919))) (.ok []))) (.ok (.int 2521)))) (callOo rng1 (consR (.ok s_0) (.ok [])))) fun worths_0 => setR worths_0 (op2 addD (op2 addD (op2 ixD (.ok row_0) (.ok (.int 7))) (.ok (.int 2531))) (op2 modD (callO intD (consR (op2 ixD (.ok row_0) (.ok (.int 8))) (.ok []))) (.ok (.int 9)))) (op2 modD (callO intD (consR (op2 ixD (.ok row_0) (.ok (.int 3))) (.ok []))) (.ok s_0)) fun worths_1 => setR worths_1 (op2 addD (op2 ixD (.ok row_0) (.ok (.int 7))) (op2 modD (callO intD (consR (op2 ixD (.ok row_0) (.ok (.int 8))) (.ok []))) (.ok (.int 10)))) (op2 modD (callO intD (consR (op2 ixD (.ok row_0) (.ok (.int 4))) (.ok []))) (.ok s_0)) fun worths_2 => Res.bind (iteR (blR (op2 eqD (op2 ixD (.ok row_0) (.ok (.int 6))) (.ok (.int 0)))) (setR worths_2 (.ok .non) (op2 modD (callO intD (consR (op2 ixD (.ok row_0) (.ok (.int 5))) (.ok []))) (.ok s_0)) fun worths_3 => .ok worths_3) (.ok worths_2)) fun s_1 => .ok (.lst s_1)
def m__law_great_row : List D → Res D
  | [cell_0] => b__law_great_row cell_0
  | _ => .bad
theorem hn__law_great_row : ∀ ds : List D, ds.length ≠ 1 → m__law_great_row ds = .bad := by
  intro ds h
  unfold m__law_great_row
  split
  · exact absurd rfl h
  · rfl
theorem ok__law_great_row {g : FP} {a : Adr} (S : Txt g a) : FnOk g.P g.w g.K g.mg g.base (L2.CX g.P g.w) 2 a.f__law_great_row a.fd__law_great_row ["cell"] (pureSp (mkT g a) 1 m__law_great_row) := by
  refine fn_pure rfl S._law_great_row_R sc__law_great_row fun cdv A outer s H E C ds hl => ?_
  match ds, hl with
  | [cell_0], _ =>
    show PBX _ _ _ _ _ [some (.val cell_0), none, none, none, none] (b__law_great_row cell_0) _ _ _
    unfold b__law_great_row
    exact (pb_asg 1 C.nd rfl (.inr rfl) (px_call C (ok__law_digits S) hn__law_digits (by decide) (by rfl) S.h__law_digits S._law_digits_F.kp S._law_digits_b .nil (fun _ => .nil) (pax_cons (px_v 0 rfl rfl (.inl rfl) (by decide) (by decide)) (pax_cons (PXO.px (pxo_lst (pax_cons px_int (pax_cons px_int (pax_cons px_int (pax_cons px_int (pax_cons px_int (pax_cons px_int (pax_cons px_int (pax_cons (px_op op_pow od_pow px_int px_int) (pax_cons px_int pax_nil))))))))))) pax_nil))) rfl (.inl rfl) (fun row_0 => nrm [some (.val cell_0), some (.val row_0), none, none, none] (pb_asg 2 C.nd rfl (.inl rfl) (px_op op_addAll od_add px_int (px_ix ix_seq od_ix (px_v 1 rfl rfl (.inr (.inl rfl)) (by decide) (by decide)) px_int (fun _ _ => rfl))) rfl (.inl rfl) (fun many_0 => nrm [some (.val cell_0), some (.val row_0), some (.val many_0), none, none] (pb_if_j (e' := fun (s_0 : D) => ([some (.val cell_0), some (.val row_0), some (.val s_0), none, none] : Env')) (ptx_cmp (op_eqD C.room.units) od_eq (px_ix ix_seq od_ix (px_v 1 rfl rfl (.inr (.inl rfl)) (by decide) (by decide)) px_int (fun _ _ => rfl)) px_int (nomark _)) (pb_asg 2 C.nd rfl (.inl rfl) (px_op op_addAll od_add px_int (px_ix ix_seq od_ix (px_v 1 rfl rfl (.inr (.inl rfl)) (by decide) (by decide)) px_int (fun _ _ => rfl))) rfl (.inl rfl) (fun many_1 => nrm [some (.val cell_0), some (.val row_0), some (.val many_1), none, none] (pb_nilS (s := many_1) rfl (by simp [subE])))) (pb_nilS (s := many_0) rfl (by simp [subE])) (fun s_0 => nrm [some (.val cell_0), some (.val row_0), some (.val s_0), none, none] (pb_asgLcO 3 (lcx_map (own := [("k", 4)]) (pix_range1 (by rfl) S.n_range (pax_cons (px_v 2 rfl rfl (.inl rfl) (by decide) (by decide)) pax_nil)) (fun _ _ _ _ _ => pgx_name 4 C.nd rfl (.inl rfl) (.inr rfl)) (by decide) (fun _ => ⟨_, rfl⟩) (fun _ _ _ _ _ k_0 => nrmX [some (.val cell_0), some (.val row_0), some (.val s_0), none, some (.val k_0)] (px_op op_addAll od_add (px_op op_addAll od_add (px_ix ix_seq od_ix (px_v (x := "row") 1 rfl rfl (.inr (.inl rfl)) (by decide) (by decide)) px_int (fun _ _ => rfl)) px_int) (px_op op_modN od_mod (px_callTy call_int1 cd_int (by rfl) S.n_int (by decide +kernel) (pax_cons (px_op op_mulAll od_rep (px_v (x := "k") 4 rfl rfl (.inl rfl) (by decide) (by decide)) px_int) pax_nil)) px_int)))) C.calm C.nd rfl rfl (sw_true rfl rfl rfl (by decide +kernel)) (blkOk_by (N := ["cell", "row", "many", "worths", "k"]) (sc := defScope s__law_great_row) (by decide +kernel)) (fun _ => rfl) (fun worths_0 => nrm [some (.val cell_0), some (.val row_0), some (.val s_0), some (.own worths_0), none] (pb_setitem 3 rfl (px_op op_addAll od_add (px_op op_addAll od_add (px_ix ix_seq od_ix (px_v 1 rfl rfl (.inr (.inl rfl)) (by decide) (by decide)) px_int (fun _ _ => rfl)) px_int) (px_op op_modN od_mod (px_callTy call_int1 cd_int (by rfl) S.n_int (by decide +kernel) (pax_cons (px_ix ix_seq od_ix (px_v 1 rfl rfl (.inr (.inl rfl)) (by decide) (by decide)) px_int (fun _ _ => rfl)) pax_nil)) px_int)) (px_op op_modN od_mod (px_callTy call_int1 cd_int (by rfl) S.n_int (by decide +kernel) (pax_cons (px_ix ix_seq od_ix (px_v 1 rfl rfl (.inr (.inl rfl)) (by decide) (by decide)) px_int (fun _ _ => rfl)) pax_nil)) (px_v 2 rfl rfl (.inl rfl) (by decide) (by decide))) (fun _ _ h h2 => ps_asg h (pg_sub (pv 3 rfl (.inl rfl)) h2 set_list)) (fun worths_1 => nrm [some (.val cell_0), some (.val row_0), some (.val s_0), some (.own worths_1), none] (pb_setitem 3 rfl (px_op op_addAll od_add (px_ix ix_seq od_ix (px_v 1 rfl rfl (.inr (.inl rfl)) (by decide) (by decide)) px_int (fun _ _ => rfl)) (px_op op_modN od_mod (px_callTy call_int1 cd_int (by rfl) S.n_int (by decide +kernel) (pax_cons (px_ix ix_seq od_ix (px_v 1 rfl rfl (.inr (.inl rfl)) (by decide) (by decide)) px_int (fun _ _ => rfl)) pax_nil)) px_int)) (px_op op_modN od_mod (px_callTy call_int1 cd_int (by rfl) S.n_int (by decide +kernel) (pax_cons (px_ix ix_seq od_ix (px_v 1 rfl rfl (.inr (.inl rfl)) (by decide) (by decide)) px_int (fun _ _ => rfl)) pax_nil)) (px_v 2 rfl rfl (.inl rfl) (by decide) (by decide))) (fun _ _ h h2 => ps_asg h (pg_sub (pv 3 rfl (.inl rfl)) h2 set_list)) (fun worths_2 => nrm [some (.val cell_0), some (.val row_0), some (.val s_0), some (.own worths_2), none] (pb_if_j (e' := fun (s_1 : List D) => ([some (.val cell_0), some (.val row_0), some (.val s_0), some (.own s_1), none] : Env')) (ptx_cmp (op_eqD C.room.units) od_eq (px_ix ix_seq od_ix (px_v 1 rfl rfl (.inr (.inl rfl)) (by decide) (by decide)) px_int (fun _ _ => rfl)) px_int (nomark _)) (pb_setitem 3 rfl px_non (px_op op_modN od_mod (px_callTy call_int1 cd_int (by rfl) S.n_int (by decide +kernel) (pax_cons (px_ix ix_seq od_ix (px_v 1 rfl rfl (.inr (.inl rfl)) (by decide) (by decide)) px_int (fun _ _ => rfl)) pax_nil)) (px_v 2 rfl rfl (.inl rfl) (by decide) (by decide))) (fun _ _ h h2 => ps_asg h (pg_sub (pv 3 rfl (.inl rfl)) h2 set_list)) (fun worths_3 => nrm [some (.val cell_0), some (.val row_0), some (.val s_0), some (.own worths_3), none] (pb_nilS (s := worths_3) rfl (by simp [subE])))) (pb_nilS (s := worths_2) rfl (by simp [subE])) (fun s_1 => nrm [some (.val cell_0), some (.val row_0), some (.val s_0), some (.own s_1), none] (pb_frz 3 rfl (nrm [some (.val cell_0), some (.val row_0), some (.val s_0), some (.val (.lst s_1)), none] (pb_retD (fun _ => rfl) (px_v 3 rfl rfl (.inl rfl) (by decide) (by decide)))))))))))))))))))
def b_law (script_0 : D) : Res D := Res.bind (callR m__law_digits [] (consR (callR m__law_cell [] (consR (.ok script_0) (consR (.ok (.int 0)) (.ok [])))) (consR (lstV (dispR (consR (.ok (.int 6)) (consR (.ok (.int 8)) (consR (.ok (.int 2)) (consR (.ok (.int 30)) (consR (.ok (.int 2520)) (consR (.ok (.int 4)) (consR (op2 powD (.ok (.int 10)) (.ok (.int 20))) (.ok [])))))))))) (.ok [])))) fun shape_0 => Res.bind (op2 ixD (lstV (dispR (consR (.ok (.int 3)) (consR (.ok (.int 4)) (consR (.ok (.int 3)) (consR (.ok (.int 5)) (consR (.ok (.int 6)) (consR (.ok (.int 9)) (.ok []))))))))) (op2 ixD (.ok shape_0) (.ok (.int 0)))) fun many_0 => Res.bind (op2 repD (lstV (dispR (consR (.ok (.int 0)) (.ok [])))) (.ok many_0)) fun by_0 => Res.bind (iteR (blR (op2 gtD (op2 ixD (.ok shape_0) (.ok (.int 5))) (.ok (.int 0)))) (Res.bind (lstV (mapL (fun digit_0 => op2 addD (.ok (.int 1)) (op2 divD (callO intD (consR (op2 repD (.ok digit_0) (.ok digit_0)) (.ok []))) (.ok (.int 5)))) (itemsR (callR m__law_digits [] (consR (callR m__law_cell [] (consR (.ok script_0) (consR (.ok (.int 13)) (.ok [])))) (consR (op2 repD (lstV (dispR (consR (.ok (.int 8)) (.ok [])))) (.ok many_0)) (.ok []))))))) fun by_1 => .ok by_1) (.ok by_0)) fun s_0 => Res.bind (mapL (fun k_0 => callR m__law_raised [] (consR (callR m__law_grade [] (consR (callR m__law_cell [] (consR (.ok script_0) (consR (op2 addD (.ok (.int 4)) (.ok k_0)) (.ok [])))) (consR (op2 ltD (op2 ixD (.ok shape_0) (.ok (.int 1))) (.ok (.int 5))) (.ok [])))) (consR (op2 ixD (.ok s_0) (.ok k_0)) (.ok [])))) (callOo rng1 (consR (.ok many_0) (.ok [])))) fun grades_0 => Res.bind (iteR (blR (op2 eqD (op2 ixD (.ok shape_0) (.ok (.int 2))) (.ok (.int 1)))) (setR grades_0 (callR m__law_standing [] (consR (ixO grades_0 (op2 modD (callO intD (consR (op2 ixD (.ok shape_0) (.ok (.int 4))) (.ok []))) (.ok many_0))) (consR (op2 ixD (.ok shape_0) (.ok (.int 3))) (.ok [])))) (op2 modD (callO intD (consR (op2 ixD (.ok shape_0) (.ok (.int 4))) (.ok []))) (.ok many_0)) fun grades_1 => .ok grades_1) (.ok grades_0)) fun s_1 => Res.bind (callR m__law_least_of_all [] (consR (.ok (.lst s_1)) (.ok []))) fun due_0 => Res.bind (op2 repD (callO absD (consR (callO intD (consR (callR m__law_cell [] (consR (.ok script_0) (consR (.ok (.int 14)) (.ok [])))) (.ok []))) (.ok []))) (op2 ixD (lstV (dispR (consR (.ok (.int 1)) (consR (op2 powD (.ok (.int 10)) (.ok (.int 64))) (.ok []))))) (op2 modD (callO intD (consR (op2 ixD (.ok shape_0) (.ok (.int 3))) (.ok []))) (.ok (.int 2))))) fun raw_0 => Res.bind (op2 addD (lstV (callOo lrng1 (consR (op2 addD (callO lenD (consR (op2 ixD (.ok due_0) (.ok (.int 0))) (.ok []))) (.ok (.int 3))) (.ok [])))) (lstV (dispR (consR (op2 addD (op2 powD (.ok (.int 10)) (.ok (.int 3))) (op2 modD (callO intD (consR (op2 ixD (.ok shape_0) (.ok (.int 6))) (.ok []))) (.ok (.int 1000)))) (consR (op2 addD (op2 powD (.ok (.int 10)) (.ok (.int 18))) (op2 ixD (.ok shape_0) (.ok (.int 6)))) (consR (op2 powD (.ok (.int 10)) (.ok (.int 40))) (consR (.ok raw_0) (.ok [])))))))) fun numbers_0 => Res.bind (op2 addD (.ok numbers_0) (lstV (dispR (consR (.ok .non) (.ok []))))) fun worths_0 => Res.bind (lstV (mapL (fun grade_0 => makeR 0 i_Grade_init [] (consR (lstV (callOo listO (consR (op2 ixD (.ok grade_0) (.ok (.int 0))) (.ok [])))) (consR (op2 ixD (.ok grade_0) (.ok (.int 1))) (.ok [])))) (itemsR (.ok (.lst s_1))))) fun made_0 => Res.bind (callR m__law_grouped [] (consR (.ok made_0) (consR (callR m__law_digits [] (consR (callR m__law_cell [] (consR (.ok script_0) (consR (.ok (.int 1)) (.ok [])))) (consR (op2 repD (lstV (dispR (consR (.ok (.int 2520)) (.ok [])))) (op2 repD (.ok (.int 2)) (.ok many_0))) (.ok [])))) (.ok [])))) fun one_0 => Res.bind (callR m__law_grouped [] (consR (.ok made_0) (consR (callR m__law_digits [] (consR (callR m__law_cell [] (consR (.ok script_0) (consR (.ok (.int 2)) (.ok [])))) (consR (op2 repD (lstV (dispR (consR (.ok (.int 2520)) (.ok [])))) (op2 repD (.ok (.int 2)) (.ok many_0))) (.ok [])))) (.ok [])))) fun two_0 => Res.bind (itemsR (lstV (dispR (consR (.ok one_0) (consR (.ok two_0) (consR (own2R 0 m_Grade_or (.ok one_0) (.ok one_0)) (consR (own2R 0 m_Grade_or (.ok one_0) (makeR 0 i_Grade_init [] (consR (tupR (.ok [])) (consR (.ok .non) (.ok []))))) (consR (own2R 0 m_Grade_or (makeR 0 i_Grade_init [] (consR (lstV (dispR (.ok []))) (consR (.ok .non) (.ok [])))) (.ok two_0)) (consR (own2R 0 m_Grade_or (.ok one_0) (op2 ixD (.ok made_0) (op2 subD (.ok many_0) (.ok (.int 1))))) (.ok [])))))))))) fun ds => Res.bind (forG id (fun (s_2 : Unit) (whole_0 : D) => iteR (orB (notB (truR (callR m__law_tells [] (consR (.ok whole_0) (consR (.ok due_0) (consR (.ok worths_0) (.ok []))))))) (notB (truR (callR m__law_equal [] (consR (.ok whole_0) (consR (.ok one_0) (.ok []))))))) (Res.bind (.ok (.bl false)) fun d => .ok (.rt d)) (iteR (notB (truR (callR m__law_stands_where_one [] (consR (.ok whole_0) (consR (.ok (.lst s_1)) (consR (.ok numbers_0) (.ok []))))))) (Res.bind (.ok (.bl false)) fun d => .ok (.rt d)) (.ok (.nx ())))) ds ()) (lpK (fun d => .ok d) fun s_2 => Res.bind (itemsR (lstV (dispR (consR (own2R 0 m_Grade_or (.ok one_0) (makeR 0 i_Grade_init [.tup [], .int 0] (.ok []))) (consR (own2R 0 m_Grade_or (makeR 0 i_Grade_init [] (consR (lstV (dispR (.ok []))) (consR (.ok (.int 0)) (.ok [])))) (.ok two_0)) (.ok [])))))) fun ds => Res.bind (forG id (fun (s_3 : Unit) (whole_1 : D) => iteR (orB (notB (truR (callR m__law_tells [] (consR (.ok whole_1) (consR (lstV (dispR (consR (lstV (dispR (.ok []))) (consR (.ok (.int 0)) (.ok []))))) (consR (.ok worths_0) (.ok []))))))) (notB (truR (callR m__law_stands_where_one [] (consR (.ok whole_1) (consR (lstV (dispR (consR (lstV (dispR (consR (lstV (dispR (.ok []))) (consR (.ok (.int 0)) (.ok []))))) (.ok [])))) (consR (.ok numbers_0) (.ok [])))))))) (Res.bind (.ok (.bl false)) fun d => .ok (.rt d)) (.ok (.nx ()))) ds ()) (lpK (fun d => .ok d) fun s_3 => Res.bind (callR m__law_expression [] (consR (.ok made_0) (consR (.ok (.lst s_1)) (consR (callR m__law_digits [] (consR (callR m__law_cell [] (consR (.ok script_0) (consR (.ok (.int 3)) (.ok [])))) (consR (op2 repD (lstV (dispR (consR (.ok (.int 5040)) (.ok [])))) (.ok many_0)) (.ok [])))) (.ok []))))) fun told_0 => iteR (orB (notB (truR (callR m__law_tells [] (consR (op2 ixD (.ok told_0) (.ok (.int 0))) (consR (op2 ixD (.ok told_0) (.ok (.int 1))) (consR (.ok worths_0) (.ok []))))))) (notB (truR (callR m__law_stands_where_one [] (consR (op2 ixD (.ok told_0) (.ok (.int 0))) (consR (lstV (dispR (consR (op2 ixD (.ok told_0) (.ok (.int 1))) (.ok [])))) (consR (.ok numbers_0) (.ok [])))))))) (.ok (.bl false)) (iteR (notB (truR (callR m__law_goes_over [] (consR (.ok made_0) (consR (.ok (.lst s_1)) (consR (.ok worths_0) (.ok []))))))) (.ok (.bl false)) (iteR (notB (truR (callR m__law_goes_over [] (consR (op2 addD (sliceR (.ok made_0) (some (.ok (.int 1))) none) (sliceR (.ok made_0) none (some (.ok (.int 1))))) (consR (op2 addD (sliceR (.ok (.lst s_1)) (some (.ok (.int 1))) none) (sliceR (.ok (.lst s_1)) none (some (.ok (.int 1))))) (consR (.ok worths_0) (.ok []))))))) (.ok (.bl false)) (Res.bind (callOo rng1 (consR (.ok many_0) (.ok []))) fun ds => Res.bind (forG id (fun (s_4 : Unit) (k_1 : D) => iteR (notB (truR (callR m__law_tells [] (consR (op2 ixD (.ok made_0) (.ok k_1)) (consR (op2 ixD (.ok (.lst s_1)) (.ok k_1)) (consR (.ok worths_0) (.ok []))))))) (Res.bind (.ok (.bl false)) fun d => .ok (.rt d)) (.ok (.nx ()))) ds ()) (lpK (fun d => .ok d) fun s_4 => Res.bind (itemsR (.ok worths_0)) fun ds => Res.bind (forG id (fun (s_5 : Unit) (worth_0 : D) => Res.bind (lstV (mapL (fun grade_1 => callR m__law_at [] (consR (.ok grade_1) (consR (.ok worth_0) (.ok [])))) (itemsR (.ok (.lst s_1))))) fun row_0 => iteR (orB (notB (truR (callR m__law_row_told [] (consR (.ok row_0) (.ok []))))) (orB (notB (truR (callR m__law_row_told [] (consR (op2 addD (lstV (dispR (consR (.ok worth_0) (.ok [])))) (sliceR (.ok row_0) none (some (.ok (.int 2))))) (.ok []))))) (notB (truR (callR m__law_order_told [] (consR (op2 addD (.ok row_0) (lstV (dispR (consR (.ok worth_0) (.ok []))))) (.ok []))))))) (Res.bind (.ok (.bl false)) fun d => .ok (.rt d)) (.ok (.nx ()))) ds ()) (lpK (fun d => .ok d) fun s_5 => iteR (orB (notB (truR (callR m__law_long_rows_told [] (consR (.ok (.lst s_1)) (consR (.ok numbers_0) (.ok [])))))) (notB (truR (callR m__law_row_told [] (consR (callR m__law_great_row [] (consR (callR m__law_cell [] (consR (.ok script_0) (consR (.ok (.int 15)) (.ok [])))) (.ok []))) (.ok [])))))) (.ok (.bl false)) (andV (callR m__law_row_told [] (consR (lstV (dispR (.ok []))) (.ok []))) (andV (callR m__law_row_told [] (consR (lstV (dispR (consR (.ok .non) (.ok [])))) (.ok []))) (andV (callR m__law_row_told [] (consR (lstV (dispR (consR (.ok .non) (consR (.ok .non) (.ok []))))) (.ok []))) (callR m__law_tells [] (consR (.ok one_0) (consR (.ok due_0) (consR (.ok worths_0) (.ok [])))))))))))))))
def m_law : List D → Res D
  | [script_0] => b_law script_0
  | _ => .bad
theorem hn_law : ∀ ds : List D, ds.length ≠ 1 → m_law ds = .bad := by
  intro ds h
  unfold m_law
  split
  · exact absurd rfl h
  · rfl
theorem ok_law {g : FP} {a : Adr} (S : Txt g a) : FnOk g.P g.w g.K g.mg g.base (L2.CX g.P g.w) 9 a.f_law a.fd_law ["script"] (pureSp (mkT g a) 1 m_law) := by
  refine fn_pure rfl S.law_R sc_law fun cdv A outer s H E C ds hl => ?_
  match ds, hl with
  | [script_0], _ =>
    show PBX _ _ _ _ _ [some (.val script_0), none, none, none, none, none, none, none, none, none, none, none, none, none, none, none, none, none, none] (b_law script_0) _ _ _
    unfold b_law
    exact (pb_asg 1 C.nd rfl (.inr rfl) (px_call C (ok__law_digits S) hn__law_digits (by decide) (by rfl) S.h__law_digits S._law_digits_F.kp S._law_digits_b .nil (fun _ => .nil) (pax_cons (px_call C (ok__law_cell S) hn__law_cell (by decide) (by rfl) S.h__law_cell S._law_cell_F.kp S._law_cell_b .nil (fun _ => .nil) (pax_cons (px_v 0 rfl rfl (.inr (.inl rfl)) (by decide) (by decide)) (pax_cons px_int pax_nil))) (pax_cons (PXO.px (pxo_lst (pax_cons px_int (pax_cons px_int (pax_cons px_int (pax_cons px_int (pax_cons px_int (pax_cons px_int (pax_cons (px_op op_pow od_pow px_int px_int) pax_nil))))))))) pax_nil))) rfl (.inl rfl) (fun shape_0 => nrm [some (.val script_0), some (.val shape_0), none, none, none, none, none, none, none, none, none, none, none, none, none, none, none, none, none] (pb_asg 2 C.nd rfl (.inl rfl) (px_ix ix_seq od_ix (PXO.px (pxo_lst (pax_cons px_int (pax_cons px_int (pax_cons px_int (pax_cons px_int (pax_cons px_int (pax_cons px_int pax_nil)))))))) (px_ix ix_seq od_ix (px_v 1 rfl rfl (.inr (.inl rfl)) (by decide) (by decide)) px_int (fun _ _ => rfl)) (fun _ _ => rfl)) rfl (.inl rfl) (fun many_0 => nrm [some (.val script_0), some (.val shape_0), some (.val many_0), none, none, none, none, none, none, none, none, none, none, none, none, none, none, none, none] (pb_asg 3 C.nd rfl (.inr rfl) (px_op op_mulAll od_rep (PXO.px (pxo_lst (pax_cons px_int pax_nil))) (px_v 2 rfl rfl (.inl rfl) (by decide) (by decide))) rfl (.inl rfl) (fun by_0 => nrm [some (.val script_0), some (.val shape_0), some (.val many_0), some (.val by_0), none, none, none, none, none, none, none, none, none, none, none, none, none, none, none] (pb_if_j (e' := fun (s_0 : D) => ([some (.val script_0), some (.val shape_0), some (.val many_0), some (.val s_0), none, none, none, none, none, none, none, none, none, none, none, none, none, none, none] : Env')) (ptx_cmp op_gt od_gt (px_ix ix_seq od_ix (px_v 1 rfl rfl (.inr (.inl rfl)) (by decide) (by decide)) px_int (fun _ _ => rfl)) px_int (nomark _)) (pb_asg 3 C.nd rfl (.inr rfl) (PXO.px (LcX.pxo (lcx_map (own := [("digit", 17)]) (pix_seq C.kk (px_call C (ok__law_digits S) hn__law_digits (by decide) (by rfl) S.h__law_digits S._law_digits_F.kp S._law_digits_b .nil (fun _ => .nil) (pax_cons (px_call C (ok__law_cell S) hn__law_cell (by decide) (by rfl) S.h__law_cell S._law_cell_F.kp S._law_cell_b .nil (fun _ => .nil) (pax_cons (px_v 0 rfl rfl (.inr (.inl rfl)) (by decide) (by decide)) (pax_cons px_int pax_nil))) (pax_cons (px_op op_mulAll od_rep (PXO.px (pxo_lst (pax_cons px_int pax_nil))) (px_v 2 rfl rfl (.inl rfl) (by decide) (by decide))) pax_nil)))) (fun _ _ _ _ _ => pgx_name 17 C.nd rfl (.inl rfl) (.inr rfl)) (by decide) (fun _ => ⟨_, rfl⟩) (fun _ _ _ _ _ digit_0 => nrmX [some (.val script_0), some (.val shape_0), some (.val many_0), some (.val by_0), none, none, none, none, none, none, none, none, none, none, none, none, none, some (.val digit_0), none] (px_op op_addAll od_add px_int (px_op op_fdivW od_div (px_callTy call_int1 cd_int (by rfl) S.n_int (by decide +kernel) (pax_cons (px_op op_mulAll od_rep (px_v (x := "digit") 17 rfl rfl (.inl rfl) (by decide) (by decide)) (px_v (x := "digit") 17 rfl rfl (.inl rfl) (by decide) (by decide))) pax_nil)) px_int)))) C.calm C.nd (blkOk_by (N := ["script", "shape", "many", "by", "grades", "due", "raw", "numbers", "worths", "made", "one", "two", "whole", "told", "k", "worth", "row", "digit", "grade"]) (sc := defScope s_law) (by decide +kernel)) (fun _ => rfl))) rfl (.inl rfl) (fun by_1 => nrm [some (.val script_0), some (.val shape_0), some (.val many_0), some (.val by_1), none, none, none, none, none, none, none, none, none, none, none, none, none, none, none] (pb_nilS (s := by_1) rfl (by simp [subE])))) (pb_nilS (s := by_0) rfl (by simp [subE])) (fun s_0 => nrm [some (.val script_0), some (.val shape_0), some (.val many_0), some (.val s_0), none, none, none, none, none, none, none, none, none, none, none, none, none, none, none] (pb_asgLcO 4 (lcx_map (own := [("k", 14)]) (pix_range1 (by rfl) S.n_range (pax_cons (px_v 2 rfl rfl (.inl rfl) (by decide) (by decide)) pax_nil)) (fun _ _ _ _ _ => pgx_name 14 C.nd rfl (.inl rfl) (.inr rfl)) (by decide) (fun _ => ⟨_, rfl⟩) (fun _ _ _ _ _ k_0 => nrmX [some (.val script_0), some (.val shape_0), some (.val many_0), some (.val s_0), none, none, none, none, none, none, none, none, none, none, some (.val k_0), none, none, none, none] (px_call (Ctx.blk C) (ok__law_raised S) hn__law_raised (by decide) (by rfl) S.h__law_raised S._law_raised_F.kp S._law_raised_b .nil (fun _ => .nil) (pax_cons (px_call (Ctx.blk C) (ok__law_grade S) hn__law_grade (by decide) (by rfl) S.h__law_grade S._law_grade_F.kp S._law_grade_b .nil (fun _ => .nil) (pax_cons (px_call (Ctx.blk C) (ok__law_cell S) hn__law_cell (by decide) (by rfl) S.h__law_cell S._law_cell_F.kp S._law_cell_b .nil (fun _ => .nil) (pax_cons (px_v (x := "script") 0 rfl rfl (.inr (.inl rfl)) (by decide) (by decide)) (pax_cons (px_op op_addAll od_add px_int (px_v (x := "k") 14 rfl rfl (.inl rfl) (by decide) (by decide))) pax_nil))) (pax_cons (px_cmpR (op_ltAll (Ctx.blk C).room.units0) od_lt (px_ix ix_seq od_ix (px_v (x := "shape") 1 rfl rfl (.inr (.inl rfl)) (by decide) (by decide)) px_int (fun _ _ => rfl)) px_int (nomark _)) pax_nil))) (pax_cons (px_ix ix_seq od_ix (px_v (x := "by") 3 rfl rfl (.inr (.inl rfl)) (by decide) (by decide)) (px_v (x := "k") 14 rfl rfl (.inl rfl) (by decide) (by decide)) (fun _ _ => rfl)) pax_nil))))) C.calm C.nd rfl rfl (sw_true rfl rfl rfl (by decide +kernel)) (blkOk_by (N := ["script", "shape", "many", "by", "grades", "due", "raw", "numbers", "worths", "made", "one", "two", "whole", "told", "k", "worth", "row", "digit", "grade"]) (sc := defScope s_law) (by decide +kernel)) (fun _ => rfl) (fun grades_0 => nrm [some (.val script_0), some (.val shape_0), some (.val many_0), some (.val s_0), some (.own grades_0), none, none, none, none, none, none, none, none, none, none, none, none, none, none] (pb_if_j (e' := fun (s_1 : List D) => ([some (.val script_0), some (.val shape_0), some (.val many_0), some (.val s_0), some (.own s_1), none, none, none, none, none, none, none, none, none, none, none, none, none, none] : Env')) (ptx_cmp (op_eqD C.room.units) od_eq (px_ix ix_seq od_ix (px_v 1 rfl rfl (.inr (.inl rfl)) (by decide) (by decide)) px_int (fun _ _ => rfl)) px_int (nomark _)) (pb_setitem 4 rfl (px_call C (ok__law_standing S) hn__law_standing (by decide) (by rfl) S.h__law_standing S._law_standing_F.kp S._law_standing_b .nil (fun _ => .nil) (pax_cons (px_ixo 4 C.kk rfl (pv 4 rfl (.inl rfl)) (px_op op_modN od_mod (px_callTy call_int1 cd_int (by rfl) S.n_int (by decide +kernel) (pax_cons (px_ix ix_seq od_ix (px_v 1 rfl rfl (.inr (.inl rfl)) (by decide) (by decide)) px_int (fun _ _ => rfl)) pax_nil)) (px_v 2 rfl rfl (.inl rfl) (by decide) (by decide))) (fun _ _ => rfl)) (pax_cons (px_ix ix_seq od_ix (px_v 1 rfl rfl (.inr (.inl rfl)) (by decide) (by decide)) px_int (fun _ _ => rfl)) pax_nil))) (px_op op_modN od_mod (px_callTy call_int1 cd_int (by rfl) S.n_int (by decide +kernel) (pax_cons (px_ix ix_seq od_ix (px_v 1 rfl rfl (.inr (.inl rfl)) (by decide) (by decide)) px_int (fun _ _ => rfl)) pax_nil)) (px_v 2 rfl rfl (.inl rfl) (by decide) (by decide))) (fun _ _ h h2 => ps_asg h (pg_sub (pv 4 rfl (.inl rfl)) h2 set_list)) (fun grades_1 => nrm [some (.val script_0), some (.val shape_0), some (.val many_0), some (.val s_0), some (.own grades_1), none, none, none, none, none, none, none, none, none, none, none, none, none, none] (pb_nilS (s := grades_1) rfl (by simp [subE])))) (pb_nilS (s := grades_0) rfl (by simp [subE])) (fun s_1 => nrm [some (.val script_0), some (.val shape_0), some (.val many_0), some (.val s_0), some (.own s_1), none, none, none, none, none, none, none, none, none, none, none, none, none, none] (pb_frz 4 rfl (nrm [some (.val script_0), some (.val shape_0), some (.val many_0), some (.val s_0), some (.val (.lst s_1)), none, none, none, none, none, none, none, none, none, none, none, none, none, none] (pb_asg 5 C.nd rfl (.inl rfl) (px_call C (ok__law_least_of_all S) hn__law_least_of_all (by decide) (by rfl) S.h__law_least_of_all S._law_least_of_all_F.kp S._law_least_of_all_b .nil (fun _ => .nil) (pax_cons (px_v 4 rfl rfl (.inl rfl) (by decide) (by decide)) pax_nil)) rfl (.inl rfl) (fun due_0 => nrm [some (.val script_0), some (.val shape_0), some (.val many_0), some (.val s_0), some (.val (.lst s_1)), some (.val due_0), none, none, none, none, none, none, none, none, none, none, none, none, none] (pb_asg 6 C.nd rfl (.inl rfl) (px_op op_mulAll od_rep (px_callB call_abs cd_abs (by rfl) S.n_abs (by decide +kernel) (pax_cons (px_callTy call_int1 cd_int (by rfl) S.n_int (by decide +kernel) (pax_cons (px_call C (ok__law_cell S) hn__law_cell (by decide) (by rfl) S.h__law_cell S._law_cell_F.kp S._law_cell_b .nil (fun _ => .nil) (pax_cons (px_v 0 rfl rfl (.inr (.inl rfl)) (by decide) (by decide)) (pax_cons px_int pax_nil))) pax_nil)) pax_nil)) (px_ix ix_seq od_ix (PXO.px (pxo_lst (pax_cons px_int (pax_cons (px_op op_pow od_pow px_int px_int) pax_nil)))) (px_op op_modN od_mod (px_callTy call_int1 cd_int (by rfl) S.n_int (by decide +kernel) (pax_cons (px_ix ix_seq od_ix (px_v 1 rfl rfl (.inr (.inl rfl)) (by decide) (by decide)) px_int (fun _ _ => rfl)) pax_nil)) px_int) (fun _ _ => rfl))) rfl (.inl rfl) (fun raw_0 => nrm [some (.val script_0), some (.val shape_0), some (.val many_0), some (.val s_0), some (.val (.lst s_1)), some (.val due_0), some (.val raw_0), none, none, none, none, none, none, none, none, none, none, none, none] (pb_asg 7 C.nd rfl (.inl rfl) (px_op op_addAll od_add (PXO.px (pxo_listRg1 C.calm (by rfl) S.n_list (by rfl) S.n_range (px_op op_addAll od_add (px_callB call_len cd_len (by rfl) S.n_len PySem.boot_len (pax_cons (px_ix ix_seq od_ix (px_v 5 rfl rfl (.inl rfl) (by decide) (by decide)) px_int (fun _ _ => rfl)) pax_nil)) px_int))) (PXO.px (pxo_lst (pax_cons (px_op op_addAll od_add (px_op op_pow od_pow px_int px_int) (px_op op_modN od_mod (px_callTy call_int1 cd_int (by rfl) S.n_int (by decide +kernel) (pax_cons (px_ix ix_seq od_ix (px_v 1 rfl rfl (.inr (.inl rfl)) (by decide) (by decide)) px_int (fun _ _ => rfl)) pax_nil)) px_int)) (pax_cons (px_op op_addAll od_add (px_op op_pow od_pow px_int px_int) (px_ix ix_seq od_ix (px_v 1 rfl rfl (.inr (.inl rfl)) (by decide) (by decide)) px_int (fun _ _ => rfl))) (pax_cons (px_op op_pow od_pow px_int px_int) (pax_cons (px_v 6 rfl rfl (.inl rfl) (by decide) (by decide)) pax_nil))))))) rfl (.inl rfl) (fun numbers_0 => nrm [some (.val script_0), some (.val shape_0), some (.val many_0), some (.val s_0), some (.val (.lst s_1)), some (.val due_0), some (.val raw_0), some (.val numbers_0), none, none, none, none, none, none, none, none, none, none, none] (pb_asg 8 C.nd rfl (.inl rfl) (px_op op_addAll od_add (px_v 7 rfl rfl (.inl rfl) (by decide) (by decide)) (PXO.px (pxo_lst (pax_cons px_non pax_nil)))) rfl (.inl rfl) (fun worths_0 => nrm [some (.val script_0), some (.val shape_0), some (.val many_0), some (.val s_0), some (.val (.lst s_1)), some (.val due_0), some (.val raw_0), some (.val numbers_0), some (.val worths_0), none, none, none, none, none, none, none, none, none, none] (pb_asgLc 9 (lcx_map (own := [("grade", 18)]) (pix_seq C.kk (px_v 4 rfl rfl (.inl rfl) (by decide) (by decide))) (fun _ _ _ _ _ => pgx_name 18 C.nd rfl (.inl rfl) (.inr rfl)) (by decide) (fun _ => ⟨_, rfl⟩) (fun _ _ _ _ _ grade_0 => nrmX [some (.val script_0), some (.val shape_0), some (.val many_0), some (.val s_0), some (.val (.lst s_1)), some (.val due_0), some (.val raw_0), some (.val numbers_0), some (.val worths_0), none, none, none, none, none, none, none, none, none, some (.val grade_0)] (px_makeN (Ctx.blk C) S.mk_Grade rfl (ok_Grade_init S) hn_Grade_init (by decide) (by rfl) S.h_Grade S.Grade_init_b .nil (fun _ => .nil) (pax_cons (PXO.px (pxo_list (Ctx.blk C).kk (by rfl) S.n_list (pax_cons (px_ix ix_seq od_ix (px_v (x := "grade") 18 rfl rfl (.inl rfl) (by decide) (by decide)) px_int (fun _ _ => rfl)) pax_nil))) (pax_cons (px_ix ix_seq od_ix (px_v (x := "grade") 18 rfl rfl (.inl rfl) (by decide) (by decide)) px_int (fun _ _ => rfl)) pax_nil))))) C.calm C.nd rfl rfl (sw_true rfl rfl rfl (by decide +kernel)) (blkOk_by (N := ["script", "shape", "many", "by", "grades", "due", "raw", "numbers", "worths", "made", "one", "two", "whole", "told", "k", "worth", "row", "digit", "grade"]) (sc := defScope s_law) (by decide +kernel)) (fun _ => rfl) (fun made_0 => nrm [some (.val script_0), some (.val shape_0), some (.val many_0), some (.val s_0), some (.val (.lst s_1)), some (.val due_0), some (.val raw_0), some (.val numbers_0), some (.val worths_0), some (.val made_0), none, none, none, none, none, none, none, none, none] (pb_asg 10 C.nd rfl (.inl rfl) (px_call C (ok__law_grouped S) hn__law_grouped (by decide) (by rfl) S.h__law_grouped S._law_grouped_F.kp S._law_grouped_b .nil (fun _ => .nil) (pax_cons (px_v 9 rfl rfl (.inl rfl) (by decide) (by decide)) (pax_cons (px_call C (ok__law_digits S) hn__law_digits (by decide) (by rfl) S.h__law_digits S._law_digits_F.kp S._law_digits_b .nil (fun _ => .nil) (pax_cons (px_call C (ok__law_cell S) hn__law_cell (by decide) (by rfl) S.h__law_cell S._law_cell_F.kp S._law_cell_b .nil (fun _ => .nil) (pax_cons (px_v 0 rfl rfl (.inr (.inl rfl)) (by decide) (by decide)) (pax_cons px_int pax_nil))) (pax_cons (px_op op_mulAll od_rep (PXO.px (pxo_lst (pax_cons px_int pax_nil))) (px_op op_mulAll od_rep px_int (px_v 2 rfl rfl (.inl rfl) (by decide) (by decide)))) pax_nil))) pax_nil))) rfl (.inl rfl) (fun one_0 => nrm [some (.val script_0), some (.val shape_0), some (.val many_0), some (.val s_0), some (.val (.lst s_1)), some (.val due_0), some (.val raw_0), some (.val numbers_0), some (.val worths_0), some (.val made_0), some (.val one_0), none, none, none, none, none, none, none, none] (pb_asg 11 C.nd rfl (.inl rfl) (px_call C (ok__law_grouped S) hn__law_grouped (by decide) (by rfl) S.h__law_grouped S._law_grouped_F.kp S._law_grouped_b .nil (fun _ => .nil) (pax_cons (px_v 9 rfl rfl (.inl rfl) (by decide) (by decide)) (pax_cons (px_call C (ok__law_digits S) hn__law_digits (by decide) (by rfl) S.h__law_digits S._law_digits_F.kp S._law_digits_b .nil (fun _ => .nil) (pax_cons (px_call C (ok__law_cell S) hn__law_cell (by decide) (by rfl) S.h__law_cell S._law_cell_F.kp S._law_cell_b .nil (fun _ => .nil) (pax_cons (px_v 0 rfl rfl (.inr (.inl rfl)) (by decide) (by decide)) (pax_cons px_int pax_nil))) (pax_cons (px_op op_mulAll od_rep (PXO.px (pxo_lst (pax_cons px_int pax_nil))) (px_op op_mulAll od_rep px_int (px_v 2 rfl rfl (.inl rfl) (by decide) (by decide)))) pax_nil))) pax_nil))) rfl (.inl rfl) (fun two_0 => nrm [some (.val script_0), some (.val shape_0), some (.val many_0), some (.val s_0), some (.val (.lst s_1)), some (.val due_0), some (.val raw_0), some (.val numbers_0), some (.val worths_0), some (.val made_0), some (.val one_0), some (.val two_0), none, none, none, none, none, none, none] (pb_for (e1 := (fun (s_2 : Unit) => ([some (.val script_0), some (.val shape_0), some (.val many_0), some (.val s_0), some (.val (.lst s_1)), some (.val due_0), some (.val raw_0), some (.val numbers_0), some (.val worths_0), some (.val made_0), some (.val one_0), some (.val two_0), none, none, none, none, none, none, none] : Env'))) (s0 := ()) (r := (fun d => .ok d)) C.po C.calm (pix_seq C.kk (PXO.px (pxo_lst (pax_cons (px_v 10 rfl rfl (.inl rfl) (by decide) (by decide)) (pax_cons (px_v 11 rfl rfl (.inl rfl) (by decide) (by decide)) (pax_cons (px_own2 (op := .BitOr) C S.sf_Grade S.Grade_or_at S.Grade_or_fn rfl (ok_Grade_or S) hn_Grade_or (by decide) S.Grade_or_b (px_v 10 rfl rfl (.inl rfl) (by decide) (by decide)) (px_v 10 rfl rfl (.inl rfl) (by decide) (by decide))) (pax_cons (px_own2 (op := .BitOr) C S.sf_Grade S.Grade_or_at S.Grade_or_fn rfl (ok_Grade_or S) hn_Grade_or (by decide) S.Grade_or_b (px_v 10 rfl rfl (.inl rfl) (by decide) (by decide)) (px_makeN C S.mk_Grade rfl (ok_Grade_init S) hn_Grade_init (by decide) (by rfl) S.h_Grade S.Grade_init_b .nil (fun _ => .nil) (pax_cons (px_tup pax_nil) (pax_cons px_non pax_nil)))) (pax_cons (px_own2 (op := .BitOr) C S.sf_Grade S.Grade_or_at S.Grade_or_fn rfl (ok_Grade_or S) hn_Grade_or (by decide) S.Grade_or_b (px_makeN C S.mk_Grade rfl (ok_Grade_init S) hn_Grade_init (by decide) (by rfl) S.h_Grade S.Grade_init_b .nil (fun _ => .nil) (pax_cons (PXO.px (pxo_lst pax_nil)) (pax_cons px_non pax_nil))) (px_v 11 rfl rfl (.inl rfl) (by decide) (by decide))) (pax_cons (px_own2 (op := .BitOr) C S.sf_Grade S.Grade_or_at S.Grade_or_fn rfl (ok_Grade_or S) hn_Grade_or (by decide) S.Grade_or_b (px_v 10 rfl rfl (.inl rfl) (by decide) (by decide)) (px_ix ix_seq od_ix (px_v 9 rfl rfl (.inl rfl) (by decide) (by decide)) (px_op op_sub od_sub (px_v 2 rfl rfl (.inl rfl) (by decide) (by decide)) px_int) (fun _ _ => rfl))) pax_nil))))))))) (pgx_name 12 C.nd rfl (.inl rfl) (.inl rfl)) (by simp [subE]) (fun s_2 whole_0 => nrm [some (.val script_0), some (.val shape_0), some (.val many_0), some (.val s_0), some (.val (.lst s_1)), some (.val due_0), some (.val raw_0), some (.val numbers_0), some (.val worths_0), some (.val made_0), some (.val one_0), some (.val two_0), some (.val whole_0), none, none, none, none, none, none] (pb_if_x0 (PWX.pt (pwx_or (ptx_not (ptx_tru C.kk (px_call C (ok__law_tells S) hn__law_tells (by decide) (by rfl) S.h__law_tells S._law_tells_F.kp S._law_tells_b .nil (fun _ => .nil) (pax_cons (px_v 12 rfl rfl (.inl rfl) (by decide) (by decide)) (pax_cons (px_v 5 rfl rfl (.inl rfl) (by decide) (by decide)) (pax_cons (px_v 8 rfl rfl (.inl rfl) (by decide) (by decide)) pax_nil)))) (fun _ => rfl))) (pwx_or1 (ptx_not (ptx_tru C.kk (px_call C (ok__law_equal S) hn__law_equal (by decide) (by rfl) S.h__law_equal S._law_equal_F.kp S._law_equal_b .nil (fun _ => .nil) (pax_cons (px_v 12 rfl rfl (.inl rfl) (by decide) (by decide)) (pax_cons (px_v 10 rfl rfl (.inl rfl) (by decide) (by decide)) pax_nil))) (fun _ => rfl)))))) (pb_ret (r := Fl.rt) (fun _ => rfl) px_bl) (pb_if_x0 (ptx_not (ptx_tru C.kk (px_call C (ok__law_stands_where_one S) hn__law_stands_where_one (by decide) (by rfl) S.h__law_stands_where_one S._law_stands_where_one_F.kp S._law_stands_where_one_b .nil (fun _ => .nil) (pax_cons (px_v 12 rfl rfl (.inl rfl) (by decide) (by decide)) (pax_cons (px_v 4 rfl rfl (.inl rfl) (by decide) (by decide)) (pax_cons (px_v 7 rfl rfl (.inl rfl) (by decide) (by decide)) pax_nil)))) (fun _ => rfl))) (pb_ret (r := Fl.rt) (fun _ => rfl) px_bl) (pb_nilS (s := ()) rfl (by simp [subE]))))) (fun d => .inr ⟨_, rfl, rfl⟩) (fun s_2 => nrm [some (.val script_0), some (.val shape_0), some (.val many_0), some (.val s_0), some (.val (.lst s_1)), some (.val due_0), some (.val raw_0), some (.val numbers_0), some (.val worths_0), some (.val made_0), some (.val one_0), some (.val two_0), none, none, none, none, none, none, none] (pb_for (e1 := (fun (s_3 : Unit) => ([some (.val script_0), some (.val shape_0), some (.val many_0), some (.val s_0), some (.val (.lst s_1)), some (.val due_0), some (.val raw_0), some (.val numbers_0), some (.val worths_0), some (.val made_0), some (.val one_0), some (.val two_0), none, none, none, none, none, none, none] : Env'))) (s0 := ()) (r := (fun d => .ok d)) C.po C.calm (pix_seq C.kk (PXO.px (pxo_lst (pax_cons (px_own2 (op := .BitOr) C S.sf_Grade S.Grade_or_at S.Grade_or_fn rfl (ok_Grade_or S) hn_Grade_or (by decide) S.Grade_or_b (px_v 10 rfl rfl (.inl rfl) (by decide) (by decide)) (px_make0 C S.mk_Grade rfl (ok_Grade_init S) hn_Grade_init (by decide) (by rfl) S.h_Grade S.Grade_init_b1 S.Grade_init_d1 (S.Grade_init_r1))) (pax_cons (px_own2 (op := .BitOr) C S.sf_Grade S.Grade_or_at S.Grade_or_fn rfl (ok_Grade_or S) hn_Grade_or (by decide) S.Grade_or_b (px_makeN C S.mk_Grade rfl (ok_Grade_init S) hn_Grade_init (by decide) (by rfl) S.h_Grade S.Grade_init_b .nil (fun _ => .nil) (pax_cons (PXO.px (pxo_lst pax_nil)) (pax_cons px_int pax_nil))) (px_v 11 rfl rfl (.inl rfl) (by decide) (by decide))) pax_nil))))) (pgx_name 12 C.nd rfl (.inl rfl) (.inl rfl)) (by simp [subE]) (fun s_3 whole_1 => nrm [some (.val script_0), some (.val shape_0), some (.val many_0), some (.val s_0), some (.val (.lst s_1)), some (.val due_0), some (.val raw_0), some (.val numbers_0), some (.val worths_0), some (.val made_0), some (.val one_0), some (.val two_0), some (.val whole_1), none, none, none, none, none, none] (pb_if_x0 (PWX.pt (pwx_or (ptx_not (ptx_tru C.kk (px_call C (ok__law_tells S) hn__law_tells (by decide) (by rfl) S.h__law_tells S._law_tells_F.kp S._law_tells_b .nil (fun _ => .nil) (pax_cons (px_v 12 rfl rfl (.inl rfl) (by decide) (by decide)) (pax_cons (PXO.px (pxo_lst (pax_cons (PXO.px (pxo_lst pax_nil)) (pax_cons px_int pax_nil)))) (pax_cons (px_v 8 rfl rfl (.inl rfl) (by decide) (by decide)) pax_nil)))) (fun _ => rfl))) (pwx_or1 (ptx_not (ptx_tru C.kk (px_call C (ok__law_stands_where_one S) hn__law_stands_where_one (by decide) (by rfl) S.h__law_stands_where_one S._law_stands_where_one_F.kp S._law_stands_where_one_b .nil (fun _ => .nil) (pax_cons (px_v 12 rfl rfl (.inl rfl) (by decide) (by decide)) (pax_cons (PXO.px (pxo_lst (pax_cons (PXO.px (pxo_lst (pax_cons (PXO.px (pxo_lst pax_nil)) (pax_cons px_int pax_nil)))) pax_nil))) (pax_cons (px_v 7 rfl rfl (.inl rfl) (by decide) (by decide)) pax_nil)))) (fun _ => rfl)))))) (pb_ret (r := Fl.rt) (fun _ => rfl) px_bl) (pb_nilS (s := ()) rfl (by simp [subE])))) (fun d => .inr ⟨_, rfl, rfl⟩) (fun s_3 => nrm [some (.val script_0), some (.val shape_0), some (.val many_0), some (.val s_0), some (.val (.lst s_1)), some (.val due_0), some (.val raw_0), some (.val numbers_0), some (.val worths_0), some (.val made_0), some (.val one_0), some (.val two_0), none, none, none, none, none, none, none] (pb_asg 13 C.nd rfl (.inl rfl) (px_call C (ok__law_expression S) hn__law_expression (by decide) (by rfl) S.h__law_expression S._law_expression_F.kp S._law_expression_b .nil (fun _ => .nil) (pax_cons (px_v 9 rfl rfl (.inl rfl) (by decide) (by decide)) (pax_cons (px_v 4 rfl rfl (.inl rfl) (by decide) (by decide)) (pax_cons (px_call C (ok__law_digits S) hn__law_digits (by decide) (by rfl) S.h__law_digits S._law_digits_F.kp S._law_digits_b .nil (fun _ => .nil) (pax_cons (px_call C (ok__law_cell S) hn__law_cell (by decide) (by rfl) S.h__law_cell S._law_cell_F.kp S._law_cell_b .nil (fun _ => .nil) (pax_cons (px_v 0 rfl rfl (.inr (.inl rfl)) (by decide) (by decide)) (pax_cons px_int pax_nil))) (pax_cons (px_op op_mulAll od_rep (PXO.px (pxo_lst (pax_cons px_int pax_nil))) (px_v 2 rfl rfl (.inl rfl) (by decide) (by decide))) pax_nil))) pax_nil)))) rfl (.inl rfl) (fun told_0 => nrm [some (.val script_0), some (.val shape_0), some (.val many_0), some (.val s_0), some (.val (.lst s_1)), some (.val due_0), some (.val raw_0), some (.val numbers_0), some (.val worths_0), some (.val made_0), some (.val one_0), some (.val two_0), none, some (.val told_0), none, none, none, none, none] (pb_if_x0 (PWX.pt (pwx_or (ptx_not (ptx_tru C.kk (px_call C (ok__law_tells S) hn__law_tells (by decide) (by rfl) S.h__law_tells S._law_tells_F.kp S._law_tells_b .nil (fun _ => .nil) (pax_cons (px_ix ix_seq od_ix (px_v 13 rfl rfl (.inl rfl) (by decide) (by decide)) px_int (fun _ _ => rfl)) (pax_cons (px_ix ix_seq od_ix (px_v 13 rfl rfl (.inl rfl) (by decide) (by decide)) px_int (fun _ _ => rfl)) (pax_cons (px_v 8 rfl rfl (.inl rfl) (by decide) (by decide)) pax_nil)))) (fun _ => rfl))) (pwx_or1 (ptx_not (ptx_tru C.kk (px_call C (ok__law_stands_where_one S) hn__law_stands_where_one (by decide) (by rfl) S.h__law_stands_where_one S._law_stands_where_one_F.kp S._law_stands_where_one_b .nil (fun _ => .nil) (pax_cons (px_ix ix_seq od_ix (px_v 13 rfl rfl (.inl rfl) (by decide) (by decide)) px_int (fun _ _ => rfl)) (pax_cons (PXO.px (pxo_lst (pax_cons (px_ix ix_seq od_ix (px_v 13 rfl rfl (.inl rfl) (by decide) (by decide)) px_int (fun _ _ => rfl)) pax_nil))) (pax_cons (px_v 7 rfl rfl (.inl rfl) (by decide) (by decide)) pax_nil)))) (fun _ => rfl)))))) (pb_retD (fun _ => rfl) px_bl) (pb_if_x0 (ptx_not (ptx_tru C.kk (px_call C (ok__law_goes_over S) hn__law_goes_over (by decide) (by rfl) S.h__law_goes_over S._law_goes_over_F.kp S._law_goes_over_b .nil (fun _ => .nil) (pax_cons (px_v 9 rfl rfl (.inl rfl) (by decide) (by decide)) (pax_cons (px_v 4 rfl rfl (.inl rfl) (by decide) (by decide)) (pax_cons (px_v 8 rfl rfl (.inl rfl) (by decide) (by decide)) pax_nil)))) (fun _ => rfl))) (pb_retD (fun _ => rfl) px_bl) (pb_if_x0 (ptx_not (ptx_tru C.kk (px_call C (ok__law_goes_over S) hn__law_goes_over (by decide) (by rfl) S.h__law_goes_over S._law_goes_over_F.kp S._law_goes_over_b .nil (fun _ => .nil) (pax_cons (px_op op_addAll od_add (px_slice C.kk (px_v 9 rfl rfl (.inl rfl) (by decide) (by decide)) (pox_some px_int) pox_none) (px_slice C.kk (px_v 9 rfl rfl (.inl rfl) (by decide) (by decide)) pox_none (pox_some px_int))) (pax_cons (px_op op_addAll od_add (px_slice C.kk (px_v 4 rfl rfl (.inl rfl) (by decide) (by decide)) (pox_some px_int) pox_none) (px_slice C.kk (px_v 4 rfl rfl (.inl rfl) (by decide) (by decide)) pox_none (pox_some px_int))) (pax_cons (px_v 8 rfl rfl (.inl rfl) (by decide) (by decide)) pax_nil)))) (fun _ => rfl))) (pb_retD (fun _ => rfl) px_bl) (pb_for (e1 := (fun (s_4 : Unit) => ([some (.val script_0), some (.val shape_0), some (.val many_0), some (.val s_0), some (.val (.lst s_1)), some (.val due_0), some (.val raw_0), some (.val numbers_0), some (.val worths_0), some (.val made_0), some (.val one_0), some (.val two_0), none, some (.val told_0), none, none, none, none, none] : Env'))) (s0 := ()) (r := (fun d => .ok d)) C.po C.calm (pix_range1 (by rfl) S.n_range (pax_cons (px_v 2 rfl rfl (.inl rfl) (by decide) (by decide)) pax_nil)) (pgx_name 14 C.nd rfl (.inl rfl) (.inl rfl)) (by simp [subE]) (fun s_4 k_1 => nrm [some (.val script_0), some (.val shape_0), some (.val many_0), some (.val s_0), some (.val (.lst s_1)), some (.val due_0), some (.val raw_0), some (.val numbers_0), some (.val worths_0), some (.val made_0), some (.val one_0), some (.val two_0), none, some (.val told_0), some (.val k_1), none, none, none, none] (pb_if_x0 (ptx_not (ptx_tru C.kk (px_call C (ok__law_tells S) hn__law_tells (by decide) (by rfl) S.h__law_tells S._law_tells_F.kp S._law_tells_b .nil (fun _ => .nil) (pax_cons (px_ix ix_seq od_ix (px_v 9 rfl rfl (.inl rfl) (by decide) (by decide)) (px_v 14 rfl rfl (.inl rfl) (by decide) (by decide)) (fun _ _ => rfl)) (pax_cons (px_ix ix_seq od_ix (px_v 4 rfl rfl (.inl rfl) (by decide) (by decide)) (px_v 14 rfl rfl (.inl rfl) (by decide) (by decide)) (fun _ _ => rfl)) (pax_cons (px_v 8 rfl rfl (.inl rfl) (by decide) (by decide)) pax_nil)))) (fun _ => rfl))) (pb_ret (r := Fl.rt) (fun _ => rfl) px_bl) (pb_nilS (s := ()) rfl (by simp [subE])))) (fun d => .inr ⟨_, rfl, rfl⟩) (fun s_4 => nrm [some (.val script_0), some (.val shape_0), some (.val many_0), some (.val s_0), some (.val (.lst s_1)), some (.val due_0), some (.val raw_0), some (.val numbers_0), some (.val worths_0), some (.val made_0), some (.val one_0), some (.val two_0), none, some (.val told_0), none, none, none, none, none] (pb_for (e1 := (fun (s_5 : Unit) => ([some (.val script_0), some (.val shape_0), some (.val many_0), some (.val s_0), some (.val (.lst s_1)), some (.val due_0), some (.val raw_0), some (.val numbers_0), some (.val worths_0), some (.val made_0), some (.val one_0), some (.val two_0), none, some (.val told_0), none, none, none, none, none] : Env'))) (s0 := ()) (r := (fun d => .ok d)) C.po C.calm (pix_seq C.kk (px_v 8 rfl rfl (.inl rfl) (by decide) (by decide))) (pgx_name 15 C.nd rfl (.inr rfl) (.inl rfl)) (by simp [subE]) (fun s_5 worth_0 => nrm [some (.val script_0), some (.val shape_0), some (.val many_0), some (.val s_0), some (.val (.lst s_1)), some (.val due_0), some (.val raw_0), some (.val numbers_0), some (.val worths_0), some (.val made_0), some (.val one_0), some (.val two_0), none, some (.val told_0), none, some (.val worth_0), none, none, none] (pb_asgLc 16 (lcx_map (own := [("grade", 18)]) (pix_seq C.kk (px_v 4 rfl rfl (.inl rfl) (by decide) (by decide))) (fun _ _ _ _ _ => pgx_name 18 C.nd rfl (.inl rfl) (.inr rfl)) (by decide) (fun _ => ⟨_, rfl⟩) (fun _ _ _ _ _ grade_1 => nrmX [some (.val script_0), some (.val shape_0), some (.val many_0), some (.val s_0), some (.val (.lst s_1)), some (.val due_0), some (.val raw_0), some (.val numbers_0), some (.val worths_0), some (.val made_0), some (.val one_0), some (.val two_0), none, some (.val told_0), none, some (.val worth_0), none, none, some (.val grade_1)] (px_call (Ctx.blk C) (ok__law_at S) hn__law_at (by decide) (by rfl) S.h__law_at S._law_at_F.kp S._law_at_b .nil (fun _ => .nil) (pax_cons (px_v (x := "grade") 18 rfl rfl (.inl rfl) (by decide) (by decide)) (pax_cons (px_v (x := "worth") 15 rfl rfl (.inr (.inl rfl)) (by decide) (by decide)) pax_nil))))) C.calm C.nd rfl rfl (sw_true rfl rfl rfl (by decide +kernel)) (blkOk_by (N := ["script", "shape", "many", "by", "grades", "due", "raw", "numbers", "worths", "made", "one", "two", "whole", "told", "k", "worth", "row", "digit", "grade"]) (sc := defScope s_law) (by decide +kernel)) (fun _ => rfl) (fun row_0 => nrm [some (.val script_0), some (.val shape_0), some (.val many_0), some (.val s_0), some (.val (.lst s_1)), some (.val due_0), some (.val raw_0), some (.val numbers_0), some (.val worths_0), some (.val made_0), some (.val one_0), some (.val two_0), none, some (.val told_0), none, some (.val worth_0), some (.val row_0), none, none] (pb_if_x0 (PWX.pt (pwx_or (ptx_not (ptx_tru C.kk (px_call C (ok__law_row_told S) hn__law_row_told (by decide) (by rfl) S.h__law_row_told S._law_row_told_F.kp S._law_row_told_b .nil (fun _ => .nil) (pax_cons (px_v 16 rfl rfl (.inl rfl) (by decide) (by decide)) pax_nil)) (fun _ => rfl))) (pwx_or (ptx_not (ptx_tru C.kk (px_call C (ok__law_row_told S) hn__law_row_told (by decide) (by rfl) S.h__law_row_told S._law_row_told_F.kp S._law_row_told_b .nil (fun _ => .nil) (pax_cons (px_op op_addAll od_add (PXO.px (pxo_lst (pax_cons (px_v 15 rfl rfl (.inr (.inl rfl)) (by decide) (by decide)) pax_nil))) (px_slice C.kk (px_v 16 rfl rfl (.inl rfl) (by decide) (by decide)) pox_none (pox_some px_int))) pax_nil)) (fun _ => rfl))) (pwx_or1 (ptx_not (ptx_tru C.kk (px_call C (ok__law_order_told S) hn__law_order_told (by decide) (by rfl) S.h__law_order_told S._law_order_told_F.kp S._law_order_told_b .nil (fun _ => .nil) (pax_cons (px_op op_addAll od_add (px_v 16 rfl rfl (.inl rfl) (by decide) (by decide)) (PXO.px (pxo_lst (pax_cons (px_v 15 rfl rfl (.inr (.inl rfl)) (by decide) (by decide)) pax_nil)))) pax_nil)) (fun _ => rfl))))))) (pb_ret (r := Fl.rt) (fun _ => rfl) px_bl) (pb_nilS (s := ()) rfl (by simp [subE])))))) (fun d => .inr ⟨_, rfl, rfl⟩) (fun s_5 => nrm [some (.val script_0), some (.val shape_0), some (.val many_0), some (.val s_0), some (.val (.lst s_1)), some (.val due_0), some (.val raw_0), some (.val numbers_0), some (.val worths_0), some (.val made_0), some (.val one_0), some (.val two_0), none, some (.val told_0), none, none, none, none, none] (pb_if_x0 (PWX.pt (pwx_or (ptx_not (ptx_tru C.kk (px_call C (ok__law_long_rows_told S) hn__law_long_rows_told (by decide) (by rfl) S.h__law_long_rows_told S._law_long_rows_told_F.kp S._law_long_rows_told_b .nil (fun _ => .nil) (pax_cons (px_v 4 rfl rfl (.inl rfl) (by decide) (by decide)) (pax_cons (px_v 7 rfl rfl (.inl rfl) (by decide) (by decide)) pax_nil))) (fun _ => rfl))) (pwx_or1 (ptx_not (ptx_tru C.kk (px_call C (ok__law_row_told S) hn__law_row_told (by decide) (by rfl) S.h__law_row_told S._law_row_told_F.kp S._law_row_told_b .nil (fun _ => .nil) (pax_cons (px_call C (ok__law_great_row S) hn__law_great_row (by decide) (by rfl) S.h__law_great_row S._law_great_row_F.kp S._law_great_row_b .nil (fun _ => .nil) (pax_cons (px_call C (ok__law_cell S) hn__law_cell (by decide) (by rfl) S.h__law_cell S._law_cell_F.kp S._law_cell_b .nil (fun _ => .nil) (pax_cons (px_v 0 rfl rfl (.inr (.inl rfl)) (by decide) (by decide)) (pax_cons px_int pax_nil))) pax_nil)) pax_nil)) (fun _ => rfl)))))) (pb_retD (fun _ => rfl) px_bl) (pb_retD (fun _ => rfl) (px_and (px_call C (ok__law_row_told S) hn__law_row_told (by decide) (by rfl) S.h__law_row_told S._law_row_told_F.kp S._law_row_told_b .nil (fun _ => .nil) (pax_cons (PXO.px (pxo_lst pax_nil)) pax_nil)) (px_and (px_call C (ok__law_row_told S) hn__law_row_told (by decide) (by rfl) S.h__law_row_told S._law_row_told_F.kp S._law_row_told_b .nil (fun _ => .nil) (pax_cons (PXO.px (pxo_lst (pax_cons px_non pax_nil))) pax_nil)) (px_and (px_call C (ok__law_row_told S) hn__law_row_told (by decide) (by rfl) S.h__law_row_told S._law_row_told_F.kp S._law_row_told_b .nil (fun _ => .nil) (pax_cons (PXO.px (pxo_lst (pax_cons px_non (pax_cons px_non pax_nil)))) pax_nil)) (px_one (px_call C (ok__law_tells S) hn__law_tells (by decide) (by rfl) S.h__law_tells S._law_tells_F.kp S._law_tells_b .nil (fun _ => .nil) (pax_cons (px_v 10 rfl rfl (.inl rfl) (by decide) (by decide)) (pax_cons (px_v 5 rfl rfl (.inl rfl) (by decide) (by decide)) (pax_cons (px_v 8 rfl rfl (.inl rfl) (by decide) (by decide)) pax_nil))))))))))) (fun _ => rfl))) (fun _ => rfl)))))))) (fun _ => rfl))) (fun _ => rfl))))))))))))))))))))))))))))))
end K03

namespace K03
open PySem PySem.Spec PyProof.Rows L2 Px
/-! ### what a table and "more" lead to -/
abbrev Wt := Option Int
def bey (n : Int) (m : Wt) : Wt := m.map (n + ·)
def ledF (t : List Wt) (m : Wt) : Wt → Wt
  | none => none
  | some i => if i < t.length then (t[i.toNat]?).join else bey i m
def nn (w : Wt) : Prop := ∀ i, w = some i → 0 ≤ i
/-- a table as a list or a tuple -/
def sq (b : Bool) (l : List D) : D := if b then .tup l else .lst l
theorem len_sq (b : Bool) (l : List D) : lenD [sq b l] = some (.int l.length) := by cases b <;> rfl
theorem ix_sq {b : Bool} {l : List D} {n : Nat} {d : D} (h : l[n]? = some d) : ixD (sq b l) (.int n) = some d := by
  cases b
  · exact ix_lst h
  · exact ix_tup' h
theorem beyond_ok (n : Int) (m : Wt) : m_beyond [.int n, W m] = .ok (W (bey n m)) := by
  cases m <;> simp [m_beyond, b_beyond, bey]
theorem led_ok {b : Bool} {t : List Wt} {m w : Wt} (hw : nn w) : m_led [sq b (t.map W), W m, W w] = .ok (W (ledF t m w)) := by
  cases w with
  | none => simp [m_led, b_led, ledF]
  | some i =>
    have h0 : 0 ≤ i := hw i rfl
    by_cases h : i < t.length
    · obtain ⟨n, rfl⟩ := Int.eq_ofNat_of_zero_le h0
      have hn : n < t.length := by omega
      have hg : (t.map W)[n]? = some (W t[n]) := by rw [List.getElem?_map, List.getElem?_eq_getElem hn]; rfl
      simp [m_led, b_led, ledF, len_sq, h, ix_sq hg, hn]
    · simp [m_led, b_led, ledF, len_sq, h, beyond_ok]
theorem whole_W (w : Wt) : m_is_whole [W w] = .ok (.bl w.isSome) := by cases w <;> simp [m_is_whole, b_is_whole, isiD, isBT]
theorem number_W (w : Wt) (h : nn w) : m_is_number [W w] = .ok (.bl w.isSome) := by
  cases w with
  | none => simp [m_is_number, b_is_number, show m_is_whole [D.non] = .ok (.bl false) from whole_W none]
  | some i =>
    have := h i rfl
    simp [m_is_number, b_is_number, show m_is_whole [D.int i] = .ok (.bl true) from whole_W (some i), this]
theorem worth_W (w : Wt) (h : nn w) : m_is_worth [W w] = .ok (.bl true) := by
  cases w with
  | none => simp [m_is_worth, b_is_worth]
  | some i => simp [m_is_worth, b_is_worth, show m_is_number [D.int i] = .ok (.bl true) from number_W (some i) h]
/-- strictly before -/
def bef : Wt → Wt → Bool
  | none, _ => false
  | some _, none => true
  | some i, some j => decide (i < j)
theorem rank_W (w : Wt) : m_rank_of [W w] = .ok (match w with | none => .tup [.int 1, .int 0] | some i => .tup [.int 0, .int i]) := by
  cases w <;> simp [m_rank_of, b_rank_of, tupR_ok]
theorem before_W (a b : Wt) : m_is_before [W a, W b] = .ok (.bl (bef a b)) := by
  simp only [m_is_before, b_is_before, consR_ok, callR_ok, List.append_nil, rank_W]
  cases a <;> cases b <;> simp [ltD, toInts, HT.lexLt, bef]
  omega
def leW (a b : Wt) : Prop := bef b a = false
theorem leW_refl (a : Wt) : leW a a := by cases a <;> simp [leW, bef]
theorem leW_trans {a b c : Wt} (h : leW a b) (h' : leW b c) : leW a c := by
  cases a <;> cases b <;> cases c <;> simp [leW, bef] at * <;> omega
theorem leW_none (a : Wt) : leW a none := by cases a <;> simp [leW, bef]
theorem leW_some {i j : Int} : leW (some i) (some j) ↔ i ≤ j := by simp [leW, bef]
theorem leW_of_none {a : Wt} (h : leW none a) : a = none := by cases a <;> simp [leW, bef] at *
theorem leW_antisymm {a b : Wt} (h : leW a b) (h' : leW b a) : a = b := by
  cases a <;> cases b <;> simp [leW, bef] at * <;> omega
/-- a table and "more" that make a grade -/
structure Good (t : List Wt) (m : Wt) : Prop where
  len : t.length ≤ 30
  pos : nn m
  ge : ∀ n : Nat, leW (some n) (ledF t m (some n))
  mono : ∀ n : Nat, leW (ledF t m (some n)) (ledF t m (some (n + 1 : Nat)))
theorem ledF_in {t : List Wt} {m : Wt} {n : Nat} (h : n < t.length) : ledF t m (some n) = t[n] := by
  have h' : (n : Int) < t.length := by omega
  simp [ledF, h', h]
theorem ledF_out {t : List Wt} {m : Wt} {n : Int} (h : (t.length : Int) ≤ n) : ledF t m (some n) = bey n m := by
  have h' : ¬ n < (t.length : Int) := by omega
  simp only [ledF, if_neg h']
theorem get_W {t : List Wt} {i : Nat} (hi : i < t.length) : (t.map W)[i]? = some (W t[i]) := by rw [List.getElem?_map, List.getElem?_eq_getElem hi]; rfl
theorem first_bad {b : Bool} {t : List Wt} {m : Wt} (g : Good t m) : m_first_bad_entry [sq b (t.map W)] = .ok .non := by
  refine To.eq ?_
  have hl := g.len
  refine To.bindE (a := (List.range t.length).map fun (i : Nat) => D.int (i : Int)) (by simp [len_sq, rng1_nat (show t.length ≤ 16777216 by omega)]) ?_
  refine To.lp (To.forG (fun _ _ => True) (fun _ => False) (fun _ => False) trivial fun i s d hd _ => ?_) (fun _ _ => To.ok rfl) (fun _ h => h.elim)
  obtain ⟨hi, rfl⟩ := range_get hd
  have hge := g.ge i
  rw [ledF_in hi] at hge
  have hnn : nn t[i] := fun j e => by rw [e] at hge; rw [leW_some] at hge; omega
  refine To.bindE (a := W t[i]) (by simp [ix_sq (get_W hi)]) ?_
  refine To.iteF ?_ (To.iteF ?_ (To.iteF ?_ (To.ok trivial)))
  · have h30 : ¬ (30 : Int) ≤ i := by omega
    simp [worth_W _ hnn, h30]
  · cases e : t[i] with
    | none => simp
    | some j =>
      rw [e, leW_some] at hge
      simp
      omega
  · cases i with
    | zero => simp
    | succ j =>
      have hj : j < t.length := by omega
      have hm := g.mono j
      rw [ledF_in hj, ledF_in hi] at hm
      have e1 : ((j + 1 : Nat) : Int) - 1 = (j : Int) := by omega
      have e2 : (0 : Int) < ((j + 1 : Nat) : Int) := by omega
      simp only [op2_ok, gtD_int, Res.ofO_some, blR_ok, decide_eq_true e2, andB_true, subD_int, e1, ix_sq (get_W hj), consR_ok, callR_ok, List.append_nil, before_W, truR_ok, truD_bl]
      rw [show bef t[j + 1] t[j] = false from hm]
/-! ### functions of grades -/
def addW : Wt → Wt → Wt
  | some a, some b => some (a + b)
  | _, _ => none
def apF (f : Nat → Wt) : Wt → Wt
  | none => none
  | some i => f i.toNat
structure GF (f : Nat → Wt) (m : Wt) (L : Nat) : Prop where
  pos : nn m
  ge : ∀ n : Nat, leW (some n) (f n)
  mono : ∀ n : Nat, leW (f n) (f (n + 1))
  out : ∀ n : Nat, L ≤ n → f n = bey n m
theorem GF.nn {f : Nat → Wt} {m : Wt} {L : Nat} (g : GF f m L) (n : Nat) : nn (f n) := fun j e => by
  have := g.ge n
  rw [e, leW_some] at this
  omega
theorem GF.mon {f : Nat → Wt} {m : Wt} {L : Nat} (g : GF f m L) {a b : Nat} (h : a ≤ b) : leW (f a) (f b) := by
  obtain ⟨d, rfl⟩ := Nat.exists_eq_add_of_le h
  induction d with
  | zero => exact leW_refl _
  | succ d ih => exact leW_trans (ih (Nat.le_add_right _ _)) (g.mono (a + d))
theorem Good.gf {t : List Wt} {m : Wt} (g : Good t m) : GF (fun n => ledF t m (some n)) m t.length :=
  ⟨g.pos, g.ge, fun n => by have := g.mono n; simpa using this, fun n h => ledF_out (by omega)⟩
theorem GF.id : GF (fun n => some (n : Int)) (some 0) 0 :=
  ⟨fun i e => by cases e; omega, fun n => leW_refl _, fun n => leW_some.mpr (by omega), fun n _ => by simp [bey]⟩
theorem GF.weak {f : Nat → Wt} {m : Wt} {L L' : Nat} (g : GF f m L) (h : L ≤ L') : GF f m L' := ⟨g.pos, g.ge, g.mono, fun n hn => g.out n (Nat.le_trans h hn)⟩
theorem GF.comp {f g : Nat → Wt} {m k : Wt} {L M : Nat} (a : GF f m L) (b : GF g k M) : GF (fun n => apF g (f n)) (addW m k) (max L M) := by
  refine ⟨?_, fun n => ?_, fun n => ?_, fun n hn => ?_⟩
  · intro i e
    cases m <;> cases k <;> simp [addW] at e
    have h1 := a.pos _ rfl
    have h2 := b.pos _ rfl
    omega
  · have h1 := a.ge n
    cases e : f n with
    | none => exact leW_none _
    | some i =>
      rw [e, leW_some] at h1
      have h2 := b.ge i.toNat
      refine leW_trans (leW_some.mpr ?_) h2
      omega
  · have h1 := a.mono n
    have hn0 := a.nn n
    cases e : f n with
    | none => rw [e] at h1; rw [leW_of_none h1]; exact leW_none _
    | some i =>
      cases e2 : f (n + 1) with
      | none => exact leW_none _
      | some j =>
        rw [e, e2, leW_some] at h1
        exact b.mon (by omega)
  · have e1 := a.out n (by omega)
    rw [e1]
    cases m with
    | none => simp [bey, apF, addW]
    | some x =>
      have hx := a.pos x rfl
      have e2 := b.out ((n : Int) + x).toNat (by omega)
      simp only [bey, Option.map_some, apF]
      rw [e2]
      cases k with
      | none => rfl
      | some y => simp only [bey, Option.map_some, addW]; congr 1; omega
/-- the table of a function -/
theorem GF.tab {f : Nat → Wt} {m : Wt} {L : Nat} (g : GF f m L) (n : Nat) : ledF ((List.range L).map f) m (some n) = f n := by
  by_cases h : n < L
  · rw [ledF_in (by simpa using h)]
    simp
  · rw [ledF_out (by simp; omega), g.out n (by omega)]
theorem GF.good {f : Nat → Wt} {m : Wt} {L : Nat} (g : GF f m L) (h : L ≤ 30) : Good ((List.range L).map f) m :=
  ⟨by simpa using h, g.pos, fun n => by rw [g.tab]; exact g.ge n, fun n => by rw [g.tab, show ((n + 1 : Nat) : Int) = ((n + 1 : Nat) : Int) from rfl, g.tab]; exact g.mono n⟩
/-! ### the least form -/
def Lst (u : List Wt) (m : Wt) : Prop := ∀ j, j + 1 = u.length → u[j]? ≠ some (bey j m)
theorem lst_le {u v : List Wt} {m : Wt} (hu : Lst u m) (h : ∀ n : Nat, ledF u m (some n) = ledF v m (some n)) : u.length ≤ v.length := by
  rcases Nat.lt_or_ge v.length u.length with z | z
  · exfalso
    obtain ⟨j, hj⟩ : ∃ j, j + 1 = u.length := ⟨u.length - 1, by omega⟩
    refine hu j hj ?_
    have := h j
    rw [ledF_in (by omega), ledF_out (by omega)] at this
    rw [List.getElem?_eq_getElem (by omega), this]
  · exact z
theorem lst_uniq {u v : List Wt} {m : Wt} (hu : Lst u m) (hv : Lst v m) (h : ∀ n : Nat, ledF u m (some n) = ledF v m (some n)) : u = v := by
  have l1 := lst_le hu h
  have l2 := lst_le hv fun n => (h n).symm
  refine List.ext_getElem (by omega) fun i h1 h2 => ?_
  have := h i
  rw [ledF_in h1, ledF_in h2] at this
  exact this
theorem right_more {b : Bool} {t : List Wt} {m : Wt} (g : Good t m) : m_is_right_more [sq b (t.map W), W m] = .ok (.bl true) := by
  refine To.eq ?_
  refine To.iteF (by simp [worth_W m g.pos]) ?_
  cases m with
  | none => exact To.iteT (by simp) (To.ok rfl)
  | some x =>
    by_cases h : t.length = 0
    · exact To.iteT (by simp [len_sq, eqD_int, h]) (To.ok rfl)
    · refine To.iteF (by simp [len_sq, eqD_int]; intro z; exact h (by rw [z]; rfl)) ?_
      obtain ⟨j, hj⟩ : ∃ j, j + 1 = t.length := ⟨t.length - 1, by omega⟩
      have hm := g.mono j
      rw [ledF_in (by omega), ledF_out (by omega)] at hm
      have e1 : (t.length : Int) - 1 = j := by omega
      cases e : t[j] with
      | none => rw [e] at hm; have := leW_of_none hm; simp [bey] at this
      | some v =>
        rw [e] at hm
        simp only [bey, Option.map_some, leW_some] at hm
        have hg : (t.map W)[j]? = some (.int v) := by rw [get_W (by omega), e]; rfl
        refine To.bindE (a := .int v) (by simp [len_sq, e1, ix_sq hg]) ?_
        refine To.of (a := .bl true) ?_ rfl
        simp [len_sq]
        omega
theorem cutD_take (l : List D) (k : Nat) (h : k ≤ l.length) : Px.cutD l none (some (k : Int)) = l.take k := by
  unfold Px.cutD
  rw [HT.sIx_none, HT.sIx_nat]
  simp [Nat.min_eq_left h]
theorem cutD_drop (l : List D) (k : Nat) : Px.cutD l (some (k : Int)) none = l.drop k := by
  unfold Px.cutD
  rw [HT.sIx_none, HT.sIx_nat]
  rcases Nat.le_total k l.length with h | h
  · rw [Nat.min_eq_left h]
    exact List.take_of_length_le (by simp)
  · rw [Nat.min_eq_right h, List.drop_of_length_le (Nat.le_refl _), List.drop_of_length_le h]
    simp
theorem slice_lst_take (l : List D) (k : Nat) (h : k ≤ l.length) : sliceR (.ok (.lst l)) none (some (.ok (.int k))) = .ok (.lst (l.take k)) := by
  unfold sliceR
  simp only [Res.ok_bind, partR_none, partR_ok, sliceD, cutD_take l k h, Res.ofO_some]
theorem slice_lst_drop (l : List D) (k : Nat) : sliceR (.ok (.lst l)) (some (.ok (.int k))) none = .ok (.lst (l.drop k)) := by
  unfold sliceR
  simp only [Res.ok_bind, partR_none, partR_ok, sliceD, cutD_drop l k, Res.ofO_some]
theorem slice_tup_take (l : List D) (k : Nat) (h : k ≤ l.length) : sliceR (.ok (.tup l)) none (some (.ok (.int k))) = .ok (.tup (l.take k)) := by
  unfold sliceR
  simp only [Res.ok_bind, partR_none, partR_ok, sliceD, cutD_take l k h, Res.ofO_some]
theorem slice_sq_take (b : Bool) (l : List D) (k : Nat) (h : k ≤ l.length) : callO tupleD (consR (sliceR (.ok (sq b l)) none (some (.ok (.int k)))) (.ok [])) = .ok (.tup (l.take k)) := by
  cases b with
  | false => rw [show sq false l = .lst l from rfl, slice_lst_take l k h]; simp
  | true => rw [show sq true l = .tup l from rfl, slice_tup_take l k h]; simp
def toN : D → Nat
  | .int i => i.toNat
  | _ => 0
theorem least_ok {t : List Wt} {m : Wt} (b : Bool) (ht : t.length < 2 ^ 70) : To (m_least_table [sq b (t.map W), W m]) fun d => ∃ u : List Wt, d = .tup (u.map W) ∧ (∀ n : Nat, ledF u m (some n) = ledF t m (some n)) ∧ Lst u m ∧ u.length ≤ t.length := by
  show To (b_least_table (sq b (t.map W)) (W m)) _
  unfold b_least_table
  refine To.bindE (a := .int t.length) (by simp [len_sq]) ?_
  refine To.bind (To.whileR (fun s => ∃ k : Nat, s = .int k ∧ k ≤ t.length ∧ ∀ j, k ≤ j → j < t.length → t[j]? = some (bey j m)) toN ?_ fuel _ ⟨t.length, rfl, Nat.le_refl _, fun j h1 h2 => absurd h2 (by omega)⟩ ?_) ?_
  · rintro s ⟨k, rfl, hk, hj⟩
    cases k with
    | zero => exact ⟨false, by simp, fun z => by cases z⟩
    | succ k =>
      have e0 : (0 : Int) < ((k + 1 : Nat) : Int) := by omega
      have e1 : ((k + 1 : Nat) : Int) - 1 = k := by omega
      refine ⟨decide (t[k] = bey k m), ?_, fun hd => ?_⟩
      · simp only [op2_ok, gtD_int, Res.ofO_some, blR_ok, decide_eq_true e0, andB_true, subD_int, e1, ix_sq (get_W (t := t) (i := k) (by omega)), consR_ok, callR_ok, List.append_nil, List.cons_append, List.nil_append, beyond_ok, eqD_W]
      · refine To.of (a := .int k) (by simp only [op2_ok, subD_int, e1, Res.ofO_some, Res.ok_bind]) ⟨⟨k, rfl, by omega, fun j h1 h2 => ?_⟩, by simp [toN]⟩
        rcases Nat.lt_or_ge k j with z | z
        · exact hj j z h2
        · have : j = k := by omega
          subst this
          rw [List.getElem?_eq_getElem (by omega), of_decide_eq_true hd]
  · simp only [toN, Int.toNat_natCast]
    exact ht
  · rintro s ⟨⟨k, rfl, hk, hj⟩, hc⟩
    refine To.of (a := .tup ((t.take k).map W)) ?_ ⟨t.take k, rfl, fun n => ?_, fun j hjk => ?_, by simp; omega⟩
    · rw [slice_sq_take b _ _ (by simpa using hk), List.map_take]
    · rcases Nat.lt_or_ge n k with z | z
      · rw [ledF_in (by simp; omega), ledF_in (by omega)]
        simp
      · rw [ledF_out (by simp; omega)]
        rcases Nat.lt_or_ge n t.length with z2 | z2
        · rw [ledF_in z2]
          have := hj n z z2
          rw [List.getElem?_eq_getElem z2] at this
          exact (Option.some.inj this).symm
        · rw [ledF_out (by omega)]
    · have hl : (t.take k).length = k := by simp; omega
      rw [hl] at hjk
      subst hjk
      have e0 : (0 : Int) < ((j + 1 : Nat) : Int) := by omega
      have e1 : ((j + 1 : Nat) : Int) - 1 = j := by omega
      simp only [op2_ok, gtD_int, Res.ofO_some, blR_ok, decide_eq_true e0, andB_true, subD_int, e1, ix_sq (get_W (t := t) (i := j) (by omega)), consR_ok, callR_ok, List.append_nil, List.cons_append, List.nil_append, beyond_ok, eqD_W] at hc
      have hne := of_decide_eq_false (Res.ok.inj hc)
      rw [List.getElem?_take, if_pos (by omega), List.getElem?_eq_getElem (by omega)]
      exact fun z => hne (Option.some.inj z)
/-! ### grades as objects -/
def Gobj (u : List Wt) (m : Wt) : D := .obj 0 [.tup (u.map W), W m]
structure IsG (o : D) (f : Nat → Wt) (m : Wt) : Prop where
  ex : ∃ u, o = Gobj u m ∧ Lst u m ∧ u.length ≤ 30 ∧ ∀ n : Nat, ledF u m (some n) = f n
  gf : ∃ L, GF f m L
theorem IsG.uniq {o o' : D} {f : Nat → Wt} {m : Wt} (a : IsG o f m) (b : IsG o' f m) : o = o' := by
  obtain ⟨u, rfl, h1, _, h2⟩ := a.ex
  obtain ⟨v, rfl, h3, _, h4⟩ := b.ex
  rw [lst_uniq h1 h3 fun n => (h2 n).trans (h4 n).symm]
theorem IsG.congr {o : D} {f g : Nat → Wt} {m : Wt} (a : IsG o f m) (h : ∀ n, f n = g n) : IsG o g m := by
  have : f = g := funext h
  subst this
  exact a
theorem IsG.fl {u : List Wt} {m : Wt} {f : Nat → Wt} (h : ∀ n : Nat, ledF u m (some n) = f n) {w : Wt} (hw : nn w) : ledF u m w = apF f w := by
  cases w with
  | none => rfl
  | some i =>
    obtain ⟨n, rfl⟩ := Int.eq_ofNat_of_zero_le (hw i rfl)
    exact h n
theorem make_ok {t : List Wt} {m : Wt} (b : Bool) (g : Good t m) : To (makeR 0 i_Grade_init [] (.ok [sq b (t.map W), W m])) fun o => IsG o (fun n => ledF t m (some n)) m := by
  unfold makeR
  refine To.bindE rfl ?_
  have h : To (b_Grade_init (sq b (t.map W)) (W m)) fun l => ∃ u : List Wt, l = [.tup (u.map W), W m] ∧ (∀ n : Nat, ledF u m (some n) = ledF t m (some n)) ∧ Lst u m ∧ u.length ≤ t.length := by
    unfold b_Grade_init
    have fb := first_bad (b := b) g
    have rm := right_more (b := b) g
    refine To.bindE (a := .non) (by simpa using fb) ?_
    refine To.iteF (by simp) (To.iteF (by simp at rm ⊢; simp [rm]) ?_)
    obtain ⟨d, e, u, rfl, h1, h2, h3⟩ := least_ok (t := t) (m := m) b (by have := g.len; omega)
    refine To.bindE (a := .tup (u.map W)) (by simpa using e) ?_
    exact To.of rfl ⟨u, rfl, h1, h2, h3⟩
  obtain ⟨l, e, u, rfl, h1, h2, h3⟩ := h
  refine To.bindE (a := [.tup (u.map W), W m]) ?_ (To.ok ⟨⟨u, rfl, h2, Nat.le_trans h3 g.len, h1⟩, ⟨_, g.gf⟩⟩)
  show i_Grade_init [sq b (t.map W), W m] = _
  unfold i_Grade_init
  rw [show m_Grade_init [sq b (t.map W), W m] = b_Grade_init (sq b (t.map W)) (W m) from rfl, e]
  rfl
theorem fld_table (u : List Wt) (m : Wt) : fldD at_ "table" (Gobj u m) = some (.tup (u.map W)) := rfl
theorem fld_more (u : List Wt) (m : Wt) : fldD at_ "more" (Gobj u m) = some (W m) := rfl
theorem addW_total (a b : Wt) : m_total_of [.lst [W a, W b]] = .ok (W (addW a b)) := by
  cases a <;> cases b <;> simp [m_total_of, b_total_of, addW, forG, lpK]
theorem call_ok {o : D} {f : Nat → Wt} {m : Wt} (g : IsG o f m) {w : Wt} (hw : nn w) : m_Grade_call [o, W w] = .ok (W (apF f w)) := by
  obtain ⟨u, rfl, _, _, h⟩ := g.ex
  show b_Grade_call (Gobj u m) (W w) = _
  unfold b_Grade_call
  have := led_ok (b := true) (t := u) (m := m) hw
  simp only [sq, if_true] at this
  simp only [op1_ok, fld_table, fld_more, Res.ofO_some, consR_ok, callR_ok, List.append_nil, List.cons_append, List.nil_append, this, IsG.fl h hw]
theorem isG_out {u : List Wt} {m : Wt} {f : Nat → Wt} (h : ∀ n : Nat, ledF u m (some n) = f n) : ∀ n : Nat, u.length ≤ n → f n = bey n m := fun n hn => by rw [← h n, ledF_out (by omega)]
theorem shift_ok {o1 o2 : D} {f1 f2 : Nat → Wt} {m1 m2 : Wt} (g1 : IsG o1 f1 m1) (g2 : IsG o2 f2 m2) : To (m_Grade_rshift [o1, o2]) fun o => IsG o (fun n => apF f2 (f1 n)) (addW m1 m2) := by
  obtain ⟨u1, rfl, _, l1, h1⟩ := g1.ex
  obtain ⟨u2, rfl, _, l2, h2⟩ := g2.ex
  obtain ⟨L1, G1⟩ := g1.gf
  obtain ⟨L2, G2⟩ := g2.gf
  have G1' : GF f1 m1 u1.length := ⟨G1.pos, G1.ge, G1.mono, isG_out h1⟩
  have G2' : GF f2 m2 u2.length := ⟨G2.pos, G2.ge, G2.mono, isG_out h2⟩
  have G := G1'.comp G2'
  show To (b_Grade_rshift (Gobj u1 m1) (Gobj u2 m2)) _
  unfold b_Grade_rshift
  have hm : (if (u2.length : Int) > u1.length then (u2.length : Int) else u1.length) = ((max u1.length u2.length : Nat) : Int) := by
    split <;> omega
  refine To.bindE (a := .int ((max u1.length u2.length : Nat) : Int)) ?_ ?_
  · simp only [op1_ok, fld_table, Res.ofO_some, consR_ok, callO_ok, lenD_tup, List.length_map, maxD_int, hm]
  refine To.bindE (a := .lst (((List.range (max u1.length u2.length)).map fun n => apF f2 (f1 n)).map W)) ?_ ?_
  · have e : callOo rng1 (consR (.ok (.int ((max u1.length u2.length : Nat) : Int))) (.ok [])) = .ok ((List.range (max u1.length u2.length)).map fun (i : Nat) => D.int (i : Int)) := by
      rw [consR_ok, callOo_ok, rng1_nat (by omega), Res.ofO_some]
    rw [e, mapL_ok (h := fun n => W (apF f2 (f1 n))) (by simp; omega), List.map_map]
    · rfl
    · intro n _
      have e1 := led_ok (b := true) (t := u1) (m := m1) (w := some n) (fun i e => by cases e; omega)
      simp only [sq, if_true, W_some, h1] at e1
      have e2 := led_ok (b := true) (t := u2) (m := m2) (w := f1 n) (G1.nn n)
      simp only [sq, if_true, IsG.fl h2 (G1.nn n)] at e2
      simp only [op1_ok, fld_table, fld_more, Res.ofO_some, consR_ok, callR_ok, List.append_nil, List.cons_append, List.nil_append, e1, e2]
  have hl : ¬ False := fun z => z
  have e3 : callR m_total_of [] (consR (lstV (dispR (consR (op1 (fldD at_ "more") (.ok (Gobj u1 m1))) (consR (op1 (fldD at_ "more") (.ok (Gobj u2 m2))) (.ok []))))) (.ok [])) = .ok (W (addW m1 m2)) := by
    simp only [op1_ok, fld_more, Res.ofO_some, consR_ok, dispR_ok, List.length_cons, List.length_nil, lstV, Res.ok_bind]
    rw [if_pos (by omega)]
    simp only [Res.ok_bind, consR_ok, callR_ok, List.append_nil, addW_total]
  rw [e3]
  have gd := G.good (by omega)
  refine (make_ok false gd).mono fun o ho => ho.congr fun n => G.tab n
def pW : Wt → PyData
  | none => .none
  | some i => .int i
theorem toPs_W : ∀ u : List Wt, toPs (u.map W) = some (u.map pW)
  | [] => rfl
  | w :: u => by
    rw [List.map_cons]
    unfold toPs
    rw [toPs_W u]
    cases w <;> rfl
theorem shaped_tupW (u : List Wt) : SeqAt.shaped (.tuple (u.map pW)) = true := by
  have h1 : ∀ u : List Wt, PyData.canLayAll0 (u.map pW) = true := by
    intro u
    induction u with
    | nil => simp [PyData.canLayAll0]
    | cons w u ih => cases w <;> simp [PyData.canLayAll0, PyData.canLay0, pW, ih]
  have h2 : ∀ u : List Wt, PyData.depthAll (u.map pW) = 0 := by
    intro u
    induction u with
    | nil => simp [PyData.depthAll]
    | cons w u ih => cases w <;> simp [PyData.depthAll, PyData.depth, pW, ih]
  simp [SeqAt.shaped, PyData.canLay0, PyData.depth, h1, h2]
theorem eqvAll_W : ∀ u v : List Wt, PyData.eqvAll (u.map pW) (v.map pW) = decide (u = v)
  | [], [] => by simp [PyData.eqvAll]
  | [], w :: v => by simp [PyData.eqvAll]
  | w :: u, [] => by simp [PyData.eqvAll]
  | w :: u, x :: v => by
    rw [List.map_cons, List.map_cons]
    unfold PyData.eqvAll
    rw [eqvAll_W u v]
    cases w <;> cases x <;> simp [PyData.eqv, pW]
    rw [Bool.eq_iff_iff]
    simp
theorem eqD_tupW (u v : List Wt) : eqD (.tup (u.map W)) (.tup (v.map W)) = some (.bl (decide (u = v))) := by
  unfold eqD toP
  rw [toPs_W, toPs_W]
  simp only [Option.map_some, shaped_tupW, Bool.and_self, if_true]
  unfold PyData.eqv
  rw [eqvAll_W]
theorem eq_ok (u v : List Wt) (m k : Wt) : m_Grade_eq [Gobj u m, Gobj v k] = .ok (.bl (decide (u = v) && decide (m = k))) := by
  show b_Grade_eq (Gobj u m) (Gobj v k) = _
  unfold b_Grade_eq
  have e1 : isCD sub_ 0 (Gobj v k) = some (.bl true) := rfl
  simp only [op1_ok, op2_ok, fld_table, fld_more, Res.ofO_some, e1, andV_true, eqD_tupW, eqD_W]
  by_cases h : u = v
  · simp [h]
  · simp [h]
theorem stands_ok {o : D} {f : Nat → Wt} {m : Wt} (g : IsG o f m) (n : Nat) : m_Grade_stands_at [o, .int n] = .ok (.bl (decide (f n = some (n : Int)))) := by
  obtain ⟨u, rfl, _, _, h⟩ := g.ex
  show b_Grade_stands_at (Gobj u m) (.int n) = _
  unfold b_Grade_stands_at
  have e0 := number_W (some n) (fun i e => by cases e; omega)
  have e1 := led_ok (b := true) (t := u) (m := m) (w := some n) (fun i e => by cases e; omega)
  simp only [sq, if_true, W_some, h, Option.isSome_some] at e0 e1
  simp only [op1_ok, op2_ok, fld_table, fld_more, Res.ofO_some, consR_ok, callR_ok, List.append_nil, List.cons_append, List.nil_append, e0, e1, andV_true]
  rw [show (D.int n) = W (some n) from rfl, eqD_W]
  rfl
/-- the least number at which f stands -/
def LeastSt (f : Nat → Wt) (B : Nat) (s : Wt) : Prop := (s = none ∧ ∀ n : Nat, f n ≠ some (n : Int)) ∨ ∃ k : Nat, s = some (k : Int) ∧ f k = some (k : Int) ∧ (∀ j : Nat, j < k → f j ≠ some (j : Int)) ∧ k ≤ B
theorem standing_ok {o : D} {f : Nat → Wt} {m : Wt} (g : IsG o f m) {t : List Wt} (ht : ∀ n : Nat, ledF t m (some n) = f n) : ∃ s, m_Grade_standing [o] = .ok (W s) ∧ LeastSt f t.length s := by
  obtain ⟨u, rfl, hu, l30, h⟩ := g.ex
  have hle : u.length ≤ t.length := lst_le hu fun n => (h n).trans (ht n).symm
  have hout := isG_out h
  have main : To (b_Grade_standing (Gobj u m)) fun d => ∃ s, d = W s ∧ LeastSt f t.length s := by
    unfold b_Grade_standing
    refine To.bindE (a := (List.range u.length).map fun (i : Nat) => D.int (i : Int)) ?_ ?_
    · simp only [op1_ok, fld_table, Res.ofO_some, consR_ok, callO_ok, lenD_tup, List.length_map, callOo_ok, rng1_nat (show u.length ≤ 16777216 by omega)]
    refine To.lp (To.forG (fun i _ => ∀ j : Nat, j < i → f j ≠ some (j : Int)) (fun d => ∃ s, d = W s ∧ LeastSt f t.length s) (fun _ => False) (fun j hj => absurd hj (Nat.not_lt_zero j)) fun i s d hd hp => ?_) (fun _ hs => ?_) (fun d hd => To.ok hd)
    · obtain ⟨hi, rfl⟩ := range_get hd
      have hf : f i = u[i] := by rw [← h i, ledF_in hi]
      refine To.ite (k := decide (u[i] = some (i : Int))) ?_ (fun z => ?_) (fun z => ?_)
      · have e : ixD (.tup (u.map W)) (.int i) = some (W u[i]) := ix_tup' (get_W hi)
        have e2 := eqD_W u[i] (some (i : Int))
        simp only [W_some] at e2
        simp only [op1_ok, op2_ok, fld_table, Res.ofO_some, e, e2, blR_ok]
      · refine To.bindE rfl (To.ok ⟨some (i : Int), rfl, .inr ⟨i, rfl, ?_, hp, by omega⟩⟩)
        rw [hf]; exact of_decide_eq_true z
      · refine To.ok (fun j hj => ?_)
        rcases Nat.lt_or_ge j i with y | y
        · exact hp j y
        · have : j = i := by omega
          subst this
          rw [hf]; exact of_decide_eq_false z
    · rcases hs with hs | hs
      · simp only [List.length_map, List.length_range] at hs
        refine To.ite (k := decide (m = some 0)) ?_ (fun z => ?_) (fun z => ?_)
        · have e2 := eqD_W m (some 0)
          simp only [W_some] at e2
          simp only [op1_ok, op2_ok, fld_more, Res.ofO_some, e2, blR_ok]
        · have hm := of_decide_eq_true z
          refine To.of (a := W (some (u.length : Int))) ?_ ⟨some (u.length : Int), rfl, .inr ⟨u.length, rfl, ?_, hs, hle⟩⟩
          · simp only [op1_ok, fld_table, Res.ofO_some, consR_ok, callO_ok, lenD_tup, List.length_map, W_some]
          · rw [hout _ (Nat.le_refl _), hm]; simp [bey]
        · have hm := of_decide_eq_false z
          refine To.ok ⟨none, rfl, .inl ⟨rfl, fun n hn => ?_⟩⟩
          rcases Nat.lt_or_ge n u.length with y | y
          · exact hs n y hn
          · rw [hout n y] at hn
            cases m with
            | none => cases hn
            | some x => simp [bey] at hn; exact hm (by congr 1; omega)
      · exact hs.elim
  obtain ⟨d, e, s, rfl, hs⟩ := main
  exact ⟨s, e, hs⟩
theorem lwhole_W (w : Wt) : m__law_whole [W w] = .ok (.bl w.isSome) := by cases w <;> simp [m__law_whole, b__law_whole, isiD, isBT]
theorem same_W (a b : Wt) : m__law_same_worth [W a, W b] = .ok (.bl (decide (a = b))) := by
  show b__law_same_worth (W a) (W b) = _
  unfold b__law_same_worth
  cases b with
  | none => cases a <;> simp
  | some j =>
    have h := lwhole_W a
    cases a with
    | none => simp at h; simp [h]
    | some i => simp at h; simp [h, eqD_int]
theorem same_tup (u v : List Wt) (hu : u.length ≤ 30) (hv : v.length ≤ 30) (e : u = v) : m__law_same_worths [.tup (u.map W), .lst (v.map W)] = .ok (.bl true) := by
  subst e
  refine To.eq ?_
  show To (b__law_same_worths (.tup (u.map W)) (.lst (u.map W))) _
  unfold b__law_same_worths
  refine To.iteF (by simp [isiD, isBT, neD_int]) ?_
  refine To.bindE (a := (List.range u.length).map fun (i : Nat) => D.int (i : Int)) ?_ ?_
  · simp only [consR_ok, callO_ok, lenD_lst, List.length_map, Res.ofO_some, callOo_ok, rng1_nat (show u.length ≤ 16777216 by omega)]
  refine To.lp (To.forG (fun _ _ => True) (fun _ => False) (fun _ => False) trivial fun i s d hd _ => ?_) (fun _ _ => To.ok rfl) (fun _ h => h.elim)
  obtain ⟨hi, rfl⟩ := range_get hd
  refine To.iteF ?_ (To.ok trivial)
  simp [ix_lst (get_W hi), ix_tup' (get_W hi), same_W]
/-! cells and digits -/
theorem mul_ok {i j a b : Int} {n k : Nat} (hi : 0 ≤ i) (hi' : i < a) (ha : a ≤ 2 ^ n) (hj : 0 ≤ j) (hj' : j < b) (hb : b ≤ 2 ^ k) (hn : 0 < n) (hk : 0 < k) (h : n + k ≤ 100000000) : repD (.int i) (.int j) = some (.int (i * j)) :=
  repD_int (by have := log2_of hi hi' ha hn; have := log2_of hj hj' hb hk; omega)
theorem digits_ok (c : Int) (ss : List Int) (hs : ∀ s ∈ ss, 0 < s ∧ s.natAbs.log2 < 9000) (hl : ss.length ≤ 100000) : ∃ row : List Int, m__law_digits [.int c, .lst (ss.map D.int)] = .ok (.lst (row.map D.int)) ∧ row.length = ss.length ∧ ∀ (k : Nat) (x s : Int), row[k]? = some x → ss[k]? = some s → 0 ≤ x ∧ x < s := by
  have main : To (b__law_digits (.int c) (.lst (ss.map D.int))) fun d => ∃ row : List Int, d = .lst (row.map D.int) ∧ row.length = ss.length ∧ ∀ (k : Nat) (x s : Int), row[k]? = some x → ss[k]? = some s → 0 ≤ x ∧ x < s := by
    unfold b__law_digits
    have p18 : powD (.int 10) (.int 18) = some (.int 1000000000000000000) := by rw [powD_int (by decide) (by decide) (by decide)]; rfl
    refine To.bindE (a := []) (by rw [dispR_ok]; rfl) ?_
    refine To.bindE (a := .int c) (by simp) ?_
    refine To.bindE (a := .int (c % 2147483629)) (by simp [modD_pos]) ?_
    refine To.bindE (a := .bl (decide (1000000000000000000 ≤ c))) (by simp [p18]) ?_
    refine To.bind (P := fun d => ∃ r : Int, d = .int r) ?_ ?_
    · refine To.ite (k := decide (1000000000000000000 ≤ c)) (by simp) (fun _ => ?_) (fun _ => To.ok ⟨c, rfl⟩)
      exact To.of (a := .int (c - 1000000000000000000)) (by simp [p18]) ⟨_, rfl⟩
    rintro d ⟨r, rfl⟩
    refine To.bindE (a := (List.range ss.length).map fun (i : Nat) => D.int (i : Int)) ?_ ?_
    · simp only [consR_ok, callO_ok, lenD_lst, List.length_map, Res.ofO_some, callOo_ok, rng1_nat (show ss.length ≤ 16777216 by omega)]
    refine To.bind (To.forR (fun i s => ∃ (row : List Int) (r seed : Int), s = (row.map D.int, .int r, .int seed) ∧ row.length = i ∧ (0 ≤ seed ∧ seed < 2147483647) ∧ ∀ (k : Nat) (x s : Int), row[k]? = some x → ss[k]? = some s → 0 ≤ x ∧ x < s) ⟨[], r, c % 2147483629, rfl, rfl, by omega, fun k x s h => by simp at h⟩ fun i s d hd hp => ?_) ?_
    · obtain ⟨hi, rfl⟩ := range_get hd
      obtain ⟨row, r, seed, rfl, hrow, ⟨h0, h1⟩, hall⟩ := hp
      obtain ⟨sp, sl⟩ := hs ss[i] (List.getElem_mem hi)
      have hg : (ss.map D.int)[i]? = some (.int ss[i]) := by rw [List.getElem?_map, List.getElem?_eq_getElem hi]; rfl
      have m1 : repD (.int seed) (.int 48271) = some (.int (seed * 48271)) := mul_ok (n := 31) (k := 16) h0 h1 (by decide) (by decide) (show (48271 : Int) < 48272 by decide) (by decide) (by decide) (by decide) (by decide)
      have m2 : repD (.int 974711) (.int i) = some (.int (974711 * i)) := mul_ok (n := 20) (k := 20) (by decide) (show (974711 : Int) < 974712 by decide) (by decide) (by omega) (show (i : Int) < 1000000 by omega) (by decide) (by decide) (by decide) (by decide)
      refine To.bindE (a := .int ((seed * 48271 + 974711 * i + 12345) % 2147483647)) ?_ ?_
      · simp only [op2_ok, m1, m2, Res.ofO_some, addD_int, consR_ok, callO_ok, intD_int, modD_pos (show (0 : Int) < 2147483647 by decide)]
      have hseed : 0 ≤ (seed * 48271 + 974711 * i + 12345) % 2147483647 ∧ (seed * 48271 + 974711 * i + 12345) % 2147483647 < 2147483647 := by omega
      generalize (seed * 48271 + 974711 * i + 12345) % 2147483647 = seed2 at hseed
      have more : ∀ (z : Int), 0 ≤ z → z < ss[i] → ∀ (k : Nat) (x s : Int), (row ++ [z])[k]? = some x → ss[k]? = some s → 0 ≤ x ∧ x < s := fun z z0 z1 k x s hx hs' => by
        rcases Nat.lt_or_ge k row.length with y | y
        · rw [List.getElem?_append_left y] at hx
          exact hall k x s hx hs'
        · rw [List.getElem?_append_right y] at hx
          cases e : k - row.length with
          | zero =>
            rw [e] at hx
            simp at hx
            have : k = i := by omega
            subst this
            rw [List.getElem?_eq_getElem hi] at hs'
            cases hs'
            subst hx
            exact ⟨z0, z1⟩
          | succ q => rw [e] at hx; simp at hx
      refine To.ite (k := decide (1000000000000000000 ≤ c) && decide (0 < r)) ?_ (fun _ => ?_) (fun _ => ?_)
      · by_cases hc : 1000000000000000000 ≤ c <;> simp [hc]
      · refine To.appR (P := fun d => d = .int (r % ss[i])) (by simp; omega) ?_ ?_
        · exact To.of (by simp only [op2_ok, consR_ok, callO_ok, intD_int, Res.ofO_some, ix_lst hg, modD_pos sp]) rfl
        rintro d rfl
        refine To.bindE (a := .int (r / ss[i])) (by simp only [op2_ok, consR_ok, callO_ok, intD_int, Res.ofO_some, ix_lst hg, divD_pos sp sl]) ?_
        exact To.ok ⟨row ++ [r % ss[i]], r / ss[i], seed2, by simp, by simp [hrow], hseed, more _ (Int.emod_nonneg _ (by omega)) (Int.emod_lt_of_pos _ sp)⟩
      · have hq : 0 ≤ seed2 / 65537 ∧ seed2 / 65537 < 32768 := by omega
        have m3 : repD (.int seed2) (.int (seed2 / 65537 + 3)) = some (.int (seed2 * (seed2 / 65537 + 3))) := mul_ok (n := 31) (k := 16) hseed.1 hseed.2 (by decide) (by omega) (show seed2 / 65537 + 3 < 65536 by omega) (by decide) (by decide) (by decide) (by decide)
        refine To.bindE (a := .int (seed2 * (seed2 / 65537 + 3) % 2147483629)) ?_ ?_
        · simp only [op2_ok, divD_pos (show (0 : Int) < 65537 by decide) (by decide), Res.ofO_some, addD_int, m3, consR_ok, callO_ok, intD_int, modD_pos (show (0 : Int) < 2147483629 by decide)]
        generalize seed2 * (seed2 / 65537 + 3) % 2147483629 = tw
        refine To.appR (P := fun d => d = .int (tw / 19 % ss[i])) (by simp; omega) ?_ ?_
        · exact To.of (by simp only [op2_ok, divD_pos (show (0 : Int) < 19 by decide) (by decide), Res.ofO_some, ix_lst hg, modD_pos sp]) rfl
        rintro d rfl
        exact To.ok ⟨row ++ [tw / 19 % ss[i]], r, seed2, by simp, by simp [hrow], hseed, more _ (Int.emod_nonneg _ (by omega)) (Int.emod_lt_of_pos _ sp)⟩
    · rintro s ⟨row, r, seed, rfl, hrow, _, hall⟩
      exact To.ok ⟨row, rfl, by simpa using hrow, hall⟩
  obtain ⟨d, e, row, rfl, h1, h2⟩ := main
  exact ⟨row, e, h1, h2⟩
/-- a cell of the script -/
theorem cell_ok (ns : List Int) (hl : ns.length ≤ 63) (hb : ∀ k ∈ ns, Builtin.Int.intBits k ≤ 1048576) (k : Nat) (hk : k ≤ 1000) : ∃ c : Int, m__law_cell [.scr (ns.map D.int), .int k] = .ok (.int c) ∧ c.natAbs.log2 ≤ 1048576 := by
  have main : To (b__law_cell (.scr (ns.map D.int)) (.int k)) fun d => ∃ c : Int, d = .int c ∧ c.natAbs.log2 ≤ 1048576 := by
    unfold b__law_cell
    refine To.ite (k := decide ((k : Int) < ns.length)) (by simp) (fun h => ?_) (fun h => ?_)
    · have h := of_decide_eq_true h
      have hk2 : k < ns.length := by omega
      have hg : (ns.map D.int)[k]? = some (.int ns[k]) := by rw [List.getElem?_map, List.getElem?_eq_getElem hk2]; rfl
      refine To.of (a := .int ns[k]) (by simp only [op2_ok, ix_scr hg, Res.ofO_some]) ⟨_, rfl, ?_⟩
      have := hb ns[k] (List.getElem_mem hk2)
      unfold Builtin.Int.intBits at this
      split at this
      · rename_i z
        have : ns[k] = 0 := by simpa using z
        rw [this]
        decide
      · omega
    · refine To.bindE rfl ?_
      refine To.bindE (a := ns.map D.int) (by simp) ?_
      refine To.bind (To.forR (fun _ s => ∃ x : Int, s = .int x ∧ 0 ≤ x ∧ x < 1000003) ⟨17, rfl, by decide, by decide⟩ fun i s d hd hp => ?_) ?_
      · obtain ⟨x, rfl, h0, h1⟩ := hp
        rw [List.getElem?_map] at hd
        cases q : ns[i]? with
        | none => rw [q] at hd; cases hd
        | some c =>
          rw [q] at hd
          cases hd
          have m1 : repD (.int x) (.int 31) = some (.int (x * 31)) := mul_ok (n := 20) (k := 6) h0 h1 (by decide) (by decide) (show (31 : Int) < 32 by decide) (by decide) (by decide) (by decide) (by decide)
          refine To.bindE (a := .int ((x * 31 + c % 1000003) % 1000003)) ?_ (To.ok ⟨_, rfl, by omega, by omega⟩)
          simp only [op2_ok, m1, Res.ofO_some, addD_int, consR_ok, callO_ok, intD_int, modD_pos (show (0 : Int) < 1000003 by decide)]
      · rintro s ⟨x, rfl, h0, h1⟩
        have m1 : repD (.int (x + 7)) (.int (k + 3)) = some (.int ((x + 7) * (k + 3))) := mul_ok (n := 20) (k := 10) (by omega) (show x + 7 < 1000010 by omega) (by decide) (by omega) (show (k : Int) + 3 < 1004 by omega) (by decide) (by decide) (by decide) (by decide)
        have hp : 0 ≤ (x + 7) * (k + 3) := Int.mul_nonneg (by omega) (by omega)
        have hp2 : (x + 7) * (k + 3) < 1004010041 := Int.lt_of_le_of_lt (Int.mul_le_mul (show x + 7 ≤ 1000010 by omega) (show (k : Int) + 3 ≤ 1003 by omega) (by omega) (by decide)) (by decide)
        have m2 : repD (.int ((x + 7) * (k + 3))) (.int 69621) = some (.int ((x + 7) * (k + 3) * 69621)) := mul_ok (n := 30) (k := 17) hp hp2 (by decide) (by decide) (show (69621 : Int) < 69622 by decide) (by decide) (by decide) (by decide) (by decide)
        refine To.of (a := .int ((x + 7) * (k + 3) * 69621 % 2147483647)) ?_ ⟨_, rfl, ?_⟩
        · simp only [op2_ok, Res.ofO_some, addD_int, m1, m2, consR_ok, callO_ok, intD_int, modD_pos (show (0 : Int) < 2147483647 by decide)]
        · have := log2_of (i := (x + 7) * (k + 3) * 69621 % 2147483647) (b := 2147483647) (by omega) (by omega) (n := 31) (by decide) (by decide)
          omega
  obtain ⟨d, e, c, rfl, h⟩ := main
  exact ⟨c, e, h⟩
/-- the law's own grade -/
def LG (p : List Wt × Wt) : D := .lst [.lst (p.1.map W), W p.2]
theorem ix0 (p : List Wt × Wt) : ixD (LG p) (.int 0) = some (.lst (p.1.map W)) := ix_lst (n := 0) rfl
theorem ix1 (p : List Wt × Wt) : ixD (LG p) (.int 1) = some (W p.2) := ix_lst (n := 1) rfl
theorem at_ok (p : List Wt × Wt) {w : Wt} (hw : nn w) : m__law_at [LG p, W w] = .ok (W (ledF p.1 p.2 w)) := by
  show b__law_at (LG p) (W w) = _
  unfold b__law_at
  cases w with
  | none => simp [ledF]
  | some i =>
    have h0 : 0 ≤ i := hw i rfl
    by_cases h : i < p.1.length
    · obtain ⟨n, rfl⟩ := Int.eq_ofNat_of_zero_le h0
      have hn : n < p.1.length := by omega
      simp [ledF, ix0, h, ix_lst (get_W hn), hn]
    · cases e : p.2 <;> simp [ledF, ix0, ix1, h, bey, e]
theorem LG_mk (a : List Wt) (m : Wt) : lstV (dispR (.ok [.lst (a.map W), W m])) = .ok (LG (a, m)) := by
  rw [dispR_ok]
  rfl
theorem least_entries_ok {p : List Wt × Wt} (hl : p.1.length ≤ 30) : ∃ u : List Wt, m__law_least_entries [LG p] = .ok (.lst (u.map W)) ∧ (∀ n : Nat, ledF u p.2 (some n) = ledF p.1 p.2 (some n)) ∧ Lst u p.2 ∧ u.length ≤ p.1.length := by
  obtain ⟨t, m⟩ := p
  have take_led : ∀ k, (∀ j, k ≤ j → j < t.length → t[j]? = some (bey j m)) → ∀ n : Nat, ledF (t.take k) m (some n) = ledF t m (some n) := fun k hj n => by
    rcases Nat.lt_or_ge k t.length with hk | hk
    · rcases Nat.lt_or_ge n k with z | z
      · rw [ledF_in (by simp; omega), ledF_in (by omega)]
        simp
      · rw [ledF_out (by simp; omega)]
        rcases Nat.lt_or_ge n t.length with z2 | z2
        · rw [ledF_in z2]
          have := hj n z z2
          rw [List.getElem?_eq_getElem z2] at this
          exact (Option.some.inj this).symm
        · rw [ledF_out (by omega)]
    · rw [List.take_of_length_le hk]
  have main : To (b__law_least_entries (LG (t, m))) fun d => ∃ u : List Wt, d = .lst (u.map W) ∧ (∀ n : Nat, ledF u m (some n) = ledF t m (some n)) ∧ Lst u m ∧ u.length ≤ t.length := by
    unfold b__law_least_entries
    refine To.bindE (a := .lst (t.map W)) (by simp [ix0]) ?_
    refine To.bindE (a := (List.range t.length).map fun (i : Nat) => D.int (i : Int)) ?_ ?_
    · simp only [op2_ok, ix0, consR_ok, callO_ok, lenD_lst, List.length_map, Res.ofO_some, callOo_ok, rng1_nat (show t.length ≤ 16777216 from by simp only at hl; omega)]
    refine To.lp (To.forG (fun i s => s = .lst ((t.take (t.length - i)).map W) ∧ ∀ j, t.length - i ≤ j → j < t.length → t[j]? = some (bey j m)) (fun d => ∃ u : List Wt, d = .lst (u.map W) ∧ (∀ n : Nat, ledF u m (some n) = ledF t m (some n)) ∧ Lst u m ∧ u.length ≤ t.length) (fun _ => False) ⟨by simp, fun j h1 h2 => absurd h1 (by omega)⟩ fun i s d hd hp => ?_) (fun s hs => ?_) (fun d hd => To.ok hd)
    · obtain ⟨hi, rfl⟩ := range_get hd
      obtain ⟨rfl, hj⟩ := hp
      obtain ⟨k, hk⟩ : ∃ k, t.length - i = k + 1 := ⟨t.length - i - 1, by omega⟩
      rw [hk] at hj ⊢
      have hk2 : k < t.length := by omega
      have hlen : ((t.take (k + 1)).map W).length = k + 1 := by simp; omega
      have e1 : ((k + 1 : Nat) : Int) - 1 = k := by omega
      refine To.bindE (a := .int k) (by simp only [consR_ok, callO_ok, lenD_lst, hlen, Res.ofO_some, op2_ok, subD_int, e1]) ?_
      refine To.bindE rfl ?_
      refine To.bindE (a := W (bey k m)) ?_ ?_
      · cases m <;> simp [ix1, bey]
      have hg : ((t.take (k + 1)).map W)[k]? = some (W t[k]) := by
        rw [List.getElem?_map, List.getElem?_take, if_pos (by omega), List.getElem?_eq_getElem hk2]; rfl
      refine To.ite (k := !decide (t[k] = bey k m)) (by simp only [op2_ok, ix_lst hg, neD_W, Res.ofO_some, blR_ok]) (fun z => ?_) (fun z => ?_)
      · refine To.bindE rfl (To.ok ⟨t.take (k + 1), rfl, take_led _ hj, fun j hjk => ?_, by simp; omega⟩)
        have hl2 : (t.take (k + 1)).length = k + 1 := by simp; omega
        have : j = k := by omega
        subst this
        rw [List.getElem?_take, if_pos (by omega), List.getElem?_eq_getElem hk2]
        intro q
        rw [decide_eq_true (Option.some.inj q)] at z
        cases z
      · have hz : t[k] = bey k m := by
          by_cases q : t[k] = bey k m
          · exact q
          · rw [decide_eq_false q] at z; cases z
        refine To.bindE (a := .lst ((t.take k).map W)) ?_ (To.ok ⟨?_, fun j h1 h2 => ?_⟩)
        · rw [slice_lst_take _ _ (by rw [hlen]; omega), ← List.map_take, List.take_take, Nat.min_eq_left (by omega)]
        · rw [show t.length - (i + 1) = k by omega]
        · rcases Nat.lt_or_ge k j with y | y
          · exact hj j y h2
          · have : j = k := by omega
            subst this
            rw [List.getElem?_eq_getElem hk2, hz]
    · rcases hs with ⟨rfl, hj⟩ | hs
      · simp only [List.length_map, List.length_range, Nat.sub_self] at hj ⊢
        refine To.ok ⟨t.take 0, rfl, take_led 0 hj, fun j h => ?_, by simp⟩
        simp at h
      · exact hs.elim
  obtain ⟨d, e, u, rfl, h⟩ := main
  exact ⟨u, e, h⟩
/-! a row of grades -/
def thr (gs : List (List Wt × Wt)) (w : Wt) : Wt := gs.foldl (fun w p => ledF p.1 p.2 w) w
def mx (gs : List (List Wt × Wt)) : Nat := gs.foldl (fun n p => max n p.1.length) 0
def tot (gs : List (List Wt × Wt)) : Wt := gs.foldl (fun w p => addW w p.2) (some 0)
/-- the functions of a row, one behind another -/
theorem row_gf : ∀ (gs : List (List Wt × Wt)) {f : Nat → Wt} {m : Wt} {L : Nat}, (∀ p ∈ gs, Good p.1 p.2) → GF f m L →
    GF (fun n => gs.foldl (fun w p => ledF p.1 p.2 w) (f n)) (gs.foldl (fun w p => addW w p.2) m) (gs.foldl (fun n p => max n p.1.length) L)
  | [], _, _, _, _, g => g
  | p :: gs, f, m, L, h, g => by
    have a := g.comp (h p List.mem_cons_self).gf
    have e : (fun n => apF (fun n => ledF p.1 p.2 (some n)) (f n)) = fun n => ledF p.1 p.2 (f n) := by
      funext n
      cases q : f n with
      | none => rfl
      | some i =>
        have := g.nn n
        rw [q] at this
        obtain ⟨k, rfl⟩ := Int.eq_ofNat_of_zero_le (this i rfl)
        rfl
    rw [e] at a
    exact row_gf gs (fun q hq => h q (List.mem_cons_of_mem _ hq)) a
theorem row_GF (gs : List (List Wt × Wt)) (h : ∀ p ∈ gs, Good p.1 p.2) : GF (fun n => thr gs (some n)) (tot gs) (mx gs) := row_gf gs h GF.id
theorem mx_le : ∀ (gs : List (List Wt × Wt)) (L : Nat), L ≤ 30 → (∀ p ∈ gs, p.1.length ≤ 30) → gs.foldl (fun n p => max n p.1.length) L ≤ 30
  | [], _, h, _ => h
  | p :: gs, L, h, hh => mx_le gs _ (by show max L p.1.length ≤ 30; have := hh p List.mem_cons_self; omega) fun q hq => hh q (List.mem_cons_of_mem _ hq)
theorem LG_items (gs : List (List Wt × Wt)) {i : Nat} {d : D} (h : (gs.map LG)[i]? = some d) : ∃ hi : i < gs.length, d = LG gs[i] := by
  rw [List.getElem?_map] at h
  cases q : gs[i]? with
  | none => rw [q] at h; cases h
  | some p =>
    rw [q] at h
    obtain ⟨h1, h2⟩ := List.getElem?_eq_some_iff.mp q
    cases h
    exact ⟨h1, by rw [h2]⟩
theorem foldl_take {α β : Type} (f : β → α → β) (l : List α) (b : β) {i : Nat} (hi : i < l.length) : (l.take (i + 1)).foldl f b = f ((l.take i).foldl f b) l[i] := by
  rw [List.take_add_one, List.getElem?_eq_getElem hi, List.foldl_append]
  rfl
theorem nn_led {p : List Wt × Wt} (g : Good p.1 p.2) {w : Wt} (hw : nn w) : nn (ledF p.1 p.2 w) := by
  cases w with
  | none => exact fun i e => by cases e
  | some i =>
    obtain ⟨n, rfl⟩ := Int.eq_ofNat_of_zero_le (hw i rfl)
    exact g.gf.nn n
theorem nn_thr : ∀ (gs : List (List Wt × Wt)) {w : Wt}, (∀ p ∈ gs, Good p.1 p.2) → nn w → nn (thr gs w)
  | [], _, _, h => h
  | p :: gs, w, g, h => nn_thr gs (fun q hq => g q (List.mem_cons_of_mem _ hq)) (nn_led (g p List.mem_cons_self) h)
/-! drawn grades -/
theorem p20 : powD (.int 10) (.int 20) = some (.int 100000000000000000000) := by rw [powD_int (by decide) (by decide) (by decide)]; rfl
theorem p12 : powD (.int 10) (.int 12) = some (.int 1000000000000) := by rw [powD_int (by decide) (by decide) (by decide)]; rfl
theorem p64 : powD (.int 10) (.int 64) = some (.int (10 ^ 64)) := by rw [powD_int (by decide) (by decide) (by decide)]; rfl
theorem ten12 {a : Int} (h0 : 0 ≤ a) (h1 : a < 100000000000000000000) : repD (.int a) (.int 1000000000000) = some (.int (a * 1000000000000)) :=
  mul_ok (n := 67) (k := 40) h0 h1 (by decide) (by decide) (show (1000000000000 : Int) < 1000000000001 by decide) (by decide) (by decide) (by decide) (by decide)
theorem disp_go {l : List D} (h : l.length ≤ 16777216) : dispR (.ok l) = .ok l := by rw [dispR_ok, if_pos h]
/-- an item of a list of numbers at a number in its bounds -/
theorem pick {l : List Int} {n : Int} (h0 : 0 ≤ n) (h1 : n < l.length) : ∃ x ∈ l, ixD (.lst (l.map D.int)) (.int n) = some (.int x) := by
  obtain ⟨k, rfl⟩ := Int.eq_ofNat_of_zero_le h0
  have hk : k < l.length := by omega
  exact ⟨l[k], List.getElem_mem hk, ix_lst (by rw [List.getElem?_map, List.getElem?_eq_getElem hk]; rfl)⟩
theorem pickW {l : List Wt} {n : Int} (h0 : 0 ≤ n) (h1 : n < l.length) : ∃ x ∈ l, ixD (.lst (l.map W)) (.int n) = some (W x) := by
  obtain ⟨k, rfl⟩ := Int.eq_ofNat_of_zero_le h0
  have hk : k < l.length := by omega
  exact ⟨l[k], List.getElem_mem hk, ix_lst (get_W hk)⟩
theorem entry_ok {kind amount least : Int} {endless : Bool} (hk : 0 ≤ kind ∧ kind < 13) (ha : 0 ≤ amount ∧ amount < 100000000000000000000) (hl : 0 ≤ least) : ∃ w : Wt, m__law_entry [.int kind, .int amount, .int least, .bl endless] = .ok (W w) ∧ leW (some least) w ∧ (endless = false → w.isSome) := by
  have main : To (b__law_entry (.int kind) (.int amount) (.int least) (.bl endless)) fun d => ∃ w : Wt, d = W w ∧ leW (some least) w ∧ (endless = false → w.isSome) := by
    unfold b__law_entry
    refine To.ite (k := decide (kind = 11) && endless) ?_ (fun z => ?_) (fun z => ?_)
    · by_cases y : kind = 11 <;> simp [eqD_int, y]
    · rw [Bool.and_eq_true] at z
      exact To.ok ⟨none, rfl, leW_none _, fun e => by rw [e] at z; simp at z⟩
    · refine To.bindE (a := .lst ([0, 0, 0, 0, 0, 1, 1, amount % 3, amount % 5, amount % 12].map D.int)) ?_ ?_
      · simp only [op2_ok, consR_ok, callO_ok, intD_int, Res.ofO_some, modD_pos (show (0 : Int) < 3 by decide), modD_pos (show (0 : Int) < 5 by decide), modD_pos (show (0 : Int) < 12 by decide)]
        rw [disp_go (by simp)]
        rfl
      · have e1 : op2 addD (.ok (.lst ([0, 0, 0, 0, 0, 1, 1, amount % 3, amount % 5, amount % 12].map D.int))) (lstV (dispR (consR (.ok (.int amount)) (consR (.ok (.int 2)) (consR (op2 repD (.ok (.int amount)) (op2 powD (.ok (.int 10)) (.ok (.int 12)))) (.ok [])))))) = .ok (.lst ([0, 0, 0, 0, 0, 1, 1, amount % 3, amount % 5, amount % 12, amount, 2, amount * 1000000000000].map D.int)) := by
          simp only [op2_ok, p12, Res.ofO_some, ten12 ha.1 ha.2, consR_ok]
          rw [disp_go (by simp)]
          simp only [lstV_ok, op2_ok]
          rw [addD_lst (by simp)]
          rfl
        obtain ⟨x, hx, e2⟩ := pick (l := [0, 0, 0, 0, 0, 1, 1, amount % 3, amount % 5, amount % 12, amount, 2, amount * 1000000000000]) hk.1 (by simp; omega)
        rw [e1, op2_ok, e2]
        have hx0 : 0 ≤ x := by
          simp only [List.mem_cons, List.not_mem_nil, or_false] at hx
          omega
        exact To.of (a := .int (least + x)) (by simp only [Res.ofO_some, op2_ok, addD_int]) ⟨some (least + x), rfl, leW_some.mpr (by omega), fun _ => rfl⟩
  obtain ⟨d, e, w, rfl, h⟩ := main
  exact ⟨w, e, h⟩
def gsizes : List Int := [70, 11] ++ List.replicate 30 13 ++ List.replicate 31 100000000000000000000
theorem gsizes_ok : ∀ s ∈ gsizes, 0 < s ∧ s.natAbs.log2 < 9000 := by decide +kernel
/-- a table that is built entry by entry -/
structure Build (es : List Wt) (last : Wt) (i : Nat) (many : Int) (gain : Wt) : Prop where
  len : es.length = i
  lnn : nn last
  ge : ∀ (k : Nat) (w : Wt), es[k]? = some w → leW (some (k : Int)) w ∧ leW w last
  mono : ∀ (k : Nat) (w x : Wt), es[k]? = some w → es[k + 1]? = some x → leW w x
  cap : ∀ g, gain = some g → leW last (some (many + g))
theorem Build.good {es : List Wt} {last : Wt} {i : Nat} {gain : Wt} (b : Build es last i i gain) (hi : i ≤ 30) (hg : nn gain) : Good es gain := by
  have hl := b.len
  have bge : ∀ n : Nat, leW (some (n : Int)) (bey n gain) := fun n => by
    cases gain with
    | none => exact leW_none _
    | some g => have := hg g rfl; exact leW_some.mpr (show (n : Int) ≤ n + g by omega)
  refine ⟨by omega, hg, fun n => ?_, fun n => ?_⟩
  · rcases Nat.lt_or_ge n es.length with z | z
    · rw [ledF_in z]; exact (b.ge n _ (List.getElem?_eq_getElem z)).1
    · rw [ledF_out (by omega)]; exact bge n
  · rcases Nat.lt_or_ge n es.length with z | z
    · rw [ledF_in z]
      rcases Nat.lt_or_ge (n + 1) es.length with y | y
      · rw [ledF_in y]; exact b.mono n _ _ (List.getElem?_eq_getElem z) (List.getElem?_eq_getElem y)
      · rw [ledF_out (by omega)]
        have h1 := (b.ge n _ (List.getElem?_eq_getElem z)).2
        cases gain with
        | none => exact leW_none _
        | some g =>
          exact leW_trans h1 (leW_trans (b.cap g rfl) (leW_some.mpr (show (i : Int) + g ≤ ((n + 1 : Nat) : Int) + g by omega)))
    · rw [ledF_out (by omega), ledF_out (by omega)]
      cases gain with
      | none => exact leW_none _
      | some g => exact leW_some.mpr (show (n : Int) + g ≤ ((n + 1 : Nat) : Int) + g by omega)
theorem Build.push {es : List Wt} {last new : Wt} {i : Nat} {many : Int} {gain : Wt} (b : Build es last i many gain) (h1 : leW last new) (h2 : leW (some (i : Int)) new) (hn : nn new) (hc : ∀ g, gain = some g → leW new (some (many + g))) : Build (es ++ [new]) new (i + 1) many gain := by
  have hl := b.len
  have key : ∀ (k : Nat) (w : Wt), (es ++ [new])[k]? = some w → (k < es.length ∧ es[k]? = some w) ∨ (k = es.length ∧ w = new) := fun k w e => by
    rcases Nat.lt_trichotomy k es.length with z | z | z
    · rw [List.getElem?_append_left z] at e; exact .inl ⟨z, e⟩
    · subst z; rw [List.getElem?_append_right (Nat.le_refl _)] at e; simp at e; exact .inr ⟨rfl, e.symm⟩
    · rw [List.getElem?_eq_none (by simp; omega)] at e; cases e
  refine ⟨by simp [hl], hn, fun k w e => ?_, fun k w x e e' => ?_, hc⟩
  · rcases key k w e with ⟨z, e2⟩ | ⟨rfl, rfl⟩
    · exact ⟨(b.ge k w e2).1, leW_trans (b.ge k w e2).2 h1⟩
    · rw [hl]; exact ⟨h2, leW_refl _⟩
  · rcases key k w e with ⟨z, e2⟩ | ⟨rfl, rfl⟩
    · rcases key (k + 1) x e' with ⟨z', e3⟩ | ⟨z', rfl⟩
      · exact b.mono k w x e2 e3
      · exact leW_trans (b.ge k w e2).2 h1
    · rcases key _ x e' with ⟨z', e3⟩ | ⟨z', rfl⟩
      · omega
      · exact leW_refl _
theorem bl_ok {α : Type} (b : Bool) (x y : Res α) : iteR (truR (.ok (.bl b))) x y = if b then x else y := rfl
theorem grade_ok (c : Int) (tame : Bool) : ∃ p : List Wt × Wt, m__law_grade [.int c, .bl tame] = .ok (LG p) ∧ Good p.1 p.2 := by
  have main : To (b__law_grade (.int c) (.bl tame)) fun d => ∃ p : List Wt × Wt, d = LG p ∧ Good p.1 p.2 := by
    unfold b__law_grade
    obtain ⟨row, er, hlen, hrow⟩ := digits_ok c gsizes gsizes_ok (by decide)
    have h63 : row.length = 63 := by rw [hlen]; rfl
    refine To.bindE (a := .lst (row.map D.int)) ?_ ?_
    · have e1 : op2 addD (op2 addD (lstV (dispR (consR (.ok (.int 70)) (consR (.ok (.int 11)) (.ok []))))) (op2 repD (lstV (dispR (consR (.ok (.int 13)) (.ok [])))) (.ok (.int 30)))) (op2 repD (lstV (dispR (consR (op2 powD (.ok (.int 10)) (.ok (.int 20))) (.ok [])))) (.ok (.int 31))) = .ok (.lst (gsizes.map D.int)) := by
        simp only [consR_ok, op2_ok, p20, Res.ofO_some]
        rw [disp_go (by simp), disp_go (by simp), disp_go (by simp)]
        simp only [lstV_ok, op2_ok]
        rw [repD_lst (by decide) (by decide) (by decide), repD_lst (by decide) (by decide) (by decide)]
        simp only [Res.ofO_some, op2_ok]
        rw [addD_lst (by decide)]
        simp only [Res.ofO_some, op2_ok]
        rw [addD_lst (by decide)]
        rfl
      rw [e1]
      simp only [consR_ok, callR_ok, List.append_nil, er]
    have at' : ∀ (k : Nat) (hk : k < row.length), ixD (.lst (row.map D.int)) (.int k) = some (.int row[k]) := fun k hk => ix_lst (by rw [List.getElem?_map, List.getElem?_eq_getElem hk]; rfl)
    have bnd : ∀ (k : Nat) (hk : k < row.length) (s : Int), gsizes[k]? = some s → 0 ≤ row[k] ∧ row[k] < s := fun k hk s hs => hrow k _ s (List.getElem?_eq_getElem hk) hs
    have b0 := bnd 0 (by omega) 70 rfl
    have b1 := bnd 1 (by omega) 11 rfl
    have b32 := bnd 32 (by omega) 100000000000000000000 rfl
    have hk13 : ∀ k : Nat, k < 30 → gsizes[2 + k]? = some 13 := by decide
    have hk20 : ∀ k : Nat, k < 30 → gsizes[33 + k]? = some 100000000000000000000 := by decide
    refine To.bindE (a := .int row[0]) (by rw [op2_ok, show ixD (.lst (row.map D.int)) (.int 0) = some (.int row[0]) from at' 0 (by omega)]; rfl) ?_
    generalize row[0] = r0 at b0
    refine To.bind (P := fun d => ∃ n : Nat, d = .int n ∧ n ≤ 30) ?_ ?_
    · refine To.ite (k := decide (30 < r0)) (by simp) (fun z => ?_) (fun z => ?_)
      · have z := of_decide_eq_true z
        obtain ⟨x, hx, e2⟩ := pick (l := [0, 1, 2, 3, 4, 5, 6, 2, 3, 4, 30, 1, 3]) (n := (r0 - 31) % 13) (by omega) (by simp; omega)
        have hx2 : 0 ≤ x ∧ x ≤ 30 := by
          simp only [List.mem_cons, List.not_mem_nil, or_false] at hx
          omega
        refine To.of (a := .int x) ?_ ⟨x.toNat, by congr 1; omega, by omega⟩
        simp only [consR_ok]
        rw [disp_go (by simp)]
        simp only [lstV_ok, op2_ok, subD_int, Res.ofO_some, callO_ok, consR_ok, intD_int, modD_pos (show (0 : Int) < 13 by decide)]
        have e3 : ixD (.lst [.int 0, .int 1, .int 2, .int 3, .int 4, .int 5, .int 6, .int 2, .int 3, .int 4, .int 30, .int 1, .int 3]) (.int ((r0 - 31) % 13)) = some (.int x) := e2
        rw [e3]
        rfl
      · have z := of_decide_eq_false z
        exact To.ok ⟨r0.toNat, by congr 1; omega, by omega⟩
    rintro d ⟨many, rfl, hmany⟩
    refine To.bindE (a := .int row[32]) (by rw [op2_ok, show ixD (.lst (row.map D.int)) (.int 32) = some (.int row[32]) from at' 32 (by omega)]; rfl) ?_
    have e1r : op2 ixD (.ok (.lst (row.map D.int))) (.ok (.int 1)) = .ok (.int row[1]) := by rw [op2_ok, show ixD (.lst (row.map D.int)) (.int 1) = some (.int row[1]) from at' 1 (by omega)]; rfl
    rw [e1r]
    generalize row[1] = r1 at b1
    generalize row[32] = am at b32
    refine To.bind (P := fun d => ∃ g : Wt, d = W g ∧ nn g) ?_ ?_
    · obtain ⟨x, hx, e2⟩ := pickW (l := [some 0, some 0, some 0, some 1, some 1, some 2, none, none, some (am % 40), some am, some (am * 1000000000000)]) (n := r1) (by omega) (by simp; omega)
      refine To.of (a := W x) ?_ ⟨x, rfl, ?_⟩
      · simp only [op2_ok, callO_ok, consR_ok, intD_int, Res.ofO_some, modD_pos (show (0 : Int) < 40 by decide), p12, ten12 b32.1 b32.2]
        rw [disp_go (by simp)]
        simp only [lstV_ok, op2_ok]
        have e3 : ixD (.lst [.int 0, .int 0, .int 0, .int 1, .int 1, .int 2, .non, .non, .int (am % 40), .int am, .int (am * 1000000000000)]) (.int r1) = some (W x) := e2
        rw [e3]
        rfl
      · intro j e
        subst e
        simp only [List.mem_cons, List.not_mem_nil, or_false, Option.some.injEq, reduceCtorEq, false_or] at hx
        omega
    rintro d ⟨g0, rfl, hg0⟩
    refine To.bind (P := fun d => ∃ g : Wt, d = W g ∧ nn g) ?_ ?_
    · rw [bl_ok]
      cases tame with
      | false => exact To.ok ⟨g0, rfl, hg0⟩
      | true =>
        simp only [if_true]
        obtain ⟨x, hx, e2⟩ := pickW (l := [some 0, some 0, some 0, some 1, some 1, some 2, some 0, some 0, some (am % 4), some 1, some 3]) (n := r1) (by omega) (by simp; omega)
        refine To.of (a := W x) ?_ ⟨x, rfl, ?_⟩
        · simp only [op2_ok, callO_ok, consR_ok, intD_int, Res.ofO_some, modD_pos (show (0 : Int) < 4 by decide)]
          rw [disp_go (by simp)]
          simp only [lstV_ok, op2_ok]
          have e3 : ixD (.lst [.int 0, .int 0, .int 0, .int 1, .int 1, .int 2, .int 0, .int 0, .int (am % 4), .int 1, .int 3]) (.int r1) = some (W x) := e2
          rw [e3]
          rfl
        · intro j e
          subst e
          simp only [List.mem_cons, List.not_mem_nil, or_false, Option.some.injEq, reduceCtorEq, false_or] at hx
          omega
    rintro d ⟨gain, rfl, hg⟩
    refine To.bindE (a := []) (disp_go (by simp)) ?_
    refine To.bindE rfl ?_
    refine To.bindE (a := (List.range many).map fun (i : Nat) => D.int (i : Int)) ?_ ?_
    · simp only [consR_ok, callOo_ok, rng1_nat (show many ≤ 16777216 by omega), Res.ofO_some]
    refine To.bind (To.forR (fun i s => ∃ es last, s = (es.map W, W last) ∧ Build es last i many gain) ⟨[], some 0, rfl, rfl, fun i e => by cases e; omega, fun k w e => by simp at e, fun k w x e => by simp at e, fun g e => by have := hg g e; exact leW_some.mpr (by omega)⟩ fun i s d hd hp => ?_) ?_
    · obtain ⟨hi, rfl⟩ := range_get hd
      obtain ⟨es, last, rfl, b⟩ := hp
      have c2 : (2 : Int) + i = ((2 + i : Nat) : Int) := by omega
      have c33 : (33 : Int) + i = ((33 + i : Nat) : Int) := by omega
      have x2 := bnd (2 + i) (by omega) 13 (hk13 i (by omega))
      have x33 := bnd (33 + i) (by omega) 100000000000000000000 (hk20 i (by omega))
      have hel : (es.map W).length < 16777216 := by simp [b.len]; omega
      -- the new worth ahead of the cap
      refine To.bind (P := fun d => ∃ w : Wt, d = W w ∧ leW last w ∧ leW (some (i : Int)) w ∧ nn w ∧ (gain.isSome → w.isSome)) ?_ ?_
      · cases hlast : last with
        | none =>
          refine To.iteF (by simp) (To.ok ⟨none, rfl, leW_none _, leW_none _, fun i e => (by cases e), fun hgs => ?_⟩)
          cases hgg : gain with
          | none => rw [hgg] at hgs; simp at hgs
          | some g => have := b.cap g hgg; rw [hlast] at this; have := leW_of_none this; cases this
        | some l =>
          have hl0 : 0 ≤ l := b.lnn l hlast
          have hmx : 0 ≤ (if (i : Int) > l then (i : Int) else l) := by split <;> omega
          obtain ⟨w, ew, hw1, hw2⟩ := entry_ok (kind := row[2 + i]) (amount := row[33 + i]) (least := if (i : Int) > l then (i : Int) else l) (endless := gain.isNone) x2 x33 hmx
          refine To.iteT (by simp) (To.of (a := W w) ?_ ⟨w, rfl, leW_trans (leW_some.mpr ?_) hw1, leW_trans (leW_some.mpr ?_) hw1, fun j e => ?_, fun hgs => hw2 ?_⟩)
          · simp only [op2_ok, addD_int, Res.ofO_some, c2, c33, at' (2 + i) (by omega), at' (33 + i) (by omega), W_some, consR_ok, callO_ok, maxD_int, isND_non, isNon_W, callR_ok, List.append_nil, ew, Res.ok_bind]
          · split <;> omega
          · split <;> omega
          · rw [e, leW_some] at hw1; omega
          · cases hgg : gain with
            | none => rw [hgg] at hgs; simp at hgs
            | some g => rfl
      rintro d ⟨w, rfl, w1, w2, w3, w4⟩
      refine To.bind (P := fun d => ∃ x : Wt, d = W x ∧ leW last x ∧ leW (some (i : Int)) x ∧ nn x ∧ ∀ g, gain = some g → leW x (some (many + g))) ?_ ?_
      · cases hgg : gain with
        | none => exact To.iteF (by simp) (To.ok ⟨w, rfl, w1, w2, w3, fun g e => by cases e⟩)
        | some g =>
          have hg0 := hg g hgg
          cases w with
          | none => rw [hgg] at w4; simp at w4
          | some v =>
            have hc := b.cap g hgg
            refine To.iteT (by simp) (To.of (a := W (some (if (many : Int) + g < v then (many : Int) + g else v))) ?_ ⟨_, rfl, ?_, ?_, ?_, ?_⟩)
            · simp only [op2_ok, W_some, addD_int, Res.ofO_some, consR_ok, callO_ok, minD_int, Res.ok_bind]
            · split
              · exact hc
              · exact w1
            · rw [leW_some] at w2 ⊢; split <;> omega
            · intro j e
              have hv := w3 v rfl
              cases e
              split <;> omega
            · intro g' e
              cases e
              rw [leW_some]
              split <;> omega
      rintro d ⟨x, rfl, y1, y2, y3, y4⟩
      refine To.appR hel (To.ok rfl) ?_
      rintro d rfl
      exact To.ok ⟨es ++ [x], x, by simp, b.push y1 y2 y3 y4⟩
    · rintro s ⟨es, last, rfl, b⟩
      simp only [List.length_map, List.length_range] at b
      refine To.of ?_ ⟨(es, gain), rfl, b.good hmany hg⟩
      simp only [consR_ok]
      exact LG_mk es gain
  obtain ⟨d, e, p, rfl, h⟩ := main
  exact ⟨p, e, h⟩
/-! a grade that stands at a number -/
theorem rng2_nat {a b : Nat} (ha : a ≤ 16777216) (hb : b ≤ 16777216) : rng2 [.int a, .int b] = some ((List.range (b - a)).map fun (i : Nat) => D.int ((a + i : Nat) : Int)) := by
  have h : (2 : Int) ^ 62 = 4611686018427387904 := by decide
  simp only [rng2]
  rw [if_pos (by omega)]
  congr 1
  unfold intsD
  rw [show ((b : Int) - a).toNat = b - a by omega]
  simp
theorem map_get {n i : Nat} {g : Nat → D} {d : D} (h : ((List.range n).map g)[i]? = some d) : i < n ∧ d = g i := by
  rw [List.getElem?_map] at h
  cases q : (List.range n)[i]? with
  | none => rw [q] at h; cases h
  | some k =>
    rw [q] at h
    have hi : i < n := by
      have := (List.getElem?_eq_some_iff.mp q).1
      simpa using this
    rw [List.getElem?_range hi] at q
    cases q
    cases h
    exact ⟨hi, rfl⟩
theorem tab_eq (t : List Wt) (m : Wt) : ((List.range t.length).map fun (n : Nat) => ledF t m (some (n : Int))) = t := by
  apply List.ext_getElem
  · simp
  · intro i h1 h2
    simp only [List.getElem_map, List.getElem_range]
    exact ledF_in h2
theorem longer_ok (p : List Wt × Wt) (hp : p.1.length ≤ 30) (many : Nat) (hm : many ≤ 40) : m__law_longer [LG p, .int many] = .ok (LG ((List.range (p.1.length + (many - p.1.length))).map (fun (n : Nat) => ledF p.1 p.2 (some (n : Int))), p.2)) := by
  refine To.eq ?_
  show To (b__law_longer (LG p) (.int many)) _
  unfold b__law_longer
  refine To.bindE (a := p.1.map W) (by simp [ix0]) ?_
  refine To.bindE (a := (List.range (many - p.1.length)).map fun (i : Nat) => D.int ((p.1.length + i : Nat) : Int)) ?_ ?_
  · simp only [op2_ok, ix0, Res.ofO_some, consR_ok, callO_ok, lenD_lst, List.length_map, callOo_ok, rng2_nat (show p.1.length ≤ 16777216 by omega) (show many ≤ 16777216 by omega)]
  refine To.bind (To.forR (fun i s => s = ((List.range (p.1.length + i)).map fun (n : Nat) => ledF p.1 p.2 (some (n : Int))).map W) ?_ fun i s d hd hs => ?_) ?_
  · rw [Nat.add_zero, tab_eq]
  · obtain ⟨hi, rfl⟩ := map_get hd
    subst hs
    have hnew : ledF p.1 p.2 (some ((p.1.length + i : Nat) : Int)) = bey ((p.1.length + i : Nat) : Int) p.2 := ledF_out (by omega)
    have hfin : ((List.range (p.1.length + (i + 1))).map fun (n : Nat) => ledF p.1 p.2 (some (n : Int))).map W = ((List.range (p.1.length + i)).map fun (n : Nat) => ledF p.1 p.2 (some (n : Int))).map W ++ [W (bey ((p.1.length + i : Nat) : Int) p.2)] := by
      rw [← Nat.add_assoc, List.range_succ, List.map_append, List.map_append, ← hnew]
      rfl
    rw [hfin]
    have hln : (((List.range (p.1.length + i)).map fun (n : Nat) => ledF p.1 p.2 (some (n : Int))).map W).length < 16777216 := by simp; omega
    refine To.ite (k := p.2.isSome) (by simp only [op2_ok, ix1, Res.ofO_some, consR_ok, callR_ok, List.append_nil, lwhole_W, truR_ok, truD_bl]) (fun z => ?_) (fun z => ?_)
    · cases q : p.2 with
      | none => rw [q] at z; cases z
      | some g =>
        refine To.appR (by rw [q] at hln; exact hln) (To.of (a := W (bey ((p.1.length + i : Nat) : Int) (some g))) (by simp only [op2_ok, ix1, q, Res.ofO_some, W_some, addD_int]; rfl) rfl) ?_
        rintro d rfl
        exact To.ok rfl
    · cases q : p.2 with
      | some g => rw [q] at z; cases z
      | none =>
        refine To.appR (by rw [q] at hln; exact hln) (To.ok rfl) ?_
        rintro d rfl
        exact To.ok rfl
  · rintro s rfl
    rw [List.length_map, List.length_range]
    refine To.of ?_ rfl
    simp only [op2_ok, ix1, Res.ofO_some, consR_ok]
    exact LG_mk _ _
def cap (N : Int) : Wt → Wt
  | none => some N
  | some e => if N < e then some N else some e
def stF (f : Nat → Wt) (N : Nat) (n : Nat) : Wt := if n < N then cap N (f n) else if n = N then some (N : Int) else f n
theorem stF_lt {f : Nat → Wt} {N n : Nat} (h : n < N) : stF f N n = cap N (f n) := by unfold stF; rw [if_pos h]
theorem stF_eq {f : Nat → Wt} {N : Nat} : stF f N N = some (N : Int) := by unfold stF; rw [if_neg (by omega), if_pos rfl]
theorem stF_gt {f : Nat → Wt} {N n : Nat} (h : N < n) : stF f N n = f n := by unfold stF; rw [if_neg (by omega), if_neg (by omega)]
theorem cap_mono {N : Int} {a b : Wt} (h : leW a b) : leW (cap N a) (cap N b) := by
  cases a with
  | none => rw [leW_of_none h]; exact leW_refl _
  | some a =>
    cases b with
    | none =>
      simp only [cap]
      split
      · exact leW_refl _
      · exact leW_some.mpr (by omega)
    | some b =>
      have := leW_some.mp h
      simp only [cap]
      split <;> split <;> exact leW_some.mpr (by omega)
theorem cap_le {N : Int} {a : Wt} : leW (cap N a) (some N) := by
  cases a with
  | none => exact leW_refl _
  | some a =>
    simp only [cap]
    split
    · exact leW_refl _
    · exact leW_some.mpr (by omega)
theorem cap_ge {N n : Int} {a : Wt} (h : leW (some n) a) (hn : n ≤ N) : leW (some n) (cap N a) := by
  cases a with
  | none => exact leW_some.mpr hn
  | some a =>
    have := leW_some.mp h
    simp only [cap]
    split <;> exact leW_some.mpr (by omega)
theorem GF.st {f : Nat → Wt} {m : Wt} {L : Nat} (g : GF f m L) (N : Nat) : GF (stF f N) m (L + (N + 1 - L)) := by
  refine ⟨g.pos, fun n => ?_, fun n => ?_, fun n hn => ?_⟩
  · rcases Nat.lt_trichotomy n N with z | z | z
    · rw [stF_lt z]; exact cap_ge (g.ge n) (by omega)
    · subst z; rw [stF_eq]; exact leW_refl _
    · rw [stF_gt z]; exact g.ge n
  · rcases Nat.lt_trichotomy n N with z | z | z
    · rcases Nat.lt_or_ge (n + 1) N with y | y
      · rw [stF_lt z, stF_lt y]; exact cap_mono (g.mono n)
      · have y : n + 1 = N := by omega
        rw [stF_lt z, y, stF_eq]
        exact cap_le
    · subst z
      rw [stF_eq, stF_gt (by omega)]
      exact leW_trans (leW_some.mpr (by omega)) (g.ge (n + 1))
    · rw [stF_gt z, stF_gt (by omega)]; exact g.mono n
  · rw [stF_gt (by omega), g.out n (by omega)]
theorem lstanding_ok {p : List Wt × Wt} (gp : Good p.1 p.2) (N : Nat) (hN : N < 30) : ∃ q : List Wt × Wt, m__law_standing [LG p, .int N] = .ok (LG q) ∧ Good q.1 q.2 := by
  have hl := gp.len
  obtain ⟨r, hr⟩ : ∃ r, p.1.length + (N + 1 - p.1.length) = N + 1 + r := ⟨p.1.length + (N + 1 - p.1.length) - (N + 1), by omega⟩
  have G := gp.gf.st N
  have gd := G.good (by omega)
  refine ⟨(_, p.2), ?_, gd⟩
  refine To.eq ?_
  show To (b__law_standing (LG p) (.int N)) _
  unfold b__law_standing
  have lo := longer_ok p hl (N + 1) (by omega)
  generalize hf : (fun (n : Nat) => ledF p.1 p.2 (some (n : Int))) = f at lo gd ⊢
  rw [hr] at lo ⊢
  have e1 : ((N : Int) + 1) = ((N + 1 : Nat) : Int) := by omega
  refine To.bindE (a := .lst (((List.range (N + 1 + r)).map f).map W)) ?_ ?_
  · simp only [op2_ok, addD_int, Res.ofO_some, e1, consR_ok, callR_ok, List.append_nil, lo, ix0]
  refine To.bindE (a := []) (by rw [dispR_ok]; rfl) ?_
  have etake : (((List.range (N + 1 + r)).map f).map W).take N = ((List.range N).map f).map W := by
    rw [← List.map_take, ← List.map_take, List.take_range, Nat.min_eq_left (by omega)]
  refine To.bindE (a := ((List.range N).map f).map W) ?_ ?_
  · rw [slice_lst_take _ _ (by simp; omega), etake, itemsR_ok, itemsD_lst, Res.ofO_some]
  refine To.bind (To.forR (fun i s => s = ((List.range i).map fun (n : Nat) => cap N (f n)).map W) rfl fun i s d hd hs => ?_) ?_
  · rw [List.map_map] at hd
    obtain ⟨hi, rfl⟩ := map_get hd
    subst hs
    have hfin : ((List.range (i + 1)).map fun (n : Nat) => cap N (f n)).map W = ((List.range i).map fun (n : Nat) => cap N (f n)).map W ++ [W (cap N (f i))] := by
      rw [List.range_succ, List.map_append, List.map_append]
      rfl
    have hln : (((List.range i).map fun (n : Nat) => cap N (f n)).map W).length < 16777216 := by simp; omega
    rw [hfin]
    simp only [Function.comp]
    cases q : f i with
    | none =>
      refine To.iteT (by simp) (To.appR hln (To.ok rfl) ?_)
      rintro d rfl
      exact To.ok rfl
    | some e =>
      refine To.ite (k := decide ((N : Int) < e)) (by simp) (fun z => ?_) (fun z => ?_)
      · refine To.appR hln (To.ok rfl) ?_
        rintro d rfl
        refine To.ok ?_
        simp only [cap, if_pos (of_decide_eq_true z), W_some]
      · refine To.appR hln (To.ok rfl) ?_
        rintro d rfl
        refine To.ok ?_
        simp only [cap, if_neg (of_decide_eq_false z), W_some]
  · rintro s rfl
    rw [List.length_map, List.length_map, List.length_range]
    have edrop : (((List.range (N + 1 + r)).map f).map W).drop (N + 1) = (((List.range r).map fun j => f (N + 1 + j)).map W) := by
      rw [List.range_add, List.map_append, List.map_append, List.drop_append_of_le_length (by simp), List.drop_of_length_le (by simp), List.nil_append, List.map_map (f := (fun x => N + 1 + x))]
      rfl
    have a1 : (List.range N).map (stF f N) = (List.range N).map fun (n : Nat) => cap N (f n) := List.map_congr_left fun n hn => stF_lt (by simpa using hn)
    have a2 : (List.range r).map (stF f N ∘ fun x => N + 1 + x) = (List.range r).map fun j => f (N + 1 + j) := List.map_congr_left fun j _ => stF_gt (show N < N + 1 + j by omega)
    have efin : ((List.range (N + 1 + r)).map (stF f N)).map W = (((List.range N).map fun (n : Nat) => cap N (f n)).map W ++ [.int (N : Int)]) ++ ((List.range r).map fun j => f (N + 1 + j)).map W := by
      rw [List.range_add, List.range_succ, List.map_append, List.map_append, List.map_append, List.map_append, List.map_map (f := (fun x => N + 1 + x)), a1, a2, List.map_cons, List.map_nil, stF_eq]
      rfl
    refine To.of ?_ rfl
    simp only [op2_ok, ix1, Res.ofO_some, consR_ok, addD_int, e1, slice_lst_drop, edrop]
    rw [disp_go (by simp)]
    simp only [lstV_ok, op2_ok]
    rw [addD_lst (by simp; omega), Res.ofO_some, op2_ok, addD_lst (by simp; omega), Res.ofO_some, consR_ok, ← efin]
    exact LG_mk _ _
/-! groupings -/
theorem propR_G (m : List D → Res D) (u : List Wt) (k : Wt) : propR 0 m (.ok (Gobj u k)) = noErr (m [Gobj u k]) := rfl
theorem methR_G (m : List D → Res D) (u : List Wt) (k : Wt) (l : List D) : methR 0 m [] (.ok (Gobj u k)) (.ok l) = m (Gobj u k :: (l ++ [])) := rfl
theorem callI_G (m : List D → Res D) (u : List Wt) (k : Wt) (l : List D) : callI 0 m (.ok (Gobj u k)) (.ok l) = m (Gobj u k :: l) := rfl
theorem own2R_G (m : List D → Res D) (u v : List Wt) (k j : Wt) : own2R 0 m (.ok (Gobj u k)) (.ok (Gobj v j)) = m [Gobj u k, Gobj v j] := rfl
theorem ownEqR_G (m : List D → Res D) (u v : List Wt) (k j : Wt) : ownEqR sub_ 0 m (.ok (Gobj u k)) (.ok (Gobj v j)) = m [Gobj u k, Gobj v j] := rfl
/-- objects that are the grades of a row of functions -/
inductive Objs : List D → List ((Nat → Wt) × Wt) → Prop
  | nil : Objs [] []
  | cons {o : D} {r : (Nat → Wt) × Wt} {os : List D} {rs : List ((Nat → Wt) × Wt)} : IsG o r.1 r.2 → Objs os rs → Objs (o :: os) (r :: rs)
theorem Objs.length : ∀ {os : List D} {rs : List ((Nat → Wt) × Wt)}, Objs os rs → os.length = rs.length
  | _, _, .nil => rfl
  | _, _, .cons _ h => congrArg (· + 1) h.length
theorem Objs.get : ∀ {os : List D} {rs : List ((Nat → Wt) × Wt)}, Objs os rs → ∀ (i : Nat) (h : i < os.length) (h' : i < rs.length), IsG os[i] rs[i].1 rs[i].2
  | _, _, .nil, i, h, _ => absurd h (Nat.not_lt_zero i)
  | _, _, .cons g r, 0, _, _ => g
  | _, _, .cons g r, i + 1, h, h' => r.get i (Nat.lt_of_succ_lt_succ h) (Nat.lt_of_succ_lt_succ h')
theorem Objs.append : ∀ {os ps : List D} {rs qs : List ((Nat → Wt) × Wt)}, Objs os rs → Objs ps qs → Objs (os ++ ps) (rs ++ qs)
  | _, _, _, _, .nil, h => h
  | _, _, _, _, .cons g r, h => .cons g (r.append h)
theorem Objs.take : ∀ {os : List D} {rs : List ((Nat → Wt) × Wt)} (n : Nat), Objs os rs → Objs (os.take n) (rs.take n)
  | _, _, 0, _ => .nil
  | _, _, _ + 1, .nil => .nil
  | _, _, n + 1, .cons g r => .cons g (r.take n)
theorem Objs.drop : ∀ {os : List D} {rs : List ((Nat → Wt) × Wt)} (n : Nat), Objs os rs → Objs (os.drop n) (rs.drop n)
  | _, _, 0, h => h
  | _, _, _ + 1, .nil => .nil
  | _, _, n + 1, .cons g r => r.drop n
def allF (rs : List ((Nat → Wt) × Wt)) (w : Wt) : Wt := rs.foldl (fun w r => apF r.1 w) w
def allM (rs : List ((Nat → Wt) × Wt)) : Wt := rs.foldl (fun w r => addW w r.2) (some 0)
theorem addW_assoc (a b c : Wt) : addW (addW a b) c = addW a (addW b c) := by
  cases a <;> cases b <;> cases c <;> simp [addW, Int.add_assoc]
theorem addW_zero (a : Wt) : addW (some 0) a = a := by cases a <;> simp [addW]
def two (r q : (Nat → Wt) × Wt) : (Nat → Wt) × Wt := (fun n => apF q.1 (r.1 n), addW r.2 q.2)
theorem apF_two (r q : (Nat → Wt) × Wt) (w : Wt) : apF (two r q).1 w = apF q.1 (apF r.1 w) := by cases w <;> rfl
theorem merge_F {rs : List ((Nat → Wt) × Wt)} {i : Nat} (h : i + 1 < rs.length) (w : Wt) : allF (rs.take i ++ [two rs[i] rs[i + 1]] ++ rs.drop (i + 2)) w = allF rs w := by
  have e : rs = rs.take i ++ [rs[i], rs[i + 1]] ++ rs.drop (i + 2) := by
    have h1 : rs.drop i = rs[i] :: rs.drop (i + 1) := List.drop_eq_getElem_cons (by omega)
    have h2 : rs.drop (i + 1) = rs[i + 1] :: rs.drop (i + 2) := List.drop_eq_getElem_cons h
    conv => lhs; rw [← List.take_append_drop i rs, h1, h2]
    simp
  conv => rhs; rw [e]
  unfold allF
  simp only [List.foldl_append, List.foldl_cons, List.foldl_nil, apF_two]
theorem merge_M {rs : List ((Nat → Wt) × Wt)} {i : Nat} (h : i + 1 < rs.length) : allM (rs.take i ++ [two rs[i] rs[i + 1]] ++ rs.drop (i + 2)) = allM rs := by
  have e : rs = rs.take i ++ [rs[i], rs[i + 1]] ++ rs.drop (i + 2) := by
    have h1 : rs.drop i = rs[i] :: rs.drop (i + 1) := List.drop_eq_getElem_cons (by omega)
    have h2 : rs.drop (i + 1) = rs[i + 1] :: rs.drop (i + 2) := List.drop_eq_getElem_cons h
    conv => lhs; rw [← List.take_append_drop i rs, h1, h2]
    simp
  conv => rhs; rw [e]
  unfold allM
  simp only [List.foldl_append, List.foldl_cons, List.foldl_nil, two, addW_assoc]
/-! the two looks -/
theorem tells_ok {o : D} {f : Nat → Wt} {p : List Wt × Wt} (g : IsG o f p.2) (hp : p.1.length ≤ 30) (hf : ∀ n : Nat, ledF p.1 p.2 (some n) = f n) (ws : List Wt) (hw : ∀ w ∈ ws, nn w) : m__law_tells [o, LG p, .lst (ws.map W)] = .ok (.bl true) := by
  refine To.eq ?_
  obtain ⟨u, rfl, hu, hl, hfu⟩ := g.ex
  obtain ⟨v, ev, hv1, hv2, hv3⟩ := least_entries_ok hp
  have huv : u = v := lst_uniq hu hv2 fun n => (hfu n).trans ((hf n).symm.trans (hv1 n).symm)
  show To (b__law_tells (Gobj u p.2) (LG p) (.lst (ws.map W))) _
  unfold b__law_tells
  have e1 : isCD sub_ 0 (Gobj u p.2) = some (.bl true) := rfl
  refine To.iteF ?_ (To.iteF ?_ ?_)
  · simp only [op1_ok, e1, Res.ofO_some, truR_ok, truD_bl, notB_ok, Bool.not_true, orB_false, fld_table, consR_ok, callR_ok, List.append_nil, ev, same_tup u v hl (by omega) huv]
  · simp only [op1_ok, fld_more, Res.ofO_some, op2_ok, ix1, consR_ok, callR_ok, List.append_nil, same_W, truR_ok, truD_bl, decide_true, notB_ok, Bool.not_true]
  refine To.bindE (a := ws.map W) (by simp) ?_
  refine To.lp (To.forG (fun _ _ => True) (fun _ => False) (fun _ => False) trivial fun i s d hd _ => ?_) (fun _ _ => To.ok rfl) (fun _ h => h.elim)
  rw [List.getElem?_map] at hd
  cases q : ws[i]? with
  | none => rw [q] at hd; cases hd
  | some w =>
    rw [q] at hd
    cases hd
    have hn := hw w (List.mem_of_getElem? q)
    have ec : callI 0 m_Grade_call (.ok (Gobj u p.2)) (consR (.ok (W w)) (.ok [])) = .ok (W (apF f w)) := by
      rw [← call_ok g hn, consR_ok, callI_G]
    have hfw : ledF p.1 p.2 w = apF f w := IsG.fl hf hn
    refine To.iteF ?_ (To.ok trivial)
    rw [ec]
    simp only [consR_ok, callR_ok, List.append_nil, at_ok p hn, same_W, hfw, decide_true, truR_ok, Res.ofO_some, truD_bl, notB_ok, Bool.not_true]
/-- whether all stand -/
def allSt (gs : List (List Wt × Wt)) (n : Nat) : Bool := gs.all fun p => decide (ledF p.1 p.2 (some (n : Int)) = some (n : Int))
/-! rows of grades -/
def rf (p : List Wt × Wt) : (Nat → Wt) × Wt := (fun (n : Nat) => ledF p.1 p.2 (some (n : Int)), p.2)
theorem nn_nat (n : Nat) : nn (some (n : Int)) := fun j e => by cases e; omega
theorem allF_thr : ∀ (gs : List (List Wt × Wt)) {w : Wt}, (∀ p ∈ gs, Good p.1 p.2) → nn w → allF (gs.map rf) w = thr gs w
  | [], _, _, _ => rfl
  | p :: gs, w, h, hw => by
    have hp := h p List.mem_cons_self
    have e : apF (rf p).1 w = ledF p.1 p.2 w := (IsG.fl (fun _ => rfl) hw).symm
    show allF (gs.map rf) (apF (rf p).1 w) = thr gs (ledF p.1 p.2 w)
    rw [e]
    exact allF_thr gs (fun q hq => h q (List.mem_cons_of_mem _ hq)) (nn_led hp hw)
theorem allM_tot (gs : List (List Wt × Wt)) : allM (gs.map rf) = tot gs := by
  unfold allM tot
  rw [List.foldl_map]
  rfl
theorem led_ge {p : List Wt × Wt} (g : Good p.1 p.2) {w : Wt} (hw : nn w) : leW w (ledF p.1 p.2 w) := by
  cases w with
  | none => exact leW_none _
  | some i =>
    obtain ⟨n, rfl⟩ := Int.eq_ofNat_of_zero_le (hw i rfl)
    exact g.ge n
theorem thr_ge : ∀ (gs : List (List Wt × Wt)) {w : Wt}, (∀ p ∈ gs, Good p.1 p.2) → nn w → leW w (thr gs w)
  | [], _, _, _ => leW_refl _
  | p :: gs, w, h, hw => by
    have hp := h p List.mem_cons_self
    exact leW_trans (led_ge hp hw) (thr_ge gs (w := ledF p.1 p.2 w) (fun q hq => h q (List.mem_cons_of_mem _ hq)) (nn_led hp hw))
theorem allSt_iff : ∀ (gs : List (List Wt × Wt)), (∀ p ∈ gs, Good p.1 p.2) → ∀ n : Nat, thr gs (some (n : Int)) = some (n : Int) ↔ allSt gs n = true
  | [], _, n => by simp [thr, allSt]
  | p :: gs, h, n => by
    have hp := h p List.mem_cons_self
    have hr : ∀ q ∈ gs, Good q.1 q.2 := fun q hq => h q (List.mem_cons_of_mem _ hq)
    have ih := allSt_iff gs hr n
    have e : allSt (p :: gs) n = (decide (ledF p.1 p.2 (some (n : Int)) = some (n : Int)) && allSt gs n) := rfl
    rw [e, Bool.and_eq_true, decide_eq_true_iff, ← ih]
    show thr gs (ledF p.1 p.2 (some (n : Int))) = some (n : Int) ↔ _
    constructor
    · intro y
      have h1 := thr_ge gs hr (nn_led hp (nn_nat n))
      rw [y] at h1
      have h2 := leW_antisymm h1 (led_ge hp (nn_nat n))
      refine ⟨h2, ?_⟩
      rw [h2] at y
      exact y
    · rintro ⟨y, z⟩
      rw [y]; exact z
theorem mx_fold : ∀ (gs : List (List Wt × Wt)) (L : Nat), L ≤ gs.foldl (fun n p => max n p.1.length) L ∧ ∀ p ∈ gs, p.1.length ≤ gs.foldl (fun n p => max n p.1.length) L
  | [], L => ⟨Nat.le_refl _, fun p hp => by simp at hp⟩
  | q :: gs, L => by
    obtain ⟨h1, h2⟩ := mx_fold gs (max L q.1.length)
    refine ⟨Nat.le_trans (Nat.le_max_left _ _) h1, fun p hp => ?_⟩
    rcases List.mem_cons.mp hp with rfl | hp
    · exact Nat.le_trans (Nat.le_max_right _ _) h1
    · exact h2 p hp
theorem mx_get {gs : List (List Wt × Wt)} {p : List Wt × Wt} (h : p ∈ gs) : p.1.length ≤ mx gs := (mx_fold gs 0).2 p h
theorem mx_30 {gs : List (List Wt × Wt)} (h : ∀ p ∈ gs, Good p.1 p.2) : mx gs ≤ 30 := mx_le gs 0 (by omega) fun p hp => (h p hp).len
theorem thr_append (gs hs : List (List Wt × Wt)) (w : Wt) : thr (gs ++ hs) w = thr hs (thr gs w) := List.foldl_append
theorem tot_from : ∀ (gs : List (List Wt × Wt)) (w : Wt), gs.foldl (fun w p => addW w p.2) w = addW w (tot gs)
  | [], w => by cases w <;> simp [tot, addW]
  | p :: gs, w => by
    show gs.foldl (fun w p => addW w p.2) (addW w p.2) = addW w (gs.foldl (fun w p => addW w p.2) (addW (some 0) p.2))
    rw [tot_from gs, tot_from gs, addW_zero, addW_assoc]
theorem tot_append (gs hs : List (List Wt × Wt)) : tot (gs ++ hs) = addW (tot gs) (tot hs) := by
  unfold tot
  rw [List.foldl_append, tot_from]
  rfl
theorem make_e {t : List Wt} {m : Wt} (b : Bool) (g : Good t m) : ∃ o, makeR 0 i_Grade_init [] (.ok [sq b (t.map W), W m]) = .ok o ∧ IsG o (fun (n : Nat) => ledF t m (some (n : Int))) m := by
  obtain ⟨o, e, h⟩ := make_ok b g
  exact ⟨o, e, h⟩
def mkOne (grade_2 : D) : Res D := makeR 0 i_Grade_init [] (consR (lstV (callOo listO (consR (op2 ixD (.ok grade_2) (.ok (.int 0))) (.ok [])))) (consR (op2 ixD (.ok grade_2) (.ok (.int 1))) (.ok [])))
theorem mkOne_ok {p : List Wt × Wt} (g : Good p.1 p.2) : ∃ o, mkOne (LG p) = .ok o ∧ IsG o (rf p).1 (rf p).2 := by
  obtain ⟨o, e, h⟩ := make_e false g
  refine ⟨o, ?_, h⟩
  unfold mkOne
  simp only [op2_ok, ix0, ix1, Res.ofO_some, consR_ok, callOo_ok, listO_lst, lstV_ok]
  exact e
theorem mapR_objs : ∀ (gs : List (List Wt × Wt)), (∀ p ∈ gs, Good p.1 p.2) → ∃ os, mapR mkOne (gs.map LG) = .ok os ∧ Objs os (gs.map rf)
  | [], _ => ⟨[], rfl, .nil⟩
  | p :: gs, h => by
    obtain ⟨os, e, ho⟩ := mapR_objs gs fun q hq => h q (List.mem_cons_of_mem _ hq)
    obtain ⟨o, e1, g⟩ := mkOne_ok (h p List.mem_cons_self)
    refine ⟨o :: os, ?_, .cons g ho⟩
    rw [List.map_cons, mapR, e1, e]
    rfl
def gid : Good [] (some 0) := GF.id.good (Nat.zero_le _)
theorem GF.nul : GF (fun _ => none) none 0 := ⟨fun j e => (by cases e), fun _ => leW_none _, fun _ => leW_none _, fun _ _ => rfl⟩
def gnul : Good [] none := GF.nul.good (Nat.zero_le _)
theorem set_ok {gs : List (List Wt × Wt)} (hg : ∀ p ∈ gs, Good p.1 p.2) {q : List Wt × Wt} (gq : Good q.1 q.2) (z : Nat) : ∀ p ∈ gs.set z q, Good p.1 p.2 := fun p hp => by
  rcases List.mem_or_eq_of_mem_set hp with h | rfl
  · exact hg p h
  · exact gq
def nums (B : Nat) (ex : List Nat) : List D := (List.range B ++ ex).map fun (n : Nat) => D.int (n : Int)
def wos (B : Nat) (ex : List Nat) : List Wt := ((List.range B ++ ex).map fun (n : Nat) => some (n : Int)) ++ [none]
theorem wos_nn (B : Nat) (ex : List Nat) : ∀ w ∈ wos B ex, nn w := fun w hw => by
  rcases List.mem_append.mp hw with h | h
  · obtain ⟨n, _, rfl⟩ := List.mem_map.mp h
    exact nn_nat n
  · have : w = none := by simpa using h
    subst this
    exact fun j e => by cases e
theorem wos_W (B : Nat) (ex : List Nat) : (wos B ex).map W = nums B ex ++ [.non] := by
  unfold wos nums
  rw [List.map_append, List.map_map]
  rfl
def due (gs : List (List Wt × Wt)) : List Wt × Wt := ((List.range (mx gs)).map (fun (n : Nat) => thr gs (some (n : Int))), tot gs)
theorem tells_due {gs : List (List Wt × Wt)} (h : ∀ p ∈ gs, Good p.1 p.2) {o : D} (g : IsG o (fun (n : Nat) => thr gs (some (n : Int))) (tot gs)) (B : Nat) (ex : List Nat) : m__law_tells [o, LG (due gs), .lst (nums B ex ++ [.non])] = .ok (.bl true) := by
  rw [← wos_W]
  exact tells_ok (p := due gs) g (by have := mx_30 h; simpa [due] using this) (fun n => (row_GF gs h).tab n) _ (wos_nn B ex)
theorem tells_one {p : List Wt × Wt} (h : Good p.1 p.2) {o : D} (g : IsG o (rf p).1 (rf p).2) (B : Nat) (ex : List Nat) : m__law_tells [o, LG p, .lst (nums B ex ++ [.non])] = .ok (.bl true) := by
  rw [← wos_W]
  exact tells_ok (p := p) g h.len (fun n => rfl) _ (wos_nn B ex)
theorem own_e {o1 o2 : D} {f1 f2 : Nat → Wt} {m1 m2 : Wt} (g1 : IsG o1 f1 m1) (g2 : IsG o2 f2 m2) : ∃ o, own2R 0 m_Grade_rshift (.ok o1) (.ok o2) = .ok o ∧ IsG o (fun n => apF f2 (f1 n)) (addW m1 m2) := by
  obtain ⟨u1, r1, _⟩ := g1.ex
  obtain ⟨u2, r2, _⟩ := g2.ex
  obtain ⟨o, e, h⟩ := shift_ok g1 g2
  refine ⟨o, ?_, h⟩
  rw [← e, r1, r2, own2R_G]
theorem eq_e {o1 o2 : D} {f : Nat → Wt} {m : Wt} (g1 : IsG o1 f m) (g2 : IsG o2 f m) : ownEqR sub_ 0 m_Grade_eq (.ok o1) (.ok o2) = .ok (.bl true) := by
  rw [g1.uniq g2]
  obtain ⟨u, r, _⟩ := g2.ex
  rw [r, ownEqR_G, eq_ok]
  simp
theorem p3 : powD (.int 10) (.int 3) = some (.int 1000) := by rw [powD_int (by decide) (by decide) (by decide)]; rfl
theorem p18 : powD (.int 10) (.int 18) = some (.int 1000000000000000000) := by rw [powD_int (by decide) (by decide) (by decide)]; rfl
theorem p40 : powD (.int 10) (.int 40) = some (.int 10000000000000000000000000000000000000000) := by rw [powD_int (by decide) (by decide) (by decide)]; rfl
theorem raw_ok (c : Int) (hc : c.natAbs.log2 ≤ 1048576) (s3 : Int) : ∃ r : Nat, op2 repD (callO absD (consR (callO intD (consR (.ok (.int c)) (.ok []))) (.ok []))) (op2 ixD (lstV (dispR (consR (.ok (.int 1)) (consR (op2 powD (.ok (.int 10)) (.ok (.int 64))) (.ok []))))) (op2 modD (callO intD (consR (.ok (.int s3)) (.ok []))) (.ok (.int 2)))) = .ok (.int r) := by
  obtain ⟨x, hx, e2⟩ := pick (l := [1, 10 ^ 64]) (n := s3 % 2) (by omega) (by simp; omega)
  have e3 : ixD (.lst [.int 1, .int (10 ^ 64)]) (.int (s3 % 2)) = some (.int x) := e2
  have ha : (if c < 0 then -c else c) = (c.natAbs : Int) := by split <;> omega
  have hx2 : 0 ≤ x ∧ x.natAbs.log2 ≤ 1000 := by
    simp only [List.mem_cons, List.not_mem_nil, or_false] at hx
    rcases hx with rfl | rfl
    · decide
    · exact ⟨by decide, by decide +kernel⟩
  refine ⟨c.natAbs * x.toNat, ?_⟩
  simp only [op2_ok, p64, Res.ofO_some, consR_ok, callO_ok, intD_int, absD_int, ha, modD_pos (show (0 : Int) < 2 by decide)]
  rw [disp_go (by simp)]
  simp only [lstV_ok, op2_ok, e3, Res.ofO_some]
  rw [repD_int (by simp only [Int.natAbs_natCast]; omega), Res.ofO_some]
  congr 2
  rw [Int.natCast_mul, Int.toNat_of_nonneg hx2.1]
theorem thr_none : ∀ gs : List (List Wt × Wt), thr gs none = none
  | [] => rfl
  | p :: gs => thr_none gs
theorem thr_ap (gs : List (List Wt × Wt)) {w : Wt} (hw : nn w) : apF (fun (n : Nat) => thr gs (some (n : Int))) w = thr gs w := by
  cases w with
  | none => exact (thr_none gs).symm
  | some i =>
    show thr gs (some ((i.toNat : Nat) : Int)) = _
    rw [Int.toNat_of_nonneg (hw i rfl)]
theorem take_two {α : Type} : ∀ (l : List α) (h : 2 ≤ l.length), l.take 2 = [l[0]'(by omega), l[1]'(by omega)]
  | a :: b :: r, _ => rfl
theorem flags_ok (b1 b2 b3 : Bool) : andB (.ok b1) (orB (.ok b2) (.ok b3)) = .ok (b1 && (b2 || b3)) := by cases b1 <;> cases b2 <;> cases b3 <;> rfl
end K03

namespace K03
open PySem PySem.Spec PyProof.Rows L2 Px
/-! the lesser of two -/
def minW : Wt → Wt → Wt
  | none, b => b
  | some a, none => some a
  | some a, some b => if a < b then some a else some b
theorem minW_bef (a b : Wt) : minW a b = if bef a b then a else b := by
  cases a <;> cases b <;> simp [minW, bef]
theorem minW_none (a : Wt) : minW a none = a := by cases a <;> rfl
theorem minW_le1 (a b : Wt) : leW (minW a b) a := by
  cases a with
  | none => exact leW_none _
  | some a =>
    cases b with
    | none => exact leW_refl _
    | some b =>
      simp only [minW]
      split
      · exact leW_refl _
      · exact leW_some.mpr (by omega)
theorem minW_le2 (a b : Wt) : leW (minW a b) b := by
  cases a with
  | none => exact leW_refl _
  | some a =>
    cases b with
    | none => exact leW_none _
    | some b =>
      simp only [minW]
      split
      · exact leW_some.mpr (by omega)
      · exact leW_refl _
theorem minW_ge {a b c : Wt} (h1 : leW c a) (h2 : leW c b) : leW c (minW a b) := by
  rw [minW_bef]; split
  · exact h1
  · exact h2
theorem minW_mono {a b c d : Wt} (h1 : leW a c) (h2 : leW b d) : leW (minW a b) (minW c d) :=
  minW_ge (leW_trans (minW_le1 _ _) h1) (leW_trans (minW_le2 _ _) h2)
theorem minW_nn {a b : Wt} (h1 : nn a) (h2 : nn b) : nn (minW a b) := by
  rw [minW_bef]; split
  · exact h1
  · exact h2
theorem minW_bey (n : Int) (a b : Wt) : minW (bey n a) (bey n b) = bey n (minW a b) := by
  cases a with
  | none => cases b <;> rfl
  | some a =>
    cases b with
    | none => rfl
    | some b =>
      simp only [minW, bey, Option.map_some]
      by_cases h : a < b
      · rw [if_pos (show n + a < n + b by omega), if_pos h]; rfl
      · rw [if_neg (show ¬ n + a < n + b by omega), if_neg h]; rfl
theorem GF.min {f g : Nat → Wt} {m k : Wt} {L M : Nat} (a : GF f m L) (b : GF g k M) : GF (fun n => minW (f n) (g n)) (minW m k) (max L M) :=
  ⟨minW_nn a.pos b.pos, fun n => minW_ge (a.ge n) (b.ge n), fun n => minW_mono (a.mono n) (b.mono n), fun n hn => by
    show minW (f n) (g n) = _
    rw [a.out n (by omega), b.out n (by omega), minW_bey]⟩
theorem lesser_ok (a b : Wt) : m__law_lesser [W a, W b] = .ok (W (minW a b)) := by
  cases a <;> cases b <;> simp [m__law_lesser, b__law_lesser, minW]
  split <;> simp_all
theorem least2_ok (a b : Wt) : m_least_of [.lst [W a, W b]] = .ok (W (minW a b)) := by
  show b_least_of (.lst [W a, W b]) = _
  unfold b_least_of
  have h1 : m_is_before [W a, .non] = .ok (.bl (bef a none)) := before_W a none
  simp only [itemsR_ok, itemsD_lst, Res.ofO_some, Res.ok_bind, forR, consR_ok, callR_ok, List.append_nil, h1, truR_ok, truD_bl]
  cases a with
  | none =>
    have h2 : m_is_before [W b, .non] = .ok (.bl (bef b none)) := before_W b none
    cases b <;> simp [bef, minW] at h2 ⊢ <;> simp [h2, iteR]
  | some i =>
    have h2 : m_is_before [W b, .int i] = .ok (.bl (bef b (some i))) := before_W b (some i)
    cases b with
    | none => simp [bef, minW] at h2 ⊢; simp [h2, iteR]
    | some j =>
      simp [bef, minW] at h2 ⊢
      simp [h2, iteR]
      by_cases z : j < i
      · simp [z, show ¬ i < j by omega]
      · by_cases y : i < j
        · simp [z, y]
        · have e : i = j := by omega
          subst e
          simp
theorem or_ok {o1 o2 : D} {f1 f2 : Nat → Wt} {m1 m2 : Wt} (g1 : IsG o1 f1 m1) (g2 : IsG o2 f2 m2) : To (m_Grade_or [o1, o2]) fun o => IsG o (fun n => minW (f1 n) (f2 n)) (minW m1 m2) := by
  obtain ⟨u1, rfl, _, l1, h1⟩ := g1.ex
  obtain ⟨u2, rfl, _, l2, h2⟩ := g2.ex
  obtain ⟨L1, G1⟩ := g1.gf
  obtain ⟨L2, G2⟩ := g2.gf
  have G1' : GF f1 m1 u1.length := ⟨G1.pos, G1.ge, G1.mono, isG_out h1⟩
  have G2' : GF f2 m2 u2.length := ⟨G2.pos, G2.ge, G2.mono, isG_out h2⟩
  have G := G1'.min G2'
  show To (b_Grade_or (Gobj u1 m1) (Gobj u2 m2)) _
  unfold b_Grade_or
  have hm : (if (u2.length : Int) > u1.length then (u2.length : Int) else u1.length) = ((max u1.length u2.length : Nat) : Int) := by
    split <;> omega
  refine To.bindE (a := .int ((max u1.length u2.length : Nat) : Int)) ?_ ?_
  · simp only [op1_ok, fld_table, Res.ofO_some, consR_ok, callO_ok, lenD_tup, List.length_map, maxD_int, hm]
  refine To.bindE (a := .lst (((List.range (max u1.length u2.length)).map fun n => minW (f1 n) (f2 n)).map W)) ?_ ?_
  · have e : callOo rng1 (consR (.ok (.int ((max u1.length u2.length : Nat) : Int))) (.ok [])) = .ok ((List.range (max u1.length u2.length)).map fun (i : Nat) => D.int (i : Int)) := by
      rw [consR_ok, callOo_ok, rng1_nat (by omega), Res.ofO_some]
    rw [e, mapL_ok (h := fun n => W (minW (f1 n) (f2 n))) (by simp; omega), List.map_map]
    · rfl
    · intro n _
      have e1 := led_ok (b := true) (t := u1) (m := m1) (w := some n) (fun i e => by cases e; omega)
      simp only [sq, if_true, W_some, h1] at e1
      have e2 := led_ok (b := true) (t := u2) (m := m2) (w := some n) (fun i e => by cases e; omega)
      simp only [sq, if_true, W_some, h2] at e2
      simp only [op1_ok, fld_table, fld_more, Res.ofO_some, consR_ok, callR_ok, List.append_nil, List.cons_append, List.nil_append, e1, e2]
      rw [disp_go (by simp), lstV_ok]
      simp only [consR_ok, callR_ok, List.append_nil, least2_ok]
  have e3 : callR m_least_of [] (consR (lstV (dispR (consR (op1 (fldD at_ "more") (.ok (Gobj u1 m1))) (consR (op1 (fldD at_ "more") (.ok (Gobj u2 m2))) (.ok []))))) (.ok [])) = .ok (W (minW m1 m2)) := by
    simp only [op1_ok, fld_more, Res.ofO_some, consR_ok]
    rw [disp_go (by simp), lstV_ok]
    simp only [consR_ok, callR_ok, List.append_nil, least2_ok]
  rw [e3]
  have gd := G.good (by omega)
  refine (make_ok false gd).mono fun o ho => ho.congr fun n => G.tab n
/-! the forms -/
theorem longer_good {p : List Wt × Wt} (gp : Good p.1 p.2) (many : Nat) (hm : many ≤ 30) : ∃ q : List Wt × Wt, m__law_longer [LG p, .int many] = .ok (LG q) ∧ Good q.1 q.2 ∧ many ≤ q.1.length :=
  ⟨_, longer_ok p gp.len many (by omega), (gp.gf.weak (Nat.le_add_right _ _)).good (by have := gp.len; omega), by simp; omega⟩
def upW (w : Wt) : Wt := w.map (· + 1)
theorem upW_le {a b : Wt} (h : leW a b) : leW (upW a) (upW b) := by
  cases b with
  | none => exact leW_none _
  | some b =>
    cases a with
    | none => cases leW_of_none h
    | some a => exact leW_some.mpr (show a + 1 ≤ b + 1 from Int.add_le_add_right (leW_some.mp h) 1)
theorem GF.up {f : Nat → Wt} {m : Wt} {L : Nat} (a : GF f m L) : GF (fun n => upW (f n)) (upW m) L :=
  ⟨fun j e => by
    cases m with
    | none => cases e
    | some i => have := a.pos i rfl; cases e; show 0 ≤ i + 1; omega, fun n => by
    have := a.ge n
    cases h : f n with
    | none => exact leW_none _
    | some i => rw [h] at this; have := leW_some.mp this; exact leW_some.mpr (show (n : Int) ≤ i + 1 by omega), fun n => upW_le (a.mono n), fun n hn => by
    show upW (f n) = _
    rw [a.out n hn]
    cases m with
    | none => rfl
    | some i => show some ((n : Int) + i + 1) = some ((n : Int) + (i + 1)); congr 1; omega⟩
/-! where a grade stands -/
def nInt (n : Nat) : D := .int (n : Int)
theorem compR_nat {fc : D → Res Bool} {P : Nat → Bool} : ∀ l : List Nat, (∀ n ∈ l, fc (nInt n) = .ok (P n)) → compR fc (fun d => .ok d) (l.map nInt) = .ok ((l.filter P).map nInt)
  | [], _ => rfl
  | n :: l, h => by
    have ih := compR_nat l fun k hk => h k (List.mem_cons_of_mem _ hk)
    rw [List.map_cons, compR, h n List.mem_cons_self, ih, List.filter_cons]
    cases P n <;> rfl
def rowsOf (u : List Wt) (m : Wt) : List Nat := (List.range u.length).filter fun n => decide (ledF u m (some (n : Int)) = some (n : Int))
theorem rows_ok (b : Bool) (u : List Wt) (m : Wt) (hu : u.length ≤ 30) (fc : D → Res Bool) (hfc : ∀ d, fc d = blR (op2 eqD (op2 ixD (.ok (sq b (u.map W))) (.ok d)) (.ok d))) : compL fc (fun d => .ok d) (.ok ((List.range u.length).map fun (i : Nat) => D.int (i : Int))) = .ok ((rowsOf u m).map nInt) := by
  unfold compL
  rw [Res.ok_bind, sizeLine_eq, if_pos (by simp; omega)]
  refine compR_nat _ fun n hn => ?_
  have hn : n < u.length := by simpa using hn
  have e := eqD_W u[n] (some (n : Int))
  simp only [W_some] at e
  rw [hfc]
  show blR (op2 eqD (op2 ixD (.ok (sq b (u.map W))) (.ok (.int n))) (.ok (.int n))) = _
  rw [op2_ok, ix_sq (get_W hn), Res.ofO_some, op2_ok, e, ledF_in hn]
  rfl
def toldT (r : List Nat) (b : Bool) : D := .tup [.tup (r.map nInt), .bl b]
theorem nInt_W (r : List Nat) : r.map nInt = (r.map fun (n : Nat) => some (n : Int)).map W := by
  rw [List.map_map]; rfl
theorem neD_told (r : List Nat) (b : Bool) : neD (toldT r b) (toldT r b) = some (.bl false) := by
  have e : toP (toldT r b) = some (.tuple [.tuple ((r.map fun (n : Nat) => some (n : Int)).map pW), .bool b]) := by
    unfold toldT
    rw [nInt_W]
    simp only [toP, toPs, toPs_W, Option.map_some]
  have hl : ∀ u : List Wt, PyData.canLayAll0 (u.map pW) = true := by
    intro u
    induction u with
    | nil => simp [PyData.canLayAll0]
    | cons w u ih => cases w <;> simp [PyData.canLayAll0, PyData.canLay0, pW, ih]
  have hd : ∀ u : List Wt, PyData.depthAll (u.map pW) = 0 := by
    intro u
    induction u with
    | nil => simp [PyData.depthAll]
    | cons w u ih => cases w <;> simp [PyData.depthAll, PyData.depth, pW, ih]
  have hs : ∀ w : List Wt, SeqAt.shaped (.tuple [.tuple (w.map pW), .bool b]) = true := fun w => by
    simp [SeqAt.shaped, PyData.canLay0, PyData.canLayAll0, PyData.depth, PyData.depthAll, hl, hd]
  have hv : ∀ w : List Wt, PyData.eqv (.tuple [.tuple (w.map pW), .bool b]) (.tuple [.tuple (w.map pW), .bool b]) = true := fun w => by
    simp [PyData.eqv, PyData.eqvAll, eqvAll_W]
  unfold neD
  rw [e]
  simp only [hs, hv, Bool.and_self, if_true, Bool.not_true]
theorem more0 (m : Wt) : op2 eqD (.ok (W m)) (.ok (.int 0)) = .ok (.bl (decide (m = some 0))) := by
  have e := eqD_W m (some 0)
  simp only [W_some] at e
  rw [op2_ok, e]
  rfl
theorem rows_len (u : List Wt) (m : Wt) : (rowsOf u m).length ≤ u.length := by
  have := List.length_filter_le (fun (n : Nat) => decide (ledF u m (some (n : Int)) = some (n : Int))) (List.range u.length)
  simpa [rowsOf] using this
theorem least_uniq {f : Nat → Wt} {B B' : Nat} {s s' : Wt} (h : LeastSt f B s) (h' : LeastSt f B' s') : s = s' := by
  rcases h with ⟨rfl, h⟩ | ⟨k, rfl, hk, hkl, _⟩
  · rcases h' with ⟨rfl, _⟩ | ⟨j, rfl, hj, _, _⟩
    · rfl
    · exact absurd hj (h j)
  · rcases h' with ⟨rfl, h'⟩ | ⟨j, rfl, hj, hjl, _⟩
    · exact absurd hk (h' k)
    · rcases Nat.lt_trichotomy k j with w | w | w
      · exact absurd hk (hjl k w)
      · rw [w]
      · exact absurd hj (hkl j w)
theorem rows_head {u : List Wt} {m : Wt} {n : Nat} {r : List Nat} (h : rowsOf u m = n :: r) : n < u.length ∧ ledF u m (some (n : Int)) = some (n : Int) ∧ ∀ j : Nat, j < n → ledF u m (some (j : Int)) ≠ some (j : Int) := by
  have hm : ∀ k, k ∈ rowsOf u m ↔ k < u.length ∧ ledF u m (some (k : Int)) = some (k : Int) := fun k => by simp [rowsOf]
  have h1 := (hm n).mp (by rw [h]; exact List.mem_cons_self)
  refine ⟨h1.1, h1.2, fun j hj e => ?_⟩
  have hjm := (hm j).mpr ⟨by omega, e⟩
  have hp : (rowsOf u m).Pairwise (· < ·) := List.Pairwise.filter _ List.pairwise_lt_range
  rw [h] at hjm hp
  rcases List.mem_cons.mp hjm with rfl | hjr
  · omega
  · have := (List.pairwise_cons.mp hp).1 j hjr
    omega
theorem rows_nil {u : List Wt} {m : Wt} (h : rowsOf u m = []) : ∀ n : Nat, n < u.length → ledF u m (some (n : Int)) ≠ some (n : Int) := fun n hn e => by
  have : n ∈ rowsOf u m := by simp [rowsOf, hn, e]
  rw [h] at this
  cases this
/-! where two grades part -/
def Fst (P : Nat → Prop) (s : Wt) : Prop := (s = none ∧ ∀ n, ¬ P n) ∨ ∃ k : Nat, s = some (k : Int) ∧ P k ∧ ∀ j, j < k → ¬ P j
theorem fst_uniq {P : Nat → Prop} {s s' : Wt} (h : Fst P s) (h' : Fst P s') : s = s' := by
  rcases h with ⟨rfl, h⟩ | ⟨k, rfl, hk, hkl⟩
  · rcases h' with ⟨rfl, _⟩ | ⟨j, rfl, hj, _⟩
    · rfl
    · exact absurd hj (h j)
  · rcases h' with ⟨rfl, h'⟩ | ⟨j, rfl, hj, hjl⟩
    · exact absurd hk (h' k)
    · rcases Nat.lt_trichotomy k j with w | w | w
      · exact absurd hk (hjl k w)
      · rw [w]
      · exact absurd hj (hkl j w)
theorem bef_le {a b c : Wt} (h : leW a b) (h' : bef b c = true) : bef a c = true := by
  cases hh : bef a c with
  | true => rfl
  | false => have := leW_trans (show leW c a from hh) h; rw [show bef b c = false from this] at h'; cases h'
theorem bey_inj {n : Int} {a b : Wt} (h : bey n a = bey n b) : a = b := by
  cases a <;> cases b <;> simp [bey] at h ⊢
  omega
theorem bey_le {n k : Int} (a : Wt) (h : n ≤ k) : leW (bey n a) (bey k a) := by
  cases a with
  | none => exact leW_none _
  | some a => exact leW_some.mpr (show n + a ≤ k + a by omega)
theorem bey_bef {n : Int} {a b : Wt} : bef (bey n a) (bey n b) = bef a b := by
  cases a <;> cases b <;> simp [bey, bef]
theorem above_eq (l r : Wt) : (!decide (l = r) && decide (minW l r = r)) = bef r l := by
  rw [Bool.eq_iff_iff, Bool.and_eq_true, decide_eq_true_iff]
  cases l with
  | none => cases r <;> simp [minW, bef]
  | some l =>
    cases r with
    | none => simp [minW, bef]
    | some r =>
      by_cases h : l < r
      · simp [minW, bef, h]; omega
      · simp [minW, bef, h]; omega
/-- two functions that go on alike beyond L -/
structure Two (f g : Nat → Wt) (m k : Wt) (L : Nat) : Prop where
  a : GF f m L
  b : GF g k L
theorem Two.mono {f g : Nat → Wt} {m k : Wt} {L : Nat} (t : Two f g m k L) {i j : Nat} (h : i ≤ j) : leW (minW (f i) (g i)) (minW (f j) (g j)) := minW_mono (t.a.mon h) (t.b.mon h)
theorem Two.far {f g : Nat → Wt} {m k : Wt} {L : Nat} (t : Two f g m k L) {n : Nat} (hn : L ≤ n) (h : f n ≠ g n) : f L ≠ g L := fun e => h (by
  rw [t.a.out L (Nat.le_refl _), t.b.out L (Nat.le_refl _)] at e
  rw [t.a.out n hn, t.b.out n hn, bey_inj e])
theorem Two.farA {f g : Nat → Wt} {m k : Wt} {L : Nat} (t : Two f g m k L) {n : Nat} (hn : L ≤ n) (h : bef (g n) (f n) = true) : bef (g L) (f L) = true := by
  rw [t.a.out n hn, t.b.out n hn, bey_bef] at h
  rw [t.a.out L (Nat.le_refl _), t.b.out L (Nat.le_refl _), bey_bef]
  exact h
theorem callI_e {o : D} {f : Nat → Wt} {m : Wt} (h : IsG o f m) (n : Nat) : callI 0 m_Grade_call (.ok o) (consR (.ok (nInt n)) (.ok [])) = .ok (W (f n)) := by
  have e := call_ok h (w := some (n : Int)) (fun j e => by cases e; omega)
  obtain ⟨u, rfl, _⟩ := h.ex
  rw [consR_ok, callI_G]
  exact e
theorem Objs.set : ∀ {os : List D} {rs : List ((Nat → Wt) × Wt)} (i : Nat) {o : D} (h' : i < rs.length), Objs os rs → IsG o rs[i].1 rs[i].2 → Objs (os.set i o) rs
  | _, _, i, _, h', .nil, _ => absurd h' (Nat.not_lt_zero i)
  | _, _, 0, _, _, .cons _ r, g => .cons g r
  | _, _, i + 1, _, h', .cons q r, g => .cons q (Objs.set i (Nat.lt_of_succ_lt_succ h') r g)
theorem ixO_get {os : List D} {k : Nat} (hk : k < os.length) : ixO os (.ok (.int (k : Int))) = .ok os[k] := by
  rw [ixO_ok, atI_nat (List.getElem?_eq_getElem hk)]
  rfl
theorem or_e {o1 o2 : D} {f1 f2 : Nat → Wt} {m1 m2 : Wt} (g1 : IsG o1 f1 m1) (g2 : IsG o2 f2 m2) : ∃ o, own2R 0 m_Grade_or (.ok o1) (.ok o2) = .ok o ∧ IsG o (fun n => minW (f1 n) (f2 n)) (minW m1 m2) := by
  obtain ⟨u1, r1, _⟩ := g1.ex
  obtain ⟨u2, r2, _⟩ := g2.ex
  obtain ⟨o, e, h⟩ := or_ok g1 g2
  refine ⟨o, ?_, h⟩
  rw [← e, r1, r2, own2R_G]
theorem LGs (l : List (List Wt × Wt)) (k : Nat) (hk : k < l.length) : op2 ixD (.ok (.lst (l.map LG))) (.ok (.int (k : Int))) = .ok (LG l[k]) := by
  rw [op2_ok, ix_lst (n := k) (d := LG l[k]) (by rw [List.getElem?_map, List.getElem?_eq_getElem hk]; rfl)]
  rfl
def pairD (p : Nat × Nat) : D := .lst [.int (p.1 : Int), .int (p.2 : Int)]
def pairsL : List (Nat × Nat) := (List.range 8).map (fun k => (k, k)) ++ (List.range 7).map (fun k => (0, 1 + k)) ++ (List.range 7).map (fun k => (1 + k, 0))
theorem pairs_lt : ∀ p ∈ pairsL ++ [(6, 7), (7, 6)], p.1 < 8 ∧ p.2 < 8 := by decide
end K03

namespace K03
open PySem PySem.Spec PyProof.Rows L2 Px
/-! raised pairs -/
def raW (b : Int) (w : Wt) : Wt := w.map (· + b)
theorem raW_le {b : Int} {x y : Wt} (h : leW x y) : leW (raW b x) (raW b y) := by
  cases y with
  | none => exact leW_none _
  | some y =>
    cases x with
    | none => cases leW_of_none h
    | some x => exact leW_some.mpr (show x + b ≤ y + b from Int.add_le_add_right (leW_some.mp h) b)
theorem GF.ra {f : Nat → Wt} {m : Wt} {L : Nat} (a : GF f m L) {b : Int} (hb : 0 ≤ b) : GF (fun n => raW b (f n)) (raW b m) L :=
  ⟨fun j e => by
    cases m with
    | none => cases e
    | some i => have := a.pos i rfl; cases e; show 0 ≤ i + b; omega, fun n => by
    have := a.ge n
    show leW (some (n : Int)) (raW b (f n))
    cases h : f n with
    | none => exact leW_none _
    | some i => rw [h] at this; have := leW_some.mp this; exact leW_some.mpr (show (n : Int) ≤ i + b by omega), fun n => raW_le (a.mono n), fun n hn => by
    show raW b (f n) = _
    rw [a.out n hn]
    cases m with
    | none => rfl
    | some i => show some ((n : Int) + i + b) = some ((n : Int) + (i + b)); congr 1; omega⟩
theorem raised_ok {p : List Wt × Wt} (gp : Good p.1 p.2) {b : Int} (hb : 0 ≤ b) : ∃ r : List Wt × Wt, m__law_raised [LG p, .int b] = .ok (LG r) ∧ Good r.1 r.2 := by
  have G := gp.gf.ra hb
  have l1 := gp.len
  refine ⟨((List.range p.1.length).map fun (n : Nat) => raW b (ledF p.1 p.2 (some (n : Int))), raW b p.2), ?_, G.good (by omega)⟩
  refine To.eq ?_
  show To (b__law_raised (LG p) (.int b)) _
  unfold b__law_raised
  refine To.bindE (a := []) (by rw [dispR_ok]; rfl) ?_
  refine To.bindE (a := ((List.range p.1.length).map fun (n : Nat) => ledF p.1 p.2 (some (n : Int))).map W) (by rw [tab_eq]; simp [ix0]) ?_
  refine To.bind (To.forR (fun i s => s = ((List.range i).map fun (n : Nat) => raW b (ledF p.1 p.2 (some (n : Int)))).map W) rfl fun i s d hd hs => ?_) ?_
  · rw [List.map_map] at hd
    obtain ⟨hi, rfl⟩ := map_get hd
    subst hs
    have hfin : ((List.range (i + 1)).map fun (n : Nat) => raW b (ledF p.1 p.2 (some (n : Int)))).map W = ((List.range i).map fun (n : Nat) => raW b (ledF p.1 p.2 (some (n : Int)))).map W ++ [W (raW b (ledF p.1 p.2 (some (i : Int))))] := by
      rw [List.range_succ, List.map_append, List.map_append]
      rfl
    have hln : (((List.range i).map fun (n : Nat) => raW b (ledF p.1 p.2 (some (n : Int)))).map W).length < 16777216 := by simp; omega
    rw [hfin]
    simp only [Function.comp]
    cases q : ledF p.1 p.2 (some (i : Int)) with
    | none =>
      refine To.iteT (by simp) (To.appR hln (To.ok rfl) ?_)
      rintro d rfl
      exact To.ok rfl
    | some e =>
      refine To.iteF (by simp) (To.appR hln (To.of (a := .int (e + b)) (by simp) rfl) ?_)
      rintro d rfl
      exact To.ok rfl
  · rintro s rfl
    rw [List.length_map, List.length_map, List.length_range]
    cases q : p.2 with
    | none =>
      refine To.iteT (by simp [ix1, q]) (To.of ?_ rfl)
      rw [consR_ok, consR_ok]
      exact LG_mk _ none
    | some g =>
      refine To.iteF (by simp [ix1, q]) (To.of ?_ rfl)
      simp only [op2_ok, ix1, q, W_some, addD_int, Res.ofO_some, consR_ok]
      exact LG_mk _ (some (g + b))
/-! two pairs put together -/
theorem both_ok {p q : List Wt × Wt} (gp : Good p.1 p.2) (gq : Good q.1 q.2) (b : Bool) : ∃ r : List Wt × Wt, m__law_both [LG p, LG q, .bl b] = .ok (LG r) ∧ Good r.1 r.2 ∧
    (∀ n : Nat, ledF r.1 r.2 (some (n : Int)) = if b then apF (rf q).1 ((rf p).1 n) else minW ((rf p).1 n) ((rf q).1 n)) ∧ (r.2 = if b then addW p.2 q.2 else minW p.2 q.2) ∧ r.1.length = max p.1.length q.1.length := by
  have G1 := gp.gf.min gq.gf
  have G2 := gp.gf.comp gq.gf
  have l1 := gp.len
  have l2 := gq.len
  have hm : (if (q.1.length : Int) > p.1.length then (q.1.length : Int) else p.1.length) = ((max p.1.length q.1.length : Nat) : Int) := by
    split <;> omega
  have es : callO maxD (consR (callO lenD (consR (op2 ixD (.ok (LG p)) (.ok (.int 0))) (.ok []))) (consR (callO lenD (consR (op2 ixD (.ok (LG q)) (.ok (.int 0))) (.ok []))) (.ok []))) = .ok (.int ((max p.1.length q.1.length : Nat) : Int)) := by
    simp only [op2_ok, ix0, Res.ofO_some, consR_ok, callO_ok, lenD_lst, List.length_map, maxD_int, hm]
  have e : callOo rng1 (consR (.ok (.int ((max p.1.length q.1.length : Nat) : Int))) (.ok [])) = .ok ((List.range (max p.1.length q.1.length)).map fun (i : Nat) => D.int (i : Int)) := by
    rw [consR_ok, callOo_ok, rng1_nat (by omega), Res.ofO_some]
  have ap : ∀ n : Nat, m__law_at [LG p, .int n] = .ok (W ((rf p).1 n)) := fun n => at_ok p (w := some (n : Int)) (fun j e => by cases e; omega)
  have aq : ∀ n : Nat, m__law_at [LG q, .int n] = .ok (W ((rf q).1 n)) := fun n => at_ok q (w := some (n : Int)) (fun j e => by cases e; omega)
  cases b with
  | false =>
    refine ⟨((List.range (max p.1.length q.1.length)).map fun (n : Nat) => minW ((rf p).1 n) ((rf q).1 n), minW p.2 q.2), ?_, G1.good (by omega), G1.tab, rfl, by simp⟩
    refine To.eq ?_
    show To (b__law_both (LG p) (LG q) (.bl false)) _
    unfold b__law_both
    rw [es]
    refine To.bindE rfl (To.iteT rfl ?_)
    refine To.bindE (a := .lst (((List.range (max p.1.length q.1.length)).map fun (n : Nat) => minW ((rf p).1 n) ((rf q).1 n)).map W)) ?_ ?_
    · rw [e, mapL_ok (h := fun (n : Nat) => W (minW ((rf p).1 n) ((rf q).1 n))) (by simp; omega), List.map_map]
      · rfl
      · intro n _
        simp only [consR_ok, callR_ok, List.append_nil, ap, aq, lesser_ok]
    refine To.of ?_ rfl
    simp only [op2_ok, ix1, Res.ofO_some, consR_ok, callR_ok, List.append_nil, lesser_ok]
    exact LG_mk _ _
  | true =>
    refine ⟨((List.range (max p.1.length q.1.length)).map fun (n : Nat) => apF (rf q).1 ((rf p).1 n), addW p.2 q.2), ?_, G2.good (by omega), G2.tab, rfl, by simp⟩
    refine To.eq ?_
    show To (b__law_both (LG p) (LG q) (.bl true)) _
    unfold b__law_both
    rw [es]
    refine To.bindE rfl (To.iteF rfl ?_)
    refine To.bindE (a := .lst (((List.range (max p.1.length q.1.length)).map fun (n : Nat) => apF (rf q).1 ((rf p).1 n)).map W)) ?_ ?_
    · rw [e, mapL_ok (h := fun (n : Nat) => W (apF (rf q).1 ((rf p).1 n))) (by simp; omega), List.map_map]
      · rfl
      · intro n _
        have e2 := at_ok q (w := (rf p).1 n) (gp.gf.nn n)
        have e3 : ledF q.1 q.2 ((rf p).1 n) = apF (rf q).1 ((rf p).1 n) := IsG.fl (fun _ => rfl) (gp.gf.nn n)
        rw [e3] at e2
        simp only [consR_ok, callR_ok, List.append_nil, ap, e2]
    simp only [op2_ok, ix1, Res.ofO_some, isND_non, isNon_W, blR_ok]
    cases hp : p.2 with
    | none =>
      refine To.iteT (by cases q.2 <;> rfl) (To.of ?_ rfl)
      rw [consR_ok, consR_ok]
      exact LG_mk _ none
    | some x =>
      cases hq : q.2 with
      | none =>
        refine To.iteT rfl (To.of ?_ rfl)
        rw [consR_ok, consR_ok]
        exact LG_mk _ none
      | some y =>
        refine To.iteF rfl (To.of ?_ rfl)
        simp only [W_some, addD_int, Res.ofO_some, consR_ok]
        exact LG_mk _ (some (x + y))
/-! the least of all -/
def minF (rs : List ((Nat → Wt) × Wt)) (n : Nat) : Wt := rs.foldl (fun w r => minW w (r.1 n)) none
def minM (rs : List ((Nat → Wt) × Wt)) : Wt := rs.foldl (fun w r => minW w r.2) none
theorem minW_none1 (a : Wt) : minW none a = a := rfl
theorem minW_comm (a b : Wt) : minW a b = minW b a := by
  cases a with
  | none => rw [minW_none]; rfl
  | some a =>
    cases b with
    | none => rfl
    | some b =>
      simp only [minW]
      split <;> split
      · omega
      · rfl
      · rfl
      · congr 1; omega
theorem minW_assoc (a b c : Wt) : minW (minW a b) c = minW a (minW b c) := by
  refine leW_antisymm ?_ ?_
  · exact minW_ge (leW_trans (minW_le1 _ _) (minW_le1 _ _)) (minW_ge (leW_trans (minW_le1 _ _) (minW_le2 _ _)) (minW_le2 _ _))
  · exact minW_ge (minW_ge (minW_le1 _ _) (leW_trans (minW_le2 _ _) (minW_le1 _ _))) (leW_trans (minW_le2 _ _) (minW_le2 _ _))
theorem minW_self (a : Wt) : minW a a = a := by
  cases a with
  | none => rfl
  | some a => simp [minW]
theorem fold_min {α : Type} (g : α → Wt) : ∀ (l : List α) (a : Wt), l.foldl (fun w r => minW w (g r)) a = minW a (l.foldl (fun w r => minW w (g r)) none)
  | [], a => (minW_none a).symm
  | x :: l, a => by
    show l.foldl _ (minW a (g x)) = minW a (l.foldl _ (minW none (g x)))
    rw [fold_min g l, fold_min g l (minW none (g x)), minW_none1, minW_assoc]
theorem fold_cons {α : Type} (g : α → Wt) (x : α) (l : List α) : (x :: l).foldl (fun w r => minW w (g r)) none = minW (g x) (l.foldl (fun w r => minW w (g r)) none) := by
  show l.foldl _ (minW none (g x)) = _
  rw [fold_min g l, minW_none1]
theorem fold_perm {α : Type} (g : α → Wt) {l l' : List α} (h : l.Perm l') : l.foldl (fun w r => minW w (g r)) none = l'.foldl (fun w r => minW w (g r)) none := by
  induction h with
  | nil => rfl
  | cons x _ ih => rw [fold_cons, fold_cons, ih]
  | swap x y l => rw [fold_cons, fold_cons, fold_cons, fold_cons, ← minW_assoc, ← minW_assoc, minW_comm (g y)]
  | trans _ _ h1 h2 => exact h1.trans h2
theorem fold_app {α : Type} (g : α → Wt) (l l' : List α) : (l ++ l').foldl (fun w r => minW w (g r)) none = minW (l.foldl (fun w r => minW w (g r)) none) (l'.foldl (fun w r => minW w (g r)) none) := by
  rw [List.foldl_append, fold_min g l']
theorem minF_app (l l' : List ((Nat → Wt) × Wt)) (n : Nat) : minF (l ++ l') n = minW (minF l n) (minF l' n) := fold_app (fun r : (Nat → Wt) × Wt => r.1 n) l l'
theorem minM_app (l l' : List ((Nat → Wt) × Wt)) : minM (l ++ l') = minW (minM l) (minM l') := fold_app (fun r : (Nat → Wt) × Wt => r.2) l l'
theorem minF_cons (x : (Nat → Wt) × Wt) (l : List ((Nat → Wt) × Wt)) (n : Nat) : minF (x :: l) n = minW (x.1 n) (minF l n) := fold_cons (fun r : (Nat → Wt) × Wt => r.1 n) x l
theorem minM_cons (x : (Nat → Wt) × Wt) (l : List ((Nat → Wt) × Wt)) : minM (x :: l) = minW x.2 (minM l) := fold_cons (fun r : (Nat → Wt) × Wt => r.2) x l
theorem least_all_ok (gs : List (List Wt × Wt)) (h : ∀ p ∈ gs, Good p.1 p.2) : ∃ d : List Wt × Wt, m__law_least_of_all [.lst (gs.map LG)] = .ok (LG d) ∧ Good d.1 d.2 ∧ (∀ n : Nat, ledF d.1 d.2 (some (n : Int)) = minF (gs.map rf) n) ∧ d.2 = minM (gs.map rf) ∧ d.1.length = mx gs := by
  have main : To (b__law_least_of_all (.lst (gs.map LG))) fun x => ∃ d : List Wt × Wt, x = LG d ∧ Good d.1 d.2 ∧ (∀ n : Nat, ledF d.1 d.2 (some (n : Int)) = minF (gs.map rf) n) ∧ d.2 = minM (gs.map rf) ∧ d.1.length = mx gs := by
    unfold b__law_least_of_all
    refine To.bindE (a := LG ([], none)) ?_ ?_
    · rw [disp_go (l := []) (by simp), lstV_ok, consR_ok, consR_ok]
      exact LG_mk [] none
    refine To.bindE (a := gs.map LG) (by simp) ?_
    refine To.bind (To.forR (fun i x => ∃ d : List Wt × Wt, x = LG d ∧ Good d.1 d.2 ∧ (∀ n : Nat, ledF d.1 d.2 (some (n : Int)) = minF ((gs.take i).map rf) n) ∧ d.2 = minM ((gs.take i).map rf) ∧ d.1.length = mx (gs.take i)) ⟨([], none), rfl, gnul, fun n => by rw [ledF_out (by simp)]; rfl, rfl, rfl⟩ fun i x y hd hp => ?_) ?_
    · obtain ⟨hi, rfl⟩ := LG_items gs hd
      obtain ⟨d, rfl, gd, hf, hm, hl⟩ := hp
      obtain ⟨r, er, gr, hfr, hmr, hlr⟩ := both_ok gd (h _ (List.getElem_mem hi)) false
      refine To.bindE (a := LG r) (by simp only [consR_ok, callR_ok, List.append_nil, er]) (To.ok ⟨r, rfl, gr, fun n => ?_, ?_, ?_⟩)
      · rw [hfr n, List.take_add_one, List.getElem?_eq_getElem hi, List.map_append, minF_app]
        show minW (ledF d.1 d.2 (some (n : Int))) _ = _
        rw [hf n]
        rfl
      · rw [hmr, List.take_add_one, List.getElem?_eq_getElem hi, List.map_append, minM_app, ← hm]
        rfl
      · rw [hlr, hl]
        unfold mx
        rw [List.take_add_one, List.getElem?_eq_getElem hi, List.foldl_append]
        rfl
    · rintro x ⟨d, rfl, gd, hf, hm, hl⟩
      rw [List.length_map, List.take_length] at hf hm hl
      exact To.ok ⟨d, rfl, gd, hf, hm, hl⟩
  obtain ⟨x, e, d, rfl, hh⟩ := main
  exact ⟨d, e, hh⟩
theorem equal_ok {o1 o2 : D} {f : Nat → Wt} {m : Wt} (g1 : IsG o1 f m) (g2 : IsG o2 f m) : m__law_equal [o1, o2] = .ok (.bl true) := by
  refine To.eq ?_
  show To (b__law_equal o1 o2) _
  unfold b__law_equal
  refine To.bindE (eq_e g1 g2) (To.of ?_ rfl)
  simp [isiD, isBT]
end K03

namespace K03
open PySem PySem.Spec PyProof.Rows L2 Px
/-! groupings -/
theorem take_drop_two {α : Type} {l : List α} {i : Nat} (h : i + 1 < l.length) : l = l.take i ++ (l[i] :: l[i + 1] :: l.drop (i + 2)) := by
  have h1 : l.drop i = l[i] :: l.drop (i + 1) := List.drop_eq_getElem_cons (by omega)
  have h2 : l.drop (i + 1) = l[i + 1] :: l.drop (i + 2) := List.drop_eq_getElem_cons h
  conv => lhs; rw [← List.take_append_drop i l, h1, h2]
def least2 (r q : (Nat → Wt) × Wt) : (Nat → Wt) × Wt := (fun n => minW (r.1 n) (q.1 n), minW r.2 q.2)
theorem mergeF {qs : List ((Nat → Wt) × Wt)} {i : Nat} (h : i + 1 < qs.length) (n : Nat) : minF (qs.take i ++ [least2 qs[i] qs[i + 1]] ++ qs.drop (i + 2)) n = minF qs n := by
  conv => rhs; rw [take_drop_two h]
  rw [minF_app, minF_app, minF_app, minF_cons, minF_cons, minF_cons]
  simp only [least2, minF, List.foldl_nil, minW_none, minW_assoc]
theorem mergeM {qs : List ((Nat → Wt) × Wt)} {i : Nat} (h : i + 1 < qs.length) : minM (qs.take i ++ [least2 qs[i] qs[i + 1]] ++ qs.drop (i + 2)) = minM qs := by
  conv => rhs; rw [take_drop_two h]
  rw [minM_app, minM_app, minM_app, minM_cons, minM_cons, minM_cons]
  simp only [least2, minM, List.foldl_nil, minW_none, minW_assoc]
theorem or_at {os : List D} {rs : List ((Nat → Wt) × Wt)} (h : Objs os rs) {a : Nat} (ha : a + 1 < os.length) (ha' : a + 1 < rs.length) : ∃ o, own2R 0 m_Grade_or (op2 ixD (.ok (.lst os)) (.ok (.int (a : Int)))) (op2 ixD (.ok (.lst os)) (op2 addD (.ok (.int (a : Int))) (.ok (.int 1)))) = .ok o ∧ IsG o (least2 rs[a] rs[a + 1]).1 (least2 rs[a] rs[a + 1]).2 := by
  have g1 := h.get a (by omega) (by omega)
  have g2 := h.get (a + 1) ha ha'
  obtain ⟨o, eo, go⟩ := or_e g1 g2
  have e0 : os[a]? = some os[a] := List.getElem?_eq_getElem (by omega)
  have e1 : os[a + 1]? = some os[a + 1] := List.getElem?_eq_getElem ha
  have c1 : ((a : Int) + 1) = ((a + 1 : Nat) : Int) := by omega
  refine ⟨o, ?_, go⟩
  simp only [op2_ok, ix_lst e0, addD_int, Res.ofO_some, c1, ix_lst e1, eo]
theorem cut_row {l : List D} {a : Nat} {o : D} (ha : a + 1 < l.length) (hl : l.length ≤ 1000) : op2 addD (op2 addD (sliceR (.ok (.lst l)) none (some (.ok (.int (a : Int))))) (lstV (dispR (consR (.ok o) (.ok []))))) (sliceR (.ok (.lst l)) (some (op2 addD (.ok (.int (a : Int))) (.ok (.int 2)))) none) = .ok (.lst (l.take a ++ [o] ++ l.drop (a + 2))) := by
  have c2 : ((a : Int) + 2) = ((a + 2 : Nat) : Int) := by omega
  rw [slice_lst_take _ _ (by omega)]
  simp only [op2_ok, addD_int, Res.ofO_some, c2, slice_lst_drop, consR_ok]
  rw [disp_go (by simp)]
  simp only [lstV_ok, op2_ok]
  rw [addD_lst (by simp; omega), Res.ofO_some, op2_ok, addD_lst (by simp; omega), Res.ofO_some]
theorem grouped3_ok {os : List D} {rs : List ((Nat → Wt) × Wt)} (h : Objs os rs) (h1 : 1 ≤ os.length) (h2 : os.length ≤ 1000) (ds : List Int) (hd : os.length + os.length ≤ ds.length) : To (m__law_grouped [.lst os, .lst (ds.map D.int)]) fun o => IsG o (minF rs) (minM rs) := by
  show To (b__law_grouped (.lst os) (.lst (ds.map D.int))) _
  unfold b__law_grouped
  have gd : ∀ (k : Nat) (hk : k < ds.length), ixD (.lst (ds.map D.int)) (.int (k : Int)) = some (.int ds[k]) := fun k hk => ix_lst (by rw [List.getElem?_map, List.getElem?_eq_getElem hk]; rfl)
  refine To.bindE (a := .lst os) (by simp) (To.bindE (a := []) (disp_go (by simp)) ?_)
  refine To.bindE (a := (List.range os.length).map fun (i : Nat) => D.int (i : Int)) ?_ ?_
  · simp only [consR_ok, callO_ok, lenD_lst, Res.ofO_some, callOo_ok, rng1_nat (show os.length ≤ 16777216 by omega)]
  refine To.bind (To.forR (fun i s => ∃ (rest row : List D) (restR rowR : List ((Nat → Wt) × Wt)), s = (.lst rest, row) ∧ Objs rest restR ∧ Objs row rowR ∧ rest.length + i = os.length ∧ row.length = i ∧ (rowR ++ restR).Perm rs) ⟨os, [], rs, [], rfl, h, .nil, rfl, rfl, List.Perm.refl _⟩ fun i s d hd' hp => ?_) ?_
  · obtain ⟨hi, rfl⟩ := range_get hd'
    obtain ⟨rest, row, restR, rowR, rfl, ho, hw, hl, hr, hpm⟩ := hp
    have hpos : (0 : Int) < (rest.length : Int) := by omega
    obtain ⟨a, ha⟩ := Int.eq_ofNat_of_zero_le (Int.emod_nonneg (ds[i]'(by omega)) (show (rest.length : Int) ≠ 0 by omega))
    have ha2 := Int.emod_lt_of_pos (ds[i]'(by omega)) hpos
    rw [ha] at ha2
    have ha3 : a < rest.length := by omega
    have ha4 : a < restR.length := by rw [← ho.length]; exact ha3
    refine To.bindE (a := .int a) ?_ ?_
    · simp only [op2_ok, gd i (by omega), Res.ofO_some, consR_ok, callO_ok, intD_int, lenD_lst, modD_pos hpos, ha]
    have c1 : ((a : Int) + 1) = ((a + 1 : Nat) : Int) := by omega
    refine To.appR (show row.length < 16777216 by omega) (To.of (a := rest[a]) (by rw [op2_ok, ix_lst (List.getElem?_eq_getElem ha3)]; rfl) rfl) ?_
    rintro d rfl
    refine To.bindE (a := .lst (rest.take a ++ rest.drop (a + 1))) ?_ (To.ok ⟨rest.take a ++ rest.drop (a + 1), row ++ [rest[a]], restR.take a ++ restR.drop (a + 1), rowR ++ [restR[a]], rfl, (ho.take a).append (ho.drop (a + 1)), hw.append (.cons (ho.get a ha3 ha4) .nil), by simp; omega, by simp [hr], ?_⟩)
    · rw [slice_lst_take _ _ (by omega)]
      simp only [op2_ok, addD_int, Res.ofO_some, c1, slice_lst_drop]
      rw [addD_lst (by simp; omega), Res.ofO_some]
    · have e : (restR[a] :: (restR.take a ++ restR.drop (a + 1))).Perm restR := by
        have e1 : restR = restR.take a ++ restR[a] :: restR.drop (a + 1) := by
          conv => lhs; rw [← List.take_append_drop a restR, List.drop_eq_getElem_cons ha4]
        conv => rhs; rw [e1]
        exact List.perm_middle.symm
      rw [List.append_assoc]
      exact (List.Perm.append_left rowR e).trans hpm
  rintro s ⟨rest, row, restR, rowR, rfl, ho, hw, hl, hr, hpm⟩
  rw [List.length_map, List.length_range] at hl hr
  have hrest : restR = [] := by
    have := ho.length
    exact List.length_eq_zero_iff.mp (by omega)
  subst hrest
  rw [List.append_nil] at hpm
  have hF : ∀ n, minF rowR n = minF rs n := fun n => fold_perm (fun r : (Nat → Wt) × Wt => r.1 n) hpm
  have hM : minM rowR = minM rs := fold_perm (fun r : (Nat → Wt) × Wt => r.2) hpm
  obtain ⟨N, hN⟩ : ∃ N, os.length = N + 1 := ⟨os.length - 1, by omega⟩
  refine To.bindE (a := (List.range N).map fun (i : Nat) => D.int (i : Int)) ?_ ?_
  · have e1 : ((N + 1 : Nat) : Int) - 1 = N := by omega
    simp only [consR_ok, callO_ok, lenD_lst, hN, Res.ofO_some, op2_ok, subD_int, e1, callOo_ok, rng1_nat (show N ≤ 16777216 by omega)]
  refine To.bind (To.forR (fun i s => ∃ row qs, s = .lst row ∧ Objs row qs ∧ row.length + i = N + 1 ∧ (∀ n, minF qs n = minF rs n) ∧ minM qs = minM rs) ⟨row, rowR, rfl, hw, by omega, hF, hM⟩ fun i s d hd' hp => ?_) ?_
  · obtain ⟨hi, rfl⟩ := range_get hd'
    obtain ⟨row, qs, rfl, ho, hlen, hF, hM⟩ := hp
    have hpos : (0 : Int) < (row.length : Int) - 1 := by omega
    have ci : ((os.length : Int) + (i : Int)) = ((os.length + i : Nat) : Int) := by omega
    obtain ⟨a, ha⟩ := Int.eq_ofNat_of_zero_le (Int.emod_nonneg (ds[os.length + i]'(by omega)) (show (row.length : Int) - 1 ≠ 0 by omega))
    have ha2 := Int.emod_lt_of_pos (ds[os.length + i]'(by omega)) hpos
    rw [ha] at ha2
    have ha3 : a + 1 < row.length := by omega
    have hq : a + 1 < qs.length := by rw [← ho.length]; exact ha3
    refine To.bindE (a := .int a) (by simp only [consR_ok, callO_ok, lenD_lst, Res.ofO_some, op2_ok, addD_int, ci, gd (os.length + i) (by omega), intD_int, subD_int, modD_pos hpos, ha]) ?_
    obtain ⟨o, eo, go⟩ := or_at ho ha3 hq
    refine To.bindE (a := .lst (row.take a ++ [o] ++ row.drop (a + 2))) ?_ (To.ok ⟨_, qs.take a ++ [least2 qs[a] qs[a + 1]] ++ qs.drop (a + 2), rfl, ((ho.take a).append (.cons go .nil)).append (ho.drop (a + 2)), ?_, fun n => by rw [mergeF hq, hF], by rw [mergeM hq, hM]⟩)
    · rw [eo, cut_row ha3 (by omega)]
    · simp
      omega
  · rintro s ⟨row, qs, rfl, ho, hlen, hF, hM⟩
    simp only [List.length_map, List.length_range] at hlen
    have hl1 : row.length = 1 := by omega
    match row, qs, ho, hl1 with
    | [o], [r], .cons g .nil, _ =>
      refine To.of (a := o) (by rw [op2_ok, show ixD (.lst [o]) (.int 0) = some o from ix_lst (n := 0) rfl]; rfl) ?_
      have f1 : ∀ n : Nat, r.1 n = minF rs n := fun n => by rw [← hF]; rfl
      have f2 : r.2 = minM rs := by rw [← hM]; rfl
      rw [← f2]
      exact g.congr f1
/-! expressions -/
theorem shift_at {os : List D} {rs : List ((Nat → Wt) × Wt)} (h : Objs os rs) {a : Nat} (ha : a + 1 < os.length) (ha' : a + 1 < rs.length) : ∃ o, own2R 0 m_Grade_rshift (op2 ixD (.ok (.lst os)) (.ok (.int (a : Int)))) (op2 ixD (.ok (.lst os)) (op2 addD (.ok (.int (a : Int))) (.ok (.int 1)))) = .ok o ∧ IsG o (two rs[a] rs[a + 1]).1 (two rs[a] rs[a + 1]).2 := by
  have g1 := h.get a (by omega) (by omega)
  have g2 := h.get (a + 1) ha ha'
  obtain ⟨o, eo, go⟩ := own_e g1 g2
  have e0 : os[a]? = some os[a] := List.getElem?_eq_getElem (by omega)
  have e1 : os[a + 1]? = some os[a + 1] := List.getElem?_eq_getElem ha
  have c1 : ((a : Int) + 1) = ((a + 1 : Nat) : Int) := by omega
  refine ⟨o, ?_, go⟩
  simp only [op2_ok, ix_lst e0, addD_int, Res.ofO_some, c1, ix_lst e1, eo]
theorem both_at {gs : List (List Wt × Wt)} (hg : ∀ p ∈ gs, Good p.1 p.2) {a : Nat} (ha : a + 1 < gs.length) (b : Bool) : ∃ r : List Wt × Wt, callR m__law_both [] (consR (op2 ixD (.ok (.lst (gs.map LG))) (.ok (.int (a : Int)))) (consR (op2 ixD (.ok (.lst (gs.map LG))) (op2 addD (.ok (.int (a : Int))) (.ok (.int 1)))) (consR (.ok (.bl b)) (.ok [])))) = .ok (LG r) ∧ Good r.1 r.2 ∧
    (rf r).1 = (if b then two (rf gs[a]) (rf gs[a + 1]) else least2 (rf gs[a]) (rf gs[a + 1])).1 ∧ (rf r).2 = (if b then two (rf gs[a]) (rf gs[a + 1]) else least2 (rf gs[a]) (rf gs[a + 1])).2 ∧ r.1.length = max gs[a].1.length gs[a + 1].1.length := by
  obtain ⟨r, er, gr, hf, hm, hl⟩ := both_ok (hg gs[a] (List.getElem_mem _)) (hg gs[a + 1] (List.getElem_mem _)) b
  have c1 : ((a : Int) + 1) = ((a + 1 : Nat) : Int) := by omega
  refine ⟨r, ?_, gr, ?_, ?_, hl⟩
  · rw [op2_ok (f := addD), addD_int, Res.ofO_some, c1, LGs gs a (by omega), LGs gs (a + 1) ha]
    simp only [consR_ok, callR_ok, List.append_nil, er]
  · funext n
    rw [show (rf r).1 n = ledF r.1 r.2 (some (n : Int)) from rfl, hf n]
    cases b <;> rfl
  · rw [show (rf r).2 = r.2 from rfl, hm]
    cases b <;> rfl
theorem expression_ok {os : List D} {gs : List (List Wt × Wt)} (h : Objs os (gs.map rf)) (hg : ∀ p ∈ gs, Good p.1 p.2) {L : Nat} (hL : ∀ p ∈ gs, p.1.length ≤ L) (h1 : 1 ≤ os.length) (h2 : os.length ≤ 1000) (ds : List Int) (hd : os.length ≤ ds.length) : ∃ (o : D) (r : List Wt × Wt), m__law_expression [.lst os, .lst (gs.map LG), .lst (ds.map D.int)] = .ok (.lst [o, LG r]) ∧ Good r.1 r.2 ∧ IsG o (rf r).1 (rf r).2 ∧ r.1.length ≤ L := by
  have main : To (b__law_expression (.lst os) (.lst (gs.map LG)) (.lst (ds.map D.int))) fun x => ∃ (o : D) (r : List Wt × Wt), x = .lst [o, LG r] ∧ Good r.1 r.2 ∧ IsG o (rf r).1 (rf r).2 ∧ r.1.length ≤ L := by
    unfold b__law_expression
    have gd : ∀ (k : Nat) (hk : k < ds.length), ixD (.lst (ds.map D.int)) (.int (k : Int)) = some (.int ds[k]) := fun k hk => ix_lst (by rw [List.getElem?_map, List.getElem?_eq_getElem hk]; rfl)
    refine To.bindE (a := .lst os) (by simp) (To.bindE (a := .lst (gs.map LG)) (by simp) ?_)
    obtain ⟨N, hN⟩ : ∃ N, os.length = N + 1 := ⟨os.length - 1, by omega⟩
    refine To.bindE (a := (List.range N).map fun (i : Nat) => D.int (i : Int)) ?_ ?_
    · have e1 : ((N + 1 : Nat) : Int) - 1 = N := by omega
      simp only [consR_ok, callO_ok, lenD_lst, hN, Res.ofO_some, op2_ok, subD_int, e1, callOo_ok, rng1_nat (show N ≤ 16777216 by omega)]
    refine To.bind (To.forR (fun i s => ∃ row qs, s = (.lst row, .lst (qs.map LG)) ∧ Objs row (qs.map rf) ∧ row.length + i = N + 1 ∧ (∀ p ∈ qs, Good p.1 p.2) ∧ ∀ p ∈ qs, p.1.length ≤ L) ⟨os, gs, rfl, h, by omega, hg, hL⟩ fun i s d hd' hp => ?_) ?_
    · obtain ⟨hi, rfl⟩ := range_get hd'
      obtain ⟨row, qs, rfl, ho, hlen, hq, hqL⟩ := hp
      have hpos : (0 : Int) < (row.length : Int) - 1 := by omega
      generalize hx : (ds[i]'(by omega) : Int) = x
      have ex : ixD (.lst (ds.map D.int)) (.int (i : Int)) = some (.int x) := by rw [gd i (by omega), hx]
      obtain ⟨a, ha⟩ := Int.eq_ofNat_of_zero_le (Int.emod_nonneg (x / 2) (show (row.length : Int) - 1 ≠ 0 by omega))
      have ha2 := Int.emod_lt_of_pos (x / 2) hpos
      rw [ha] at ha2
      have ha3 : a + 1 < row.length := by omega
      have hql : row.length = qs.length := by rw [ho.length, List.length_map]
      refine To.bindE (a := .int a) ?_ ?_
      · simp only [op2_ok, ex, Res.ofO_some, divD_pos (show (0 : Int) < 2 by decide) (by decide), consR_ok, callO_ok, intD_int, lenD_lst, subD_int, modD_pos hpos, ha]
      have goodN : ∀ r : List Wt × Wt, Good r.1 r.2 → ∀ p ∈ qs.take a ++ [r] ++ qs.drop (a + 2), Good p.1 p.2 := fun r gr p hp => by
        rcases List.mem_append.mp hp with hp | hp
        · rcases List.mem_append.mp hp with hp | hp
          · exact hq p (List.mem_of_mem_take hp)
          · have : p = r := by simpa using hp
            subst this; exact gr
        · exact hq p (List.mem_of_mem_drop hp)
      have lenN : ∀ r : List Wt × Wt, r.1.length ≤ L → ∀ p ∈ qs.take a ++ [r] ++ qs.drop (a + 2), p.1.length ≤ L := fun r gr p hp => by
        rcases List.mem_append.mp hp with hp | hp
        · rcases List.mem_append.mp hp with hp | hp
          · exact hqL p (List.mem_of_mem_take hp)
          · have : p = r := by simpa using hp
            subst this; exact gr
        · exact hqL p (List.mem_of_mem_drop hp)
      have objN : ∀ (o : D) (r : List Wt × Wt), IsG o (rf r).1 (rf r).2 → Objs (row.take a ++ [o] ++ row.drop (a + 2)) ((qs.take a ++ [r] ++ qs.drop (a + 2)).map rf) := fun o r g => by
        rw [List.map_append, List.map_append, List.map_take, List.map_drop]
        exact ((ho.take a).append (.cons g .nil)).append (ho.drop (a + 2))
      have cutL : ∀ r : List Wt × Wt, op2 addD (op2 addD (sliceR (.ok (.lst (qs.map LG))) none (some (.ok (.int (a : Int))))) (lstV (dispR (consR (.ok (LG r)) (.ok []))))) (sliceR (.ok (.lst (qs.map LG))) (some (op2 addD (.ok (.int (a : Int))) (.ok (.int 2)))) none) = .ok (.lst ((qs.take a ++ [r] ++ qs.drop (a + 2)).map LG)) := fun r => by
        rw [cut_row (by simp; omega) (by simp; omega), List.map_append, List.map_append, List.map_take, List.map_drop]
        rfl
      refine To.ite (k := decide (x % 2 = 0)) ?_ (fun _ => ?_) (fun _ => ?_)
      · simp only [op2_ok, ex, Res.ofO_some, consR_ok, callO_ok, intD_int, modD_pos (show (0 : Int) < 2 by decide), eqD_int, blR_ok]
      · obtain ⟨o, eo, go⟩ := or_at ho ha3 (by simp; omega)
        obtain ⟨r, er, gr, hf, hm, hrl⟩ := both_at hq (a := a) (by omega) false
        refine To.bindE (a := .lst (row.take a ++ [o] ++ row.drop (a + 2))) (by rw [eo, cut_row ha3 (by omega)]) (To.bindE (a := .lst ((qs.take a ++ [r] ++ qs.drop (a + 2)).map LG)) (by rw [er, cutL]) (To.ok ⟨_, _, rfl, objN o r ?_, by simp; omega, goodN r gr, lenN r (by rw [hrl]; exact Nat.max_le.mpr ⟨hqL _ (List.getElem_mem _), hqL _ (List.getElem_mem _)⟩)⟩))
        rw [hf, hm]
        simpa using go
      · obtain ⟨o, eo, go⟩ := shift_at ho ha3 (by simp; omega)
        obtain ⟨r, er, gr, hf, hm, hrl⟩ := both_at hq (a := a) (by omega) true
        refine To.bindE (a := .lst (row.take a ++ [o] ++ row.drop (a + 2))) (by rw [eo, cut_row ha3 (by omega)]) (To.bindE (a := .lst ((qs.take a ++ [r] ++ qs.drop (a + 2)).map LG)) (by rw [er, cutL]) (To.ok ⟨_, _, rfl, objN o r ?_, by simp; omega, goodN r gr, lenN r (by rw [hrl]; exact Nat.max_le.mpr ⟨hqL _ (List.getElem_mem _), hqL _ (List.getElem_mem _)⟩)⟩))
        rw [hf, hm]
        simpa using go
    · rintro s ⟨row, qs, rfl, ho, hlen, hq, hqL⟩
      simp only [List.length_map, List.length_range] at hlen
      have hl1 : row.length = 1 := by omega
      match row, qs, ho, hl1, hq, hqL with
      | [o], [r], .cons g .nil, _, hq, hqL =>
        refine To.of (a := .lst [o, LG r]) ?_ ⟨o, r, rfl, hq r List.mem_cons_self, g, hqL r List.mem_cons_self⟩
        have e1 : op2 ixD (.ok (.lst [o])) (.ok (.int 0)) = .ok o := by rw [op2_ok, show ixD (.lst [o]) (.int 0) = some o from ix_lst (n := 0) rfl]; rfl
        have e2 : op2 ixD (.ok (.lst ([r].map LG))) (.ok (.int 0)) = .ok (LG r) := LGs [r] 0 (by simp)
        rw [e1, e2, consR_ok, consR_ok, disp_go (by simp), lstV_ok]
  obtain ⟨x, e, o, r, rfl, hh⟩ := main
  exact ⟨o, r, e, hh⟩
end K03

namespace K03
open PySem PySem.Spec PyProof.Rows L2 Px
/-! where one stands -/
def anySt (gs : List (List Wt × Wt)) (n : Nat) : Bool := gs.any fun p => decide (ledF p.1 p.2 (some (n : Int)) = some (n : Int))
theorem minF_ge (gs : List (List Wt × Wt)) (h : ∀ p ∈ gs, Good p.1 p.2) (n : Nat) : leW (some (n : Int)) (minF (gs.map rf) n) := by
  induction gs with
  | nil => exact leW_none _
  | cons p gs ih =>
    rw [List.map_cons, minF_cons]
    exact minW_ge ((h p List.mem_cons_self).ge n) (ih fun q hq => h q (List.mem_cons_of_mem _ hq))
theorem anySt_iff : ∀ (gs : List (List Wt × Wt)), (∀ p ∈ gs, Good p.1 p.2) → ∀ n : Nat, minF (gs.map rf) n = some (n : Int) ↔ anySt gs n = true
  | [], _, n => by simp [minF, anySt]
  | p :: gs, h, n => by
    have hp := (h p List.mem_cons_self).ge n
    have hr : ∀ q ∈ gs, Good q.1 q.2 := fun q hq => h q (List.mem_cons_of_mem _ hq)
    have ih := anySt_iff gs hr n
    have hm := minF_ge gs hr n
    have e : anySt (p :: gs) n = (decide (ledF p.1 p.2 (some (n : Int)) = some (n : Int)) || anySt gs n) := rfl
    rw [e, Bool.or_eq_true, decide_eq_true_iff, ← ih, List.map_cons, minF_cons]
    show minW (ledF p.1 p.2 (some (n : Int))) (minF (gs.map rf) n) = some (n : Int) ↔ _
    constructor
    · intro y
      rw [minW_bef] at y
      split at y
      · exact .inl y
      · exact .inr y
    · rintro (y | y)
      · exact leW_antisymm (by have := minW_le1 (ledF p.1 p.2 (some (n : Int))) (minF (gs.map rf) n); rwa [y] at this ⊢) (by rw [y]; exact minW_ge (leW_refl _) hm)
      · exact leW_antisymm (by have := minW_le2 (ledF p.1 p.2 (some (n : Int))) (minF (gs.map rf) n); rwa [y] at this ⊢) (by rw [y]; exact minW_ge hp (leW_refl _))
theorem stands_any_ok {o : D} {f : Nat → Wt} {m : Wt} {gs : List (List Wt × Wt)} {t : List Wt} (g : IsG o f m) (ht : ∀ n : Nat, ledF t m (some n) = f n) (hgs : ∀ n : Nat, f n = some (n : Int) ↔ anySt gs n = true) (B : Nat) (hB : t.length < B) (hB2 : B ≤ 1000) (ex : List Nat) :
    m__law_stands_where_one [o, .lst (gs.map LG), .lst (nums B ex)] = .ok (.bl true) := by
  refine To.eq ?_
  obtain ⟨s0, es0, hs0⟩ := standing_ok g ht
  obtain ⟨u, hobj, _⟩ := g.ex
  show To (b__law_stands_where_one o (.lst (gs.map LG)) (.lst ((List.range B ++ ex).map fun (n : Nat) => D.int (n : Int)))) _
  unfold b__law_stands_where_one
  refine To.bindE rfl ?_
  refine To.bindE (a := (List.range B ++ ex).map fun (n : Nat) => D.int (n : Int)) (by simp) ?_
  refine To.lp (To.forG (fun i s => (s = .non ∧ ∀ n ∈ (List.range B ++ ex).take i, f n ≠ some (n : Int)) ∨ ∃ k : Nat, s = .int k ∧ k < B ∧ f k = some (k : Int) ∧ ∀ j : Nat, j < k → f j ≠ some (j : Int)) (fun _ => False) (fun _ => False) (.inl ⟨rfl, fun n hn => by simp at hn⟩) fun i s d hd hp => ?_) (fun s hs => ?_) (fun _ h => h.elim)
  · rw [List.getElem?_map] at hd
    cases q : (List.range B ++ ex)[i]? with
    | none => rw [q] at hd; cases hd
    | some n =>
      rw [q] at hd
      cases hd
      refine To.bindE rfl ?_
      refine To.bindE (a := gs.map LG) (by simp) ?_
      refine To.bind (To.forR (fun i s => s = .bl (anySt (gs.take i) n)) (by simp [anySt]) fun i s d hd hp => ?_) ?_
      · obtain ⟨hi, rfl⟩ := LG_items gs hd
        subst hp
        have e := at_ok gs[i] (w := some (n : Int)) (fun j e => by cases e; omega)
        simp only [W_some] at e
        have e2 := eqD_W (ledF gs[i].1 gs[i].2 (some (n : Int))) (some (n : Int))
        simp only [W_some] at e2
        have e3 : anySt (gs.take (i + 1)) n = (anySt (gs.take i) n || decide (ledF gs[i].1 gs[i].2 (some (n : Int)) = some (n : Int))) := by
          unfold anySt
          rw [List.take_add_one, List.getElem?_eq_getElem hi, List.any_append]
          simp
        rw [e3]
        refine To.ite (k := decide (ledF gs[i].1 gs[i].2 (some (n : Int)) = some (n : Int))) (by simp only [consR_ok, callR_ok, List.append_nil, List.cons_append, List.nil_append, e, op2_ok, e2, Res.ofO_some, blR_ok]) (fun z => ?_) (fun z => ?_)
        · refine To.of rfl ?_
          simp at z
          simp [z]
        · refine To.ok ?_
          simp at z
          simp [z]
      · rintro s1 rfl
        rw [List.length_map, List.take_length]
        have est : methR 0 m_Grade_stands_at [] (.ok o) (consR (.ok (.int n)) (.ok [])) = .ok (.bl (decide (f n = some (n : Int)))) := by
          rw [← stands_ok g n, hobj, consR_ok, methR_G, List.append_nil]
        refine To.bindE est ?_
        have hall : anySt gs n = decide (f n = some (n : Int)) := by
          rw [Bool.eq_iff_iff, decide_eq_true_iff]
          exact (hgs n).symm
        rw [hall]
        refine To.iteF (by simp [isiD, isBT, neD_bl]) ?_
        refine To.ite (k := decide (f n = some (n : Int)) && s.isNon) ?_ (fun z => ?_) (fun z => ?_)
        · by_cases y : f n = some (n : Int) <;> simp [y]
        · rw [Bool.and_eq_true] at z
          have y := of_decide_eq_true z.1
          refine To.bindE rfl (To.ok ?_)
          rcases hp with ⟨rfl, hno⟩ | ⟨k, rfl, _⟩
          · right
            have hiB : i < B := by
              rcases Nat.lt_or_ge i B with w | w
              · exact w
              · exfalso
                have hno' : ∀ j : Nat, j < B → f j ≠ some (j : Int) := fun j hj => hno j (by
                  rw [List.take_append]
                  exact List.mem_append_left _ (by rw [List.take_of_length_le (by simpa using w)]; simpa using hj))
                rcases hs0 with ⟨_, h0⟩ | ⟨k, _, hk, _, hkB⟩
                · exact h0 n y
                · exact hno' k (by omega) hk
            have hn : n = i := by
              rw [List.getElem?_append_left (by simpa using hiB), List.getElem?_range hiB] at q
              exact (Option.some.inj q).symm
            subst hn
            refine ⟨n, rfl, hiB, y, fun j hj => hno j ?_⟩
            rw [List.take_append_of_le_length (by simp; omega), List.take_range]
            simp
            omega
          · simp at z
        · refine To.ok ?_
          rcases hp with ⟨rfl, hno⟩ | hk
          · left
            refine ⟨rfl, fun j hj => ?_⟩
            rw [List.take_add_one, q] at hj
            rcases List.mem_append.mp hj with w | w
            · exact hno j w
            · have : j = n := by simpa using w
              subst this
              intro y
              simp [y] at z
          · exact .inr hk
  · rcases hs with hs | hs
    · have eprop : propR 0 m_Grade_standing (.ok o) = .ok (W s0) := by
        rw [hobj] at es0 ⊢
        rw [propR_G, es0]
        rfl
      have fin : ∀ s1 : Wt, s = W s1 → s0 = s1 → To (callR m__law_same_worth [] (consR (propR 0 m_Grade_standing (.ok o)) (consR (.ok s) (.ok [])))) fun y => y = D.bl true := fun s1 e e2 => by
        rw [eprop, e]
        subst e2
        exact To.of (by simp only [consR_ok, callR_ok, List.append_nil, same_W, decide_true]) rfl
      rcases hs with ⟨rfl, hno⟩ | ⟨k, rfl, hkB, hk, hlt⟩
      · refine fin none rfl ?_
        rcases hs0 with ⟨e, _⟩ | ⟨k, _, hk, _, hkB⟩
        · exact e
        · exfalso
          refine hno k ?_ hk
          rw [List.length_map, List.take_length]
          exact List.mem_append_left _ (by simp; omega)
      · refine fin (some (k : Int)) rfl ?_
        rcases hs0 with ⟨_, h0⟩ | ⟨j, e, hj, hjl, hjB⟩
        · exact absurd hk (h0 k)
        · have : j = k := by
            rcases Nat.lt_trichotomy j k with w | w | w
            · exact absurd hj (hlt j w)
            · exact w
            · exact absurd hk (hjl k w)
          rw [e, this]
    · exact hs.elim
/-! rows of worths -/
def maxW : Wt → Wt → Wt
  | none, _ => none
  | some _, none => none
  | some g, some w => if g < w then some w else some g
theorem fold_none {α : Type} (f : Wt → α → Wt) (hf : ∀ x, f none x = none) : ∀ l : List α, l.foldl f none = none
  | [] => rfl
  | x :: l => by show l.foldl f (f none x) = none; rw [hf]; exact fold_none f hf l
theorem items_sq (b : Bool) (l : List D) : itemsR (.ok (sq b l)) = .ok l := by cases b <;> simp [sq]
theorem W_get {ws : List Wt} {i : Nat} {d : D} (h : (ws.map W)[i]? = some d) : ∃ hi : i < ws.length, d = W ws[i] := by
  rw [List.getElem?_map] at h
  cases q : ws[i]? with
  | none => rw [q] at h; cases h
  | some w =>
    rw [q] at h
    obtain ⟨hi, e⟩ := List.getElem?_eq_some_iff.mp q
    cases h
    exact ⟨hi, by rw [e]⟩
theorem fold_step {α β : Type} (f : β → α → β) (l : List α) (b : β) {i : Nat} (hi : i < l.length) : (l.take (i + 1)).foldl f b = f ((l.take i).foldl f b) l[i] := by
  rw [List.take_add_one, List.getElem?_eq_getElem hi, List.foldl_append]
  rfl
theorem leastof_ok (b : Bool) (ws : List Wt) : m_least_of [sq b (ws.map W)] = .ok (W (ws.foldl minW none)) := by
  refine To.eq ?_
  show To (b_least_of (sq b (ws.map W))) _
  unfold b_least_of
  refine To.bindE rfl (To.bindE (items_sq b _) ?_)
  refine To.bind (To.forR (fun i s => s = W ((ws.take i).foldl minW none)) rfl fun i s d hd hp => ?_) ?_
  · obtain ⟨hi, rfl⟩ := W_get hd
    subst hp
    rw [fold_step _ _ _ hi]
    generalize (ws.take i).foldl minW none = a
    generalize ws[i] = w
    have e : minW a w = if bef w a then w else a := by rw [minW_comm, minW_bef]
    rw [e]
    refine To.ite (k := bef w a) (by simp only [consR_ok, callR_ok, List.append_nil, before_W, truR_ok, truD_bl, Res.ofO_some]) (fun z => ?_) (fun z => ?_)
    · rw [z]; exact To.ok rfl
    · rw [z]; exact To.ok rfl
  · rintro s rfl
    rw [List.length_map, List.take_length]
    exact To.ok rfl
theorem greatest_ok (b : Bool) (ws : List Wt) : m_greatest_of [sq b (ws.map W)] = .ok (W (ws.foldl maxW (some 0))) := by
  refine To.eq ?_
  show To (b_greatest_of (sq b (ws.map W))) _
  unfold b_greatest_of
  refine To.bindE rfl (To.bindE (items_sq b _) ?_)
  refine To.lp (To.forG (fun i s => ∃ g : Int, s = .int g ∧ (ws.take i).foldl maxW (some 0) = some g) (fun d => d = W (ws.foldl maxW (some 0))) (fun _ => False) ⟨0, rfl, rfl⟩ fun i s d hd hp => ?_) (fun s hs => ?_) (fun d hd => To.ok hd)
  · obtain ⟨hi, rfl⟩ := W_get hd
    obtain ⟨g, rfl, hg⟩ := hp
    cases hw : ws[i] with
    | none =>
      refine To.iteT (by simp) (To.bindE rfl (To.ok ?_))
      show D.non = _
      have e : ws = ws.take (i + 1) ++ ws.drop (i + 1) := (List.take_append_drop _ _).symm
      rw [e, List.foldl_append, fold_step _ _ _ hi, hg, hw]
      rw [show maxW (some g) none = none from rfl, fold_none maxW (fun _ => rfl)]
      rfl
    | some w =>
      refine To.iteF (by simp) ?_
      refine To.ite (k := decide (g < w)) (by simp) (fun z => ?_) (fun z => ?_)
      · refine To.bindE rfl (To.ok ⟨w, rfl, ?_⟩)
        rw [fold_step _ _ _ hi, hg, hw]
        exact if_pos (of_decide_eq_true z)
      · refine To.ok ⟨g, rfl, ?_⟩
        rw [fold_step _ _ _ hi, hg, hw]
        exact if_neg (of_decide_eq_false z)
  · rcases hs with ⟨g, rfl, hg⟩ | hs
    · rw [List.length_map, List.take_length] at hg
      exact To.of rfl (by rw [hg]; rfl)
    · exact hs.elim
theorem total_ok (b : Bool) (ws : List Wt) : m_total_of [sq b (ws.map W)] = .ok (W (ws.foldl addW (some 0))) := by
  refine To.eq ?_
  show To (b_total_of (sq b (ws.map W))) _
  unfold b_total_of
  refine To.bindE rfl (To.bindE (items_sq b _) ?_)
  refine To.lp (To.forG (fun i s => ∃ g : Int, s = .int g ∧ (ws.take i).foldl addW (some 0) = some g) (fun d => d = W (ws.foldl addW (some 0))) (fun _ => False) ⟨0, rfl, rfl⟩ fun i s d hd hp => ?_) (fun s hs => ?_) (fun d hd => To.ok hd)
  · obtain ⟨hi, rfl⟩ := W_get hd
    obtain ⟨g, rfl, hg⟩ := hp
    cases hw : ws[i] with
    | none =>
      refine To.iteT (by simp) (To.bindE rfl (To.ok ?_))
      show D.non = _
      have e : ws = ws.take (i + 1) ++ ws.drop (i + 1) := (List.take_append_drop _ _).symm
      rw [e, List.foldl_append, fold_step _ _ _ hi, hg, hw]
      rw [show addW (some g) none = none from rfl, fold_none addW (fun _ => rfl)]
      rfl
    | some w =>
      refine To.iteF (by simp) (To.bindE (a := .int (g + w)) (by simp) (To.ok ⟨g + w, rfl, ?_⟩))
      rw [fold_step _ _ _ hi, hg, hw]
      rfl
  · rcases hs with ⟨g, rfl, hg⟩ | hs
    · rw [List.length_map, List.take_length] at hg
      exact To.of rfl (by rw [hg]; rfl)
    · exact hs.elim
theorem neD_lstW (u : List Wt) : neD (.lst (u.map W)) (.lst (u.map W)) = some (.bl false) := by
  have h1 : ∀ u : List Wt, PyData.canLayAll0 (u.map pW) = true := by
    intro u
    induction u with
    | nil => simp [PyData.canLayAll0]
    | cons w u ih => cases w <;> simp [PyData.canLayAll0, PyData.canLay0, pW, ih]
  have h2 : ∀ u : List Wt, PyData.depthAll (u.map pW) = 0 := by
    intro u
    induction u with
    | nil => simp [PyData.depthAll]
    | cons w u ih => cases w <;> simp [PyData.depthAll, PyData.depth, pW, ih]
  have hs : SeqAt.shaped (.list (u.map pW)) = true := by simp [SeqAt.shaped, PyData.canLay0, PyData.depth, h1, h2]
  have hv : PyData.eqv (.list (u.map pW)) (.list (u.map pW)) = true := by
    unfold PyData.eqv
    rw [eqvAll_W]
    simp
  unfold neD toP
  rw [toPs_W]
  simp only [Option.map_some, hs, hv, Bool.and_self, if_true, Bool.not_true]
theorem row_told_ok (ws : List Wt) : m__law_row_told [.lst (ws.map W)] = .ok (.bl true) := by
  refine To.eq ?_
  show To (b__law_row_told (.lst (ws.map W))) _
  unfold b__law_row_told
  refine To.bindE rfl (To.bindE rfl (To.bindE rfl (To.bindE (a := ws.map W) (by simp) ?_)))
  refine To.bind (To.forR (fun i s => s = (W ((ws.take i).foldl minW none), W ((ws.take i).foldl maxW (some 0)), W ((ws.take i).foldl addW (some 0)))) rfl fun i s d hd hp => ?_) ?_
  · obtain ⟨hi, rfl⟩ := W_get hd
    subst hp
    rw [fold_step _ _ _ hi, fold_step _ _ _ hi, fold_step _ _ _ hi]
    generalize (ws.take i).foldl minW none = a
    generalize (ws.take i).foldl maxW (some 0) = g
    generalize (ws.take i).foldl addW (some 0) = t
    generalize ws[i] = w
    refine To.bindE (a := W (minW a w)) (by simp only [consR_ok, callR_ok, List.append_nil, lesser_ok]) ?_
    refine To.bindE (a := W (maxW g w)) ?_ ?_
    · cases g with
      | none => simp [iteR, maxW]
      | some g =>
        cases w with
        | none => simp [iteR, maxW]
        | some w =>
          by_cases z : g < w
          · simp [iteR, maxW, z]
          · simp [iteR, maxW, z]
    · cases t with
      | none => exact To.iteF (by simp) (To.bindE rfl (To.ok (by cases w <;> rfl)))
      | some t =>
        cases w with
        | none => exact To.iteF (by simp) (To.bindE rfl (To.ok rfl))
        | some w => exact To.iteT (by simp) (To.bindE (a := .int (t + w)) (by simp) (To.ok rfl))
  · rintro s rfl
    rw [List.length_map, List.take_length]
    have l0 := leastof_ok false ws
    have l1 := leastof_ok true ws
    have g0 := greatest_ok false ws
    have g1 := greatest_ok true ws
    have t0 := total_ok false ws
    have t1 := total_ok true ws
    simp only [sq, if_true, Bool.false_eq_true, if_false] at l0 l1 g0 g1 t0 t1
    generalize ws.foldl minW none = a at *
    generalize ws.foldl maxW (some 0) = g at *
    generalize ws.foldl addW (some 0) = t at *
    refine To.bindE (a := [.lst (ws.map W), .tup (ws.map W)]) ?_ ?_
    · simp only [consR_ok, callOo_ok, listO_lst, Res.ofO_some, lstV_ok, callO_ok, tupleD_lst]
      rw [disp_go (by simp)]
      rfl
    refine To.lp (To.forG (fun _ _ => True) (fun _ => False) (fun _ => False) trivial fun i s d hd _ => ?_) (fun _ _ => ?_) (fun _ h => h.elim)
    · have : d = .lst (ws.map W) ∨ d = .tup (ws.map W) := by
        have := List.mem_of_getElem? hd
        simpa using this
      rcases this with rfl | rfl
      · refine To.iteF ?_ (To.iteF ?_ (To.ok trivial))
        · simp only [consR_ok, callR_ok, List.append_nil, l0, g0, same_W, decide_true]
          rfl
        · simp only [consR_ok, callR_ok, List.append_nil, t0, same_W, decide_true, callOo_ok, listO_lst, Res.ofO_some, lstV_ok, op2_ok, neD_lstW]
          rfl
      · refine To.iteF ?_ (To.iteF ?_ (To.ok trivial))
        · simp only [consR_ok, callR_ok, List.append_nil, l1, g1, same_W, decide_true]
          rfl
        · simp only [consR_ok, callR_ok, List.append_nil, t1, same_W, decide_true, callOo_ok, listO_tup, Res.ofO_some, lstV_ok, op2_ok, neD_lstW]
          rfl
    · have kw : ∀ m : List D → Res D, callR m [] (kwL 0 (List.length (α := Str) ["worths"]) [0] [] (.ok []) (consR (lstV (callOo listO (consR (.ok (.lst (ws.map W))) (.ok [])))) (.ok []))) = m [.lst (ws.map W)] := fun m => by
        simp only [consR_ok, callOo_ok, listO_lst, Res.ofO_some, lstV_ok]
        rw [kwL_ok, if_pos ⟨rfl, rfl⟩, callR_ok]
        rfl
      rw [kw, kw, kw, l0, t0, g0]
      refine To.iteF ?_ (To.iteF ?_ (To.of ?_ rfl))
      · simp only [consR_ok, callR_ok, List.append_nil, same_W, decide_true]
        rfl
      · simp only [consR_ok, callR_ok, List.append_nil, same_W, decide_true]
        rfl
      · simp only [consR_ok, callR_ok, List.append_nil, same_W, decide_true]
end K03

namespace K03
open PySem PySem.Spec PyProof.Rows L2 Px
theorem order_told_ok (ws : List Wt) (h0 : 0 < ws.length) (h1 : ws.length ≤ 1000) : m__law_order_told [.lst (ws.map W)] = .ok (.bl true) := by
  refine To.eq ?_
  show To (b__law_order_told (.lst (ws.map W))) _
  unfold b__law_order_told
  refine To.bindE (a := (List.range ws.length).map fun (i : Nat) => D.int (i : Int)) ?_ ?_
  · simp only [consR_ok, callO_ok, lenD_lst, List.length_map, Res.ofO_some, callOo_ok, rng1_nat (show ws.length ≤ 16777216 by omega)]
  refine To.lp (To.forG (fun _ _ => True) (fun _ => False) (fun _ => False) trivial fun i s d hd _ => ?_) (fun _ _ => To.ok rfl) (fun _ h => h.elim)
  obtain ⟨hi, rfl⟩ := range_get hd
  have hpos : (0 : Int) < ws.length := by omega
  obtain ⟨a, ha⟩ := Int.eq_ofNat_of_zero_le (Int.emod_nonneg ((i : Int) * 2 + 1) (show (ws.length : Int) ≠ 0 by omega))
  have ha2 := Int.emod_lt_of_pos ((i : Int) * 2 + 1) hpos
  rw [ha] at ha2
  have ha3 : a < ws.length := by omega
  have m1 : repD (.int (i : Int)) (.int 2) = some (.int ((i : Int) * 2)) := mul_ok (n := 10) (k := 2) (by omega) (show (i : Int) < 1000 by omega) (by decide) (by decide) (show (2 : Int) < 3 by decide) (by decide) (by decide) (by decide) (by decide)
  refine To.bindE (a := W ws[a]) ?_ ?_
  · simp only [op2_ok, m1, Res.ofO_some, addD_int, consR_ok, callO_ok, lenD_lst, List.length_map, modD_pos hpos, ha, ix_lst (get_W ha3)]
  have ei : op2 ixD (.ok (.lst (ws.map W))) (.ok (.int (i : Int))) = .ok (W ws[i]) := by rw [op2_ok, ix_lst (get_W hi)]; rfl
  rw [ei]
  generalize ws[a] = o
  generalize ws[i] = x
  have b1 : callR m_is_before [] (consR (.ok (W x)) (consR (.ok (W o)) (.ok []))) = .ok (.bl (bef x o)) := by simp only [consR_ok, callR_ok, List.append_nil, before_W]
  have b2 : callR m_is_before [] (kwL 0 (List.length (α := Str) ["two", "one"]) [1, 0] [] (.ok []) (consR (.ok (W o)) (consR (.ok (W x)) (.ok [])))) = .ok (.bl (bef x o)) := by
    rw [consR_ok, consR_ok, kwL_ok, if_pos ⟨rfl, rfl⟩, callR_ok]
    exact before_W x o
  rw [b1, b2]
  refine To.bindE (a := [.bl (bef x o), .bl (bef x o)]) ?_ ?_
  · rw [consR_ok, consR_ok, disp_go (by simp)]
    rfl
  have e3 : andV (op2 notND (.ok (W x)) (.ok .non)) (orV (op2 isND (.ok (W o)) (.ok .non)) (op2 ltD (.ok (W x)) (.ok (W o)))) = .ok (.bl (bef x o)) := by
    cases x <;> cases o <;> simp [bef]
  refine To.lp (To.forG (fun _ _ => True) (fun _ => False) (fun _ => False) trivial fun j s d hd _ => ?_) (fun _ _ => ?_) (fun _ h => h.elim)
  · have hdd : d = .bl (bef x o) := by
      have := List.mem_of_getElem? hd
      simpa using this
    subst hdd
    refine To.iteF ?_ (To.ok trivial)
    rw [e3]
    simp [isiD, isBT, neD_bl]
  · refine To.bindE (a := .lst ([some 1, some 0].map W)) (by rw [consR_ok, consR_ok, disp_go (by simp)]; rfl) ?_
    have kw : callR m_rank_of [] (kwL 0 (List.length (α := Str) ["worth"]) [0] [] (.ok []) (consR (.ok (W x)) (.ok []))) = m_rank_of [W x] := by
      rw [consR_ok, kwL_ok, if_pos ⟨rfl, rfl⟩, callR_ok]
      rfl
    have kw2 : callR m_rank_of [] (consR (.ok (W x)) (.ok [])) = m_rank_of [W x] := rfl
    rw [kw, kw2, rank_W]
    cases x with
    | none =>
      refine To.bindE (a := .lst ([some 1, some 0].map W)) rfl ?_
      have e := same_tup [some 1, some 0] [some 1, some 0] (by decide) (by decide) rfl
      refine To.iteF ?_ (To.ok trivial)
      show orB (notB (truR (m__law_same_worths [.tup ([some 1, some 0].map W), .lst ([some 1, some 0].map W)]))) (notB (truR (m__law_same_worths [.tup ([some 1, some 0].map W), .lst ([some 1, some 0].map W)]))) = _
      rw [e]
      rfl
    | some y =>
      refine To.bindE (a := .lst ([some 0, some y].map W)) ?_ ?_
      · simp only [op2_ok, notND_non, isNon_W, Res.ofO_some, Option.isNone_some, Bool.not_false, blR_ok]
        rw [consR_ok, consR_ok, disp_go (by simp), lstV_ok]
        rfl
      have e := same_tup [some 0, some y] [some 0, some y] (by simp) (by simp) rfl
      refine To.iteF ?_ (To.ok trivial)
      have e' : callR m__law_same_worths [] (consR (.ok (.tup [.int 0, .int y])) (consR (.ok (.lst ([some 0, some y].map W))) (.ok []))) = .ok (.bl true) := by
        rw [consR_ok, consR_ok, callR_ok]
        exact e
      dsimp only
      rw [e']
      rfl
theorem long_rows_ok (gs : List (List Wt × Wt)) (B : Nat) (ex : List Nat) (hB : B + ex.length ≤ 1000) : m__law_long_rows_told [.lst (gs.map LG), .lst (nums B ex)] = .ok (.bl true) := by
  refine To.eq ?_
  show To (b__law_long_rows_told (.lst (gs.map LG)) (.lst (nums B ex))) _
  unfold b__law_long_rows_told
  refine To.bindE (a := gs.map LG) (by simp) ?_
  refine To.lp (To.forG (fun _ _ => True) (fun _ => False) (fun _ => False) trivial fun i s d hd _ => ?_) (fun _ _ => To.ok rfl) (fun _ h => h.elim)
  obtain ⟨hi, rfl⟩ := LG_items gs hd
  obtain ⟨ws, hws⟩ : ∃ ws : List Wt, ws = (List.range B ++ ex).map fun (n : Nat) => ledF gs[i].1 gs[i].2 (some (n : Int)) := ⟨_, rfl⟩
  have hl : ws.length ≤ 1000 := by rw [hws]; simpa using hB
  refine To.bindE (a := .lst (ws.map W)) ?_ ?_
  · rw [itemsR_ok, itemsD_lst, Res.ofO_some]
    unfold nums
    rw [mapL_ok (h := fun (n : Nat) => W (ledF gs[i].1 gs[i].2 (some (n : Int)))) (by simp; omega), hws, List.map_map]
    · rfl
    · intro n _
      have e := at_ok gs[i] (w := some (n : Int)) (fun j e => by cases e; omega)
      simp only [W_some] at e
      simp only [consR_ok, callR_ok, List.append_nil, e]
  · have rv : lstV (mapL (fun k_0 => op2 ixD (.ok (.lst (ws.map W))) (op2 subD (op2 subD (callO lenD (consR (.ok (.lst (ws.map W))) (.ok []))) (.ok (.int 1))) (.ok k_0))) (callOo rng1 (consR (callO lenD (consR (.ok (.lst (ws.map W))) (.ok []))) (.ok [])))) = .ok (.lst (((List.range ws.length).map fun k => (ws[ws.length - 1 - k]?).join).map W)) := by
      have e : callOo rng1 (consR (callO lenD (consR (.ok (.lst (ws.map W))) (.ok []))) (.ok [])) = .ok ((List.range ws.length).map fun (i : Nat) => D.int (i : Int)) := by
        simp only [consR_ok, callO_ok, lenD_lst, List.length_map, Res.ofO_some, callOo_ok, rng1_nat (show ws.length ≤ 16777216 by omega)]
      rw [e, mapL_ok (h := fun (k : Nat) => W ((ws[ws.length - 1 - k]?).join)) (by simp; omega), List.map_map]
      · rfl
      · intro k hk
        have hk : k < ws.length := by simpa using hk
        have c : (ws.length : Int) - 1 - (k : Int) = ((ws.length - 1 - k : Nat) : Int) := by omega
        have hk2 : ws.length - 1 - k < ws.length := by omega
        simp only [consR_ok, callO_ok, lenD_lst, List.length_map, Res.ofO_some, op2_ok, subD_int, c, ix_lst (get_W hk2)]
        rw [List.getElem?_eq_getElem hk2]
        rfl
    refine To.iteF ?_ (To.ok trivial)
    rw [rv]
    simp only [consR_ok, callR_ok, List.append_nil, row_told_ok]
    rfl
theorem set_W {O : Type} {ws : List Wt} {v : Wt} {q : Int} {k : List D → Res O} (h0 : 0 ≤ q) (h1 : q < ws.length) : setR (ws.map W) (.ok (W v)) (.ok (.int q)) k = k ((ws.set q.toNat v).map W) := by
  unfold setR
  have hix : ixN (ws.map W).length q = some q.toNat := by
    unfold ixN
    rw [List.length_map, if_pos h0, if_pos h1]
  simp only [Res.ok_bind, hix]
  rw [List.map_set]
def sizesG : List Int := [16, 51, 1191, 2520, 2520, 2520, 3, 100000000000000000000, 2520]
theorem great_row_ok (c : Int) : ∃ ws : List Wt, m__law_great_row [.int c] = .ok (.lst (ws.map W)) := by
  have main : To (b__law_great_row (.int c)) fun d => ∃ ws : List Wt, d = .lst (ws.map W) := by
    unfold b__law_great_row
    obtain ⟨row, er, hlen, hrow⟩ := digits_ok c sizesG (by decide +kernel) (by decide)
    refine To.bindE (a := .lst (row.map D.int)) ?_ ?_
    · simp only [consR_ok, op2_ok, p20, Res.ofO_some]
      rw [disp_go (by simp)]
      simp only [lstV_ok, consR_ok, callR_ok, List.append_nil]
      exact er
    match row, hlen with
    | [r0, r1, r2, r3, r4, r5, r6, r7, r8], _ =>
    have h1 := hrow 1 r1 51 rfl rfl
    have h2 := hrow 2 r2 1191 rfl rfl
    have x0 : op2 ixD (.ok (.lst ([r0, r1, r2, r3, r4, r5, r6, r7, r8].map D.int))) (.ok (.int 0)) = .ok (.int r0) := by rw [op2_ok, show ixD (.lst ([r0, r1, r2, r3, r4, r5, r6, r7, r8].map D.int)) (.int 0) = some (.int r0) from ix_lst (n := 0) rfl]; rfl
    have x1 : op2 ixD (.ok (.lst ([r0, r1, r2, r3, r4, r5, r6, r7, r8].map D.int))) (.ok (.int 1)) = .ok (.int r1) := by rw [op2_ok, show ixD (.lst ([r0, r1, r2, r3, r4, r5, r6, r7, r8].map D.int)) (.int 1) = some (.int r1) from ix_lst (n := 1) rfl]; rfl
    have x2 : op2 ixD (.ok (.lst ([r0, r1, r2, r3, r4, r5, r6, r7, r8].map D.int))) (.ok (.int 2)) = .ok (.int r2) := by rw [op2_ok, show ixD (.lst ([r0, r1, r2, r3, r4, r5, r6, r7, r8].map D.int)) (.int 2) = some (.int r2) from ix_lst (n := 2) rfl]; rfl
    have x3 : op2 ixD (.ok (.lst ([r0, r1, r2, r3, r4, r5, r6, r7, r8].map D.int))) (.ok (.int 3)) = .ok (.int r3) := by rw [op2_ok, show ixD (.lst ([r0, r1, r2, r3, r4, r5, r6, r7, r8].map D.int)) (.int 3) = some (.int r3) from ix_lst (n := 3) rfl]; rfl
    have x4 : op2 ixD (.ok (.lst ([r0, r1, r2, r3, r4, r5, r6, r7, r8].map D.int))) (.ok (.int 4)) = .ok (.int r4) := by rw [op2_ok, show ixD (.lst ([r0, r1, r2, r3, r4, r5, r6, r7, r8].map D.int)) (.int 4) = some (.int r4) from ix_lst (n := 4) rfl]; rfl
    have x5 : op2 ixD (.ok (.lst ([r0, r1, r2, r3, r4, r5, r6, r7, r8].map D.int))) (.ok (.int 5)) = .ok (.int r5) := by rw [op2_ok, show ixD (.lst ([r0, r1, r2, r3, r4, r5, r6, r7, r8].map D.int)) (.int 5) = some (.int r5) from ix_lst (n := 5) rfl]; rfl
    have x6 : op2 ixD (.ok (.lst ([r0, r1, r2, r3, r4, r5, r6, r7, r8].map D.int))) (.ok (.int 6)) = .ok (.int r6) := by rw [op2_ok, show ixD (.lst ([r0, r1, r2, r3, r4, r5, r6, r7, r8].map D.int)) (.int 6) = some (.int r6) from ix_lst (n := 6) rfl]; rfl
    have x7 : op2 ixD (.ok (.lst ([r0, r1, r2, r3, r4, r5, r6, r7, r8].map D.int))) (.ok (.int 7)) = .ok (.int r7) := by rw [op2_ok, show ixD (.lst ([r0, r1, r2, r3, r4, r5, r6, r7, r8].map D.int)) (.int 7) = some (.int r7) from ix_lst (n := 7) rfl]; rfl
    have x8 : op2 ixD (.ok (.lst ([r0, r1, r2, r3, r4, r5, r6, r7, r8].map D.int))) (.ok (.int 8)) = .ok (.int r8) := by rw [op2_ok, show ixD (.lst ([r0, r1, r2, r3, r4, r5, r6, r7, r8].map D.int)) (.int 8) = some (.int r8) from ix_lst (n := 8) rfl]; rfl
    generalize D.lst ([r0, r1, r2, r3, r4, r5, r6, r7, r8].map D.int) = rw at x0 x1 x2 x3 x4 x5 x6 x7 x8
    clear hrow er
    rw [x0, x1, x2, x3, x4, x5, x6, x7, x8]
    refine To.bindE (a := .int (10 + r1)) (by simp) ?_
    refine To.bind (P := fun d => ∃ M : Nat, d = .int M ∧ 10 ≤ M ∧ M ≤ 1200) ?_ ?_
    · refine To.ite (k := decide (r0 = 0)) (by simp [eqD_int]) (fun _ => ?_) (fun _ => ?_)
      · exact To.of (a := .int (10 + r2)) (by simp) ⟨(10 + r2).toNat, by congr 1; omega, by omega, by omega⟩
      · exact To.ok ⟨(10 + r1).toNat, by congr 1; omega, by omega, by omega⟩
    rintro d ⟨M, rfl, hM0, hM1⟩
    have hMp : (0 : Int) < M := by omega
    have md : ∀ x : Int, op2 modD (callO intD (consR (.ok (.int x)) (.ok []))) (.ok (.int M)) = .ok (.int (x % M)) := fun x => by simp only [consR_ok, callO_ok, intD_int, Res.ofO_some, op2_ok, modD_pos hMp]
    refine To.bindE (a := ((List.range M).map fun (k : Nat) => some (r7 + 10 + (k : Int) * 7919 % 2521)).map W) ?_ ?_
    · rw [consR_ok, callOo_ok, rng1_nat (show M ≤ 16777216 by omega), Res.ofO_some, mapL_ok (h := fun (k : Nat) => W (some (r7 + 10 + (k : Int) * 7919 % 2521))) (by simp; omega), List.map_map]
      · rfl
      · intro k hk
        have hk : k < M := by simpa using hk
        have m1 : repD (.int (k : Int)) (.int 7919) = some (.int ((k : Int) * 7919)) := mul_ok (n := 11) (k := 13) (by omega) (show (k : Int) < 1200 by omega) (by decide) (by decide) (show (7919 : Int) < 7920 by decide) (by decide) (by decide) (by decide) (by decide)
        simp only [op2_ok, addD_int, Res.ofO_some, m1, consR_ok, callO_ok, intD_int, modD_pos (show (0 : Int) < 2521 by decide), W_some]
    have hl0 : ((List.range M).map fun (k : Nat) => some (r7 + 10 + (k : Int) * 7919 % 2521)).length = M := by simp
    generalize (List.range M).map (fun (k : Nat) => some (r7 + 10 + (k : Int) * 7919 % 2521)) = ws at hl0
    have n1 := fun x : Int => Int.emod_nonneg x (show (M : Int) ≠ 0 by omega)
    have n2 := fun x : Int => Int.emod_lt_of_pos x hMp
    have v1 : op2 addD (op2 addD (.ok (.int r7)) (.ok (.int 2531))) (op2 modD (callO intD (consR (.ok (.int r8)) (.ok []))) (.ok (.int 9))) = .ok (W (some (r7 + 2531 + r8 % 9))) := by
      simp only [op2_ok, addD_int, Res.ofO_some, consR_ok, callO_ok, intD_int, modD_pos (show (0 : Int) < 9 by decide), W_some]
    have v2 : op2 addD (.ok (.int r7)) (op2 modD (callO intD (consR (.ok (.int r8)) (.ok []))) (.ok (.int 10))) = .ok (W (some (r7 + r8 % 10))) := by
      simp only [op2_ok, addD_int, Res.ofO_some, consR_ok, callO_ok, intD_int, modD_pos (show (0 : Int) < 10 by decide), W_some]
    rw [v1, v2, md, md, md, set_W (n1 r3) (by rw [hl0]; exact n2 r3), set_W (n1 r4) (by rw [List.length_set, hl0]; exact n2 r4)]
    have hl2 : ((ws.set (r3 % (M : Int)).toNat (some (r7 + 2531 + r8 % 9))).set (r4 % (M : Int)).toNat (some (r7 + r8 % 10))).length = M := by simp [hl0]
    generalize (ws.set (r3 % (M : Int)).toNat (some (r7 + 2531 + r8 % 9))).set (r4 % (M : Int)).toNat (some (r7 + r8 % 10)) = vs at hl2
    refine To.bind (P := fun d => ∃ ws : List Wt, d = ws.map W) ?_ ?_
    · refine To.ite (k := decide (r6 = 0)) (by simp [eqD_int]) (fun _ => ?_) (fun _ => To.ok ⟨vs, rfl⟩)
      have e := set_W (O := List D) (ws := vs) (v := none) (k := fun w => .ok w) (n1 r5) (by rw [hl2]; exact n2 r5)
      exact To.of e ⟨_, rfl⟩
    rintro d ⟨ws, rfl⟩
    exact To.ok ⟨ws, rfl⟩
  obtain ⟨d, e, ws, rfl⟩ := main
  exact ⟨ws, e⟩
/-! >> over | -/
theorem tells_r {o : D} {f : Nat → Wt} {m : Wt} {r : List Wt × Wt} (g : IsG o f m) (gr : Good r.1 r.2) (hf : ∀ n : Nat, ledF r.1 r.2 (some (n : Int)) = f n) (hm : r.2 = m) (ws : List Wt) (hw : ∀ w ∈ ws, nn w) : m__law_tells [o, LG r, .lst (ws.map W)] = .ok (.bl true) := by
  subst hm
  exact tells_ok g gr.len hf ws hw
theorem addW_min (a b c : Wt) : addW (minW a b) c = minW (addW a c) (addW b c) := by
  cases c with
  | none => cases a <;> cases b <;> simp [addW, minW] <;> split <;> rfl
  | some c =>
    cases a with
    | none => cases b <;> simp [addW, minW]
    | some a =>
      cases b with
      | none => simp [addW, minW]
      | some b =>
        simp only [minW, addW]
        by_cases h : a < b
        · rw [if_pos h, if_pos (show a + c < b + c by omega)]
        · rw [if_neg h, if_neg (show ¬ a + c < b + c by omega)]
theorem addW_comm (a b : Wt) : addW a b = addW b a := by
  cases a <;> cases b <;> simp [addW, Int.add_comm]
theorem apF_min {f : Nat → Wt} {m : Wt} {L : Nat} (g : GF f m L) {a b : Wt} (ha : nn a) (hb : nn b) : apF f (minW a b) = minW (apF f a) (apF f b) := by
  cases a with
  | none => rfl
  | some a =>
    cases b with
    | none => rw [minW_none]; exact (minW_none _).symm
    | some b =>
      have h1 := ha a rfl
      have h2 := hb b rfl
      simp only [minW]
      by_cases h : a < b
      · rw [if_pos h]
        exact leW_antisymm (minW_ge (leW_refl _) (g.mon (by omega))) (minW_le1 _ _)
      · rw [if_neg h]
        exact leW_antisymm (minW_ge (g.mon (by omega)) (leW_refl _)) (minW_le2 _ _)
theorem goes_over_ok {os : List D} {gs : List (List Wt × Wt)} (h : Objs os (gs.map rf)) (hg : ∀ p ∈ gs, Good p.1 p.2) (h3 : 3 ≤ os.length) (ws : List Wt) (hw : ∀ w ∈ ws, nn w) : m__law_goes_over [.lst os, .lst (gs.map LG), .lst (ws.map W)] = .ok (.bl true) := by
  refine To.eq ?_
  have hl : os.length = gs.length := by rw [h.length, List.length_map]
  have go : ∀ (k : Nat) (hk : k < gs.length), IsG (os[k]'(by omega)) (rf gs[k]).1 (rf gs[k]).2 := fun k hk => by
    have := h.get k (by omega) (by simpa using hk)
    simpa using this
  have gd : ∀ (k : Nat) (hk : k < gs.length), Good gs[k].1 gs[k].2 := fun k hk => hg _ (List.getElem_mem hk)
  have ixo : ∀ (k : Nat) (hk : k < os.length), op2 ixD (.ok (.lst os)) (.ok (.int (k : Int))) = .ok os[k] := fun k hk => by rw [op2_ok, ix_lst (List.getElem?_eq_getElem hk)]; rfl
  have i0 : op2 ixD (.ok (.lst os)) (.ok (.int 0)) = .ok (os[0]'(by omega)) := ixo 0 (by omega)
  have i1 : op2 ixD (.ok (.lst os)) (.ok (.int 1)) = .ok (os[1]'(by omega)) := ixo 1 (by omega)
  have i2 : op2 ixD (.ok (.lst os)) (.ok (.int 2)) = .ok (os[2]'(by omega)) := ixo 2 (by omega)
  have j0 : op2 ixD (.ok (.lst (gs.map LG))) (.ok (.int 0)) = .ok (LG (gs[0]'(by omega))) := LGs gs 0 (by omega)
  have j1 : op2 ixD (.ok (.lst (gs.map LG))) (.ok (.int 1)) = .ok (LG (gs[1]'(by omega))) := LGs gs 1 (by omega)
  have j2 : op2 ixD (.ok (.lst (gs.map LG))) (.ok (.int 2)) = .ok (LG (gs[2]'(by omega))) := LGs gs 2 (by omega)
  have a0 := go 0 (by omega)
  have a1 := go 1 (by omega)
  have a2 := go 2 (by omega)
  have d0 := gd 0 (by omega)
  have d1 := gd 1 (by omega)
  have d2 := gd 2 (by omega)
  show To (b__law_goes_over (.lst os) (.lst (gs.map LG)) (.lst (ws.map W))) _
  unfold b__law_goes_over
  rw [i0, i1, i2, j0, j1, j2]
  generalize os[0]'(by omega) = o0 at a0
  generalize os[1]'(by omega) = o1 at a1
  generalize os[2]'(by omega) = o2 at a2
  generalize gs[0]'(by omega) = p0 at a0 d0
  generalize gs[1]'(by omega) = p1 at a1 d1
  generalize gs[2]'(by omega) = p2 at a2 d2
  refine To.bindE rfl (To.bindE rfl (To.bindE rfl ?_))
  obtain ⟨r, er, gr, hf, hm, _⟩ := both_ok d0 d1 false
  obtain ⟨s, es, gs', hfs, hms, _⟩ := both_ok gr d2 true
  obtain ⟨x1, ex1, gx1⟩ := or_e a0 a1
  obtain ⟨x2, ex2, gx2⟩ := own_e gx1 a2
  obtain ⟨y1, ey1, gy1⟩ := own_e a0 a2
  obtain ⟨y2, ey2, gy2⟩ := own_e a1 a2
  obtain ⟨y3, ey3, gy3⟩ := or_e gy1 gy2
  refine To.bindE (a := LG s) (by simp only [consR_ok, callR_ok, List.append_nil, er, es]) ?_
  refine To.bindE (a := x2) (by rw [ex1, ex2]) (To.bindE (a := y3) (by rw [ey1, ey2, ey3]) ?_)
  have gy : IsG y3 (fun n => apF (rf p2).1 (minW ((rf p0).1 n) ((rf p1).1 n))) (addW (minW (rf p0).2 (rf p1).2) (rf p2).2) := by
    rw [addW_min]
    exact gy3.congr fun n => (apF_min d2.gf (d0.gf.nn n) (d1.gf.nn n)).symm
  have hs1 : ∀ n : Nat, ledF s.1 s.2 (some (n : Int)) = apF (rf p2).1 (minW ((rf p0).1 n) ((rf p1).1 n)) := fun n => by
    rw [hfs n]
    show apF (rf p2).1 (ledF r.1 r.2 (some (n : Int))) = _
    rw [hf n]
    rfl
  have hs2 : s.2 = addW (minW (rf p0).2 (rf p1).2) (rf p2).2 := by rw [hms, hm]; rfl
  refine To.iteF ?_ ?_
  · simp only [consR_ok, callR_ok, List.append_nil, tells_r gx2 gs' hs1 hs2 ws hw, tells_r gy gs' hs1 hs2 ws hw, equal_ok gx2 gy]
    rfl
  obtain ⟨r', er', gr', hf', hm', _⟩ := both_ok d1 d2 false
  obtain ⟨s', es', gs2, hfs', hms', _⟩ := both_ok d0 gr' true
  obtain ⟨z1, ez1, gz1⟩ := or_e a1 a2
  obtain ⟨z2, ez2, gz2⟩ := own_e a0 gz1
  obtain ⟨u1, eu1, gu1⟩ := own_e a0 a1
  obtain ⟨u3, eu3, gu3⟩ := or_e gu1 gy1
  refine To.bindE (a := LG s') (by simp only [consR_ok, callR_ok, List.append_nil, er', es']) ?_
  refine To.bindE (a := z2) (by rw [ez1, ez2]) (To.bindE (a := u3) (by rw [eu1, ey1, eu3]) ?_)
  have gu : IsG u3 (fun n => apF (fun k => minW ((rf p1).1 k) ((rf p2).1 k)) ((rf p0).1 n)) (addW (rf p0).2 (minW (rf p1).2 (rf p2).2)) := by
    rw [addW_comm, addW_min, addW_comm (rf p1).2, addW_comm (rf p2).2]
    refine gu3.congr fun n => ?_
    cases (rf p0).1 n <;> rfl
  have ht1 : ∀ n : Nat, ledF s'.1 s'.2 (some (n : Int)) = apF (fun k => minW ((rf p1).1 k) ((rf p2).1 k)) ((rf p0).1 n) := fun n => by
    rw [hfs' n]
    have e : (rf r').1 = fun k => minW ((rf p1).1 k) ((rf p2).1 k) := funext fun k => hf' k
    show apF (rf r').1 ((rf p0).1 n) = _
    rw [e]
  have ht2 : s'.2 = addW (rf p0).2 (minW (rf p1).2 (rf p2).2) := by rw [hms', hm']; rfl
  refine To.of ?_ rfl
  simp only [consR_ok, callR_ok, List.append_nil, tells_r gz2 gs2 ht1 ht2 ws hw, tells_r gu gs2 ht1 ht2 ws hw, equal_ok gz2 gu, andV_true]
end K03

namespace K03
open PySem PySem.Spec PyProof.Rows L2 Px
theorem mapR_LG {fe : D → Res D} : ∀ l : List Nat, (∀ n ∈ l, ∃ p : List Wt × Wt, fe (nInt n) = .ok (LG p) ∧ Good p.1 p.2) → ∃ gs : List (List Wt × Wt), mapR fe (l.map nInt) = .ok (gs.map LG) ∧ gs.length = l.length ∧ ∀ p ∈ gs, Good p.1 p.2
  | [], _ => ⟨[], rfl, rfl, fun p hp => by simp at hp⟩
  | n :: l, h => by
    obtain ⟨gs, e, hl, hg⟩ := mapR_LG l fun k hk => h k (List.mem_cons_of_mem _ hk)
    obtain ⟨p, e1, g⟩ := h n List.mem_cons_self
    refine ⟨p :: gs, ?_, by simp [hl], fun q hq => ?_⟩
    · rw [List.map_cons, mapR, e1, e]
      rfl
    · rcases List.mem_cons.mp hq with rfl | hq
      · exact g
      · exact hg q hq
theorem minF_le {rs : List ((Nat → Wt) × Wt)} {r : (Nat → Wt) × Wt} (h : r ∈ rs) (n : Nat) : leW (minF rs n) (r.1 n) := by
  induction rs with
  | nil => cases h
  | cons x rs ih =>
    rw [minF_cons]
    rcases List.mem_cons.mp h with rfl | h
    · exact minW_le1 _ _
    · exact leW_trans (minW_le2 _ _) (ih h)
theorem minM_le {rs : List ((Nat → Wt) × Wt)} {r : (Nat → Wt) × Wt} (h : r ∈ rs) : leW (minM rs) r.2 := by
  induction rs with
  | nil => cases h
  | cons x rs ih =>
    rw [minM_cons]
    rcases List.mem_cons.mp h with rfl | h
    · exact minW_le1 _ _
    · exact leW_trans (minW_le2 _ _) (ih h)
theorem minW_abs {a b : Wt} (h : leW a b) : minW a b = a := leW_antisymm (minW_le1 _ _) (minW_ge (leW_refl _) h)
def sizes3 : List Int := [6, 8, 2, 30, 2520, 4, 100000000000000000000]
theorem reps_ok (v : Int) (M : Nat) (hM : M ≤ 1000) : op2 repD (lstV (dispR (consR (.ok (.int v)) (.ok [])))) (.ok (.int (M : Int))) = .ok (.lst ((List.replicate M v).map D.int)) := by
  rw [consR_ok, disp_go (by simp), lstV_ok, op2_ok, repD_lst (by omega) (by omega) (by simp; omega), Res.ofO_some, Int.toNat_natCast]
  congr 2
  clear hM
  induction M with
  | zero => rfl
  | succ n ih => simp [List.replicate_succ]
theorem plain_law (ns : List Int) (hl : ns.length ≤ 63) (hb : ∀ k ∈ ns, Builtin.Int.intBits k ≤ 1048576) : m_law [.scr (ns.map D.int)] = .ok (.bl true) := by
  refine To.eq ?_
  show To (b_law (.scr (ns.map D.int))) _
  unfold b_law
  have cell : ∀ (k : Nat) (i : Int), i = (k : Int) → k ≤ 1000 → ∃ c : Int, callR m__law_cell [] (consR (.ok (.scr (ns.map D.int))) (consR (.ok (.int i)) (.ok []))) = .ok (.int c) ∧ c.natAbs.log2 ≤ 1048576 := fun k i e hk => by rw [e]; exact cell_ok ns hl hb k hk
  generalize D.scr (ns.map D.int) = scr at cell
  obtain ⟨c0, ec0, _⟩ := cell 0 0 rfl (by omega)
  obtain ⟨c1, ec1, _⟩ := cell 1 1 rfl (by omega)
  obtain ⟨c2, ec2, _⟩ := cell 2 2 rfl (by omega)
  obtain ⟨c3, ec3, _⟩ := cell 3 3 rfl (by omega)
  obtain ⟨c13, ec13, _⟩ := cell 13 13 rfl (by omega)
  obtain ⟨c14, ec14, hc14⟩ := cell 14 14 rfl (by omega)
  obtain ⟨c15, ec15, _⟩ := cell 15 15 rfl (by omega)
  rw [ec0, ec1, ec2, ec3, ec13, ec14, ec15]
  -- the shape
  obtain ⟨row, er, hlen, hrow⟩ := digits_ok c0 sizes3 (by decide +kernel) (by decide)
  refine To.bindE (a := .lst (row.map D.int)) ?_ ?_
  · simp only [consR_ok, op2_ok, p20, Res.ofO_some]
    rw [disp_go (by simp)]
    simp only [lstV_ok, consR_ok, callR_ok, List.append_nil]
    exact er
  match row, hlen with
  | [s0, s1, s2, s3, s4, s5, s6], _ =>
  have h0 := hrow 0 s0 6 rfl rfl
  have h3 := hrow 3 s3 30 rfl rfl
  have h6 := hrow 6 s6 _ rfl rfl
  have x0 : ixD (.lst ([s0, s1, s2, s3, s4, s5, s6].map D.int)) (.int 0) = some (.int s0) := ix_lst (n := 0) rfl
  have x1 : ixD (.lst ([s0, s1, s2, s3, s4, s5, s6].map D.int)) (.int 1) = some (.int s1) := ix_lst (n := 1) rfl
  have x2 : ixD (.lst ([s0, s1, s2, s3, s4, s5, s6].map D.int)) (.int 2) = some (.int s2) := ix_lst (n := 2) rfl
  have x3 : ixD (.lst ([s0, s1, s2, s3, s4, s5, s6].map D.int)) (.int 3) = some (.int s3) := ix_lst (n := 3) rfl
  have x4 : ixD (.lst ([s0, s1, s2, s3, s4, s5, s6].map D.int)) (.int 4) = some (.int s4) := ix_lst (n := 4) rfl
  have x5 : ixD (.lst ([s0, s1, s2, s3, s4, s5, s6].map D.int)) (.int 5) = some (.int s5) := ix_lst (n := 5) rfl
  have x6 : ixD (.lst ([s0, s1, s2, s3, s4, s5, s6].map D.int)) (.int 6) = some (.int s6) := ix_lst (n := 6) rfl
  generalize D.lst ([s0, s1, s2, s3, s4, s5, s6].map D.int) = shp at x0 x1 x2 x3 x4 x5 x6
  clear hrow er
  refine To.bind (P := fun d => ∃ M : Nat, d = .int M ∧ 3 ≤ M ∧ M ≤ 9) ?_ ?_
  · obtain ⟨x, hx, e2⟩ := pick (l := [3, 4, 3, 5, 6, 9]) (n := s0) h0.1 (by simp; omega)
    have hx2 : 3 ≤ x ∧ x ≤ 9 := by
      simp only [List.mem_cons, List.not_mem_nil, or_false] at hx
      omega
    refine To.of (a := .int x) ?_ ⟨x.toNat, by congr 1; omega, by omega, by omega⟩
    simp only [consR_ok, op2_ok, x0, Res.ofO_some]
    rw [disp_go (by simp)]
    simp only [lstV_ok, op2_ok]
    have e3 : ixD (.lst [.int 3, .int 4, .int 3, .int 5, .int 6, .int 9]) (.int s0) = some (.int x) := e2
    rw [e3]
    rfl
  rintro d ⟨M, rfl, hM3, hM9⟩
  have hMpos : (0 : Int) < (M : Int) := by omega
  refine To.bindE (reps_ok 0 M (by omega)) ?_
  refine To.bind (P := fun d => ∃ bs : List Int, d = .lst (bs.map D.int) ∧ bs.length = M ∧ ∀ b ∈ bs, 0 ≤ b) ?_ ?_
  · refine To.ite (k := decide (0 < s5)) (by simp only [op2_ok, x5, Res.ofO_some, gtD_int, blR_ok]) (fun _ => ?_) (fun _ => To.ok ⟨List.replicate M 0, rfl, by simp, fun b hb => by rw [List.eq_of_mem_replicate hb]; omega⟩)
    rw [reps_ok 8 M (by omega)]
    obtain ⟨row, er, hrl, hrow⟩ := digits_ok c13 (List.replicate M (8 : Int)) (fun s hs => by rw [List.eq_of_mem_replicate hs]; decide +kernel) (by simp; omega)
    have hrl' : row.length = M := by rw [hrl, List.length_replicate]
    have hb8 : ∀ b ∈ row, 0 ≤ b ∧ b < 8 := fun b hb => by
      obtain ⟨i, hi, rfl⟩ := List.getElem_of_mem hb
      exact hrow i _ 8 (List.getElem?_eq_getElem hi) (by rw [List.getElem?_replicate, if_pos (by omega)])
    refine To.bindE (a := .lst ((row.map fun b => 1 + b * b / 5).map D.int)) ?_ (To.ok ⟨_, rfl, by simp [hrl'], fun b hb => ?_⟩)
    · simp only [consR_ok, callR_ok, List.append_nil, er, itemsR_ok, itemsD_lst, Res.ofO_some]
      rw [mapL_ok (h := fun b => D.int (1 + b * b / 5)) (by omega), List.map_map]
      · rfl
      · intro b hb
        obtain ⟨q0, q1⟩ := hb8 b hb
        have m1 : repD (.int b) (.int b) = some (.int (b * b)) := mul_ok (n := 4) (k := 4) q0 q1 (by decide) q0 q1 (by decide) (by decide) (by decide) (by decide)
        simp only [op2_ok, m1, Res.ofO_some, consR_ok, callO_ok, intD_int, divD_pos (show (0 : Int) < 5 by decide) (by decide), addD_int]
    · obtain ⟨x, hx, rfl⟩ := List.mem_map.mp hb
      have hx0 := (hb8 x hx).1
      have : 0 ≤ x * x := Int.mul_nonneg hx0 hx0
      omega
  rintro d ⟨bs, rfl, hbl, hb0⟩
  -- the grades
  refine To.bind (P := fun s => ∃ gs : List (List Wt × Wt), s = gs.map LG ∧ gs.length = M ∧ ∀ p ∈ gs, Good p.1 p.2) ?_ ?_
  · rw [consR_ok, callOo_ok, rng1_nat (show M ≤ 16777216 by omega), Res.ofO_some]
    unfold mapL
    rw [Res.ok_bind, sizeLine_eq, if_pos (by simp; omega)]
    refine Exists.elim (mapR_LG (fe := _) (List.range M) (fun n hn => ?_)) fun gs h => To.of h.1 ⟨gs, rfl, by simpa using h.2.1, h.2.2⟩
    have hn : n < M := by simpa using hn
    obtain ⟨c, ec, _⟩ := cell (4 + n) (4 + (n : Int)) (by omega) (by omega)
    obtain ⟨p, ep, gp⟩ := grade_ok c (decide (s1 < 5))
    obtain ⟨r, er, gr⟩ := raised_ok gp (b := bs[n]'(by omega)) (hb0 _ (List.getElem_mem _))
    refine ⟨r, ?_, gr⟩
    have eb : op2 ixD (.ok (.lst (bs.map D.int))) (.ok (.int (n : Int))) = .ok (.int (bs[n]'(by omega))) := by
      rw [op2_ok, ix_lst (n := n) (d := .int (bs[n]'(by omega))) (by rw [List.getElem?_map, List.getElem?_eq_getElem (by omega)]; rfl)]
      rfl
    have e4 : op2 addD (.ok (.int 4)) (.ok (nInt n)) = .ok (.int (4 + (n : Int))) := rfl
    show callR m__law_raised [] (consR (callR m__law_grade [] (consR (callR m__law_cell [] (consR (.ok scr) (consR (op2 addD (.ok (.int 4)) (.ok (nInt n))) (.ok [])))) (consR (op2 ltD (op2 ixD (.ok shp) (.ok (.int 1))) (.ok (.int 5))) (.ok [])))) (consR (op2 ixD (.ok (.lst (bs.map D.int))) (.ok (.int (n : Int)))) (.ok []))) = _
    rw [e4, ec, eb]
    simp only [op2_ok, x1, ltD_int, Res.ofO_some, consR_ok, callR_ok, List.append_nil, ep, er]
  rintro s ⟨gs0, rfl, hgl0, hg0⟩
  refine To.bind (P := fun s => ∃ gs : List (List Wt × Wt), s = gs.map LG ∧ gs.length = M ∧ ∀ p ∈ gs, Good p.1 p.2) ?_ ?_
  · refine To.ite (k := decide (s2 = 1)) (by simp only [op2_ok, x2, Res.ofO_some, eqD_int, blR_ok]) (fun _ => ?_) (fun _ => To.ok ⟨gs0, rfl, hgl0, hg0⟩)
    have hz0 : 0 ≤ s4 % (M : Int) := Int.emod_nonneg _ (by omega)
    have hz1 : s4 % (M : Int) < M := Int.emod_lt_of_pos _ hMpos
    have e4 : op2 modD (callO intD (consR (op2 ixD (.ok shp) (.ok (.int 4))) (.ok []))) (.ok (.int M)) = .ok (.int (s4 % M)) := by
      simp only [op2_ok, x4, Res.ofO_some, consR_ok, callO_ok, intD_int, modD_pos hMpos]
    rw [e4]
    obtain ⟨z, hz⟩ := Int.eq_ofNat_of_zero_le hz0
    rw [hz] at hz1 ⊢
    have hzl : z < gs0.length := by omega
    obtain ⟨N, rfl⟩ := Int.eq_ofNat_of_zero_le h3.1
    obtain ⟨q, eq, gq⟩ := lstanding_ok (hg0 gs0[z] (List.getElem_mem hzl)) N (by omega)
    have ei : ixO (gs0.map LG) (.ok (.int ((z : Nat) : Int))) = .ok (LG gs0[z]) := by
      rw [ixO_get (by simpa using hzl)]
      simp
    have hix : ixN (gs0.map LG).length ((z : Nat) : Int) = some z := by
      unfold ixN
      rw [List.length_map, if_pos (by omega), if_pos (by omega), Int.toNat_natCast]
    refine To.of (a := (gs0.map LG).set z (LG q)) ?_ ⟨gs0.set z q, by rw [List.map_set], by simp [hgl0], set_ok hg0 gq _⟩
    rw [ei]
    unfold setR
    simp only [op2_ok, x3, Res.ofO_some, consR_ok, callR_ok, List.append_nil, eq, Res.ok_bind, hix]
  rintro s ⟨gs, rfl, hgl, hg⟩
  clear hg0 hgl0
  obtain ⟨du, edu, gdu, hdf, hdm, hdlen⟩ := least_all_ok gs hg
  have hdl := gdu.len
  refine To.bindE (a := LG du) (by rw [consR_ok, callR_ok, List.append_nil, edu]) ?_
  -- numbers
  obtain ⟨r, eraw⟩ := raw_ok c14 hc14 s3
  refine To.bindE (a := .int r) ?_ ?_
  · have e' : op2 ixD (.ok shp) (.ok (.int 3)) = .ok (.int s3) := by rw [op2_ok, x3]; rfl
    rw [e', eraw]
  obtain ⟨S6, rfl⟩ := Int.eq_ofNat_of_zero_le h6.1
  obtain ⟨B, hB⟩ : ∃ B, du.1.length + 3 = B := ⟨_, rfl⟩
  refine To.bindE (a := .lst (nums B [1000 + S6 % 1000, 1000000000000000000 + S6, 10000000000000000000000000000000000000000, r])) ?_ ?_
  · have e0 : op2 addD (callO lenD (consR (op2 ixD (.ok (LG du)) (.ok (.int 0))) (.ok []))) (.ok (.int 3)) = .ok (.int B) := by
      simp only [op2_ok, ix0, Res.ofO_some, consR_ok, callO_ok, lenD_lst, List.length_map, addD_int]
      congr 2
      omega
    rw [e0]
    simp only [consR_ok, callOo_ok, lrng1_nat (show B ≤ 16777216 by omega), Res.ofO_some, op2_ok, p3, p18, p40, x6, callO_ok, intD_int, modD_pos (show (0 : Int) < 1000 by decide), addD_int]
    rw [disp_go (by simp)]
    simp only [lstV_ok, op2_ok]
    rw [addD_lst (by simp; omega), Res.ofO_some]
    unfold nums
    rw [List.map_append]
    rfl
  have hexl : [1000 + S6 % 1000, 1000000000000000000 + S6, 10000000000000000000000000000000000000000, r].length = 4 := rfl
  generalize [1000 + S6 % 1000, 1000000000000000000 + S6, 10000000000000000000000000000000000000000, r] = ex at hexl
  have hnl : (nums B ex).length = B + 4 := by simp [nums, hexl]
  have hww := wos_W B ex
  have hwn := wos_nn B ex
  have hwl : (wos B ex).length = B + 5 := by simp [wos, hexl]
  refine To.bindE (a := .lst ((wos B ex).map W)) ?_ ?_
  · rw [consR_ok, disp_go (by simp), lstV_ok, op2_ok, addD_lst (by simp; omega), hww]
    rfl
  generalize hwo : wos B ex = wo at hww hwn hwl
  -- the objects
  obtain ⟨os, eos, hos⟩ := mapR_objs gs hg
  have hol : os.length = M := by rw [hos.length, List.length_map, hgl]
  refine To.bindE (a := .lst os) ?_ ?_
  · show lstV (mapL mkOne (itemsR (.ok (.lst (gs.map LG))))) = _
    rw [itemsR_ok, itemsD_lst, Res.ofO_some]
    unfold mapL
    rw [Res.ok_bind, sizeLine_eq, if_pos (by simp; omega), eos]
    rfl
  have e2M : op2 repD (.ok (.int 2)) (.ok (.int (M : Int))) = .ok (.int ((M + M : Nat) : Int)) := by
    rw [op2_ok, mul_ok (n := 2) (k := 10) (by decide) (show (2 : Int) < 3 by decide) (by decide) (by omega) (show (M : Int) < 1000 by omega) (by decide) (by decide) (by decide) (by decide), Res.ofO_some]
    congr 2
    omega
  have grp : ∀ c : Int, To (callR m__law_grouped [] (consR (.ok (.lst os)) (consR (callR m__law_digits [] (consR (.ok (.int c)) (consR (op2 repD (lstV (dispR (consR (.ok (.int 2520)) (.ok [])))) (op2 repD (.ok (.int 2)) (.ok (.int M)))) (.ok [])))) (.ok [])))) fun o => IsG o (minF (gs.map rf)) (minM (gs.map rf)) := fun c => by
    obtain ⟨row, er, hrl, _⟩ := digits_ok c (List.replicate (M + M) (2520 : Int)) (fun s hs => by rw [List.eq_of_mem_replicate hs]; decide +kernel) (by simp; omega)
    rw [e2M, reps_ok 2520 (M + M) (by omega)]
    simp only [consR_ok, callR_ok, List.append_nil, er]
    exact grouped3_ok hos (by omega) (by omega) row (by rw [hrl, List.length_replicate]; omega)
  refine To.bind (grp c1) fun one g1 => ?_
  refine To.bind (grp c2) fun two g2 => ?_
  clear grp
  have emp : lstV (dispR (.ok [])) = .ok (.lst []) := by rw [disp_go (by simp), lstV_ok]
  obtain ⟨idt, eidt, gidt⟩ := make_e true gid
  obtain ⟨idl, eidl, gidl⟩ := make_e false gid
  obtain ⟨nut, enut, gnut⟩ := make_e true gnul
  obtain ⟨nul, enul, gnull⟩ := make_e false gnul
  have fnul : ∀ n : Nat, ledF [] none (some (n : Int)) = none := fun n => by rw [ledF_out (by simp)]; rfl
  have fid : ∀ n : Nat, ledF [] (some 0) (some (n : Int)) = some (n : Int) := fun n => by rw [ledF_out (by simp)]; simp [bey]
  have gfo : ∀ n : Nat, leW (some (n : Int)) (minF (gs.map rf) n) := minF_ge gs hg
  have hmp : nn (minM (gs.map rf)) := by rw [← hdm]; exact gdu.pos
  have last := hos.get (M - 1) (by omega) (by simp; omega)
  have hlm : (gs.map rf)[M - 1]'(by simp; omega) ∈ gs.map rf := List.getElem_mem _
  have eL : op2 ixD (.ok (.lst os)) (op2 subD (.ok (.int (M : Int))) (.ok (.int 1))) = .ok (os[M - 1]'(by omega)) := by
    have c : (M : Int) - 1 = ((M - 1 : Nat) : Int) := by omega
    rw [op2_ok (f := subD), subD_int, Res.ofO_some, c, op2_ok, ix_lst (List.getElem?_eq_getElem (by omega))]
    rfl
  obtain ⟨w3, ew3, q3⟩ := or_e g1 g1
  obtain ⟨w4, ew4, q4⟩ := or_e g1 gnut
  obtain ⟨w5, ew5, q5⟩ := or_e gnull g2
  obtain ⟨w6, ew6, q6⟩ := or_e g1 last
  have k3 : IsG w3 (minF (gs.map rf)) (minM (gs.map rf)) := by
    rw [minW_self] at q3
    exact q3.congr fun n => minW_self _
  have k4 : IsG w4 (minF (gs.map rf)) (minM (gs.map rf)) := by
    rw [minW_none] at q4
    exact q4.congr fun n => by rw [fnul, minW_none]
  have k5 : IsG w5 (minF (gs.map rf)) (minM (gs.map rf)) := by
    rw [minW_none1] at q5
    exact q5.congr fun n => by rw [fnul, minW_none1]
  have k6 : IsG w6 (minF (gs.map rf)) (minM (gs.map rf)) := by
    rw [minW_abs (minM_le hlm)] at q6
    exact q6.congr fun n => minW_abs (minF_le hlm n)
  have q1 : makeR 0 i_Grade_init [] (.ok [.tup [], .non]) = .ok nut := enut
  have q2 : makeR 0 i_Grade_init [] (.ok [.lst [], .non]) = .ok nul := enul
  refine To.bindE (a := [one, two, w3, w4, w5, w6]) ?_ ?_
  · rw [emp, eL, tupR_ok, if_pos (by simp)]
    simp only [consR_ok]
    rw [q1, q2, ew3, ew4, ew5, ew6]
    simp only [consR_ok]
    rw [disp_go (by simp)]
    rfl
  have hB2 : B ≤ 1000 := by omega
  refine To.lp (To.forG (fun _ _ => True) (fun _ => False) (fun _ => False) trivial fun i s d hd _ => ?_) (fun _ _ => ?_) (fun _ h => h.elim)
  · have gd : IsG d (minF (gs.map rf)) (minM (gs.map rf)) := by
      have : d ∈ [one, two, w3, w4, w5, w6] := List.mem_of_getElem? hd
      simp only [List.mem_cons, List.not_mem_nil, or_false] at this
      rcases this with rfl | rfl | rfl | rfl | rfl | rfl <;> assumption
    refine To.iteF ?_ (To.iteF ?_ (To.ok trivial))
    · simp only [consR_ok, callR_ok, List.append_nil, tells_r gd gdu hdf hdm wo hwn, equal_ok gd g1]
      rfl
    · have e := stands_any_ok (gs := gs) (t := du.1) gd (fun n => by rw [← hdm]; exact hdf n) (anySt_iff gs hg) B (by omega) hB2 ex
      simp only [consR_ok, callR_ok, List.append_nil, e]
      rfl
  obtain ⟨v1, ev1, p1⟩ := or_e g1 gidt
  obtain ⟨v2, ev2, p2⟩ := or_e gidl g2
  have hz : leW (some 0) (minM (gs.map rf)) := by
    cases h : minM (gs.map rf) with
    | none => exact leW_none _
    | some x => exact leW_some.mpr (hmp x h)
  have r1 : IsG v1 (rf ([], some 0)).1 (rf ([], some 0)).2 := by
    rw [minW_comm, minW_abs hz] at p1
    exact p1.congr fun n => by rw [minW_comm, fid, minW_abs (gfo n)]; exact (fid n).symm
  have r2 : IsG v2 (rf ([], some 0)).1 (rf ([], some 0)).2 := by
    rw [minW_abs hz] at p2
    exact p2.congr fun n => by rw [fid, minW_abs (gfo n)]; exact (fid n).symm
  have q3' : makeR 0 i_Grade_init [.tup [], .int 0] (.ok []) = .ok idt := eidt
  have q4' : makeR 0 i_Grade_init [] (.ok [.lst [], .int 0]) = .ok idl := eidl
  refine To.bindE (a := [v1, v2]) ?_ ?_
  · rw [emp, q3']
    simp only [consR_ok]
    rw [q4', ev1, ev2]
    simp only [consR_ok]
    rw [disp_go (by simp)]
    rfl
  have one_st : ∀ {o : D} {p : List Wt × Wt}, Good p.1 p.2 → IsG o (rf p).1 (rf p).2 → p.1.length < B → m__law_stands_where_one [o, .lst [LG p], .lst (nums B ex)] = .ok (.bl true) := fun {o p} gp g hp =>
    stands_any_ok (gs := [p]) (t := p.1) g (fun n => rfl) (fun n => by simp [anySt, rf]) B hp hB2 ex
  have eid : lstV (dispR (consR (lstV (dispR (.ok []))) (consR (.ok (.int 0)) (.ok [])))) = .ok (LG ([], some 0)) := by
    rw [emp, consR_ok, consR_ok]
    exact LG_mk [] (some 0)
  refine To.lp (To.forG (fun _ _ => True) (fun _ => False) (fun _ => False) trivial fun i s d hd _ => ?_) (fun _ _ => ?_) (fun _ h => h.elim)
  · have gd : IsG d (rf ([], some 0)).1 (rf ([], some 0)).2 := by
      have : d ∈ [v1, v2] := List.mem_of_getElem? hd
      simp only [List.mem_cons, List.not_mem_nil, or_false] at this
      rcases this with rfl | rfl <;> assumption
    refine To.iteF ?_ (To.ok trivial)
    rw [eid]
    simp only [consR_ok]
    rw [disp_go (by simp)]
    simp only [lstV_ok, consR_ok, callR_ok, List.append_nil, tells_r (r := ([], some 0)) gd gid (fun n => rfl) rfl wo hwn, one_st gid gd (by simp; omega)]
    rfl
  -- the expression
  rw [reps_ok 5040 M (by omega)]
  obtain ⟨row, er, hrl, _⟩ := digits_ok c3 (List.replicate M (5040 : Int)) (fun s hs => by rw [List.eq_of_mem_replicate hs]; decide +kernel) (by simp; omega)
  obtain ⟨eo, eq, eex, geq, geo, heql⟩ := expression_ok hos hg (L := mx gs) (fun p hp => mx_get hp) (by omega) (by omega) row (by rw [hrl, List.length_replicate]; omega)
  refine To.bindE (a := .lst [eo, LG eq]) (by simp only [consR_ok, callR_ok, List.append_nil, er, eex]) ?_
  have y0 : op2 ixD (.ok (.lst [eo, LG eq])) (.ok (.int 0)) = .ok eo := by rw [op2_ok, show ixD (.lst [eo, LG eq]) (.int 0) = some eo from ix_lst (n := 0) rfl]; rfl
  have y1 : op2 ixD (.ok (.lst [eo, LG eq])) (.ok (.int 1)) = .ok (LG eq) := by rw [op2_ok, show ixD (.lst [eo, LG eq]) (.int 1) = some (LG eq) from ix_lst (n := 1) rfl]; rfl
  refine To.iteF ?_ ?_
  · rw [y0, y1]
    simp only [consR_ok]
    rw [disp_go (by simp)]
    simp only [lstV_ok, consR_ok, callR_ok, List.append_nil, tells_r geo geq (fun n => rfl) rfl wo hwn, one_st geq geo (by omega)]
    rfl
  refine To.iteF ?_ (To.iteF ?_ ?_)
  · simp only [consR_ok, callR_ok, List.append_nil, goes_over_ok hos hg (by omega) wo hwn]
    rfl
  · have s1 : ∀ l : List D, 1 ≤ l.length → l.length ≤ 1000 → op2 addD (sliceR (.ok (.lst l)) (some (.ok (.int 1))) none) (sliceR (.ok (.lst l)) none (some (.ok (.int 1)))) = .ok (.lst (l.drop 1 ++ l.take 1)) := fun l h1 h2 => by
      have e1 : sliceR (.ok (.lst l)) (some (.ok (.int 1))) none = .ok (.lst (l.drop 1)) := slice_lst_drop l 1
      have e2 : sliceR (.ok (.lst l)) none (some (.ok (.int 1))) = .ok (.lst (l.take 1)) := slice_lst_take l 1 h1
      rw [e1, e2, op2_ok, addD_lst (by simp; omega), Res.ofO_some]
    rw [s1 os (by omega) (by omega), s1 (gs.map LG) (by simp; omega) (by simp; omega)]
    have e : (gs.map LG).drop 1 ++ (gs.map LG).take 1 = (gs.drop 1 ++ gs.take 1).map LG := by rw [List.map_append, List.map_drop, List.map_take]
    have hor : Objs (os.drop 1 ++ os.take 1) ((gs.drop 1 ++ gs.take 1).map rf) := by
      rw [List.map_append, List.map_drop, List.map_take]
      exact (hos.drop 1).append (hos.take 1)
    have hgr : ∀ p ∈ gs.drop 1 ++ gs.take 1, Good p.1 p.2 := fun p hp => by
      rcases List.mem_append.mp hp with hp | hp
      · exact hg p (List.mem_of_mem_drop hp)
      · exact hg p (List.mem_of_mem_take hp)
    rw [e]
    simp only [consR_ok, callR_ok, List.append_nil, goes_over_ok hor hgr (by simp; omega) wo hwn]
    rfl
  -- each by itself
  refine To.bindE (a := (List.range M).map fun (i : Nat) => D.int (i : Int)) ?_ ?_
  · simp only [consR_ok, callOo_ok, rng1_nat (show M ≤ 16777216 by omega), Res.ofO_some]
  refine To.lp (To.forG (fun _ _ => True) (fun _ => False) (fun _ => False) trivial fun i s d hd _ => ?_) (fun _ _ => ?_) (fun _ h => h.elim)
  · obtain ⟨hi, rfl⟩ := range_get hd
    have hi1 : i < gs.length := by omega
    have hi2 : i < os.length := by omega
    have gk := hg gs[i] (List.getElem_mem hi1)
    have go : IsG os[i] (rf gs[i]).1 (rf gs[i]).2 := by
      have := hos.get i hi2 (by simpa using hi1)
      simpa using this
    have ei : op2 ixD (.ok (.lst os)) (.ok (.int (i : Int))) = .ok os[i] := by rw [op2_ok, ix_lst (List.getElem?_eq_getElem hi2)]; rfl
    refine To.iteF ?_ (To.ok trivial)
    rw [ei, LGs gs i hi1]
    simp only [consR_ok, callR_ok, List.append_nil, tells_r go gk (fun n => rfl) rfl wo hwn]
    rfl
  -- the rows
  refine To.bindE (a := wo.map W) (by simp) ?_
  refine To.lp (To.forG (fun _ _ => True) (fun _ => False) (fun _ => False) trivial fun i s d hd _ => ?_) (fun _ _ => ?_) (fun _ h => h.elim)
  · obtain ⟨hi, rfl⟩ := W_get hd
    have hn := hwn _ (List.getElem_mem hi)
    generalize wo[i] = w at hn
    obtain ⟨ws, hws⟩ : ∃ ws : List Wt, ws = gs.map fun p => ledF p.1 p.2 w := ⟨_, rfl⟩
    have hwsl : ws.length = M := by rw [hws, List.length_map, hgl]
    refine To.bindE (a := .lst (ws.map W)) ?_ ?_
    · rw [itemsR_ok, itemsD_lst, Res.ofO_some, mapL_ok (h := fun p : List Wt × Wt => W (ledF p.1 p.2 w)) (by omega), hws, List.map_map]
      · rfl
      · intro p _
        simp only [consR_ok, callR_ok, List.append_nil, at_ok p hn]
    refine To.iteF ?_ (To.ok trivial)
    have e1 : op2 addD (lstV (dispR (consR (.ok (W w)) (.ok [])))) (sliceR (.ok (.lst (ws.map W))) none (some (.ok (.int 2)))) = .ok (.lst ((w :: ws.take 2).map W)) := by
      have e : sliceR (.ok (.lst (ws.map W))) none (some (.ok (.int 2))) = .ok (.lst ((ws.map W).take 2)) := slice_lst_take _ 2 (by simp; omega)
      rw [e, consR_ok, disp_go (by simp), lstV_ok, op2_ok, addD_lst (by simp; omega), Res.ofO_some, List.map_cons, List.map_take]
      rfl
    have e2 : op2 addD (.ok (.lst (ws.map W))) (lstV (dispR (consR (.ok (W w)) (.ok [])))) = .ok (.lst ((ws ++ [w]).map W)) := by
      rw [consR_ok, disp_go (by simp), lstV_ok, op2_ok, addD_lst (by simp; omega), Res.ofO_some, List.map_append]
      rfl
    rw [e1, e2]
    simp only [consR_ok, callR_ok, List.append_nil, row_told_ok, order_told_ok (ws ++ [w]) (by simp) (by simp; omega)]
    rfl
  -- long rows, and the end
  obtain ⟨gw, egw⟩ := great_row_ok c15
  refine To.iteF ?_ ?_
  · simp only [consR_ok, callR_ok, List.append_nil, long_rows_ok gs B ex (by omega), egw, row_told_ok]
    rfl
  have t0 : m__law_row_told [.lst []] = .ok (.bl true) := row_told_ok []
  have t1 : m__law_row_told [.lst [.non]] = .ok (.bl true) := row_told_ok [none]
  have t2 : m__law_row_told [.lst [.non, .non]] = .ok (.bl true) := row_told_ok [none, none]
  refine To.of ?_ rfl
  rw [emp]
  simp only [consR_ok]
  rw [disp_go (by simp), disp_go (by simp)]
  simp only [lstV_ok, consR_ok, callR_ok, List.append_nil, t0, t1, t2, tells_r g1 gdu hdf hdm wo hwn, andV_true]
end K03

namespace K03
open PySem PySem.Spec PyProof.Rows L2 Px
def spLaw (K : PySem.W.Frag) : Sp := fun vs H Q _ => ∃ (a : Addr) (ns : List Int), vs = [.ref a] ∧ SqL K H a (ns.map V.int) ∧ ns.length ≤ 63 ∧ (∀ k ∈ ns, Builtin.Int.intBits k ≤ 1048576) ∧ ∀ H', Q (.bl true) H'
theorem ok_end {g : FP} {a : Adr} (S : Txt g a) : FnOk g.P g.w g.K g.mg g.base (L2.CX g.P g.w) 9 a.f_law a.fd_law ["script"] (spLaw g.K) := by
  refine (ok_law S).imp fun vs H Q E h => ?_
  obtain ⟨p, ns, rfl, hS, hl, hb, q⟩ := h
  refine ⟨H, [.scr (ns.map D.int)], Same.refl _, .cons (.scr hS (Reps.ints ns)) .nil, rfl, ?_⟩
  rw [plain_law ns hl hb]
  intro v H' G' _ r
  cases r
  exact q H'
theorem all_mk {l : PySem.W.OpenLaw} {w : World} {K : PySem.W.Frag} {h : Heap} {mg : Str → Option Value} {fa C_Grade f__law_digits f__law_cell f__law_raised f__law_entry f__law_grade f__law_whole f__law_longer f__law_standing f__law_lesser f__law_at f__law_both f__law_least_of_all f_is_whole f_is_number f_is_worth f_rank_of f_is_before f_first_bad_entry f_is_right_more f_beyond f_least_table f_Grade_init D_Grade_init dA_Grade_init_0 f_least_of f_led f_Grade_or f__law_grouped f__law_same_worth f__law_same_worths f__law_least_entries f_Grade_call f__law_tells f_Grade_eq f__law_equal f_Grade_stands_at f_Grade_standing p_Grade_standing f__law_stands_where_one f_total_of f_Grade_rshift f__law_expression f__law_goes_over f_greatest_of f__law_row_told f__law_order_told f__law_long_rows_told f__law_great_row f_law : Addr} {od__law_digits an__law_digits : Option Addr} {sl__law_digits : Array (Option Value)} {oc__law_digits kV__law_digits dc__law_digits pm__law_digits cd__law_digits ct__law_digits : Value} {od__law_cell an__law_cell : Option Addr} {sl__law_cell : Array (Option Value)} {oc__law_cell kV__law_cell dc__law_cell pm__law_cell cd__law_cell ct__law_cell : Value} {od__law_raised an__law_raised : Option Addr} {sl__law_raised : Array (Option Value)} {oc__law_raised kV__law_raised dc__law_raised pm__law_raised cd__law_raised ct__law_raised : Value} {od__law_entry an__law_entry : Option Addr} {sl__law_entry : Array (Option Value)} {oc__law_entry kV__law_entry dc__law_entry pm__law_entry cd__law_entry ct__law_entry : Value} {od__law_grade an__law_grade : Option Addr} {sl__law_grade : Array (Option Value)} {oc__law_grade kV__law_grade dc__law_grade pm__law_grade cd__law_grade ct__law_grade : Value} {od__law_whole an__law_whole : Option Addr} {sl__law_whole : Array (Option Value)} {oc__law_whole kV__law_whole dc__law_whole pm__law_whole cd__law_whole ct__law_whole : Value} {od__law_longer an__law_longer : Option Addr} {sl__law_longer : Array (Option Value)} {oc__law_longer kV__law_longer dc__law_longer pm__law_longer cd__law_longer ct__law_longer : Value} {od__law_standing an__law_standing : Option Addr} {sl__law_standing : Array (Option Value)} {oc__law_standing kV__law_standing dc__law_standing pm__law_standing cd__law_standing ct__law_standing : Value} {od__law_lesser an__law_lesser : Option Addr} {sl__law_lesser : Array (Option Value)} {oc__law_lesser kV__law_lesser dc__law_lesser pm__law_lesser cd__law_lesser ct__law_lesser : Value} {od__law_at an__law_at : Option Addr} {sl__law_at : Array (Option Value)} {oc__law_at kV__law_at dc__law_at pm__law_at cd__law_at ct__law_at : Value} {od__law_both an__law_both : Option Addr} {sl__law_both : Array (Option Value)} {oc__law_both kV__law_both dc__law_both pm__law_both cd__law_both ct__law_both : Value} {od__law_least_of_all an__law_least_of_all : Option Addr} {sl__law_least_of_all : Array (Option Value)} {oc__law_least_of_all kV__law_least_of_all dc__law_least_of_all pm__law_least_of_all cd__law_least_of_all ct__law_least_of_all : Value} {od_is_whole an_is_whole : Option Addr} {sl_is_whole : Array (Option Value)} {oc_is_whole kV_is_whole dc_is_whole pm_is_whole cd_is_whole ct_is_whole : Value} {od_is_number an_is_number : Option Addr} {sl_is_number : Array (Option Value)} {oc_is_number kV_is_number dc_is_number pm_is_number cd_is_number ct_is_number : Value} {od_is_worth an_is_worth : Option Addr} {sl_is_worth : Array (Option Value)} {oc_is_worth kV_is_worth dc_is_worth pm_is_worth cd_is_worth ct_is_worth : Value} {od_rank_of an_rank_of : Option Addr} {sl_rank_of : Array (Option Value)} {oc_rank_of kV_rank_of dc_rank_of pm_rank_of cd_rank_of ct_rank_of : Value} {od_is_before an_is_before : Option Addr} {sl_is_before : Array (Option Value)} {oc_is_before kV_is_before dc_is_before pm_is_before cd_is_before ct_is_before : Value} {od_first_bad_entry an_first_bad_entry : Option Addr} {sl_first_bad_entry : Array (Option Value)} {oc_first_bad_entry kV_first_bad_entry dc_first_bad_entry pm_first_bad_entry cd_first_bad_entry ct_first_bad_entry : Value} {od_is_right_more an_is_right_more : Option Addr} {sl_is_right_more : Array (Option Value)} {oc_is_right_more kV_is_right_more dc_is_right_more pm_is_right_more cd_is_right_more ct_is_right_more : Value} {od_beyond an_beyond : Option Addr} {sl_beyond : Array (Option Value)} {oc_beyond kV_beyond dc_beyond pm_beyond cd_beyond ct_beyond : Value} {od_least_table an_least_table : Option Addr} {sl_least_table : Array (Option Value)} {oc_least_table kV_least_table dc_least_table pm_least_table cd_least_table ct_least_table : Value} {od_Grade_init an_Grade_init : Option Addr} {sl_Grade_init : Array (Option Value)} {oc_Grade_init kV_Grade_init dc_Grade_init pm_Grade_init cd_Grade_init ct_Grade_init : Value} {dd_Grade_init_0 : Option Addr} {dn_Grade_init_0 : Nat} {ds_Grade_init_0 : Array (Option Value)} {dt_Grade_init_1 : Tok} {do_Grade_init : Value} {dd_Grade_init : Option Addr} {dn_Grade_init : Nat} {ds_Grade_init : Array (Option Value)} {od_least_of an_least_of : Option Addr} {sl_least_of : Array (Option Value)} {oc_least_of kV_least_of dc_least_of pm_least_of cd_least_of ct_least_of : Value} {od_led an_led : Option Addr} {sl_led : Array (Option Value)} {oc_led kV_led dc_led pm_led cd_led ct_led : Value} {od_Grade_or an_Grade_or : Option Addr} {sl_Grade_or : Array (Option Value)} {oc_Grade_or kV_Grade_or dc_Grade_or pm_Grade_or cd_Grade_or ct_Grade_or : Value} {od__law_grouped an__law_grouped : Option Addr} {sl__law_grouped : Array (Option Value)} {oc__law_grouped kV__law_grouped dc__law_grouped pm__law_grouped cd__law_grouped ct__law_grouped : Value} {od__law_same_worth an__law_same_worth : Option Addr} {sl__law_same_worth : Array (Option Value)} {oc__law_same_worth kV__law_same_worth dc__law_same_worth pm__law_same_worth cd__law_same_worth ct__law_same_worth : Value} {od__law_same_worths an__law_same_worths : Option Addr} {sl__law_same_worths : Array (Option Value)} {oc__law_same_worths kV__law_same_worths dc__law_same_worths pm__law_same_worths cd__law_same_worths ct__law_same_worths : Value} {od__law_least_entries an__law_least_entries : Option Addr} {sl__law_least_entries : Array (Option Value)} {oc__law_least_entries kV__law_least_entries dc__law_least_entries pm__law_least_entries cd__law_least_entries ct__law_least_entries : Value} {od_Grade_call an_Grade_call : Option Addr} {sl_Grade_call : Array (Option Value)} {oc_Grade_call kV_Grade_call dc_Grade_call pm_Grade_call cd_Grade_call ct_Grade_call : Value} {od__law_tells an__law_tells : Option Addr} {sl__law_tells : Array (Option Value)} {oc__law_tells kV__law_tells dc__law_tells pm__law_tells cd__law_tells ct__law_tells : Value} {od_Grade_eq an_Grade_eq : Option Addr} {sl_Grade_eq : Array (Option Value)} {oc_Grade_eq kV_Grade_eq dc_Grade_eq pm_Grade_eq cd_Grade_eq ct_Grade_eq : Value} {od__law_equal an__law_equal : Option Addr} {sl__law_equal : Array (Option Value)} {oc__law_equal kV__law_equal dc__law_equal pm__law_equal cd__law_equal ct__law_equal : Value} {od_Grade_stands_at an_Grade_stands_at : Option Addr} {sl_Grade_stands_at : Array (Option Value)} {oc_Grade_stands_at kV_Grade_stands_at dc_Grade_stands_at pm_Grade_stands_at cd_Grade_stands_at ct_Grade_stands_at : Value} {rs_Grade_standing : List Value} {od_Grade_standing an_Grade_standing : Option Addr} {sl_Grade_standing : Array (Option Value)} {oc_Grade_standing kV_Grade_standing dc_Grade_standing pm_Grade_standing cd_Grade_standing ct_Grade_standing : Value} {od__law_stands_where_one an__law_stands_where_one : Option Addr} {sl__law_stands_where_one : Array (Option Value)} {oc__law_stands_where_one kV__law_stands_where_one dc__law_stands_where_one pm__law_stands_where_one cd__law_stands_where_one ct__law_stands_where_one : Value} {od_total_of an_total_of : Option Addr} {sl_total_of : Array (Option Value)} {oc_total_of kV_total_of dc_total_of pm_total_of cd_total_of ct_total_of : Value} {od_Grade_rshift an_Grade_rshift : Option Addr} {sl_Grade_rshift : Array (Option Value)} {oc_Grade_rshift kV_Grade_rshift dc_Grade_rshift pm_Grade_rshift cd_Grade_rshift ct_Grade_rshift : Value} {od__law_expression an__law_expression : Option Addr} {sl__law_expression : Array (Option Value)} {oc__law_expression kV__law_expression dc__law_expression pm__law_expression cd__law_expression ct__law_expression : Value} {od__law_goes_over an__law_goes_over : Option Addr} {sl__law_goes_over : Array (Option Value)} {oc__law_goes_over kV__law_goes_over dc__law_goes_over pm__law_goes_over cd__law_goes_over ct__law_goes_over : Value} {od_greatest_of an_greatest_of : Option Addr} {sl_greatest_of : Array (Option Value)} {oc_greatest_of kV_greatest_of dc_greatest_of pm_greatest_of cd_greatest_of ct_greatest_of : Value} {od__law_row_told an__law_row_told : Option Addr} {sl__law_row_told : Array (Option Value)} {oc__law_row_told kV__law_row_told dc__law_row_told pm__law_row_told cd__law_row_told ct__law_row_told : Value} {od__law_order_told an__law_order_told : Option Addr} {sl__law_order_told : Array (Option Value)} {oc__law_order_told kV__law_order_told dc__law_order_told pm__law_order_told cd__law_order_told ct__law_order_told : Value} {od__law_long_rows_told an__law_long_rows_told : Option Addr} {sl__law_long_rows_told : Array (Option Value)} {oc__law_long_rows_told kV__law_long_rows_told dc__law_long_rows_told pm__law_long_rows_told cd__law_long_rows_told ct__law_long_rows_told : Value} {od__law_great_row an__law_great_row : Option Addr} {sl__law_great_row : Array (Option Value)} {oc__law_great_row kV__law_great_row dc__law_great_row pm__law_great_row cd__law_great_row ct__law_great_row : Value} {od_law an_law : Option Addr} {sl_law : Array (Option Value)} {oc_law kV_law dc_law pm_law cd_law ct_law : Value} {t_MOST_ENTRIES : Tok} (X : K.In h) (Gm : h.Ns mainGlobals mg) (hfa : mg "law" = some (.ref fa))
    (gC_Grade : PySem.W.nsIn K mainGlobals "Grade" = some (some (.ref C_Grade)))
    (pg_Grade : PySem.W.plainGet K C_Grade Str.empty = true)
    (hd_Grade : PySem.W.hasDictIn K C_Grade = true)
    (po_Grade : PySem.W.plainOver K C_Grade = true)
    (sa_Grade : PySem.W.findIn K (.ref C_Grade) "__setattr__" = some (some (.builtin "object.__setattr__")))
    (mi_Grade : PySem.W.makesIn K C_Grade = true)
    (kc_Grade : PySem.W.keepIn K (.ref C_Grade) = true)
    (sf_Grade : PySem.W.selfFirst K C_Grade = true)
    (t1_Grade : PySem.W.findIn K (.ref C_Grade) "__class__" = some (some (.builtin "object.__class__")))
    (t4_Grade : PySem.W.mroIn K C_Grade (.type "object") = some true)
    (ic_Grade : PySem.W.isClsIn K C_Grade = true)
    (ty_Grade : PySem.W.typeIn K (.ref C_Grade) = some (.type "type"))
    (bNoneType_Grade : PySem.W.subIn K (.type "NoneType") (.ref C_Grade) = some false)
    (bbool_Grade : PySem.W.subIn K (.type "bool") (.ref C_Grade) = some false)
    (bint_Grade : PySem.W.subIn K (.type "int") (.ref C_Grade) = some false)
    (bstr_Grade : PySem.W.subIn K (.type "str") (.ref C_Grade) = some false)
    (blist_Grade : PySem.W.subIn K (.type "list") (.ref C_Grade) = some false)
    (btuple_Grade : PySem.W.subIn K (.type "tuple") (.ref C_Grade) = some false)
    (bdict_Grade : PySem.W.subIn K (.type "dict") (.ref C_Grade) = some false)
    (sbool_Grade : PySem.W.subIn K (.ref C_Grade) (.type "bool") = some false)
    (sint_Grade : PySem.W.subIn K (.ref C_Grade) (.type "int") = some false)
    (sstr_Grade : PySem.W.subIn K (.ref C_Grade) (.type "str") = some false)
    (slist_Grade : PySem.W.subIn K (.ref C_Grade) (.type "list") = some false)
    (stuple_Grade : PySem.W.subIn K (.ref C_Grade) (.type "tuple") = some false)
    (sdict_Grade : PySem.W.subIn K (.ref C_Grade) (.type "dict") = some false)
    (na_Grade_table : PySem.W.findIn K (.ref C_Grade) "table" = some none)
    (na_Grade_more : PySem.W.findIn K (.ref C_Grade) "more" = some none)
    (ob2 : PySem.W.specialIn K (.builtin "object.__class__") "__get__" = some (some (.builtin "getset_descriptor.__get__")))
    (ob3 : PySem.W.takesIn K (.builtin "object.__class__") = some true)
    (a__law_digits : PySem.W.nsIn K mainGlobals "_law_digits" = some (some (.ref f__law_digits)))
    (l__law_digits : K.lookup f__law_digits = some ⟨oc__law_digits, od__law_digits, .func (PySem.W.fnOf "_law_digits" "_law_digits" (defArgs s__law_digits) (defBody s__law_digits) (defScope s__law_digits) .none kV__law_digits dc__law_digits pm__law_digits an__law_digits cd__law_digits ct__law_digits), sl__law_digits⟩)
    (c__law_digits : PySem.W.codeIn K cd__law_digits "_law_digits" = true)
    (k__law_digits : PySem.W.keepIn K (.ref f__law_digits) = true)
    (a__law_cell : PySem.W.nsIn K mainGlobals "_law_cell" = some (some (.ref f__law_cell)))
    (l__law_cell : K.lookup f__law_cell = some ⟨oc__law_cell, od__law_cell, .func (PySem.W.fnOf "_law_cell" "_law_cell" (defArgs s__law_cell) (defBody s__law_cell) (defScope s__law_cell) .none kV__law_cell dc__law_cell pm__law_cell an__law_cell cd__law_cell ct__law_cell), sl__law_cell⟩)
    (c__law_cell : PySem.W.codeIn K cd__law_cell "_law_cell" = true)
    (k__law_cell : PySem.W.keepIn K (.ref f__law_cell) = true)
    (a__law_raised : PySem.W.nsIn K mainGlobals "_law_raised" = some (some (.ref f__law_raised)))
    (l__law_raised : K.lookup f__law_raised = some ⟨oc__law_raised, od__law_raised, .func (PySem.W.fnOf "_law_raised" "_law_raised" (defArgs s__law_raised) (defBody s__law_raised) (defScope s__law_raised) .none kV__law_raised dc__law_raised pm__law_raised an__law_raised cd__law_raised ct__law_raised), sl__law_raised⟩)
    (c__law_raised : PySem.W.codeIn K cd__law_raised "_law_raised" = true)
    (k__law_raised : PySem.W.keepIn K (.ref f__law_raised) = true)
    (a__law_entry : PySem.W.nsIn K mainGlobals "_law_entry" = some (some (.ref f__law_entry)))
    (l__law_entry : K.lookup f__law_entry = some ⟨oc__law_entry, od__law_entry, .func (PySem.W.fnOf "_law_entry" "_law_entry" (defArgs s__law_entry) (defBody s__law_entry) (defScope s__law_entry) .none kV__law_entry dc__law_entry pm__law_entry an__law_entry cd__law_entry ct__law_entry), sl__law_entry⟩)
    (c__law_entry : PySem.W.codeIn K cd__law_entry "_law_entry" = true)
    (k__law_entry : PySem.W.keepIn K (.ref f__law_entry) = true)
    (a__law_grade : PySem.W.nsIn K mainGlobals "_law_grade" = some (some (.ref f__law_grade)))
    (l__law_grade : K.lookup f__law_grade = some ⟨oc__law_grade, od__law_grade, .func (PySem.W.fnOf "_law_grade" "_law_grade" (defArgs s__law_grade) (defBody s__law_grade) (defScope s__law_grade) .none kV__law_grade dc__law_grade pm__law_grade an__law_grade cd__law_grade ct__law_grade), sl__law_grade⟩)
    (c__law_grade : PySem.W.codeIn K cd__law_grade "_law_grade" = true)
    (k__law_grade : PySem.W.keepIn K (.ref f__law_grade) = true)
    (a__law_whole : PySem.W.nsIn K mainGlobals "_law_whole" = some (some (.ref f__law_whole)))
    (l__law_whole : K.lookup f__law_whole = some ⟨oc__law_whole, od__law_whole, .func (PySem.W.fnOf "_law_whole" "_law_whole" (defArgs s__law_whole) (defBody s__law_whole) (defScope s__law_whole) .none kV__law_whole dc__law_whole pm__law_whole an__law_whole cd__law_whole ct__law_whole), sl__law_whole⟩)
    (c__law_whole : PySem.W.codeIn K cd__law_whole "_law_whole" = true)
    (k__law_whole : PySem.W.keepIn K (.ref f__law_whole) = true)
    (a__law_longer : PySem.W.nsIn K mainGlobals "_law_longer" = some (some (.ref f__law_longer)))
    (l__law_longer : K.lookup f__law_longer = some ⟨oc__law_longer, od__law_longer, .func (PySem.W.fnOf "_law_longer" "_law_longer" (defArgs s__law_longer) (defBody s__law_longer) (defScope s__law_longer) .none kV__law_longer dc__law_longer pm__law_longer an__law_longer cd__law_longer ct__law_longer), sl__law_longer⟩)
    (c__law_longer : PySem.W.codeIn K cd__law_longer "_law_longer" = true)
    (k__law_longer : PySem.W.keepIn K (.ref f__law_longer) = true)
    (a__law_standing : PySem.W.nsIn K mainGlobals "_law_standing" = some (some (.ref f__law_standing)))
    (l__law_standing : K.lookup f__law_standing = some ⟨oc__law_standing, od__law_standing, .func (PySem.W.fnOf "_law_standing" "_law_standing" (defArgs s__law_standing) (defBody s__law_standing) (defScope s__law_standing) .none kV__law_standing dc__law_standing pm__law_standing an__law_standing cd__law_standing ct__law_standing), sl__law_standing⟩)
    (c__law_standing : PySem.W.codeIn K cd__law_standing "_law_standing" = true)
    (k__law_standing : PySem.W.keepIn K (.ref f__law_standing) = true)
    (a__law_lesser : PySem.W.nsIn K mainGlobals "_law_lesser" = some (some (.ref f__law_lesser)))
    (l__law_lesser : K.lookup f__law_lesser = some ⟨oc__law_lesser, od__law_lesser, .func (PySem.W.fnOf "_law_lesser" "_law_lesser" (defArgs s__law_lesser) (defBody s__law_lesser) (defScope s__law_lesser) .none kV__law_lesser dc__law_lesser pm__law_lesser an__law_lesser cd__law_lesser ct__law_lesser), sl__law_lesser⟩)
    (c__law_lesser : PySem.W.codeIn K cd__law_lesser "_law_lesser" = true)
    (k__law_lesser : PySem.W.keepIn K (.ref f__law_lesser) = true)
    (a__law_at : PySem.W.nsIn K mainGlobals "_law_at" = some (some (.ref f__law_at)))
    (l__law_at : K.lookup f__law_at = some ⟨oc__law_at, od__law_at, .func (PySem.W.fnOf "_law_at" "_law_at" (defArgs s__law_at) (defBody s__law_at) (defScope s__law_at) .none kV__law_at dc__law_at pm__law_at an__law_at cd__law_at ct__law_at), sl__law_at⟩)
    (c__law_at : PySem.W.codeIn K cd__law_at "_law_at" = true)
    (k__law_at : PySem.W.keepIn K (.ref f__law_at) = true)
    (a__law_both : PySem.W.nsIn K mainGlobals "_law_both" = some (some (.ref f__law_both)))
    (l__law_both : K.lookup f__law_both = some ⟨oc__law_both, od__law_both, .func (PySem.W.fnOf "_law_both" "_law_both" (defArgs s__law_both) (defBody s__law_both) (defScope s__law_both) .none kV__law_both dc__law_both pm__law_both an__law_both cd__law_both ct__law_both), sl__law_both⟩)
    (c__law_both : PySem.W.codeIn K cd__law_both "_law_both" = true)
    (k__law_both : PySem.W.keepIn K (.ref f__law_both) = true)
    (a__law_least_of_all : PySem.W.nsIn K mainGlobals "_law_least_of_all" = some (some (.ref f__law_least_of_all)))
    (l__law_least_of_all : K.lookup f__law_least_of_all = some ⟨oc__law_least_of_all, od__law_least_of_all, .func (PySem.W.fnOf "_law_least_of_all" "_law_least_of_all" (defArgs s__law_least_of_all) (defBody s__law_least_of_all) (defScope s__law_least_of_all) .none kV__law_least_of_all dc__law_least_of_all pm__law_least_of_all an__law_least_of_all cd__law_least_of_all ct__law_least_of_all), sl__law_least_of_all⟩)
    (c__law_least_of_all : PySem.W.codeIn K cd__law_least_of_all "_law_least_of_all" = true)
    (k__law_least_of_all : PySem.W.keepIn K (.ref f__law_least_of_all) = true)
    (a_is_whole : PySem.W.nsIn K mainGlobals "is_whole" = some (some (.ref f_is_whole)))
    (l_is_whole : K.lookup f_is_whole = some ⟨oc_is_whole, od_is_whole, .func (PySem.W.fnOf "is_whole" "is_whole" (defArgs s_is_whole) (defBody s_is_whole) (defScope s_is_whole) .none kV_is_whole dc_is_whole pm_is_whole an_is_whole cd_is_whole ct_is_whole), sl_is_whole⟩)
    (c_is_whole : PySem.W.codeIn K cd_is_whole "is_whole" = true)
    (k_is_whole : PySem.W.keepIn K (.ref f_is_whole) = true)
    (a_is_number : PySem.W.nsIn K mainGlobals "is_number" = some (some (.ref f_is_number)))
    (l_is_number : K.lookup f_is_number = some ⟨oc_is_number, od_is_number, .func (PySem.W.fnOf "is_number" "is_number" (defArgs s_is_number) (defBody s_is_number) (defScope s_is_number) .none kV_is_number dc_is_number pm_is_number an_is_number cd_is_number ct_is_number), sl_is_number⟩)
    (c_is_number : PySem.W.codeIn K cd_is_number "is_number" = true)
    (k_is_number : PySem.W.keepIn K (.ref f_is_number) = true)
    (a_is_worth : PySem.W.nsIn K mainGlobals "is_worth" = some (some (.ref f_is_worth)))
    (l_is_worth : K.lookup f_is_worth = some ⟨oc_is_worth, od_is_worth, .func (PySem.W.fnOf "is_worth" "is_worth" (defArgs s_is_worth) (defBody s_is_worth) (defScope s_is_worth) .none kV_is_worth dc_is_worth pm_is_worth an_is_worth cd_is_worth ct_is_worth), sl_is_worth⟩)
    (c_is_worth : PySem.W.codeIn K cd_is_worth "is_worth" = true)
    (k_is_worth : PySem.W.keepIn K (.ref f_is_worth) = true)
    (a_rank_of : PySem.W.nsIn K mainGlobals "rank_of" = some (some (.ref f_rank_of)))
    (l_rank_of : K.lookup f_rank_of = some ⟨oc_rank_of, od_rank_of, .func (PySem.W.fnOf "rank_of" "rank_of" (defArgs s_rank_of) (defBody s_rank_of) (defScope s_rank_of) .none kV_rank_of dc_rank_of pm_rank_of an_rank_of cd_rank_of ct_rank_of), sl_rank_of⟩)
    (c_rank_of : PySem.W.codeIn K cd_rank_of "rank_of" = true)
    (k_rank_of : PySem.W.keepIn K (.ref f_rank_of) = true)
    (a_is_before : PySem.W.nsIn K mainGlobals "is_before" = some (some (.ref f_is_before)))
    (l_is_before : K.lookup f_is_before = some ⟨oc_is_before, od_is_before, .func (PySem.W.fnOf "is_before" "is_before" (defArgs s_is_before) (defBody s_is_before) (defScope s_is_before) .none kV_is_before dc_is_before pm_is_before an_is_before cd_is_before ct_is_before), sl_is_before⟩)
    (c_is_before : PySem.W.codeIn K cd_is_before "is_before" = true)
    (k_is_before : PySem.W.keepIn K (.ref f_is_before) = true)
    (a_first_bad_entry : PySem.W.nsIn K mainGlobals "first_bad_entry" = some (some (.ref f_first_bad_entry)))
    (l_first_bad_entry : K.lookup f_first_bad_entry = some ⟨oc_first_bad_entry, od_first_bad_entry, .func (PySem.W.fnOf "first_bad_entry" "first_bad_entry" (defArgs s_first_bad_entry) (defBody s_first_bad_entry) (defScope s_first_bad_entry) .none kV_first_bad_entry dc_first_bad_entry pm_first_bad_entry an_first_bad_entry cd_first_bad_entry ct_first_bad_entry), sl_first_bad_entry⟩)
    (c_first_bad_entry : PySem.W.codeIn K cd_first_bad_entry "first_bad_entry" = true)
    (k_first_bad_entry : PySem.W.keepIn K (.ref f_first_bad_entry) = true)
    (a_is_right_more : PySem.W.nsIn K mainGlobals "is_right_more" = some (some (.ref f_is_right_more)))
    (l_is_right_more : K.lookup f_is_right_more = some ⟨oc_is_right_more, od_is_right_more, .func (PySem.W.fnOf "is_right_more" "is_right_more" (defArgs s_is_right_more) (defBody s_is_right_more) (defScope s_is_right_more) .none kV_is_right_more dc_is_right_more pm_is_right_more an_is_right_more cd_is_right_more ct_is_right_more), sl_is_right_more⟩)
    (c_is_right_more : PySem.W.codeIn K cd_is_right_more "is_right_more" = true)
    (k_is_right_more : PySem.W.keepIn K (.ref f_is_right_more) = true)
    (a_beyond : PySem.W.nsIn K mainGlobals "beyond" = some (some (.ref f_beyond)))
    (l_beyond : K.lookup f_beyond = some ⟨oc_beyond, od_beyond, .func (PySem.W.fnOf "beyond" "beyond" (defArgs s_beyond) (defBody s_beyond) (defScope s_beyond) .none kV_beyond dc_beyond pm_beyond an_beyond cd_beyond ct_beyond), sl_beyond⟩)
    (c_beyond : PySem.W.codeIn K cd_beyond "beyond" = true)
    (k_beyond : PySem.W.keepIn K (.ref f_beyond) = true)
    (a_least_table : PySem.W.nsIn K mainGlobals "least_table" = some (some (.ref f_least_table)))
    (l_least_table : K.lookup f_least_table = some ⟨oc_least_table, od_least_table, .func (PySem.W.fnOf "least_table" "least_table" (defArgs s_least_table) (defBody s_least_table) (defScope s_least_table) .none kV_least_table dc_least_table pm_least_table an_least_table cd_least_table ct_least_table), sl_least_table⟩)
    (c_least_table : PySem.W.codeIn K cd_least_table "least_table" = true)
    (k_least_table : PySem.W.keepIn K (.ref f_least_table) = true)
    (a_Grade_init : PySem.W.findIn K (.ref C_Grade) "__init__" = some (some (.ref f_Grade_init)))
    (i_Grade_init : PySem.W.isFn K (.ref f_Grade_init) = true)
    (l_Grade_init : K.lookup f_Grade_init = some ⟨oc_Grade_init, od_Grade_init, .func (PySem.W.fnOf "__init__" "Grade.__init__" (defArgs s_Grade_init) (defBody s_Grade_init) (defScope s_Grade_init) (.ref D_Grade_init) kV_Grade_init dc_Grade_init pm_Grade_init an_Grade_init cd_Grade_init ct_Grade_init), sl_Grade_init⟩)
    (c_Grade_init : PySem.W.codeIn K cd_Grade_init "Grade.__init__" = true)
    (k_Grade_init : PySem.W.keepIn K (.ref f_Grade_init) = true)
    (lD_Grade_init : K.lookup D_Grade_init = some ⟨do_Grade_init, dd_Grade_init, .seq #[.ref dA_Grade_init_0, .int 0 dt_Grade_init_1] dn_Grade_init, ds_Grade_init⟩)
    (dl_Grade_init_0 : K.lookup dA_Grade_init_0 = some ⟨.type "tuple", dd_Grade_init_0, .seq #[] dn_Grade_init_0, ds_Grade_init_0⟩)
    (a_least_of : PySem.W.nsIn K mainGlobals "least_of" = some (some (.ref f_least_of)))
    (l_least_of : K.lookup f_least_of = some ⟨oc_least_of, od_least_of, .func (PySem.W.fnOf "least_of" "least_of" (defArgs s_least_of) (defBody s_least_of) (defScope s_least_of) .none kV_least_of dc_least_of pm_least_of an_least_of cd_least_of ct_least_of), sl_least_of⟩)
    (c_least_of : PySem.W.codeIn K cd_least_of "least_of" = true)
    (k_least_of : PySem.W.keepIn K (.ref f_least_of) = true)
    (a_led : PySem.W.nsIn K mainGlobals "led" = some (some (.ref f_led)))
    (l_led : K.lookup f_led = some ⟨oc_led, od_led, .func (PySem.W.fnOf "led" "led" (defArgs s_led) (defBody s_led) (defScope s_led) .none kV_led dc_led pm_led an_led cd_led ct_led), sl_led⟩)
    (c_led : PySem.W.codeIn K cd_led "led" = true)
    (k_led : PySem.W.keepIn K (.ref f_led) = true)
    (a_Grade_or : PySem.W.findIn K (.ref C_Grade) "__or__" = some (some (.ref f_Grade_or)))
    (i_Grade_or : PySem.W.isFn K (.ref f_Grade_or) = true)
    (l_Grade_or : K.lookup f_Grade_or = some ⟨oc_Grade_or, od_Grade_or, .func (PySem.W.fnOf "__or__" "Grade.__or__" (defArgs s_Grade_or) (defBody s_Grade_or) (defScope s_Grade_or) .none kV_Grade_or dc_Grade_or pm_Grade_or an_Grade_or cd_Grade_or ct_Grade_or), sl_Grade_or⟩)
    (c_Grade_or : PySem.W.codeIn K cd_Grade_or "Grade.__or__" = true)
    (k_Grade_or : PySem.W.keepIn K (.ref f_Grade_or) = true)
    (a__law_grouped : PySem.W.nsIn K mainGlobals "_law_grouped" = some (some (.ref f__law_grouped)))
    (l__law_grouped : K.lookup f__law_grouped = some ⟨oc__law_grouped, od__law_grouped, .func (PySem.W.fnOf "_law_grouped" "_law_grouped" (defArgs s__law_grouped) (defBody s__law_grouped) (defScope s__law_grouped) .none kV__law_grouped dc__law_grouped pm__law_grouped an__law_grouped cd__law_grouped ct__law_grouped), sl__law_grouped⟩)
    (c__law_grouped : PySem.W.codeIn K cd__law_grouped "_law_grouped" = true)
    (k__law_grouped : PySem.W.keepIn K (.ref f__law_grouped) = true)
    (a__law_same_worth : PySem.W.nsIn K mainGlobals "_law_same_worth" = some (some (.ref f__law_same_worth)))
    (l__law_same_worth : K.lookup f__law_same_worth = some ⟨oc__law_same_worth, od__law_same_worth, .func (PySem.W.fnOf "_law_same_worth" "_law_same_worth" (defArgs s__law_same_worth) (defBody s__law_same_worth) (defScope s__law_same_worth) .none kV__law_same_worth dc__law_same_worth pm__law_same_worth an__law_same_worth cd__law_same_worth ct__law_same_worth), sl__law_same_worth⟩)
    (c__law_same_worth : PySem.W.codeIn K cd__law_same_worth "_law_same_worth" = true)
    (k__law_same_worth : PySem.W.keepIn K (.ref f__law_same_worth) = true)
    (a__law_same_worths : PySem.W.nsIn K mainGlobals "_law_same_worths" = some (some (.ref f__law_same_worths)))
    (l__law_same_worths : K.lookup f__law_same_worths = some ⟨oc__law_same_worths, od__law_same_worths, .func (PySem.W.fnOf "_law_same_worths" "_law_same_worths" (defArgs s__law_same_worths) (defBody s__law_same_worths) (defScope s__law_same_worths) .none kV__law_same_worths dc__law_same_worths pm__law_same_worths an__law_same_worths cd__law_same_worths ct__law_same_worths), sl__law_same_worths⟩)
    (c__law_same_worths : PySem.W.codeIn K cd__law_same_worths "_law_same_worths" = true)
    (k__law_same_worths : PySem.W.keepIn K (.ref f__law_same_worths) = true)
    (a__law_least_entries : PySem.W.nsIn K mainGlobals "_law_least_entries" = some (some (.ref f__law_least_entries)))
    (l__law_least_entries : K.lookup f__law_least_entries = some ⟨oc__law_least_entries, od__law_least_entries, .func (PySem.W.fnOf "_law_least_entries" "_law_least_entries" (defArgs s__law_least_entries) (defBody s__law_least_entries) (defScope s__law_least_entries) .none kV__law_least_entries dc__law_least_entries pm__law_least_entries an__law_least_entries cd__law_least_entries ct__law_least_entries), sl__law_least_entries⟩)
    (c__law_least_entries : PySem.W.codeIn K cd__law_least_entries "_law_least_entries" = true)
    (k__law_least_entries : PySem.W.keepIn K (.ref f__law_least_entries) = true)
    (a_Grade_call : PySem.W.findIn K (.ref C_Grade) "__call__" = some (some (.ref f_Grade_call)))
    (i_Grade_call : PySem.W.isFn K (.ref f_Grade_call) = true)
    (n_Grade_call : PySem.W.fnIn K f_Grade_call = true)
    (l_Grade_call : K.lookup f_Grade_call = some ⟨oc_Grade_call, od_Grade_call, .func (PySem.W.fnOf "__call__" "Grade.__call__" (defArgs s_Grade_call) (defBody s_Grade_call) (defScope s_Grade_call) .none kV_Grade_call dc_Grade_call pm_Grade_call an_Grade_call cd_Grade_call ct_Grade_call), sl_Grade_call⟩)
    (c_Grade_call : PySem.W.codeIn K cd_Grade_call "Grade.__call__" = true)
    (k_Grade_call : PySem.W.keepIn K (.ref f_Grade_call) = true)
    (a__law_tells : PySem.W.nsIn K mainGlobals "_law_tells" = some (some (.ref f__law_tells)))
    (l__law_tells : K.lookup f__law_tells = some ⟨oc__law_tells, od__law_tells, .func (PySem.W.fnOf "_law_tells" "_law_tells" (defArgs s__law_tells) (defBody s__law_tells) (defScope s__law_tells) .none kV__law_tells dc__law_tells pm__law_tells an__law_tells cd__law_tells ct__law_tells), sl__law_tells⟩)
    (c__law_tells : PySem.W.codeIn K cd__law_tells "_law_tells" = true)
    (k__law_tells : PySem.W.keepIn K (.ref f__law_tells) = true)
    (a_Grade_eq : PySem.W.findIn K (.ref C_Grade) "__eq__" = some (some (.ref f_Grade_eq)))
    (i_Grade_eq : PySem.W.isFn K (.ref f_Grade_eq) = true)
    (l_Grade_eq : K.lookup f_Grade_eq = some ⟨oc_Grade_eq, od_Grade_eq, .func (PySem.W.fnOf "__eq__" "Grade.__eq__" (defArgs s_Grade_eq) (defBody s_Grade_eq) (defScope s_Grade_eq) .none kV_Grade_eq dc_Grade_eq pm_Grade_eq an_Grade_eq cd_Grade_eq ct_Grade_eq), sl_Grade_eq⟩)
    (c_Grade_eq : PySem.W.codeIn K cd_Grade_eq "Grade.__eq__" = true)
    (k_Grade_eq : PySem.W.keepIn K (.ref f_Grade_eq) = true)
    (a__law_equal : PySem.W.nsIn K mainGlobals "_law_equal" = some (some (.ref f__law_equal)))
    (l__law_equal : K.lookup f__law_equal = some ⟨oc__law_equal, od__law_equal, .func (PySem.W.fnOf "_law_equal" "_law_equal" (defArgs s__law_equal) (defBody s__law_equal) (defScope s__law_equal) .none kV__law_equal dc__law_equal pm__law_equal an__law_equal cd__law_equal ct__law_equal), sl__law_equal⟩)
    (c__law_equal : PySem.W.codeIn K cd__law_equal "_law_equal" = true)
    (k__law_equal : PySem.W.keepIn K (.ref f__law_equal) = true)
    (a_Grade_stands_at : PySem.W.findIn K (.ref C_Grade) "stands_at" = some (some (.ref f_Grade_stands_at)))
    (i_Grade_stands_at : PySem.W.isFn K (.ref f_Grade_stands_at) = true)
    (l_Grade_stands_at : K.lookup f_Grade_stands_at = some ⟨oc_Grade_stands_at, od_Grade_stands_at, .func (PySem.W.fnOf "stands_at" "Grade.stands_at" (defArgs s_Grade_stands_at) (defBody s_Grade_stands_at) (defScope s_Grade_stands_at) .none kV_Grade_stands_at dc_Grade_stands_at pm_Grade_stands_at an_Grade_stands_at cd_Grade_stands_at ct_Grade_stands_at), sl_Grade_stands_at⟩)
    (c_Grade_stands_at : PySem.W.codeIn K cd_Grade_stands_at "Grade.stands_at" = true)
    (k_Grade_stands_at : PySem.W.keepIn K (.ref f_Grade_stands_at) = true)
    (pa_Grade_standing : PySem.W.findIn K (.ref C_Grade) "standing" = some (some (.ref p_Grade_standing)))
    (pb_Grade_standing : PySem.W.specialIn K (.ref p_Grade_standing) "__get__" = some (some (.builtin "property.__get__")))
    (pc_Grade_standing : PySem.W.takesIn K (.ref p_Grade_standing) = some true)
    (pd_Grade_standing : PySem.W.recIn K p_Grade_standing "property" = some (.ref f_Grade_standing :: rs_Grade_standing))
    (l_Grade_standing : K.lookup f_Grade_standing = some ⟨oc_Grade_standing, od_Grade_standing, .func (PySem.W.fnOf "standing" "Grade.standing" (defArgs s_Grade_standing) (defBody s_Grade_standing) (defScope s_Grade_standing) .none kV_Grade_standing dc_Grade_standing pm_Grade_standing an_Grade_standing cd_Grade_standing ct_Grade_standing), sl_Grade_standing⟩)
    (c_Grade_standing : PySem.W.codeIn K cd_Grade_standing "Grade.standing" = true)
    (k_Grade_standing : PySem.W.keepIn K (.ref f_Grade_standing) = true)
    (a__law_stands_where_one : PySem.W.nsIn K mainGlobals "_law_stands_where_one" = some (some (.ref f__law_stands_where_one)))
    (l__law_stands_where_one : K.lookup f__law_stands_where_one = some ⟨oc__law_stands_where_one, od__law_stands_where_one, .func (PySem.W.fnOf "_law_stands_where_one" "_law_stands_where_one" (defArgs s__law_stands_where_one) (defBody s__law_stands_where_one) (defScope s__law_stands_where_one) .none kV__law_stands_where_one dc__law_stands_where_one pm__law_stands_where_one an__law_stands_where_one cd__law_stands_where_one ct__law_stands_where_one), sl__law_stands_where_one⟩)
    (c__law_stands_where_one : PySem.W.codeIn K cd__law_stands_where_one "_law_stands_where_one" = true)
    (k__law_stands_where_one : PySem.W.keepIn K (.ref f__law_stands_where_one) = true)
    (a_total_of : PySem.W.nsIn K mainGlobals "total_of" = some (some (.ref f_total_of)))
    (l_total_of : K.lookup f_total_of = some ⟨oc_total_of, od_total_of, .func (PySem.W.fnOf "total_of" "total_of" (defArgs s_total_of) (defBody s_total_of) (defScope s_total_of) .none kV_total_of dc_total_of pm_total_of an_total_of cd_total_of ct_total_of), sl_total_of⟩)
    (c_total_of : PySem.W.codeIn K cd_total_of "total_of" = true)
    (k_total_of : PySem.W.keepIn K (.ref f_total_of) = true)
    (a_Grade_rshift : PySem.W.findIn K (.ref C_Grade) "__rshift__" = some (some (.ref f_Grade_rshift)))
    (i_Grade_rshift : PySem.W.isFn K (.ref f_Grade_rshift) = true)
    (l_Grade_rshift : K.lookup f_Grade_rshift = some ⟨oc_Grade_rshift, od_Grade_rshift, .func (PySem.W.fnOf "__rshift__" "Grade.__rshift__" (defArgs s_Grade_rshift) (defBody s_Grade_rshift) (defScope s_Grade_rshift) .none kV_Grade_rshift dc_Grade_rshift pm_Grade_rshift an_Grade_rshift cd_Grade_rshift ct_Grade_rshift), sl_Grade_rshift⟩)
    (c_Grade_rshift : PySem.W.codeIn K cd_Grade_rshift "Grade.__rshift__" = true)
    (k_Grade_rshift : PySem.W.keepIn K (.ref f_Grade_rshift) = true)
    (a__law_expression : PySem.W.nsIn K mainGlobals "_law_expression" = some (some (.ref f__law_expression)))
    (l__law_expression : K.lookup f__law_expression = some ⟨oc__law_expression, od__law_expression, .func (PySem.W.fnOf "_law_expression" "_law_expression" (defArgs s__law_expression) (defBody s__law_expression) (defScope s__law_expression) .none kV__law_expression dc__law_expression pm__law_expression an__law_expression cd__law_expression ct__law_expression), sl__law_expression⟩)
    (c__law_expression : PySem.W.codeIn K cd__law_expression "_law_expression" = true)
    (k__law_expression : PySem.W.keepIn K (.ref f__law_expression) = true)
    (a__law_goes_over : PySem.W.nsIn K mainGlobals "_law_goes_over" = some (some (.ref f__law_goes_over)))
    (l__law_goes_over : K.lookup f__law_goes_over = some ⟨oc__law_goes_over, od__law_goes_over, .func (PySem.W.fnOf "_law_goes_over" "_law_goes_over" (defArgs s__law_goes_over) (defBody s__law_goes_over) (defScope s__law_goes_over) .none kV__law_goes_over dc__law_goes_over pm__law_goes_over an__law_goes_over cd__law_goes_over ct__law_goes_over), sl__law_goes_over⟩)
    (c__law_goes_over : PySem.W.codeIn K cd__law_goes_over "_law_goes_over" = true)
    (k__law_goes_over : PySem.W.keepIn K (.ref f__law_goes_over) = true)
    (a_greatest_of : PySem.W.nsIn K mainGlobals "greatest_of" = some (some (.ref f_greatest_of)))
    (l_greatest_of : K.lookup f_greatest_of = some ⟨oc_greatest_of, od_greatest_of, .func (PySem.W.fnOf "greatest_of" "greatest_of" (defArgs s_greatest_of) (defBody s_greatest_of) (defScope s_greatest_of) .none kV_greatest_of dc_greatest_of pm_greatest_of an_greatest_of cd_greatest_of ct_greatest_of), sl_greatest_of⟩)
    (c_greatest_of : PySem.W.codeIn K cd_greatest_of "greatest_of" = true)
    (k_greatest_of : PySem.W.keepIn K (.ref f_greatest_of) = true)
    (a__law_row_told : PySem.W.nsIn K mainGlobals "_law_row_told" = some (some (.ref f__law_row_told)))
    (l__law_row_told : K.lookup f__law_row_told = some ⟨oc__law_row_told, od__law_row_told, .func (PySem.W.fnOf "_law_row_told" "_law_row_told" (defArgs s__law_row_told) (defBody s__law_row_told) (defScope s__law_row_told) .none kV__law_row_told dc__law_row_told pm__law_row_told an__law_row_told cd__law_row_told ct__law_row_told), sl__law_row_told⟩)
    (c__law_row_told : PySem.W.codeIn K cd__law_row_told "_law_row_told" = true)
    (k__law_row_told : PySem.W.keepIn K (.ref f__law_row_told) = true)
    (a__law_order_told : PySem.W.nsIn K mainGlobals "_law_order_told" = some (some (.ref f__law_order_told)))
    (l__law_order_told : K.lookup f__law_order_told = some ⟨oc__law_order_told, od__law_order_told, .func (PySem.W.fnOf "_law_order_told" "_law_order_told" (defArgs s__law_order_told) (defBody s__law_order_told) (defScope s__law_order_told) .none kV__law_order_told dc__law_order_told pm__law_order_told an__law_order_told cd__law_order_told ct__law_order_told), sl__law_order_told⟩)
    (c__law_order_told : PySem.W.codeIn K cd__law_order_told "_law_order_told" = true)
    (k__law_order_told : PySem.W.keepIn K (.ref f__law_order_told) = true)
    (a__law_long_rows_told : PySem.W.nsIn K mainGlobals "_law_long_rows_told" = some (some (.ref f__law_long_rows_told)))
    (l__law_long_rows_told : K.lookup f__law_long_rows_told = some ⟨oc__law_long_rows_told, od__law_long_rows_told, .func (PySem.W.fnOf "_law_long_rows_told" "_law_long_rows_told" (defArgs s__law_long_rows_told) (defBody s__law_long_rows_told) (defScope s__law_long_rows_told) .none kV__law_long_rows_told dc__law_long_rows_told pm__law_long_rows_told an__law_long_rows_told cd__law_long_rows_told ct__law_long_rows_told), sl__law_long_rows_told⟩)
    (c__law_long_rows_told : PySem.W.codeIn K cd__law_long_rows_told "_law_long_rows_told" = true)
    (k__law_long_rows_told : PySem.W.keepIn K (.ref f__law_long_rows_told) = true)
    (a__law_great_row : PySem.W.nsIn K mainGlobals "_law_great_row" = some (some (.ref f__law_great_row)))
    (l__law_great_row : K.lookup f__law_great_row = some ⟨oc__law_great_row, od__law_great_row, .func (PySem.W.fnOf "_law_great_row" "_law_great_row" (defArgs s__law_great_row) (defBody s__law_great_row) (defScope s__law_great_row) .none kV__law_great_row dc__law_great_row pm__law_great_row an__law_great_row cd__law_great_row ct__law_great_row), sl__law_great_row⟩)
    (c__law_great_row : PySem.W.codeIn K cd__law_great_row "_law_great_row" = true)
    (k__law_great_row : PySem.W.keepIn K (.ref f__law_great_row) = true)
    (a_law : PySem.W.nsIn K mainGlobals "law" = some (some (.ref f_law)))
    (l_law : K.lookup f_law = some ⟨oc_law, od_law, .func (PySem.W.fnOf "law" "law" (defArgs s_law) (defBody s_law) (defScope s_law) .none kV_law dc_law pm_law an_law cd_law ct_law), sl_law⟩)
    (c_law : PySem.W.codeIn K cd_law "law" = true)
    (k_law : PySem.W.keepIn K (.ref f_law) = true)
    (z_abs : PySem.W.nsIn K mainGlobals "abs" = some none)
    (z_bool : PySem.W.nsIn K mainGlobals "bool" = some none)
    (z_int : PySem.W.nsIn K mainGlobals "int" = some none)
    (z_isinstance : PySem.W.nsIn K mainGlobals "isinstance" = some none)
    (z_len : PySem.W.nsIn K mainGlobals "len" = some none)
    (z_list : PySem.W.nsIn K mainGlobals "list" = some none)
    (z_max : PySem.W.nsIn K mainGlobals "max" = some none)
    (z_min : PySem.W.nsIn K mainGlobals "min" = some none)
    (z_range : PySem.W.nsIn K mainGlobals "range" = some none)
    (z_tuple : PySem.W.nsIn K mainGlobals "tuple" = some none)
    (q_MOST_ENTRIES : PySem.W.nsIn K mainGlobals "MOST_ENTRIES" = some (some (.int 30 t_MOST_ENTRIES)))
    : ∃ fd : FuncData, (∀ (s : Shared) (v : Value), BindsTo s fd ⟨[v], []⟩ [("script", v)]) ∧ ∀ base : Heap, K.In base → base.Ns mainGlobals mg → FnOk l.prog w K mg base (L2.CX l.prog w) 9 fa fd ["script"] (spLaw K) := by
  have e0 := hfa.symm.trans (PySem.W.mg_of X Gm a_law)
  have e : fa = f_law := by cases e0; rfl
  rw [e]
  have F__law_digits : Fun K "_law_digits" "_law_digits" s__law_digits f__law_digits (PySem.W.fnOf "_law_digits" "_law_digits" (defArgs s__law_digits) (defBody s__law_digits) (defScope s__law_digits) .none kV__law_digits dc__law_digits pm__law_digits an__law_digits cd__law_digits ct__law_digits) := fun_mk (st := s__law_digits) l__law_digits c__law_digits k__law_digits
  have B__law_digits := F__law_digits.binds (ps := ["cell", "sizes"]) fun _ _ _ _ _ _ us hl => match us, hl with | [_, _], _ => rfl
  have F__law_cell : Fun K "_law_cell" "_law_cell" s__law_cell f__law_cell (PySem.W.fnOf "_law_cell" "_law_cell" (defArgs s__law_cell) (defBody s__law_cell) (defScope s__law_cell) .none kV__law_cell dc__law_cell pm__law_cell an__law_cell cd__law_cell ct__law_cell) := fun_mk (st := s__law_cell) l__law_cell c__law_cell k__law_cell
  have B__law_cell := F__law_cell.binds (ps := ["script", "k"]) fun _ _ _ _ _ _ us hl => match us, hl with | [_, _], _ => rfl
  have F__law_raised : Fun K "_law_raised" "_law_raised" s__law_raised f__law_raised (PySem.W.fnOf "_law_raised" "_law_raised" (defArgs s__law_raised) (defBody s__law_raised) (defScope s__law_raised) .none kV__law_raised dc__law_raised pm__law_raised an__law_raised cd__law_raised ct__law_raised) := fun_mk (st := s__law_raised) l__law_raised c__law_raised k__law_raised
  have B__law_raised := F__law_raised.binds (ps := ["grade", "by"]) fun _ _ _ _ _ _ us hl => match us, hl with | [_, _], _ => rfl
  have F__law_entry : Fun K "_law_entry" "_law_entry" s__law_entry f__law_entry (PySem.W.fnOf "_law_entry" "_law_entry" (defArgs s__law_entry) (defBody s__law_entry) (defScope s__law_entry) .none kV__law_entry dc__law_entry pm__law_entry an__law_entry cd__law_entry ct__law_entry) := fun_mk (st := s__law_entry) l__law_entry c__law_entry k__law_entry
  have B__law_entry := F__law_entry.binds (ps := ["kind", "amount", "least", "endless"]) fun _ _ _ _ _ _ us hl => match us, hl with | [_, _, _, _], _ => rfl
  have F__law_grade : Fun K "_law_grade" "_law_grade" s__law_grade f__law_grade (PySem.W.fnOf "_law_grade" "_law_grade" (defArgs s__law_grade) (defBody s__law_grade) (defScope s__law_grade) .none kV__law_grade dc__law_grade pm__law_grade an__law_grade cd__law_grade ct__law_grade) := fun_mk (st := s__law_grade) l__law_grade c__law_grade k__law_grade
  have B__law_grade := F__law_grade.binds (ps := ["cell", "tame"]) fun _ _ _ _ _ _ us hl => match us, hl with | [_, _], _ => rfl
  have F__law_whole : Fun K "_law_whole" "_law_whole" s__law_whole f__law_whole (PySem.W.fnOf "_law_whole" "_law_whole" (defArgs s__law_whole) (defBody s__law_whole) (defScope s__law_whole) .none kV__law_whole dc__law_whole pm__law_whole an__law_whole cd__law_whole ct__law_whole) := fun_mk (st := s__law_whole) l__law_whole c__law_whole k__law_whole
  have B__law_whole := F__law_whole.binds (ps := ["value"]) fun _ _ _ _ _ _ us hl => match us, hl with | [_], _ => rfl
  have F__law_longer : Fun K "_law_longer" "_law_longer" s__law_longer f__law_longer (PySem.W.fnOf "_law_longer" "_law_longer" (defArgs s__law_longer) (defBody s__law_longer) (defScope s__law_longer) .none kV__law_longer dc__law_longer pm__law_longer an__law_longer cd__law_longer ct__law_longer) := fun_mk (st := s__law_longer) l__law_longer c__law_longer k__law_longer
  have B__law_longer := F__law_longer.binds (ps := ["grade", "many"]) fun _ _ _ _ _ _ us hl => match us, hl with | [_, _], _ => rfl
  have F__law_standing : Fun K "_law_standing" "_law_standing" s__law_standing f__law_standing (PySem.W.fnOf "_law_standing" "_law_standing" (defArgs s__law_standing) (defBody s__law_standing) (defScope s__law_standing) .none kV__law_standing dc__law_standing pm__law_standing an__law_standing cd__law_standing ct__law_standing) := fun_mk (st := s__law_standing) l__law_standing c__law_standing k__law_standing
  have B__law_standing := F__law_standing.binds (ps := ["grade", "number"]) fun _ _ _ _ _ _ us hl => match us, hl with | [_, _], _ => rfl
  have F__law_lesser : Fun K "_law_lesser" "_law_lesser" s__law_lesser f__law_lesser (PySem.W.fnOf "_law_lesser" "_law_lesser" (defArgs s__law_lesser) (defBody s__law_lesser) (defScope s__law_lesser) .none kV__law_lesser dc__law_lesser pm__law_lesser an__law_lesser cd__law_lesser ct__law_lesser) := fun_mk (st := s__law_lesser) l__law_lesser c__law_lesser k__law_lesser
  have B__law_lesser := F__law_lesser.binds (ps := ["one", "two"]) fun _ _ _ _ _ _ us hl => match us, hl with | [_, _], _ => rfl
  have F__law_at : Fun K "_law_at" "_law_at" s__law_at f__law_at (PySem.W.fnOf "_law_at" "_law_at" (defArgs s__law_at) (defBody s__law_at) (defScope s__law_at) .none kV__law_at dc__law_at pm__law_at an__law_at cd__law_at ct__law_at) := fun_mk (st := s__law_at) l__law_at c__law_at k__law_at
  have B__law_at := F__law_at.binds (ps := ["grade", "worth"]) fun _ _ _ _ _ _ us hl => match us, hl with | [_, _], _ => rfl
  have F__law_both : Fun K "_law_both" "_law_both" s__law_both f__law_both (PySem.W.fnOf "_law_both" "_law_both" (defArgs s__law_both) (defBody s__law_both) (defScope s__law_both) .none kV__law_both dc__law_both pm__law_both an__law_both cd__law_both ct__law_both) := fun_mk (st := s__law_both) l__law_both c__law_both k__law_both
  have B__law_both := F__law_both.binds (ps := ["one", "two", "behind_another"]) fun _ _ _ _ _ _ us hl => match us, hl with | [_, _, _], _ => rfl
  have F__law_least_of_all : Fun K "_law_least_of_all" "_law_least_of_all" s__law_least_of_all f__law_least_of_all (PySem.W.fnOf "_law_least_of_all" "_law_least_of_all" (defArgs s__law_least_of_all) (defBody s__law_least_of_all) (defScope s__law_least_of_all) .none kV__law_least_of_all dc__law_least_of_all pm__law_least_of_all an__law_least_of_all cd__law_least_of_all ct__law_least_of_all) := fun_mk (st := s__law_least_of_all) l__law_least_of_all c__law_least_of_all k__law_least_of_all
  have B__law_least_of_all := F__law_least_of_all.binds (ps := ["grades"]) fun _ _ _ _ _ _ us hl => match us, hl with | [_], _ => rfl
  have F_is_whole : Fun K "is_whole" "is_whole" s_is_whole f_is_whole (PySem.W.fnOf "is_whole" "is_whole" (defArgs s_is_whole) (defBody s_is_whole) (defScope s_is_whole) .none kV_is_whole dc_is_whole pm_is_whole an_is_whole cd_is_whole ct_is_whole) := fun_mk (st := s_is_whole) l_is_whole c_is_whole k_is_whole
  have B_is_whole := F_is_whole.binds (ps := ["thing"]) fun _ _ _ _ _ _ us hl => match us, hl with | [_], _ => rfl
  have F_is_number : Fun K "is_number" "is_number" s_is_number f_is_number (PySem.W.fnOf "is_number" "is_number" (defArgs s_is_number) (defBody s_is_number) (defScope s_is_number) .none kV_is_number dc_is_number pm_is_number an_is_number cd_is_number ct_is_number) := fun_mk (st := s_is_number) l_is_number c_is_number k_is_number
  have B_is_number := F_is_number.binds (ps := ["thing"]) fun _ _ _ _ _ _ us hl => match us, hl with | [_], _ => rfl
  have F_is_worth : Fun K "is_worth" "is_worth" s_is_worth f_is_worth (PySem.W.fnOf "is_worth" "is_worth" (defArgs s_is_worth) (defBody s_is_worth) (defScope s_is_worth) .none kV_is_worth dc_is_worth pm_is_worth an_is_worth cd_is_worth ct_is_worth) := fun_mk (st := s_is_worth) l_is_worth c_is_worth k_is_worth
  have B_is_worth := F_is_worth.binds (ps := ["thing"]) fun _ _ _ _ _ _ us hl => match us, hl with | [_], _ => rfl
  have F_rank_of : Fun K "rank_of" "rank_of" s_rank_of f_rank_of (PySem.W.fnOf "rank_of" "rank_of" (defArgs s_rank_of) (defBody s_rank_of) (defScope s_rank_of) .none kV_rank_of dc_rank_of pm_rank_of an_rank_of cd_rank_of ct_rank_of) := fun_mk (st := s_rank_of) l_rank_of c_rank_of k_rank_of
  have B_rank_of := F_rank_of.binds (ps := ["worth"]) fun _ _ _ _ _ _ us hl => match us, hl with | [_], _ => rfl
  have F_is_before : Fun K "is_before" "is_before" s_is_before f_is_before (PySem.W.fnOf "is_before" "is_before" (defArgs s_is_before) (defBody s_is_before) (defScope s_is_before) .none kV_is_before dc_is_before pm_is_before an_is_before cd_is_before ct_is_before) := fun_mk (st := s_is_before) l_is_before c_is_before k_is_before
  have B_is_before := F_is_before.binds (ps := ["one", "two"]) fun _ _ _ _ _ _ us hl => match us, hl with | [_, _], _ => rfl
  have F_first_bad_entry : Fun K "first_bad_entry" "first_bad_entry" s_first_bad_entry f_first_bad_entry (PySem.W.fnOf "first_bad_entry" "first_bad_entry" (defArgs s_first_bad_entry) (defBody s_first_bad_entry) (defScope s_first_bad_entry) .none kV_first_bad_entry dc_first_bad_entry pm_first_bad_entry an_first_bad_entry cd_first_bad_entry ct_first_bad_entry) := fun_mk (st := s_first_bad_entry) l_first_bad_entry c_first_bad_entry k_first_bad_entry
  have B_first_bad_entry := F_first_bad_entry.binds (ps := ["table"]) fun _ _ _ _ _ _ us hl => match us, hl with | [_], _ => rfl
  have F_is_right_more : Fun K "is_right_more" "is_right_more" s_is_right_more f_is_right_more (PySem.W.fnOf "is_right_more" "is_right_more" (defArgs s_is_right_more) (defBody s_is_right_more) (defScope s_is_right_more) .none kV_is_right_more dc_is_right_more pm_is_right_more an_is_right_more cd_is_right_more ct_is_right_more) := fun_mk (st := s_is_right_more) l_is_right_more c_is_right_more k_is_right_more
  have B_is_right_more := F_is_right_more.binds (ps := ["table", "more"]) fun _ _ _ _ _ _ us hl => match us, hl with | [_, _], _ => rfl
  have F_beyond : Fun K "beyond" "beyond" s_beyond f_beyond (PySem.W.fnOf "beyond" "beyond" (defArgs s_beyond) (defBody s_beyond) (defScope s_beyond) .none kV_beyond dc_beyond pm_beyond an_beyond cd_beyond ct_beyond) := fun_mk (st := s_beyond) l_beyond c_beyond k_beyond
  have B_beyond := F_beyond.binds (ps := ["number", "more"]) fun _ _ _ _ _ _ us hl => match us, hl with | [_, _], _ => rfl
  have F_least_table : Fun K "least_table" "least_table" s_least_table f_least_table (PySem.W.fnOf "least_table" "least_table" (defArgs s_least_table) (defBody s_least_table) (defScope s_least_table) .none kV_least_table dc_least_table pm_least_table an_least_table cd_least_table ct_least_table) := fun_mk (st := s_least_table) l_least_table c_least_table k_least_table
  have B_least_table := F_least_table.binds (ps := ["table", "more"]) fun _ _ _ _ _ _ us hl => match us, hl with | [_, _], _ => rfl
  have FD_Grade_init : FunD K "__init__" "Grade.__init__" (defArgs s_Grade_init) (defBody s_Grade_init) (defScope s_Grade_init) [.ref dA_Grade_init_0, .int 0] [] f_Grade_init (PySem.W.fnOf "__init__" "Grade.__init__" (defArgs s_Grade_init) (defBody s_Grade_init) (defScope s_Grade_init) (.ref D_Grade_init) kV_Grade_init dc_Grade_init pm_Grade_init an_Grade_init cd_Grade_init ct_Grade_init) := ⟨⟨_, _, _, _, _, _, _, _, _, _, rfl, l_Grade_init, c_Grade_init, .inr ⟨by simp, D_Grade_init, _, [.ref dA_Grade_init_0, .int 0 dt_Grade_init_1], _, rfl, lD_Grade_init, rfl, .cons rfl (.cons ⟨_, rfl⟩ (.nil))⟩, .inl rfl⟩, k_Grade_init⟩
  obtain ⟨e0_Grade_init, v0_Grade_init, b0_Grade_init⟩ := FD_Grade_init.binds1 (ps := ["self", "table", "more"]) 3 2 (by simp) rfl fun T kV doc pm an cdv ct us its hu hi => match us, its, hu, hi with | [u0, u1, u2], [i0, i1], _, _ => ⟨_, rfl, rfl⟩
  have z0_Grade_init : e0_Grade_init = [] := by cases v0_Grade_init; rfl
  subst z0_Grade_init
  obtain ⟨e1_Grade_init, v1_Grade_init, b1_Grade_init⟩ := FD_Grade_init.binds1 (ps := ["self", "table", "more"]) 1 0 (by simp) rfl fun T kV doc pm an cdv ct us its hu hi => match us, its, hu, hi with | [u0], [i0, i1], _, _ => ⟨_, rfl, rfl⟩
  have F_least_of : Fun K "least_of" "least_of" s_least_of f_least_of (PySem.W.fnOf "least_of" "least_of" (defArgs s_least_of) (defBody s_least_of) (defScope s_least_of) .none kV_least_of dc_least_of pm_least_of an_least_of cd_least_of ct_least_of) := fun_mk (st := s_least_of) l_least_of c_least_of k_least_of
  have B_least_of := F_least_of.binds (ps := ["worths"]) fun _ _ _ _ _ _ us hl => match us, hl with | [_], _ => rfl
  have F_led : Fun K "led" "led" s_led f_led (PySem.W.fnOf "led" "led" (defArgs s_led) (defBody s_led) (defScope s_led) .none kV_led dc_led pm_led an_led cd_led ct_led) := fun_mk (st := s_led) l_led c_led k_led
  have B_led := F_led.binds (ps := ["table", "more", "worth"]) fun _ _ _ _ _ _ us hl => match us, hl with | [_, _, _], _ => rfl
  have F_Grade_or : Fun K "__or__" "Grade.__or__" s_Grade_or f_Grade_or (PySem.W.fnOf "__or__" "Grade.__or__" (defArgs s_Grade_or) (defBody s_Grade_or) (defScope s_Grade_or) .none kV_Grade_or dc_Grade_or pm_Grade_or an_Grade_or cd_Grade_or ct_Grade_or) := fun_mk (st := s_Grade_or) l_Grade_or c_Grade_or k_Grade_or
  have B_Grade_or := F_Grade_or.binds (ps := ["self", "other"]) fun _ _ _ _ _ _ us hl => match us, hl with | [_, _], _ => rfl
  have F__law_grouped : Fun K "_law_grouped" "_law_grouped" s__law_grouped f__law_grouped (PySem.W.fnOf "_law_grouped" "_law_grouped" (defArgs s__law_grouped) (defBody s__law_grouped) (defScope s__law_grouped) .none kV__law_grouped dc__law_grouped pm__law_grouped an__law_grouped cd__law_grouped ct__law_grouped) := fun_mk (st := s__law_grouped) l__law_grouped c__law_grouped k__law_grouped
  have B__law_grouped := F__law_grouped.binds (ps := ["made", "digits"]) fun _ _ _ _ _ _ us hl => match us, hl with | [_, _], _ => rfl
  have F__law_same_worth : Fun K "_law_same_worth" "_law_same_worth" s__law_same_worth f__law_same_worth (PySem.W.fnOf "_law_same_worth" "_law_same_worth" (defArgs s__law_same_worth) (defBody s__law_same_worth) (defScope s__law_same_worth) .none kV__law_same_worth dc__law_same_worth pm__law_same_worth an__law_same_worth cd__law_same_worth ct__law_same_worth) := fun_mk (st := s__law_same_worth) l__law_same_worth c__law_same_worth k__law_same_worth
  have B__law_same_worth := F__law_same_worth.binds (ps := ["told", "due"]) fun _ _ _ _ _ _ us hl => match us, hl with | [_, _], _ => rfl
  have F__law_same_worths : Fun K "_law_same_worths" "_law_same_worths" s__law_same_worths f__law_same_worths (PySem.W.fnOf "_law_same_worths" "_law_same_worths" (defArgs s__law_same_worths) (defBody s__law_same_worths) (defScope s__law_same_worths) .none kV__law_same_worths dc__law_same_worths pm__law_same_worths an__law_same_worths cd__law_same_worths ct__law_same_worths) := fun_mk (st := s__law_same_worths) l__law_same_worths c__law_same_worths k__law_same_worths
  have B__law_same_worths := F__law_same_worths.binds (ps := ["told", "due"]) fun _ _ _ _ _ _ us hl => match us, hl with | [_, _], _ => rfl
  have F__law_least_entries : Fun K "_law_least_entries" "_law_least_entries" s__law_least_entries f__law_least_entries (PySem.W.fnOf "_law_least_entries" "_law_least_entries" (defArgs s__law_least_entries) (defBody s__law_least_entries) (defScope s__law_least_entries) .none kV__law_least_entries dc__law_least_entries pm__law_least_entries an__law_least_entries cd__law_least_entries ct__law_least_entries) := fun_mk (st := s__law_least_entries) l__law_least_entries c__law_least_entries k__law_least_entries
  have B__law_least_entries := F__law_least_entries.binds (ps := ["grade"]) fun _ _ _ _ _ _ us hl => match us, hl with | [_], _ => rfl
  have F_Grade_call : Fun K "__call__" "Grade.__call__" s_Grade_call f_Grade_call (PySem.W.fnOf "__call__" "Grade.__call__" (defArgs s_Grade_call) (defBody s_Grade_call) (defScope s_Grade_call) .none kV_Grade_call dc_Grade_call pm_Grade_call an_Grade_call cd_Grade_call ct_Grade_call) := fun_mk (st := s_Grade_call) l_Grade_call c_Grade_call k_Grade_call
  have B_Grade_call := F_Grade_call.binds (ps := ["self", "worth"]) fun _ _ _ _ _ _ us hl => match us, hl with | [_, _], _ => rfl
  have F__law_tells : Fun K "_law_tells" "_law_tells" s__law_tells f__law_tells (PySem.W.fnOf "_law_tells" "_law_tells" (defArgs s__law_tells) (defBody s__law_tells) (defScope s__law_tells) .none kV__law_tells dc__law_tells pm__law_tells an__law_tells cd__law_tells ct__law_tells) := fun_mk (st := s__law_tells) l__law_tells c__law_tells k__law_tells
  have B__law_tells := F__law_tells.binds (ps := ["made", "due", "worths"]) fun _ _ _ _ _ _ us hl => match us, hl with | [_, _, _], _ => rfl
  have F_Grade_eq : Fun K "__eq__" "Grade.__eq__" s_Grade_eq f_Grade_eq (PySem.W.fnOf "__eq__" "Grade.__eq__" (defArgs s_Grade_eq) (defBody s_Grade_eq) (defScope s_Grade_eq) .none kV_Grade_eq dc_Grade_eq pm_Grade_eq an_Grade_eq cd_Grade_eq ct_Grade_eq) := fun_mk (st := s_Grade_eq) l_Grade_eq c_Grade_eq k_Grade_eq
  have B_Grade_eq := F_Grade_eq.binds (ps := ["self", "other"]) fun _ _ _ _ _ _ us hl => match us, hl with | [_, _], _ => rfl
  have F__law_equal : Fun K "_law_equal" "_law_equal" s__law_equal f__law_equal (PySem.W.fnOf "_law_equal" "_law_equal" (defArgs s__law_equal) (defBody s__law_equal) (defScope s__law_equal) .none kV__law_equal dc__law_equal pm__law_equal an__law_equal cd__law_equal ct__law_equal) := fun_mk (st := s__law_equal) l__law_equal c__law_equal k__law_equal
  have B__law_equal := F__law_equal.binds (ps := ["one", "two"]) fun _ _ _ _ _ _ us hl => match us, hl with | [_, _], _ => rfl
  have F_Grade_stands_at : Fun K "stands_at" "Grade.stands_at" s_Grade_stands_at f_Grade_stands_at (PySem.W.fnOf "stands_at" "Grade.stands_at" (defArgs s_Grade_stands_at) (defBody s_Grade_stands_at) (defScope s_Grade_stands_at) .none kV_Grade_stands_at dc_Grade_stands_at pm_Grade_stands_at an_Grade_stands_at cd_Grade_stands_at ct_Grade_stands_at) := fun_mk (st := s_Grade_stands_at) l_Grade_stands_at c_Grade_stands_at k_Grade_stands_at
  have B_Grade_stands_at := F_Grade_stands_at.binds (ps := ["self", "number"]) fun _ _ _ _ _ _ us hl => match us, hl with | [_, _], _ => rfl
  have F_Grade_standing : Fun K "standing" "Grade.standing" s_Grade_standing f_Grade_standing (PySem.W.fnOf "standing" "Grade.standing" (defArgs s_Grade_standing) (defBody s_Grade_standing) (defScope s_Grade_standing) .none kV_Grade_standing dc_Grade_standing pm_Grade_standing an_Grade_standing cd_Grade_standing ct_Grade_standing) := fun_mk (st := s_Grade_standing) l_Grade_standing c_Grade_standing k_Grade_standing
  have B_Grade_standing := F_Grade_standing.binds (ps := ["self"]) fun _ _ _ _ _ _ us hl => match us, hl with | [_], _ => rfl
  have F__law_stands_where_one : Fun K "_law_stands_where_one" "_law_stands_where_one" s__law_stands_where_one f__law_stands_where_one (PySem.W.fnOf "_law_stands_where_one" "_law_stands_where_one" (defArgs s__law_stands_where_one) (defBody s__law_stands_where_one) (defScope s__law_stands_where_one) .none kV__law_stands_where_one dc__law_stands_where_one pm__law_stands_where_one an__law_stands_where_one cd__law_stands_where_one ct__law_stands_where_one) := fun_mk (st := s__law_stands_where_one) l__law_stands_where_one c__law_stands_where_one k__law_stands_where_one
  have B__law_stands_where_one := F__law_stands_where_one.binds (ps := ["made", "grades", "numbers"]) fun _ _ _ _ _ _ us hl => match us, hl with | [_, _, _], _ => rfl
  have F_total_of : Fun K "total_of" "total_of" s_total_of f_total_of (PySem.W.fnOf "total_of" "total_of" (defArgs s_total_of) (defBody s_total_of) (defScope s_total_of) .none kV_total_of dc_total_of pm_total_of an_total_of cd_total_of ct_total_of) := fun_mk (st := s_total_of) l_total_of c_total_of k_total_of
  have B_total_of := F_total_of.binds (ps := ["worths"]) fun _ _ _ _ _ _ us hl => match us, hl with | [_], _ => rfl
  have F_Grade_rshift : Fun K "__rshift__" "Grade.__rshift__" s_Grade_rshift f_Grade_rshift (PySem.W.fnOf "__rshift__" "Grade.__rshift__" (defArgs s_Grade_rshift) (defBody s_Grade_rshift) (defScope s_Grade_rshift) .none kV_Grade_rshift dc_Grade_rshift pm_Grade_rshift an_Grade_rshift cd_Grade_rshift ct_Grade_rshift) := fun_mk (st := s_Grade_rshift) l_Grade_rshift c_Grade_rshift k_Grade_rshift
  have B_Grade_rshift := F_Grade_rshift.binds (ps := ["self", "other"]) fun _ _ _ _ _ _ us hl => match us, hl with | [_, _], _ => rfl
  have F__law_expression : Fun K "_law_expression" "_law_expression" s__law_expression f__law_expression (PySem.W.fnOf "_law_expression" "_law_expression" (defArgs s__law_expression) (defBody s__law_expression) (defScope s__law_expression) .none kV__law_expression dc__law_expression pm__law_expression an__law_expression cd__law_expression ct__law_expression) := fun_mk (st := s__law_expression) l__law_expression c__law_expression k__law_expression
  have B__law_expression := F__law_expression.binds (ps := ["made", "grades", "digits"]) fun _ _ _ _ _ _ us hl => match us, hl with | [_, _, _], _ => rfl
  have F__law_goes_over : Fun K "_law_goes_over" "_law_goes_over" s__law_goes_over f__law_goes_over (PySem.W.fnOf "_law_goes_over" "_law_goes_over" (defArgs s__law_goes_over) (defBody s__law_goes_over) (defScope s__law_goes_over) .none kV__law_goes_over dc__law_goes_over pm__law_goes_over an__law_goes_over cd__law_goes_over ct__law_goes_over) := fun_mk (st := s__law_goes_over) l__law_goes_over c__law_goes_over k__law_goes_over
  have B__law_goes_over := F__law_goes_over.binds (ps := ["made", "grades", "worths"]) fun _ _ _ _ _ _ us hl => match us, hl with | [_, _, _], _ => rfl
  have F_greatest_of : Fun K "greatest_of" "greatest_of" s_greatest_of f_greatest_of (PySem.W.fnOf "greatest_of" "greatest_of" (defArgs s_greatest_of) (defBody s_greatest_of) (defScope s_greatest_of) .none kV_greatest_of dc_greatest_of pm_greatest_of an_greatest_of cd_greatest_of ct_greatest_of) := fun_mk (st := s_greatest_of) l_greatest_of c_greatest_of k_greatest_of
  have B_greatest_of := F_greatest_of.binds (ps := ["worths"]) fun _ _ _ _ _ _ us hl => match us, hl with | [_], _ => rfl
  have F__law_row_told : Fun K "_law_row_told" "_law_row_told" s__law_row_told f__law_row_told (PySem.W.fnOf "_law_row_told" "_law_row_told" (defArgs s__law_row_told) (defBody s__law_row_told) (defScope s__law_row_told) .none kV__law_row_told dc__law_row_told pm__law_row_told an__law_row_told cd__law_row_told ct__law_row_told) := fun_mk (st := s__law_row_told) l__law_row_told c__law_row_told k__law_row_told
  have B__law_row_told := F__law_row_told.binds (ps := ["row"]) fun _ _ _ _ _ _ us hl => match us, hl with | [_], _ => rfl
  have F__law_order_told : Fun K "_law_order_told" "_law_order_told" s__law_order_told f__law_order_told (PySem.W.fnOf "_law_order_told" "_law_order_told" (defArgs s__law_order_told) (defBody s__law_order_told) (defScope s__law_order_told) .none kV__law_order_told dc__law_order_told pm__law_order_told an__law_order_told cd__law_order_told ct__law_order_told) := fun_mk (st := s__law_order_told) l__law_order_told c__law_order_told k__law_order_told
  have B__law_order_told := F__law_order_told.binds (ps := ["row"]) fun _ _ _ _ _ _ us hl => match us, hl with | [_], _ => rfl
  have F__law_long_rows_told : Fun K "_law_long_rows_told" "_law_long_rows_told" s__law_long_rows_told f__law_long_rows_told (PySem.W.fnOf "_law_long_rows_told" "_law_long_rows_told" (defArgs s__law_long_rows_told) (defBody s__law_long_rows_told) (defScope s__law_long_rows_told) .none kV__law_long_rows_told dc__law_long_rows_told pm__law_long_rows_told an__law_long_rows_told cd__law_long_rows_told ct__law_long_rows_told) := fun_mk (st := s__law_long_rows_told) l__law_long_rows_told c__law_long_rows_told k__law_long_rows_told
  have B__law_long_rows_told := F__law_long_rows_told.binds (ps := ["grades", "numbers"]) fun _ _ _ _ _ _ us hl => match us, hl with | [_, _], _ => rfl
  have F__law_great_row : Fun K "_law_great_row" "_law_great_row" s__law_great_row f__law_great_row (PySem.W.fnOf "_law_great_row" "_law_great_row" (defArgs s__law_great_row) (defBody s__law_great_row) (defScope s__law_great_row) .none kV__law_great_row dc__law_great_row pm__law_great_row an__law_great_row cd__law_great_row ct__law_great_row) := fun_mk (st := s__law_great_row) l__law_great_row c__law_great_row k__law_great_row
  have B__law_great_row := F__law_great_row.binds (ps := ["cell"]) fun _ _ _ _ _ _ us hl => match us, hl with | [_], _ => rfl
  have F_law : Fun K "law" "law" s_law f_law (PySem.W.fnOf "law" "law" (defArgs s_law) (defBody s_law) (defScope s_law) .none kV_law dc_law pm_law an_law cd_law ct_law) := fun_mk (st := s_law) l_law c_law k_law
  have B_law := F_law.binds (ps := ["script"]) fun _ _ _ _ _ _ us hl => match us, hl with | [_], _ => rfl
  refine ⟨PySem.W.fnOf "law" "law" (defArgs s_law) (defBody s_law) (defScope s_law) .none kV_law dc_law pm_law an_law cd_law ct_law, fun s v => .of_eq rfl, fun base _ _ => ?_⟩
  let a : Adr := {
    C_Grade := C_Grade,
    f__law_digits := f__law_digits,
    fd__law_digits := PySem.W.fnOf "_law_digits" "_law_digits" (defArgs s__law_digits) (defBody s__law_digits) (defScope s__law_digits) .none kV__law_digits dc__law_digits pm__law_digits an__law_digits cd__law_digits ct__law_digits,
    f__law_cell := f__law_cell,
    fd__law_cell := PySem.W.fnOf "_law_cell" "_law_cell" (defArgs s__law_cell) (defBody s__law_cell) (defScope s__law_cell) .none kV__law_cell dc__law_cell pm__law_cell an__law_cell cd__law_cell ct__law_cell,
    f__law_raised := f__law_raised,
    fd__law_raised := PySem.W.fnOf "_law_raised" "_law_raised" (defArgs s__law_raised) (defBody s__law_raised) (defScope s__law_raised) .none kV__law_raised dc__law_raised pm__law_raised an__law_raised cd__law_raised ct__law_raised,
    f__law_entry := f__law_entry,
    fd__law_entry := PySem.W.fnOf "_law_entry" "_law_entry" (defArgs s__law_entry) (defBody s__law_entry) (defScope s__law_entry) .none kV__law_entry dc__law_entry pm__law_entry an__law_entry cd__law_entry ct__law_entry,
    f__law_grade := f__law_grade,
    fd__law_grade := PySem.W.fnOf "_law_grade" "_law_grade" (defArgs s__law_grade) (defBody s__law_grade) (defScope s__law_grade) .none kV__law_grade dc__law_grade pm__law_grade an__law_grade cd__law_grade ct__law_grade,
    f__law_whole := f__law_whole,
    fd__law_whole := PySem.W.fnOf "_law_whole" "_law_whole" (defArgs s__law_whole) (defBody s__law_whole) (defScope s__law_whole) .none kV__law_whole dc__law_whole pm__law_whole an__law_whole cd__law_whole ct__law_whole,
    f__law_longer := f__law_longer,
    fd__law_longer := PySem.W.fnOf "_law_longer" "_law_longer" (defArgs s__law_longer) (defBody s__law_longer) (defScope s__law_longer) .none kV__law_longer dc__law_longer pm__law_longer an__law_longer cd__law_longer ct__law_longer,
    f__law_standing := f__law_standing,
    fd__law_standing := PySem.W.fnOf "_law_standing" "_law_standing" (defArgs s__law_standing) (defBody s__law_standing) (defScope s__law_standing) .none kV__law_standing dc__law_standing pm__law_standing an__law_standing cd__law_standing ct__law_standing,
    f__law_lesser := f__law_lesser,
    fd__law_lesser := PySem.W.fnOf "_law_lesser" "_law_lesser" (defArgs s__law_lesser) (defBody s__law_lesser) (defScope s__law_lesser) .none kV__law_lesser dc__law_lesser pm__law_lesser an__law_lesser cd__law_lesser ct__law_lesser,
    f__law_at := f__law_at,
    fd__law_at := PySem.W.fnOf "_law_at" "_law_at" (defArgs s__law_at) (defBody s__law_at) (defScope s__law_at) .none kV__law_at dc__law_at pm__law_at an__law_at cd__law_at ct__law_at,
    f__law_both := f__law_both,
    fd__law_both := PySem.W.fnOf "_law_both" "_law_both" (defArgs s__law_both) (defBody s__law_both) (defScope s__law_both) .none kV__law_both dc__law_both pm__law_both an__law_both cd__law_both ct__law_both,
    f__law_least_of_all := f__law_least_of_all,
    fd__law_least_of_all := PySem.W.fnOf "_law_least_of_all" "_law_least_of_all" (defArgs s__law_least_of_all) (defBody s__law_least_of_all) (defScope s__law_least_of_all) .none kV__law_least_of_all dc__law_least_of_all pm__law_least_of_all an__law_least_of_all cd__law_least_of_all ct__law_least_of_all,
    f_is_whole := f_is_whole,
    fd_is_whole := PySem.W.fnOf "is_whole" "is_whole" (defArgs s_is_whole) (defBody s_is_whole) (defScope s_is_whole) .none kV_is_whole dc_is_whole pm_is_whole an_is_whole cd_is_whole ct_is_whole,
    f_is_number := f_is_number,
    fd_is_number := PySem.W.fnOf "is_number" "is_number" (defArgs s_is_number) (defBody s_is_number) (defScope s_is_number) .none kV_is_number dc_is_number pm_is_number an_is_number cd_is_number ct_is_number,
    f_is_worth := f_is_worth,
    fd_is_worth := PySem.W.fnOf "is_worth" "is_worth" (defArgs s_is_worth) (defBody s_is_worth) (defScope s_is_worth) .none kV_is_worth dc_is_worth pm_is_worth an_is_worth cd_is_worth ct_is_worth,
    f_rank_of := f_rank_of,
    fd_rank_of := PySem.W.fnOf "rank_of" "rank_of" (defArgs s_rank_of) (defBody s_rank_of) (defScope s_rank_of) .none kV_rank_of dc_rank_of pm_rank_of an_rank_of cd_rank_of ct_rank_of,
    f_is_before := f_is_before,
    fd_is_before := PySem.W.fnOf "is_before" "is_before" (defArgs s_is_before) (defBody s_is_before) (defScope s_is_before) .none kV_is_before dc_is_before pm_is_before an_is_before cd_is_before ct_is_before,
    f_first_bad_entry := f_first_bad_entry,
    fd_first_bad_entry := PySem.W.fnOf "first_bad_entry" "first_bad_entry" (defArgs s_first_bad_entry) (defBody s_first_bad_entry) (defScope s_first_bad_entry) .none kV_first_bad_entry dc_first_bad_entry pm_first_bad_entry an_first_bad_entry cd_first_bad_entry ct_first_bad_entry,
    f_is_right_more := f_is_right_more,
    fd_is_right_more := PySem.W.fnOf "is_right_more" "is_right_more" (defArgs s_is_right_more) (defBody s_is_right_more) (defScope s_is_right_more) .none kV_is_right_more dc_is_right_more pm_is_right_more an_is_right_more cd_is_right_more ct_is_right_more,
    f_beyond := f_beyond,
    fd_beyond := PySem.W.fnOf "beyond" "beyond" (defArgs s_beyond) (defBody s_beyond) (defScope s_beyond) .none kV_beyond dc_beyond pm_beyond an_beyond cd_beyond ct_beyond,
    f_least_table := f_least_table,
    fd_least_table := PySem.W.fnOf "least_table" "least_table" (defArgs s_least_table) (defBody s_least_table) (defScope s_least_table) .none kV_least_table dc_least_table pm_least_table an_least_table cd_least_table ct_least_table,
    f_Grade_init := f_Grade_init,
    fd_Grade_init := PySem.W.fnOf "__init__" "Grade.__init__" (defArgs s_Grade_init) (defBody s_Grade_init) (defScope s_Grade_init) (.ref D_Grade_init) kV_Grade_init dc_Grade_init pm_Grade_init an_Grade_init cd_Grade_init ct_Grade_init,
    dvs_Grade_init := [.ref dA_Grade_init_0, .int 0],
    dv_Grade_init_1 := [.ref dA_Grade_init_0, .int 0],
    ds_Grade_init_1 := e1_Grade_init,
    f_least_of := f_least_of,
    fd_least_of := PySem.W.fnOf "least_of" "least_of" (defArgs s_least_of) (defBody s_least_of) (defScope s_least_of) .none kV_least_of dc_least_of pm_least_of an_least_of cd_least_of ct_least_of,
    f_led := f_led,
    fd_led := PySem.W.fnOf "led" "led" (defArgs s_led) (defBody s_led) (defScope s_led) .none kV_led dc_led pm_led an_led cd_led ct_led,
    f_Grade_or := f_Grade_or,
    fd_Grade_or := PySem.W.fnOf "__or__" "Grade.__or__" (defArgs s_Grade_or) (defBody s_Grade_or) (defScope s_Grade_or) .none kV_Grade_or dc_Grade_or pm_Grade_or an_Grade_or cd_Grade_or ct_Grade_or,
    f__law_grouped := f__law_grouped,
    fd__law_grouped := PySem.W.fnOf "_law_grouped" "_law_grouped" (defArgs s__law_grouped) (defBody s__law_grouped) (defScope s__law_grouped) .none kV__law_grouped dc__law_grouped pm__law_grouped an__law_grouped cd__law_grouped ct__law_grouped,
    f__law_same_worth := f__law_same_worth,
    fd__law_same_worth := PySem.W.fnOf "_law_same_worth" "_law_same_worth" (defArgs s__law_same_worth) (defBody s__law_same_worth) (defScope s__law_same_worth) .none kV__law_same_worth dc__law_same_worth pm__law_same_worth an__law_same_worth cd__law_same_worth ct__law_same_worth,
    f__law_same_worths := f__law_same_worths,
    fd__law_same_worths := PySem.W.fnOf "_law_same_worths" "_law_same_worths" (defArgs s__law_same_worths) (defBody s__law_same_worths) (defScope s__law_same_worths) .none kV__law_same_worths dc__law_same_worths pm__law_same_worths an__law_same_worths cd__law_same_worths ct__law_same_worths,
    f__law_least_entries := f__law_least_entries,
    fd__law_least_entries := PySem.W.fnOf "_law_least_entries" "_law_least_entries" (defArgs s__law_least_entries) (defBody s__law_least_entries) (defScope s__law_least_entries) .none kV__law_least_entries dc__law_least_entries pm__law_least_entries an__law_least_entries cd__law_least_entries ct__law_least_entries,
    f_Grade_call := f_Grade_call,
    fd_Grade_call := PySem.W.fnOf "__call__" "Grade.__call__" (defArgs s_Grade_call) (defBody s_Grade_call) (defScope s_Grade_call) .none kV_Grade_call dc_Grade_call pm_Grade_call an_Grade_call cd_Grade_call ct_Grade_call,
    f__law_tells := f__law_tells,
    fd__law_tells := PySem.W.fnOf "_law_tells" "_law_tells" (defArgs s__law_tells) (defBody s__law_tells) (defScope s__law_tells) .none kV__law_tells dc__law_tells pm__law_tells an__law_tells cd__law_tells ct__law_tells,
    f_Grade_eq := f_Grade_eq,
    fd_Grade_eq := PySem.W.fnOf "__eq__" "Grade.__eq__" (defArgs s_Grade_eq) (defBody s_Grade_eq) (defScope s_Grade_eq) .none kV_Grade_eq dc_Grade_eq pm_Grade_eq an_Grade_eq cd_Grade_eq ct_Grade_eq,
    f__law_equal := f__law_equal,
    fd__law_equal := PySem.W.fnOf "_law_equal" "_law_equal" (defArgs s__law_equal) (defBody s__law_equal) (defScope s__law_equal) .none kV__law_equal dc__law_equal pm__law_equal an__law_equal cd__law_equal ct__law_equal,
    f_Grade_stands_at := f_Grade_stands_at,
    fd_Grade_stands_at := PySem.W.fnOf "stands_at" "Grade.stands_at" (defArgs s_Grade_stands_at) (defBody s_Grade_stands_at) (defScope s_Grade_stands_at) .none kV_Grade_stands_at dc_Grade_stands_at pm_Grade_stands_at an_Grade_stands_at cd_Grade_stands_at ct_Grade_stands_at,
    f_Grade_standing := f_Grade_standing,
    fd_Grade_standing := PySem.W.fnOf "standing" "Grade.standing" (defArgs s_Grade_standing) (defBody s_Grade_standing) (defScope s_Grade_standing) .none kV_Grade_standing dc_Grade_standing pm_Grade_standing an_Grade_standing cd_Grade_standing ct_Grade_standing,
    p_Grade_standing := p_Grade_standing,
    f__law_stands_where_one := f__law_stands_where_one,
    fd__law_stands_where_one := PySem.W.fnOf "_law_stands_where_one" "_law_stands_where_one" (defArgs s__law_stands_where_one) (defBody s__law_stands_where_one) (defScope s__law_stands_where_one) .none kV__law_stands_where_one dc__law_stands_where_one pm__law_stands_where_one an__law_stands_where_one cd__law_stands_where_one ct__law_stands_where_one,
    f_total_of := f_total_of,
    fd_total_of := PySem.W.fnOf "total_of" "total_of" (defArgs s_total_of) (defBody s_total_of) (defScope s_total_of) .none kV_total_of dc_total_of pm_total_of an_total_of cd_total_of ct_total_of,
    f_Grade_rshift := f_Grade_rshift,
    fd_Grade_rshift := PySem.W.fnOf "__rshift__" "Grade.__rshift__" (defArgs s_Grade_rshift) (defBody s_Grade_rshift) (defScope s_Grade_rshift) .none kV_Grade_rshift dc_Grade_rshift pm_Grade_rshift an_Grade_rshift cd_Grade_rshift ct_Grade_rshift,
    f__law_expression := f__law_expression,
    fd__law_expression := PySem.W.fnOf "_law_expression" "_law_expression" (defArgs s__law_expression) (defBody s__law_expression) (defScope s__law_expression) .none kV__law_expression dc__law_expression pm__law_expression an__law_expression cd__law_expression ct__law_expression,
    f__law_goes_over := f__law_goes_over,
    fd__law_goes_over := PySem.W.fnOf "_law_goes_over" "_law_goes_over" (defArgs s__law_goes_over) (defBody s__law_goes_over) (defScope s__law_goes_over) .none kV__law_goes_over dc__law_goes_over pm__law_goes_over an__law_goes_over cd__law_goes_over ct__law_goes_over,
    f_greatest_of := f_greatest_of,
    fd_greatest_of := PySem.W.fnOf "greatest_of" "greatest_of" (defArgs s_greatest_of) (defBody s_greatest_of) (defScope s_greatest_of) .none kV_greatest_of dc_greatest_of pm_greatest_of an_greatest_of cd_greatest_of ct_greatest_of,
    f__law_row_told := f__law_row_told,
    fd__law_row_told := PySem.W.fnOf "_law_row_told" "_law_row_told" (defArgs s__law_row_told) (defBody s__law_row_told) (defScope s__law_row_told) .none kV__law_row_told dc__law_row_told pm__law_row_told an__law_row_told cd__law_row_told ct__law_row_told,
    f__law_order_told := f__law_order_told,
    fd__law_order_told := PySem.W.fnOf "_law_order_told" "_law_order_told" (defArgs s__law_order_told) (defBody s__law_order_told) (defScope s__law_order_told) .none kV__law_order_told dc__law_order_told pm__law_order_told an__law_order_told cd__law_order_told ct__law_order_told,
    f__law_long_rows_told := f__law_long_rows_told,
    fd__law_long_rows_told := PySem.W.fnOf "_law_long_rows_told" "_law_long_rows_told" (defArgs s__law_long_rows_told) (defBody s__law_long_rows_told) (defScope s__law_long_rows_told) .none kV__law_long_rows_told dc__law_long_rows_told pm__law_long_rows_told an__law_long_rows_told cd__law_long_rows_told ct__law_long_rows_told,
    f__law_great_row := f__law_great_row,
    fd__law_great_row := PySem.W.fnOf "_law_great_row" "_law_great_row" (defArgs s__law_great_row) (defBody s__law_great_row) (defScope s__law_great_row) .none kV__law_great_row dc__law_great_row pm__law_great_row an__law_great_row cd__law_great_row ct__law_great_row,
    f_law := f_law,
    fd_law := PySem.W.fnOf "law" "law" (defArgs s_law) (defBody s_law) (defScope s_law) .none kV_law dc_law pm_law an_law cd_law ct_law,
    t_MOST_ENTRIES := t_MOST_ENTRIES }
  let g : FP := ⟨l.prog, w, K, mg, base⟩
  have kt : KtOk (mkT g a) := {
    cls := (fun c C hC => match c, hC with
      | 0, hC => by cases hC; exact ⟨pg_Grade, hd_Grade, po_Grade, sa_Grade⟩
      | (_ + 1), hC => by cases hC),
    no := (fun c C hC => match c, hC with
      | 0, hC => by cases hC; exact (by intro f hf; simp only [mkT, at_, List.mem_cons, List.not_mem_nil, or_false] at hf; rcases hf with rfl | rfl; exact na_Grade_table; exact na_Grade_more)
      | (_ + 1), hC => by cases hC),
    ty := (fun c C hC => match c, hC with
      | 0, hC => by cases hC; exact ⟨t1_Grade, ob2, ob3, t4_Grade⟩
      | (_ + 1), hC => by cases hC),
    sub := (fun c d C E hC hE => match c, d, hC, hE with
      | 0, 0, hC, hE => by cases hC; cases hE; exact kit_self
      | (_ + 1), _, hC, _ => by cases hC
      | 0, (_ + 1), _, hE => by cases hE),
    bt := fun d E n hE hn => (show ∀ q ∈ ["NoneType", "bool", "int", "str", "list", "tuple", "dict"], PySem.W.kitOne K (.type q) (.ref E) = some false from match d, hE with
      | 0, hC => by cases hC; exact (by intro q hq; simp only [List.mem_cons, List.not_mem_nil, or_false] at hq; rcases hq with rfl | rfl | rfl | rfl | rfl | rfl | rfl; exact kit_bt ic_Grade ty_Grade bNoneType_Grade; exact kit_bt ic_Grade ty_Grade bbool_Grade; exact kit_bt ic_Grade ty_Grade bint_Grade; exact kit_bt ic_Grade ty_Grade bstr_Grade; exact kit_bt ic_Grade ty_Grade blist_Grade; exact kit_bt ic_Grade ty_Grade btuple_Grade; exact kit_bt ic_Grade ty_Grade bdict_Grade)
      | (_ + 1), hC => by cases hC) n hn,
    tb := fun d E n hE hn => (show ∀ q ∈ ["bool", "int", "str", "list", "tuple", "dict"], PySem.W.kitOne K (.ref E) (.type q) = some false from match d, hE with
      | 0, hC => by cases hC; exact (by intro q hq; simp only [List.mem_cons, List.not_mem_nil, or_false] at hq; rcases hq with rfl | rfl | rfl | rfl | rfl | rfl; exact kit_tb (by decide +kernel) sbool_Grade; exact kit_tb (by decide +kernel) sint_Grade; exact kit_tb (by decide +kernel) sstr_Grade; exact kit_tb (by decide +kernel) slist_Grade; exact kit_tb (by decide +kernel) stuple_Grade; exact kit_tb (by decide +kernel) sdict_Grade)
      | (_ + 1), hC => by cases hC) n hn }
  have S : Txt g a := {
    kt := kt,
    _law_digits_F := F__law_digits,
    _law_digits_b := B__law_digits,
    h__law_digits := PySem.W.mg_of X Gm a__law_digits,
    _law_cell_F := F__law_cell,
    _law_cell_b := B__law_cell,
    h__law_cell := PySem.W.mg_of X Gm a__law_cell,
    _law_raised_F := F__law_raised,
    _law_raised_b := B__law_raised,
    h__law_raised := PySem.W.mg_of X Gm a__law_raised,
    _law_entry_F := F__law_entry,
    _law_entry_b := B__law_entry,
    h__law_entry := PySem.W.mg_of X Gm a__law_entry,
    _law_grade_F := F__law_grade,
    _law_grade_b := B__law_grade,
    h__law_grade := PySem.W.mg_of X Gm a__law_grade,
    _law_whole_F := F__law_whole,
    _law_whole_b := B__law_whole,
    h__law_whole := PySem.W.mg_of X Gm a__law_whole,
    _law_longer_F := F__law_longer,
    _law_longer_b := B__law_longer,
    h__law_longer := PySem.W.mg_of X Gm a__law_longer,
    _law_standing_F := F__law_standing,
    _law_standing_b := B__law_standing,
    h__law_standing := PySem.W.mg_of X Gm a__law_standing,
    _law_lesser_F := F__law_lesser,
    _law_lesser_b := B__law_lesser,
    h__law_lesser := PySem.W.mg_of X Gm a__law_lesser,
    _law_at_F := F__law_at,
    _law_at_b := B__law_at,
    h__law_at := PySem.W.mg_of X Gm a__law_at,
    _law_both_F := F__law_both,
    _law_both_b := B__law_both,
    h__law_both := PySem.W.mg_of X Gm a__law_both,
    _law_least_of_all_F := F__law_least_of_all,
    _law_least_of_all_b := B__law_least_of_all,
    h__law_least_of_all := PySem.W.mg_of X Gm a__law_least_of_all,
    is_whole_F := F_is_whole,
    is_whole_b := B_is_whole,
    h_is_whole := PySem.W.mg_of X Gm a_is_whole,
    is_number_F := F_is_number,
    is_number_b := B_is_number,
    h_is_number := PySem.W.mg_of X Gm a_is_number,
    is_worth_F := F_is_worth,
    is_worth_b := B_is_worth,
    h_is_worth := PySem.W.mg_of X Gm a_is_worth,
    rank_of_F := F_rank_of,
    rank_of_b := B_rank_of,
    rank_of_kw0 := kbi_fun F_rank_of fun kV doc pm an cdv ct us ws h1 h2 => match us, ws, h1, h2 with | [], [w0], _, _ => rfl,
    rank_of_kr0 := fun G => .nil,
    h_rank_of := PySem.W.mg_of X Gm a_rank_of,
    is_before_F := F_is_before,
    is_before_b := B_is_before,
    is_before_kw0 := kbi_fun F_is_before fun kV doc pm an cdv ct us ws h1 h2 => match us, ws, h1, h2 with | [], [w0, w1], _, _ => rfl,
    is_before_kr0 := fun G => .nil,
    h_is_before := PySem.W.mg_of X Gm a_is_before,
    first_bad_entry_F := F_first_bad_entry,
    first_bad_entry_b := B_first_bad_entry,
    h_first_bad_entry := PySem.W.mg_of X Gm a_first_bad_entry,
    is_right_more_F := F_is_right_more,
    is_right_more_b := B_is_right_more,
    h_is_right_more := PySem.W.mg_of X Gm a_is_right_more,
    beyond_F := F_beyond,
    beyond_b := B_beyond,
    h_beyond := PySem.W.mg_of X Gm a_beyond,
    least_table_F := F_least_table,
    least_table_b := B_least_table,
    h_least_table := PySem.W.mg_of X Gm a_least_table,
    Grade_init_FD := FD_Grade_init,
    Grade_init_b := b0_Grade_init,
    Grade_init_b1 := b1_Grade_init,
    Grade_init_d1 := v1_Grade_init,
    Grade_init_r1 := fun G => .cons (.tup (.inr ⟨_, _, _, dl_Grade_init_0, rfl, rfl, by simp, .nil⟩) .nil) (.cons (.int _) (.nil)),
    mk_Grade := ⟨mi_Grade, a_Grade_init, i_Grade_init, kc_Grade⟩,
    least_of_F := F_least_of,
    least_of_b := B_least_of,
    least_of_kw0 := kbi_fun F_least_of fun kV doc pm an cdv ct us ws h1 h2 => match us, ws, h1, h2 with | [], [w0], _, _ => rfl,
    least_of_kr0 := fun G => .nil,
    h_least_of := PySem.W.mg_of X Gm a_least_of,
    led_F := F_led,
    led_b := B_led,
    h_led := PySem.W.mg_of X Gm a_led,
    Grade_or_F := F_Grade_or,
    Grade_or_b := B_Grade_or,
    Grade_or_at := a_Grade_or,
    Grade_or_fn := i_Grade_or,
    Grade_or_me := ⟨a_Grade_or, i_Grade_or, k_Grade_or⟩,
    _law_grouped_F := F__law_grouped,
    _law_grouped_b := B__law_grouped,
    h__law_grouped := PySem.W.mg_of X Gm a__law_grouped,
    _law_same_worth_F := F__law_same_worth,
    _law_same_worth_b := B__law_same_worth,
    h__law_same_worth := PySem.W.mg_of X Gm a__law_same_worth,
    _law_same_worths_F := F__law_same_worths,
    _law_same_worths_b := B__law_same_worths,
    h__law_same_worths := PySem.W.mg_of X Gm a__law_same_worths,
    _law_least_entries_F := F__law_least_entries,
    _law_least_entries_b := B__law_least_entries,
    h__law_least_entries := PySem.W.mg_of X Gm a__law_least_entries,
    Grade_call_F := F_Grade_call,
    Grade_call_b := B_Grade_call,
    Grade_call_at := a_Grade_call,
    Grade_call_fn := i_Grade_call,
    Grade_call_me := ⟨a_Grade_call, i_Grade_call, k_Grade_call⟩,
    Grade_call_fi := n_Grade_call,
    _law_tells_F := F__law_tells,
    _law_tells_b := B__law_tells,
    h__law_tells := PySem.W.mg_of X Gm a__law_tells,
    Grade_eq_F := F_Grade_eq,
    Grade_eq_b := B_Grade_eq,
    Grade_eq_at := a_Grade_eq,
    Grade_eq_fn := i_Grade_eq,
    Grade_eq_me := ⟨a_Grade_eq, i_Grade_eq, k_Grade_eq⟩,
    _law_equal_F := F__law_equal,
    _law_equal_b := B__law_equal,
    h__law_equal := PySem.W.mg_of X Gm a__law_equal,
    Grade_stands_at_F := F_Grade_stands_at,
    Grade_stands_at_b := B_Grade_stands_at,
    Grade_stands_at_at := a_Grade_stands_at,
    Grade_stands_at_fn := i_Grade_stands_at,
    Grade_stands_at_me := ⟨a_Grade_stands_at, i_Grade_stands_at, k_Grade_stands_at⟩,
    Grade_standing_F := F_Grade_standing,
    Grade_standing_b := B_Grade_standing,
    Grade_standing_pr := ⟨pa_Grade_standing, pb_Grade_standing, pc_Grade_standing, _, pd_Grade_standing⟩,
    _law_stands_where_one_F := F__law_stands_where_one,
    _law_stands_where_one_b := B__law_stands_where_one,
    h__law_stands_where_one := PySem.W.mg_of X Gm a__law_stands_where_one,
    total_of_F := F_total_of,
    total_of_b := B_total_of,
    total_of_kw0 := kbi_fun F_total_of fun kV doc pm an cdv ct us ws h1 h2 => match us, ws, h1, h2 with | [], [w0], _, _ => rfl,
    total_of_kr0 := fun G => .nil,
    h_total_of := PySem.W.mg_of X Gm a_total_of,
    Grade_rshift_F := F_Grade_rshift,
    Grade_rshift_b := B_Grade_rshift,
    Grade_rshift_at := a_Grade_rshift,
    Grade_rshift_fn := i_Grade_rshift,
    Grade_rshift_me := ⟨a_Grade_rshift, i_Grade_rshift, k_Grade_rshift⟩,
    _law_expression_F := F__law_expression,
    _law_expression_b := B__law_expression,
    h__law_expression := PySem.W.mg_of X Gm a__law_expression,
    _law_goes_over_F := F__law_goes_over,
    _law_goes_over_b := B__law_goes_over,
    h__law_goes_over := PySem.W.mg_of X Gm a__law_goes_over,
    greatest_of_F := F_greatest_of,
    greatest_of_b := B_greatest_of,
    greatest_of_kw0 := kbi_fun F_greatest_of fun kV doc pm an cdv ct us ws h1 h2 => match us, ws, h1, h2 with | [], [w0], _, _ => rfl,
    greatest_of_kr0 := fun G => .nil,
    h_greatest_of := PySem.W.mg_of X Gm a_greatest_of,
    _law_row_told_F := F__law_row_told,
    _law_row_told_b := B__law_row_told,
    h__law_row_told := PySem.W.mg_of X Gm a__law_row_told,
    _law_order_told_F := F__law_order_told,
    _law_order_told_b := B__law_order_told,
    h__law_order_told := PySem.W.mg_of X Gm a__law_order_told,
    _law_long_rows_told_F := F__law_long_rows_told,
    _law_long_rows_told_b := B__law_long_rows_told,
    h__law_long_rows_told := PySem.W.mg_of X Gm a__law_long_rows_told,
    _law_great_row_F := F__law_great_row,
    _law_great_row_b := B__law_great_row,
    h__law_great_row := PySem.W.mg_of X Gm a__law_great_row,
    law_F := F_law,
    law_b := B_law,
    h_law := PySem.W.mg_of X Gm a_law,
    h_Grade := PySem.W.mg_of X Gm gC_Grade,
    sf_Grade := sf_Grade,
    nf_Grade := (fun q hq => by simp only [List.mem_cons, List.not_mem_nil, or_false] at hq; rcases hq with rfl | rfl | rfl | rfl | rfl | rfl | rfl; exact nf_bt bNoneType_Grade; exact nf_bt bbool_Grade; exact nf_bt bint_Grade; exact nf_bt bstr_Grade; exact nf_bt blist_Grade; exact nf_bt btuple_Grade; exact nf_bt bdict_Grade),
    nc_Grade := (fun d E hE hs => match d, hE, hs with
    | 0, hE, _ => by cases hE; exact nf_self
    | (_ + 1), hE, _ => by cases hE),
    n_abs := PySem.W.mg_none_of X Gm z_abs,
    n_bool := PySem.W.mg_none_of X Gm z_bool,
    n_int := PySem.W.mg_none_of X Gm z_int,
    n_isinstance := PySem.W.mg_none_of X Gm z_isinstance,
    n_len := PySem.W.mg_none_of X Gm z_len,
    n_list := PySem.W.mg_none_of X Gm z_list,
    n_max := PySem.W.mg_none_of X Gm z_max,
    n_min := PySem.W.mg_none_of X Gm z_min,
    n_range := PySem.W.mg_none_of X Gm z_range,
    n_tuple := PySem.W.mg_none_of X Gm z_tuple,
    k_MOST_ENTRIES := PySem.W.mg_of X Gm q_MOST_ENTRIES }
  exact ok_end S
end K03
open PySem PySem.W PyProof.Rows
theorem PySem.Challenge.cw_holdsitself_k03_the_lesser_of_two_holds : PySem.Challenge.rw_holdsitself_k03_the_lesser_of_two.Holds := by
  w_on; o_law; k_head; (case hw => w_witness2)
  k_fill
  refine L2.walk_ofB (l := PySem.Challenge.rw_holdsitself_k03_the_lesser_of_two) (n := 63) (k := 9) (x := "script") (CX := fun w => L2.CX PySem.Challenge.rw_holdsitself_k03_the_lesser_of_two.prog w) (sp := fun w => K03.spLaw _) rfl (by decide) rfl ⟨rfl, by decide, by decide⟩ (fun w h Y => PySem.W.kIn_of Y) ?F (fun _ _ a ns hl hb _ hS => ⟨a, ns, rfl, hS, hl, hb, fun _ => rfl⟩) (fun _ _ _ _ _ h => by obtain ⟨_, _, _, _, _, _, _, _, _, _, _, _, z⟩ := h; exact z.elim)
  case F =>
    intro w mg fa h KX G hmg
    refine' K03.all_mk KX G hmg ?gC_Grade ?pg_Grade ?hd_Grade ?po_Grade ?sa_Grade ?mi_Grade ?kc_Grade ?sf_Grade ?t1_Grade ?t4_Grade ?ic_Grade ?ty_Grade ?bNoneType_Grade ?bbool_Grade ?bint_Grade ?bstr_Grade ?blist_Grade ?btuple_Grade ?bdict_Grade ?sbool_Grade ?sint_Grade ?sstr_Grade ?slist_Grade ?stuple_Grade ?sdict_Grade ?na_Grade_table ?na_Grade_more ?ob2 ?ob3 ?a__law_digits ?l__law_digits ?c__law_digits ?k__law_digits ?a__law_cell ?l__law_cell ?c__law_cell ?k__law_cell ?a__law_raised ?l__law_raised ?c__law_raised ?k__law_raised ?a__law_entry ?l__law_entry ?c__law_entry ?k__law_entry ?a__law_grade ?l__law_grade ?c__law_grade ?k__law_grade ?a__law_whole ?l__law_whole ?c__law_whole ?k__law_whole ?a__law_longer ?l__law_longer ?c__law_longer ?k__law_longer ?a__law_standing ?l__law_standing ?c__law_standing ?k__law_standing ?a__law_lesser ?l__law_lesser ?c__law_lesser ?k__law_lesser ?a__law_at ?l__law_at ?c__law_at ?k__law_at ?a__law_both ?l__law_both ?c__law_both ?k__law_both ?a__law_least_of_all ?l__law_least_of_all ?c__law_least_of_all ?k__law_least_of_all ?a_is_whole ?l_is_whole ?c_is_whole ?k_is_whole ?a_is_number ?l_is_number ?c_is_number ?k_is_number ?a_is_worth ?l_is_worth ?c_is_worth ?k_is_worth ?a_rank_of ?l_rank_of ?c_rank_of ?k_rank_of ?a_is_before ?l_is_before ?c_is_before ?k_is_before ?a_first_bad_entry ?l_first_bad_entry ?c_first_bad_entry ?k_first_bad_entry ?a_is_right_more ?l_is_right_more ?c_is_right_more ?k_is_right_more ?a_beyond ?l_beyond ?c_beyond ?k_beyond ?a_least_table ?l_least_table ?c_least_table ?k_least_table ?a_Grade_init ?i_Grade_init ?l_Grade_init ?c_Grade_init ?k_Grade_init ?lD_Grade_init ?dl_Grade_init_0 ?a_least_of ?l_least_of ?c_least_of ?k_least_of ?a_led ?l_led ?c_led ?k_led ?a_Grade_or ?i_Grade_or ?l_Grade_or ?c_Grade_or ?k_Grade_or ?a__law_grouped ?l__law_grouped ?c__law_grouped ?k__law_grouped ?a__law_same_worth ?l__law_same_worth ?c__law_same_worth ?k__law_same_worth ?a__law_same_worths ?l__law_same_worths ?c__law_same_worths ?k__law_same_worths ?a__law_least_entries ?l__law_least_entries ?c__law_least_entries ?k__law_least_entries ?a_Grade_call ?i_Grade_call ?n_Grade_call ?l_Grade_call ?c_Grade_call ?k_Grade_call ?a__law_tells ?l__law_tells ?c__law_tells ?k__law_tells ?a_Grade_eq ?i_Grade_eq ?l_Grade_eq ?c_Grade_eq ?k_Grade_eq ?a__law_equal ?l__law_equal ?c__law_equal ?k__law_equal ?a_Grade_stands_at ?i_Grade_stands_at ?l_Grade_stands_at ?c_Grade_stands_at ?k_Grade_stands_at ?pa_Grade_standing ?pb_Grade_standing ?pc_Grade_standing ?pd_Grade_standing ?l_Grade_standing ?c_Grade_standing ?k_Grade_standing ?a__law_stands_where_one ?l__law_stands_where_one ?c__law_stands_where_one ?k__law_stands_where_one ?a_total_of ?l_total_of ?c_total_of ?k_total_of ?a_Grade_rshift ?i_Grade_rshift ?l_Grade_rshift ?c_Grade_rshift ?k_Grade_rshift ?a__law_expression ?l__law_expression ?c__law_expression ?k__law_expression ?a__law_goes_over ?l__law_goes_over ?c__law_goes_over ?k__law_goes_over ?a_greatest_of ?l_greatest_of ?c_greatest_of ?k_greatest_of ?a__law_row_told ?l__law_row_told ?c__law_row_told ?k__law_row_told ?a__law_order_told ?l__law_order_told ?c__law_order_told ?k__law_order_told ?a__law_long_rows_told ?l__law_long_rows_told ?c__law_long_rows_told ?k__law_long_rows_told ?a__law_great_row ?l__law_great_row ?c__law_great_row ?k__law_great_row ?a_law ?l_law ?c_law ?k_law ?z_abs ?z_bool ?z_int ?z_isinstance ?z_len ?z_list ?z_max ?z_min ?z_range ?z_tuple ?q_MOST_ENTRIES
    (case gC_Grade => k_is)
    (case pg_Grade => k_is)
    (case hd_Grade => k_is)
    (case po_Grade => k_is)
    (case sa_Grade => k_is)
    (case mi_Grade => k_is)
    (case kc_Grade => k_is)
    (case sf_Grade => k_is)
    (case t1_Grade => k_is)
    (case t4_Grade => k_is)
    (case ic_Grade => k_is)
    (case ty_Grade => k_is)
    (case bNoneType_Grade => k_is)
    (case bbool_Grade => k_is)
    (case bint_Grade => k_is)
    (case bstr_Grade => k_is)
    (case blist_Grade => k_is)
    (case btuple_Grade => k_is)
    (case bdict_Grade => k_is)
    (case sbool_Grade => k_is)
    (case sint_Grade => k_is)
    (case sstr_Grade => k_is)
    (case slist_Grade => k_is)
    (case stuple_Grade => k_is)
    (case sdict_Grade => k_is)
    (case na_Grade_table => k_is)
    (case na_Grade_more => k_is)
    (case ob2 => k_is)
    (case ob3 => k_is)
    (case a__law_digits => k_is)
    (case l__law_digits => k_is)
    (case c__law_digits => k_is)
    (case k__law_digits => k_is)
    (case a__law_cell => k_is)
    (case l__law_cell => k_is)
    (case c__law_cell => k_is)
    (case k__law_cell => k_is)
    (case a__law_raised => k_is)
    (case l__law_raised => k_is)
    (case c__law_raised => k_is)
    (case k__law_raised => k_is)
    (case a__law_entry => k_is)
    (case l__law_entry => k_is)
    (case c__law_entry => k_is)
    (case k__law_entry => k_is)
    (case a__law_grade => k_is)
    (case l__law_grade => k_is)
    (case c__law_grade => k_is)
    (case k__law_grade => k_is)
    (case a__law_whole => k_is)
    (case l__law_whole => k_is)
    (case c__law_whole => k_is)
    (case k__law_whole => k_is)
    (case a__law_longer => k_is)
    (case l__law_longer => k_is)
    (case c__law_longer => k_is)
    (case k__law_longer => k_is)
    (case a__law_standing => k_is)
    (case l__law_standing => k_is)
    (case c__law_standing => k_is)
    (case k__law_standing => k_is)
    (case a__law_lesser => k_is)
    (case l__law_lesser => k_is)
    (case c__law_lesser => k_is)
    (case k__law_lesser => k_is)
    (case a__law_at => k_is)
    (case l__law_at => k_is)
    (case c__law_at => k_is)
    (case k__law_at => k_is)
    (case a__law_both => k_is)
    (case l__law_both => k_is)
    (case c__law_both => k_is)
    (case k__law_both => k_is)
    (case a__law_least_of_all => k_is)
    (case l__law_least_of_all => k_is)
    (case c__law_least_of_all => k_is)
    (case k__law_least_of_all => k_is)
    (case a_is_whole => k_is)
    (case l_is_whole => k_is)
    (case c_is_whole => k_is)
    (case k_is_whole => k_is)
    (case a_is_number => k_is)
    (case l_is_number => k_is)
    (case c_is_number => k_is)
    (case k_is_number => k_is)
    (case a_is_worth => k_is)
    (case l_is_worth => k_is)
    (case c_is_worth => k_is)
    (case k_is_worth => k_is)
    (case a_rank_of => k_is)
    (case l_rank_of => k_is)
    (case c_rank_of => k_is)
    (case k_rank_of => k_is)
    (case a_is_before => k_is)
    (case l_is_before => k_is)
    (case c_is_before => k_is)
    (case k_is_before => k_is)
    (case a_first_bad_entry => k_is)
    (case l_first_bad_entry => k_is)
    (case c_first_bad_entry => k_is)
    (case k_first_bad_entry => k_is)
    (case a_is_right_more => k_is)
    (case l_is_right_more => k_is)
    (case c_is_right_more => k_is)
    (case k_is_right_more => k_is)
    (case a_beyond => k_is)
    (case l_beyond => k_is)
    (case c_beyond => k_is)
    (case k_beyond => k_is)
    (case a_least_table => k_is)
    (case l_least_table => k_is)
    (case c_least_table => k_is)
    (case k_least_table => k_is)
    (case a_Grade_init => k_is)
    (case i_Grade_init => k_is)
    (case l_Grade_init => k_is)
    (case c_Grade_init => k_is)
    (case k_Grade_init => k_is)
    (case lD_Grade_init => k_is)
    (case dl_Grade_init_0 => k_is)
    (case a_least_of => k_is)
    (case l_least_of => k_is)
    (case c_least_of => k_is)
    (case k_least_of => k_is)
    (case a_led => k_is)
    (case l_led => k_is)
    (case c_led => k_is)
    (case k_led => k_is)
    (case a_Grade_or => k_is)
    (case i_Grade_or => k_is)
    (case l_Grade_or => k_is)
    (case c_Grade_or => k_is)
    (case k_Grade_or => k_is)
    (case a__law_grouped => k_is)
    (case l__law_grouped => k_is)
    (case c__law_grouped => k_is)
    (case k__law_grouped => k_is)
    (case a__law_same_worth => k_is)
    (case l__law_same_worth => k_is)
    (case c__law_same_worth => k_is)
    (case k__law_same_worth => k_is)
    (case a__law_same_worths => k_is)
    (case l__law_same_worths => k_is)
    (case c__law_same_worths => k_is)
    (case k__law_same_worths => k_is)
    (case a__law_least_entries => k_is)
    (case l__law_least_entries => k_is)
    (case c__law_least_entries => k_is)
    (case k__law_least_entries => k_is)
    (case a_Grade_call => k_is)
    (case i_Grade_call => k_is)
    (case n_Grade_call => k_is)
    (case l_Grade_call => k_is)
    (case c_Grade_call => k_is)
    (case k_Grade_call => k_is)
    (case a__law_tells => k_is)
    (case l__law_tells => k_is)
    (case c__law_tells => k_is)
    (case k__law_tells => k_is)
    (case a_Grade_eq => k_is)
    (case i_Grade_eq => k_is)
    (case l_Grade_eq => k_is)
    (case c_Grade_eq => k_is)
    (case k_Grade_eq => k_is)
    (case a__law_equal => k_is)
    (case l__law_equal => k_is)
    (case c__law_equal => k_is)
    (case k__law_equal => k_is)
    (case a_Grade_stands_at => k_is)
    (case i_Grade_stands_at => k_is)
    (case l_Grade_stands_at => k_is)
    (case c_Grade_stands_at => k_is)
    (case k_Grade_stands_at => k_is)
    (case pa_Grade_standing => k_is)
    (case pb_Grade_standing => k_is)
    (case pc_Grade_standing => k_is)
    (case pd_Grade_standing => k_is)
    (case l_Grade_standing => k_is)
    (case c_Grade_standing => k_is)
    (case k_Grade_standing => k_is)
    (case a__law_stands_where_one => k_is)
    (case l__law_stands_where_one => k_is)
    (case c__law_stands_where_one => k_is)
    (case k__law_stands_where_one => k_is)
    (case a_total_of => k_is)
    (case l_total_of => k_is)
    (case c_total_of => k_is)
    (case k_total_of => k_is)
    (case a_Grade_rshift => k_is)
    (case i_Grade_rshift => k_is)
    (case l_Grade_rshift => k_is)
    (case c_Grade_rshift => k_is)
    (case k_Grade_rshift => k_is)
    (case a__law_expression => k_is)
    (case l__law_expression => k_is)
    (case c__law_expression => k_is)
    (case k__law_expression => k_is)
    (case a__law_goes_over => k_is)
    (case l__law_goes_over => k_is)
    (case c__law_goes_over => k_is)
    (case k__law_goes_over => k_is)
    (case a_greatest_of => k_is)
    (case l_greatest_of => k_is)
    (case c_greatest_of => k_is)
    (case k_greatest_of => k_is)
    (case a__law_row_told => k_is)
    (case l__law_row_told => k_is)
    (case c__law_row_told => k_is)
    (case k__law_row_told => k_is)
    (case a__law_order_told => k_is)
    (case l__law_order_told => k_is)
    (case c__law_order_told => k_is)
    (case k__law_order_told => k_is)
    (case a__law_long_rows_told => k_is)
    (case l__law_long_rows_told => k_is)
    (case c__law_long_rows_told => k_is)
    (case k__law_long_rows_told => k_is)
    (case a__law_great_row => k_is)
    (case l__law_great_row => k_is)
    (case c__law_great_row => k_is)
    (case k__law_great_row => k_is)
    (case a_law => k_is)
    (case l_law => k_is)
    (case c_law => k_is)
    (case k_law => k_is)
    (case z_abs => k_is)
    (case z_bool => k_is)
    (case z_int => k_is)
    (case z_isinstance => k_is)
    (case z_len => k_is)
    (case z_list => k_is)
    (case z_max => k_is)
    (case z_min => k_is)
    (case z_range => k_is)
    (case z_tuple => k_is)
    (case q_MOST_ENTRIES => k_is)

