import PyProof.Rows.All
import Wide.All
import OpenK.AllK
import Wide.FinOn
import HandS.ForMost
import HandS.ForExc
import HandS.IsInst
import HandS.EndBits
import HandS.Wide
import HandS.Defaults
import HandS.TupAny
import HandS.Property
import KE.KCallOwn
import HandS.Conv
import HandS.Deep
import HandS.Dict
import HandS.More
import HandS.TryOnly
import HandS.SortInts
import HandS.Text
import KE.OsSortAny
import PySem.Challenge.RW_holdsitself_k01_least_form_whole
set_option Elab.async false
set_option linter.all false
set_option maxRecDepth 100000
set_option maxHeartbeats 4000000
namespace Px
open PySem PySem.Spec PyProof.Rows L2

/-! values as plain data -/
inductive D where
  | non | bl (b : Bool) | int (i : Int) | str (s : Str) | lst (l : List D) | scr (l : List D) | tup (l : List D) | obj (c : Nat) (vs : List D) | dic (ks : List L2.Key) (vs : List D)

inductive Res (α : Type) where
  | ok (a : α) | err (c : Nat) (vs : List D) | bad

namespace Res
def bind {α β : Type} (m : Res α) (k : α → Res β) : Res β := match m with
  | .ok a => k a | .err c vs => .err c vs | .bad => .bad
def map {α β : Type} (f : α → β) (m : Res α) : Res β := m.bind fun a => .ok (f a)
def sat {α : Type} (m : Res α) (P : α → Prop) (E : Nat → List D → Prop) : Prop := match m with
  | .ok a => P a | .err c vs => E c vs | .bad => False
@[simp] theorem ok_bind {α β : Type} (a : α) (k : α → Res β) : (Res.ok a).bind k = k a := id rfl
@[simp] theorem err_bind {α β : Type} (c : Nat) (vs : List D) (k : α → Res β) : (Res.err c vs : Res α).bind k = .err c vs := id rfl
@[simp] theorem bad_bind {α β : Type} (k : α → Res β) : (Res.bad : Res α).bind k = .bad := id rfl
theorem sat_bind {α β : Type} {m : Res α} {k : α → Res β} {P : β → Prop} {E : Nat → List D → Prop} (h : (m.bind k).sat P E) : m.sat (fun a => (k a).sat P E) E := by
  cases m with
  | ok a => exact h
  | err c vs => exact h
  | bad => exact h
theorem sat.mono {α : Type} {m : Res α} {P P' : α → Prop} {E E' : Nat → List D → Prop} (h : m.sat P E) (p : ∀ a, P a → P' a) (e : ∀ c vs, E c vs → E' c vs) : m.sat P' E' := by
  cases m with
  | ok a => exact p a h
  | err c vs => exact e c vs h
  | bad => exact h
end Res

structure Kt where
  K : PySem.W.Frag
  ca : Nat → Option Addr
  at_ : Nat → List Str
  sub : Nat → Nat → Bool
  xa : Nat → Option Addr
  xt : Nat → List Str

mutual
inductive Rep (T : Kt) (G : Hp) : V → D → Prop
  | non : Rep T G .non .non
  | bl (b : Bool) : Rep T G (.bl b) (.bl b)
  | int (i : Int) : Rep T G (.int i) (.int i)
  | str (s : Str) : Rep T G (.str s) (.str s)
  | lst {a : Addr} {vs : List V} {ds : List D} : G a = some (.lst vs) → Reps T G vs ds → Rep T G (.ref a) (.lst ds)
  | scr {a : Addr} {vs : List V} {ds : List D} : SqL T.K G a vs → Reps T G vs ds → Rep T G (.ref a) (.scr ds)
  | tup {a : Addr} {vs : List V} {ds : List D} : SqT T.K G a vs → Reps T G vs ds → Rep T G (.ref a) (.tup ds)
  | obj {a C dx : Addr} {c : Nat} {ns : List Str} {vs : List V} {ds : List D} : T.ca c = some C → G a = some (.ins C dx (ns.zip vs)) → ns = T.at_ c → ns.length = vs.length → Reps T G vs ds → Rep T G (.ref a) (.obj c ds)
  | dic {a : Addr} {ks : List L2.Key} {vs : List V} {ds : List D} : G a = some (.dK (ks.zip vs)) → ks.length = ds.length → Reps T G vs ds → Rep T G (.ref a) (.dic ks ds)
inductive Reps (T : Kt) (G : Hp) : List V → List D → Prop
  | nil : Reps T G [] []
  | cons {v : V} {vs : List V} {d : D} {ds : List D} : Rep T G v d → Reps T G vs ds → Reps T G (v :: vs) (d :: ds)
end

theorem sqT_same {K : PySem.W.Frag} {H H' : Hp} {a : Addr} {xs : List V} (e : Same H H') (h : SqT K H a xs) : SqT K H' a xs := by
  rcases h with (h | ⟨o, h⟩) | h
  · exact .inl (.inl (e _ _ h))
  · exact .inl (.inr ⟨o, e _ _ h⟩)
  · exact .inr h

section
variable {T : Kt} {G G' : Hp}
mutual
theorem Rep.mono (h : Same G G') : ∀ {v : V} {d : D}, Rep T G v d → Rep T G' v d
  | _, _, .non => .non
  | _, _, .bl b => .bl b
  | _, _, .int i => .int i
  | _, _, .str s => .str s
  | _, _, .lst q r => .lst (h _ _ q) (r.mono h)
  | _, _, .scr q r => .scr (h.seq q) (r.mono h)
  | _, _, .tup q r => .tup (sqT_same h q) (r.mono h)
  | _, _, .obj a b c d r => .obj a (h _ _ b) c d (r.mono h)
  | _, _, .dic b c r => .dic (h _ _ b) c (r.mono h)
theorem Reps.mono (h : Same G G') : ∀ {vs : List V} {ds : List D}, Reps T G vs ds → Reps T G' vs ds
  | _, _, .nil => .nil
  | _, _, .cons a r => .cons (a.mono h) (r.mono h)
end
theorem Reps.length : ∀ {vs : List V} {ds : List D}, Reps T G vs ds → vs.length = ds.length
  | _, _, .nil => rfl
  | _, _, .cons _ r => congrArg (· + 1) r.length
theorem Reps.get : ∀ {vs : List V} {ds : List D} {i : Nat} {d : D}, Reps T G vs ds → ds[i]? = some d → ∃ v, vs[i]? = some v ∧ Rep T G v d
  | _, _, _, _, .nil, e => by simp at e
  | _, _, 0, _, .cons a r, e => by simp at e; subst e; exact ⟨_, rfl, a⟩
  | _, _, i + 1, _, .cons a r, e => by
    obtain ⟨v, h1, h2⟩ := Reps.get (i := i) r (by simpa using e)
    exact ⟨v, by simpa using h1, h2⟩
theorem Reps.getV : ∀ {vs : List V} {ds : List D} {i : Nat} {v : V}, Reps T G vs ds → vs[i]? = some v → ∃ d, ds[i]? = some d ∧ Rep T G v d
  | _, _, _, _, .nil, e => by simp at e
  | _, _, 0, _, .cons a r, e => by simp at e; subst e; exact ⟨_, rfl, a⟩
  | _, _, i + 1, _, .cons a r, e => by
    obtain ⟨v, h1, h2⟩ := Reps.getV (i := i) r (by simpa using e)
    exact ⟨v, by simpa using h1, h2⟩
theorem Reps.append : ∀ {vs ws : List V} {ds es : List D}, Reps T G vs ds → Reps T G ws es → Reps T G (vs ++ ws) (ds ++ es)
  | _, _, _, _, .nil, s => s
  | _, _, _, _, .cons a r, s => .cons a (r.append s)
theorem Reps.take : ∀ {vs : List V} {ds : List D} (n : Nat), Reps T G vs ds → Reps T G (vs.take n) (ds.take n)
  | _, _, 0, _ => .nil
  | _, _, _ + 1, .nil => .nil
  | _, _, n + 1, .cons a r => .cons a (Reps.take n r)
theorem Reps.drop : ∀ {vs : List V} {ds : List D} (n : Nat), Reps T G vs ds → Reps T G (vs.drop n) (ds.drop n)
  | _, _, 0, r => r
  | _, _, _ + 1, .nil => .nil
  | _, _, n + 1, .cons a r => Reps.drop n r
theorem Reps.set {v : V} {d : D} (a : Rep T G v d) : ∀ {vs : List V} {ds : List D} (n : Nat), Reps T G vs ds → Reps T G (vs.set n v) (ds.set n d)
  | _, _, _, .nil => .nil
  | _, _, 0, .cons b r => .cons a r
  | _, _, n + 1, .cons b r => .cons b (Reps.set a n r)
theorem Reps.ints : ∀ (ns : List Int), Reps T G (ns.map V.int) (ns.map D.int)
  | [] => .nil
  | n :: r => .cons (.int n) (Reps.ints r)
end

/-! frames: G is what stands fast within H -/
structure Fr (G H G' H' : Hp) : Prop where
  h : Same H H'
  g : Same G G'
  s : Same G' H'
  n : ∀ a o, G' a = some o → G a = some o ∨ H a = none
theorem Fr.refl {G H : Hp} (s : Same G H) : Fr G H G H := ⟨Same.refl _, Same.refl _, s, fun _ _ h => .inl h⟩
theorem Fr.trans {G H G1 H1 G2 H2 : Hp} (a : Fr G H G1 H1) (b : Fr G1 H1 G2 H2) : Fr G H G2 H2 :=
  ⟨a.h.trans b.h, a.g.trans b.g, b.s, fun c o e => by
    rcases b.n c o e with q | q
    · exact a.n c o q
    · exact .inr (a.h.free q)⟩
theorem same_upd {H : Hp} {p : Addr} {o : HO} (h : H p = none) : Same H (upd H p o) := fun b x e => by
  rw [upd_ne (ne_of_none e h)]
  exact e
theorem none_of_same {G H : Hp} (s : Same G H) {p : Addr} (h : H p = none) : G p = none := s.free h
/-- a new object, standing fast -/
theorem Fr.new {G H : Hp} (s : Same G H) {p : Addr} {o : HO} (h : H p = none) : Fr G H (upd G p o) (upd H p o) where
  h := same_upd h
  g := same_upd (s.free h)
  s := fun b x e => by
    by_cases q : b = p
    · subst q; rw [upd_same] at e ⊢; exact e
    · rw [upd_ne q] at e ⊢; exact s _ _ e
  n := fun b x e => by
    by_cases q : b = p
    · subst q; exact .inr h
    · rw [upd_ne q] at e; exact .inl e
/-- a new object that does not stand fast -/
theorem Fr.newH {G H : Hp} (s : Same G H) {p : Addr} {o : HO} (h : H p = none) : Fr G H G (upd H p o) where
  h := same_upd h
  g := Same.refl _
  s := s.trans (same_upd h)
  n := fun b x e => .inl e

/-! what the slots hold -/
inductive Cell where
  | val (d : D) | own (ds : List D) | ins (a : Addr) (c : Nat) (ds : List D) | dio (ks : List L2.Key) (ds : List D)
abbrev Env' := List (Option Cell)

def CRep (T : Kt) (H0 G H : Hp) (v : V) : Cell → Prop
  | .val d => Rep T G v d
  | .own ds => ∃ a vs, v = .ref a ∧ H a = some (.lst vs) ∧ G a = none ∧ H0 a = none ∧ Reps T G vs ds
  | .ins a c ds => ∃ C dx vs, v = .ref a ∧ T.ca c = some C ∧ H a = some (.ins C dx (((T.at_ c).take ds.length).zip vs)) ∧ ds.length ≤ (T.at_ c).length ∧ G a = none ∧ H0 a = none ∧ Reps T G vs ds
  | .dio ks ds => ∃ a vs, v = .ref a ∧ H a = some (.dK (ks.zip vs)) ∧ G a = none ∧ H0 a = none ∧ Reps T G vs ds ∧ ks.length = ds.length
def Cell.isVal : Cell → Bool
  | .val _ => true
  | _ => false

structure Mat (T : Kt) (H0 : Hp) (σ : L2.St) (H G : Hp) (env : Env') : Prop where
  gh : Same G H
  len : env.length = σ.length
  sl : ∀ (i : Nat) (c : Cell), env[i]? = some (some c) → ∃ v, σ[i]? = some (some v) ∧ CRep T H0 G H v c
  dj : ∀ (i j : Nat) (c d : Cell) (a : Addr), env[i]? = some (some c) → env[j]? = some (some d) → c.isVal = false → d.isVal = false → σ[i]? = some (some (.ref a)) → σ[j]? = some (some (.ref a)) → i = j

theorem CRep.fr {T : Kt} {H0 G H G' H' : Hp} {v : V} {c : Cell} (f : Fr G H G' H') (h : CRep T H0 G H v c) : CRep T H0 G' H' v c := by
  cases c with
  | val d => exact Rep.mono f.g h
  | own ds =>
    obtain ⟨a, vs, e, h1, h2, h3, h4⟩ := h
    refine ⟨a, vs, e, f.h _ _ h1, ?_, h3, h4.mono f.g⟩
    cases q : G' a with
    | none => rfl
    | some o =>
      rcases f.n a o q with z | z
      · rw [h2] at z; cases z
      · rw [h1] at z; cases z
  | ins a c ds =>
    obtain ⟨C, dx, vs, e, hc, h1, hl, h2, h3, h4⟩ := h
    refine ⟨C, dx, vs, e, hc, f.h _ _ h1, hl, ?_, h3, h4.mono f.g⟩
    cases q : G' a with
    | none => rfl
    | some o =>
      rcases f.n a o q with z | z
      · rw [h2] at z; cases z
      · rw [h1] at z; cases z
  | dio ks ds =>
    obtain ⟨a, vs, e, h1, h2, h3, h4, h5⟩ := h
    refine ⟨a, vs, e, f.h _ _ h1, ?_, h3, h4.mono f.g, h5⟩
    cases q : G' a with
    | none => rfl
    | some o =>
      rcases f.n a o q with z | z
      · rw [h2] at z; cases z
      · rw [h1] at z; cases z
theorem Mat.fr {T : Kt} {H0 : Hp} {σ : L2.St} {H G H' G' : Hp} {env : Env'} (m : Mat T H0 σ H G env) (f : Fr G H G' H') : Mat T H0 σ H' G' env :=
  ⟨f.s, m.len, fun i c e => let ⟨v, h1, h2⟩ := m.sl i c e; ⟨v, h1, h2.fr f⟩, m.dj⟩
/-- a slot gets a value -/
theorem Mat.setv {T : Kt} {H0 : Hp} {σ : L2.St} {H G : Hp} {env : Env'} (m : Mat T H0 σ H G env) {v : V} {d : D} (r : Rep T G v d) (i : Nat) : Mat T H0 (σ.set i (some v)) H G (env.set i (some (.val d))) := by
  refine ⟨m.gh, by simp [m.len], fun j c e => ?_, fun j k c d' a e1 e2 n1 n2 s1 s2 => ?_⟩
  · by_cases q : i = j
    · subst q
      have hl : i < env.length := by
        rcases Nat.lt_or_ge i env.length with z | z
        · exact z
        · rw [List.getElem?_eq_none (by simpa using z)] at e; cases e
      rw [List.getElem?_set_self hl] at e
      cases e
      exact ⟨v, by rw [List.getElem?_set_self (by rw [← m.len]; exact hl)], r⟩
    · rw [List.getElem?_set_ne q] at e
      rw [List.getElem?_set_ne q]
      exact m.sl j c e
  · have ne : ∀ (j : Nat) (c : Cell), (env.set i (some (.val d)))[j]? = some (some c) → c.isVal = false → i ≠ j := fun j c e n z => by
      subst z
      have hl : i < env.length := by
        rcases Nat.lt_or_ge i env.length with z | z
        · exact z
        · rw [List.getElem?_eq_none (by simpa using z)] at e; cases e
      rw [List.getElem?_set_self hl] at e
      cases e; cases n
    have nj := ne j c e1 n1
    have nk := ne k d' e2 n2
    rw [List.getElem?_set_ne nj] at e1 s1
    rw [List.getElem?_set_ne nk] at e2 s2
    exact m.dj j k c d' a e1 e2 n1 n2 s1 s2
/-- forget slots -/
theorem Mat.weak {T : Kt} {H0 : Hp} {σ : L2.St} {H G : Hp} {env env' : Env'} (m : Mat T H0 σ H G env) (hl : env'.length = env.length) (h : ∀ (i : Nat) (c : Cell), env'[i]? = some (some c) → env[i]? = some (some c)) : Mat T H0 σ H G env' :=
  ⟨m.gh, by rw [hl, m.len], fun i c e => m.sl i c (h i c e), fun i j c d a e1 e2 => m.dj i j c d a (h i c e1) (h j d e2)⟩
end Px

namespace Px
open PySem PySem.Spec PyProof.Rows L2

def Res.ofO {α : Type} : Option α → Res α
  | some a => .ok a
  | none => .bad
@[simp] theorem Res.ofO_some {α : Type} (a : α) : Res.ofO (some a) = .ok a := id rfl
@[simp] theorem Res.ofO_none {α : Type} : (Res.ofO none : Res α) = .bad := id rfl

/-! what is wanted -/
def EX (T : Kt) (W : XK) (G H : Hp) : Nat → List D → Prop := fun c vs => ∀ C dd ns ws H' G', T.xa c = some C → ns = T.xt c → ns.length = ws.length → Fr G H G' H' → H' dd = some (.xd (ns.zip ws)) → Reps T G' ws vs → W (.ref C) (some dd) H'
def PQ (T : Kt) (G H : Hp) (Q : VK) : D → Prop := fun d => ∀ v H' G', Fr G H G' H' → Rep T G' v d → Q v H'
def PB (G H : Hp) (Q : Bool → Hp → Prop) : Bool → Prop := fun b => ∀ H' G', Fr G H G' H' → Q b H'
def PL (T : Kt) (G H : Hp) (Q : List V → Hp → Prop) : List D → Prop := fun ds => ∀ vs H' G', Fr G H G' H' → Reps T G' vs ds → Q vs H'
theorem EX.fr {T : Kt} {W : XK} {G H G1 H1 : Hp} (f : Fr G H G1 H1) {c : Nat} {vs : List D} (h : EX T W G H c vs) : EX T W G1 H1 c vs := fun C dd ns ws H' G' h1 h2 h3 f' => h C dd ns ws H' G' h1 h2 h3 (f.trans f')
theorem PQ.fr {T : Kt} {Q : VK} {G H G1 H1 : Hp} (f : Fr G H G1 H1) {d : D} (h : PQ T G H Q d) : PQ T G1 H1 Q d := fun v H' G' f' => h v H' G' (f.trans f')
theorem PB.fr {Q : Bool → Hp → Prop} {G H G1 H1 : Hp} (f : Fr G H G1 H1) {d : Bool} (h : PB G H Q d) : PB G1 H1 Q d := fun H' G' f' => h H' G' (f.trans f')
theorem PL.fr {T : Kt} {Q : List V → Hp → Prop} {G H G1 H1 : Hp} (f : Fr G H G1 H1) {d : List D} (h : PL T G H Q d) : PL T G1 H1 Q d := fun v H' G' f' => h v H' G' (f.trans f')

/-- a reading computes m wherever the slots are env -/
def SE (T : Kt) (W : WX) (te : TE) (env : Env') (m : Res D) : Prop := ∀ H0 σ H G, Mat T H0 σ H G env → ∀ Q : VK, m.sat (PQ T G H Q) (EX T (WE W σ) G H) → te σ H Q
def ST (T : Kt) (W : WX) (te : TT) (env : Env') (m : Res Bool) : Prop := ∀ H0 σ H G, Mat T H0 σ H G env → ∀ Q : Bool → Hp → Prop, m.sat (PB G H Q) (EX T (WE W σ) G H) → te σ H Q
def SA (T : Kt) (W : WX) (te : TA) (env : Env') (m : Res (List D)) : Prop := ∀ H0 σ H G, Mat T H0 σ H G env → ∀ Q : List V → Hp → Prop, m.sat (PL T G H Q) (EX T (WE W σ) G H) → te σ H Q

structure PX (X : Cx) (T : Kt) (W : WX) (e : Expr) (env : Env') (m : Res D) : Prop where
  ex : ∃ t, PE X e t ∧ SE T W t env m
structure PTX (X : Cx) (T : Kt) (W : WX) (e : Expr) (env : Env') (m : Res Bool) : Prop where
  ex : ∃ t, PT X e t ∧ ST T W t env m
structure PWX (X : Cx) (T : Kt) (W : WX) (e : Expr) (env : Env') (m : Res Bool) : Prop where
  ex : ∃ t, PW X e t ∧ ST T W t env m
structure PAX (X : Cx) (T : Kt) (W : WX) (es : List Expr) (env : Env') (m : Res (List D)) : Prop where
  ex : ∃ t, PA X es t ∧ SA T W t env m

/-- the context -/
structure Ctx (X : Cx) (T : Kt) (W : WX) (k : Nat) : Prop where
  calm : X.calm = true
  nd : X.N.Nodup
  kk : X.K = T.K
  pass : ∀ σ, PassesAt (L2.CX X.prog X.w) X σ (WE W σ)
  room : Room k X.A
  po : PassesOwn (model X.prog X.w) X.A X.env X.xe

/-! two-place operations by data -/
def OpD (T : Kt) (r : R2) (f : D → D → Option D) : Prop := ∀ x y d e G H (Q : VK), Same G H → Rep T G x d → Rep T G y e → ∀ z, f d e = some z → PQ T G H Q z → r x y H Q
def op2 (f : D → D → Option D) (ma mb : Res D) : Res D := ma.bind fun a => mb.bind fun b => .ofO (f a b)
@[simp] theorem op2_ok (f : D → D → Option D) (a b : D) : op2 f (.ok a) (.ok b) = .ofO (f a b) := id rfl
theorem OpD.or {T : Kt} {r r' : R2} {f g : D → D → Option D} (h : OpD T r f) (h' : OpD T r' g) : OpD T (fun x y H Q => r x y H Q ∨ r' x y H Q) (fun a b => (f a b).orElse fun _ => g a b) := by
  intro x y d e G H Q s rx ry z hz q
  cases hf : f d e with
  | some w =>
    have e1 : w = z := by simpa [hf] using hz
    exact .inl (h x y d e G H Q s rx ry z (by rw [hf, e1]) q)
  | none =>
    have e1 : g d e = some z := by simpa [hf] using hz
    exact .inr (h' x y d e G H Q s rx ry z e1 q)
theorem OpR.or {X : Cx} {f : Value → Value → Sem Value} {r r' : R2} (h : OpR X f r) (h' : OpR X f r') : OpR X f (fun x y H Q => r x y H Q ∨ r' x y H Q) := by
  intro pins s σ H x y v u Q I rx ry q
  rcases q with q | q
  · exact h pins s σ H x y v u Q I rx ry q
  · exact h' pins s σ H x y v u Q I rx ry q

section
variable {X : Cx} {T : Kt} {W : WX} {k : Nat} {env : Env'} {a b c e o : Expr} {es : List Expr} {ma mb mc m : Res D} {pos : Pos}

theorem SE.op {ta tb : TE} {r : R2} {f : D → D → Option D} (hd : OpD T r f) (ha : SE T W ta env ma) (hb : SE T W tb env mb) : SE T W (tOp r ta tb) env (op2 f ma mb) := by
  intro H0 σ H G M Q h
  refine ha H0 σ H G M _ ((Res.sat_bind h).mono (fun x hx v1 H1 G1 f1 r1 => ?_) fun _ _ z => z)
  refine hb H0 σ H1 G1 (M.fr f1) _ ((Res.sat_bind hx).mono (fun y hy v2 H2 G2 f2 r2 => ?_) fun _ _ z => z.fr f1)
  cases hf : f x y with
  | none => rw [hf] at hy; exact hy.elim
  | some w =>
    rw [hf] at hy
    exact hd _ _ x y G2 H2 Q f2.s (r1.mono f2.g) r2 w hf ((PQ.fr f1 hy).fr f2)

theorem px_op {op : Operator} {r : R2} {f : D → D → Option D} (ho : OpR X (binaryOp op) r) (hd : OpD T r f) (ha : PX X T W a env ma) (hb : PX X T W b env mb) : PX X T W (.BinOp a op b pos) env (op2 f ma mb) := by
  obtain ⟨ta, pa, sa⟩ := ha.ex
  obtain ⟨tb, pb, sb⟩ := hb.ex
  exact ⟨_, pe_op ho pa pb, SE.op hd sa sb⟩
theorem px_cmpR {op : CmpOp} {r : R2} {f : D → D → Option D} (ho : OpR X (compareOp op) r) (hd : OpD T r f) (ha : PX X T W a env ma) (hb : PX X T W b env mb) (hm : behindInMarks op b = false) : PX X T W (.Compare a [op] [b] pos) env (op2 f ma mb) := by
  obtain ⟨ta, pa, sa⟩ := ha.ex
  obtain ⟨tb, pb, sb⟩ := hb.ex
  exact ⟨_, pe_cmpR ho pa pb hm, SE.op hd sa sb⟩
theorem px_ix {r : R2} {f : D → D → Option D} (ho : IxR X r) (hd : OpD T r f) (ha : PX X T W a env ma) (hb : PX X T W b env mb) (hs : PlainIx b) : PX X T W (.Subscript a b pos) env (op2 f ma mb) := by
  obtain ⟨ta, pa, sa⟩ := ha.ex
  obtain ⟨tb, pb, sb⟩ := hb.ex
  exact ⟨_, pe_ix ho pa pb hs, SE.op hd sa sb⟩

/-! names, constants -/
theorem px_v (i : Nat) {x : Str} {d : D} (he : env[i]? = some (some (.val d))) (hN : X.N[i]? = some x) (hv : Vis X.env.scope x) (hd : (x == ("__debug__" : Str)) = false) (hcd : (x == ("__classdict__" : Str)) = false) : PX X T W (.Name x pos) env (.ok d) := by
  refine ⟨_, pe_var (i := i) hN hv hd hcd, fun H0 σ H G M Q h => ?_⟩
  obtain ⟨v, h1, h2⟩ := M.sl i _ he
  exact ⟨v, h1, h v H G (Fr.refl M.gh) h2⟩
theorem SE.const {v : V} {d : D} (r : ∀ G, Rep T G v d) : SE T W (tC v) env (.ok d) := fun H0 σ H G M Q h => h v H G (Fr.refl M.gh) (r G)
theorem px_int {i : Int} {j pos} : PX X T W (.Constant (.int i) j pos) env (.ok (.int i)) := ⟨_, pe_int, SE.const fun _ => .int i⟩
theorem px_bl {i : Bool} {j pos} : PX X T W (.Constant (.bool i) j pos) env (.ok (.bl i)) := ⟨_, pe_bl, SE.const fun _ => .bl i⟩
theorem px_non {j pos} : PX X T W (.Constant .none j pos) env (.ok .non) := ⟨_, pe_non, SE.const fun _ => .non⟩
theorem px_str {s : Str} {j pos} : PX X T W (.Constant (.str s) j pos) env (.ok (.str s)) := ⟨_, pe_str, SE.const fun _ => .str s⟩
/-- a module's constant -/
theorem px_glob {x : Str} {v : V} {u : Value} {d : D} (hg : Gl X x) (hm : X.mg x = some u) (r : RelV v u) (rd : ∀ G, Rep T G v d) (hd : (x == ("__debug__" : Str)) = false) : PX X T W (.Name x pos) env (.ok d) := ⟨_, pe_glob hg hm r hd, SE.const rd⟩

/-! unary -/
def UnD (T : Kt) (r : V → Hp → VK → Prop) (f : D → Option D) : Prop := ∀ x d G H (Q : VK), Same G H → Rep T G x d → ∀ z, f d = some z → PQ T G H Q z → r x H Q
def op1 (f : D → Option D) (ma : Res D) : Res D := ma.bind fun a => .ofO (f a)
@[simp] theorem op1_ok (f : D → Option D) (a : D) : op1 f (.ok a) = .ofO (f a) := id rfl
theorem SE.un {ta : TE} {r : V → Hp → VK → Prop} {f : D → Option D} (hd : UnD T r f) (ha : SE T W ta env ma) : SE T W (tUn r ta) env (op1 f ma) := by
  intro H0 σ H G M Q h
  refine ha H0 σ H G M _ ((Res.sat_bind h).mono (fun x hx v1 H1 G1 f1 r1 => ?_) fun _ _ z => z)
  cases hf : f x with
  | none => rw [hf] at hx; exact hx.elim
  | some w =>
    rw [hf] at hx
    exact hd _ x G1 H1 Q f1.s r1 w hf (PQ.fr f1 hx)
theorem px_un {op : UnaryOp} {r : V → Hp → VK → Prop} {f : D → Option D} (ho : UnR X (unaryOp op) r) (hd : UnD T r f) (ha : PX X T W a env ma) : PX X T W (.UnaryOp op a pos) env (op1 f ma) := by
  obtain ⟨ta, pa, sa⟩ := ha.ex
  exact ⟨_, pe_un ho pa, SE.un hd sa⟩

/-! argument lists -/
def consR (ma : Res D) (ms : Res (List D)) : Res (List D) := ma.bind fun a => ms.bind fun l => .ok (a :: l)
@[simp] theorem consR_ok (a : D) (l : List D) : consR (.ok a) (.ok l) = .ok (a :: l) := id rfl
theorem pax_nil : PAX X T W [] env (.ok []) := ⟨_, pa_nil, fun H0 σ H G M Q h => h [] H G (Fr.refl M.gh) .nil⟩
theorem pax_cons {ms : Res (List D)} (he : PX X T W e env ma) (hr : PAX X T W es env ms) (hs : starEach (e :: es) X.env = (false, eval e X.env) :: starEach es X.env := by rfl) : PAX X T W (e :: es) env (consR ma ms) := by
  obtain ⟨ta, pa, sa⟩ := he.ex
  obtain ⟨tr, pr, sr⟩ := hr.ex
  refine ⟨_, pa_cons pa pr hs, fun H0 σ H G M Q h => ?_⟩
  refine sa H0 σ H G M _ ((Res.sat_bind h).mono (fun x hx v1 H1 G1 f1 r1 => ?_) fun _ _ z => z)
  refine sr H0 σ H1 G1 (M.fr f1) _ ((Res.sat_bind hx).mono (fun l hl vs H2 G2 f2 r2 => ?_) fun _ _ z => z.fr f1)
  exact hl (v1 :: vs) H2 G2 (f1.trans f2) (.cons (r1.mono f2.g) r2)

/-! displays -/
def lstR (ms : Res (List D)) : Res D := ms.bind fun l => if l.length ≤ sizeLine then .ok (.lst l) else .bad
def tupR (ms : Res (List D)) : Res D := ms.bind fun l => if l.length ≤ sizeLine then .ok (.tup l) else .bad
theorem px_lst {ms : Res (List D)} (h : PAX X T W es env ms) : PX X T W (.List es pos) env (lstR ms) := by
  obtain ⟨t, p, s⟩ := h.ex
  refine ⟨_, pe_lst p, fun H0 σ H G M Q h => ?_⟩
  refine s H0 σ H G M _ ((Res.sat_bind h).mono (fun l hl vs H1 G1 f1 r1 => ?_) fun _ _ z => z)
  by_cases hz : l.length ≤ sizeLine
  · rw [if_pos hz] at hl
    refine ⟨by rw [r1.length]; exact hz, fun q nq => hl _ _ _ (f1.trans (Fr.new f1.s nq)) (.lst upd_same (r1.mono (same_upd (f1.s.free nq))))⟩
  · rw [if_neg hz] at hl; exact hl.elim
theorem px_tup {ms : Res (List D)} {x1} (h : PAX X T W es env ms) : PX X T W (.Tuple es x1 pos) env (tupR ms) := by
  obtain ⟨t, p, s⟩ := h.ex
  refine ⟨_, pe_tup p, fun H0 σ H G M Q h => ?_⟩
  refine s H0 σ H G M _ ((Res.sat_bind h).mono (fun l hl vs H1 G1 f1 r1 => ?_) fun _ _ z => z)
  by_cases hz : l.length ≤ sizeLine
  · rw [if_pos hz] at hl
    refine ⟨by rw [r1.length]; exact hz, fun q nq => hl _ _ _ (f1.trans (Fr.new f1.s nq)) (.tup (SqT.of upd_same) (r1.mono (same_upd (f1.s.free nq))))⟩
  · rw [if_neg hz] at hl; exact hl.elim

/-! calls of what is built in -/
def CallD (T : Kt) (r : List V → Hp → VK → Prop) (f : List D → Option D) : Prop := ∀ xs ds G H (Q : VK), Same G H → Reps T G xs ds → ∀ z, f ds = some z → PQ T G H Q z → r xs H Q
def callO (f : List D → Option D) (ms : Res (List D)) : Res D := ms.bind fun l => .ofO (f l)
@[simp] theorem callO_ok (f : List D → Option D) (l : List D) : callO f (.ok l) = .ofO (f l) := id rfl
theorem SE.cb {ta : TA} {ms : Res (List D)} {r : List V → Hp → VK → Prop} {f : List D → Option D} (hd : CallD T r f) (ha : SA T W ta env ms) : SE T W (tCB r ta) env (callO f ms) := by
  intro H0 σ H G M Q h
  refine ha H0 σ H G M _ ((Res.sat_bind h).mono (fun x hx v1 H1 G1 f1 r1 => ?_) fun _ _ z => z)
  cases hf : f x with
  | none => rw [hf] at hx; exact hx.elim
  | some w =>
    rw [hf] at hx
    exact hd _ x G1 H1 Q f1.s r1 w hf (PQ.fr f1 hx)
theorem CallD.or {r r' : List V → Hp → VK → Prop} {f g : List D → Option D} (h : CallD T r f) (h' : CallD T r' g) : CallD T (fun x H Q => r x H Q ∨ r' x H Q) (fun a => (f a).orElse fun _ => g a) := by
  intro x d G H Q s rx z hz q
  cases hf : f d with
  | some w =>
    have e1 : w = z := by simpa [hf] using hz
    exact .inl (h x d G H Q s rx z (by rw [hf, e1]) q)
  | none =>
    have e1 : g d = some z := by simpa [hf] using hz
    exact .inr (h' x d G H Q s rx z e1 q)
theorem CallR.or {f : Value} {r r' : List V → Hp → VK → Prop} (h : CallR X f r) (h' : CallR X f r') : CallR X f (fun x H Q => r x H Q ∨ r' x H Q) := by
  intro pins s σ H x u Q I rx q
  rcases q with q | q
  · exact h pins s σ H x u Q I rx q
  · exact h' pins s σ H x u Q I rx q
theorem px_callB {x : Str} {id : String} {p : Pos} {ms : Res (List D)} {r : List V → Hp → VK → Prop} {f : List D → Option D} (hc : CallR X (.builtin id) r) (hd : CallD T r f) (hg : Gl X x) (hm : X.mg x = none) (hv : bootBuiltins x = some (.builtin id)) (ha : PAX X T W (e :: es) env ms)
    (hn : x ≠ "__name__" := by decide) (hdb : (x == ("__debug__" : Str)) = false := by decide) (he : starEach (e :: es) X.env = (false, eval e X.env) :: starEach es X.env := by rfl) (hpl : (backTo pos (starEach es X.env)).any (·.1) = false := by rfl) :
    PX X T W (.Call (.Name x p) (e :: es) [] pos) env (callO f ms) := by
  obtain ⟨t, pa, sa⟩ := ha.ex
  exact ⟨_, pe_callB hc hg hm hv pa hn hdb he hpl, SE.cb hd sa⟩
theorem px_callTy {x : Str} {id : String} {p : Pos} {ms : Res (List D)} {r : List V → Hp → VK → Prop} {f : List D → Option D} (hc : CallR X (.type id) r) (hd : CallD T r f) (hg : Gl X x) (hm : X.mg x = none) (hv : bootBuiltins x = some (.type id)) (ha : PAX X T W (e :: es) env ms)
    (hn : x ≠ "__name__" := by decide) (hdb : (x == ("__debug__" : Str)) = false := by decide) (he : starEach (e :: es) X.env = (false, eval e X.env) :: starEach es X.env := by rfl) (hpl : (backTo pos (starEach es X.env)).any (·.1) = false := by rfl) :
    PX X T W (.Call (.Name x p) (e :: es) [] pos) env (callO f ms) := by
  obtain ⟨t, pa, sa⟩ := ha.ex
  exact ⟨_, pe_callTy hc hg hm hv pa hn hdb he hpl, SE.cb hd sa⟩
end
end Px

namespace Px
open PySem PySem.Spec PyProof.Rows L2

/-! ### operators by data -/
def addD : D → D → Option D
  | .int i, .int j => some (.int (i + j))
  | .lst a, .lst b => if a.length + b.length ≤ sizeLine then some (.lst (a ++ b)) else none
  | .tup a, .tup b => if a ≠ [] ∧ b ≠ [] ∧ a.length + b.length ≤ sizeLine then some (.tup (a ++ b)) else none
  | .str a, .str b => if a.length + b.length ≤ sizeLine then some (.str (a ++ b)) else none
  | _, _ => none
def subD : D → D → Option D
  | .int i, .int j => some (.int (i - j))
  | _, _ => none
def mulOK (i j : Int) : Bool := decide (i.natAbs.log2 + j.natAbs.log2 < 100000000)
def mulD : D → D → Option D
  | .int i, .int j => if mulOK i j then some (.int (i * j)) else none
  | _, _ => none
def modD : D → D → Option D
  | .int i, .int j => if j ≠ 0 then some (.int (i.fmod j)) else none
  | _, _ => none
def divD : D → D → Option D
  | .int i, .int j => if 0 < j ∧ j.natAbs.log2 < 9000 then some (.int (i / j)) else none
  | _, _ => none
def powD : D → D → Option D
  | .int i, .int j => if 0 ≤ j ∧ j ≤ 1000000 ∧ i.natAbs < 2 ^ 64 then some (.int (i ^ j.toNat)) else none
  | _, _ => none
def repD : D → D → Option D
  | .lst a, .int k => if -(2 ^ 63) ≤ k ∧ k < 2 ^ 63 ∧ a.length * k.toNat ≤ sizeLine then some (.lst (List.replicate k.toNat a).flatten) else none
  | x, y => mulD x y
def toInts : List D → Option (List Int)
  | [] => some []
  | .int i :: r => match toInts r with
    | some l => some (i :: l)
    | none => none
  | _ => none
def ltD : D → D → Option D
  | .int i, .int j => some (.bl (decide (i < j)))
  | .tup a, .tup b => match toInts a, toInts b with
    | some ns, some ms => some (.bl (HT.lexLt ns ms))
    | _, _ => none
  | _, _ => none
def leD : D → D → Option D
  | .int i, .int j => some (.bl (decide (i ≤ j)))
  | _, _ => none
def gtD : D → D → Option D
  | .int i, .int j => some (.bl (decide (j < i)))
  | _, _ => none
def geD : D → D → Option D
  | .int i, .int j => some (.bl (decide (j ≤ i)))
  | _, _ => none
def D.isNon : D → Bool
  | .non => true
  | _ => false
def isND (a b : D) : Option D := if b.isNon then some (.bl a.isNon) else none
def notND (a b : D) : Option D := if b.isNon then some (.bl !a.isNon) else none
def negD : D → Option D
  | .int i => some (.int (-i))
  | _ => none
def lenD : List D → Option D
  | [.lst l] => some (.int l.length)
  | [.scr l] => some (.int l.length)
  | [.tup l] => some (.int l.length)
  | [.str s] => if s.length ≤ sizeLine then some (.int s.length) else none
  | _ => none
def intD : List D → Option D
  | [.int i] => some (.int i)
  | [.bl b] => some (.int (if b then 1 else 0))
  | _ => none
def absD : List D → Option D
  | [.int i] => some (.int (if i < 0 then -i else i))
  | _ => none
def maxD : List D → Option D
  | [.int i, .int j] => some (.int (if j > i then j else i))
  | _ => none
def minD : List D → Option D
  | [.int i, .int j] => some (.int (if j < i then j else i))
  | _ => none
def listD : List D → Option D
  | [.lst l] => some (.lst l)
  | [.scr l] => some (.lst l)
  | [.tup l] => some (.lst l)
  | _ => none
def tupleD : List D → Option D
  | [.lst l] => some (.tup l)
  | [.scr l] => some (.tup l)
  | [.tup l] => some (.tup l)
  | _ => none
def ixD : D → D → Option D
  | .lst l, .int i => atI l i
  | .scr l, .int i => atI l i
  | .tup l, .int i => atI l i
  | .str z, .int i => if z.length ≤ sizeLine then (atI z.cps.toList i).map fun c => .str ⟨#[c]⟩ else none
  | _, _ => none

theorem rep_int {T : Kt} {G : Hp} {x : V} {i : Int} (h : Rep T G x (.int i)) : x = .int i := by cases h; rfl

theorem atI_len {α β : Type} {xs : List α} {ys : List β} {i : Int} {y : β} (h : xs.length = ys.length) (e : atI ys i = some y) : ∃ j : Nat, ys[j]? = some y ∧ ∀ x, xs[j]? = some x → atI xs i = some x := by
  unfold atI at e ⊢
  rw [h]
  cases q : ixN ys.length i with
  | none => rw [q] at e; cases e
  | some j =>
    rw [q] at e
    exact ⟨j, e, fun x hx => hx⟩
theorem Reps.atI {T : Kt} {G : Hp} {vs : List V} {ds : List D} {i : Int} {d : D} (r : Reps T G vs ds) (e : L2.atI ds i = some d) : ∃ v, L2.atI vs i = some v ∧ Rep T G v d := by
  obtain ⟨j, h1, h2⟩ := atI_len (xs := vs) r.length e
  obtain ⟨v, h3, h4⟩ := r.get h1
  exact ⟨v, h2 v h3, h4⟩

section
variable {X : Cx} {T : Kt}
theorem op_mulB : OpR X (binaryOp .Mult) (rI (fun i j => mulOK i j = true) fun i j => .int (i * j)) := opI fun i j _ _ _ _ _ hc q => mul_int q (by
  have b : ∀ x : Int, Builtin.Int.intBits x ≤ x.natAbs.log2 + 1 := fun x => by
    unfold Builtin.Int.intBits
    split <;> omega
  have h3 : i.natAbs.log2 + j.natAbs.log2 < 100000000 := of_decide_eq_true hc
  exact PyProof.Rows.mulOk_of_bits (b i) (b j) (by omega))

def rAddAll (K : PySem.W.Frag) : R2 := fun x y H Q => (rI0 fun i j => .int (i + j)) x y H Q ∨ (rCat x y H Q ∨ (rCatT K x y H Q ∨ (∃ i j, x = V.str i ∧ y = V.str j ∧ i.length + j.length ≤ sizeLine ∧ Q (V.str (i ++ j)) H)))
theorem op_addAll : OpR X (binaryOp .Add) (rAddAll X.K) := OpR.or op_add (OpR.or op_cat (OpR.or op_catT op_add_str))
theorem od_add : OpD T (rAddAll T.K) addD := by
  intro x y d e G H Q s rx ry z hz q
  cases rx <;> cases ry <;> simp only [addD] at hz <;> try (cases hz; done)
  · cases hz; exact .inl ⟨_, _, rfl, rfl, q _ _ _ (Fr.refl s) (.int _)⟩
  · split at hz
    · rename_i hl; cases hz; exact .inr (.inr (.inr ⟨_, _, rfl, rfl, hl, q _ _ _ (Fr.refl s) (.str _)⟩))
    · cases hz
  · split at hz
    · rename_i a vs ds h1 r1 b ws es h2 r2 hl
      cases hz
      refine .inr (.inl ⟨_, _, _, _, rfl, rfl, s _ _ h1, s _ _ h2, by rw [r1.length, r2.length]; exact hl, fun p np => q _ _ _ (Fr.new s np) (.lst upd_same ((r1.append r2).mono (same_upd (s.free np))))⟩)
    · cases hz
  · split at hz
    · rename_i a vs ds h1 r1 b ws es h2 r2 hl
      obtain ⟨n1, n2, hl⟩ := hl
      cases hz
      have m1 : vs ≠ [] := fun z => n1 (by subst z; cases r1; rfl)
      have m2 : ws ≠ [] := fun z => n2 (by subst z; cases r2; rfl)
      refine .inr (.inr (.inl ⟨_, _, _, _, rfl, rfl, sqT_same s h1, sqT_same s h2, m1, by rw [r1.length, r2.length]; exact hl, fun z => absurd z m2, fun _ p np => q _ _ _ (Fr.new s np) (.tup (SqT.of upd_same) ((r1.append r2).mono (same_upd (s.free np))))⟩))
    · cases hz
theorem od_int {C : Int → Int → Prop} {g : Int → Int → V} {f : D → D → Option D} (h : ∀ x y z, f x y = some z → ∃ i j, x = .int i ∧ y = .int j ∧ C i j ∧ ∀ G, Rep T G (g i j) z) : OpD T (rI C g) f := by
  intro x y d e G H Q s rx ry z hz q
  obtain ⟨i, j, rfl, rfl, c, r⟩ := h _ _ _ hz
  cases rx; cases ry
  exact ⟨i, j, rfl, rfl, c, q _ _ _ (Fr.refl s) (r _)⟩
theorem od_int0 {g : Int → Int → V} {f : D → D → Option D} (h : ∀ x y z, f x y = some z → ∃ i j, x = .int i ∧ y = .int j ∧ ∀ G, Rep T G (g i j) z) : OpD T (rI0 g) f := by
  intro x y d e G H Q s rx ry z hz q
  obtain ⟨i, j, rfl, rfl, r⟩ := h _ _ _ hz
  cases rx; cases ry
  exact ⟨i, j, rfl, rfl, q _ _ _ (Fr.refl s) (r _)⟩
theorem od_sub : OpD T (rI0 fun i j => .int (i - j)) subD := od_int0 fun x y z h => by
  unfold subD at h; split at h <;> cases h; exact ⟨_, _, rfl, rfl, fun _ => .int _⟩
theorem od_mul : OpD T (rI (fun i j => mulOK i j = true) fun i j => .int (i * j)) mulD := od_int fun x y z h => by
  unfold mulD at h; split at h
  · split at h
    · cases h; exact ⟨_, _, rfl, rfl, by assumption, fun _ => .int _⟩
    · cases h
  · cases h
theorem od_mod : OpD T (rI (fun _ j => j ≠ 0) fun i j => .int (i.fmod j)) modD := od_int fun x y z h => by
  unfold modD at h; split at h
  · split at h
    · cases h; exact ⟨_, _, rfl, rfl, by assumption, fun _ => .int _⟩
    · cases h
  · cases h
theorem od_div : OpD T (rI CDivW fun i j => .int (i / j)) divD := od_int fun x y z h => by
  unfold divD at h; split at h
  · split at h
    · cases h; exact ⟨_, _, rfl, rfl, by assumption, fun _ => .int _⟩
    · cases h
  · cases h
theorem od_pow : OpD T (rI CPow fun i j => .int (i ^ j.toNat)) powD := od_int fun x y z h => by
  unfold powD at h; split at h
  · split at h
    · cases h; exact ⟨_, _, rfl, rfl, by assumption, fun _ => .int _⟩
    · cases h
  · cases h
def rMulAll : R2 := fun x y H Q => rRep x y H Q ∨ (rI (fun i j => mulOK i j = true) fun i j => .int (i * j)) x y H Q
theorem op_mulAll : OpR X (binaryOp .Mult) rMulAll := OpR.or op_rep op_mulB
theorem reps_rep {G : Hp} {vs : List V} {ds : List D} (r : Reps T G vs ds) : ∀ n, Reps T G (List.replicate n vs).flatten (List.replicate n ds).flatten
  | 0 => .nil
  | n + 1 => by
    rw [List.replicate_succ, List.replicate_succ, List.flatten_cons, List.flatten_cons]
    exact r.append (reps_rep r n)
theorem od_rep : OpD T rMulAll repD := by
  intro x y d e G H Q s rx ry z hz q
  by_cases hh : ∃ l, d = .lst l
  · obtain ⟨l, rfl⟩ := hh
    cases rx
    cases ry <;> simp only [repD, mulD] at hz <;> try (cases hz; done)
    split at hz
    · rename_i h1 r1 _ hl
      cases hz
      exact .inl ⟨_, _, _, rfl, rfl, s _ _ h1, hl.1, hl.2.1, by rw [r1.length]; exact hl.2.2, fun p np => q _ _ _ (Fr.new s np) (.lst upd_same ((reps_rep r1 _).mono (same_upd (s.free np))))⟩
    · cases hz
  · have e1 : mulD d e = some z := by
      unfold repD at hz
      split at hz
      · exact absurd ⟨_, rfl⟩ hh
      · exact hz
    exact .inr (od_mul x y d e G H Q s rx ry z e1 q)
theorem od_le : OpD T (rI0 fun i j => .bl (decide (i ≤ j))) leD := od_int0 fun x y z h => by
  unfold leD at h; split at h <;> cases h; exact ⟨_, _, rfl, rfl, fun _ => .bl _⟩
theorem od_gt : OpD T (rI0 fun i j => .bl (decide (j < i))) gtD := od_int0 fun x y z h => by
  unfold gtD at h; split at h <;> cases h; exact ⟨_, _, rfl, rfl, fun _ => .bl _⟩
theorem od_ge : OpD T (rI0 fun i j => .bl (decide (j ≤ i))) geD := od_int0 fun x y z h => by
  unfold geD at h; split at h <;> cases h; exact ⟨_, _, rfl, rfl, fun _ => .bl _⟩
def rLtAll (K : PySem.W.Frag) : R2 := fun x y H Q => (rI0 fun i j => .bl (decide (i < j))) x y H Q ∨ rLtT K x y H Q
theorem op_ltAll (hu : X.A.units < cLine) : OpR X (compareOp .Lt) (rLtAll X.K) := OpR.or op_lt (op_ltT hu)
theorem toInts_eq : ∀ {ds : List D} {ns : List Int}, toInts ds = some ns → ds = ns.map D.int
  | [], _, h => by cases h; rfl
  | .int i :: r, ns, h => by
    unfold toInts at h
    split at h
    · rename_i l hl; cases h; rw [toInts_eq hl]; rfl
    · cases h
  | .non :: _, _, h => by cases h
  | .bl _ :: _, _, h => by cases h
  | .str _ :: _, _, h => by cases h
  | .lst _ :: _, _, h => by cases h
  | .scr _ :: _, _, h => by cases h
  | .tup _ :: _, _, h => by cases h
  | .obj _ _ :: _, _, h => by cases h
  | .dic _ _ :: _, _, h => by cases h
theorem reps_ints {G : Hp} : ∀ {ns : List Int} {vs : List V}, Reps T G vs (ns.map D.int) → vs = ns.map V.int
  | [], _, r => by cases r; rfl
  | n :: ns, _, r => by
    cases r with
    | cons a r => cases a; rw [reps_ints r]; rfl
theorem od_lt : OpD T (rLtAll T.K) ltD := by
  intro x y d e G H Q s rx ry z hz q
  unfold ltD at hz
  split at hz
  · cases hz; cases rx; cases ry; exact .inl ⟨_, _, rfl, rfl, q _ _ _ (Fr.refl s) (.bl _)⟩
  · split at hz
    · rename_i ns ms h1 h2
      cases hz
      rw [toInts_eq h1] at rx
      rw [toInts_eq h2] at ry
      cases rx with
      | tup t1 r1 => cases ry with
        | tup t2 r2 =>
          rw [reps_ints r1] at t1
          rw [reps_ints r2] at t2
          exact .inr ⟨_, _, _, _, rfl, rfl, sqT_same s t1, sqT_same s t2, q _ _ _ (Fr.refl s) (.bl _)⟩
    · cases hz
  · cases hz
theorem rep_isNon {G : Hp} {x : V} {d : D} (r : Rep T G x d) : decide (x = .non) = d.isNon := by cases r <;> rfl
theorem od_isN : OpD T (fun x y H Q => y = V.non ∧ Q (V.bl (decide (x = V.non))) H) isND := by
  intro x y d e G H Q s rx ry z hz q
  unfold isND at hz
  cases e <;> simp [D.isNon] at hz
  subst hz
  cases ry
  refine ⟨rfl, q _ _ _ (Fr.refl s) ?_⟩
  have := rep_isNon rx
  rw [this]
  exact .bl _
theorem od_notN : OpD T (fun x y H Q => y = V.non ∧ Q (V.bl !decide (x = V.non)) H) notND := by
  intro x y d e G H Q s rx ry z hz q
  unfold notND at hz
  cases e <;> simp [D.isNon] at hz
  subst hz
  cases ry
  refine ⟨rfl, q _ _ _ (Fr.refl s) ?_⟩
  have := rep_isNon rx
  rw [this]
  exact .bl _
theorem ud_neg : UnD T (rU fun i => V.int (-i)) negD := by
  intro x d G H Q s rx z hz q
  cases rx <;> simp [negD] at hz
  subst hz
  exact ⟨_, rfl, q _ _ _ (Fr.refl s) (.int _)⟩
theorem reps1 {G : Hp} {xs : List V} {d : D} (r : Reps T G xs [d]) : ∃ x, xs = [x] ∧ Rep T G x d := by
  cases r with
  | cons a r => cases r; exact ⟨_, rfl, a⟩
theorem reps2 {G : Hp} {xs : List V} {d e : D} (r : Reps T G xs [d, e]) : ∃ x y, xs = [x, y] ∧ Rep T G x d ∧ Rep T G y e := by
  cases r with
  | cons a r => obtain ⟨y, rfl, b⟩ := reps1 r; exact ⟨_, _, rfl, a, b⟩
theorem cd_len : CallD T (fun xs H Q => ∃ x n, xs = [x] ∧ LenV T.K x H n ∧ Q (V.int n) H) lenD := by
  intro xs ds G H Q s r z hz q
  unfold lenD at hz
  split at hz <;> try (cases hz; done)
  · cases hz; obtain ⟨x, rfl, rr⟩ := reps1 r; cases rr with
    | lst h r => exact ⟨_, _, rfl, .inl ⟨_, SqL.of (s _ _ h), rfl⟩, by rw [r.length]; exact q _ _ _ (Fr.refl s) (.int _)⟩
  · cases hz; obtain ⟨x, rfl, rr⟩ := reps1 r; cases rr with
    | scr h r => exact ⟨_, _, rfl, .inl ⟨_, s.seq h, rfl⟩, by rw [r.length]; exact q _ _ _ (Fr.refl s) (.int _)⟩
  · cases hz; obtain ⟨x, rfl, rr⟩ := reps1 r; cases rr with
    | tup h r => exact ⟨_, _, rfl, .inr ⟨_, sqT_same s h, rfl⟩, by rw [r.length]; exact q _ _ _ (Fr.refl s) (.int _)⟩
  · split at hz
    · cases hz; obtain ⟨x, rfl, rr⟩ := reps1 r; cases rr with
      | str y => exact ⟨_, _, rfl, ⟨by assumption, rfl⟩, q _ _ _ (Fr.refl s) (.int _)⟩
    · cases hz
theorem cd_int : CallD T (fun xs H Q => (∃ i, xs = [V.int i] ∧ Q (V.int i) H) ∨ ∃ k, xs = [V.bl k] ∧ Q (V.int (if k = true then 1 else 0)) H) intD := by
  intro xs ds G H Q s r z hz q
  unfold intD at hz
  split at hz <;> cases hz
  · obtain ⟨x, rfl, rr⟩ := reps1 r; cases rr; exact .inl ⟨_, rfl, q _ _ _ (Fr.refl s) (.int _)⟩
  · obtain ⟨x, rfl, rr⟩ := reps1 r; cases rr; exact .inr ⟨_, rfl, q _ _ _ (Fr.refl s) (.int _)⟩
theorem cd_abs : CallD T (fun xs H Q => ∃ i, xs = [V.int i] ∧ Q (V.int (if i < 0 then -i else i)) H) absD := by
  intro xs ds G H Q s r z hz q
  unfold absD at hz
  split at hz <;> cases hz
  obtain ⟨x, rfl, rr⟩ := reps1 r; cases rr; exact ⟨_, rfl, q _ _ _ (Fr.refl s) (.int _)⟩
theorem cd_max : CallD T (fun xs H Q => ∃ i j, xs = [V.int i, V.int j] ∧ Q (V.int (if j > i then j else i)) H) maxD := by
  intro xs ds G H Q s r z hz q
  unfold maxD at hz
  split at hz <;> cases hz
  obtain ⟨x, y, rfl, r1, r2⟩ := reps2 r; cases r1; cases r2; exact ⟨_, _, rfl, q _ _ _ (Fr.refl s) (.int _)⟩
theorem cd_min : CallD T (fun xs H Q => ∃ i j, xs = [V.int i, V.int j] ∧ Q (V.int (if j < i then j else i)) H) minD := by
  intro xs ds G H Q s r z hz q
  unfold minD at hz
  split at hz <;> cases hz
  obtain ⟨x, y, rfl, r1, r2⟩ := reps2 r; cases r1; cases r2; exact ⟨_, _, rfl, q _ _ _ (Fr.refl s) (.int _)⟩
theorem cd_list : CallD T (fun xs H Q => ∃ p ys, xs = [V.ref p] ∧ (SqL T.K H p ys ∨ SqT T.K H p ys) ∧ ∀ (l : Addr), H l = none → Q (V.ref l) (upd H l (HO.lst ys))) listD := by
  intro xs ds G H Q s r z hz q
  unfold listD at hz
  split at hz <;> cases hz <;> (obtain ⟨x, rfl, rr⟩ := reps1 r; cases rr)
  · exact ⟨_, _, rfl, .inl (SqL.of (s _ _ (by assumption))), fun p np => q _ _ _ (Fr.new s np) (.lst upd_same (Reps.mono (same_upd (s.free np)) (by assumption)))⟩
  · exact ⟨_, _, rfl, .inl (s.seq (by assumption)), fun p np => q _ _ _ (Fr.new s np) (.lst upd_same (Reps.mono (same_upd (s.free np)) (by assumption)))⟩
  · exact ⟨_, _, rfl, .inr (sqT_same s (by assumption)), fun p np => q _ _ _ (Fr.new s np) (.lst upd_same (Reps.mono (same_upd (s.free np)) (by assumption)))⟩
theorem cd_tuple : CallD T (fun xs H Q => ∃ p ys, xs = [V.ref p] ∧ ((SqL T.K H p ys ∧ ∀ (l : Addr), H l = none → Q (V.ref l) (upd H l (HO.tup ys))) ∨ SqT T.K H p ys ∧ Q (V.ref p) H)) tupleD := by
  intro xs ds G H Q s r z hz q
  unfold tupleD at hz
  split at hz <;> cases hz <;> (obtain ⟨x, rfl, rr⟩ := reps1 r; cases rr)
  · exact ⟨_, _, rfl, .inl ⟨SqL.of (s _ _ (by assumption)), fun p np => q _ _ _ (Fr.new s np) (.tup (SqT.of upd_same) (Reps.mono (same_upd (s.free np)) (by assumption)))⟩⟩
  · exact ⟨_, _, rfl, .inl ⟨s.seq (by assumption), fun p np => q _ _ _ (Fr.new s np) (.tup (SqT.of upd_same) (Reps.mono (same_upd (s.free np)) (by assumption)))⟩⟩
  · exact ⟨_, _, rfl, .inr ⟨sqT_same s (by assumption), q _ _ _ (Fr.refl s) (.tup (by assumption) (by assumption))⟩⟩
theorem od_ix : OpD T (rIx T.K) ixD := by
  intro x y d e G H Q s rx ry z hz q
  unfold ixD at hz
  split at hz <;> try (cases hz; done)
  · cases ry; cases rx with
    | lst h r =>
      obtain ⟨v, h1, h2⟩ := r.atI hz
      exact .inl ⟨_, _, _, _, rfl, rfl, SqL.of (s _ _ h), h1, q _ _ _ (Fr.refl s) h2⟩
  · cases ry; cases rx with
    | scr h r =>
      obtain ⟨v, h1, h2⟩ := r.atI hz
      exact .inl ⟨_, _, _, _, rfl, rfl, s.seq h, h1, q _ _ _ (Fr.refl s) h2⟩
  · cases ry; cases rx with
    | tup h r =>
      obtain ⟨v, h1, h2⟩ := r.atI hz
      exact .inr (.inl ⟨_, _, _, _, rfl, rfl, sqT_same s h, h1, q _ _ _ (Fr.refl s) h2⟩)
  · split at hz
    · cases ry; cases rx with
      | str zz =>
        rename_i zs i hl
        cases hc : atI zs.cps.toList i with
        | none => rw [hc] at hz; cases hz
        | some c =>
          rw [hc] at hz; cases hz
          exact .inr (.inr ⟨_, _, c, rfl, rfl, hl, hc, q _ _ _ (Fr.refl s) (.str _)⟩)
    · cases hz
end
end Px

namespace Px
open PySem PySem.Spec PyProof.Rows L2

/-! ### equality of data -/
mutual
def toP : D → Option PyData
  | .non => some .none
  | .bl b => some (.bool b)
  | .int i => some (.int i)
  | .str s => some (.str s)
  | .lst l => (toPs l).map .list
  | .scr l => (toPs l).map .list
  | .tup l => (toPs l).map .tuple
  | .obj _ _ => none
  | .dic _ _ => none
def toPs : List D → Option (List PyData)
  | [] => some []
  | d :: r => match toP d, toPs r with
    | some p, some q => some (p :: q)
    | _, _ => none
end
def eqD (a b : D) : Option D := match toP a, toP b with
  | some p, some q => if SeqAt.shaped p && SeqAt.shaped q then some (.bl (PyData.eqv p q)) else none
  | _, _ => none
def neD (a b : D) : Option D := match toP a, toP b with
  | some p, some q => if SeqAt.shaped p && SeqAt.shaped q then some (.bl (!PyData.eqv p q)) else none
  | _, _ => none
section
variable {X : Cx} {T : Kt} {G : Hp}
mutual
theorem rep_dp : ∀ {d : D} {v : V} {p : PyData}, Rep T G v d → toP d = some p → Dp T.K G v p
  | _, _, _, .non, h => by cases h; exact .non
  | _, _, _, .bl b, h => by cases h; exact .bl b
  | _, _, _, .int b, h => by cases h; exact .int b
  | _, _, _, .str b, h => by cases h; exact .str b
  | .lst l, _, _, .lst e r, h => by
    unfold toP at h
    cases q : toPs l with
    | none => rw [q] at h; cases h
    | some ps => rw [q] at h; cases h; exact .lst (SqL.of e) (reps_dp r q)
  | .scr l, _, _, .scr e r, h => by
    unfold toP at h
    cases q : toPs l with
    | none => rw [q] at h; cases h
    | some ps => rw [q] at h; cases h; exact .lst e (reps_dp r q)
  | .tup l, _, _, .tup e r, h => by
    unfold toP at h
    cases q : toPs l with
    | none => rw [q] at h; cases h
    | some ps => rw [q] at h; cases h; exact .tup e (reps_dp r q)
  | _, _, _, .obj _ _ _ _ _, h => by unfold toP at h; cases h
  | _, _, _, .dic _ _ _, h => by unfold toP at h; cases h
theorem reps_dp : ∀ {ds : List D} {vs : List V} {ps : List PyData}, Reps T G vs ds → toPs ds = some ps → DpAll T.K G vs ps
  | _, _, _, .nil, h => by unfold toPs at h; cases h; exact .nil
  | d :: ds, _, _, .cons a r, h => by
    unfold toPs at h
    split at h
    · rename_i p q h1 h2; cases h; exact .cons (rep_dp a h1) (reps_dp r h2)
    · cases h
end
theorem dp_mono {H H' : Hp} {K : PySem.W.Frag} (s : Same H H') : ∀ {v : V} {p : PyData}, Dp K H v p → Dp K H' v p := fun {v p} h => by
  refine Dp.rec (motive_1 := fun v p _ => Dp K H' v p) (motive_2 := fun vs ps _ => DpAll K H' vs ps) ?_ ?_ ?_ ?_ ?_ ?_ ?_ ?_ h
  · exact .non
  · exact fun b => .bl b
  · exact fun b => .int b
  · exact fun b => .str b
  · exact fun e _ r => .lst (s.seq e) r
  · exact fun e _ r => .tup (sqT_same s e) r
  · exact .nil
  · exact fun _ _ a r => .cons a r
theorem od_eq : OpD T (rEqD T.K) eqD := by
  intro x y d e G H Q s rx ry z hz q
  unfold eqD at hz
  split at hz
  · rename_i p p' h1 h2
    split at hz
    · rename_i hs
      rw [Bool.and_eq_true] at hs
      cases hz
      exact ⟨p, p', dp_mono s (rep_dp rx h1), dp_mono s (rep_dp ry h2), hs.1, hs.2, q _ _ _ (Fr.refl s) (.bl _)⟩
    · cases hz
  · cases hz
theorem od_ne : OpD T (rNeD T.K) neD := by
  intro x y d e G H Q s rx ry z hz q
  unfold neD at hz
  split at hz
  · rename_i p p' h1 h2
    split at hz
    · rename_i hs
      rw [Bool.and_eq_true] at hs
      cases hz
      exact ⟨p, p', dp_mono s (rep_dp rx h1), dp_mono s (rep_dp ry h2), hs.1, hs.2, q _ _ _ (Fr.refl s) (.bl _)⟩
    · cases hz
  · cases hz
end

/-! ### truth, and, or, not, tests -/
def truD : D → Option Bool
  | .non => some false
  | .bl b => some b
  | .int i => some (i != 0)
  | .str s => if s.length ≤ sizeLine then some ((s.length : Int) != 0) else none
  | .lst l => some (!l.isEmpty)
  | .scr l => some (!l.isEmpty)
  | .tup l => some (!l.isEmpty)
  | .obj _ _ => none
  | .dic _ _ => none
def truR (m : Res D) : Res Bool := m.bind fun d => .ofO (truD d)
@[simp] theorem truR_ok (d : D) : truR (.ok d) = .ofO (truD d) := id rfl
def iteR {α : Type} (c : Res Bool) (a b : Res α) : Res α := c.bind fun k => if k then a else b
@[simp] theorem iteR_ok {α : Type} (k : Bool) (a b : Res α) : iteR (.ok k) a b = if k then a else b := id rfl
def notB (c : Res Bool) : Res Bool := c.bind fun k => .ok (!k)
@[simp] theorem notB_ok (k : Bool) : notB (.ok k) = .ok (!k) := id rfl
def andB (c d : Res Bool) : Res Bool := c.bind fun k => if k then d else .ok false
@[simp] theorem andB_true (d : Res Bool) : andB (.ok true) d = d := id rfl
@[simp] theorem andB_false (d : Res Bool) : andB (.ok false) d = .ok false := id rfl
def orB (c d : Res Bool) : Res Bool := c.bind fun k => if k then .ok true else d
@[simp] theorem orB_true (d : Res Bool) : orB (.ok true) d = .ok true := id rfl
@[simp] theorem orB_false (d : Res Bool) : orB (.ok false) d = d := id rfl
def blR (m : Res D) : Res Bool := m.bind fun d => match d with
  | .bl b => .ok b
  | _ => .bad
@[simp] theorem blR_ok (b : Bool) : blR (.ok (.bl b)) = .ok b := id rfl
def andV (a b : Res D) : Res D := (blR a).bind fun k => if k then b else .ok (.bl false)
@[simp] theorem andV_true (d : Res D) : andV (.ok (.bl true)) d = d := id rfl
@[simp] theorem andV_false (d : Res D) : andV (.ok (.bl false)) d = .ok (.bl false) := id rfl
def orV (a b : Res D) : Res D := (blR a).bind fun k => if k then .ok (.bl true) else b
@[simp] theorem orV_true (d : Res D) : orV (.ok (.bl true)) d = .ok (.bl true) := id rfl
@[simp] theorem orV_false (d : Res D) : orV (.ok (.bl false)) d = d := id rfl
def notV (a : Res D) : Res D := (blR a).bind fun k => .ok (.bl (!k))
@[simp] theorem notV_ok (k : Bool) : notV (.ok (.bl k)) = .ok (.bl (!k)) := id rfl

section
variable {X : Cx} {T : Kt} {W : WX} {k : Nat} {env : Env'} {a b c e o : Expr} {es : List Expr} {ma mb mc m : Res D} {pos : Pos}

theorem isEmpty_reps {G : Hp} {vs : List V} {ds : List D} (r : Reps T G vs ds) : (!vs.isEmpty) = !ds.isEmpty := by cases r <;> rfl
theorem tru_rep {G H : Hp} (s : Same G H) {v : V} {d : D} {b : Bool} (r : Rep T G v d) (h : truD d = some b) : TruV T.K v H b := by
  cases r <;> simp only [truD] at h <;> try (cases h; done)
  · cases h; rfl
  · cases h; rfl
  · cases h; rfl
  · split at h
    · cases h; exact ⟨by assumption, rfl⟩
    · cases h
  · rename_i e r; cases h; exact .inl ⟨_, SqL.of (s _ _ e), (isEmpty_reps r).symm⟩
  · rename_i e r; cases h; exact .inl ⟨_, s.seq e, (isEmpty_reps r).symm⟩
  · rename_i e r; cases h; exact .inr (.inl ⟨_, sqT_same s e, (isEmpty_reps r).symm⟩)
/-- any plain expression as a test -/
theorem ptx_tru (hk : X.K = T.K) (h : PX X T W e env m) (he : ∀ whole, isTrue e X.env whole = (do let v ← whole; standAt e.pos; holding [v] (truthy v))) : PTX X T W e env (truR m) := by
  obtain ⟨t, p, s⟩ := h.ex
  refine ⟨_, pt_truth p he, fun H0 σ H G M Q h => ?_⟩
  refine s H0 σ H G M _ ((Res.sat_bind h).mono (fun x hx v1 H1 G1 f1 r1 => ?_) fun _ _ z => z)
  cases hf : truD x with
  | none => rw [hf] at hx; exact hx.elim
  | some w =>
    rw [hf] at hx
    refine ⟨w, ?_, hx _ _ f1⟩
    rw [hk]
    exact tru_rep f1.s r1 hf
/-- a comparison as a test -/
theorem ptx_cmp {op : CmpOp} {r : R2} {f : D → D → Option D} (ho : OpR X (compareOp op) r) (hd : OpD T r f) (ha : PX X T W a env ma) (hb : PX X T W b env mb) (hm : behindInMarks op b = false) : PTX X T W (.Compare a [op] [b] pos) env (blR (op2 f ma mb)) := by
  obtain ⟨ta, pa, sa⟩ := ha.ex
  obtain ⟨tb, pb, sb⟩ := hb.ex
  refine ⟨_, pt_cmpR ho pa pb hm, fun H0 σ H G M Q h => ?_⟩
  refine SE.op hd sa sb H0 σ H G M _ ((Res.sat_bind h).mono (fun x hx v1 H1 G1 f1 r1 => ?_) fun _ _ z => z)
  cases r1 <;> first | exact ⟨_, rfl, hx _ _ f1⟩ | exact hx.elim
theorem ptx_not {mt : Res Bool} (h : PTX X T W a env mt) : PTX X T W (.UnaryOp .Not a pos) env (notB mt) := by
  obtain ⟨t, p, s⟩ := h.ex
  refine ⟨_, pt_not p, fun H0 σ H G M Q h => ?_⟩
  exact s H0 σ H G M _ ((Res.sat_bind h).mono (fun x hx H1 G1 f1 => hx _ _ f1) fun _ _ z => z)
theorem pwx_and1 {mt : Res Bool} (h : PTX X T W a env mt) : PWX X T W (.BoolOp .And [a] pos) env mt := by
  obtain ⟨t, p, s⟩ := h.ex
  exact ⟨_, pw_and1 p, s⟩
theorem pwx_or1 {mt : Res Bool} (h : PTX X T W a env mt) : PWX X T W (.BoolOp .Or [a] pos) env mt := by
  obtain ⟨t, p, s⟩ := h.ex
  exact ⟨_, pw_or1 p, s⟩
theorem pwx_and {rest : List Expr} {mt mu : Res Bool} (h : PTX X T W a env mt) (h' : PWX X T W (.BoolOp .And (b :: rest) pos) env mu) : PWX X T W (.BoolOp .And (a :: b :: rest) pos) env (andB mt mu) := by
  obtain ⟨t, p, s⟩ := h.ex
  obtain ⟨t', p', s'⟩ := h'.ex
  refine ⟨_, pw_and p p', fun H0 σ H G M Q h => ?_⟩
  refine s H0 σ H G M _ ((Res.sat_bind h).mono (fun x hx H1 G1 f1 => ?_) fun _ _ z => z)
  cases x with
  | true => exact iteT (s' H0 σ H1 G1 (M.fr f1) _ (Res.sat.mono hx (fun y hy => hy.fr f1) fun _ _ z => z.fr f1))
  | false => exact iteF (hx _ _ f1)
theorem pwx_or {rest : List Expr} {mt mu : Res Bool} (h : PTX X T W a env mt) (h' : PWX X T W (.BoolOp .Or (b :: rest) pos) env mu) : PWX X T W (.BoolOp .Or (a :: b :: rest) pos) env (orB mt mu) := by
  obtain ⟨t, p, s⟩ := h.ex
  obtain ⟨t', p', s'⟩ := h'.ex
  refine ⟨_, pw_or p p', fun H0 σ H G M Q h => ?_⟩
  refine s H0 σ H G M _ ((Res.sat_bind h).mono (fun x hx H1 G1 f1 => ?_) fun _ _ z => z)
  cases x with
  | true => exact iteT (hx _ _ f1)
  | false => exact iteF (s' H0 σ H1 G1 (M.fr f1) _ (Res.sat.mono hx (fun y hy => hy.fr f1) fun _ _ z => z.fr f1))
theorem PWX.pt {mt : Res Bool} (h : PWX X T W e env mt) : PTX X T W e env mt := by
  obtain ⟨t, p, s⟩ := h.ex
  exact ⟨_, p.pt, s⟩
/-- and, or, not as values of bools -/
theorem px_one {op} (h : PX X T W a env m) : PX X T W (.BoolOp op [a] pos) env m := by
  obtain ⟨t, p, s⟩ := h.ex
  exact ⟨_, pe_one p, s⟩
theorem px_and {rest : List Expr} (h : PX X T W a env ma) (h' : PX X T W (.BoolOp .And (b :: rest) pos) env mb) : PX X T W (.BoolOp .And (a :: b :: rest) pos) env (andV ma mb) := by
  obtain ⟨t, p, s⟩ := h.ex
  obtain ⟨t', p', s'⟩ := h'.ex
  refine ⟨_, pe_and p p', fun H0 σ H G M Q h => ?_⟩
  refine s H0 σ H G M _ ((Res.sat_bind (Res.sat_bind h)).mono (fun x hx v1 H1 G1 f1 r1 => ?_) fun _ _ z => z)
  cases r1 <;> try exact hx.elim
  rename_i kk
  refine ⟨kk, rfl, ?_⟩
  cases kk with
  | true => exact iteT (s' H0 σ H1 G1 (M.fr f1) _ (Res.sat.mono hx (fun y hy => hy.fr f1) fun _ _ z => z.fr f1))
  | false => exact iteF (PQ.fr f1 hx _ _ _ (Fr.refl f1.s) (.bl _))
theorem px_or {rest : List Expr} (h : PX X T W a env ma) (h' : PX X T W (.BoolOp .Or (b :: rest) pos) env mb) : PX X T W (.BoolOp .Or (a :: b :: rest) pos) env (orV ma mb) := by
  obtain ⟨t, p, s⟩ := h.ex
  obtain ⟨t', p', s'⟩ := h'.ex
  refine ⟨_, pe_or p p', fun H0 σ H G M Q h => ?_⟩
  refine s H0 σ H G M _ ((Res.sat_bind (Res.sat_bind h)).mono (fun x hx v1 H1 G1 f1 r1 => ?_) fun _ _ z => z)
  cases r1 <;> try exact hx.elim
  rename_i kk
  refine ⟨kk, rfl, ?_⟩
  cases kk with
  | true => exact iteT (PQ.fr f1 hx _ _ _ (Fr.refl f1.s) (.bl _))
  | false => exact iteF (s' H0 σ H1 G1 (M.fr f1) _ (Res.sat.mono hx (fun y hy => hy.fr f1) fun _ _ z => z.fr f1))
theorem px_not (h : PX X T W a env ma) : PX X T W (.UnaryOp .Not a pos) env (notV ma) := by
  obtain ⟨t, p, s⟩ := h.ex
  refine ⟨_, pe_not p, fun H0 σ H G M Q h => ?_⟩
  refine s H0 σ H G M _ ((Res.sat_bind (Res.sat_bind h)).mono (fun x hx v1 H1 G1 f1 r1 => ?_) fun _ _ z => z)
  cases r1 <;> try exact hx.elim
  exact ⟨_, rfl, PQ.fr f1 hx _ _ _ (Fr.refl f1.s) (.bl _)⟩
theorem px_ite {mt : Res Bool} (h : PTX X T W c env mt) (ha : PX X T W a env ma) (hb : PX X T W b env mb) : PX X T W (.IfExp c a b pos) env (iteR mt ma mb) := by
  obtain ⟨t, p, s⟩ := h.ex
  obtain ⟨ta, pa, sa⟩ := ha.ex
  obtain ⟨tb, pb, sb⟩ := hb.ex
  refine ⟨_, pe_ifExp p pa pb, fun H0 σ H G M Q h => ?_⟩
  refine s H0 σ H G M _ ((Res.sat_bind h).mono (fun x hx H1 G1 f1 => ?_) fun _ _ z => z)
  cases x with
  | true => exact iteT (sa H0 σ H1 G1 (M.fr f1) _ (Res.sat.mono hx (fun y hy => hy.fr f1) fun _ _ z => z.fr f1))
  | false => exact iteF (sb H0 σ H1 G1 (M.fr f1) _ (Res.sat.mono hx (fun y hy => hy.fr f1) fun _ _ z => z.fr f1))
/-- a < b < c -/
def chnR (f g : D → D → Option D) (ma mb mc : Res D) : Res D := ma.bind fun a => mb.bind fun b => (blR (.ofO (f a b))).bind fun k => if k then mc.bind fun c => .ofO (g b c) else .ok (.bl false)
theorem SE.chain {ta tb tc : TE} {r r' : R2} {f g : D → D → Option D} (hd : OpD T r f) (hd' : OpD T r' g) (ha : SE T W ta env ma) (hb : SE T W tb env mb) (hc : SE T W tc env mc) : SE T W (tChain r r' ta tb tc) env (chnR f g ma mb mc) := by
  intro H0 σ H G M Q h
  refine ha H0 σ H G M _ ((Res.sat_bind h).mono (fun x hx v1 H1 G1 f1 r1 => ?_) fun _ _ z => z)
  refine hb H0 σ H1 G1 (M.fr f1) _ ((Res.sat_bind hx).mono (fun y hy v2 H2 G2 f2 r2 => ?_) fun _ _ z => z.fr f1)
  cases hf : f x y with
  | none => rw [hf] at hy; exact hy.elim
  | some w =>
    rw [hf] at hy
    refine hd _ _ x y G2 H2 _ f2.s (r1.mono f2.g) r2 w hf fun v3 H3 G3 f3 r3 => ?_
    cases r3 <;> try exact hy.elim
    rename_i kk
    refine ⟨kk, rfl, ?_⟩
    have f13 := (f1.trans f2).trans f3
    cases kk with
    | false => exact iteF (PQ.fr f13 hy _ _ _ (Fr.refl f13.s) (.bl _))
    | true =>
      refine iteT (hc H0 σ H3 G3 (M.fr f13) _ ((Res.sat_bind (show (mc.bind _).sat _ _ from hy)).mono (fun z hz v4 H4 G4 f4 r4 => ?_) fun _ _ z => z.fr f13))
      cases hg : g y z with
      | none => rw [hg] at hz; exact hz.elim
      | some u =>
        rw [hg] at hz
        exact hd' _ _ y z G4 H4 Q f4.s (r2.mono (f3.trans f4).g) r4 u hg (PQ.fr (f13.trans f4) hz)
theorem px_chain {op op' : CmpOp} {r r' : R2} {f g : D → D → Option D} (ho : OpR X (compareOp op) r) (hd : OpD T r f) (ho' : OpR X (compareOp op') r') (hd' : OpD T r' g) (ha : PX X T W a env ma) (hb : PX X T W b env mb) (hc : PX X T W c env mc) (hm : lastMarks [op, op'] [b, c] = false) :
    PX X T W (.Compare a [op, op'] [b, c] pos) env (chnR f g ma mb mc) := by
  obtain ⟨ta, pa, sa⟩ := ha.ex
  obtain ⟨tb, pb, sb⟩ := hb.ex
  obtain ⟨tc, pc, sc⟩ := hc.ex
  exact ⟨_, pe_chain ho ho' pa pb pc hm, SE.chain hd hd' sa sb sc⟩
theorem ptx_chain {op op' : CmpOp} {r r' : R2} {f g : D → D → Option D} (ho : OpR X (compareOp op) r) (hd : OpD T r f) (ho' : OpR X (compareOp op') r') (hd' : OpD T r' g) (ha : PX X T W a env ma) (hb : PX X T W b env mb) (hc : PX X T W c env mc) (hm : lastMarks [op, op'] [b, c] = false) :
    PTX X T W (.Compare a [op, op'] [b, c] pos) env (blR (chnR f g ma mb mc)) := by
  obtain ⟨ta, pa, sa⟩ := ha.ex
  obtain ⟨tb, pb, sb⟩ := hb.ex
  obtain ⟨tc, pc, sc⟩ := hc.ex
  refine ⟨_, pt_chain ho ho' pa pb pc hm, fun H0 σ H G M Q h => ?_⟩
  refine SE.chain hd hd' sa sb sc H0 σ H G M _ ((Res.sat_bind h).mono (fun x hx v1 H1 G1 f1 r1 => ?_) fun _ _ z => z)
  cases r1 <;> first | exact ⟨_, rfl, hx _ _ f1⟩ | exact hx.elim

/-! ### slices -/
def partR (mo : Option (Res D)) : Res (Option Int) := match mo with
  | none => .ok none
  | some m => m.bind fun d => match d with
    | .int i => .ok (some i)
    | _ => .bad
@[simp] theorem partR_none : partR none = .ok none := id rfl
@[simp] theorem partR_ok (i : Int) : partR (some (.ok (.int i))) = .ok (some i) := id rfl
def cutD (l : List D) (lo hi : Option Int) : List D := (l.drop (HT.sIx l.length 0 lo)).take (HT.sIx l.length l.length hi - HT.sIx l.length 0 lo)
def sliceD (d : D) (lo hi : Option Int) : Option D := match d with
  | .lst l => some (.lst (cutD l lo hi))
  | .scr l => some (.lst (cutD l lo hi))
  | .tup l => some (.tup (cutD l lo hi))
  | .str s => if s.length ≤ sizeLine then some (.str (cutS s lo hi)) else none
  | _ => none
def sliceR (m : Res D) (lo hi : Option (Res D)) : Res D := m.bind fun d => (partR lo).bind fun l => (partR hi).bind fun h => .ofO (sliceD d l h)
structure POX (X : Cx) (T : Kt) (W : WX) (e : Option Expr) (env : Env') (m : Option (Res D)) : Prop where
  ex : ∃ t, PO X e t ∧ ∀ H0 σ H G, Mat T H0 σ H G env → ∀ Q : Option Int → Hp → Prop, (partR m).sat (fun o => ∀ H' G', Fr G H G' H' → Q o H') (EX T (WE W σ) G H) → t σ H Q
theorem pox_none : POX X T W none env none := ⟨_, po_none, fun H0 σ H G M Q h => h _ _ (Fr.refl M.gh)⟩
theorem pox_some (h : PX X T W e env m) : POX X T W (some e) env (some m) := by
  obtain ⟨t, p, s⟩ := h.ex
  refine ⟨_, po_some p, fun H0 σ H G M Q h => ?_⟩
  refine s H0 σ H G M _ ((Res.sat_bind h).mono (fun x hx v1 H1 G1 f1 r1 => ?_) fun _ _ z => z)
  cases r1 <;> first | exact ⟨_, rfl, hx _ _ f1⟩ | exact hx.elim
theorem cutV_len {G : Hp} {vs : List V} {ds : List D} (r : Reps T G vs ds) (lo hi : Option Int) : Reps T G (cutV vs lo hi) (cutD ds lo hi) := by
  unfold cutV cutD
  rw [r.length]
  exact (r.drop _).take _
theorem cutD_whole (ds : List D) {lo hi : Option Int} : (HT.sIx ds.length 0 lo = 0 ∧ HT.sIx ds.length ds.length hi = ds.length) → cutD ds lo hi = ds := fun h => by
  unfold cutD
  rw [h.1, h.2]
  simp
def rSlAll (K : PySem.W.Frag) : V → Option Int → Option Int → Hp → VK → Prop := fun x lo hi H Q => rSlL K x lo hi H Q ∨ (rSlA K x lo hi H Q ∨ rSlS x lo hi H Q)
theorem px_slice {lo hi : Option Expr} {ml mh : Option (Res D)} {p2 : Pos} (hk : X.K = T.K) (he : PX X T W e env m) (hl : POX X T W lo env ml) (hh : POX X T W hi env mh) : PX X T W (.Subscript e (.Slice lo hi none p2) pos) env (sliceR m ml mh) := by
  obtain ⟨t, p, s⟩ := he.ex
  obtain ⟨tl, pl, sl⟩ := hl.ex
  obtain ⟨th, ph, sh⟩ := hh.ex
  refine ⟨_, pe_slice (r := rSlAll X.K) (sl_list.or (sl_tupA.or sl_str)) p pl ph, fun H0 σ H G M Q h => ?_⟩
  refine s H0 σ H G M _ ((Res.sat_bind h).mono (fun x hx v1 H1 G1 f1 r1 => ?_) fun _ _ z => z)
  refine sl H0 σ H1 G1 (M.fr f1) _ ((Res.sat_bind hx).mono (fun o1 hy H2 G2 f2 => ?_) fun _ _ z => z.fr f1)
  refine sh H0 σ H2 G2 (M.fr (f1.trans f2)) _ ((Res.sat_bind hy).mono (fun o2 hz H3 G3 f3 => ?_) fun _ _ z => z.fr (f1.trans f2))
  have f13 := (f1.trans f2).trans f3
  have r3 := r1.mono (f2.trans f3).g
  rw [hk]
  cases r3 <;> simp only [sliceD] at hz <;> try exact hz.elim
  · split at hz
    · exact .inr (.inr ⟨_, rfl, by assumption, PQ.fr f13 hz _ _ _ (Fr.refl f13.s) (.str _)⟩)
    · exact hz.elim
  · rename_i e r
    exact .inl ⟨_, _, rfl, SqL.of (f13.s _ _ e), fun q nq => PQ.fr f13 hz _ _ _ (Fr.new f13.s nq) (.lst upd_same ((cutV_len r _ _).mono (same_upd (f13.s.free nq))))⟩
  · rename_i e r
    exact .inl ⟨_, _, rfl, f13.s.seq e, fun q nq => PQ.fr f13 hz _ _ _ (Fr.new f13.s nq) (.lst upd_same ((cutV_len r _ _).mono (same_upd (f13.s.free nq))))⟩
  · rename_i e r
    refine .inr (.inl ⟨_, _, rfl, sqT_same f13.s e, fun hw => ?_, fun _ q nq => PQ.fr f13 hz _ _ _ (Fr.new f13.s nq) (.tup (SqT.of upd_same) ((cutV_len r _ _).mono (same_upd (f13.s.free nq))))⟩)
    refine PQ.fr f13 hz _ _ _ (Fr.refl f13.s) (.tup e ?_)
    rw [cutD_whole _ (by rw [← r.length]; exact hw)]
    exact r
end
end Px

namespace Px
open PySem PySem.Spec PyProof.Rows L2

/-! ### statements -/
inductive Fl (L S : Type) where
  | nx (s : S) | rt (d : D) | bk (l : L) | ct (l : L) | ro (l : List D)
inductive Xk where
  | ex | fall | fn

def Out (T : Kt) (G0 H0 : Hp) (Dn : Ends) {L S : Type} (el : L → Env') (eo : S → Env') : Fl L S → Prop
  | .nx s => ∀ σ H G, Fr G0 H0 G H → Mat T H0 σ H G (eo s) → Dn.nx σ H
  | .rt d => ∀ v H G, Fr G0 H0 G H → Rep T G v d → Dn.rt v H
  | .bk s => ∀ σ H G, Fr G0 H0 G H → Mat T H0 σ H G (el s) → Dn.bk σ H
  | .ct s => ∀ σ H G, Fr G0 H0 G H → Mat T H0 σ H G (el s) → Dn.ct σ H
  | .ro l => ∀ a vs H G, Fr G0 H0 G H → H0 a = none → H a = some (.lst vs) → G a = none → Reps T G vs l → Dn.rt (.ref a) H
def EXS (T : Kt) (W : WX) (G H : Hp) : Nat → List D → Prop := fun c vs => ∀ σ, EX T (WE W σ) G H c vs
def XOk (x : Xk) (Dn : Ends) (nx : L2.St → Hp → Prop) : Prop := match x with
  | .ex => True
  | .fall => nx = Dn.nx
  | .fn => nx = fun _ H => Dn.rt .non H

def SS (T : Kt) (W : WX) (x : Xk) (ts : TS) (env : Env') {O L S : Type} (m : Res O) (ι : O → Fl L S) (el : L → Env') (eo : S → Env') : Prop :=
  ∀ G0 H0 σ H G, Fr G0 H0 G H → Mat T H0 σ H G env → ∀ (Dn : Ends) (nx : L2.St → Hp → Prop), XOk x Dn nx → m.sat (fun o => Out T G0 H0 Dn el eo (ι o)) (EXS T W G0 H0) → ts { Dn with nx := nx } σ H
structure PBX (X : Cx) (T : Kt) (W : WX) (x : Xk) (sts : List Stmt) (env : Env') {O L S : Type} (m : Res O) (ι : O → Fl L S) (el : L → Env') (eo : S → Env') : Prop where
  ex : ∃ t, PSs X sts t ∧ SS T W x t env m ι el eo

/-- env' tells no more than env -/
def subE : Env' → Env' → Prop
  | [], [] => True
  | none :: a, _ :: b => subE a b
  | some c :: a, d :: b => d = some c ∧ subE a b
  | _, _ => False
theorem subE_len : ∀ {a b : Env'}, subE a b → a.length = b.length
  | [], [], _ => rfl
  | none :: a, _ :: b, h => congrArg (· + 1) (subE_len (a := a) (b := b) h)
  | some c :: a, d :: b, h => congrArg (· + 1) (subE_len h.2)
theorem subE_get : ∀ {a b : Env'}, subE a b → ∀ (i : Nat) (c : Cell), a[i]? = some (some c) → b[i]? = some (some c)
  | [], [], _, i, c, e => by simp at e
  | none :: a, d :: b, h, 0, c, e => by simp at e
  | none :: a, d :: b, h, i + 1, c, e => by simpa using subE_get (a := a) (b := b) h i c (by simpa using e)
  | some c' :: a, d :: b, h, 0, c, e => by simp at e; subst e; simp [h.1]
  | some c' :: a, d :: b, h, i + 1, c, e => by simpa using subE_get h.2 i c (by simpa using e)
theorem Mat.sub {T : Kt} {H0 : Hp} {σ : L2.St} {H G : Hp} {env env' : Env'} (m : Mat T H0 σ H G env) (h : subE env' env) : Mat T H0 σ H G env' := m.weak (subE_len h) (subE_get h)

section
variable {X : Cx} {T : Kt} {W : WX} {k : Nat} {x : Xk} {env : Env'} {a b c e o : Expr} {es : List Expr} {st : Stmt} {rest : List Stmt} {ma mb mc me : Res D} {pos : Pos} {O L S : Type} {m : Res O} {ι : O → Fl L S} {el : L → Env'} {eo : S → Env'}

theorem EXS.ex {G0 H0 G H : Hp} (f : Fr G0 H0 G H) {σ : L2.St} {c : Nat} {vs : List D} (h : EXS T W G0 H0 c vs) : EX T (WE W σ) G H c vs := (h σ).fr f
theorem sat_ex {α : Type} {G0 H0 G H : Hp} (f : Fr G0 H0 G H) {σ : L2.St} {m : Res α} {P : α → Prop} (h : m.sat P (EXS T W G0 H0)) : m.sat P (EX T (WE W σ) G H) := h.mono (fun _ z => z) fun _ _ z => z.ex f

theorem pb_nil {s : S} {o : O} (hi : ι o = .nx s) (he : eo s = env) : PBX X T W .fall [] env (.ok o) ι el eo := by
  refine ⟨_, pss_nil, fun G0 H0 σ H G F M Dn nx hx h => ?_⟩
  have h' : Out T G0 H0 Dn el eo (ι o) := h
  rw [hi] at h'
  obtain rfl : nx = Dn.nx := hx
  exact h' σ H G F (he ▸ M)
theorem pb_end {o : O} (hi : ι o = .rt .non) : PBX X T W .fn [] env (.ok o) ι el eo := by
  refine ⟨_, pss_nil, fun G0 H0 σ H G F M Dn nx hx h => ?_⟩
  have h' : Out T G0 H0 Dn el eo (ι o) := h
  rw [hi] at h'
  obtain rfl : nx = fun _ H => Dn.rt .non H := hx
  exact h' .non H G F .non
/-- x = e -/
theorem pb_asg (i : Nat) {y : Str} {pos' : Pos} {k : D → Res O} (hN : X.N.Nodup) (hi : X.N[i]? = some y) (hx : Loc X.env.scope y) (he : PX X T W e env me) (hs : swapsWith e (some (.Name y pos')) pos.line X.env = pure false)
    (hf : X.fn y = true ∨ X.env.scope.names.lookup y = some .local) (hr : ∀ d, PBX X T W x rest (env.set i (some (.val d))) (k d) ι el eo) :
    PBX X T W x (.Assign [.Name y pos'] e pos :: rest) env (me.bind k) ι el eo := by
  obtain ⟨te, pe, se⟩ := he.ex
  have hr' : ∃ u, PSs X rest u ∧ ∀ d, SS T W x u (env.set i (some (.val d))) (k d) ι el eo := by
    refine ⟨fun D σ H => ∃ u, PSs X rest u ∧ u D σ H, ⟨fun pins s σ H D I h => ?_⟩, fun d => ?_⟩
    · obtain ⟨u, p, q⟩ := h
      exact p.run pins s σ H D I q
    · obtain ⟨u, p, s⟩ := (hr d).ex
      intro G0 H0 σ H G F M Dn nx hx h
      exact ⟨u, p, s G0 H0 σ H G F M Dn nx hx h⟩
  obtain ⟨u, pu, su⟩ := hr'
  refine ⟨_, pss_cons (ps_set hN hi hx pe hs hf) pu, fun G0 H0 σ H G F M Dn nx hx h => ?_⟩
  refine se H0 σ H G M _ ((sat_ex F (Res.sat_bind h)).mono (fun d hd v1 H1 G1 f1 r1 => ?_) fun _ _ z => z)
  exact su d G0 H0 _ H1 G1 (F.trans f1) ((M.fr f1).setv r1 i) Dn nx hx hd
/-- the rest of a block under a binder: one reading for all -/
theorem PBX.all {α : Type} {env : α → Env'} {m : α → Res O} (hr : ∀ d, PBX X T W x rest (env d) (m d) ι el eo) : ∃ u, PSs X rest u ∧ ∀ d, SS T W x u (env d) (m d) ι el eo := by
  refine ⟨fun D σ H => ∃ u, PSs X rest u ∧ u D σ H, ⟨fun pins s σ H D I h => ?_⟩, fun d => ?_⟩
  · obtain ⟨u, p, q⟩ := h
    exact p.run pins s σ H D I q
  · obtain ⟨u, p, s⟩ := (hr d).ex
    intro G0 H0 σ H G F M Dn nx hx h
    exact ⟨u, p, s G0 H0 σ H G F M Dn nx hx h⟩
theorem PX.all {α : Type} {env : α → Env'} {m : α → Res D} (hr : ∀ d, PX X T W e (env d) (m d)) : ∃ u, PE X e u ∧ ∀ d, SE T W u (env d) (m d) := by
  refine ⟨fun σ H Q => ∃ u, PE X e u ∧ u σ H Q, ⟨fun pins s σ H D I h => ?_⟩, fun d => ?_⟩
  · obtain ⟨u, p, q⟩ := h
    exact p.run pins s σ H D I q
  · obtain ⟨u, p, s⟩ := (hr d).ex
    intro H0 σ H G M Q h
    exact ⟨u, p, s H0 σ H G M Q h⟩
theorem PTX.all {α : Type} {env : α → Env'} {m : α → Res Bool} (hr : ∀ d, PTX X T W e (env d) (m d)) : ∃ u, PT X e u ∧ ∀ d, ST T W u (env d) (m d) := by
  refine ⟨fun σ H Q => ∃ u, PT X e u ∧ u σ H Q, ⟨fun pins s σ H D I h => ?_⟩, fun d => ?_⟩
  · obtain ⟨u, p, q⟩ := h
    exact p.run pins s σ H D I q
  · obtain ⟨u, p, s⟩ := (hr d).ex
    intro H0 σ H G M Q h
    exact ⟨u, p, s H0 σ H G M Q h⟩
/-- return e -/
theorem pb_ret {r : D → O} (hi : ∀ d, ι (r d) = .rt d) (he : PX X T W e env me) : PBX X T W x (.Return (some e) pos :: rest) env (me.bind fun d => .ok (r d)) ι el eo := by
  obtain ⟨te, pe, se⟩ := he.ex
  refine ⟨_, pss_cons (ps_ret pe) pss_never, fun G0 H0 σ H G F M Dn nx hx h => ?_⟩
  refine se H0 σ H G M _ ((sat_ex F (Res.sat_bind h)).mono (fun d hd v1 H1 G1 f1 r1 => ?_) fun _ _ z => z)
  have h' : Out T G0 H0 Dn el eo (ι (r d)) := hd
  rw [hi] at h'
  exact h' v1 H1 G1 (F.trans f1) r1
theorem pb_retD {ιd : D → Fl L S} (hi : ∀ d, ιd d = .rt d) (he : PX X T W e env me) : PBX X T W x (.Return (some e) pos :: rest) env me ιd el eo := by
  obtain ⟨te, pe, se⟩ := he.ex
  refine ⟨_, pss_cons (ps_ret pe) pss_never, fun G0 H0 σ H G F M Dn nx hx h => ?_⟩
  refine se H0 σ H G M _ ((sat_ex F h).mono (fun d hd v1 H1 G1 f1 r1 => ?_) fun _ _ z => z)
  rw [hi] at hd
  exact hd v1 H1 G1 (F.trans f1) r1
theorem pb_retN {o : O} (hi : ι o = .rt .non) : PBX X T W x (.Return none pos :: rest) env (.ok o) ι el eo := by
  refine ⟨_, pss_cons ps_retN pss_never, fun G0 H0 σ H G F M Dn nx hx h => ?_⟩
  have h' : Out T G0 H0 Dn el eo (ι o) := h
  rw [hi] at h'
  exact h' .non H G F .non
theorem pb_break {o : O} {l : L} (hi : ι o = .bk l) (he : el l = env) : PBX X T W x (.Break pos :: rest) env (.ok o) ι el eo := by
  refine ⟨_, pss_cons ps_break pss_never, fun G0 H0 σ H G F M Dn nx hx h => ?_⟩
  have h' : Out T G0 H0 Dn el eo (ι o) := h
  rw [hi] at h'
  exact h' σ H G F (he ▸ M)
theorem pb_cont {o : O} {l : L} (hi : ι o = .ct l) (he : subE (el l) env) : PBX X T W x (.Continue pos :: rest) env (.ok o) ι el eo := by
  refine ⟨_, pss_cons ps_continue pss_never, fun G0 H0 σ H G F M Dn nx hx h => ?_⟩
  have h' : Out T G0 H0 Dn el eo (ι o) := h
  rw [hi] at h'
  exact h' σ H G F (M.sub he)
/-- what can't be reached -/
theorem pb_bad {sts : List Stmt} : PBX X T W x sts env (.bad : Res O) ι el eo := ⟨_, pss_never, fun G0 H0 σ H G F M Dn nx hx h => h⟩
theorem pb_pass (h : PBX X T W x rest env m ι el eo) : PBX X T W x (.Pass pos :: rest) env m ι el eo := by
  obtain ⟨u, pu, su⟩ := h.ex
  exact ⟨_, pss_cons ps_pass pu, fun G0 H0 σ H G F M Dn nx hx h => su G0 H0 σ H G F M Dn nx hx h⟩
/-- forgetting -/
theorem PBX.weak {sts : List Stmt} {env' : Env'} (h : PBX X T W x sts env' m ι el eo) (s : subE env' env) : PBX X T W x sts env m ι el eo := by
  obtain ⟨u, pu, su⟩ := h.ex
  exact ⟨u, pu, fun G0 H0 σ H G F M Dn nx hx h => su G0 H0 σ H G F (M.sub s) Dn nx hx h⟩
theorem pb_nilS {s : S} {o : O} (hi : ι o = .nx s) (he : subE (eo s) env) : PBX X T W .fall [] env (.ok o) ι el eo := (pb_nil hi rfl).weak he
/-- e; -/
theorem pb_expr {k : D → Res O} (he : PX X T W e env me) (hs : swapsWith e none pos.line X.env = pure false) (hr : ∀ d, PBX X T W x rest env (k d) ι el eo) : PBX X T W x (.Expr e pos :: rest) env (me.bind k) ι el eo := by
  obtain ⟨te, pe, se⟩ := he.ex
  obtain ⟨u, pu, su⟩ := PBX.all hr
  refine ⟨_, pss_cons (ps_expr pe hs) pu, fun G0 H0 σ H G F M Dn nx hx h => ?_⟩
  refine se H0 σ H G M _ ((sat_ex F (Res.sat_bind h)).mono (fun d hd v1 H1 G1 f1 r1 => ?_) fun _ _ z => z)
  exact su d G0 H0 _ H1 G1 (F.trans f1) (M.fr f1) Dn nx hx hd

/-! if -/
theorem pb_if_x0 {A : List Stmt} {mt : Res Bool} {mA mr : Res O} (hc : PTX X T W c env mt) (hA : PBX X T W .ex A env mA ι el eo) (hr : PBX X T W x rest env mr ι el eo) :
    PBX X T W x (.If c A [] pos :: rest) env (iteR mt mA mr) ι el eo := by
  obtain ⟨tc, pc, sc⟩ := hc.ex
  obtain ⟨ta, pa, sa⟩ := hA.ex
  obtain ⟨u, pu, su⟩ := hr.ex
  refine ⟨_, pss_cons (ps_if pc pa pss_nil) pu, fun G0 H0 σ H G F M Dn nx hx h => ?_⟩
  refine sc H0 σ H G M _ ((sat_ex F (Res.sat_bind h)).mono (fun d hd H1 G1 f1 => ?_) fun _ _ z => z)
  cases d with
  | true => exact iteT (sa G0 H0 σ H1 G1 (F.trans f1) (M.fr f1) Dn _ trivial hd)
  | false => exact iteF (su G0 H0 σ H1 G1 (F.trans f1) (M.fr f1) Dn nx hx hd)
theorem pb_if_xx {A B : List Stmt} {mt : Res Bool} {mA mB : Res O} (hc : PTX X T W c env mt) (hA : PBX X T W .ex A env mA ι el eo) (hB : PBX X T W .ex B env mB ι el eo) :
    PBX X T W x (.If c A B pos :: rest) env (iteR mt mA mB) ι el eo := by
  obtain ⟨tc, pc, sc⟩ := hc.ex
  obtain ⟨ta, pa, sa⟩ := hA.ex
  obtain ⟨tb, pb, sb⟩ := hB.ex
  refine ⟨_, pss_cons (ps_if pc pa pb) pss_never, fun G0 H0 σ H G F M Dn nx hx h => ?_⟩
  refine sc H0 σ H G M _ ((sat_ex F (Res.sat_bind h)).mono (fun d hd H1 G1 f1 => ?_) fun _ _ z => z)
  cases d with
  | true => exact iteT (sa G0 H0 σ H1 G1 (F.trans f1) (M.fr f1) Dn _ trivial hd)
  | false => exact iteF (sb G0 H0 σ H1 G1 (F.trans f1) (M.fr f1) Dn _ trivial hd)
/-- the last statement: both branches end as the block does -/
theorem pb_if_last {A B : List Stmt} {mt : Res Bool} {mA mB : Res O} (hc : PTX X T W c env mt) (hA : PBX X T W x A env mA ι el eo) (hB : PBX X T W x B env mB ι el eo) :
    PBX X T W x [.If c A B pos] env (iteR mt mA mB) ι el eo := by
  obtain ⟨tc, pc, sc⟩ := hc.ex
  obtain ⟨ta, pa, sa⟩ := hA.ex
  obtain ⟨tb, pb, sb⟩ := hB.ex
  refine ⟨_, pss_one (ps_if pc pa pb), fun G0 H0 σ H G F M Dn nx hx h => ?_⟩
  refine sc H0 σ H G M _ ((sat_ex F (Res.sat_bind h)).mono (fun d hd H1 G1 f1 => ?_) fun _ _ z => z)
  cases d with
  | true => exact iteT (sa G0 H0 σ H1 G1 (F.trans f1) (M.fr f1) Dn nx hx hd)
  | false => exact iteF (sb G0 H0 σ H1 G1 (F.trans f1) (M.fr f1) Dn nx hx hd)
/-- a branch that ends, one that goes on with what follows -/
theorem pb_if_xj {A B : List Stmt} {mt : Res Bool} {S' : Type} {e' : S' → Env'} {mA : Res O} {mB : Res S'} {k : S' → Res O} (hc : PTX X T W c env mt) (hA : PBX X T W .ex A env mA ι el eo) (hB : PBX X T W .fall B env mB (Fl.nx (L := L)) el e') (hr : ∀ s, PBX X T W x rest (e' s) (k s) ι el eo) :
    PBX X T W x (.If c A B pos :: rest) env (iteR mt mA (mB.bind k)) ι el eo := by
  obtain ⟨tc, pc, sc⟩ := hc.ex
  obtain ⟨ta, pa, sa⟩ := hA.ex
  obtain ⟨tb, pb, sb⟩ := hB.ex
  obtain ⟨u, pu, su⟩ := PBX.all hr
  refine ⟨_, pss_cons (ps_if pc pa pb) pu, fun G0 H0 σ H G F M Dn nx hx h => ?_⟩
  refine sc H0 σ H G M _ ((sat_ex F (Res.sat_bind h)).mono (fun d hd H1 G1 f1 => ?_) fun _ _ z => z)
  cases d with
  | true => exact iteT (sa G0 H0 σ H1 G1 (F.trans f1) (M.fr f1) Dn _ trivial hd)
  | false => exact iteF (sb G0 H0 σ H1 G1 (F.trans f1) (M.fr f1) { Dn with nx := u { Dn with nx := nx } } _ rfl ((Res.sat_bind hd).mono (fun s hs σ2 H2 G2 F2 M2 => su s G0 H0 σ2 H2 G2 F2 M2 Dn nx hx hs) fun _ _ z => z))
theorem pb_if_jx {A B : List Stmt} {mt : Res Bool} {S' : Type} {e' : S' → Env'} {mA : Res S'} {mB : Res O} {k : S' → Res O} (hc : PTX X T W c env mt) (hA : PBX X T W .fall A env mA (Fl.nx (L := L)) el e') (hB : PBX X T W .ex B env mB ι el eo) (hr : ∀ s, PBX X T W x rest (e' s) (k s) ι el eo) :
    PBX X T W x (.If c A B pos :: rest) env (iteR mt (mA.bind k) mB) ι el eo := by
  obtain ⟨tc, pc, sc⟩ := hc.ex
  obtain ⟨ta, pa, sa⟩ := hA.ex
  obtain ⟨tb, pb, sb⟩ := hB.ex
  obtain ⟨u, pu, su⟩ := PBX.all hr
  refine ⟨_, pss_cons (ps_if pc pa pb) pu, fun G0 H0 σ H G F M Dn nx hx h => ?_⟩
  refine sc H0 σ H G M _ ((sat_ex F (Res.sat_bind h)).mono (fun d hd H1 G1 f1 => ?_) fun _ _ z => z)
  cases d with
  | false => exact iteF (sb G0 H0 σ H1 G1 (F.trans f1) (M.fr f1) Dn _ trivial hd)
  | true => exact iteT (sa G0 H0 σ H1 G1 (F.trans f1) (M.fr f1) { Dn with nx := u { Dn with nx := nx } } _ rfl ((Res.sat_bind hd).mono (fun s hs σ2 H2 G2 F2 M2 => su s G0 H0 σ2 H2 G2 F2 M2 Dn nx hx hs) fun _ _ z => z))
/-- both branches go on with what follows -/
theorem pb_if_j {A B : List Stmt} {mt : Res Bool} {S' : Type} {e' : S' → Env'} {mA mB : Res S'} {k : S' → Res O} (hc : PTX X T W c env mt) (hA : PBX X T W .fall A env mA (Fl.nx (L := L)) el e') (hB : PBX X T W .fall B env mB (Fl.nx (L := L)) el e') (hr : ∀ s, PBX X T W x rest (e' s) (k s) ι el eo) :
    PBX X T W x (.If c A B pos :: rest) env ((iteR mt mA mB).bind k) ι el eo := by
  obtain ⟨tc, pc, sc⟩ := hc.ex
  obtain ⟨ta, pa, sa⟩ := hA.ex
  obtain ⟨tb, pb, sb⟩ := hB.ex
  obtain ⟨u, pu, su⟩ := PBX.all hr
  refine ⟨_, pss_cons (ps_if pc pa pb) pu, fun G0 H0 σ H G F M Dn nx hx h => ?_⟩
  refine sc H0 σ H G M _ ((sat_ex F (Res.sat_bind (Res.sat_bind h))).mono (fun d hd H1 G1 f1 => ?_) fun _ _ z => z)
  cases d with
  | true => exact iteT (sa G0 H0 σ H1 G1 (F.trans f1) (M.fr f1) { Dn with nx := u { Dn with nx := nx } } _ rfl (Res.sat.mono hd (fun s hs σ2 H2 G2 F2 M2 => su s G0 H0 σ2 H2 G2 F2 M2 Dn nx hx hs) fun _ _ z => z))
  | false => exact iteF (sb G0 H0 σ H1 G1 (F.trans f1) (M.fr f1) { Dn with nx := u { Dn with nx := nx } } _ rfl (Res.sat.mono hd (fun s hs σ2 H2 G2 F2 M2 => su s G0 H0 σ2 H2 G2 F2 M2 Dn nx hx hs) fun _ _ z => z))
/-- both branches may end or go on: Fl -/
def flK {L S' O : Type} (r : D → O) (bk ct : L → O) (k : S' → Res O) : Fl L S' → Res O
  | .nx s => k s
  | .rt d => .ok (r d)
  | .bk l => .ok (bk l)
  | .ct l => .ok (ct l)
  | .ro _ => .bad
theorem pb_if_f {A B : List Stmt} {mt : Res Bool} {S' : Type} {e' : S' → Env'} {mA mB : Res (Fl L S')} {r : D → O} {bk ct : L → O} {k : S' → Res O} (hc : PTX X T W c env mt) (hA : PBX X T W .fall A env mA id el e') (hB : PBX X T W .fall B env mB id el e')
    (h1 : ∀ d, ι (r d) = .rt d) (h2 : ∀ d, ι (bk d) = .bk d) (h3 : ∀ d, ι (ct d) = .ct d) (hr : ∀ s, PBX X T W x rest (e' s) (k s) ι el eo) :
    PBX X T W x (.If c A B pos :: rest) env ((iteR mt mA mB).bind (flK r bk ct k)) ι el eo := by
  obtain ⟨tc, pc, sc⟩ := hc.ex
  obtain ⟨ta, pa, sa⟩ := hA.ex
  obtain ⟨tb, pb, sb⟩ := hB.ex
  obtain ⟨u, pu, su⟩ := PBX.all hr
  refine ⟨_, pss_cons (ps_if pc pa pb) pu, fun G0 H0 σ H G F M Dn nx hx h => ?_⟩
  have go : ∀ (o : Fl L S'), (flK r bk ct k o).sat (fun o => Out T G0 H0 Dn el eo (ι o)) (EXS T W G0 H0) → Out T G0 H0 { Dn with nx := u { Dn with nx := nx } } el e' (id o) := fun o ho => by
    cases o with
    | nx s => exact fun σ2 H2 G2 F2 M2 => su s G0 H0 σ2 H2 G2 F2 M2 Dn nx hx ho
    | rt d =>
      have h' : Out T G0 H0 Dn el eo (ι (r d)) := ho
      rw [h1] at h'; exact h'
    | bk d =>
      have h' : Out T G0 H0 Dn el eo (ι (bk d)) := ho
      rw [h2] at h'; exact h'
    | ct d =>
      have h' : Out T G0 H0 Dn el eo (ι (ct d)) := ho
      rw [h3] at h'; exact h'
    | ro l => exact ho.elim
  refine sc H0 σ H G M _ ((sat_ex F (Res.sat_bind (Res.sat_bind h))).mono (fun d hd H1 G1 f1 => ?_) fun _ _ z => z)
  cases d with
  | true => exact iteT (sa G0 H0 σ H1 G1 (F.trans f1) (M.fr f1) { Dn with nx := u { Dn with nx := nx } } _ rfl (Res.sat.mono hd go fun _ _ z => z))
  | false => exact iteF (sb G0 H0 σ H1 G1 (F.trans f1) (M.fr f1) { Dn with nx := u { Dn with nx := nx } } _ rfl (Res.sat.mono hd go fun _ _ z => z))
end
end Px

namespace Px
open PySem PySem.Spec PyProof.Rows L2

section
variable {T : Kt} {H0 : Hp} {σ : L2.St} {H G : Hp} {env : Env'}
theorem get_set {α : Type} {l : List α} {i j : Nat} {a b : α} (e : (l.set i a)[j]? = some b) : (i = j ∧ b = a ∧ i < l.length) ∨ (i ≠ j ∧ l[j]? = some b) := by
  by_cases q : i = j
  · subst q
    have hl : i < l.length := by
      rcases Nat.lt_or_ge i l.length with z | z
      · exact z
      · rw [List.getElem?_eq_none (by simpa using z)] at e; cases e
    rw [List.getElem?_set_self hl] at e
    cases e
    exact .inl ⟨rfl, rfl, hl⟩
  · rw [List.getElem?_set_ne q] at e
    exact .inr ⟨q, e⟩
/-- a slot gets a fresh thing of its own -/
theorem Mat.setc (m : Mat T H0 σ H G env) {a : Addr} {c0 : Cell} (i : Nat) (hr : CRep T H0 G H (.ref a) c0)
    (fresh : ∀ (j : Nat) (c : Cell), env[j]? = some (some c) → c.isVal = false → σ[j]? = some (some (.ref a)) → False) : Mat T H0 (σ.set i (some (.ref a))) H G (env.set i (some c0)) := by
  refine ⟨m.gh, by simp [m.len], fun j c e => ?_, fun j k c d' b e1 e2 n1 n2 s1 s2 => ?_⟩
  · rcases get_set e with ⟨rfl, q, hl⟩ | ⟨q, e⟩
    · cases q
      exact ⟨.ref a, by rw [List.getElem?_set_self (by rw [← m.len]; exact hl)], hr⟩
    · rw [List.getElem?_set_ne q]
      exact m.sl j c e
  · rcases get_set e1 with ⟨rfl, q, hl⟩ | ⟨q, e1⟩ <;> rcases get_set e2 with ⟨rfl, q', hl'⟩ | ⟨q', e2⟩
    · rfl
    · rw [List.getElem?_set_self (by rw [← m.len]; exact hl)] at s1
      rw [List.getElem?_set_ne q'] at s2
      cases s1
      exact (fresh k d' e2 n2 s2).elim
    · rw [List.getElem?_set_self (by rw [← m.len]; exact hl')] at s2
      rw [List.getElem?_set_ne q] at s1
      cases s2
      exact (fresh j c e1 n1 s1).elim
    · rw [List.getElem?_set_ne q] at s1
      rw [List.getElem?_set_ne q'] at s2
      exact m.dj j k c d' b e1 e2 n1 n2 s1 s2
theorem Mat.seto (m : Mat T H0 σ H G env) {a : Addr} {vs : List V} {ds : List D} (i : Nat) (h1 : H a = some (.lst vs)) (h2 : G a = none) (h3 : H0 a = none) (r : Reps T G vs ds)
    (fresh : ∀ (j : Nat) (c : Cell), env[j]? = some (some c) → c.isVal = false → σ[j]? = some (some (.ref a)) → False) : Mat T H0 (σ.set i (some (.ref a))) H G (env.set i (some (.own ds))) :=
  m.setc (c0 := .own ds) i ⟨a, vs, rfl, h1, h2, h3, r⟩ fresh
theorem Mat.setd (m : Mat T H0 σ H G env) {a : Addr} {vs : List V} {ks : List L2.Key} {ds : List D} (i : Nat) (h1 : H a = some (.dK (ks.zip vs))) (h2 : G a = none) (h3 : H0 a = none) (r : Reps T G vs ds) (hl : ks.length = ds.length)
    (fresh : ∀ (j : Nat) (c : Cell), env[j]? = some (some c) → c.isVal = false → σ[j]? = some (some (.ref a)) → False) : Mat T H0 (σ.set i (some (.ref a))) H G (env.set i (some (.dio ks ds))) :=
  m.setc (c0 := .dio ks ds) i ⟨a, vs, rfl, h1, h2, h3, r, hl⟩ fresh
theorem Mat.fresh (m : Mat T H0 σ H G env) {a : Addr} (h : H a = none) : ∀ (j : Nat) (c : Cell), env[j]? = some (some c) → c.isVal = false → σ[j]? = some (some (.ref a)) → False := fun j c e n s => by
  obtain ⟨v, h1, h2⟩ := m.sl j c e
  rw [h1] at s
  cases s
  cases c with
  | val d => cases n
  | own ds => obtain ⟨b, vs, e1, e2, _⟩ := h2; cases e1; rw [h] at e2; cases e2
  | dio ks ds => obtain ⟨b, vs, e1, e2, _⟩ := h2; cases e1; rw [h] at e2; cases e2
  | ins b c ds => obtain ⟨C, dx, vs, e1, _, e2, _⟩ := h2; cases e1; rw [h] at e2; cases e2
theorem Mat.own (m : Mat T H0 σ H G env) {i : Nat} {ds : List D} (e : env[i]? = some (some (.own ds))) : ∃ a vs, σ[i]? = some (some (.ref a)) ∧ H a = some (.lst vs) ∧ G a = none ∧ H0 a = none ∧ Reps T G vs ds := by
  obtain ⟨v, h1, a, vs, rfl, h2, h3, h4, h5⟩ := m.sl i _ e
  exact ⟨a, vs, h1, h2, h3, h4, h5⟩
theorem Mat.dio (m : Mat T H0 σ H G env) {i : Nat} {ks : List L2.Key} {ds : List D} (e : env[i]? = some (some (.dio ks ds))) : ∃ a vs, σ[i]? = some (some (.ref a)) ∧ H a = some (.dK (ks.zip vs)) ∧ G a = none ∧ H0 a = none ∧ Reps T G vs ds ∧ ks.length = ds.length := by
  obtain ⟨v, h1, a, vs, rfl, h2, h3, h4, h5, h6⟩ := m.sl i _ e
  exact ⟨a, vs, h1, h2, h3, h4, h5, h6⟩
/-- the own thing at a is changed -/
theorem Mat.updc (m : Mat T H0 σ H G env) {i : Nat} {a : Addr} {c0 c1 : Cell} {o : HO} (e : env[i]? = some (some c0)) (v0 : c0.isVal = false) (s : σ[i]? = some (some (.ref a))) (h2 : G a = none) (hr : CRep T H0 G (upd H a o) (.ref a) c1) :
    Mat T H0 σ (upd H a o) G (env.set i (some c1)) := by
  refine ⟨fun b o z => ?_, by simp [m.len], fun j c e' => ?_, fun j k c d' b e1 e2 n1 n2 s1 s2 => ?_⟩
  · rw [upd_ne (show b ≠ a from fun w => by subst w; rw [h2] at z; cases z)]
    exact m.gh _ _ z
  · rcases get_set e' with ⟨rfl, q, hl⟩ | ⟨q, e'⟩
    · cases q
      exact ⟨.ref a, s, hr⟩
    · obtain ⟨v, z1, z2⟩ := m.sl j c e'
      refine ⟨v, z1, ?_⟩
      cases c with
      | val d => exact z2
      | own es =>
        obtain ⟨b, ws, rfl, y1, y2, y3, y4⟩ := z2
        refine ⟨b, ws, rfl, ?_, y2, y3, y4⟩
        rw [upd_ne (show b ≠ a from fun w => q (m.dj i j _ _ a e e' v0 rfl s (by rw [← w]; exact z1)))]
        exact y1
      | dio ks es =>
        obtain ⟨b, ws, rfl, y1, y2, y3, y4⟩ := z2
        refine ⟨b, ws, rfl, ?_, y2, y3, y4⟩
        rw [upd_ne (show b ≠ a from fun w => q (m.dj i j _ _ a e e' v0 rfl s (by rw [← w]; exact z1)))]
        exact y1
      | ins b c es =>
        obtain ⟨C, dx, ws, rfl, y0, y1, y5, y2, y3, y4⟩ := z2
        refine ⟨C, dx, ws, rfl, y0, ?_, y5, y2, y3, y4⟩
        rw [upd_ne (show b ≠ a from fun w => q (m.dj i j _ _ a e e' v0 rfl s (by rw [← w]; exact z1)))]
        exact y1
  · have key : ∀ (j : Nat) (c : Cell), (env.set i (some c1))[j]? = some (some c) → c.isVal = false → ∃ c', env[j]? = some (some c') ∧ c'.isVal = false := fun j c e n => by
      rcases get_set e with ⟨rfl, q, hl⟩ | ⟨q, e⟩
      · exact ⟨_, by assumption, v0⟩
      · exact ⟨c, e, n⟩
    obtain ⟨c1, x1, y1⟩ := key j c e1 n1
    obtain ⟨c2, x2, y2⟩ := key k d' e2 n2
    exact m.dj j k c1 c2 b x1 x2 y1 y2 s1 s2
theorem Mat.updo (m : Mat T H0 σ H G env) {i : Nat} {a : Addr} {ds ds' : List D} {vs' : List V} (e : env[i]? = some (some (.own ds))) (s : σ[i]? = some (some (.ref a))) (h2 : G a = none) (h3 : H0 a = none) (r : Reps T G vs' ds') :
    Mat T H0 σ (upd H a (.lst vs')) G (env.set i (some (.own ds'))) := m.updc (c1 := .own ds') e rfl s h2 ⟨a, vs', rfl, upd_same, h2, h3, r⟩
theorem Mat.updd (m : Mat T H0 σ H G env) {i : Nat} {a : Addr} {ks ks' : List L2.Key} {ds ds' : List D} {vs' : List V} (e : env[i]? = some (some (.dio ks ds))) (s : σ[i]? = some (some (.ref a))) (h2 : G a = none) (h3 : H0 a = none) (r : Reps T G vs' ds') (hl : ks'.length = ds'.length) :
    Mat T H0 σ (upd H a (.dK (ks'.zip vs'))) G (env.set i (some (.dio ks' ds'))) := m.updc (c1 := .dio ks' ds') e rfl s h2 ⟨a, vs', rfl, upd_same, h2, h3, r, hl⟩
/-- the own thing stands fast from here on -/
theorem Mat.frzc (m : Mat T H0 σ H G env) {i : Nat} {a : Addr} {c0 : Cell} {d0 : D} {o : HO} (e : env[i]? = some (some c0)) (v0 : c0.isVal = false) (s : σ[i]? = some (some (.ref a))) (h1 : H a = some o) (h2 : G a = none) (r : Rep T (upd G a o) (.ref a) d0) :
    Mat T H0 σ H (upd G a o) (env.set i (some (.val d0))) := by
  have sg : Same G (upd G a o) := same_upd h2
  refine ⟨fun b o z => ?_, by simp [m.len], fun j c e' => ?_, fun j k c d' b e1 e2 n1 n2 s1 s2 => ?_⟩
  · by_cases w : b = a
    · subst w; rw [upd_same] at z; rw [h1]; exact z
    · rw [upd_ne w] at z; exact m.gh _ _ z
  · rcases get_set e' with ⟨rfl, q, hl⟩ | ⟨q, e'⟩
    · cases q
      exact ⟨.ref a, s, r⟩
    · obtain ⟨v, z1, z2⟩ := m.sl j c e'
      refine ⟨v, z1, ?_⟩
      cases c with
      | val d => exact Rep.mono sg z2
      | own es =>
        obtain ⟨b, ws, rfl, y1, y2, y3, y4⟩ := z2
        refine ⟨b, ws, rfl, y1, ?_, y3, y4.mono sg⟩
        rw [upd_ne (show b ≠ a from fun w => q (m.dj i j _ _ a e e' v0 rfl s (by rw [← w]; exact z1)))]
        exact y2
      | dio ks es =>
        obtain ⟨b, ws, rfl, y1, y2, y3, y4, y5⟩ := z2
        refine ⟨b, ws, rfl, y1, ?_, y3, y4.mono sg, y5⟩
        rw [upd_ne (show b ≠ a from fun w => q (m.dj i j _ _ a e e' v0 rfl s (by rw [← w]; exact z1)))]
        exact y2
      | ins b c es =>
        obtain ⟨C, dx, ws, rfl, y0, y1, y5, y2, y3, y4⟩ := z2
        refine ⟨C, dx, ws, rfl, y0, y1, y5, ?_, y3, y4.mono sg⟩
        rw [upd_ne (show b ≠ a from fun w => q (m.dj i j _ _ a e e' v0 rfl s (by rw [← w]; exact z1)))]
        exact y2
  · have key : ∀ (j : Nat) (c : Cell), (env.set i (some (.val d0)))[j]? = some (some c) → c.isVal = false → env[j]? = some (some c) := fun j c e n => by
      rcases get_set e with ⟨rfl, q, hl⟩ | ⟨q, e⟩
      · cases q; cases n
      · exact e
    exact m.dj j k c d' b (key j c e1 n1) (key k d' e2 n2) n1 n2 s1 s2
theorem Mat.frz (m : Mat T H0 σ H G env) {i : Nat} {a : Addr} {ds : List D} {vs : List V} (e : env[i]? = some (some (.own ds))) (s : σ[i]? = some (some (.ref a))) (h1 : H a = some (.lst vs)) (h2 : G a = none) (r : Reps T G vs ds) :
    Mat T H0 σ H (upd G a (.lst vs)) (env.set i (some (.val (.lst ds)))) := m.frzc e rfl s h1 h2 (.lst upd_same (r.mono (same_upd h2)))
theorem Mat.frzd (m : Mat T H0 σ H G env) {i : Nat} {a : Addr} {ks : List L2.Key} {ds : List D} {vs : List V} (e : env[i]? = some (some (.dio ks ds))) (s : σ[i]? = some (some (.ref a))) (h1 : H a = some (.dK (ks.zip vs))) (h2 : G a = none) (r : Reps T G vs ds) (hl : ks.length = ds.length) :
    Mat T H0 σ H (upd G a (.dK (ks.zip vs))) (env.set i (some (.val (.dic ks ds)))) := m.frzc e rfl s h1 h2 (.dic upd_same hl (r.mono (same_upd h2)))
theorem Mat.unset (m : Mat T H0 σ H G env) (i : Nat) : Mat T H0 (σ.set i none) H G (env.set i none) := by
  refine ⟨m.gh, by simp [m.len], fun j c e => ?_, fun j k c d' b e1 e2 n1 n2 s1 s2 => ?_⟩
  · rcases get_set e with ⟨rfl, q, hl⟩ | ⟨q, e⟩
    · cases q
    · rw [List.getElem?_set_ne q]; exact m.sl j c e
  · rcases get_set e1 with ⟨rfl, q, hl⟩ | ⟨q, e1⟩
    · cases q
    · rcases get_set e2 with ⟨rfl, q', hl⟩ | ⟨q', e2⟩
      · cases q'
      · rw [List.getElem?_set_ne q] at s1
        rw [List.getElem?_set_ne q'] at s2
        exact m.dj j k c d' b e1 e2 n1 n2 s1 s2
end
theorem Fr.updo {G0 H0 G H : Hp} (f : Fr G0 H0 G H) {a : Addr} {o : HO} (h2 : G a = none) (h3 : H0 a = none) : Fr G0 H0 G (upd H a o) :=
  ⟨fun b x e => by rw [upd_ne (ne_of_none e h3)]; exact f.h b x e, f.g, fun b x e => by rw [upd_ne (ne_of_none e h2)]; exact f.s b x e, f.n⟩
theorem Fr.frz {G0 H0 G H : Hp} (f : Fr G0 H0 G H) {a : Addr} {o : HO} (h1 : H a = some o) (h2 : G a = none) (h3 : H0 a = none) : Fr G0 H0 (upd G a o) H where
  h := f.h
  g := f.g.trans (same_upd h2)
  s := fun b x e => by
    by_cases q : b = a
    · subst q; rw [upd_same] at e; rw [h1]; exact e
    · rw [upd_ne q] at e; exact f.s b x e
  n := fun b x e => by
    by_cases q : b = a
    · subst q; exact .inr h3
    · rw [upd_ne q] at e; exact f.n b x e

/-! ### lists of one's own -/
def PO (T : Kt) (G H : Hp) (Q : VK) : List D → Prop := fun ds => ∀ a vs H' G', Fr G H G' H' → H a = none → H' a = some (.lst vs) → G' a = none → Reps T G' vs ds → Q (.ref a) H'
def SO (T : Kt) (W : WX) (te : TE) (env : Env') (m : Res (List D)) : Prop := ∀ H0 σ H G, Mat T H0 σ H G env → ∀ Q : VK, m.sat (PO T G H Q) (EX T (WE W σ) G H) → te σ H Q
structure PXO (X : Cx) (T : Kt) (W : WX) (e : Expr) (env : Env') (m : Res (List D)) : Prop where
  ex : ∃ t, PE X e t ∧ SO T W t env m
def lstV (m : Res (List D)) : Res D := m.bind fun l => .ok (.lst l)
@[simp] theorem lstV_ok (l : List D) : lstV (.ok l) = .ok (.lst l) := id rfl

section
variable {X : Cx} {T : Kt} {W : WX} {k : Nat} {x : Xk} {env : Env'} {a b c e o : Expr} {es : List Expr} {st : Stmt} {rest : List Stmt} {ma mb mc me : Res D} {pos : Pos} {O L S : Type} {m : Res O} {ι : O → Fl L S} {el : L → Env'} {eo : S → Env'}

theorem PXO.px {mo : Res (List D)} (h : PXO X T W e env mo) : PX X T W e env (lstV mo) := by
  obtain ⟨t, p, s⟩ := h.ex
  refine ⟨_, p, fun H0 σ H G M Q h => ?_⟩
  refine s H0 σ H G M _ ((Res.sat_bind h).mono (fun l hl a vs H' G' f h1 h2 h3 r => ?_) fun _ _ z => z)
  exact hl (.ref a) H' (upd G' a (.lst vs)) (f.frz h2 h3 h1) (.lst upd_same (r.mono (same_upd h3)))
def dispR (ms : Res (List D)) : Res (List D) := ms.bind fun l => if l.length ≤ sizeLine then .ok l else .bad
theorem pxo_lst {ms : Res (List D)} (h : PAX X T W es env ms) : PXO X T W (.List es pos) env (dispR ms) := by
  obtain ⟨t, p, s⟩ := h.ex
  refine ⟨_, pe_lst p, fun H0 σ H G M Q h => ?_⟩
  refine s H0 σ H G M _ ((Res.sat_bind h).mono (fun l hl vs H1 G1 f1 r1 => ?_) fun _ _ z => z)
  by_cases hz : l.length ≤ sizeLine
  · rw [if_pos hz] at hl
    exact ⟨by rw [r1.length]; exact hz, fun q nq => hl q vs _ G1 (f1.trans (Fr.newH f1.s nq)) (f1.h.free nq) upd_same (f1.s.free nq) r1⟩
  · rw [if_neg hz] at hl; exact hl.elim
/-- operators that make lists -/
def OpO (T : Kt) (r : R2) (f : D → D → Option (List D)) : Prop := ∀ x y d e G H (Q : VK), Same G H → Rep T G x d → Rep T G y e → ∀ z, f d e = some z → PO T G H Q z → r x y H Q
def op2o (f : D → D → Option (List D)) (ma mb : Res D) : Res (List D) := ma.bind fun a => mb.bind fun b => .ofO (f a b)
@[simp] theorem op2o_ok (f : D → D → Option (List D)) (a b : D) : op2o f (.ok a) (.ok b) = .ofO (f a b) := id rfl
theorem PO.fr {Q : VK} {G H G1 H1 : Hp} (f : Fr G H G1 H1) {d : List D} (h : PO T G H Q d) : PO T G1 H1 Q d := fun a vs H' G' f' h1 => h a vs H' G' (f.trans f') (f.h.free h1)
theorem pxo_op {op : Operator} {r : R2} {f : D → D → Option (List D)} (ho : OpR X (binaryOp op) r) (hd : OpO T r f) (ha : PX X T W a env ma) (hb : PX X T W b env mb) : PXO X T W (.BinOp a op b pos) env (op2o f ma mb) := by
  obtain ⟨ta, pa, sa⟩ := ha.ex
  obtain ⟨tb, pb, sb⟩ := hb.ex
  refine ⟨_, pe_op ho pa pb, fun H0 σ H G M Q h => ?_⟩
  refine sa H0 σ H G M _ ((Res.sat_bind h).mono (fun x hx v1 H1 G1 f1 r1 => ?_) fun _ _ z => z)
  refine sb H0 σ H1 G1 (M.fr f1) _ ((Res.sat_bind hx).mono (fun y hy v2 H2 G2 f2 r2 => ?_) fun _ _ z => z.fr f1)
  cases hf : f x y with
  | none => rw [hf] at hy; exact hy.elim
  | some w =>
    rw [hf] at hy
    exact hd _ _ x y G2 H2 Q f2.s (r1.mono f2.g) r2 w hf ((PO.fr f1 hy).fr f2)
def catO : D → D → Option (List D)
  | .lst a, .lst b => if a.length + b.length ≤ sizeLine then some (a ++ b) else none
  | _, _ => none
theorem oo_cat : OpO T (rAddAll T.K) catO := by
  intro x y d e G H Q s rx ry z hz q
  unfold catO at hz
  split at hz
  · split at hz
    · rename_i hl
      cases hz
      cases rx with
      | lst h1 r1 => cases ry with
        | lst h2 r2 => exact .inr (.inl ⟨_, _, _, _, rfl, rfl, s _ _ h1, s _ _ h2, by rw [r1.length, r2.length]; exact hl, fun p np => q p _ _ G (Fr.newH s np) np upd_same (s.free np) (r1.append r2)⟩)
    · cases hz
  · cases hz
def repO : D → D → Option (List D)
  | .lst a, .int k => if -(2 ^ 63) ≤ k ∧ k < 2 ^ 63 ∧ a.length * k.toNat ≤ sizeLine then some (List.replicate k.toNat a).flatten else none
  | _, _ => none
theorem oo_rep : OpO T rMulAll repO := by
  intro x y d e G H Q s rx ry z hz q
  unfold repO at hz
  split at hz
  · split at hz
    · rename_i hl
      cases hz
      cases rx with
      | lst h1 r1 => cases ry with
        | int k => exact .inl ⟨_, _, _, rfl, rfl, s _ _ h1, hl.1, hl.2.1, by rw [r1.length]; exact hl.2.2, fun p np => q p _ _ G (Fr.newH s np) np upd_same (s.free np) (reps_rep r1 _)⟩
    · cases hz
  · cases hz
/-- list(xs) -/
def listO : List D → Option (List D)
  | [.lst l] => some l
  | [.scr l] => some l
  | [.tup l] => some l
  | _ => none
def callOo (f : List D → Option (List D)) (ms : Res (List D)) : Res (List D) := ms.bind fun l => .ofO (f l)
@[simp] theorem callOo_ok (f : List D → Option (List D)) (l : List D) : callOo f (.ok l) = .ofO (f l) := id rfl
theorem pxo_list {p : Pos} {ms : Res (List D)} (hk : X.K = T.K) (hg : Gl X "list") (hm : X.mg "list" = none) (ha : PAX X T W (e :: es) env ms)
    (he : starEach (e :: es) X.env = (false, eval e X.env) :: starEach es X.env := by rfl) (hpl : (backTo pos (starEach es X.env)).any (·.1) = false := by rfl) :
    PXO X T W (.Call (.Name "list" p) (e :: es) [] pos) env (callOo listO ms) := by
  obtain ⟨t, pa, sa⟩ := ha.ex
  refine ⟨_, pe_callTy call_list_of hg hm (by decide +kernel) pa (by decide) (by decide) he hpl, fun H0 σ H G M Q h => ?_⟩
  refine sa H0 σ H G M _ ((Res.sat_bind h).mono (fun l hl vs H1 G1 f1 r1 => ?_) fun _ _ z => z)
  rw [hk]
  cases hf : listO l with
  | none => rw [hf] at hl; exact hl.elim
  | some w =>
    rw [hf] at hl
    have q : PO T G1 H1 Q w := PO.fr f1 hl
    unfold listO at hf
    split at hf <;> cases hf <;> (obtain ⟨x, rfl, rr⟩ := reps1 r1; cases rr)
    · exact ⟨_, _, rfl, .inl (SqL.of (f1.s _ _ (by assumption))), fun p np => q p _ _ G1 (Fr.newH f1.s np) np upd_same (f1.s.free np) (by assumption)⟩
    · exact ⟨_, _, rfl, .inl (f1.s.seq (by assumption)), fun p np => q p _ _ G1 (Fr.newH f1.s np) np upd_same (f1.s.free np) (by assumption)⟩
    · exact ⟨_, _, rfl, .inr (sqT_same f1.s (by assumption)), fun p np => q p _ _ G1 (Fr.newH f1.s np) np upd_same (f1.s.free np) (by assumption)⟩
/-- xs[a:b] of a list -/
def sliceO (m : Res D) (lo hi : Option (Res D)) : Res (List D) := m.bind fun d => (partR lo).bind fun l => (partR hi).bind fun h => match d with
  | .lst x => .ok (cutD x l h)
  | .scr x => .ok (cutD x l h)
  | _ => .bad
theorem pxo_slice {m : Res D} {lo hi : Option Expr} {ml mh : Option (Res D)} {p2 : Pos} (hk : X.K = T.K) (he : PX X T W e env m) (hl : POX X T W lo env ml) (hh : POX X T W hi env mh) : PXO X T W (.Subscript e (.Slice lo hi none p2) pos) env (sliceO m ml mh) := by
  obtain ⟨t, p, s⟩ := he.ex
  obtain ⟨tl, pl, sl⟩ := hl.ex
  obtain ⟨th, ph, sh⟩ := hh.ex
  refine ⟨_, pe_slice sl_list p pl ph, fun H0 σ H G M Q h => ?_⟩
  refine s H0 σ H G M _ ((Res.sat_bind h).mono (fun x hx v1 H1 G1 f1 r1 => ?_) fun _ _ z => z)
  refine sl H0 σ H1 G1 (M.fr f1) _ ((Res.sat_bind hx).mono (fun o1 hy H2 G2 f2 => ?_) fun _ _ z => z.fr f1)
  refine sh H0 σ H2 G2 (M.fr (f1.trans f2)) _ ((Res.sat_bind hy).mono (fun o2 hz H3 G3 f3 => ?_) fun _ _ z => z.fr (f1.trans f2))
  have f13 := (f1.trans f2).trans f3
  have r3 := r1.mono (f2.trans f3).g
  rw [hk]
  cases r3 <;> try exact hz.elim
  · rename_i e r
    exact ⟨_, _, rfl, SqL.of (f13.s _ _ e), fun q nq => PO.fr f13 hz q _ _ G3 (Fr.newH f13.s nq) nq upd_same (f13.s.free nq) (cutV_len r _ _)⟩
  · rename_i e r
    exact ⟨_, _, rfl, f13.s.seq e, fun q nq => PO.fr f13 hz q _ _ G3 (Fr.newH f13.s nq) nq upd_same (f13.s.free nq) (cutV_len r _ _)⟩
/-- x = e, a new list that x alone holds -/
theorem pb_asgO (i : Nat) {y : Str} {pos' : Pos} {mo : Res (List D)} {k : List D → Res O} (hN : X.N.Nodup) (hi : X.N[i]? = some y) (hx : Loc X.env.scope y) (he : PXO X T W e env mo) (hs : swapsWith e (some (.Name y pos')) pos.line X.env = pure false)
    (hf : X.fn y = true ∨ X.env.scope.names.lookup y = some .local) (hr : ∀ d, PBX X T W x rest (env.set i (some (.own d))) (k d) ι el eo) :
    PBX X T W x (.Assign [.Name y pos'] e pos :: rest) env (mo.bind k) ι el eo := by
  obtain ⟨te, pe, se⟩ := he.ex
  obtain ⟨u, pu, su⟩ := PBX.all hr
  refine ⟨_, pss_cons (ps_set hN hi hx pe hs hf) pu, fun G0 H0 σ H G F M Dn nx hx h => ?_⟩
  refine se H0 σ H G M _ ((sat_ex F (Res.sat_bind h)).mono (fun d hd a vs H1 G1 f1 h1 h2 h3 r1 => ?_) fun _ _ z => z)
  exact su d G0 H0 _ H1 G1 (F.trans f1) ((M.fr f1).seto i h2 h3 (F.h.free h1) r1 (M.fresh h1)) Dn nx hx hd
def appR {O : Type} (ds : List D) (me : Res D) (k : List D → Res O) : Res O := me.bind fun d => if ds.length < sizeLine then k (ds ++ [d]) else .bad
@[simp] theorem appR_ok {O : Type} (ds : List D) (d : D) (k : List D → Res O) : appR ds (.ok d) k = if ds.length < sizeLine then k (ds ++ [d]) else .bad := id rfl
def setR {O : Type} (ds : List D) (me mq : Res D) (k : List D → Res O) : Res O := me.bind fun d => mq.bind fun j => match j with
  | .int n => (match ixN ds.length n with
    | some z => k (ds.set z d)
    | none => .bad)
  | _ => .bad
/-- x.append(e) -/
theorem pb_append (i : Nat) {ds : List D} {o : Expr} {p1 p2 : Pos} {k : List D → Res O} (hk : X.K = T.K) (hi : env[i]? = some (some (.own ds))) (he : PX X T W e env me)
    (hpe : ∀ te, PE X e te → PS X st (tDrop (tBM X.K "list" rAppend (tVar i) (tCons te tNil)))) (hr : ∀ d, PBX X T W x rest (env.set i (some (.own d))) (k d) ι el eo) :
    PBX X T W x (st :: rest) env (appR ds me k) ι el eo := by
  obtain ⟨te, pe, se⟩ := he.ex
  obtain ⟨u, pu, su⟩ := PBX.all hr
  refine ⟨_, pss_cons (hpe te pe) pu, fun G0 H0 σ H G F M Dn nx hx h => ?_⟩
  obtain ⟨a, vs, s1, h1, h2, h3, r⟩ := M.own hi
  refine ⟨_, s1, .inl ⟨rfl, _, SqL.of h1⟩, ?_⟩
  refine se H0 σ H G M _ ((sat_ex F (Res.sat_bind h)).mono (fun d hd v1 H1 G1 f1 r1 => ?_) fun _ _ z => z)
  have M1 := M.fr f1
  obtain ⟨a', vs', s1', h1', h2', h3', r'⟩ := M1.own hi
  rw [s1] at s1'
  cases s1'
  by_cases hl : ds.length < sizeLine
  · rw [if_pos hl] at hd
    refine ⟨a, vs', v1, rfl, rfl, h1', by rw [r'.length]; exact hl, ?_⟩
    exact su _ G0 H0 _ _ G1 ((F.trans f1).updo h2' h3') (M1.updo hi s1 h2' h3' (r'.append (.cons r1 .nil))) Dn nx hx hd
  · rw [if_neg hl] at hd; exact hd.elim
/-- x[i] = e -/
theorem pb_setitem (i : Nat) {ds : List D} {q : Expr} {mq : Res D} {k : List D → Res O} (hi : env[i]? = some (some (.own ds))) (he : PX X T W e env me) (hq : PX X T W q env mq)
    (hpe : ∀ te tq, PE X e te → PE X q tq → PS X st (tAsg te (gSub (tVar i) tq rSetL))) (hr : ∀ d, PBX X T W x rest (env.set i (some (.own d))) (k d) ι el eo) :
    PBX X T W x (st :: rest) env (setR ds me mq k) ι el eo := by
  obtain ⟨te, pe, se⟩ := he.ex
  obtain ⟨tq, pq, sq⟩ := hq.ex
  obtain ⟨u, pu, su⟩ := PBX.all hr
  refine ⟨_, pss_cons (hpe te tq pe pq) pu, fun G0 H0 σ H G F M Dn nx hx h => ?_⟩
  refine se H0 σ H G M _ ((sat_ex F (Res.sat_bind h)).mono (fun d hd v1 H1 G1 f1 r1 => ?_) fun _ _ z => z)
  have M1 := M.fr f1
  obtain ⟨a, vs, s1, h1, h2, h3, r⟩ := M1.own hi
  refine ⟨_, s1, ?_⟩
  refine sq H0 σ H1 G1 M1 _ ((sat_ex (F.trans f1) (Res.sat_bind hd)).mono (fun j hj v2 H2 G2 f2 r2 => ?_) fun _ _ z => z)
  have M2 := M1.fr f2
  obtain ⟨a', vs', s1', h1', h2', h3', r'⟩ := M2.own hi
  rw [s1] at s1'
  cases s1'
  cases r2 <;> try exact hj.elim
  rename_i n
  cases hz : ixN ds.length n with
  | none => simp only [hz] at hj; exact hj.elim
  | some z =>
    simp only [hz] at hj
    refine ⟨a, vs', n, z, rfl, rfl, h1', by rw [r'.length]; exact hz, ?_⟩
    exact su _ G0 H0 _ _ G2 (((F.trans f1).trans f2).updo h2' h3') (M2.updo hi s1 h2' h3' (Reps.set (r1.mono f2.g) z r')) Dn nx hx hj
/-- from here on the list stands fast -/
theorem pb_frz (i : Nat) {ds : List D} {sts : List Stmt} (hi : env[i]? = some (some (.own ds))) (h : PBX X T W x sts (env.set i (some (.val (.lst ds)))) m ι el eo) : PBX X T W x sts env m ι el eo := by
  obtain ⟨u, pu, su⟩ := h.ex
  refine ⟨u, pu, fun G0 H0 σ H G F M Dn nx hx h => ?_⟩
  obtain ⟨a, vs, s1, h1, h2, h3, r⟩ := M.own hi
  exact su G0 H0 σ H _ (F.frz h1 h2 h3) (M.frz hi s1 h1 h2 r) Dn nx hx h

/-! reading a list of one's own -/
def D.scalar : D → Bool
  | .non => true
  | .bl _ => true
  | .int _ => true
  | .str _ => true
  | _ => false
def scaR (m : Res D) : Res D := m.bind fun d => if d.scalar then .ok d else .bad
@[simp] theorem scaR_int (i : Int) : scaR (.ok (.int i)) = .ok (.int i) := id rfl
@[simp] theorem scaR_bl (i : Bool) : scaR (.ok (.bl i)) = .ok (.bl i) := id rfl
@[simp] theorem scaR_non : scaR (.ok .non) = .ok .non := id rfl
@[simp] theorem scaR_str (s : Str) : scaR (.ok (.str s)) = .ok (.str s) := id rfl
/-- G' without a -/
def wo (G : Hp) (a : Addr) : Hp := fun b => if b = a then none else G b
theorem wo_same {G : Hp} {a : Addr} : wo G a a = none := if_pos rfl
theorem wo_ne {G : Hp} {a b : Addr} (h : b ≠ a) : wo G a b = G b := if_neg h
theorem Fr.borrow {G H G' H' : Hp} {a : Addr} {o : HO} (h2 : G a = none) (f : Fr (upd G a o) H G' H') : Fr G H (wo G' a) H' where
  h := f.h
  g := fun b x e => by
    have n : b ≠ a := ne_of_none e h2
    rw [wo_ne n]
    exact f.g b x (by rw [upd_ne n]; exact e)
  s := fun b x e => by
    by_cases n : b = a
    · rw [n, wo_same] at e; cases e
    · rw [wo_ne n] at e; exact f.s b x e
  n := fun b x e => by
    by_cases n : b = a
    · rw [n, wo_same] at e; cases e
    · rw [wo_ne n] at e
      rcases f.n b x e with z | z
      · rw [upd_ne n] at z; exact .inl z
      · exact .inr z
theorem rep_scalar {G G' : Hp} {v : V} {d : D} (r : Rep T G v d) (h : d.scalar = true) : Rep T G' v d := by
  cases r <;> first | exact .non | exact .bl _ | exact .int _ | exact .str _ | cases h
/-- no error -/
def noErr {α : Type} (m : Res α) : Res α := match m with
  | .ok a => .ok a
  | _ => .bad
@[simp] theorem noErr_ok {α : Type} (a : α) : noErr (.ok a) = .ok a := id rfl
theorem noErr_sat {α : Type} {m : Res α} {P : α → Prop} {E E' : Nat → List D → Prop} (h : (noErr m).sat P E) : m.sat P E' := by
  cases m <;> first | exact h | exact h.elim
theorem px_bor (i : Nat) {ds : List D} (hi : env[i]? = some (some (.own ds))) (h : PX X T W e (env.set i (some (.val (.lst ds)))) me) : PX X T W e env (scaR (noErr me)) := by
  obtain ⟨t, p, s⟩ := h.ex
  refine ⟨t, p, fun H0 σ H G M Q h => ?_⟩
  obtain ⟨a, vs, s1, h1, h2, h3, r⟩ := M.own hi
  refine s H0 σ H _ (M.frz hi s1 h1 h2 r) _ (noErr_sat ((Res.sat_bind h).mono (fun d hd v H' G' f r' => ?_) (E' := fun _ _ => True) fun _ _ _ => trivial))
  by_cases hs : d.scalar = true
  · rw [if_pos hs] at hd
    exact hd v H' _ (Fr.borrow h2 f) (rep_scalar r' hs)
  · rw [if_neg hs] at hd; exact hd.elim
theorem ptx_bor (i : Nat) {ds : List D} {mt : Res Bool} (hi : env[i]? = some (some (.own ds))) (h : PTX X T W e (env.set i (some (.val (.lst ds)))) mt) : PTX X T W e env (noErr mt) := by
  obtain ⟨t, p, s⟩ := h.ex
  refine ⟨t, p, fun H0 σ H G M Q h => ?_⟩
  obtain ⟨a, vs, s1, h1, h2, h3, r⟩ := M.own hi
  exact s H0 σ H _ (M.frz hi s1 h1 h2 r) _ (noErr_sat (h.mono (fun d hd H' G' f => hd H' _ (Fr.borrow h2 f)) (E' := fun _ _ => True) fun _ _ _ => trivial))
/-- x[e], x a list of one's own: any item -/
def ixO (ds : List D) (mq : Res D) : Res D := mq.bind fun j => match j with
  | .int n => .ofO (atI ds n)
  | _ => .bad
@[simp] theorem ixO_ok (ds : List D) (n : Int) : ixO ds (.ok (.int n)) = .ofO (atI ds n) := id rfl
theorem px_ixo (i : Nat) {ds : List D} {q : Expr} {mq : Res D} (hk : X.K = T.K) (hi : env[i]? = some (some (.own ds))) (ho : PE X o (tVar i)) (hq : PX X T W q env mq) (hs : PlainIx q) : PX X T W (.Subscript o q pos) env (ixO ds mq) := by
  obtain ⟨tq, pq, sq⟩ := hq.ex
  refine ⟨_, pe_ix ix_list ho pq hs, fun H0 σ H G M Q h => ?_⟩
  obtain ⟨a, vs, s1, h1, h2, h3, r⟩ := M.own hi
  refine ⟨_, s1, ?_⟩
  refine sq H0 σ H G M _ ((Res.sat_bind h).mono (fun j hj v2 H2 G2 f2 r2 => ?_) fun _ _ z => z)
  obtain ⟨a', vs', s1', h1', h2', h3', r'⟩ := (M.fr f2).own hi
  rw [s1] at s1'
  cases s1'
  rw [hk]
  cases r2 <;> try exact hj.elim
  rename_i n
  cases hz : atI ds n with
  | none => simp only [hz] at hj; exact hj.elim
  | some z =>
    simp only [hz] at hj
    obtain ⟨v, y1, y2⟩ := r'.atI hz
    exact ⟨a, vs', n, v, rfl, rfl, SqL.of h1', y1, PQ.fr f2 hj v H2 G2 (Fr.refl f2.s) y2⟩
end
end Px

namespace Px
open PySem PySem.Spec PyProof.Rows L2

/-! ### what is walked -/
structure Walks (T : Kt) (J : It) (Gi : Hp) (ds : List D) : Prop where
  stop : ∀ i H, Same Gi H → ds.length ≤ i → J.stop i H
  go : ∀ i H, Same Gi H → i < ds.length → J.go i H
  yld : ∀ i H x H' G, Same Gi G → Same G H → i < ds.length → J.yld i H x H' → ∃ d G', ds[i]? = some d ∧ Fr G H G' H' ∧ Rep T G' x d
def SI (T : Kt) (W : WX) (wi : TI) (env : Env') (m : Res (List D)) : Prop := ∀ H0 σ H G, Mat T H0 σ H G env → ∀ R : It → Hp → Prop, m.sat (fun ds => ∀ J H' G', Fr G H G' H' → Walks T J G' ds → R J H') (EX T (WE W σ) G H) → wi σ H R
structure PIX (X : Cx) (T : Kt) (W : WX) (tg iter : Expr) (env : Env') (m : Res (List D)) : Prop where
  ex : ∃ wi, PI X tg iter wi ∧ SI T W wi env m
theorem PI.or {X : Cx} {tg iter : Expr} {w w' : TI} (h : PI X tg iter w) (h' : PI X tg iter w') : PI X tg iter (fun σ H R => w σ H R ∨ w' σ H R) := ⟨fun pins s σ H R I q => by
  rcases q with q | q
  · exact h.run pins s σ H R I q
  · exact h'.run pins s σ H R I q⟩
def chars (s : Str) : List D := s.cps.toList.map fun c => .str ⟨#[c]⟩
def itemsD : D → Option (List D)
  | .lst l => some l
  | .scr l => some l
  | .tup l => some l
  | .str s => some (chars s)
  | _ => none
def itemsR (m : Res D) : Res (List D) := m.bind fun d => .ofO (itemsD d)
@[simp] theorem itemsR_ok (d : D) : itemsR (.ok d) = .ofO (itemsD d) := id rfl
theorem walks_list {T : Kt} {G : Hp} {a : Addr} {vs : List V} {ds : List D} (h : G a = some (.lst vs) ∨ SqL T.K G a vs) (r : Reps T G vs ds) : Walks T (Itl T.K a) G ds := by
  have hs : SqL T.K G a vs := by rcases h with h | h; exact SqL.of h; exact h
  refine ⟨fun i H s hi => ⟨vs, s.seq hs, by rw [r.length]; exact hi⟩, fun i H s hi => ?_, fun i H x H' G1 s s1 hi y => ?_⟩
  · obtain ⟨v, h1, _⟩ := r.get (List.getElem?_eq_getElem hi)
    exact ⟨vs, v, s.seq hs, h1⟩
  · obtain ⟨rfl, y⟩ := y
    obtain ⟨d, h1, h2⟩ := r.getV (y vs ((s.trans s1).seq hs))
    exact ⟨d, G1, h1, Fr.refl s1, h2.mono s⟩
theorem walks_tup {T : Kt} {G : Hp} {a : Addr} {vs : List V} {ds : List D} (hs : SqT T.K G a vs) (r : Reps T G vs ds) : Walks T (Itt T.K a) G ds := by
  refine ⟨fun i H s hi => ⟨vs, sqT_same s hs, by rw [r.length]; exact hi⟩, fun i H s hi => ?_, fun i H x H' G1 s s1 hi y => ?_⟩
  · obtain ⟨v, h1, _⟩ := r.get (List.getElem?_eq_getElem hi)
    exact ⟨vs, v, sqT_same s hs, h1⟩
  · obtain ⟨rfl, y⟩ := y
    obtain ⟨d, h1, h2⟩ := r.getV (y vs (sqT_same (s.trans s1) hs))
    exact ⟨d, G1, h1, Fr.refl s1, h2.mono s⟩
theorem walks_str {T : Kt} {G : Hp} (s : Str) : Walks T (Its s) G (chars s) := by
  have hl : (chars s).length = s.cps.size := by simp [chars]
  refine ⟨fun i H _ hi => by rw [hl] at hi; exact hi, fun i H _ hi => by rw [hl] at hi; exact hi, fun i H x H' G1 s0 s1 hi y => ?_⟩
  obtain ⟨rfl, c, h1, rfl⟩ := y
  refine ⟨.str ⟨#[c]⟩, G1, ?_, Fr.refl s1, .str _⟩
  unfold chars
  rw [List.getElem?_map]
  rw [show s.cps.toList[i]? = some c by simpa using h1]
  rfl
def intsD (lo : Int) (n : Nat) : List D := (List.range n).map fun (i : Nat) => D.int (lo + (i : Int))
theorem walks_range {T : Kt} {G : Hp} (lo : Int) (n : Nat) : Walks T (Itr lo n) G (intsD lo n) := by
  have hl : (intsD lo n).length = n := by simp [intsD]
  refine ⟨fun i H _ hi => by rw [hl] at hi; exact hi, fun i H _ hi => by rw [hl] at hi; exact hi, fun i H x H' G1 s0 s1 hi y => ?_⟩
  obtain ⟨rfl, rfl⟩ := y
  rw [hl] at hi
  refine ⟨.int (lo + i), G1, ?_, Fr.refl s1, .int _⟩
  unfold intsD
  rw [List.getElem?_map, List.getElem?_range hi]
  rfl
theorem Res.bind_sat {α β : Type} {m : Res α} {k : α → Res β} {P : β → Prop} {E : Nat → List D → Prop} (h : m.sat (fun a => (k a).sat P E) E) : (m.bind k).sat P E := by
  cases m with
  | ok a => exact h
  | err c vs => exact h
  | bad => exact h
def rng1 : List D → Option (List D)
  | [.int j] => if -(2 ^ 62) ≤ j ∧ j < 2 ^ 62 then some (intsD 0 j.toNat) else none
  | _ => none
def rng2 : List D → Option (List D)
  | [.int i, .int j] => if -(2 ^ 62) ≤ i ∧ i < 2 ^ 62 ∧ -(2 ^ 62) ≤ j ∧ j < 2 ^ 62 then some (intsD i (j - i).toNat) else none
  | _ => none

section
variable {X : Cx} {T : Kt} {W : WX} {k : Nat} {x : Xk} {env : Env'} {a b c e o tg iter : Expr} {es : List Expr} {st : Stmt} {rest body : List Stmt} {ma mb mc me : Res D} {pos : Pos} {O L S : Type} {m : Res O} {ι : O → Fl L S} {el : L → Env'} {eo : S → Env'}

theorem pix_seq (hk : X.K = T.K) (h : PX X T W e env me) : PIX X T W tg e env (itemsR me) := by
  obtain ⟨t, p, s⟩ := h.ex
  refine ⟨_, PI.or (pi_list p) (PI.or (pi_tup p) (pi_str p)), fun H0 σ H G M R h => ?_⟩
  rw [hk]
  cases hm : me with
  | bad => rw [hm] at h; exact h.elim
  | err c vs =>
    rw [hm] at h
    exact .inl (s H0 σ H G M _ (by rw [hm]; exact h))
  | ok d =>
    rw [hm] at h
    cases hd : itemsD d with
    | none => rw [itemsR_ok, hd] at h; exact h.elim
    | some l =>
      rw [itemsR_ok, hd] at h
      have go : ∀ Q, PQ T G H Q d → t σ H Q := fun Q hq => s H0 σ H G M Q (by rw [hm]; exact hq)
      unfold itemsD at hd
      split at hd <;> cases hd
      · refine .inl (go _ fun v H' G' f r => ?_)
        cases r with
        | lst h1 r => exact ⟨_, rfl, ⟨_, SqL.of (f.s _ _ h1)⟩, h _ H' G' f (walks_list (.inl h1) r)⟩
      · refine .inl (go _ fun v H' G' f r => ?_)
        cases r with
        | scr h1 r => exact ⟨_, rfl, ⟨_, f.s.seq h1⟩, h _ H' G' f (walks_list (.inr h1) r)⟩
      · refine .inr (.inl (go _ fun v H' G' f r => ?_))
        cases r with
        | tup h1 r => exact ⟨_, rfl, ⟨_, sqT_same f.s h1⟩, h _ H' G' f (walks_tup h1 r)⟩
      · refine .inr (.inr (go _ fun v H' G' f r => ?_))
        cases r with
        | str => exact ⟨_, rfl, h _ H' G' f (walks_str _)⟩
theorem pix_range1 {p pos : Pos} {ms : Res (List D)} (hg : Gl X "range") (hm : X.mg "range" = none) (ha : PAX X T W [a] env ms) (hs : starEach [a] X.env = [(false, eval a X.env)] := by rfl) : PIX X T W tg (.Call (.Name "range" p) [a] [] pos) env (callOo rng1 ms) := by
  obtain ⟨t, pa, s⟩ := ha.ex
  refine ⟨_, pi_range1 hg hm pa hs, fun H0 σ H G M R h => ?_⟩
  refine s H0 σ H G M _ ((Res.sat_bind h).mono (fun l hl vs H1 G1 f1 r1 => ?_) fun _ _ z => z)
  unfold rng1 at hl
  split at hl
  · split at hl
    · rename_i hb
      obtain ⟨y, rfl, rr⟩ := reps1 r1
      cases rr
      exact ⟨_, rfl, hb.1, hb.2, hl _ H1 G1 f1 (walks_range _ _)⟩
    · exact hl.elim
  · exact hl.elim
theorem pix_range2 {p pos : Pos} {ms : Res (List D)} (hg : Gl X "range") (hm : X.mg "range" = none) (ha : PAX X T W [a, b] env ms) (hs : starEach [a, b] X.env = [(false, eval a X.env), (false, eval b X.env)] := by rfl) (hs2 : starEach [b] X.env = [(false, eval b X.env)] := by rfl) :
    PIX X T W tg (.Call (.Name "range" p) [a, b] [] pos) env (callOo rng2 ms) := by
  obtain ⟨t, pa, s⟩ := ha.ex
  refine ⟨_, pi_range2 hg hm pa hs hs2, fun H0 σ H G M R h => ?_⟩
  refine s H0 σ H G M _ ((Res.sat_bind h).mono (fun l hl vs H1 G1 f1 r1 => ?_) fun _ _ z => z)
  unfold rng2 at hl
  split at hl
  · split at hl
    · rename_i hb
      obtain ⟨y, z, rfl, rr, rr'⟩ := reps2 r1
      cases rr
      cases rr'
      exact ⟨_, _, rfl, hb, hl _ H1 G1 f1 (walks_range _ _)⟩
    · exact hl.elim
  · exact hl.elim

/-! ### for -/
inductive Lp (S : Type) where
  | nx (s : S) | rt (d : D)
def forG {S O : Type} (ι : O → Fl S S) (fb : S → D → Res O) : List D → S → Res (Lp S)
  | [], s => .ok (.nx s)
  | d :: ds, s => (fb s d).bind fun o => match ι o with
    | .nx s' => forG ι fb ds s'
    | .ct s' => forG ι fb ds s'
    | .bk s' => .ok (.nx s')
    | .rt d => .ok (.rt d)
    | .ro _ => .bad
def lpK {S O : Type} (r : D → Res O) (k : S → Res O) : Lp S → Res O
  | .nx s => k s
  | .rt d => r d
@[simp] theorem lpK_nx {S O : Type} (r : D → Res O) (k : S → Res O) (s : S) : lpK r k (.nx s) = k s := id rfl
@[simp] theorem lpK_rt {S O : Type} (r : D → Res O) (k : S → Res O) (d : D) : lpK r k (.rt d) = r d := id rfl
/-- a loop without return, break -/
def forR {S : Type} (fb : S → D → Res S) : List D → S → Res S
  | [], s => .ok s
  | d :: ds, s => (fb s d).bind fun s' => forR fb ds s'
theorem forG_nx {S : Type} (fb : S → D → Res S) : ∀ (ds : List D) (s : S), forG Fl.nx fb ds s = (forR fb ds s).bind fun s => .ok (.nx s)
  | [], s => rfl
  | d :: ds, s => by
    unfold forG forR
    cases fb s d with
    | ok s' => exact forG_nx fb ds s'
    | err c vs => rfl
    | bad => rfl
theorem forG_cons {S O : Type} (ι : O → Fl S S) (fb : S → D → Res O) (d : D) (ds : List D) (s : S) : forG ι fb (d :: ds) s = (fb s d).bind fun o => match ι o with
    | .nx s' => forG ι fb ds s'
    | .ct s' => forG ι fb ds s'
    | .bk s' => .ok (.nx s')
    | .rt d => .ok (.rt d)
    | .ro _ => .bad := rfl

/-- what a target does with an item -/
def SG (T : Kt) (g : TG) (is : List Nat) (tb : Env' → D → Option Env') : Prop := ∀ H0 σ H G env v d env', Mat T H0 σ H G env → Rep T G v d → tb env d = some env' → ∀ Q : L2.St → Hp → Prop, (∀ σ', Mat T H0 σ' H G env' → (∀ vs : List Nat, (∀ i ∈ is, i ∈ vs) → wipe σ' vs = wipe σ vs) → Q σ' H) → g v σ H Q
structure PGX (X : Cx) (T : Kt) (tg : Expr) (is : List Nat) (tb : Env' → D → Option Env') : Prop where
  ex : ∃ g, PG X tg g ∧ SG T g is tb
theorem wipe_get (σ : L2.St) : ∀ (vs : List Nat) (j : Nat), (wipe σ vs)[j]? = if j ∈ vs ∧ j < σ.length then some none else σ[j]?
  | [], j => by simp [wipe]
  | v :: vs, j => by
    unfold wipe
    by_cases q : v = j
    · subst q
      by_cases hl : v < σ.length
      · rw [List.getElem?_set_self (by rw [wipe_length]; exact hl), if_pos ⟨List.mem_cons_self, hl⟩]
      · rw [if_neg (fun z => hl z.2), List.getElem?_eq_none (by rw [List.length_set, wipe_length]; omega), List.getElem?_eq_none (by omega)]
    · rw [List.getElem?_set_ne q, wipe_get σ vs j]
      have : (j ∈ v :: vs) ↔ j ∈ vs := by
        rw [List.mem_cons]
        exact ⟨fun z => z.resolve_left (fun w => q w.symm), .inr⟩
      simp only [this]
theorem wipe_set {σ : L2.St} {vs : List Nat} {i : Nat} {x : Option V} (h : i ∈ vs) : wipe (σ.set i x) vs = wipe σ vs := by
  apply List.ext_getElem?
  intro j
  rw [wipe_get, wipe_get, List.length_set]
  by_cases q : j ∈ vs ∧ j < σ.length
  · rw [if_pos q, if_pos q]
  · rw [if_neg q, if_neg q]
    by_cases w : i = j
    · subst w
      rw [List.getElem?_eq_none (by rw [List.length_set]; exact Nat.le_of_not_lt fun z => q ⟨h, z⟩), List.getElem?_eq_none (Nat.le_of_not_lt fun z => q ⟨h, z⟩)]
    · rw [List.getElem?_set_ne w]
theorem pgx_name (i : Nat) {y : Str} {pos : Pos} (hN : X.N.Nodup) (hi : X.N[i]? = some y) (hx : Loc X.env.scope y) (hf : X.fn y = true ∨ X.env.scope.names.lookup y = some .local) : PGX X T (.Name y pos) [i] (fun env d => some (env.set i (some (.val d)))) := by
  refine ⟨_, pg_name hN hi hx hf, fun H0 σ H G env v d env' M r e Q q => ?_⟩
  cases e
  exact q _ (M.setv r i) fun vs hv => wipe_set (hv i List.mem_cons_self)
def setAll : Env' → List Nat → List D → Option Env'
  | env, [], [] => some env
  | env, i :: is, d :: ds => setAll (env.set i (some (.val d))) is ds
  | _, _, _ => none
theorem sg_all {G H : Hp} {H0 : Hp} : ∀ (is : List Nat) {gs : TGs} (hg : gs = is.foldr (fun i g => gCons (gName i) g) gNil) {σ : L2.St} {env env' : Env'} {vs : List V} {ds : List D}, Mat T H0 σ H G env → Reps T G vs ds → setAll env is ds = some env' → ∀ Q : L2.St → Hp → Prop, (∀ σ', Mat T H0 σ' H G env' → (∀ vs : List Nat, (∀ i ∈ is, i ∈ vs) → wipe σ' vs = wipe σ vs) → Q σ' H) → gs vs σ H Q
  | [], _, rfl, σ, env, env', vs, [], M, r, e, Q, q => by
    cases r
    cases e
    exact ⟨rfl, q _ M fun _ _ => rfl⟩
  | [], _, rfl, σ, env, env', vs, d :: ds, M, r, e, Q, q => by cases e
  | i :: is, _, rfl, σ, env, env', vs, [], M, r, e, Q, q => by cases e
  | i :: is, _, rfl, σ, env, env', vs, d :: ds, M, r, e, Q, q => by
    cases r with
    | cons a r => exact ⟨_, _, rfl, sg_all is rfl (M.setv a i) r e Q fun σ' M' hw => q σ' M' fun vs hv => (hw vs fun j hj => hv j (List.mem_cons_of_mem _ hj)).trans (wipe_set (hv i List.mem_cons_self))⟩
theorem pgx_tup (is : List Nat) {es : List Expr} {kk : Nat} {pos : Pos} (hk : X.K = T.K) (hc : X.calm = true) (h : PGs X es (is.foldr (fun i g => gCons (gName i) g) gNil)) (hn : (assignEach es X.env).length = is.length) (hst : (assignEach es X.env).findIdx? (·.1) = none) :
    PGX X T (.Tuple es kk pos) is (fun env d => match d with
      | .tup l => setAll env is l
      | _ => none) := by
  refine ⟨_, pg_tup hc h hn hst, fun H0 σ H G env v d env' M r e Q q => ?_⟩
  rw [hk]
  cases r <;> try (cases e; done)
  rename_i a vs ds h1 r
  have hl : ∀ (is : List Nat) (ds : List D) (env : Env'), setAll env is ds = some env' → ds.length = is.length := by
    intro is
    induction is with
    | nil => intro ds env e; cases ds; rfl; cases e
    | cons i is ih => intro ds env e; cases ds; cases e; exact congrArg (· + 1) (ih _ _ e)
  exact ⟨_, _, rfl, sqT_same M.gh h1, by rw [r.length]; exact hl is ds env e, sg_all is rfl M r e Q q⟩

theorem pb_for {pos : Pos} {ms : Res (List D)} {Ob S' : Type} {e1 : S' → Env'} {s0 : S'} {is : List Nat} {tb : Env' → D → Option Env'} {fb : S' → D → Res Ob} {ιb : Ob → Fl S' S'} {r : D → Res O} {k : S' → Res O} (hp : PassesOwn (model X.prog X.w) X.A X.env X.xe) (hc : X.calm = true) (hi : PIX X T W tg iter env ms) (hg : PGX X T tg is tb) (h0 : subE (e1 s0) env)
    (hb : ∀ s d, match tb (e1 s) d with
      | some env' => PBX X T W .fall body env' (fb s d) ιb e1 e1
      | none => fb s d = .bad) (hrt : ∀ d, r d = .bad ∨ ∃ o, r d = .ok o ∧ ι o = .rt d) (hr : ∀ s, PBX X T W x rest (e1 s) (k s) ι el eo) (hs : ∀ x, foldedSetIterable iter X.env x = pure x := by intro _; rfl) :
    PBX X T W x (.For tg iter body [] pos :: rest) env (ms.bind fun ds => (forG ιb fb ds s0).bind (lpK r k)) ι el eo := by
  obtain ⟨wi, pi, si⟩ := hi.ex
  obtain ⟨g, pg, sg⟩ := hg.ex
  obtain ⟨u, pu, su⟩ := PBX.all hr
  have hb' : ∃ tb', PSs X body tb' ∧ ∀ s d env', tb (e1 s) d = some env' → SS T W .fall tb' env' (fb s d) ιb e1 e1 := by
    refine ⟨fun D σ H => ∃ u, PSs X body u ∧ u D σ H, ⟨fun pins s σ H D I h => ?_⟩, fun s d env' e => ?_⟩
    · obtain ⟨u, p, q⟩ := h
      exact p.run pins s σ H D I q
    · have q := hb s d
      rw [e] at q
      obtain ⟨u, p, s⟩ := q.ex
      intro G0 H0 σ H G F M Dn nx hx h
      exact ⟨u, p, s G0 H0 σ H G F M Dn nx hx h⟩
  obtain ⟨tb', pb, sb⟩ := hb'
  refine ⟨_, pss_cons (ps_for hp hc pi pg pb hs) pu, fun G0 H0 σ H G F M Dn nx hx h => ?_⟩
  refine si H0 σ H G M _ ((sat_ex F (Res.sat_bind h)).mono (fun ds hd J H1 G1 f1 wk => ?_) fun _ _ z => z)
  refine ⟨fun i n σ H => ∃ s G, i ≤ ds.length ∧ n = ds.length - i ∧ Fr G0 H0 G H ∧ Same G1 G ∧ Mat T H0 σ H G (e1 s) ∧ ((forG ιb fb (ds.drop i) s).bind (lpK r k)).sat (fun o => Out T G0 H0 Dn el eo (ι o)) (EXS T W G0 H0),
    ⟨_, s0, G1, Nat.zero_le _, rfl, F.trans f1, Same.refl _, (M.fr f1).sub h0, hd⟩, ?_⟩
  rintro i n σ2 H2 ⟨s, G2, hi, rfl, F2, s2, M2, hd2⟩
  by_cases hlt : i < ds.length
  · refine .inr ⟨wk.go i H2 (s2.trans F2.s) hlt, ?_⟩
    refine ⟨fun σ H => ∃ s G, Fr G0 H0 G H ∧ Same G1 G ∧ Mat T H0 σ H G (e1 s) ∧ ((forG ιb fb (ds.drop (i + 1)) s).bind (lpK r k)).sat (fun o => Out T G0 H0 Dn el eo (ι o)) (EXS T W G0 H0), ?_, ?_⟩
    · rintro σ3 H3 ⟨s3, G3, F3, s3', M3, hd3⟩
      exact ⟨ds.length - (i + 1), by omega, s3, G3, hlt, rfl, F3, s3', M3, hd3⟩
    · intro v H3 y
      obtain ⟨d, G3, hds, f3, rv⟩ := wk.yld i H2 v H3 G2 s2 F2.s hlt y
      have hdr : ds.drop i = d :: ds.drop (i + 1) := by
        obtain ⟨hx1, hx2⟩ := List.getElem?_eq_some_iff.mp hds
        rw [← hx2]
        exact List.drop_eq_getElem_cons hlt
      rw [hdr, forG_cons] at hd2
      have hd3 := Res.sat_bind (Res.sat_bind hd2)
      cases he : tb (e1 s) d with
      | none =>
        have q := hb s d
        rw [he] at q
        have q' : fb s d = .bad := q
        rw [q'] at hd3
        exact hd3.elim
      | some env' =>
        refine sg H0 σ2 H3 G3 _ v d env' (M2.fr f3) rv he _ fun σ3 M3 _ => ?_
        have F3 := F2.trans f3
        refine sb s d env' he G1 H0 σ3 H3 G3 ⟨F3.h, s2.trans f3.g, F3.s, fun b o e => ?_⟩ M3 { Dn with nx := fun σ H => ∃ s G, Fr G0 H0 G H ∧ Same G1 G ∧ Mat T H0 σ H G (e1 s) ∧ ((forG ιb fb (ds.drop (i + 1)) s).bind (lpK r k)).sat (fun o => Out T G0 H0 Dn el eo (ι o)) (EXS T W G0 H0), ct := fun σ H => ∃ s G, Fr G0 H0 G H ∧ Same G1 G ∧ Mat T H0 σ H G (e1 s) ∧ ((forG ιb fb (ds.drop (i + 1)) s).bind (lpK r k)).sat (fun o => Out T G0 H0 Dn el eo (ι o)) (EXS T W G0 H0), bk := u { Dn with nx := nx } } _ rfl (hd3.mono (fun o ho => ?_) fun c vs z σ C dd ns ws H' G' h1 h2 h3 f h5 h6 => ?_)
        · rcases F3.n b o e with z | z
          · exact .inl ((F.g.trans f1.g) _ _ z)
          · exact .inr z
        · have lift : ∀ {G' H' : Hp}, Fr G1 H0 G' H' → Fr G0 H0 G' H' := fun f => ⟨f.h, (F.g.trans f1.g).trans f.g, f.s, fun b o e => by
            rcases f.n b o e with z | z
            · exact (F.trans f1).n b o z
            · exact .inr z⟩
          cases hio : ιb o with
          | nx s' =>
            rw [hio] at ho
            exact fun σ4 H4 G4 F4 M4 => ⟨s', G4, lift F4, F4.g, M4, Res.bind_sat ho⟩
          | ct s' =>
            rw [hio] at ho
            exact fun σ4 H4 G4 F4 M4 => ⟨s', G4, lift F4, F4.g, M4, Res.bind_sat ho⟩
          | bk s' =>
            rw [hio] at ho
            exact fun σ4 H4 G4 F4 M4 => su s' G0 H0 σ4 H4 G4 (lift F4) M4 Dn nx hx ho
          | rt d' =>
            rw [hio] at ho
            rcases hrt d' with e | ⟨o, e, e2⟩
            · have h' : (r d').sat (fun o => Out T G0 H0 Dn el eo (ι o)) (EXS T W G0 H0) := ho
              rw [e] at h'
              exact h'.elim
            · have h' : (r d').sat (fun o => Out T G0 H0 Dn el eo (ι o)) (EXS T W G0 H0) := ho
              rw [e] at h'
              have h'' : Out T G0 H0 Dn el eo (ι o) := h'
              rw [e2] at h''
              exact fun v4 H4 G4 F4 r4 => h'' v4 H4 G4 (lift F4) r4
          | ro l => rw [hio] at ho; exact ho.elim
        · have f' : Fr G0 H0 G' H' := ⟨f.h, (F.g.trans f1.g).trans f.g, f.s, fun b o e => by
            rcases f.n b o e with z | z
            · exact (F.trans f1).n b o z
            · exact .inr z⟩
          exact z σ C dd ns ws H' G' h1 h2 h3 f' h5 h6
  · refine .inl ⟨wk.stop i H2 (s2.trans F2.s) (by omega), ?_⟩
    have hdr : ds.drop i = [] := List.drop_eq_nil_of_le (by omega)
    rw [hdr] at hd2
    exact su s G0 H0 σ2 H2 G2 F2 M2 Dn nx hx hd2
/-- a loop without return and break -/
theorem pb_forS {pos : Pos} {ms : Res (List D)} {S' : Type} {e1 : S' → Env'} {s0 : S'} {is : List Nat} {tb : Env' → D → Option Env'} {fb : S' → D → Res S'} {k : S' → Res O} (hp : PassesOwn (model X.prog X.w) X.A X.env X.xe) (hc : X.calm = true) (hi : PIX X T W tg iter env ms) (hg : PGX X T tg is tb) (h0 : subE (e1 s0) env)
    (hb : ∀ s d, match tb (e1 s) d with
      | some env' => PBX X T W .fall body env' (fb s d) Fl.nx e1 e1
      | none => fb s d = .bad) (hr : ∀ s, PBX X T W x rest (e1 s) (k s) ι el eo) (hs : ∀ x, foldedSetIterable iter X.env x = pure x := by intro _; rfl) :
    PBX X T W x (.For tg iter body [] pos :: rest) env (ms.bind fun ds => (forR fb ds s0).bind k) ι el eo := by
  have h := pb_for (pos := pos) (r := fun _ => .bad) hp hc hi hg h0 hb (fun _ => .inl rfl) hr hs
  have e : (fun ds => (forG Fl.nx fb ds s0).bind (lpK (fun _ => .bad) k)) = fun ds => (forR fb ds s0).bind k := by
    funext ds
    rw [forG_nx]
    cases forR fb ds s0 <;> rfl
  rw [e] at h
  exact h

/-! ### while -/
def whileG {S O : Type} (ι : O → Fl S S) (c : S → Res Bool) (fb : S → Res O) : Nat → S → Res (Lp S)
  | 0, _ => .bad
  | n + 1, s => (c s).bind fun b => if b then (fb s).bind fun o => match ι o with
    | .nx s' => whileG ι c fb n s'
    | .ct s' => whileG ι c fb n s'
    | .bk s' => .ok (.nx s')
    | .rt d => .ok (.rt d)
    | .ro _ => .bad
    else .ok (.nx s)
def whileR {S : Type} (c : S → Res Bool) (fb : S → Res S) : Nat → S → Res S
  | 0, _ => .bad
  | n + 1, s => (c s).bind fun b => if b then (fb s).bind fun s' => whileR c fb n s' else .ok s
theorem whileG_nx {S : Type} (c : S → Res Bool) (fb : S → Res S) : ∀ (n : Nat) (s : S), whileG Fl.nx c fb n s = (whileR c fb n s).bind fun s => .ok (.nx s)
  | 0, s => rfl
  | n + 1, s => by
    unfold whileG whileR
    cases c s with
    | ok b =>
      cases b with
      | true =>
        cases hfb : fb s with
        | ok s' =>
          simp only [Res.ok_bind, if_true]
          exact whileG_nx c fb n s'
        | err c vs => simp only [Res.ok_bind, if_true, Res.err_bind]
        | bad => simp only [Res.ok_bind, if_true, Res.bad_bind]
      | false => rfl
    | err c vs => rfl
    | bad => rfl
theorem pb_while {pos : Pos} {Ob S' : Type} {e1 : S' → Env'} {s0 : S'} {n0 : Nat} {fc : S' → Res Bool} {fb : S' → Res Ob} {ιb : Ob → Fl S' S'} {r : D → Res O} {k : S' → Res O} (hp : PassesOwn (model X.prog X.w) X.A X.env X.xe) (h0 : subE (e1 s0) env)
    (hcd : ∀ s, PTX X T W c (e1 s) (fc s)) (hb : ∀ s, PBX X T W .fall body (e1 s) (fb s) ιb e1 e1) (hrt : ∀ d, r d = .bad ∨ ∃ o, r d = .ok o ∧ ι o = .rt d) (hr : ∀ s, PBX X T W x rest (e1 s) (k s) ι el eo) :
    PBX X T W x (.While c body [] pos :: rest) env ((whileG ιb fc fb n0 s0).bind (lpK r k)) ι el eo := by
  obtain ⟨tc, pc, sc⟩ := PTX.all hcd
  obtain ⟨u, pu, su⟩ := PBX.all hr
  obtain ⟨tb', pb, sb⟩ := PBX.all hb
  refine ⟨_, pss_cons (ps_while hp pc pb) pu, fun G0 H0 σ H G F M Dn nx hx h => ?_⟩
  refine ⟨fun n σ H => ∃ s G, Fr G0 H0 G H ∧ Mat T H0 σ H G (e1 s) ∧ ((whileG ιb fc fb n s).bind (lpK r k)).sat (fun o => Out T G0 H0 Dn el eo (ι o)) (EXS T W G0 H0), ⟨n0, s0, G, F, M.sub h0, h⟩, ?_⟩
  rintro n σ2 H2 ⟨s, G2, F2, M2, hd2⟩
  cases n with
  | zero => exact hd2.elim
  | succ n =>
    refine sc s H0 σ2 H2 G2 M2 _ ((sat_ex F2 (Res.sat_bind (Res.sat_bind hd2))).mono (fun b hbb H3 G3 f3 => ?_) fun _ _ z => z)
    cases b with
    | false => exact iteF (su s G0 H0 σ2 H3 G3 (F2.trans f3) (M2.fr f3) Dn nx hx hbb)
    | true =>
      refine iteT ⟨fun σ H => ∃ s G, Fr G0 H0 G H ∧ Mat T H0 σ H G (e1 s) ∧ ((whileG ιb fc fb n s).bind (lpK r k)).sat (fun o => Out T G0 H0 Dn el eo (ι o)) (EXS T W G0 H0), fun σ4 H4 h4 => ⟨n, Nat.lt_succ_self n, h4⟩, ?_⟩
      refine sb s G0 H0 σ2 H3 G3 (F2.trans f3) (M2.fr f3) { Dn with nx := fun σ H => ∃ s G, Fr G0 H0 G H ∧ Mat T H0 σ H G (e1 s) ∧ ((whileG ιb fc fb n s).bind (lpK r k)).sat (fun o => Out T G0 H0 Dn el eo (ι o)) (EXS T W G0 H0), ct := fun σ H => ∃ s G, Fr G0 H0 G H ∧ Mat T H0 σ H G (e1 s) ∧ ((whileG ιb fc fb n s).bind (lpK r k)).sat (fun o => Out T G0 H0 Dn el eo (ι o)) (EXS T W G0 H0), bk := u { Dn with nx := nx } } _ rfl ((Res.sat_bind (k := fun o => match ιb o with
    | .nx s' => whileG ιb fc fb n s'
    | .ct s' => whileG ιb fc fb n s'
    | .bk s' => .ok (.nx s')
    | .rt d => .ok (.rt d)
    | .ro _ => .bad) hbb).mono (fun o ho => ?_) fun _ _ z => z)
      cases hio : ιb o with
      | nx s' =>
        rw [hio] at ho
        exact fun σ4 H4 G4 F4 M4 => ⟨s', G4, F4, M4, Res.bind_sat ho⟩
      | ct s' =>
        rw [hio] at ho
        exact fun σ4 H4 G4 F4 M4 => ⟨s', G4, F4, M4, Res.bind_sat ho⟩
      | bk s' =>
        rw [hio] at ho
        exact fun σ4 H4 G4 F4 M4 => su s' G0 H0 σ4 H4 G4 F4 M4 Dn nx hx ho
      | rt d' =>
        rw [hio] at ho
        rcases hrt d' with e | ⟨o, e, e2⟩
        · have h' : (r d').sat (fun o => Out T G0 H0 Dn el eo (ι o)) (EXS T W G0 H0) := ho
          rw [e] at h'
          exact h'.elim
        · have h' : (r d').sat (fun o => Out T G0 H0 Dn el eo (ι o)) (EXS T W G0 H0) := ho
          rw [e] at h'
          have h'' : Out T G0 H0 Dn el eo (ι o) := h'
          rw [e2] at h''
          exact fun v4 H4 G4 F4 r4 => h'' v4 H4 G4 F4 r4
      | ro l => rw [hio] at ho; exact ho.elim
theorem pb_whileS {pos : Pos} {S' : Type} {e1 : S' → Env'} {s0 : S'} {n0 : Nat} {fc : S' → Res Bool} {fb : S' → Res S'} {k : S' → Res O} (hp : PassesOwn (model X.prog X.w) X.A X.env X.xe) (h0 : subE (e1 s0) env)
    (hcd : ∀ s, PTX X T W c (e1 s) (fc s)) (hb : ∀ s, PBX X T W .fall body (e1 s) (fb s) Fl.nx e1 e1) (hr : ∀ s, PBX X T W x rest (e1 s) (k s) ι el eo) :
    PBX X T W x (.While c body [] pos :: rest) env ((whileR fc fb n0 s0).bind k) ι el eo := by
  have h := pb_while (pos := pos) (n0 := n0) (r := fun _ => .bad) hp h0 hcd hb (fun _ => .inl rfl) hr
  rw [whileG_nx] at h
  have e : ((whileR fc fb n0 s0).bind fun s => Res.ok (Lp.nx s)).bind (lpK (fun _ => .bad) k) = (whileR fc fb n0 s0).bind k := by cases whileR fc fb n0 s0 <;> rfl
  rw [e] at h
  exact h
end
end Px

namespace Px
open PySem PySem.Spec PyProof.Rows L2

/-! ### list comprehensions -/
def WN : WX := fun _ _ _ _ => False
def compR (fc : D → Res Bool) (fe : D → Res D) : List D → Res (List D)
  | [] => .ok []
  | d :: ds => (noErr (fc d)).bind fun b => if b then (noErr (fe d)).bind fun y => (compR fc fe ds).bind fun ys => .ok (y :: ys) else compR fc fe ds
def compL (fc : D → Res Bool) (fe : D → Res D) (ms : Res (List D)) : Res (List D) := ms.bind fun ds => if ds.length ≤ sizeLine then compR fc fe ds else .bad
/-- without an if -/
def mapR (fe : D → Res D) : List D → Res (List D)
  | [] => .ok []
  | d :: ds => (noErr (fe d)).bind fun y => (mapR fe ds).bind fun ys => .ok (y :: ys)
def mapL (fe : D → Res D) (ms : Res (List D)) : Res (List D) := ms.bind fun ds => if ds.length ≤ sizeLine then mapR fe ds else .bad
theorem compR_map (fe : D → Res D) : ∀ ds, compR (fun _ => .ok true) fe ds = mapR fe ds
  | [] => rfl
  | d :: ds => by
    unfold compR mapR
    rw [compR_map fe ds]
    rfl
theorem compL_map (fe : D → Res D) (ms : Res (List D)) : compL (fun _ => .ok true) fe ms = mapL fe ms := by
  unfold compL mapL
  congr 1
  funext ds
  rw [compR_map]
def wipeE (env : Env') : List Nat → Env'
  | [] => env
  | v :: vs => (wipeE env vs).set v none
theorem Mat.wipe {T : Kt} {H0 : Hp} {σ : L2.St} {H G : Hp} {env : Env'} (m : Mat T H0 σ H G env) : ∀ vs : List Nat, Mat T H0 (L2.wipe σ vs) H G (wipeE env vs)
  | [] => m
  | v :: vs => (m.wipe vs).unset v

theorem wipe_wipe (σ : L2.St) (vs : List Nat) : L2.wipe (L2.wipe σ vs) vs = L2.wipe σ vs := by
  apply List.ext_getElem?
  intro j
  rw [wipe_get, wipe_get, wipe_length]
  by_cases q : j ∈ vs ∧ j < σ.length
  · rw [if_pos q, if_pos q]
  · rw [if_neg q]

structure PTsX (X : Cx) (T : Kt) (W : WX) (es : List Expr) (env : Env') (m : Res Bool) : Prop where
  ex : ∃ t, PTs X es t ∧ ST T W t env m

section
variable {X : Cx} {T : Kt} {W : WX} {k : Nat} {x : Xk} {env : Env'} {a b c e o tg iter elt : Expr} {es ifs : List Expr} {st : Stmt} {rest body : List Stmt} {ma mb mc me : Res D} {pos : Pos} {O L S : Type} {m : Res O} {ι : O → Fl L S} {el : L → Env'} {eo : S → Env'}
theorem ptsx_nil : PTsX X T W [] env (.ok true) := ⟨_, pts_nil, fun H0 σ H G M Q h => h H G (Fr.refl M.gh)⟩
theorem ptsx_one {mt : Res Bool} (h : PTX X T W c env mt) : PTsX X T W [c] env mt := by
  obtain ⟨t, p, s⟩ := h.ex
  exact ⟨_, pts_one p, s⟩

abbrev BX (X : Cx) (scope : Scope) (s : Shared) (H : Hp) (C : Addr) (cl : List (Str × Addr)) (fp : List Addr) : Cx := X.blk s H scope (compEnvC scope cl C X.env) fp
structure LcX (X : Cx) (T : Kt) (W : WX) (tg iter elt : Expr) (ifs : List Expr) (scope : Scope) (own : List (Str × Nat)) (env : Env') (m : Res (List D)) : Prop where
  ex : ∃ wi g tt te, PI X tg iter wi ∧ (∀ s H C cl fp, PG (BX X scope s H C cl fp) tg g) ∧ (∀ s H C cl fp, PTs (BX X scope s H C cl fp) ifs tt) ∧ (∀ s H C cl fp, PE (BX X scope s H C cl fp) elt te) ∧ SO T W (tLc wi g tt te (own.map (·.2))) env m
theorem lcx {scope : Scope} {own : List (Str × Nat)} {ms : Res (List D)} {is : List Nat} {tb : Env' → D → Option Env'} {fc : D → Res Bool} {fe : D → Res D} (hi : PIX X T W tg iter env ms)
    (hg : ∀ s H C cl fp, PGX (BX X scope s H C cl fp) T tg is tb) (his : ∀ i ∈ is, i ∈ own.map (·.2))
    (ht : ∀ s H C cl fp d, match tb (wipeE env (own.map (·.2))) d with
      | some env' => PTsX (BX X scope s H C cl fp) T WN ifs env' (fc d)
      | none => True)
    (hn : ∀ d, match tb (wipeE env (own.map (·.2))) d with
      | some _ => True
      | none => fc d = .bad)
    (he : ∀ s H C cl fp d, match tb (wipeE env (own.map (·.2))) d with
      | some env' => PX (BX X scope s H C cl fp) T WN elt env' (fe d)
      | none => True) :
    LcX X T W tg iter elt ifs scope own env (compL fc fe ms) := by
  obtain ⟨wi, pi, si⟩ := hi.ex
  have hg' : ∃ g, (∀ s H C cl fp, PG (BX X scope s H C cl fp) tg g) ∧ SG T g is tb := by
    refine ⟨fun v σ H Q => ∀ s H' C cl fp, ∃ g, PG (BX X scope s H' C cl fp) tg g ∧ g v σ H Q, fun s H' C cl fp => ⟨fun pins s1 σ H v u Q I r h => ?_⟩, fun H0 σ H G env v d env' M r e Q q s H' C cl fp => ?_⟩
    · obtain ⟨g, p, q⟩ := h s H' C cl fp
      exact p.run pins s1 σ H v u Q I r q
    · obtain ⟨g, p, sg⟩ := (hg s H' C cl fp).ex
      exact ⟨g, p, sg H0 σ H G env v d env' M r e Q q⟩
  obtain ⟨g, pg, sg⟩ := hg'
  have ht' : ∃ t, (∀ s H C cl fp, PTs (BX X scope s H C cl fp) ifs t) ∧ ∀ d env', tb (wipeE env (own.map (·.2))) d = some env' → ST T WN t env' (fc d) := by
    refine ⟨fun σ H Q => ∀ s H' C cl fp, ∃ g, PTs (BX X scope s H' C cl fp) ifs g ∧ g σ H Q, fun s H' C cl fp => ⟨fun pins s1 σ H Q I h => ?_⟩, fun d env' e H0 σ H G M Q h s H' C cl fp => ?_⟩
    · obtain ⟨g, p, q⟩ := h s H' C cl fp
      exact p.run pins s1 σ H Q I q
    · have z := ht s H' C cl fp d
      rw [e] at z
      obtain ⟨g, p, sg⟩ := z.ex
      exact ⟨g, p, sg H0 σ H G M Q h⟩
  obtain ⟨tt, pt, stt⟩ := ht'
  have he' : ∃ t, (∀ s H C cl fp, PE (BX X scope s H C cl fp) elt t) ∧ ∀ d env', tb (wipeE env (own.map (·.2))) d = some env' → SE T WN t env' (fe d) := by
    refine ⟨fun σ H Q => ∀ s H' C cl fp, ∃ g, PE (BX X scope s H' C cl fp) elt g ∧ g σ H Q, fun s H' C cl fp => ⟨fun pins s1 σ H Q I h => ?_⟩, fun d env' e H0 σ H G M Q h s H' C cl fp => ?_⟩
    · obtain ⟨g, p, q⟩ := h s H' C cl fp
      exact p.run pins s1 σ H Q I q
    · have z := he s H' C cl fp d
      rw [e] at z
      obtain ⟨g, p, sg⟩ := z.ex
      exact ⟨g, p, sg H0 σ H G M Q h⟩
  obtain ⟨te, pe, see⟩ := he'
  refine ⟨wi, g, tt, te, pi, pg, pt, pe, fun H0 σ H G M Q h => ?_⟩
  refine si H0 σ H G M _ ((Res.sat_bind h).mono (fun ds hd J H1 G1 f1 wk Dn nD => ?_) fun _ _ z => z)
  by_cases hz : ds.length ≤ sizeLine
  · rw [if_pos hz] at hd
    have gD : G1 Dn = none := f1.s.free nD
    have hHD : H Dn = none := f1.h.free nD
    let E := EX T (WE W σ) G H
    refine ⟨fun i n H' => ∃ acc vs G', i ≤ ds.length ∧ n = ds.length - i ∧ acc.length ≤ i ∧ Fr G1 H1 G' H' ∧ G' Dn = none ∧ H' Dn = some (.lst vs) ∧ Reps T G' vs acc ∧ ((compR fc fe (ds.drop i)).bind fun l => .ok (acc ++ l)).sat (PO T G H Q) E,
      ⟨_, [], [], G1, Nat.zero_le _, rfl, Nat.zero_le _, Fr.newH f1.s nD, gD, upd_same, .nil, ?_⟩, ?_⟩
    · have : ((compR fc fe (ds.drop 0)).bind fun l => .ok ([] ++ l)) = compR fc fe ds := by
        rw [List.drop_zero]; cases compR fc fe ds <;> rfl
      rw [this]; exact hd
    · rintro i n H2 ⟨acc, vs, G2, hi, rfl, hac, F2, gD2, hD2, r2, hd2⟩
      by_cases hlt : i < ds.length
      · refine .inr ⟨wk.go i H2 (F2.g.trans F2.s) hlt, fun H' => ∃ acc vs G', acc.length ≤ i + 1 ∧ Fr G1 H1 G' H' ∧ G' Dn = none ∧ H' Dn = some (.lst vs) ∧ Reps T G' vs acc ∧ ((compR fc fe (ds.drop (i + 1))).bind fun l => .ok (acc ++ l)).sat (PO T G H Q) E, ?_, ?_⟩
        · rintro H3 ⟨acc3, vs3, G3, h3⟩
          exact ⟨ds.length - (i + 1), by omega, acc3, vs3, G3, hlt, rfl, h3⟩
        · intro v H3 y
          obtain ⟨d, G3, hds, f3, rv⟩ := wk.yld i H2 v H3 G2 F2.g F2.s hlt y
          have hdr : ds.drop i = d :: ds.drop (i + 1) := by
            obtain ⟨hx1, hx2⟩ := List.getElem?_eq_some_iff.mp hds
            rw [← hx2]
            exact List.drop_eq_getElem_cons hlt
          rw [hdr] at hd2
          unfold compR at hd2
          have hd3 := Res.sat_bind (Res.sat_bind hd2)
          have F3 := F2.trans f3
          have keepD : ∀ {G' H' : Hp}, Fr G2 H2 G' H' → G' Dn = none ∧ H' Dn = some (.lst vs) := fun {G' H'} f => by
            refine ⟨?_, f.h _ _ hD2⟩
            cases q : G' Dn with
            | none => rfl
            | some o =>
              rcases f.n Dn o q with z | z
              · rw [gD2] at z; cases z
              · rw [hD2] at z; cases z
          have M3 : Mat T H0 (L2.wipe σ (own.map (·.2))) H3 G3 (wipeE env (own.map (·.2))) := ((M.fr f1).fr F3).wipe _
          cases hte : tb (wipeE env (own.map (·.2))) d with
          | none =>
            have z := hn d
            rw [hte] at z
            have z' : fc d = .bad := z
            rw [z'] at hd3
            exact hd3.elim
          | some env' =>
            refine sg H0 _ H3 G3 _ v d env' M3 rv hte _ fun σ3 M3' hw => ⟨(hw _ his).trans (wipe_wipe σ _), ?_⟩
            refine stt d env' hte H0 σ3 H3 G3 M3' _ (noErr_sat (hd3.mono (fun bb hbb H4 G4 f4 => ?_) (E' := E) fun _ _ z => z))
            cases bb with
            | true =>
              refine iteT (see d env' hte H0 σ3 H4 G4 (M3'.fr f4) _ (noErr_sat ((Res.sat_bind (Res.sat_bind (show (((noErr (fe d)).bind fun y => (compR fc fe (ds.drop (i + 1))).bind fun ys => .ok (y :: ys)).bind fun l => .ok (acc ++ l)).sat _ _ from Res.bind_sat hbb))).mono (fun y hy v5 H5 G5 f5 r5 => ?_) (E' := E) fun _ _ z => z)))
              have f25 := (f3.trans f4).trans f5
              obtain ⟨g5, h5⟩ := keepD f25
              have hl : vs.length = acc.length := r2.length
              refine ⟨vs, h5, by rw [hl]; omega, acc ++ [y], vs ++ [v5], G5, by rw [List.length_append]; exact Nat.succ_le_succ hac, (F2.trans f25).updo g5 nD, g5, upd_same, (r2.mono f25.g).append (.cons r5 .nil), ?_⟩
              have e1 : (((compR fc fe (ds.drop (i + 1))).bind fun ys => Res.ok (y :: ys)).bind fun l => .ok (acc ++ l)) = (compR fc fe (ds.drop (i + 1))).bind fun l => .ok (acc ++ [y] ++ l) := by
                cases compR fc fe (ds.drop (i + 1)) with
                | ok l => simp
                | err c vs => rfl
                | bad => rfl
              rw [← e1]
              exact Res.bind_sat hy
            | false =>
              have f24 := f3.trans f4
              obtain ⟨g4, h4⟩ := keepD f24
              refine iteF ⟨acc, vs, G4, by omega, F2.trans f24, g4, h4, r2.mono f24.g, ?_⟩
              exact Res.bind_sat hbb
      · refine .inl ⟨wk.stop i H2 (F2.g.trans F2.s) (by omega), ?_⟩
        have hdr : ds.drop i = [] := List.drop_eq_nil_of_le (by omega)
        rw [hdr] at hd2
        have hq : PO T G H Q acc := by
          have := hd2
          unfold compR at this
          simp only [Res.ok_bind, List.append_nil] at this
          exact this
        exact hq Dn vs H2 G2 (f1.trans F2) hHD hD2 gD2 r2
  · rw [if_neg hz] at hd; exact hd.elim
/-- without an if -/
theorem lcx_map {scope : Scope} {own : List (Str × Nat)} {ms : Res (List D)} {is : List Nat} {tb : Env' → D → Option Env'} {fe : D → Res D} (hi : PIX X T W tg iter env ms)
    (hg : ∀ s H C cl fp, PGX (BX X scope s H C cl fp) T tg is tb) (his : ∀ i ∈ is, i ∈ own.map (·.2)) (htb : ∀ d, ∃ env', tb (wipeE env (own.map (·.2))) d = some env')
    (he : ∀ s H C cl fp d, match tb (wipeE env (own.map (·.2))) d with
      | some env' => PX (BX X scope s H C cl fp) T WN elt env' (fe d)
      | none => True) :
    LcX X T W tg iter elt [] scope own env (mapL fe ms) := by
  rw [← compL_map]
  refine lcx hi hg his (fun s H C cl fp d => ?_) (fun d => ?_) he
  · obtain ⟨env', e⟩ := htb d
    rw [e]
    exact ptsx_nil
  · obtain ⟨env', e⟩ := htb d
    rw [e]
    trivial
theorem LcX.pxo {scope : Scope} {own : List (Str × Nat)} {mo : Res (List D)} (h : LcX X T W tg iter elt ifs scope own env mo) (hc : X.calm = true) (hN : X.N.Nodup) (ok : BlkOk X.N X.env.scope scope own) (hs : ∀ x, foldedSetIterable iter X.env x = pure x) :
    PXO X T W (.ListComp elt [⟨tg, iter, ifs, 0⟩] scope pos) env mo := by
  obtain ⟨wi, g, tt, te, pi, pg, pt, pe, so⟩ := h.ex
  exact ⟨_, pe_lc hc hN pi ok pg pt pe hs, so⟩
/-- x = [..] -/
theorem pb_asgLcO (i : Nat) {y : Str} {py spos : Pos} {scope : Scope} {own : List (Str × Nat)} {mo : Res (List D)} {k : List D → Res O} (h : LcX X T W tg iter elt ifs scope own env mo) (hc : X.calm = true) (hN : X.N.Nodup) (hy : X.N[i]? = some y) (hyl : X.env.scope.names.lookup y = some .local)
    (hsw : swapsWith (.ListComp elt [⟨tg, iter, ifs, 0⟩] scope pos) (some (.Name y py)) spos.line X.env = pure true) (ok : BlkOk X.N X.env.scope scope own) (hs : ∀ x, foldedSetIterable iter X.env x = pure x) (hr : ∀ d, PBX X T W x rest (env.set i (some (.own d))) (k d) ι el eo) :
    PBX X T W x (.Assign [.Name y py] (.ListComp elt [⟨tg, iter, ifs, 0⟩] scope pos) spos :: rest) env (mo.bind k) ι el eo := by
  obtain ⟨wi, g, tt, te, pi, pg, pt, pe, so⟩ := h.ex
  obtain ⟨u, pu, su⟩ := PBX.all hr
  refine ⟨_, pss_cons (ps_setLc hc hN hy hyl hsw pi ok pg pt pe hs) pu, fun G0 H0 σ H G F M Dn nx hx h => ?_⟩
  show tLc wi g tt te (own.map (·.2)) σ H (fun x H1 => gName i x σ H1 (u { Dn with nx := nx }))
  refine so H0 σ H G M _ ((sat_ex F (Res.sat_bind h)).mono (fun d hd a vs H1 G1 f1 h1 h2 h3 r1 => ?_) fun _ _ z => z)
  exact su d G0 H0 _ H1 G1 (F.trans f1) ((M.fr f1).seto i h2 h3 (F.h.free h1) r1 (M.fresh h1)) Dn nx hx hd
/-- x = [..], standing fast at once -/
theorem pb_asgLc (i : Nat) {y : Str} {py spos : Pos} {scope : Scope} {own : List (Str × Nat)} {mo : Res (List D)} {k : D → Res O} (h : LcX X T W tg iter elt ifs scope own env mo) (hc : X.calm = true) (hN : X.N.Nodup) (hy : X.N[i]? = some y) (hyl : X.env.scope.names.lookup y = some .local)
    (hsw : swapsWith (.ListComp elt [⟨tg, iter, ifs, 0⟩] scope pos) (some (.Name y py)) spos.line X.env = pure true) (ok : BlkOk X.N X.env.scope scope own) (hs : ∀ x, foldedSetIterable iter X.env x = pure x) (hr : ∀ d, PBX X T W x rest (env.set i (some (.val d))) (k d) ι el eo) :
    PBX X T W x (.Assign [.Name y py] (.ListComp elt [⟨tg, iter, ifs, 0⟩] scope pos) spos :: rest) env ((lstV mo).bind k) ι el eo := by
  obtain ⟨wi, g, tt, te, pi, pg, pt, pe, so⟩ := h.ex
  obtain ⟨u, pu, su⟩ := PBX.all hr
  refine ⟨_, pss_cons (ps_setLc hc hN hy hyl hsw pi ok pg pt pe hs) pu, fun G0 H0 σ H G F M Dn nx hx h => ?_⟩
  have h' := Res.sat_bind (Res.sat_bind h)
  show tLc wi g tt te (own.map (·.2)) σ H (fun x H1 => gName i x σ H1 (u { Dn with nx := nx }))
  refine so H0 σ H G M _ ((sat_ex F h').mono (fun d hd a vs H1 G1 f1 h1 h2 h3 r1 => ?_) fun _ _ z => z)
  have f2 := f1.frz h2 h3 h1
  exact su (.lst d) G0 H0 _ H1 _ (F.trans f2) ((M.fr f2).setv (.lst upd_same (r1.mono (same_upd h3))) i) Dn nx hx hd
end
end Px

namespace Px
open PySem PySem.Spec PyProof.Rows L2

/-! ### defs -/
def pureSp (T : Kt) (n : Nat) (m : List D → Res D) : Sp := fun vs H Q E => ∃ G ds, Same G H ∧ Reps T G vs ds ∧ ds.length = n ∧ (m ds).sat (PQ T G H Q) (EX T E G H)
def erase (H : Hp) (x : Addr) : Hp := fun b => if b = x then none else H b
def initSp (T : Kt) (n c : Nat) (m : List D → Res (List D)) : Sp := fun vs H Q E => ∃ G ds x C dx ws, vs = .ref x :: ws ∧ T.ca c = some C ∧ H x = some (.ins C dx []) ∧ G x = none ∧ Same G H ∧ Reps T G ws ds ∧ ds.length + 1 = n ∧
  (m ds).sat (fun fs => ∀ H' G', Fr G (erase H x) G' H' → Rep T G' (.ref x) (.obj c fs) → Q .non H') (EX T E G (erase H x))

structure FP where
  P : Program
  w : World
  K : PySem.W.Frag
  mg : Str → Option Value
  base : Heap
abbrev xOf (g : FP) (N : List Str) (qual : Str) (st : Stmt) (f : Addr) (cdv : Value) (A : Around) (outer : List Env) (s : Shared) (H : Hp) (E : XK) : Cx := cxOf (L2.CX g.P g.w) g.P g.w g.K g.mg g.base N qual (defScope st) f cdv A outer s H E
abbrev WD (E : XK) : WX := fun cls d _ H => E cls d H
def envS (n : Nat) (ds : List D) : Env' := ds.map (fun d => some (.val d)) ++ List.replicate (n - ds.length) none

theorem ctx_of {g : FP} {N ps : List Str} {qual : Str} {st : Stmt} {f : Addr} {cdv : Value} {A : Around} {outer : List Env} {s : Shared} {H : Hp} {E : XK} {T : Kt} {k : Nat} (hT : g.K = T.K) (S : FnScope N ps (defScope st)) (hr : Room k (A.deeper (envOfC qual (defScope st) s.heap.objs.size f cdv))) :
    Ctx (xOf g N qual st f cdv A outer s H E) T (WD E) k where
  calm := rfl
  nd := S.nd
  kk := hT
  pass := fun σ => passAt (W := WD E) (takes_of rfl rfl rfl rfl) σ
  room := hr
  po := PassesOwn.leaving
theorem mat_start {T : Kt} {N : List Str} {G H : Hp} {vs : List V} {ds : List D} (s : Same G H) (r : Reps T G vs ds) (hl : ds.length ≤ N.length) : Mat T H (L2.start N vs) H G (envS N.length ds) := by
  have hlv := r.length
  refine ⟨s, by simp [L2.start, envS, hlv], fun i c e => ?_, fun i j c d a e1 e2 n1 n2 s1 s2 => ?_⟩
  · unfold envS at e
    rcases Nat.lt_or_ge i ds.length with hi | hi
    · rw [List.getElem?_append_left (by simpa using hi), List.getElem?_map, List.getElem?_eq_getElem hi] at e
      cases e
      obtain ⟨v, h1, h2⟩ := r.get (List.getElem?_eq_getElem hi)
      refine ⟨v, ?_, h2⟩
      unfold L2.start
      rw [List.getElem?_append_left (by rw [List.length_map, hlv]; exact hi), List.getElem?_map, h1]
      rfl
    · rw [List.getElem?_append_right (by simpa using hi)] at e
      rw [List.getElem?_replicate] at e
      split at e <;> cases e
  · exfalso
    unfold envS at e1
    rcases Nat.lt_or_ge i ds.length with hi | hi
    · rw [List.getElem?_append_left (by simpa using hi), List.getElem?_map, List.getElem?_eq_getElem hi] at e1
      cases e1
      cases n1
    · rw [List.getElem?_append_right (by simpa using hi)] at e1
      rw [List.getElem?_replicate] at e1
      split at e1 <;> cases e1

/-- how a def's body is looked at, whatever its defaults are -/
def OkRule (g : FP) (qual : Str) (st : Stmt) (f : Addr) (fd : FuncData) (N ps : List Str) (k : Nat) : Prop := ∀ sp : Sp, (∀ vs H Q E, sp vs H Q E → vs.length = ps.length) →
  (∀ (cdv : Value) (A : Around) (outer : List Env) (s : Shared) (H : Hp) (vs : List V) (Q : VK) (E : XK), Room k (A.deeper (envOfC qual (defScope st) s.heap.objs.size f cdv)) → sp vs H Q E →
    ∃ t, PSs (xOf g N qual st f cdv A outer s H E) (defBody st) t ∧ t { nx := fun _ H' => Q .non H', rt := Q } (L2.start N vs) H) → FnOk g.P g.w g.K g.mg g.base (L2.CX g.P g.w) (k + 1) f fd ps sp
theorem rule_fun {g : FP} {x qual : Str} {st : Stmt} {f : Addr} {fd : FuncData} {N ps : List Str} {k : Nat} (F : Fun g.K x qual st f fd) (S : FnScope N ps (defScope st)) : OkRule g qual st f fd N ps k := fun sp len h => F.okX S len h
theorem rule_funD {g : FP} {x qual : Str} {st : Stmt} {f : Addr} {fd : FuncData} {N ps : List Str} {k : Nat} {dvs : List V} {kws : List (Str × V)} (F : FunD g.K x qual (defArgs st) (defBody st) (defScope st) dvs kws f fd) (S : FnScope N ps (defScope st)) : OkRule g qual st f fd N ps k := fun sp len h => F.ok S len h
abbrev noE : Empty → Env' := fun z => nomatch z
theorem fn_pure {g : FP} {qual : Str} {st : Stmt} {f : Addr} {fd : FuncData} {N ps : List Str} {k : Nat} {T : Kt} {m : List D → Res D} (hT : g.K = T.K) (R : OkRule g qual st f fd N ps k) (S : FnScope N ps (defScope st))
    (h : ∀ cdv A outer s H E, Ctx (xOf g N qual st f cdv A outer s H E) T (WD E) k → ∀ ds : List D, ds.length = ps.length → PBX (xOf g N qual st f cdv A outer s H E) T (WD E) .fn (defBody st) (envS N.length ds) (m ds) (Fl.rt (L := Empty) (S := Empty)) noE noE) :
    FnOk g.P g.w g.K g.mg g.base (L2.CX g.P g.w) (k + 1) f fd ps (pureSp T ps.length m) := by
  refine R _ (fun vs H Q E h => ?_) (fun cdv A outer s H vs Q E hr h0 => ?_)
  · obtain ⟨G, ds, _, r, hl, _⟩ := h
    rw [r.length]; exact hl
  · obtain ⟨G, ds, sm, r, hl, hq⟩ := h0
    obtain ⟨t, p, ss⟩ := (h cdv A outer s H E (ctx_of hT S hr) ds hl).ex
    have hpl : ps.length ≤ N.length := by have := congrArg List.length S.pre; rw [List.length_take] at this; omega
    refine ⟨t, p, ?_⟩
    exact ss G H _ H G (Fr.refl sm) (mat_start sm r (by omega)) { nx := fun _ H' => Q .non H', rt := Q } _ rfl (hq.mono (fun d hd => hd) fun c vs z σ => z)

/-- __init__ -/
def initE (n : Nat) (x : Addr) (c : Nat) (ds : List D) : Env' := some (.ins x c []) :: (ds.map (fun d => some (.val d)) ++ List.replicate (n - (ds.length + 1)) none)
theorem mat_init {T : Kt} {N : List Str} {G H : Hp} {ws : List V} {ds : List D} {x C dx : Addr} {c : Nat} (s : Same G H) (hc : T.ca c = some C) (hx : H x = some (.ins C dx [])) (gx : G x = none) (r : Reps T G ws ds) (hl : ds.length + 1 ≤ N.length) : Mat T (erase H x) (L2.start N (.ref x :: ws)) H G (initE N.length x c ds) := by
  have M := mat_start (T := T) (N := N) (vs := .non :: ws) (ds := .non :: ds) s (.cons .non r) (by simpa using hl)
  have hh : erase H x x = none := if_pos rfl
  have e1 : initE N.length x c ds = (envS N.length (.non :: ds)).set 0 (some (.ins x c [])) := rfl
  have e2 : start N (V.ref x :: ws) = (L2.start N (V.non :: ws)).set 0 (some (.ref x)) := rfl
  rw [e1, e2]
  refine ⟨s, by simp [M.len], fun j cc e => ?_, fun j k cc d a e1 e2 n1 n2 s1 s2 => ?_⟩
  · rcases get_set e with ⟨rfl, q, hl⟩ | ⟨q, e⟩
    · cases q
      exact ⟨.ref x, by rw [List.getElem?_set_self (by rw [← M.len]; exact hl)], C, dx, [], rfl, hc, by simpa using hx, Nat.zero_le _, gx, hh, .nil⟩
    · obtain ⟨v, h1, h2⟩ := M.sl j cc e
      refine ⟨v, by rw [List.getElem?_set_ne q]; exact h1, ?_⟩
      cases cc with
      | val d => exact h2
      | own es =>
        unfold envS at e
        rcases Nat.lt_or_ge j (D.non :: ds).length with hi | hi
        · rw [List.getElem?_append_left (by simpa using hi), List.getElem?_map, List.getElem?_eq_getElem hi] at e; cases e
        · rw [List.getElem?_append_right (by simpa using hi), List.getElem?_replicate] at e; split at e <;> cases e
      | dio ks es =>
        unfold envS at e
        rcases Nat.lt_or_ge j (D.non :: ds).length with hi | hi
        · rw [List.getElem?_append_left (by simpa using hi), List.getElem?_map, List.getElem?_eq_getElem hi] at e; cases e
        · rw [List.getElem?_append_right (by simpa using hi), List.getElem?_replicate] at e; split at e <;> cases e
      | ins b c es =>
        unfold envS at e
        rcases Nat.lt_or_ge j (D.non :: ds).length with hi | hi
        · rw [List.getElem?_append_left (by simpa using hi), List.getElem?_map, List.getElem?_eq_getElem hi] at e; cases e
        · rw [List.getElem?_append_right (by simpa using hi), List.getElem?_replicate] at e; split at e <;> cases e
  · have key : ∀ (j : Nat) (cc : Cell), ((envS N.length (.non :: ds)).set 0 (some (.ins x c [])))[j]? = some (some cc) → cc.isVal = false → j = 0 := fun j cc e n => by
      rcases get_set e with ⟨rfl, q, hl⟩ | ⟨q, e⟩
      · rfl
      · unfold envS at e
        rcases Nat.lt_or_ge j (D.non :: ds).length with hi | hi
        · rw [List.getElem?_append_left (by simpa using hi), List.getElem?_map, List.getElem?_eq_getElem hi] at e; cases e; cases n
        · rw [List.getElem?_append_right (by simpa using hi), List.getElem?_replicate] at e; split at e <;> cases e
    rw [key j cc e1 n1, key k d e2 n2]
abbrev insE (n : Nat) (x : Addr) (c : Nat) : List D → Env' := fun fs => some (.ins x c fs) :: List.replicate (n - 1) none
/-- all fields are there -/
def chkL (n : Nat) (m : Res (List D)) : Res (List D) := m.bind fun fs => if fs.length = n then .ok fs else .bad
theorem fn_init {g : FP} {qual : Str} {st : Stmt} {f : Addr} {fd : FuncData} {N ps : List Str} {k c : Nat} {T : Kt} {m : List D → Res (List D)} (hT : g.K = T.K) (R : OkRule g qual st f fd N ps k) (S : FnScope N ps (defScope st))
    (h : ∀ cdv A outer s H E, Ctx (xOf g N qual st f cdv A outer s H E) T (WD E) k → ∀ (x : Addr) (ds : List D), ds.length + 1 = ps.length → PBX (xOf g N qual st f cdv A outer s H E) T (WD E) .fall (defBody st) (initE N.length x c ds) (m ds) (Fl.nx (L := Empty) (S := List D)) noE (insE N.length x c)) :
    FnOk g.P g.w g.K g.mg g.base (L2.CX g.P g.w) (k + 1) f fd ps (initSp T ps.length c fun ds => chkL (T.at_ c).length (m ds)) := by
  refine R _ (fun vs H Q E h => ?_) (fun cdv A outer s H vs Q E hr h0 => ?_)
  · obtain ⟨G, ds, x, C, dx, ws, rfl, _, _, _, _, r, hl, _⟩ := h
    rw [List.length_cons, r.length]; exact hl
  · obtain ⟨G, ds, x, C, dx, ws, rfl, hc, hx, gx, sm, r, hl, hq⟩ := h0
    obtain ⟨t, p, ss⟩ := (h cdv A outer s H E (ctx_of hT S hr) x ds hl).ex
    have hpl : ps.length ≤ N.length := by have := congrArg List.length S.pre; rw [List.length_take] at this; omega
    have hh : erase H x x = none := if_pos rfl
    have hne : ∀ b, b ≠ x → erase H x b = H b := fun b n => if_neg n
    have F0 : Fr G (erase H x) G H := ⟨fun b o e => by
      have n : b ≠ x := fun z => by subst z; rw [hh] at e; cases e
      rw [hne b n] at e; exact e, Same.refl _, sm, fun b o e => .inl e⟩
    refine ⟨t, p, ?_⟩
    dsimp only at hq
    cases hmm : m ds with
    | bad => rw [hmm] at hq; exact hq.elim
    | err cc vs =>
      rw [hmm] at hq
      refine ss G (erase H x) _ H G F0 (mat_init sm hc hx gx r (by omega)) { nx := fun _ H' => Q .non H', rt := Q } _ rfl ?_
      rw [hmm]
      have hq' : EX T E G (erase H x) cc vs := hq
      exact fun σ => hq'
    | ok fs =>
      rw [hmm] at hq
      by_cases hl2 : fs.length = (T.at_ c).length
      case neg =>
        have e : chkL (T.at_ c).length (.ok fs) = .bad := if_neg hl2
        rw [e] at hq
        exact hq.elim
      have e : chkL (T.at_ c).length (.ok fs) = .ok fs := if_pos hl2
      rw [e] at hq
      refine ss G (erase H x) _ H G F0 (mat_init sm hc hx gx r (by omega)) { nx := fun _ H' => Q .non H', rt := Q } _ rfl ?_
      rw [hmm]
      intro σ H1 G1 F1 M1
      obtain ⟨v, h1, C', dx', vs', rfl, hc', ha, hle, ga, ha0, r'⟩ := M1.sl 0 (.ins x c fs) rfl
      have htk : (T.at_ c).take fs.length = T.at_ c := by rw [hl2]; exact List.take_length
      rw [htk] at ha
      exact hq H1 _ (F1.frz ha ga ha0) (.obj hc' upd_same rfl (by rw [r'.length, hl2]) (r'.mono (same_upd ga)))
end Px

namespace Px
open PySem PySem.Spec PyProof.Rows L2

theorem lookup_zip {T : Kt} {G : Hp} {f : Str} : ∀ {ns : List Str} {vs : List V} {ds : List D} {d : D}, Reps T G vs ds → (ns.zip ds).lookup f = some d → ∃ v, (ns.zip vs).lookup f = some v ∧ Rep T G v d
  | [], _, _, _, _, h => by cases h
  | n :: ns, _, _, _, .nil, h => by cases h
  | n :: ns, v :: vs, e :: ds, d, .cons a r, h => by
    rw [List.zip_cons_cons] at h ⊢
    rw [List.lookup_cons] at h ⊢
    cases q : f == n with
    | true => rw [q] at h; cases h; exact ⟨v, rfl, a⟩
    | false => rw [q] at h; exact lookup_zip r h
theorem lookup_zip_none {f : Str} : ∀ {ns : List Str} {vs : List V}, ns.all (fun n => f != n) = true → (ns.zip vs).lookup f = none
  | [], _, _ => rfl
  | n :: ns, [], _ => rfl
  | n :: ns, v :: vs, h => by
    rw [List.all_cons, Bool.and_eq_true] at h
    rw [List.zip_cons_cons, List.lookup_cons]
    have q : (f == n) = false := by simpa using h.1
    rw [q]
    exact lookup_zip_none h.2

/-- what is known of the text's classes -/
structure KtOk (T : Kt) : Prop where
  cls : ∀ c C, T.ca c = some C → Cls T.K C
  no : ∀ c C, T.ca c = some C → ∀ f ∈ T.at_ c, NoAttr T.K C f
  ty : ∀ c C, T.ca c = some C → PySem.W.findIn T.K (.ref C) "__class__" = some (some (.builtin "object.__class__")) ∧ PySem.W.specialIn T.K (.builtin "object.__class__") "__get__" = some (some (.builtin "getset_descriptor.__get__")) ∧ PySem.W.takesIn T.K (.builtin "object.__class__") = some true ∧ PySem.W.mroIn T.K C (.type "object") = some true
  sub : ∀ c d C E, T.ca c = some C → T.ca d = some E → PySem.W.kitOne T.K (.ref C) (.ref E) = some (T.sub c d)
  bt : ∀ d E n, T.ca d = some E → n ∈ ["NoneType", "bool", "int", "str", "list", "tuple", "dict"] → PySem.W.kitOne T.K (.type n) (.ref E) = some false
  tb : ∀ d E n, T.ca d = some E → n ∈ ["bool", "int", "str", "list", "tuple", "dict"] → PySem.W.kitOne T.K (.ref E) (.type n) = some false

section
variable {X : Cx} {T : Kt} {W : WX} {k k' : Nat} {env : Env'} {a b c e o : Expr} {es : List Expr} {ma mb mc m : Res D} {pos : Pos}

/-! ### fields -/
def fldD (at_ : Nat → List Str) (f : Str) : D → Option D
  | .obj c ds => ((at_ c).zip ds).lookup f
  | _ => none
theorem zip_mem {α : Type} {f : Str} {d : α} : ∀ {ns : List Str} {ds : List α}, (ns.zip ds).lookup f = some d → f ∈ ns
  | [], _, h => by cases h
  | n :: ns, [], h => by cases h
  | n :: ns, e :: ds, h => by
    rw [List.zip_cons_cons, List.lookup_cons] at h
    cases q : f == n with
    | true => rw [eq_of_beq q]; exact List.mem_cons_self
    | false => rw [q] at h; exact List.mem_cons_of_mem _ (zip_mem h)
theorem px_fld {f : Str} (hk : X.K = T.K) (S : KtOk T) (he : PX X T W e env m) (hb : attributeBase e f X.env (eval e X.env) = eval e X.env) : PX X T W (.Attribute e f pos) env (op1 (fldD T.at_ f) m) := by
  obtain ⟨t, p, s⟩ := he.ex
  refine ⟨_, pe_fld p hb, fun H0 σ H G M Q h => ?_⟩
  refine s H0 σ H G M _ ((Res.sat_bind h).mono (fun x hx v1 H1 G1 f1 r1 => ?_) fun _ _ z => z)
  cases hf : fldD T.at_ f x with
  | none => rw [hf] at hx; exact hx.elim
  | some w =>
    rw [hf] at hx
    unfold fldD at hf
    split at hf
    · cases r1 with
      | obj hc hg hn hl rr =>
        rename_i ds C dx aa ns vs
        subst hn
        obtain ⟨v, h1, h2⟩ := lookup_zip rr hf
        rw [hk]
        exact ⟨_, _, _, _, v, rfl, f1.s _ _ hg, S.cls _ _ hc, S.no _ _ hc f (zip_mem hf), h1, hx v _ _ f1 h2⟩
    · cases hf

/-! ### isinstance -/
def isBT (n : String) : D → Option Bool
  | .non => some false
  | .bl _ => some (n == "bool" || n == "int")
  | .int _ => some (n == "int")
  | .str _ => some (n == "str")
  | .lst _ => some (n == "list")
  | .tup _ => some (n == "tuple")
  | .obj _ _ => some false
  | .dic _ _ => some (n == "dict")
  | .scr _ => none
def isiD (n : String) : D → Option D := fun d => (isBT n d).map .bl
def isOwn (sub : Nat → Nat → Bool) (c : Nat) : D → Option Bool
  | .obj d _ => some (sub d c)
  | .scr _ => none
  | _ => some false
def isCD (sub : Nat → Nat → Bool) (c : Nat) : D → Option D := fun d => (isOwn sub c d).map .bl
theorem ty_of {G H : Hp} {v : V} {d : D} (S : KtOk T) (s : Same G H) (r : Rep T G v d) (hd : ∀ l, d ≠ .scr l) : ∃ t, TyX T.K H v t ∧ (match d with
    | .non => t = .type "NoneType"
    | .bl _ => t = .type "bool"
    | .int _ => t = .type "int"
    | .str _ => t = .type "str"
    | .lst _ => t = .type "list"
    | .scr _ => False
    | .tup _ => t = .type "tuple"
    | .dic _ _ => t = .type "dict"
    | .obj c _ => ∃ C, T.ca c = some C ∧ t = .ref C) := by
  cases r with
  | dic e hl r => exact ⟨_, .base (.dK (s _ _ e)), rfl⟩
  | non => exact ⟨_, .base .non, rfl⟩
  | bl b => exact ⟨_, .base (.bl b), rfl⟩
  | int b => exact ⟨_, .base (.int b), rfl⟩
  | str b => exact ⟨_, .base (.str b), rfl⟩
  | lst h _ => exact ⟨_, .base (.lst (s _ _ h)), rfl⟩
  | scr h _ => exact absurd rfl (hd _)
  | tup h _ =>
    rcases sqT_same s h with (h | ⟨o, h⟩) | ⟨o, _, _, h1, h2, _⟩
    · exact ⟨_, .base (.tup h), rfl⟩
    · exact ⟨_, .fTuple h, rfl⟩
    · exact ⟨_, .kTuple h1 h2, rfl⟩
  | obj hc hg _ _ _ =>
    obtain ⟨h1, h2, h3, h4⟩ := S.ty _ _ hc
    exact ⟨_, .base (.ins (s _ _ hg) (S.cls _ _ hc) h1 h2 h3 h4), _, hc, rfl⟩
/-- isinstance(e, T), T built in -/
theorem px_isi {n : String} {x : Str} {p p2 : Pos} (hk : X.K = T.K) (S : KtOk T) (hn : n ∈ ["bool", "int", "str", "list", "tuple", "dict"]) (hg : Gl X "isinstance") (hm : X.mg "isinstance" = none) (hgt : Gl X x) (hmt : X.mg x = none) (hvt : bootBuiltins x = some (.type n)) (hnt : x ≠ "__name__") (hdt : (x == ("__debug__" : Str)) = false) (he : PX X T W e env m)
    (hs : starEach [e, .Name x p2] X.env = (false, eval e X.env) :: starEach [.Name x p2] X.env := by rfl) (hs2 : starEach [.Name x p2] X.env = (false, eval (.Name x p2) X.env) :: starEach [] X.env := by rfl) (hpl : (backTo pos (starEach [.Name x p2] X.env)).any (·.1) = false := by rfl) :
    PX X T W (.Call (.Name "isinstance" p) [e, .Name x p2] [] pos) env (op1 (isiD n) m) := by
  obtain ⟨t, pe, s⟩ := he.ex
  have pb : PE X (.Name x p2) (tC (.ty n)) := pe_bltn hgt hmt hvt rfl hnt hdt
  refine ⟨_, pe_callB call_isi hg hm (by decide +kernel) (pa_cons pe (pa_cons pb pa_nil hs2) hs) (by decide) (by decide) hs hpl, fun H0 σ H G M Q h => ?_⟩
  refine s H0 σ H G M _ ((Res.sat_bind h).mono (fun d hd v1 H1 G1 f1 r1 => ?_) fun _ _ z => z)
  show rIsi X.K [v1, .ty n] H1 Q
  have fin : ∀ (bb : Bool) (t : Value), TyX T.K H1 v1 t → PySem.W.kitOne T.K t (.type n) = some bb → isBT n d = some bb → rIsi X.K [v1, .ty n] H1 Q := fun bb t h1 h2 h3 => by
    unfold isiD at hd
    rw [h3] at hd
    rw [hk]
    exact ⟨v1, .ty n, t, .type n, bb, rfl, .ty n, h1, h2, hd _ _ _ f1 (.bl bb)⟩
  by_cases hscr : ∃ l, d = .scr l
  · obtain ⟨l, rfl⟩ := hscr
    exact hd.elim
  · obtain ⟨tt, ty, ht⟩ := ty_of S f1.s r1 fun l z => hscr ⟨l, z⟩
    simp only [List.mem_cons, List.not_mem_nil, or_false] at hn
    cases d with
    | non => subst ht; refine fin _ _ ty ?_ rfl; rcases hn with rfl | rfl | rfl | rfl | rfl | rfl <;> exact kit_ty (by decide +kernel)
    | bl b => subst ht; refine fin _ _ ty ?_ rfl; rcases hn with rfl | rfl | rfl | rfl | rfl | rfl <;> exact kit_ty (by decide +kernel)
    | int b => subst ht; refine fin _ _ ty ?_ rfl; rcases hn with rfl | rfl | rfl | rfl | rfl | rfl <;> exact kit_ty (by decide +kernel)
    | str b => subst ht; refine fin _ _ ty ?_ rfl; rcases hn with rfl | rfl | rfl | rfl | rfl | rfl <;> exact kit_ty (by decide +kernel)
    | lst b => subst ht; refine fin _ _ ty ?_ rfl; rcases hn with rfl | rfl | rfl | rfl | rfl | rfl <;> exact kit_ty (by decide +kernel)
    | scr b => exact ht.elim
    | tup b => subst ht; refine fin _ _ ty ?_ rfl; rcases hn with rfl | rfl | rfl | rfl | rfl | rfl <;> exact kit_ty (by decide +kernel)
    | dic b b2 => subst ht; refine fin _ _ ty ?_ rfl; rcases hn with rfl | rfl | rfl | rfl | rfl | rfl <;> exact kit_ty (by decide +kernel)
    | obj c ds =>
      obtain ⟨C, hc, rfl⟩ := ht
      exact fin false _ ty (S.tb c C n hc (by simpa using hn)) rfl
/-- isinstance(e, C), a class of the text's own -/
theorem px_isC {cc : Nat} {C : Addr} {x : Str} {p p2 : Pos} (hk : X.K = T.K) (S : KtOk T) (hc : T.ca cc = some C) (hg : Gl X "isinstance") (hm : X.mg "isinstance" = none) (hgt : Gl X x) (hmt : X.mg x = some (.ref C)) (hdt : (x == ("__debug__" : Str)) = false) (he : PX X T W e env m)
    (hs : starEach [e, .Name x p2] X.env = (false, eval e X.env) :: starEach [.Name x p2] X.env := by rfl) (hs2 : starEach [.Name x p2] X.env = (false, eval (.Name x p2) X.env) :: starEach [] X.env := by rfl) (hpl : (backTo pos (starEach [.Name x p2] X.env)).any (·.1) = false := by rfl) :
    PX X T W (.Call (.Name "isinstance" p) [e, .Name x p2] [] pos) env (op1 (isCD T.sub cc) m) := by
  obtain ⟨t, pe, s⟩ := he.ex
  have pb : PE X (.Name x p2) (tC (.ref C)) := pe_glob hgt hmt rfl hdt
  refine ⟨_, pe_callB call_isi hg hm (by decide +kernel) (pa_cons pe (pa_cons pb pa_nil hs2) hs) (by decide) (by decide) hs hpl, fun H0 σ H G M Q h => ?_⟩
  refine s H0 σ H G M _ ((Res.sat_bind h).mono (fun d hd v1 H1 G1 f1 r1 => ?_) fun _ _ z => z)
  show rIsi X.K [v1, .ref C] H1 Q
  have fin : ∀ (bb : Bool) (t : Value), TyX T.K H1 v1 t → PySem.W.kitOne T.K t (.ref C) = some bb → isOwn T.sub cc d = some bb → rIsi X.K [v1, .ref C] H1 Q := fun bb t h1 h2 h3 => by
    unfold isCD at hd
    rw [h3] at hd
    rw [hk]
    exact ⟨v1, .ref C, t, .ref C, bb, rfl, .own C, h1, h2, hd _ _ _ f1 (.bl bb)⟩
  by_cases hscr : ∃ l, d = .scr l
  · obtain ⟨l, rfl⟩ := hscr
    exact hd.elim
  · obtain ⟨tt, ty, ht⟩ := ty_of S f1.s r1 fun l z => hscr ⟨l, z⟩
    cases d with
    | non => subst ht; exact fin _ _ ty (S.bt cc C _ hc (by simp)) rfl
    | bl b => subst ht; exact fin _ _ ty (S.bt cc C _ hc (by simp)) rfl
    | int b => subst ht; exact fin _ _ ty (S.bt cc C _ hc (by simp)) rfl
    | str b => subst ht; exact fin _ _ ty (S.bt cc C _ hc (by simp)) rfl
    | lst b => subst ht; exact fin _ _ ty (S.bt cc C _ hc (by simp)) rfl
    | scr b => exact ht.elim
    | tup b => subst ht; exact fin _ _ ty (S.bt cc C _ hc (by simp)) rfl
    | dic b b2 => subst ht; exact fin _ _ ty (S.bt cc C _ hc (by simp)) rfl
    | obj c ds =>
      obtain ⟨C', hc', rfl⟩ := ht
      exact fin _ _ ty (S.sub c cc C' C hc' hc) rfl
end

/-! ### calls -/
section
variable {X : Cx} {CX : CXT} {k : Nat} {f C : Addr} {fd : FuncData} {ps : List Str} {sp : Sp} {E : L2.St → XK} {x m : Str} {p pos apos : Pos} {e o : Expr} {es : List Expr} {ta : TE} {t : TA} {dvs : List V} {ds : List Value}
theorem run_fnD {pins : List (Addr × Obj)} {σ : L2.St} {H : Hp} {s : Shared} {Q : VK} {us : List Value} {vs : List V} {E : XK} {A : Around} (hA : A.frames = X.A.frames) (F : FnOk X.prog X.w X.K X.mg X.base CX k f fd ps sp) (hr : Room k A) (hb : Binds X.K fd ps ds) (hd : Vals dvs ds) (hx : PassesAt CX X σ E)
    (I : Inv X pins σ H s) (r : Vals vs us) (h : sp (vs ++ dvs) H Q E) : wpAny (model X.prog X.w) A (call (.ref f) us) (EP X pins σ Q) X.xe s := by
  have r2 : Vals (vs ++ dvs) (us ++ ds) := r.append hd
  have hl : (us ++ ds).length = ps.length := by rw [← r2.length]; exact F.len _ _ _ _ h
  have e0 : Env0 X.prog X.w X.K X.mg X.base A X.stack s H := by
    have e := I.env0
    exact ⟨by rw [hA]; exact e.frames, e.mod, e.bs, e.bsz, e.funs, e.frf, e.hok, e.bare⟩
  refine wpAny_call (codeAny_mono (F.run A X.stack s H ⟨us, []⟩ (us ++ ds) (vs ++ dvs) Q E hr e0 (hb s us I.kIn hl) r2 h) fun r s' hq => ?_)
  cases r with
  | error e => exact hx pins H s e s' I hq
  | ok fl =>
    cases fl with
    | ret u => exact I.after hq
    | next => exact False.elim hq
    | brk => exact False.elim hq
    | cont => exact False.elim hq
def tCallD (sp : Sp) (dvs : List V) (E : L2.St → XK) (t : TA) : TE := fun σ H Q => t σ H fun vs H1 => sp (vs ++ dvs) H1 Q (E σ)
theorem pe_callD {E : L2.St → XK} (F : FnOk X.prog X.w X.K X.mg X.base CX k f fd ps sp) (hr : Room k X.A) (hg : Gl X x) (hm : X.mg x = some (.ref f)) (hk : PySem.W.keepIn X.K (.ref f) = true) (hb : Binds X.K fd ps ds) (hd : Vals dvs ds) (hx : ∀ σ, PassesAt CX X σ (E σ))
    (ha : PA X (e :: es) t) (hdb : (x == ("__debug__" : Str)) = false := by decide) (he : starEach (e :: es) X.env = (false, eval e X.env) :: starEach es X.env := by rfl) (hpl : (backTo pos (starEach es X.env)).any (·.1) = false := by rfl) :
    PE X (.Call (.Name x p) (e :: es) [] pos) (tCallD sp dvs E t) := by
  refine ⟨fun pins s σ H Q I h => ?_⟩
  refine wpAny_Call_Name_kw (ld_glob I hg hm ?_ hdb)
  refine PySem.W.callWith_K (h₀ := X.base) I.ok.mod.kin hk (thn (ha.run pos pins s σ H _ I h) fun us s1 ⟨vs, H1, I1, r, q⟩ => ⟨I1.kIn, ?_⟩) he hpl
  exact run_fnD rfl F hr hb hd (hx σ) I1 r q
theorem pe_callD0 {E : L2.St → XK} (F : FnOk X.prog X.w X.K X.mg X.base CX k f fd ps sp) (hr : Room k X.A) (hg : Gl X x) (hm : X.mg x = some (.ref f)) (hk : PySem.W.keepIn X.K (.ref f) = true) (hb : Binds X.K fd ps ds) (hd : Vals dvs ds) (hx : ∀ σ, PassesAt CX X σ (E σ))
    (hdb : (x == ("__debug__" : Str)) = false := by decide) : PE X (.Call (.Name x p) [] [] pos) (tCallD sp dvs E tNil) := by
  refine ⟨fun pins s σ H Q I h => ?_⟩
  refine wpAny_Call_Name_kw (ld_glob I hg hm ?_ hdb)
  exact PySem.W.callWith_K0 I.kIn hk (run_fnD (us := []) rfl F hr hb hd (hx σ) I .nil h)
def tMethD (C : Addr) (m : Str) (sp : Sp) (dvs : List V) (E : L2.St → XK) (ta : TE) (t : TA) : TE := fun σ H Q => ta σ H fun x H1 => ∃ a dx fs, x = .ref a ∧ H1 a = some (.ins C dx fs) ∧ fs.lookup m = none ∧
  t σ H1 fun vs H2 => sp (x :: (vs ++ dvs)) H2 Q (E σ)
theorem pe_methD {pl : Sem Bool} {E : L2.St → XK} (he : PE X o ta) (c : Cls X.K C) (hm : Meth X.K C m f) (F : FnOk X.prog X.w X.K X.mg X.base CX k f fd ps sp) (hr : Room k X.A) (hb : Binds X.K fd ps ds) (hd : Vals dvs ds) (hx : ∀ σ, PassesAt CX X σ (E σ)) (ha : PA X (e :: es) t)
    (hst : starEach (e :: es) X.env = (false, eval e X.env) :: starEach es X.env := by rfl) (hpl : (backTo pos (starEach es X.env)).any (·.1) = false := by rfl)
    (ht : eval (.Call (.Attribute o m apos) (e :: es) [] pos) X.env = (do
      let ov ← eval o X.env
      standAt apos.atName
      let (f, first) ← holding [ov] (getMethod ov m pl)
      callWith pos f first (backTo pos (starEach (e :: es) X.env)) (backToKw pos (keywordEach [] X.env))) := by rfl) :
    PE X (.Call (.Attribute o m apos) (e :: es) [] pos) (tMethD C m sp dvs E ta t) := by
  refine ⟨fun pins s σ H Q I h => ?_⟩
  refine PySem.W.methodCall_KW (pl := pl) (thn (he.run pins s σ H _ I h) fun u s1 ⟨x, H1, I1, rx, a, dx, fs, ex, ea, l, q⟩ => ?_) ht
  subst ex
  obtain rfl : u = Value.ref a := rx
  refine getmeth_ok I1 ea c hm l ?_
  refine PySem.W.callWith_K (first := [.ref a]) (h₀ := X.base) I.ok.mod.kin hm.kp (thn (ha.run pos pins s1 σ H1 _ I1 q) fun us s2 ⟨vs, H2, I2, r, q2⟩ => ⟨I2.kIn, ?_⟩) hst hpl
  exact run_fnD (us := .ref a :: us) (vs := .ref a :: vs) rfl F hr hb hd (hx σ) I2 (.cons rfl r) q2
theorem pe_methD0 {pl : Sem Bool} {E : L2.St → XK} (he : PE X o ta) (c : Cls X.K C) (hm : Meth X.K C m f) (F : FnOk X.prog X.w X.K X.mg X.base CX k f fd ps sp) (hr : Room k X.A) (hb : Binds X.K fd ps ds) (hd : Vals dvs ds) (hx : ∀ σ, PassesAt CX X σ (E σ))
    (ht : eval (.Call (.Attribute o m apos) [] [] pos) X.env = (do
      let ov ← eval o X.env
      standAt apos.atName
      let (f, first) ← holding [ov] (getMethod ov m pl)
      callWith pos f first (backTo pos (starEach [] X.env)) (backToKw pos (keywordEach [] X.env))) := by rfl) :
    PE X (.Call (.Attribute o m apos) [] [] pos) (tMethD C m sp dvs E ta tNil) := by
  refine ⟨fun pins s σ H Q I h => ?_⟩
  refine PySem.W.methodCall_KW (pl := pl) (thn (he.run pins s σ H _ I h) fun u s1 ⟨x, H1, I1, rx, a, dx, fs, ex, ea, l, q⟩ => ?_) ht
  subst ex
  obtain rfl : u = Value.ref a := rx
  refine getmeth_ok I1 ea c hm l ?_
  exact PySem.W.callWith_K0 (first := [.ref a]) I1.kIn hm.kp (run_fnD (us := [.ref a]) (vs := [.ref a]) rfl F hr hb hd (hx σ) I1 (.cons rfl .nil) q)
/-- own binary operators: both sides of the class at C -/
def tOwn2 (C : Addr) (sp : Sp) (E : L2.St → XK) (ta tb : TE) : TE := fun σ H Q => ta σ H fun x H1 => tb σ H1 fun y H2 => ∃ a b dx dy fs gs, x = .ref a ∧ y = .ref b ∧ H2 a = some (.ins C dx fs) ∧ H2 b = some (.ins C dy gs) ∧ sp [x, y] H2 Q (E σ)
theorem cmpBack_of {v : V} {u : Value} {s : Shared} {Q : Value → Shared → Prop} (r : RelV v u) (h : Q u s) : PySem.W.CmpBack Q u s := by
  cases v with
  | non => cases (show u = _ from r); exact h
  | bl b => cases (show u = _ from r); exact h
  | int b => obtain ⟨t, rfl⟩ := (show ∃ t, u = Value.int b t from r); exact h
  | str b => obtain ⟨t, rfl⟩ := (show ∃ t, u = Value.str b t from r); exact h
  | byt b => obtain ⟨t, rfl⟩ := (show ∃ t, u = Value.bytes b t from r); exact h
  | flt b => obtain ⟨t, rfl⟩ := (show ∃ t, u = Value.float b t from r); exact h
  | ref b => cases (show u = _ from r); exact h
  | ty b => cases (show u = _ from r); exact h
theorem pe_own2 {op : Operator} {l r : Expr} {tb : TE} {E : L2.St → XK} (hl : PE X l ta) (hr' : PE X r tb) (hc : PySem.W.selfFirst X.K C = true) (hs : PySem.W.findIn X.K (.ref C) (PySem.dunder op.info.2) = some (some (.ref f))) (hf : PySem.W.isFn X.K (.ref f) = true)
    (F : FnOk X.prog X.w X.K X.mg X.base CX k f fd ps sp) (hr : Room k X.A) (hb : Binds X.K fd ps []) (hx : ∀ σ, PassesAt CX X σ (E σ)) : PE X (.BinOp l op r pos) (tOwn2 C sp E ta tb) := by
  refine ⟨fun pins s σ H Q I h => wpAny_BinOp (binT hl hr' I h fun v u s2 x y H2 I2 rx ry q => ?_)⟩
  obtain ⟨a, b, dx, dy, fs, gs, rfl, rfl, ha, hb', q⟩ := q
  cases rx
  cases ry
  obtain ⟨mA, J, _⟩ := ins_get I2.hok ha
  obtain ⟨mB, J', _⟩ := ins_get I2.hok hb'
  obtain ⟨od, J, _⟩ := J.look
  obtain ⟨od', J', _⟩ := J'.look
  obtain ⟨m, hF⟩ := I2.fr
  refine PySem.W.binop_K hF I2.ok.mod.kin J J'.type hc hs hf ?_
  refine thn (run_fnD (us := [.ref a, .ref b]) (vs := [.ref a, .ref b]) (dvs := []) rfl F hr hb .nil (hx σ) I2 (.cons rfl (.cons rfl .nil)) q) fun u s3 hq => ?_
  obtain ⟨w, H3, I3, rw3, q3⟩ := hq
  exact cmpBack_of rw3 ⟨w, H3, I3, rw3, q3⟩
/-- own ==, the left side of the class at C; the right side's type is known -/
def tOwnEq (K : PySem.W.Frag) (C : Addr) (sp : Sp) (E : L2.St → XK) (ta tb : TE) : TE := fun σ H Q => ta σ H fun x H1 => tb σ H1 fun y H2 => ∃ a dx fs t, x = .ref a ∧ H2 a = some (.ins C dx fs) ∧ TyX K H2 y t ∧ PySem.W.notFirst K C t = true ∧ sp [x, y] H2 Q (E σ)
theorem pe_ownEq {l r : Expr} {tb : TE} {E : L2.St → XK} (hl : PE X l ta) (hr' : PE X r tb) (hs : PySem.W.findIn X.K (.ref C) "__eq__" = some (some (.ref f))) (hf : PySem.W.isFn X.K (.ref f) = true)
    (F : FnOk X.prog X.w X.K X.mg X.base CX k f fd ps sp) (hr : Room k X.A) (hb : Binds X.K fd ps []) (hx : ∀ σ, PassesAt CX X σ (E σ)) (hm : behindInMarks .Eq r = false) : PE X (.Compare l [.Eq] [r] pos) (tOwnEq X.K C sp E ta tb) := by
  refine ⟨fun pins s σ H Q I h => wpAny_Compare1 (binT hl hr' I h fun v u s2 x y H2 I2 rx ry q => ?_) hm⟩
  obtain ⟨a, dx, fs, t, rfl, ha, ty, nf, q⟩ := q
  cases rx
  obtain ⟨mA, J, _⟩ := ins_get I2.hok ha
  obtain ⟨od, J, _⟩ := J.look
  obtain ⟨m, hF⟩ := I2.fr
  obtain ⟨P, Z, p, _⟩ := kit_of I2 ry ty
  refine PySem.W.cmp_K (op := .Eq) (tb := t) hr.units0 hF I2.ok.mod.kin J (Z.ty _ _ I2.kIn p) nf hs hf ?_
  refine thn (run_fnD (us := [.ref a, u]) (vs := [.ref a, y]) (dvs := []) rfl F hr hb .nil (hx σ) I2 (.cons rfl (.cons ry .nil)) q) fun u s3 hq => ?_
  obtain ⟨w, H3, I3, rw3, q3⟩ := hq
  exact cmpBack_of rw3 ⟨w, H3, I3, rw3, q3⟩
/-- o(e, ..), o an instance with an own __call__ -/
def tCallI (C : Addr) (sp : Sp) (E : L2.St → XK) (ta : TE) (t : TA) : TE := fun σ H Q => ta σ H fun x H1 => ∃ a dx fs, x = .ref a ∧ H1 a = some (.ins C dx fs) ∧ t σ H1 fun vs H2 => H2 a = some (.ins C dx fs) ∧ sp (x :: vs) H2 Q (E σ)
theorem inst_callWith {A : Around} {E' : Value → Shared → Prop} {s : Shared} {x' C' : Addr} {ox : Obj} {Q : Value → Shared → Prop} {M : Model} {args : List (Bool × Sem Value)} (hplain : (args.any (·.1)) = false) (hd : ox.data = .plain)
    (h : wpAny M A (evalArgs (.ref x') true args []) (fun a s₁ => (∃ od, PySem.W.InstAt s₁.heap x' ox C' od) ∧ wpAny M A (call (.ref x') ([] ++ a.pos) a.kw) Q E' s₁) E' s) : wpAny M A (callWith pos (.ref x') [] args []) Q E' s := by
  unfold callWith
  refine wpAny_bind (wpAny_holding (wpAny_mono h (fun a s₁ h₁ => wpAny_bind (wpAny_standAt ?_)) fun _ _ y => y))
  obtain ⟨⟨od, I⟩, h₂⟩ := h₁
  have L := PySem.W.kco_keeper (M := M) I hd
  simp only [hplain]
  refine wpAny_bind (L.here ?_)
  have tail : ∀ {t : Sem Value}, wpAny M A t Q E' s₁ → wpAny M A (t >>= fun r => holding [r] point >>= fun _ => pure r) Q E' s₁ :=
    fun ht => wpAny_bind (wpAny_mono ht (fun r s₂ hr => wpAny_bind (wpAny_holding (wpAny_point (wpAny_pure hr)))) fun _ _ y => y)
  exact tail (wpAny_operateT h₂)
theorem pe_callI {E : L2.St → XK} (ho : PE X (.Name x p) ta) (ha : PA X (e :: es) t) (hs : PySem.W.findIn X.K (.ref C) "__call__" = some (some (.ref f))) (hf : PySem.W.isFn X.K (.ref f) = true) (hfn : PySem.W.fnIn X.K f = true)
    (F : FnOk X.prog X.w X.K X.mg X.base CX k f fd ps sp) (hr : Room (k + 1) X.A) (hb : Binds X.K fd ps []) (hx : ∀ σ, PassesAt CX X σ (E σ))
    (he : starEach (e :: es) X.env = (false, eval e X.env) :: starEach es X.env := by rfl) (hpl : (backTo pos (starEach es X.env)).any (·.1) = false := by rfl) :
    PE X (.Call (.Name x p) (e :: es) [] pos) (tCallI C sp E ta t) := by
  refine ⟨fun pins s σ H Q I h => ?_⟩
  refine wpAny_Call_Name_kw (thn (ho.run pins s σ H _ I h) fun u s1 ⟨y, H1, I1, ry, a, dx, fs, ey, ea, q1⟩ => ?_)
  subst ey
  obtain rfl : u = Value.ref a := ry
  rw [he]
  refine inst_callWith (ox := PySem.W.instObj C dx) (C' := C) (by show (false || (backTo pos (starEach es X.env)).any (·.1)) = false; rw [hpl]; rfl) rfl (PySem.Calls.evalArgs_plain ?_)
  have ha' := ha.run pos pins s1 σ H1 _ I1 q1
  rw [he] at ha'
  refine thn ha' fun us s2 ⟨vs, H2, I2, r, ea2, q2⟩ => ?_
  obtain ⟨mA, J, _⟩ := ins_get I2.hok ea2
  obtain ⟨od, J, _⟩ := J.look
  refine ⟨⟨_, J⟩, ?_⟩
  have r2 : Vals (.ref a :: vs) (.ref a :: us) := .cons rfl r
  have hl := F.len _ _ _ _ q2
  have b := hb s2 (.ref a :: us) I2.kIn (by rw [List.append_nil, ← r2.length]; exact hl)
  rw [List.append_nil] at b
  have e0 : Env0 X.prog X.w X.K X.mg X.base X.A.in1 X.stack s2 H2 := I2.env0.in1
  refine wpAny_call (PySem.W.kco_code I2.kIn J rfl hs hf hfn (codeAny_mono (F.run X.A X.stack s2 H2 ⟨.ref a :: us, []⟩ (.ref a :: us) (.ref a :: vs) Q (E σ) (hr.mono (Nat.le_succ k)) I2.env0 b r2 q2) fun r s' hq => ?_))
  cases r with
  | error e => exact hx σ pins H2 s2 e s' I2 hq
  | ok fl =>
    cases fl with
    | ret u => exact I2.after hq
    | next => exact False.elim hq
    | brk => exact False.elim hq
    | cont => exact False.elim hq
end
end Px

namespace Px
open PySem PySem.Spec PyProof.Rows L2

/-! ### calls of the text's own defs, by mirrors -/
def callR (m : List D → Res D) (dd : List D) (ms : Res (List D)) : Res D := ms.bind fun l => m (l ++ dd)
@[simp] theorem callR_ok (m : List D → Res D) (dd l : List D) : callR m dd (.ok l) = m (l ++ dd) := id rfl
def methR (c : Nat) (m : List D → Res D) (dd : List D) (mo : Res D) (ms : Res (List D)) : Res D := mo.bind fun o => match o with
  | .obj c' _ => if c' = c then ms.bind fun l => m (o :: (l ++ dd)) else .bad
  | _ => .bad
def makeR (c : Nat) (m : List D → Res (List D)) (dd : List D) (ms : Res (List D)) : Res D := ms.bind fun l => (m (l ++ dd)).bind fun fs => .ok (.obj c fs)
def propR (c : Nat) (m : List D → Res D) (mo : Res D) : Res D := mo.bind fun o => match o with
  | .obj c' _ => if c' = c then noErr (m [o]) else .bad
  | _ => .bad
def own2R (c : Nat) (m : List D → Res D) (ma mb : Res D) : Res D := ma.bind fun a => mb.bind fun b => match a, b with
  | .obj c1 _, .obj c2 _ => if c1 = c ∧ c2 = c then m [a, b] else .bad
  | _, _ => .bad
/-- own ==: the left side an object of class c; the right side anything known (of another class: not below it) -/
def ownEqR (sub : Nat → Nat → Bool) (c : Nat) (m : List D → Res D) (ma mb : Res D) : Res D := ma.bind fun a => mb.bind fun b => match a with
  | .obj c1 _ => if c1 = c then (match b with
      | .obj c2 _ => if c2 = c ∨ sub c2 c = false then m [a, b] else .bad
      | .scr _ => .bad
      | _ => m [a, b]) else .bad
  | _ => .bad
def callI (c : Nat) (m : List D → Res D) (mo : Res D) (ms : Res (List D)) : Res D := mo.bind fun o => match o with
  | .obj c' _ => if c' = c then ms.bind fun l => m (o :: l) else .bad
  | _ => .bad

section
variable {X : Cx} {T : Kt} {W : WX} {k k' : Nat} {env : Env'} {a b c e o : Expr} {es : List Expr} {mo ma mb m : Res D} {ms : Res (List D)} {pos : Pos} {mm : List D → Res D} {mi : List D → Res (List D)} {f C : Addr} {fd : FuncData} {ps : List Str} {x : Str} {p apos : Pos} {dvs : List V} {ds : List Value} {dd : List D} {n : Nat} {cc : Nat}

theorem rep_obj {G : Hp} {v : V} {c : Nat} {l : List D} (r : Rep T G v (.obj c l)) : ∃ a C dx ns vs, v = .ref a ∧ T.ca c = some C ∧ G a = some (.ins C dx (ns.zip vs)) ∧ ns = T.at_ c := by
  cases r with
  | obj hc hg hn hl rr => exact ⟨_, _, _, _, _, rfl, hc, hg, hn⟩
theorem pure_of {G H : Hp} {σ : L2.St} {vs : List V} {l : List D} {Q : VK} {E : XK} (s : Same G H) (r : Reps T G vs l) (hn : ∀ ds, ds.length ≠ n → mm ds = .bad) (h : (mm l).sat (PQ T G H Q) (EX T E G H)) : pureSp T n mm vs H Q E := by
  refine ⟨G, l, s, r, ?_, h⟩
  rcases Decidable.em (l.length = n) with z | z
  · exact z
  · rw [hn l z] at h; exact h.elim
theorem px_call (Cc : Ctx X T W k') (F : FnOk X.prog X.w X.K X.mg X.base (L2.CX X.prog X.w) k f fd ps (pureSp T n mm)) (hn : ∀ ds, ds.length ≠ n → mm ds = .bad) (hk : k ≤ k') (hg : Gl X x) (hm : X.mg x = some (.ref f)) (hkp : PySem.W.keepIn X.K (.ref f) = true) (hb : L2.Binds X.K fd ps ds) (hd : Vals dvs ds) (rd : ∀ G, Reps T G dvs dd)
    (ha : PAX X T W (e :: es) env ms) (hdb : (x == ("__debug__" : Str)) = false := by decide) (he : starEach (e :: es) X.env = (false, eval e X.env) :: starEach es X.env := by rfl) (hpl : (backTo pos (starEach es X.env)).any (·.1) = false := by rfl) :
    PX X T W (.Call (.Name x p) (e :: es) [] pos) env (callR mm dd ms) := by
  obtain ⟨t, pa, sa⟩ := ha.ex
  refine ⟨_, pe_callD F (Cc.room.mono hk) hg hm hkp hb hd Cc.pass pa hdb he hpl, fun H0 σ H G M Q h => ?_⟩
  refine sa H0 σ H G M _ ((Res.sat_bind h).mono (fun l hl vs H1 G1 f1 r1 => ?_) fun _ _ z => z)
  exact pure_of (σ := σ) f1.s (r1.append (rd G1)) hn (hl.mono (fun d z => z.fr f1) fun _ _ z => z.fr f1)
theorem px_call0 (Cc : Ctx X T W k') (F : FnOk X.prog X.w X.K X.mg X.base (L2.CX X.prog X.w) k f fd ps (pureSp T n mm)) (hn : ∀ ds, ds.length ≠ n → mm ds = .bad) (hk : k ≤ k') (hg : Gl X x) (hm : X.mg x = some (.ref f)) (hkp : PySem.W.keepIn X.K (.ref f) = true) (hb : L2.Binds X.K fd ps ds) (hd : Vals dvs ds) (rd : ∀ G, Reps T G dvs dd)
    (hdb : (x == ("__debug__" : Str)) = false := by decide) : PX X T W (.Call (.Name x p) [] [] pos) env (callR mm dd (.ok [])) := by
  refine ⟨_, pe_callD0 F (Cc.room.mono hk) hg hm hkp hb hd Cc.pass hdb, fun H0 σ H G M Q h => ?_⟩
  exact pure_of (σ := σ) M.gh (rd G) hn h
theorem px_make (Cc : Ctx X T W k') (M0 : Mk X.K C f) (hc : T.ca cc = some C) (F : FnOk X.prog X.w X.K X.mg X.base (L2.CX X.prog X.w) k f fd ps (initSp T n cc mi)) (hn : ∀ ds, ds.length + 1 ≠ n → mi ds = .bad) (hk : k + 1 ≤ k') (hg : Gl X x) (hm : X.mg x = some (.ref C)) (hb : L2.Binds X.K fd ps ds) (hd : Vals dvs ds) (rd : ∀ G, Reps T G dvs dd)
    {t : TA} (pm : ∀ E : L2.St → XK, (∀ σ, PassesAt (L2.CX X.prog X.w) X σ (E σ)) → PE X e (fun σ H Q => t σ H fun vs H1 => ∀ x dx, H1 x = none → H1 dx = none → dx ≠ x → initSp T n cc mi (.ref x :: (vs ++ dvs)) (upd (upd H1 dx (.own x)) x (.ins C dx [])) (fun v H2 => v = .non ∧ Q (.ref x) H2) (E σ))) (sa : SA T W t env ms) :
    PX X T W e env (makeR cc mi dd ms) := by
  refine ⟨_, pm (WE W) Cc.pass, fun H0 σ H G M Q h => ?_⟩
  refine sa H0 σ H G M _ ((Res.sat_bind h).mono (fun l hl vs H1 G1 f1 r1 x dx nx ndx hne => ?_) fun _ _ z => z)
  have hl' := Res.sat_bind hl
  have hlen : (l ++ dd).length + 1 = n := by
    rcases Decidable.em ((l ++ dd).length + 1 = n) with z | z
    · exact z
    · rw [hn _ z] at hl'; exact hl'.elim
  have gx : G1 x = none := f1.s.free nx
  have s1 : Same H1 (upd (upd H1 dx (.own x)) x (.ins C dx [])) := (same_upd ndx).trans (same_upd (by rw [upd_ne (Ne.symm hne)]; exact nx))
  have lift : ∀ {G' H'}, Fr G1 (erase (upd (upd H1 dx (.own x)) x (.ins C dx [])) x) G' H' → Fr G1 H1 G' H' := fun {G' H'} ff => by
    have key : ∀ b o, H1 b = some o → erase (upd (upd H1 dx (.own x)) x (.ins C dx [])) x b = some o := fun b o e => by
      have n1 : b ≠ x := ne_of_none e nx
      unfold erase
      rw [if_neg n1]
      exact s1 b o e
    refine ⟨fun b o e => ff.h b o (key b o e), ff.g, ff.s, fun b o e => ?_⟩
    rcases ff.n b o e with z | z
    · exact .inl z
    · refine .inr ?_
      cases q : H1 b with
      | none => rfl
      | some u => rw [key b u q] at z; cases z
  refine ⟨G1, l ++ dd, x, C, dx, vs ++ dvs, rfl, hc, upd_same, gx, f1.s.trans s1, r1.append (rd G1), hlen, hl'.mono (fun fs hfs H' G' ff rr => ⟨rfl, hfs _ _ _ (f1.trans (lift ff)) rr⟩) fun c vs z C' d' ns ws H' G' h1 h2 h3 ff h5 h6 => z C' d' ns ws H' G' h1 h2 h3 (f1.trans (lift ff)) h5 h6⟩
theorem run_makeD {CX : CXT} {sp : Sp} {pins : List (Addr × Obj)} {σ : L2.St} {H : Hp} {s : Shared} {Q : VK} {us : List Value} {vs : List V} {E : XK} (M : Mk X.K C f) (F : FnOk X.prog X.w X.K X.mg X.base CX k f fd ps sp) (hr : Room (k + 1) X.A) (hb : L2.Binds X.K fd ps ds) (hd : Vals dvs ds)
    (hx : PassesAt CX X σ E) (I : L2.Inv X pins σ H s) (r : Vals vs us)
    (h : ∀ x dx, H x = none → H dx = none → dx ≠ x → sp (.ref x :: (vs ++ dvs)) (upd (upd H dx (.own x)) x (.ins C dx [])) (fun v H2 => v = .non ∧ Q (.ref x) H2) E) :
    wpAny (model X.prog X.w) X.A (call (.ref C) us) (EP X pins σ Q) X.xe s := by
  have hq := h (s.heap.objs.size + 1) s.heap.objs.size (I.hok.fresh (Nat.le_succ _)) (I.hok.fresh (Nat.le_refl _)) (Nat.ne_of_lt (Nat.lt_succ_self _))
  have I2 := Inv.made (C := C) I
  have r2 : Vals (V.ref (s.heap.objs.size + 1) :: (vs ++ dvs)) (Value.ref (s.heap.objs.size + 1) :: (us ++ ds)) := .cons rfl (r.append hd)
  have hl : (Value.ref (s.heap.objs.size + 1) :: us ++ ds).length = ps.length := by
    have e := r2.length
    rw [F.len _ _ _ _ hq] at e
    exact e.symm
  refine wpAny_call (make_map (f := f) I.kIn M.makes M.init (beq_iff_eq.mp M.fn) (codeAny_mono (F.run _ X.stack _ _ ⟨Value.ref (s.heap.objs.size + 1) :: us, []⟩ (Value.ref (s.heap.objs.size + 1) :: (us ++ ds)) _ _ E (hr.make C us [])
    (I2.env0.make C us []) (hb _ (Value.ref (s.heap.objs.size + 1) :: us) I2.kIn hl) r2 hq) fun r s' hq' => ?_))
  cases r with
  | error e => exact hx pins _ _ e s' I2 hq'
  | ok fl =>
    cases fl with
    | ret u =>
      obtain ⟨v, H', I3, rv, ev, q3⟩ := I2.after hq'
      subst ev
      exact ⟨rv, ⟨V.ref (s.heap.objs.size + 1), H', I3, rfl, q3⟩⟩
    | next => exact False.elim hq'
    | brk => exact False.elim hq'
    | cont => exact False.elim hq'
theorem px_makeN (Cc : Ctx X T W k') (M0 : Mk X.K C f) (hc : T.ca cc = some C) (F : FnOk X.prog X.w X.K X.mg X.base (L2.CX X.prog X.w) k f fd ps (initSp T n cc mi)) (hn : ∀ ds, ds.length + 1 ≠ n → mi ds = .bad) (hk : k + 1 ≤ k') (hg : Gl X x) (hm : X.mg x = some (.ref C)) (hb : L2.Binds X.K fd ps ds) (hd : Vals dvs ds) (rd : ∀ G, Reps T G dvs dd)
    (ha : PAX X T W (e :: es) env ms) (hdb : (x == ("__debug__" : Str)) = false := by decide) (he : starEach (e :: es) X.env = (false, eval e X.env) :: starEach es X.env := by rfl) (hpl : (backTo pos (starEach es X.env)).any (·.1) = false := by rfl) :
    PX X T W (.Call (.Name x p) (e :: es) [] pos) env (makeR cc mi dd ms) := by
  obtain ⟨t, pa, sa⟩ := ha.ex
  refine px_make Cc M0 hc F hn hk hg hm hb hd rd (fun E hx => ⟨fun pins s σ H Q I h => ?_⟩) sa
  refine wpAny_Call_Name_kw (ld_glob I hg hm ?_ hdb)
  refine PySem.W.callWith_K (h₀ := X.base) I.ok.mod.kin M0.kp (thn (pa.run pos pins s σ H _ I h) fun us s1 ⟨vs, H1, I1, r, q⟩ => ⟨I1.kIn, ?_⟩) he hpl
  exact run_makeD M0 F (Cc.room.mono hk) hb hd (hx σ) I1 r q
theorem px_make0 (Cc : Ctx X T W k') (M0 : Mk X.K C f) (hc : T.ca cc = some C) (F : FnOk X.prog X.w X.K X.mg X.base (L2.CX X.prog X.w) k f fd ps (initSp T n cc mi)) (hn : ∀ ds, ds.length + 1 ≠ n → mi ds = .bad) (hk : k + 1 ≤ k') (hg : Gl X x) (hm : X.mg x = some (.ref C)) (hb : L2.Binds X.K fd ps ds) (hd : Vals dvs ds) (rd : ∀ G, Reps T G dvs dd)
    (hdb : (x == ("__debug__" : Str)) = false := by decide) : PX X T W (.Call (.Name x p) [] [] pos) env (makeR cc mi dd (.ok [])) := by
  refine px_make Cc M0 hc F hn hk hg hm hb hd rd (t := tNil) (fun E hx => ⟨fun pins s σ H Q I h => ?_⟩) (fun H0 σ H G M Q h => h [] H G (Fr.refl M.gh) .nil)
  refine wpAny_Call_Name_kw (ld_glob I hg hm ?_ hdb)
  exact PySem.W.callWith_K0 I.kIn M0.kp (run_makeD (us := []) M0 F (Cc.room.mono hk) hb hd (hx σ) I .nil h)
theorem px_meth {m' : Str} {pl : Sem Bool} (Cc : Ctx X T W k') (S : KtOk T) (hM : Meth X.K C m' f) (hc : T.ca cc = some C) (hno : (T.at_ cc).all (fun n => m' != n) = true) (F : FnOk X.prog X.w X.K X.mg X.base (L2.CX X.prog X.w) k f fd ps (pureSp T n mm)) (hn : ∀ ds, ds.length ≠ n → mm ds = .bad) (hk : k ≤ k') (hb : L2.Binds X.K fd ps ds) (hd : Vals dvs ds) (rd : ∀ G, Reps T G dvs dd)
    (ho : PX X T W o env mo) (ha : PAX X T W (e :: es) env ms) (hst : starEach (e :: es) X.env = (false, eval e X.env) :: starEach es X.env := by rfl) (hpl : (backTo pos (starEach es X.env)).any (·.1) = false := by rfl)
    (ht : eval (.Call (.Attribute o m' apos) (e :: es) [] pos) X.env = (do
      let ov ← eval o X.env
      standAt apos.atName
      let (f, first) ← holding [ov] (getMethod ov m' pl)
      callWith pos f first (backTo pos (starEach (e :: es) X.env)) (backToKw pos (keywordEach [] X.env))) := by rfl) :
    PX X T W (.Call (.Attribute o m' apos) (e :: es) [] pos) env (methR cc mm dd mo ms) := by
  obtain ⟨to, po, so⟩ := ho.ex
  obtain ⟨t, pa, sa⟩ := ha.ex
  refine ⟨_, pe_methD po (by rw [Cc.kk]; exact S.cls cc C hc) hM F (Cc.room.mono hk) hb hd Cc.pass pa hst hpl ht, fun H0 σ H G M Q h => ?_⟩
  refine so H0 σ H G M _ ((Res.sat_bind h).mono (fun d hd' v1 H1 G1 f1 r1 => ?_) fun _ _ z => z)
  have r1' := r1
  cases d <;> try exact hd'.elim
  · rename_i cc' l'
    by_cases e1 : cc' = cc
    · subst e1
      obtain ⟨aa, C', dx, ns, vs', rfl, hc', hg, hns⟩ := rep_obj r1
      rw [hc] at hc'
      cases hc'
      simp only [if_true] at hd'
      refine ⟨aa, dx, _, rfl, f1.s _ _ hg, by rw [hns]; exact lookup_zip_none hno, ?_⟩
      refine sa H0 σ H1 G1 (M.fr f1) _ ((Res.sat_bind hd').mono (fun l hl2 ws H2 G2 f2 r2 => ?_) fun _ _ z => z.fr f1)
      have f12 := f1.trans f2
      exact pure_of (σ := σ) f2.s (.cons (r1'.mono f2.g) (r2.append (rd G2))) hn (hl2.mono (fun d z => z.fr f12) fun _ _ z => z.fr f12)
    · simp only [if_neg e1] at hd'; exact hd'.elim
theorem px_meth0 {m' : Str} {pl : Sem Bool} (Cc : Ctx X T W k') (S : KtOk T) (hM : Meth X.K C m' f) (hc : T.ca cc = some C) (hno : (T.at_ cc).all (fun n => m' != n) = true) (F : FnOk X.prog X.w X.K X.mg X.base (L2.CX X.prog X.w) k f fd ps (pureSp T n mm)) (hn : ∀ ds, ds.length ≠ n → mm ds = .bad) (hk : k ≤ k') (hb : L2.Binds X.K fd ps ds) (hd : Vals dvs ds) (rd : ∀ G, Reps T G dvs dd)
    (ho : PX X T W o env mo)
    (ht : eval (.Call (.Attribute o m' apos) [] [] pos) X.env = (do
      let ov ← eval o X.env
      standAt apos.atName
      let (f, first) ← holding [ov] (getMethod ov m' pl)
      callWith pos f first (backTo pos (starEach [] X.env)) (backToKw pos (keywordEach [] X.env))) := by rfl) :
    PX X T W (.Call (.Attribute o m' apos) [] [] pos) env (methR cc mm dd mo (.ok [])) := by
  obtain ⟨to, po, so⟩ := ho.ex
  refine ⟨_, pe_methD0 po (by rw [Cc.kk]; exact S.cls cc C hc) hM F (Cc.room.mono hk) hb hd Cc.pass ht, fun H0 σ H G M Q h => ?_⟩
  refine so H0 σ H G M _ ((Res.sat_bind h).mono (fun d hd' v1 H1 G1 f1 r1 => ?_) fun _ _ z => z)
  have r1' := r1
  cases d <;> try exact hd'.elim
  · rename_i cc' l'
    by_cases e1 : cc' = cc
    · subst e1
      obtain ⟨aa, C', dx, ns, vs', rfl, hc', hg, hns⟩ := rep_obj r1
      rw [hc] at hc'
      cases hc'
      simp only [if_true] at hd'
      refine ⟨aa, dx, _, rfl, f1.s _ _ hg, by rw [hns]; exact lookup_zip_none hno, ?_⟩
      exact pure_of (σ := σ) f1.s (.cons r1' (rd G1)) hn (Res.sat.mono hd' (fun d z => z.fr f1) fun _ _ z => z.fr f1)
    · simp only [if_neg e1] at hd'; exact hd'.elim
theorem px_prop {f' : Str} {pp : Addr} (Cc : Ctx X T W k') (S : KtOk T) (hp : PropOf X.K C f' pp f) (hc : T.ca cc = some C) (F : FnOk X.prog X.w X.K X.mg X.base (L2.CX X.prog X.w) k f fd ps (pureSp T n mm)) (hn : ∀ ds, ds.length ≠ n → mm ds = .bad) (hk : k + 1 ≤ k') (hb : L2.Binds X.K fd ps [])
    (ho : PX X T W o env mo) (hab : attributeBase o f' X.env (eval o X.env) = eval o X.env) : PX X T W (.Attribute o f' pos) env (propR cc mm mo) := by
  obtain ⟨to, po, so⟩ := ho.ex
  refine ⟨_, pe_prop po (by rw [Cc.kk]; exact S.cls cc C hc) hp F (Cc.room.mono hk) hb .nil passL hab, fun H0 σ H G M Q h => ?_⟩
  refine so H0 σ H G M _ ((Res.sat_bind h).mono (fun d hd' v1 H1 G1 f1 r1 => ?_) fun _ _ z => z)
  have r1' := r1
  cases d <;> try exact hd'.elim
  · rename_i cc' l'
    by_cases e1 : cc' = cc
    · subst e1
      obtain ⟨aa, C', dx, ns, vs', rfl, hc', hg, hns⟩ := rep_obj r1
      rw [hc] at hc'
      cases hc'
      simp only [if_true] at hd'
      refine ⟨aa, dx, _, rfl, f1.s _ _ hg, ?_⟩
      exact pure_of (σ := σ) f1.s (.cons r1' .nil) hn (noErr_sat (Res.sat.mono hd' (fun d z => z.fr f1) (E' := fun _ _ => True) fun _ _ _ => trivial))
    · simp only [if_neg e1] at hd'; exact hd'.elim
theorem px_own2 {op : Operator} (Cc : Ctx X T W k') (hsf : PySem.W.selfFirst X.K C = true) (hs : PySem.W.findIn X.K (.ref C) (PySem.dunder op.info.2) = some (some (.ref f))) (hf : PySem.W.isFn X.K (.ref f) = true) (hc : T.ca cc = some C)
    (F : FnOk X.prog X.w X.K X.mg X.base (L2.CX X.prog X.w) k f fd ps (pureSp T n mm)) (hn : ∀ ds, ds.length ≠ n → mm ds = .bad) (hk : k ≤ k') (hb : L2.Binds X.K fd ps []) (ha : PX X T W a env ma) (hb' : PX X T W b env mb) : PX X T W (.BinOp a op b pos) env (own2R cc mm ma mb) := by
  obtain ⟨ta, pa, sa⟩ := ha.ex
  obtain ⟨tb, pb, sb⟩ := hb'.ex
  refine ⟨_, pe_own2 pa pb hsf hs hf F (Cc.room.mono hk) hb Cc.pass, fun H0 σ H G M Q h => ?_⟩
  refine sa H0 σ H G M _ ((Res.sat_bind h).mono (fun d1 hd1 v1 H1 G1 f1 r1 => ?_) fun _ _ z => z)
  refine sb H0 σ H1 G1 (M.fr f1) _ ((Res.sat_bind hd1).mono (fun d2 hd2 v2 H2 G2 f2 r2 => ?_) fun _ _ z => z.fr f1)
  have f12 := f1.trans f2
  have r1' := r1.mono f2.g
  have r2' := r2
  cases d1 <;> try exact hd2.elim
  cases d2 <;> try exact hd2.elim
  rename_i c1 l1 c2 l2
  by_cases e1 : c1 = cc ∧ c2 = cc
  · obtain ⟨rfl, rfl⟩ := e1
    simp only [and_self, if_true] at hd2
    have go := pure_of (σ := σ) (E := WE W σ) f2.s (.cons r1' (.cons r2' .nil)) hn (hd2.mono (fun d z => z.fr f12) fun _ _ z => z.fr f12)
    cases r1' with
    | obj hc1 hg1 hn1 hl1 rr1 => cases r2' with
      | obj hc2 hg2 hn2 hl2 rr2 =>
        rw [hc] at hc1 hc2
        cases hc1
        cases hc2
        exact ⟨_, _, _, _, _, _, rfl, rfl, f2.s _ _ hg1, f2.s _ _ hg2, go⟩
  · simp only [if_neg e1] at hd2; exact hd2.elim
theorem px_ownEq (Cc : Ctx X T W k') (S : KtOk T) (hs : PySem.W.findIn X.K (.ref C) "__eq__" = some (some (.ref f))) (hf : PySem.W.isFn X.K (.ref f) = true) (hc : T.ca cc = some C) (hnf : ∀ n ∈ ["NoneType", "bool", "int", "str", "list", "tuple", "dict"], PySem.W.notFirst T.K C (.type n) = true)
    (hnc : ∀ d E, T.ca d = some E → d = cc ∨ T.sub d cc = false → PySem.W.notFirst T.K C (.ref E) = true)
    (F : FnOk X.prog X.w X.K X.mg X.base (L2.CX X.prog X.w) k f fd ps (pureSp T n mm)) (hn : ∀ ds, ds.length ≠ n → mm ds = .bad) (hk : k ≤ k') (hb : L2.Binds X.K fd ps []) (ha : PX X T W a env ma) (hb' : PX X T W b env mb) (hm : behindInMarks .Eq b = false) : PX X T W (.Compare a [.Eq] [b] pos) env (ownEqR T.sub cc mm ma mb) := by
  obtain ⟨ta, pa, sa⟩ := ha.ex
  obtain ⟨tb, pb, sb⟩ := hb'.ex
  refine ⟨_, pe_ownEq pa pb hs hf F (Cc.room.mono hk) hb Cc.pass hm, fun H0 σ H G M Q h => ?_⟩
  refine sa H0 σ H G M _ ((Res.sat_bind h).mono (fun d1 hd1 v1 H1 G1 f1 r1 => ?_) fun _ _ z => z)
  refine sb H0 σ H1 G1 (M.fr f1) _ ((Res.sat_bind hd1).mono (fun d2 hd2 v2 H2 G2 f2 r2 => ?_) fun _ _ z => z.fr f1)
  have f12 := f1.trans f2
  have r1' := r1.mono f2.g
  cases d1 <;> try exact hd2.elim
  rename_i c1 l1
  by_cases e1 : c1 = cc
  · subst e1
    simp only [if_true] at hd2
    have hscr : ∀ l, d2 ≠ .scr l := fun l z => by subst z; exact hd2.elim
    obtain ⟨tt, ty, ht⟩ := ty_of S f2.s r2 hscr
    have key : (mm [.obj c1 l1, d2]).sat (PQ T G2 H2 Q) (EX T (WE W σ) G2 H2) → PySem.W.notFirst T.K C tt = true → ∃ a dx fs t, v1 = .ref a ∧ H2 a = some (.ins C dx fs) ∧ TyX X.K H2 v2 t ∧ PySem.W.notFirst X.K C t = true ∧ pureSp T n mm [v1, v2] H2 Q (WE W σ) := fun z nf => by
      have go := pure_of (σ := σ) f2.s (.cons r1' (.cons r2 .nil)) hn z
      cases r1' with
      | obj hc1 hg1 hn1 hl1 rr1 =>
        rw [hc] at hc1
        cases hc1
        rw [Cc.kk]
        exact ⟨_, _, _, tt, rfl, f2.s _ _ hg1, ty, nf, go⟩
    have lift : ∀ {z : Res D}, z.sat (PQ T G H Q) (EX T (WE W σ) G H) → z.sat (PQ T G2 H2 Q) (EX T (WE W σ) G2 H2) := fun z => z.mono (fun d z => z.fr f12) fun _ _ z => z.fr f12
    cases d2 with
    | non => subst ht; exact key (lift hd2) (hnf _ (by simp))
    | bl b => subst ht; exact key (lift hd2) (hnf _ (by simp))
    | int b => subst ht; exact key (lift hd2) (hnf _ (by simp))
    | str b => subst ht; exact key (lift hd2) (hnf _ (by simp))
    | lst b => subst ht; exact key (lift hd2) (hnf _ (by simp))
    | scr b => exact ht.elim
    | tup b => subst ht; exact key (lift hd2) (hnf _ (by simp))
    | dic b b2 => subst ht; exact key (lift hd2) (hnf _ (by simp))
    | obj c2 l2 =>
      obtain ⟨C', hc', rfl⟩ := ht
      by_cases e2 : c2 = c1 ∨ T.sub c2 c1 = false
      · simp only [if_pos e2] at hd2
        exact key (lift hd2) (hnc _ _ hc' e2)
      · simp only [if_neg e2] at hd2; exact hd2.elim
  · simp only [if_neg e1] at hd2; exact hd2.elim
theorem px_callI (Cc : Ctx X T W k') (hs : PySem.W.findIn X.K (.ref C) "__call__" = some (some (.ref f))) (hf : PySem.W.isFn X.K (.ref f) = true) (hfn : PySem.W.fnIn X.K f = true) (hc : T.ca cc = some C)
    (F : FnOk X.prog X.w X.K X.mg X.base (L2.CX X.prog X.w) k f fd ps (pureSp T n mm)) (hn : ∀ ds, ds.length ≠ n → mm ds = .bad) (hk : k + 1 ≤ k') (hb : L2.Binds X.K fd ps []) (ho : PX X T W (.Name x p) env mo) (ha : PAX X T W (e :: es) env ms)
    (he : starEach (e :: es) X.env = (false, eval e X.env) :: starEach es X.env := by rfl) (hpl : (backTo pos (starEach es X.env)).any (·.1) = false := by rfl) : PX X T W (.Call (.Name x p) (e :: es) [] pos) env (callI cc mm mo ms) := by
  obtain ⟨to, po, so⟩ := ho.ex
  obtain ⟨t, pa, sa⟩ := ha.ex
  refine ⟨_, pe_callI po pa hs hf hfn F (Cc.room.mono hk) hb Cc.pass he hpl, fun H0 σ H G M Q h => ?_⟩
  refine so H0 σ H G M _ ((Res.sat_bind h).mono (fun d hd' v1 H1 G1 f1 r1 => ?_) fun _ _ z => z)
  have r1' := r1
  cases d <;> try exact hd'.elim
  · rename_i cc' l'
    by_cases e1 : cc' = cc
    · subst e1
      obtain ⟨aa, C', dx, ns, vs', rfl, hc', hg, hns⟩ := rep_obj r1
      rw [hc] at hc'
      cases hc'
      simp only [if_true] at hd'
      refine ⟨aa, dx, _, rfl, f1.s _ _ hg, ?_⟩
      refine sa H0 σ H1 G1 (M.fr f1) _ ((Res.sat_bind hd').mono (fun l hl2 ws H2 G2 f2 r2 => ?_) fun _ _ z => z.fr f1)
      have f12 := f1.trans f2
      exact ⟨f2.h _ _ (f1.s _ _ hg), pure_of (σ := σ) f2.s (.cons (r1'.mono f2.g) r2) hn (hl2.mono (fun d z => z.fr f12) fun _ _ z => z.fr f12)⟩
    · simp only [if_neg e1] at hd'; exact hd'.elim
end
/-- self.f = e in an __init__ -/
theorem pb_self {X : Cx} {T : Kt} {W : WX} {x : Xk} {env : Env'} {e : Expr} {me : Res D} {st : Stmt} {rest : List Stmt} {O L S : Type} {ι : O → Fl L S} {el : L → Env'} {eo : S → Env'} (i : Nat) {a : Addr} {c : Nat} {ds : List D} {f : Str} {k : D → Res O} (hk : X.K = T.K) (Sk : KtOk T) (hi : env[i]? = some (some (.ins a c ds))) (hf : (T.at_ c)[ds.length]? = some f) (hfr : ((T.at_ c).take ds.length).all (fun n => f != n) = true) (h1000 : ds.length < 1000)
    (he : PX X T W e env me) (hpe : ∀ te, PE X e te → PS X st (sFld X.K (tVar i) te f)) (hr : ∀ d, PBX X T W x rest (env.set i (some (.ins a c (ds ++ [d])))) (k d) ι el eo) :
    PBX X T W x (st :: rest) env (me.bind k) ι el eo := by
  obtain ⟨te, pe, se⟩ := he.ex
  obtain ⟨u, pu, su⟩ := PBX.all hr
  refine ⟨_, pss_cons (hpe te pe) pu, fun G0 H0 σ H G F M Dn nx hx h => ?_⟩
  refine se H0 σ H G M _ ((sat_ex F (Res.sat_bind h)).mono (fun d hd v1 H1 G1 f1 r1 => ?_) fun _ _ z => z)
  have M1 := M.fr f1
  obtain ⟨v, s1, C, dx, vs, rfl, hc, ha, hle, ga, h0, r⟩ := M1.sl i _ hi
  have hlt : ds.length < (T.at_ c).length := (List.getElem?_eq_some_iff.mp hf).1
  have hvl : vs.length = ds.length := r.length
  have tk : ((T.at_ c).take ds.length).length = ds.length := by rw [List.length_take]; omega
  have pz : ∀ (ns : List Str) (ws : List V), ns.length = ws.length → ns.all (fun n => f != n) = true → putF f v1 (ns.zip ws) = (ns ++ [f]).zip (ws ++ [v1]) := by
    intro ns
    induction ns with
    | nil => intro ws hl _; cases ws; rfl; cases hl
    | cons n ns ih =>
      intro ws hl hall
      cases ws with
      | nil => cases hl
      | cons w ws =>
        rw [List.all_cons, Bool.and_eq_true] at hall
        rw [List.zip_cons_cons, List.cons_append, List.cons_append, List.zip_cons_cons]
        have ne : n ≠ f := fun z => by subst z; simp at hall
        unfold putF
        rw [if_neg ne, ih ws (by simpa using hl) hall.2]
  have tk2 : (T.at_ c).take (ds ++ [d]).length = (T.at_ c).take ds.length ++ [f] := by
    rw [List.length_append, List.length_singleton, List.take_add_one, hf]
    rfl
  refine ⟨_, s1, a, C, dx, _, rfl, ha, by rw [hk]; exact Sk.cls c C hc, by rw [hk]; exact Sk.no c C hc f (List.mem_of_getElem? hf), ?_, ?_⟩
  · rw [List.length_zip, tk, hvl]; omega
  · rw [pz _ _ (by rw [tk, hvl]) hfr]
    refine su d G0 H0 σ _ G1 ((F.trans f1).updo ga h0) ?_ Dn nx hx hd
    refine ⟨fun b o z => ?_, by simp [M1.len], fun j cc e' => ?_, fun j k c1 d1 b e1 e2 n1 n2 t1 t2 => ?_⟩
    · rw [upd_ne (show b ≠ a from fun w => by subst w; rw [ga] at z; cases z)]
      exact M1.gh _ _ z
    · rcases get_set e' with ⟨rfl, q, hl⟩ | ⟨q, e'⟩
      · cases q
        refine ⟨.ref a, s1, C, dx, vs ++ [v1], rfl, hc, ?_, ?_, ga, h0, r.append (.cons r1 .nil)⟩
        · rw [upd_same, tk2]
        · rw [List.length_append, List.length_singleton]; omega
      · obtain ⟨v, z1, z2⟩ := M1.sl j cc e'
        refine ⟨v, z1, ?_⟩
        cases cc with
        | val d => exact z2
        | own es =>
          obtain ⟨b, ws, rfl, y1, y2, y3, y4⟩ := z2
          refine ⟨b, ws, rfl, ?_, y2, y3, y4⟩
          rw [upd_ne (show b ≠ a from fun w => q (M1.dj i j _ _ a hi e' rfl rfl s1 (by rw [← w]; exact z1)))]
          exact y1
        | dio ks es =>
          obtain ⟨b, ws, rfl, y1, y2, y3, y4⟩ := z2
          refine ⟨b, ws, rfl, ?_, y2, y3, y4⟩
          rw [upd_ne (show b ≠ a from fun w => q (M1.dj i j _ _ a hi e' rfl rfl s1 (by rw [← w]; exact z1)))]
          exact y1
        | ins b c es =>
          obtain ⟨C, dx, ws, rfl, y0, y1, y5, y2, y3, y4⟩ := z2
          refine ⟨C, dx, ws, rfl, y0, ?_, y5, y2, y3, y4⟩
          rw [upd_ne (show b ≠ a from fun w => q (M1.dj i j _ _ a hi e' rfl rfl s1 (by rw [← w]; exact z1)))]
          exact y1
    · have key : ∀ (j : Nat) (cc : Cell), (env.set i (some (.ins a c (ds ++ [d]))))[j]? = some (some cc) → cc.isVal = false → ∃ c', env[j]? = some (some c') ∧ c'.isVal = false := fun j cc e n => by
        rcases get_set e with ⟨rfl, q, hl⟩ | ⟨q, e⟩
        · exact ⟨_, hi, rfl⟩
        · exact ⟨cc, e, n⟩
      obtain ⟨c3, x1, y1⟩ := key j c1 e1 n1
      obtain ⟨c4, x2, y2⟩ := key k d1 e2 n2
      exact M1.dj j k c3 c4 b x1 x2 y1 y2 t1 t2
end Px

namespace Px
open PySem PySem.Spec PyProof.Rows L2
section
variable {X : Cx} {T : Kt} {W : WX} {k : Nat} {x : Xk} {env : Env'} {a b c e o : Expr} {es : List Expr} {st : Stmt} {sts rest : List Stmt} {ma mb mc me : Res D} {mt : Res Bool} {pos : Pos} {O L S : Type} {m : Res O} {ι : O → Fl L S} {el : L → Env'} {eo : S → Env'}
theorem nrm (env : Env') (h : PBX X T W x sts env m ι el eo) : PBX X T W x sts env m ι el eo := h
theorem nrmX (env : Env') (h : PX X T W e env me) : PX X T W e env me := h
theorem nrmT (env : Env') (h : PTX X T W e env mt) : PTX X T W e env mt := h
theorem nrmTs (env : Env') (h : PTsX X T W es env mt) : PTsX X T W es env mt := h
theorem pb_breakS {o : O} {l : L} (hi : ι o = .bk l) (he : subE (el l) env) : PBX X T W x (.Break pos :: rest) env (.ok o) ι el eo := (pb_break (env := el l) hi rfl).weak he
theorem Ctx.blk {scope : Scope} {s : Shared} {H : Hp} {C : Addr} {cl : List (Str × Addr)} {fp : List Addr} (h : Ctx X T W k) : Ctx (BX X scope s H C cl fp) T WN k where
  calm := h.calm
  nd := h.nd
  kk := h.kk
  pass := fun σ pins H s e s' I c => passL pins σ H s e s' I c
  room := h.room
  po := PassesOwn.never
/-- == of data, or an own == -/
def eqAny (sub : Nat → Nat → Bool) (c : Nat) (m : List D → Res D) (ma mb : Res D) : Res D := ma.bind fun a => match a with
  | .obj c' l => ownEqR sub c m (.ok (.obj c' l)) mb
  | d => op2 eqD (.ok d) mb
theorem PX.or {m1 m2 m : Res D} (h1 : PX X T W e env m1) (h2 : PX X T W e env m2) (hm : m = m1 ∨ m = m2) : PX X T W e env m := by
  rcases hm with rfl | rfl
  · exact h1
  · exact h2
theorem px_eqAny {sub : Nat → Nat → Bool} {cc : Nat} {mm : List D → Res D} (h1 : PX X T W e env (op2 eqD ma mb)) (h2 : PX X T W e env (ownEqR sub cc mm ma mb)) : PX X T W e env (eqAny sub cc mm ma mb) := by
  refine h1.or h2 ?_
  cases ma with
  | ok d => cases d <;> first | exact .inr rfl | exact .inl rfl
  | err c vs => exact .inl rfl
  | bad => exact .inl rfl
end
/-! list(range(..)) -/
def lrng1 : List D → Option (List D)
  | [.int n] => if 0 ≤ n ∧ n ≤ 16777216 then some (intsD 0 n.toNat) else none
  | _ => none
def lrng2 : List D → Option (List D)
  | [.int a, .int b] => if 0 ≤ a ∧ b ≤ 16777216 ∧ a ≤ 16777216 ∧ 0 ≤ b then some (intsD a (b - a).toNat) else none
  | _ => none
theorem reps_intsD {T : Kt} {G : Hp} (a b : Int) : Reps T G (rgV a b) (intsD a (b - a).toNat) := by
  unfold rgV intsD
  have go : ∀ l : List Nat, Reps T G (l.map fun (i : Nat) => V.int (a + i)) (l.map fun (i : Nat) => D.int (a + (i : Int))) := by
    intro l
    induction l with
    | nil => exact .nil
    | cons i r ih => exact .cons (.int _) ih
  exact go _
section
variable {X : Cx} {T : Kt} {W : WX} {env : Env'} {a b : Expr} {ma mb : Res D} {p p2 pos pos2 : Pos}
theorem pxo_listRg1 (hc : X.calm = true) (hg : Gl X "list") (hm : X.mg "list" = none) (hg2 : Gl X "range") (hm2 : X.mg "range" = none) (ha : PX X T W a env ma) (na : starEach [.Call (.Name "range" p2) [a] [] pos2] X.env = (false, eval (.Call (.Name "range" p2) [a] [] pos2) X.env) :: starEach [] X.env := by rfl) (na2 : starEach [a] X.env = (false, eval a X.env) :: starEach [] X.env := by rfl) :
    PXO X T W (.Call (.Name "list" p) [.Call (.Name "range" p2) [a] [] pos2] [] pos) env (callOo lrng1 (consR ma (.ok []))) := by
  obtain ⟨t, pa, s⟩ := ha.ex
  refine ⟨_, pe_listRg hc hg hm (prg_1 hg2 hm2 pa na2) na, fun H0 σ H G M Q h => ?_⟩
  refine s H0 σ H G M _ ((Res.sat_bind (Res.sat_bind h)).mono (fun x hx v1 H1 G1 f1 r1 => ?_) fun _ _ z => z)
  have hx' : (Res.ofO (lrng1 [x])).sat (PO T G H Q) (EX T (WE W σ) G H) := hx
  cases r1 <;> try exact hx'.elim
  rename_i n
  unfold lrng1 at hx'
  by_cases hb : 0 ≤ n ∧ n ≤ 16777216
  · simp only [if_pos hb] at hx'
    have q : PO T G1 H1 Q _ := PO.fr f1 hx'
    refine ⟨n, rfl, RgOk.of_le (Int.le_refl 0) hb.2 (by decide) hb.1, fun q' nq => ?_⟩
    have := reps_intsD (T := T) (G := G1) 0 n
    rw [Int.sub_zero] at this
    exact q q' _ _ G1 (Fr.newH f1.s nq) nq upd_same (f1.s.free nq) this
  · simp only [if_neg hb] at hx'; exact hx'.elim
theorem pxo_listRg2 (hc : X.calm = true) (hg : Gl X "list") (hm : X.mg "list" = none) (hg2 : Gl X "range") (hm2 : X.mg "range" = none) (ha : PX X T W a env ma) (hb : PX X T W b env mb) (na : starEach [.Call (.Name "range" p2) [a, b] [] pos2] X.env = (false, eval (.Call (.Name "range" p2) [a, b] [] pos2) X.env) :: starEach [] X.env := by rfl) (na2 : starEach [a, b] X.env = (false, eval a X.env) :: starEach [b] X.env := by rfl) (na3 : starEach [b] X.env = (false, eval b X.env) :: starEach [] X.env := by rfl) (na4 : (backTo pos2 (starEach [b] X.env)).any (·.1) = false := by rfl) :
    PXO X T W (.Call (.Name "list" p) [.Call (.Name "range" p2) [a, b] [] pos2] [] pos) env (callOo lrng2 (consR ma (consR mb (.ok [])))) := by
  obtain ⟨t, pa, s⟩ := ha.ex
  obtain ⟨t2, pb, s2⟩ := hb.ex
  refine ⟨_, pe_listRg hc hg hm (prg_2 hg2 hm2 pa pb na2 na3 na4) na, fun H0 σ H G M Q h => ?_⟩
  refine s H0 σ H G M _ ((Res.sat_bind (Res.sat_bind h)).mono (fun x hx v1 H1 G1 f1 r1 => ?_) fun _ _ z => z)
  have hx2 : mb.sat (fun y => (Res.ofO (lrng2 [x, y])).sat (PO T G H Q) (EX T (WE W σ) G H)) (EX T (WE W σ) G H) := by
    cases mb <;> exact hx
  refine s2 H0 σ H1 G1 (M.fr f1) _ (hx2.mono (fun y hy v2 H2 G2 f2 r2 => ?_) fun _ _ z => z.fr f1)
  have hx' : (Res.ofO (lrng2 [x, y])).sat (PO T G H Q) (EX T (WE W σ) G H) := hy
  cases r1 <;> try exact hx'.elim
  cases r2 <;> try exact hx'.elim
  rename_i n m
  unfold lrng2 at hx'
  by_cases hb : 0 ≤ n ∧ m ≤ 16777216 ∧ n ≤ 16777216 ∧ 0 ≤ m
  · simp only [if_pos hb] at hx'
    have f12 := f1.trans f2
    have q : PO T G2 H2 Q _ := PO.fr f12 hx'
    exact ⟨n, m, rfl, rfl, RgOk.of_le hb.1 hb.2.1 hb.2.2.1 hb.2.2.2, fun q' nq => q q' _ _ G2 (Fr.newH f12.s nq) nq upd_same (f12.s.free nq) (reps_intsD n m)⟩
  · simp only [if_neg hb] at hx'; exact hx'.elim
end
/-- enough turns for any while -/
def fuel : Nat := 2 ^ 70
theorem kit_bt {K : PySem.W.Frag} {E : Addr} {n : String} (h1 : PySem.W.isClsIn K E = true) (h2 : PySem.W.typeIn K (.ref E) = some (.type "type")) (h3 : PySem.W.subIn K (.type n) (.ref E) = some false) : PySem.W.kitOne K (.type n) (.ref E) = some false := by
  unfold PySem.W.kitOne PySem.W.kitCls
  have e : (Value.type n == Value.ref E) = false := rfl
  have h1' : (PySem.W.clsIn K E).isSome = true := h1
  rw [e, if_neg Bool.false_ne_true]
  dsimp only
  rw [h1', h2, h3]
  rfl
theorem kit_tb {K : PySem.W.Frag} {E : Addr} {n : String} (h0 : PySem.W.kitMeta n = true) (h3 : PySem.W.subIn K (.ref E) (.type n) = some false) : PySem.W.kitOne K (.ref E) (.type n) = some false := by
  unfold PySem.W.kitOne PySem.W.kitCls
  have e : (Value.ref E == Value.type n) = false := rfl
  rw [e, if_neg Bool.false_ne_true]
  dsimp only
  rw [h0, h3]
  rfl
theorem kit_self {K : PySem.W.Frag} {E : Addr} : PySem.W.kitOne K (.ref E) (.ref E) = some true := by
  unfold PySem.W.kitOne
  rw [if_pos (by simp)]
theorem kit_cc {K : PySem.W.Frag} {C E : Addr} {b : Bool} (hne : C ≠ E) (h1 : PySem.W.isClsIn K E = true) (h2 : PySem.W.typeIn K (.ref E) = some (.type "type")) (h3 : PySem.W.subIn K (.ref C) (.ref E) = some b) : PySem.W.kitOne K (.ref C) (.ref E) = some b := by
  unfold PySem.W.kitOne PySem.W.kitCls
  have e : (Value.ref C == Value.ref E) = false := by simpa using hne
  have h1' : (PySem.W.clsIn K E).isSome = true := h1
  rw [e, if_neg Bool.false_ne_true]
  dsimp only
  rw [h1', h2, h3]
  rfl
theorem nf_bt {K : PySem.W.Frag} {C : Addr} {n : String} (h3 : PySem.W.subIn K (.type n) (.ref C) = some false) : PySem.W.notFirst K C (.type n) = true := by
  unfold PySem.W.notFirst
  rw [h3]
  simp
theorem nf_cc {K : PySem.W.Frag} {C E : Addr} (h3 : PySem.W.subIn K (.ref E) (.ref C) = some false) : PySem.W.notFirst K C (.ref E) = true := by
  unfold PySem.W.notFirst
  rw [h3]
  simp
theorem nf_self {K : PySem.W.Frag} {C : Addr} : PySem.W.notFirst K C (.ref C) = true := by
  unfold PySem.W.notFirst
  simp
end Px

namespace Px
open PySem PySem.Spec PyProof.Rows L2
/-! ### plain words for the mathematics -/
theorem dispR_ok (l : List D) : dispR (.ok l) = if l.length ≤ 16777216 then .ok l else .bad := by
  unfold dispR; rw [Res.ok_bind, sizeLine_eq]
theorem tupR_ok (l : List D) : tupR (.ok l) = if l.length ≤ 16777216 then .ok (.tup l) else .bad := by
  unfold tupR; rw [Res.ok_bind, sizeLine_eq]
theorem appR_ok' {O : Type} (ds : List D) (d : D) (k : List D → Res O) : appR ds (.ok d) k = if ds.length < 16777216 then k (ds ++ [d]) else .bad := by
  unfold appR; rw [Res.ok_bind, sizeLine_eq]
theorem appR_go {O : Type} {ds : List D} {d : D} {k : List D → Res O} (h : ds.length < 16777216) : appR ds (.ok d) k = k (ds ++ [d]) := by
  rw [appR_ok', if_pos h]
theorem ix_lst {l : List D} {n : Nat} {d : D} (h : l[n]? = some d) : ixD (.lst l) (.int n) = some d := atI_nat h
theorem ix_scr {l : List D} {n : Nat} {d : D} (h : l[n]? = some d) : ixD (.scr l) (.int n) = some d := atI_nat h
theorem ix_tup' {l : List D} {n : Nat} {d : D} (h : l[n]? = some d) : ixD (.tup l) (.int n) = some d := atI_nat h
@[simp] theorem addD_int (i j : Int) : addD (.int i) (.int j) = some (.int (i + j)) := id rfl
theorem addD_lst {a b : List D} (h : a.length + b.length ≤ 16777216) : addD (.lst a) (.lst b) = some (.lst (a ++ b)) := by
  simp only [addD, sizeLine_eq, if_pos h]
@[simp] theorem subD_int (i j : Int) : subD (.int i) (.int j) = some (.int (i - j)) := id rfl
@[simp] theorem ltD_int (i j : Int) : ltD (.int i) (.int j) = some (.bl (decide (i < j))) := id rfl
@[simp] theorem leD_int (i j : Int) : leD (.int i) (.int j) = some (.bl (decide (i ≤ j))) := id rfl
@[simp] theorem gtD_int (i j : Int) : gtD (.int i) (.int j) = some (.bl (decide (j < i))) := id rfl
@[simp] theorem geD_int (i j : Int) : geD (.int i) (.int j) = some (.bl (decide (j ≤ i))) := id rfl
@[simp] theorem intD_int (i : Int) : intD [.int i] = some (.int i) := id rfl
@[simp] theorem absD_int (i : Int) : absD [.int i] = some (.int (if i < 0 then -i else i)) := id rfl
@[simp] theorem maxD_int (i j : Int) : maxD [.int i, .int j] = some (.int (if j > i then j else i)) := id rfl
@[simp] theorem minD_int (i j : Int) : minD [.int i, .int j] = some (.int (if j < i then j else i)) := id rfl
@[simp] theorem lenD_lst (l : List D) : lenD [.lst l] = some (.int l.length) := id rfl
@[simp] theorem lenD_scr (l : List D) : lenD [.scr l] = some (.int l.length) := id rfl
@[simp] theorem lenD_tup (l : List D) : lenD [.tup l] = some (.int l.length) := id rfl
@[simp] theorem truD_bl (b : Bool) : truD (.bl b) = some b := id rfl
@[simp] theorem truD_int (i : Int) : truD (.int i) = some (i != 0) := id rfl
@[simp] theorem itemsD_lst (l : List D) : itemsD (.lst l) = some l := id rfl
@[simp] theorem itemsD_scr (l : List D) : itemsD (.scr l) = some l := id rfl
@[simp] theorem itemsD_tup (l : List D) : itemsD (.tup l) = some l := id rfl
@[simp] theorem listO_lst (l : List D) : listO [.lst l] = some l := id rfl
@[simp] theorem listO_tup (l : List D) : listO [.tup l] = some l := id rfl
@[simp] theorem tupleD_lst (l : List D) : tupleD [.lst l] = some (.tup l) := id rfl
@[simp] theorem tupleD_tup (l : List D) : tupleD [.tup l] = some (.tup l) := id rfl
@[simp] theorem isND_non (d : D) : isND d .non = some (.bl d.isNon) := id rfl
@[simp] theorem notND_non (d : D) : notND d .non = some (.bl !d.isNon) := id rfl
@[simp] theorem isNon_non : D.isNon .non = true := id rfl
@[simp] theorem isNon_int (i : Int) : D.isNon (.int i) = false := id rfl
@[simp] theorem isNon_bl (i : Bool) : D.isNon (.bl i) = false := id rfl
@[simp] theorem isNon_lst (i : List D) : D.isNon (.lst i) = false := id rfl
@[simp] theorem isNon_tup (i : List D) : D.isNon (.tup i) = false := id rfl
@[simp] theorem isNon_str (s : Str) : D.isNon (.str s) = false := id rfl
@[simp] theorem isNon_obj (c : Nat) (i : List D) : D.isNon (.obj c i) = false := id rfl
theorem modD_int {i j : Int} (h : j ≠ 0) : modD (.int i) (.int j) = some (.int (i.fmod j)) := by simp only [modD, ne_eq, h, not_false_eq_true, if_true]
theorem modD_pos {i j : Int} (h : 0 < j) : modD (.int i) (.int j) = some (.int (i % j)) := by
  rw [modD_int (by omega), Int.fmod_eq_emod_of_nonneg i (by omega)]
theorem divD_pos {i j : Int} (h : 0 < j) (h2 : j.natAbs.log2 < 9000) : divD (.int i) (.int j) = some (.int (i / j)) := by
  simp only [divD, if_pos (And.intro h h2)]
theorem powD_int {i j : Int} (h : 0 ≤ j) (h2 : j ≤ 1000000) (h3 : i.natAbs < 2 ^ 64) : powD (.int i) (.int j) = some (.int (i ^ j.toNat)) := by
  simp only [powD, if_pos (And.intro h (And.intro h2 h3))]
theorem mulD_int {i j : Int} (h : i.natAbs.log2 + j.natAbs.log2 < 100000000) : mulD (.int i) (.int j) = some (.int (i * j)) := by
  simp only [mulD, mulOK, decide_eq_true h, if_true]
theorem repD_int {i j : Int} (h : i.natAbs.log2 + j.natAbs.log2 < 100000000) : repD (.int i) (.int j) = some (.int (i * j)) := mulD_int h
theorem repD_lst {l : List D} {k : Int} (h0 : 0 ≤ k) (h1 : k < 16777216) (h : l.length * k.toNat ≤ 16777216) : repD (.lst l) (.int k) = some (.lst (List.replicate k.toNat l).flatten) := by
  have h3 : -(2 ^ 63) ≤ k ∧ k < 2 ^ 63 ∧ l.length * k.toNat ≤ 16777216 := ⟨by omega, by omega, h⟩
  simp only [repD, sizeLine_eq, if_pos h3]
/-- log2 below a bound -/
theorem log2_lt {i : Int} {n : Nat} (h : i.natAbs < 2 ^ n) (hn : 0 < n) : i.natAbs.log2 < n := PySem.Flt.log2_lt_of hn h
theorem log2_of {i : Int} {b : Int} (h0 : 0 ≤ i) (h : i < b) {n : Nat} (hb : b ≤ 2 ^ n) (hn : 0 < n) : i.natAbs.log2 < n := by
  refine log2_lt ?_ hn
  have h1 : i < 2 ^ n := Int.lt_of_lt_of_le h hb
  have h2 : ((2 ^ n : Nat) : Int) = (2 : Int) ^ n := by simp
  omega
/-! worths -/
def W : Option Int → D
  | none => .non
  | some i => .int i
@[simp] theorem W_none : W none = .non := id rfl
@[simp] theorem W_some (i : Int) : W (some i) = .int i := id rfl
@[simp] theorem isNon_W (w : Option Int) : D.isNon (W w) = w.isNone := by cases w <;> rfl
theorem W_inj {a b : Option Int} (h : W a = W b) : a = b := by
  cases a <;> cases b <;> simp [W] at h <;> first | rfl | (subst h; rfl)
/-- equality of two worths -/
theorem toP_W (w : Option Int) : toP (W w) = some (match w with | none => .none | some i => .int i) := by cases w <;> rfl
theorem shaped_W (w : Option Int) : SeqAt.shaped (match w with | none => PyData.none | some i => .int i) = true := by
  cases w <;> simp [SeqAt.shaped, PyData.canLay0, PyData.depth]
theorem eqD_W (a b : Option Int) : eqD (W a) (W b) = some (.bl (decide (a = b))) := by
  unfold eqD
  rw [toP_W, toP_W]
  simp only [shaped_W, Bool.and_self, if_true]
  cases a <;> cases b <;> simp [PyData.eqv] <;> (rw [Bool.eq_iff_iff]; simp)
theorem neD_W (a b : Option Int) : neD (W a) (W b) = some (.bl (!decide (a = b))) := by
  unfold neD
  rw [toP_W, toP_W]
  simp only [shaped_W, Bool.and_self, if_true]
  cases a <;> cases b <;> simp [PyData.eqv] <;> (rw [Bool.eq_iff_iff]; simp)
theorem eqD_int (a b : Int) : eqD (.int a) (.int b) = some (.bl (decide (a = b))) := by simpa using eqD_W (some a) (some b)
theorem neD_int (a b : Int) : neD (.int a) (.int b) = some (.bl (!decide (a = b))) := by simpa using neD_W (some a) (some b)
theorem eqD_bl (a b : Bool) : eqD (.bl a) (.bl b) = some (.bl (a == b)) := by
  have : ∀ b, SeqAt.shaped (PyData.bool b) = true := fun b => by simp [SeqAt.shaped, PyData.canLay0, PyData.depth]
  unfold eqD; simp only [toP, this, Bool.and_self, if_true]; rfl
theorem neD_bl (a b : Bool) : neD (.bl a) (.bl b) = some (.bl (!(a == b))) := by
  have : ∀ b, SeqAt.shaped (PyData.bool b) = true := fun b => by simp [SeqAt.shaped, PyData.canLay0, PyData.depth]
  unfold neD; simp only [toP, this, Bool.and_self, if_true]; rfl
/-! loops -/
theorem forR_inv {S : Type} {fb : S → D → Res S} {ds : List D} (P : Nat → S → Prop) {s0 : S} (h0 : P 0 s0) (hs : ∀ i s d, ds[i]? = some d → P i s → ∃ s', fb s d = .ok s' ∧ P (i + 1) s') : ∃ s, forR fb ds s0 = .ok s ∧ P ds.length s := by
  induction ds generalizing P s0 with
  | nil => exact ⟨s0, rfl, h0⟩
  | cons d ds ih =>
    obtain ⟨s', e, p⟩ := hs 0 s0 d rfl h0
    obtain ⟨s, e2, p2⟩ := ih (fun i s => P (i + 1) s) p fun i s x hx hp => hs (i + 1) s x (by simpa using hx) hp
    refine ⟨s, ?_, by simpa using p2⟩
    unfold forR
    rw [e, Res.ok_bind, e2]
/-- a loop that goes through, or leaves by a return -/
theorem forG_inv {S : Type} {fb : S → D → Res (Fl S S)} {ds : List D} (P : Nat → S → Prop) {s0 : S} (h0 : P 0 s0) (hs : ∀ i s d, ds[i]? = some d → P i s → ∃ s', fb s d = .ok (.nx s') ∧ P (i + 1) s') : ∃ s, forG id fb ds s0 = .ok (.nx s) ∧ P ds.length s := by
  induction ds generalizing P s0 with
  | nil => exact ⟨s0, rfl, h0⟩
  | cons d ds ih =>
    obtain ⟨s', e, p⟩ := hs 0 s0 d rfl h0
    obtain ⟨s, e2, p2⟩ := ih (fun i s => P (i + 1) s) p fun i s x hx hp => hs (i + 1) s x (by simpa using hx) hp
    refine ⟨s, ?_, by simpa using p2⟩
    unfold forG
    rw [e, Res.ok_bind]
    exact e2
theorem forG_find {S : Type} {fb : S → D → Res (Fl S S)} {ds : List D} (P : Nat → S → Prop) (R : D → Prop) {s0 : S} (h0 : P 0 s0) (hs : ∀ i s d, ds[i]? = some d → P i s → (∃ s', fb s d = .ok (.nx s') ∧ P (i + 1) s') ∨ ∃ r, fb s d = .ok (.rt r) ∧ R r) : (∃ s, forG id fb ds s0 = .ok (.nx s) ∧ P ds.length s) ∨ ∃ r, forG id fb ds s0 = .ok (.rt r) ∧ R r := by
  induction ds generalizing P s0 with
  | nil => exact .inl ⟨s0, rfl, h0⟩
  | cons d ds ih =>
    rcases hs 0 s0 d rfl h0 with ⟨s', e, p⟩ | ⟨r, e, p⟩
    · rcases ih (fun i s => P (i + 1) s) p fun i s x hx hp => hs (i + 1) s x (by simpa using hx) hp with ⟨s, e2, p2⟩ | ⟨r, e2, p2⟩
      · refine .inl ⟨s, ?_, by simpa using p2⟩
        unfold forG
        rw [e, Res.ok_bind]
        exact e2
      · refine .inr ⟨r, ?_, p2⟩
        unfold forG
        rw [e, Res.ok_bind]
        exact e2
    · refine .inr ⟨r, ?_, p⟩
      unfold forG
      rw [e, Res.ok_bind]
      rfl
theorem mapR_ok {α : Type} {fe : D → Res D} {g : α → D} {h : α → D} : ∀ {l : List α}, (∀ x ∈ l, fe (g x) = .ok (h x)) → mapR fe (l.map g) = .ok (l.map h)
  | [], _ => rfl
  | x :: l, hh => by
    rw [List.map_cons, List.map_cons]
    unfold mapR
    rw [hh x List.mem_cons_self, noErr_ok, Res.ok_bind, mapR_ok fun y hy => hh y (List.mem_cons_of_mem _ hy), Res.ok_bind]
theorem mapL_ok {α : Type} {fe : D → Res D} {g : α → D} {h : α → D} {l : List α} (hl : l.length ≤ 16777216) (hh : ∀ x ∈ l, fe (g x) = .ok (h x)) : mapL fe (.ok (l.map g)) = .ok (l.map h) := by
  unfold mapL
  rw [Res.ok_bind, sizeLine_eq, if_pos (by simpa using hl)]
  exact mapR_ok hh
theorem intsD_zero (n : Nat) : intsD 0 n = (List.range n).map fun (i : Nat) => D.int (i : Int) := by
  unfold intsD; congr 1; funext i; rw [Int.zero_add]
theorem rng1_nat {n : Nat} (h : n ≤ 16777216) : rng1 [.int n] = some ((List.range n).map fun (i : Nat) => D.int (i : Int)) := by
  have h3 : -(2 ^ 62) ≤ (n : Int) ∧ (n : Int) < 2 ^ 62 := by
    have : (2 : Int) ^ 62 = 4611686018427387904 := by decide
    omega
  rw [← intsD_zero]
  simp only [rng1, if_pos h3, Int.toNat_natCast]
theorem lrng1_nat {n : Nat} (h : n ≤ 16777216) : lrng1 [.int n] = some ((List.range n).map fun (i : Nat) => D.int (i : Int)) := by
  have h3 : 0 ≤ (n : Int) ∧ (n : Int) ≤ 16777216 := by omega
  rw [← intsD_zero]
  simp only [lrng1, if_pos h3, Int.toNat_natCast]
theorem range_get {n i : Nat} {d : D} (h : ((List.range n).map fun (i : Nat) => D.int (i : Int))[i]? = some d) : i < n ∧ d = .int i := by
  rw [List.getElem?_map] at h
  cases q : (List.range n)[i]? with
  | none => rw [q] at h; cases h
  | some k =>
    rw [q] at h
    have hi : i < n := by
      have := (List.getElem?_eq_some_iff.mp q).1
      simpa using this
    rw [List.getElem?_range hi] at q
    cases q
    cases h
    exact ⟨hi, rfl⟩
/-! ### what a mirror comes to -/
def To {α : Type} (m : Res α) (R : α → Prop) : Prop := ∃ y, m = .ok y ∧ R y
theorem To.ok {α : Type} {a : α} {R : α → Prop} (h : R a) : To (.ok a) R := ⟨a, rfl, h⟩
theorem To.of {α : Type} {m : Res α} {a : α} {R : α → Prop} (e : m = .ok a) (h : R a) : To m R := ⟨a, e, h⟩
theorem To.eq {α : Type} {m : Res α} {a : α} (h : To m fun y => y = a) : m = .ok a := by
  obtain ⟨y, e, rfl⟩ := h
  exact e
theorem To.bind {α β : Type} {m : Res α} {k : α → Res β} {P : α → Prop} {R : β → Prop} (h : To m P) (hk : ∀ a, P a → To (k a) R) : To (m.bind k) R := by
  obtain ⟨a, e, p⟩ := h
  rw [e, Res.ok_bind]
  exact hk a p
theorem To.bindE {α β : Type} {m : Res α} {k : α → Res β} {a : α} {R : β → Prop} (e : m = .ok a) (hk : To (k a) R) : To (m.bind k) R := by
  rw [e, Res.ok_bind]
  exact hk
theorem To.mono {α : Type} {m : Res α} {P R : α → Prop} (h : To m P) (hk : ∀ a, P a → R a) : To m R := by
  obtain ⟨a, e, p⟩ := h
  exact ⟨a, e, hk a p⟩
theorem To.iteT {α : Type} {c : Res Bool} {a b : Res α} {R : α → Prop} (e : c = .ok true) (h : To a R) : To (iteR c a b) R := by
  rw [e]; exact h
theorem To.iteF {α : Type} {c : Res Bool} {a b : Res α} {R : α → Prop} (e : c = .ok false) (h : To b R) : To (iteR c a b) R := by
  rw [e]; exact h
theorem To.ite {α : Type} {c : Res Bool} {a b : Res α} {R : α → Prop} {k : Bool} (e : c = .ok k) (h : k = true → To a R) (h' : k = false → To b R) : To (iteR c a b) R := by
  rw [e]
  cases k
  · exact h' rfl
  · exact h rfl
theorem To.forR {S : Type} {fb : S → D → Res S} {ds : List D} (P : Nat → S → Prop) {s0 : S} (h0 : P 0 s0) (hs : ∀ i s d, ds[i]? = some d → P i s → To (fb s d) (P (i + 1))) : To (forR fb ds s0) (P ds.length) := forR_inv P h0 hs
/-- where a loop may go -/
def LpTo {S : Type} (P : S → Prop) (Q : D → Prop) : Lp S → Prop
  | .nx s => P s
  | .rt d => Q d
def FlTo {S : Type} (P : S → Prop) (Q : D → Prop) (B : S → Prop) : Fl S S → Prop
  | .nx s => P s
  | .ct s => P s
  | .rt d => Q d
  | .bk s => B s
  | .ro _ => False
theorem To.forG {S : Type} {fb : S → D → Res (Fl S S)} {ds : List D} (P : Nat → S → Prop) (Q : D → Prop) (B : S → Prop) {s0 : S} (h0 : P 0 s0) (hs : ∀ i s d, ds[i]? = some d → P i s → To (fb s d) (FlTo (P (i + 1)) Q B)) : To (forG id fb ds s0) (LpTo (fun s => P ds.length s ∨ B s) Q) := by
  induction ds generalizing P s0 with
  | nil => exact ⟨_, rfl, .inl h0⟩
  | cons d ds ih =>
    obtain ⟨o, e, p⟩ := hs 0 s0 d rfl h0
    unfold Px.forG
    rw [e, Res.ok_bind]
    cases o with
    | nx s =>
      have q := ih (fun i s => P (i + 1) s) p fun i s x hx hp => hs (i + 1) s x (by simpa using hx) hp
      simpa using q
    | ct s =>
      have q := ih (fun i s => P (i + 1) s) p fun i s x hx hp => hs (i + 1) s x (by simpa using hx) hp
      simpa using q
    | rt d => exact ⟨_, rfl, p⟩
    | bk s => exact ⟨_, rfl, .inr p⟩
    | ro l => exact p.elim
theorem To.lp {S O : Type} {m : Res (Lp S)} {r : D → Res O} {k : S → Res O} {P : S → Prop} {Q : D → Prop} {R : O → Prop} (h : To m (LpTo P Q)) (hk : ∀ s, P s → To (k s) R) (hr : ∀ d, Q d → To (r d) R) : To (m.bind (lpK r k)) R := by
  refine h.bind fun o ho => ?_
  cases o with
  | nx s => exact hk s ho
  | rt d => exact hr d ho
/-- a while, by a number that falls -/
theorem To.whileR {S : Type} {c : S → Res Bool} {fb : S → Res S} (P : S → Prop) (μ : S → Nat) (hc : ∀ s, P s → ∃ b, c s = .ok b ∧ (b = true → To (fb s) fun s' => P s' ∧ μ s' < μ s)) : ∀ (n : Nat) (s0 : S), P s0 → μ s0 < n → To (whileR c fb n s0) fun s => P s ∧ c s = .ok false
  | 0, s0, _, h => absurd h (Nat.not_lt_zero _)
  | n + 1, s0, p, h => by
    obtain ⟨b, e, hb⟩ := hc s0 p
    unfold Px.whileR
    rw [e, Res.ok_bind]
    cases b with
    | false => exact ⟨s0, rfl, p, e⟩
    | true =>
      refine (hb rfl).bind fun s' hs' => ?_
      exact To.whileR P μ hc n s' hs'.1 (Nat.lt_of_lt_of_le hs'.2 (Nat.le_of_lt_succ h))
theorem To.appR {O : Type} {ds : List D} {me : Res D} {k : List D → Res O} {P : D → Prop} {R : O → Prop} (hl : ds.length < 16777216) (h : To me P) (hk : ∀ d, P d → To (k (ds ++ [d])) R) : To (appR ds me k) R := by
  unfold Px.appR
  refine h.bind fun d hd => ?_
  rw [sizeLine_eq, if_pos hl]
  exact hk d hd
end Px

namespace Px
open PySem PySem.Spec PyProof.Rows L2
/-! ### calls with keywords -/
def pickI {α : Type} : List Nat → List α → List α
  | [], _ => []
  | i :: r, l => match l[i]? with
    | some x => x :: pickI r l
    | none => pickI r l
theorem Reps.pick {T : Kt} {G : Hp} {vs : List V} {ds : List D} (r : Reps T G vs ds) : ∀ idx : List Nat, Reps T G (pickI idx vs) (pickI idx ds)
  | [] => .nil
  | i :: idx => by
    unfold pickI
    cases h : ds[i]? with
    | some d =>
      obtain ⟨v, h1, h2⟩ := r.get h
      rw [h1]
      exact .cons h2 (r.pick idx)
    | none =>
      have : vs[i]? = none := by
        rw [List.getElem?_eq_none_iff] at h ⊢
        rw [r.length]; exact h
      rw [this]
      exact r.pick idx
theorem vals_pick {vs : List V} {us : List Value} (r : Vals vs us) : ∀ idx : List Nat, Vals (pickI idx vs) (pickI idx us)
  | [] => .nil
  | i :: idx => by
    unfold pickI
    cases h : vs[i]? with
    | some d =>
      obtain ⟨v, h1, h2⟩ := Vals.get r h
      rw [h1]
      exact .cons h2 (vals_pick r idx)
    | none =>
      have : us[i]? = none := by
        rw [List.getElem?_eq_none_iff] at h ⊢
        rw [← r.length]; exact h
      rw [this]
      exact vals_pick r idx
theorem pick_succ {α : Type} (x : α) (l : List α) : ∀ idx : List Nat, pickI (idx.map (· + 1)) (x :: l) = pickI idx l
  | [] => rfl
  | i :: idx => by
    show (match (x :: l)[i + 1]? with | some y => y :: pickI (idx.map (· + 1)) (x :: l) | none => pickI (idx.map (· + 1)) (x :: l)) = _
    rw [List.getElem?_cons_succ, pick_succ x l idx]
    rfl
theorem pick_self {α : Type} (x : α) (l : List α) (idx : List Nat) : pickI (0 :: idx.map (· + 1)) (x :: l) = x :: pickI idx l := by
  show x :: pickI (idx.map (· + 1)) (x :: l) = _
  rw [pick_succ]
/-- how a call with keywords binds: idx puts the positional values, the keywords' values and the defaults that lack in the order of the parameters -/
structure KBI (K : PySem.W.Frag) (fd : FuncData) (ps : List Str) (n : Nat) (ks : List Str) (idx : List Nat) (dvs : List V) : Prop where
  ex : ∃ its : List Value, Vals dvs its ∧ ∀ (s : Shared) (us ws : List Value), K.In s.heap → us.length = n → ws.length = ks.length → BindsTo s fd ⟨us, ks.zip ws⟩ (ps.zip (pickI idx (us ++ (ws ++ its))))
/-- the arguments in the parameters' order -/
def kwL (n k : Nat) (idx : List Nat) (dd : List D) (mp mk : Res (List D)) : Res (List D) := mp.bind fun us => mk.bind fun ws => if us.length = n ∧ ws.length = k then .ok (pickI idx (us ++ (ws ++ dd))) else .bad
@[simp] theorem kwL_ok (n k : Nat) (idx : List Nat) (dd us ws : List D) : kwL n k idx dd (.ok us) (.ok ws) = if us.length = n ∧ ws.length = k then .ok (pickI idx (us ++ (ws ++ dd))) else .bad := id rfl
def tKw (n k : Nat) (idx : List Nat) (dvs : List V) (t tk : TA) : TA := fun σ H Q => t σ H fun vs H1 => tk σ H1 fun zs H2 => vs.length = n ∧ zs.length = k ∧ Q (pickI idx (vs ++ (zs ++ dvs))) H2
structure PKX (X : Cx) (T : Kt) (W : WX) (kws : List Keyword) (env : Env') (m : Res (List D)) : Prop where
  ex : ∃ t, PK X kws t ∧ SA T W t env m
section
variable {X : Cx} {T : Kt} {W : WX} {k k' : Nat} {env : Env'} {e o : Expr} {es : List Expr} {kws : List Keyword} {mo ma : Res D} {ms mk : Res (List D)} {pos kpos : Pos} {nm : Option Str} {mm : List D → Res D} {mi : List D → Res (List D)} {f C : Addr} {fd : FuncData} {ps ks : List Str} {x m : Str} {p apos : Pos} {dvs : List V} {dd : List D} {n np nk : Nat} {cc : Nat} {idx : List Nat} {t tk : TA} {ta : TE} {CX : CXT} {sp : Sp}
theorem pkx_nil : PKX X T W [] env (.ok []) := ⟨_, pk_nil, fun H0 σ H G M Q h => h [] H G (Fr.refl M.gh) .nil⟩
theorem pkx_cons (he : PX X T W e env ma) (hr : PKX X T W kws env ms) : PKX X T W (⟨nm, e, kpos⟩ :: kws) env (consR ma ms) := by
  obtain ⟨ta, pa, sa⟩ := he.ex
  obtain ⟨tr, pr, sr⟩ := hr.ex
  refine ⟨_, pk_cons pa pr, fun H0 σ H G M Q h => ?_⟩
  refine sa H0 σ H G M _ ((Res.sat_bind h).mono (fun x hx v1 H1 G1 f1 r1 => ?_) fun _ _ z => z)
  refine sr H0 σ H1 G1 (M.fr f1) _ ((Res.sat_bind hx).mono (fun l hl vs H2 G2 f2 r2 => ?_) fun _ _ z => z.fr f1)
  exact hl (v1 :: vs) H2 G2 (f1.trans f2) (.cons (r1.mono f2.g) r2)
theorem sa_kw (sa : SA T W t env ms) (sk : SA T W tk env mk) (rd : ∀ G, Reps T G dvs dd) : SA T W (tKw np nk idx dvs t tk) env (kwL np nk idx dd ms mk) := by
  intro H0 σ H G M Q h
  refine sa H0 σ H G M _ ((Res.sat_bind h).mono (fun l hl vs H1 G1 f1 r1 => ?_) fun _ _ z => z)
  refine sk H0 σ H1 G1 (M.fr f1) _ ((Res.sat_bind hl).mono (fun l2 hl2 zs H2 G2 f2 r2 => ?_) fun _ _ z => z.fr f1)
  by_cases hh : l.length = np ∧ l2.length = nk
  · rw [if_pos hh] at hl2
    exact ⟨by rw [r1.length]; exact hh.1, by rw [r2.length]; exact hh.2, hl2 _ H2 G2 (f1.trans f2) (((r1.mono f2.g).append (r2.append (rd G2))).pick idx)⟩
  · rw [if_neg hh] at hl2
    exact hl2.elim
theorem run_fnK {pins : List (Addr × Obj)} {σ : L2.St} {H : Hp} {s : Shared} {Q : VK} {us ws : List Value} {vs zs : List V} {E : XK} (F : FnOk X.prog X.w X.K X.mg X.base CX k f fd ps sp) (hr : Room k X.A) (hb : KBI X.K fd ps np ks idx dvs) (hx : PassesAt CX X σ E)
    (I : Inv X pins σ H s) (r : Vals vs us) (rz : Vals zs ws) (l1 : vs.length = np) (l2 : zs.length = ks.length) (h : sp (pickI idx (vs ++ (zs ++ dvs)) ++ []) H Q E) : wpAny (model X.prog X.w) X.A (call (.ref f) us (ks.zip ws)) (EP X pins σ Q) X.xe s := by
  rw [List.append_nil] at h
  obtain ⟨its, ri, to⟩ := hb.ex
  have r2 : Vals (pickI idx (vs ++ (zs ++ dvs))) (pickI idx (us ++ (ws ++ its))) := vals_pick (r.append (rz.append ri)) idx
  refine wpAny_call (codeAny_mono (F.run X.A X.stack s H ⟨us, ks.zip ws⟩ (pickI idx (us ++ (ws ++ its))) (pickI idx (vs ++ (zs ++ dvs))) Q E hr I.env0 (to s us ws I.kIn (r.length.symm.trans l1) (rz.length.symm.trans l2)) r2 h) fun r s' hq => ?_)
  cases r with
  | error e => exact hx pins H s e s' I hq
  | ok fl =>
    cases fl with
    | ret u => exact I.after hq
    | next => exact False.elim hq
    | brk => exact False.elim hq
    | cont => exact False.elim hq
def tCallT (sp : Sp) (dvs : List V) (E : L2.St → XK) (t : TA) : TE := fun σ H Q => t σ H fun vs H1 => sp (vs ++ dvs) H1 Q (E σ)
theorem pe_callKw {E : L2.St → XK} (F : FnOk X.prog X.w X.K X.mg X.base CX k f fd ps sp) (hr : Room k X.A) (hg : Gl X x) (hm : X.mg x = some (.ref f)) (hk : PySem.W.keepIn X.K (.ref f) = true) (hb : KBI X.K fd ps np ks idx dvs) (hx : ∀ σ, PassesAt CX X σ (E σ))
    (ha : PA X (e :: es) t) (hkw : PK X kws tk) (hall : (backToKw pos (keywordEach kws X.env)).all (·.1.isSome) = true := by rfl) (hks : (backToKw pos (keywordEach kws X.env)).filterMap (·.1) = ks := by rfl)
    (hdb : (x == ("__debug__" : Str)) = false := by decide) (he : starEach (e :: es) X.env = (false, eval e X.env) :: starEach es X.env := by rfl)
    (hpl : ((backTo pos (starEach (e :: es) X.env)).any (·.1) || (backToKw pos (keywordEach kws X.env)).any (·.1.isNone)) = false := by rfl) :
    PE X (.Call (.Name x p) (e :: es) kws pos) (tCallT sp [] E (tKw np ks.length idx dvs t tk)) := by
  refine ⟨fun pins s σ H Q I h => ?_⟩
  refine wpAny_Call_Name_kw (ld_glob I hg hm ?_ hdb)
  refine PySem.W.callWith_KW (h₀ := X.base) I.ok.mod.kin hk hall (thn (ha.run pos pins s σ H _ I h) fun us s1 ⟨vs, H1, I1, r, q⟩ => ?_) hpl he
  refine thn (hkw.run pos pins s1 σ H1 _ I1 q) fun ws s2 ⟨zs, H2, I2, rz, l1, l2, q2⟩ => ⟨I2.kIn, ?_⟩
  rw [hks]
  exact run_fnK F hr hb (hx σ) I2 r rz l1 l2 q2
theorem pe_callKw0 {E : L2.St → XK} (F : FnOk X.prog X.w X.K X.mg X.base CX k f fd ps sp) (hr : Room k X.A) (hg : Gl X x) (hm : X.mg x = some (.ref f)) (hk : PySem.W.keepIn X.K (.ref f) = true) (hb : KBI X.K fd ps np ks idx dvs) (hx : ∀ σ, PassesAt CX X σ (E σ))
    (hkw : PK X kws tk) (hall : (backToKw pos (keywordEach kws X.env)).all (·.1.isSome) = true := by rfl) (hks : (backToKw pos (keywordEach kws X.env)).filterMap (·.1) = ks := by rfl)
    (hdb : (x == ("__debug__" : Str)) = false := by decide)
    (hpl : ((backTo pos (starEach [] X.env)).any (·.1) || (backToKw pos (keywordEach kws X.env)).any (·.1.isNone)) = false := by rfl) :
    PE X (.Call (.Name x p) [] kws pos) (tCallT sp [] E (tKw np ks.length idx dvs tNil tk)) := by
  refine ⟨fun pins s σ H Q I h => ?_⟩
  refine wpAny_Call_Name_kw (ld_glob I hg hm ?_ hdb)
  refine PySem.W.callWith_KW0 (h₀ := X.base) I.ok.mod.kin hk hall ?_ hpl
  refine thn (hkw.run pos pins s σ H _ I h) fun ws s2 ⟨zs, H2, I2, rz, l1, l2, q2⟩ => ⟨I2.kIn, ?_⟩
  rw [hks]
  exact run_fnK (us := []) F hr hb (hx σ) I2 .nil rz l1 l2 q2
theorem px_callKw (Cc : Ctx X T W k') (F : FnOk X.prog X.w X.K X.mg X.base (L2.CX X.prog X.w) k f fd ps (pureSp T n mm)) (hn : ∀ ds, ds.length ≠ n → mm ds = .bad) (hk : k ≤ k') (hg : Gl X x) (hm : X.mg x = some (.ref f)) (hkp : PySem.W.keepIn X.K (.ref f) = true) (hb : KBI X.K fd ps np ks idx dvs) (rd : ∀ G, Reps T G dvs dd)
    (ha : PAX X T W (e :: es) env ms) (hkw : PKX X T W kws env mk) (hall : (backToKw pos (keywordEach kws X.env)).all (·.1.isSome) = true := by rfl) (hks : (backToKw pos (keywordEach kws X.env)).filterMap (·.1) = ks := by rfl) (hdb : (x == ("__debug__" : Str)) = false := by decide) (he : starEach (e :: es) X.env = (false, eval e X.env) :: starEach es X.env := by rfl)
    (hpl : ((backTo pos (starEach (e :: es) X.env)).any (·.1) || (backToKw pos (keywordEach kws X.env)).any (·.1.isNone)) = false := by rfl) :
    PX X T W (.Call (.Name x p) (e :: es) kws pos) env (callR mm [] (kwL np ks.length idx dd ms mk)) := by
  obtain ⟨t, pa, sa⟩ := ha.ex
  obtain ⟨tk, pk, sk⟩ := hkw.ex
  refine ⟨_, pe_callKw F (Cc.room.mono hk) hg hm hkp hb Cc.pass pa pk hall hks hdb he hpl, fun H0 σ H G M Q h => ?_⟩
  refine sa_kw sa sk rd H0 σ H G M _ ((Res.sat_bind h).mono (fun l hl vs H1 G1 f1 r1 => ?_) fun _ _ z => z)
  exact pure_of (σ := σ) f1.s (r1.append .nil) hn (hl.mono (fun d z => z.fr f1) fun _ _ z => z.fr f1)
theorem px_callKw0 (Cc : Ctx X T W k') (F : FnOk X.prog X.w X.K X.mg X.base (L2.CX X.prog X.w) k f fd ps (pureSp T n mm)) (hn : ∀ ds, ds.length ≠ n → mm ds = .bad) (hk : k ≤ k') (hg : Gl X x) (hm : X.mg x = some (.ref f)) (hkp : PySem.W.keepIn X.K (.ref f) = true) (hb : KBI X.K fd ps np ks idx dvs) (rd : ∀ G, Reps T G dvs dd)
    (hkw : PKX X T W kws env mk) (hall : (backToKw pos (keywordEach kws X.env)).all (·.1.isSome) = true := by rfl) (hks : (backToKw pos (keywordEach kws X.env)).filterMap (·.1) = ks := by rfl) (hdb : (x == ("__debug__" : Str)) = false := by decide)
    (hpl : ((backTo pos (starEach [] X.env)).any (·.1) || (backToKw pos (keywordEach kws X.env)).any (·.1.isNone)) = false := by rfl) :
    PX X T W (.Call (.Name x p) [] kws pos) env (callR mm [] (kwL np ks.length idx dd (.ok []) mk)) := by
  obtain ⟨tk, pk, sk⟩ := hkw.ex
  have s0 : SA T W tNil env (.ok []) := fun H0 σ H G M Q h => h [] H G (Fr.refl M.gh) .nil
  refine ⟨_, pe_callKw0 F (Cc.room.mono hk) hg hm hkp hb Cc.pass pk hall hks hdb hpl, fun H0 σ H G M Q h => ?_⟩
  refine sa_kw s0 sk rd H0 σ H G M _ ((Res.sat_bind h).mono (fun l hl vs H1 G1 f1 r1 => ?_) fun _ _ z => z)
  exact pure_of (σ := σ) f1.s (r1.append .nil) hn (hl.mono (fun d z => z.fr f1) fun _ _ z => z.fr f1)
/-! methods -/
def tMethT (C : Addr) (m : Str) (sp : Sp) (E : L2.St → XK) (ta : TE) (t : TA) : TE := fun σ H Q => ta σ H fun x H1 => ∃ a dx fs, x = .ref a ∧ H1 a = some (.ins C dx fs) ∧ fs.lookup m = none ∧
  t σ H1 fun vs H2 => sp (x :: (vs ++ [])) H2 Q (E σ)
theorem pe_methKw {pl : Sem Bool} {E : L2.St → XK} (he : PE X o ta) (c : Cls X.K C) (hm : Meth X.K C m f) (F : FnOk X.prog X.w X.K X.mg X.base CX k f fd ps sp) (hr : Room k X.A) (hb : KBI X.K fd ps (np + 1) ks (0 :: idx.map (· + 1)) dvs) (hx : ∀ σ, PassesAt CX X σ (E σ)) (ha : PA X (e :: es) t) (hkw : PK X kws tk)
    (hall : (backToKw pos (keywordEach kws X.env)).all (·.1.isSome) = true := by rfl) (hks : (backToKw pos (keywordEach kws X.env)).filterMap (·.1) = ks := by rfl)
    (hst : starEach (e :: es) X.env = (false, eval e X.env) :: starEach es X.env := by rfl) (hpl : ((backTo pos (starEach (e :: es) X.env)).any (·.1) || (backToKw pos (keywordEach kws X.env)).any (·.1.isNone)) = false := by rfl)
    (ht : eval (.Call (.Attribute o m apos) (e :: es) kws pos) X.env = (do
      let ov ← eval o X.env
      standAt apos.atName
      let (f, first) ← holding [ov] (getMethod ov m pl)
      callWith pos f first (backTo pos (starEach (e :: es) X.env)) (backToKw pos (keywordEach kws X.env))) := by rfl) :
    PE X (.Call (.Attribute o m apos) (e :: es) kws pos) (tMethT C m sp E ta (tKw np ks.length idx dvs t tk)) := by
  refine ⟨fun pins s σ H Q I h => ?_⟩
  refine PySem.W.methodCall_KW (pl := pl) (thn (he.run pins s σ H _ I h) fun u s1 ⟨x, H1, I1, rx, a, dx, fs, ex, ea, l, q⟩ => ?_) ht
  subst ex
  obtain rfl : u = Value.ref a := rx
  refine getmeth_ok I1 ea c hm l ?_
  refine PySem.W.callWith_KW (first := [.ref a]) (h₀ := X.base) I.ok.mod.kin hm.kp hall (thn (ha.run pos pins s1 σ H1 _ I1 q) fun us s2 ⟨vs, H2, I2, r, q2⟩ => ?_) hpl hst
  refine thn (hkw.run pos pins s2 σ H2 _ I2 q2) fun ws s3 ⟨zs, H3, I3, rz, l1, l2, q3⟩ => ⟨I3.kIn, ?_⟩
  rw [hks]
  refine run_fnK (us := .ref a :: us) (vs := .ref a :: vs) F hr hb (hx σ) I3 (.cons rfl r) rz (congrArg Nat.succ l1) l2 ?_
  rw [List.cons_append, pick_self]
  exact q3
theorem pe_methKw0 {pl : Sem Bool} {E : L2.St → XK} (he : PE X o ta) (c : Cls X.K C) (hm : Meth X.K C m f) (F : FnOk X.prog X.w X.K X.mg X.base CX k f fd ps sp) (hr : Room k X.A) (hb : KBI X.K fd ps (np + 1) ks (0 :: idx.map (· + 1)) dvs) (hx : ∀ σ, PassesAt CX X σ (E σ)) (hkw : PK X kws tk)
    (hall : (backToKw pos (keywordEach kws X.env)).all (·.1.isSome) = true := by rfl) (hks : (backToKw pos (keywordEach kws X.env)).filterMap (·.1) = ks := by rfl)
    (hpl : ((backTo pos (starEach [] X.env)).any (·.1) || (backToKw pos (keywordEach kws X.env)).any (·.1.isNone)) = false := by rfl)
    (ht : eval (.Call (.Attribute o m apos) [] kws pos) X.env = (do
      let ov ← eval o X.env
      standAt apos.atName
      let (f, first) ← holding [ov] (getMethod ov m pl)
      callWith pos f first (backTo pos (starEach [] X.env)) (backToKw pos (keywordEach kws X.env))) := by rfl) :
    PE X (.Call (.Attribute o m apos) [] kws pos) (tMethT C m sp E ta (tKw np ks.length idx dvs tNil tk)) := by
  refine ⟨fun pins s σ H Q I h => ?_⟩
  refine PySem.W.methodCall_KW (pl := pl) (thn (he.run pins s σ H _ I h) fun u s1 ⟨x, H1, I1, rx, a, dx, fs, ex, ea, l, q⟩ => ?_) ht
  subst ex
  obtain rfl : u = Value.ref a := rx
  refine getmeth_ok I1 ea c hm l ?_
  refine PySem.W.callWith_KW0 (first := [.ref a]) (h₀ := X.base) I.ok.mod.kin hm.kp hall ?_ hpl
  refine thn (hkw.run pos pins s1 σ H1 _ I1 q) fun ws s3 ⟨zs, H3, I3, rz, l1, l2, q3⟩ => ⟨I3.kIn, ?_⟩
  rw [hks]
  refine run_fnK (us := [.ref a]) (vs := [.ref a]) F hr hb (hx σ) I3 (.cons rfl .nil) rz (congrArg Nat.succ l1) l2 ?_
  rw [List.cons_append, pick_self]
  exact q3
theorem sem_meth (S : KtOk T) (hc : T.ca cc = some C) (hno : (T.at_ cc).all (fun n => m != n) = true) (hn : ∀ ds, ds.length ≠ n → mm ds = .bad) {ta : TE} {t : TA} (so : SE T W ta env mo) (sa : SA T W t env ms) : SE T W (tMethT C m (pureSp T n mm) (WE W) ta t) env (methR cc mm [] mo ms) := by
  intro H0 σ H G M Q h
  refine so H0 σ H G M _ ((Res.sat_bind h).mono (fun d hd' v1 H1 G1 f1 r1 => ?_) fun _ _ z => z)
  have r1' := r1
  cases d <;> try exact hd'.elim
  · rename_i cc' l'
    by_cases e1 : cc' = cc
    · subst e1
      obtain ⟨aa, C', dx, ns, vs', rfl, hc', hg, hns⟩ := rep_obj r1
      rw [hc] at hc'
      cases hc'
      simp only [if_true] at hd'
      refine ⟨aa, dx, _, rfl, f1.s _ _ hg, by rw [hns]; exact lookup_zip_none hno, ?_⟩
      refine sa H0 σ H1 G1 (M.fr f1) _ ((Res.sat_bind hd').mono (fun l hl2 ws H2 G2 f2 r2 => ?_) fun _ _ z => z.fr f1)
      exact pure_of (σ := σ) (f1.trans f2).s (.cons (r1'.mono f2.g) (r2.append .nil)) hn (hl2.mono (fun d z => z.fr (f1.trans f2)) fun _ _ z => z.fr (f1.trans f2))
    · simp only [if_neg e1] at hd'; exact hd'.elim
theorem px_methKw {pl : Sem Bool} (Cc : Ctx X T W k') (S : KtOk T) (hM : Meth X.K C m f) (hc : T.ca cc = some C) (hno : (T.at_ cc).all (fun n => m != n) = true) (F : FnOk X.prog X.w X.K X.mg X.base (L2.CX X.prog X.w) k f fd ps (pureSp T n mm)) (hn : ∀ ds, ds.length ≠ n → mm ds = .bad) (hk : k ≤ k') (hb : KBI X.K fd ps (np + 1) ks (0 :: idx.map (· + 1)) dvs) (rd : ∀ G, Reps T G dvs dd)
    (ho : PX X T W o env mo) (ha : PAX X T W (e :: es) env ms) (hkw : PKX X T W kws env mk)
    (hall : (backToKw pos (keywordEach kws X.env)).all (·.1.isSome) = true := by rfl) (hks : (backToKw pos (keywordEach kws X.env)).filterMap (·.1) = ks := by rfl)
    (hst : starEach (e :: es) X.env = (false, eval e X.env) :: starEach es X.env := by rfl) (hpl : ((backTo pos (starEach (e :: es) X.env)).any (·.1) || (backToKw pos (keywordEach kws X.env)).any (·.1.isNone)) = false := by rfl)
    (ht : eval (.Call (.Attribute o m apos) (e :: es) kws pos) X.env = (do
      let ov ← eval o X.env
      standAt apos.atName
      let (f, first) ← holding [ov] (getMethod ov m pl)
      callWith pos f first (backTo pos (starEach (e :: es) X.env)) (backToKw pos (keywordEach kws X.env))) := by rfl) :
    PX X T W (.Call (.Attribute o m apos) (e :: es) kws pos) env (methR cc mm [] mo (kwL np ks.length idx dd ms mk)) := by
  obtain ⟨to, po, so⟩ := ho.ex
  obtain ⟨t, pa, sa⟩ := ha.ex
  obtain ⟨tk, pk, sk⟩ := hkw.ex
  exact ⟨_, pe_methKw po (by rw [Cc.kk]; exact S.cls cc C hc) hM F (Cc.room.mono hk) hb Cc.pass pa pk hall hks hst hpl ht, sem_meth S hc hno hn so (sa_kw sa sk rd)⟩
theorem px_methKw0 {pl : Sem Bool} (Cc : Ctx X T W k') (S : KtOk T) (hM : Meth X.K C m f) (hc : T.ca cc = some C) (hno : (T.at_ cc).all (fun n => m != n) = true) (F : FnOk X.prog X.w X.K X.mg X.base (L2.CX X.prog X.w) k f fd ps (pureSp T n mm)) (hn : ∀ ds, ds.length ≠ n → mm ds = .bad) (hk : k ≤ k') (hb : KBI X.K fd ps (np + 1) ks (0 :: idx.map (· + 1)) dvs) (rd : ∀ G, Reps T G dvs dd)
    (ho : PX X T W o env mo) (hkw : PKX X T W kws env mk)
    (hall : (backToKw pos (keywordEach kws X.env)).all (·.1.isSome) = true := by rfl) (hks : (backToKw pos (keywordEach kws X.env)).filterMap (·.1) = ks := by rfl)
    (hpl : ((backTo pos (starEach [] X.env)).any (·.1) || (backToKw pos (keywordEach kws X.env)).any (·.1.isNone)) = false := by rfl)
    (ht : eval (.Call (.Attribute o m apos) [] kws pos) X.env = (do
      let ov ← eval o X.env
      standAt apos.atName
      let (f, first) ← holding [ov] (getMethod ov m pl)
      callWith pos f first (backTo pos (starEach [] X.env)) (backToKw pos (keywordEach kws X.env))) := by rfl) :
    PX X T W (.Call (.Attribute o m apos) [] kws pos) env (methR cc mm [] mo (kwL np ks.length idx dd (.ok []) mk)) := by
  obtain ⟨to, po, so⟩ := ho.ex
  obtain ⟨tk, pk, sk⟩ := hkw.ex
  have s0 : SA T W tNil env (.ok []) := fun H0 σ H G M Q h => h [] H G (Fr.refl M.gh) .nil
  exact ⟨_, pe_methKw0 po (by rw [Cc.kk]; exact S.cls cc C hc) hM F (Cc.room.mono hk) hb Cc.pass pk hall hks hpl ht, sem_meth S hc hno hn so (sa_kw s0 sk rd)⟩
/-! making an object by keywords -/
theorem run_makeKw {pins : List (Addr × Obj)} {σ : L2.St} {H : Hp} {s : Shared} {Q : VK} {us ws : List Value} {vs zs : List V} {E : XK} (M : Mk X.K C f) (F : FnOk X.prog X.w X.K X.mg X.base CX k f fd ps sp) (hr : Room (k + 1) X.A) (hb : KBI X.K fd ps (np + 1) ks (0 :: idx.map (· + 1)) dvs)
    (hx : PassesAt CX X σ E) (I : L2.Inv X pins σ H s) (r : Vals vs us) (rz : Vals zs ws) (l1 : vs.length = np) (l2 : zs.length = ks.length)
    (h : ∀ x dx, H x = none → H dx = none → dx ≠ x → sp (.ref x :: (pickI idx (vs ++ (zs ++ dvs)) ++ [])) (upd (upd H dx (.own x)) x (.ins C dx [])) (fun v H2 => v = .non ∧ Q (.ref x) H2) E) :
    wpAny (model X.prog X.w) X.A (call (.ref C) us (ks.zip ws)) (EP X pins σ Q) X.xe s := by
  have hq := h (s.heap.objs.size + 1) s.heap.objs.size (I.hok.fresh (Nat.le_succ _)) (I.hok.fresh (Nat.le_refl _)) (Nat.ne_of_lt (Nat.lt_succ_self _))
  have I2 := Inv.made (C := C) I
  obtain ⟨its, ri, to⟩ := hb.ex
  have r0 : Vals (V.ref (s.heap.objs.size + 1) :: (vs ++ (zs ++ dvs))) (Value.ref (s.heap.objs.size + 1) :: (us ++ (ws ++ its))) := .cons rfl (r.append (rz.append ri))
  have r2 := vals_pick r0 (0 :: idx.map (· + 1))
  rw [pick_self] at r2
  rw [List.append_nil] at hq
  refine wpAny_call (make_map (f := f) I.kIn M.makes M.init (beq_iff_eq.mp M.fn) (codeAny_mono (F.run _ X.stack _ _ ⟨Value.ref (s.heap.objs.size + 1) :: us, ks.zip ws⟩ (pickI (0 :: idx.map (· + 1)) (Value.ref (s.heap.objs.size + 1) :: (us ++ (ws ++ its)))) _ _ E (hr.make C us (ks.zip ws))
    (I2.env0.make C us (ks.zip ws)) (to _ (Value.ref (s.heap.objs.size + 1) :: us) ws I2.kIn (congrArg Nat.succ (r.length.symm.trans l1)) (rz.length.symm.trans l2)) r2 hq) fun r s' hq' => ?_))
  cases r with
  | error e => exact hx pins _ _ e s' I2 hq'
  | ok fl =>
    cases fl with
    | ret u =>
      obtain ⟨v, H', I3, rv, ev, q3⟩ := I2.after hq'
      subst ev
      exact ⟨rv, ⟨V.ref (s.heap.objs.size + 1), H', I3, rfl, q3⟩⟩
    | next => exact False.elim hq'
    | brk => exact False.elim hq'
    | cont => exact False.elim hq'
theorem px_makeKw (Cc : Ctx X T W k') (M0 : Mk X.K C f) (hc : T.ca cc = some C) (F : FnOk X.prog X.w X.K X.mg X.base (L2.CX X.prog X.w) k f fd ps (initSp T n cc mi)) (hn : ∀ ds, ds.length + 1 ≠ n → mi ds = .bad) (hk : k + 1 ≤ k') (hg : Gl X x) (hm : X.mg x = some (.ref C)) (hb0 : L2.Binds X.K fd ps []) (hb : KBI X.K fd ps (np + 1) ks (0 :: idx.map (· + 1)) dvs) (rd : ∀ G, Reps T G dvs dd)
    (ha : PAX X T W (e :: es) env ms) (hkw : PKX X T W kws env mk) (hall : (backToKw pos (keywordEach kws X.env)).all (·.1.isSome) = true := by rfl) (hks : (backToKw pos (keywordEach kws X.env)).filterMap (·.1) = ks := by rfl) (hdb : (x == ("__debug__" : Str)) = false := by decide) (he : starEach (e :: es) X.env = (false, eval e X.env) :: starEach es X.env := by rfl)
    (hpl : ((backTo pos (starEach (e :: es) X.env)).any (·.1) || (backToKw pos (keywordEach kws X.env)).any (·.1.isNone)) = false := by rfl) :
    PX X T W (.Call (.Name x p) (e :: es) kws pos) env (makeR cc mi [] (kwL np ks.length idx dd ms mk)) := by
  obtain ⟨t, pa, sa⟩ := ha.ex
  obtain ⟨tk, pk, sk⟩ := hkw.ex
  refine px_make Cc M0 hc F hn hk hg hm hb0 .nil (fun _ => .nil) (t := tKw np ks.length idx dvs t tk) (fun E hx => ⟨fun pins s σ H Q I h => ?_⟩) (sa_kw sa sk rd)
  refine wpAny_Call_Name_kw (ld_glob I hg hm ?_ hdb)
  refine PySem.W.callWith_KW (h₀ := X.base) I.ok.mod.kin M0.kp hall (thn (pa.run pos pins s σ H _ I h) fun us s1 ⟨vs, H1, I1, r, q⟩ => ?_) hpl he
  refine thn (pk.run pos pins s1 σ H1 _ I1 q) fun ws s2 ⟨zs, H2, I2, rz, l1, l2, q2⟩ => ⟨I2.kIn, ?_⟩
  rw [hks]
  exact run_makeKw M0 F (Cc.room.mono hk) hb (hx σ) I2 r rz l1 l2 q2
theorem px_makeKw0 (Cc : Ctx X T W k') (M0 : Mk X.K C f) (hc : T.ca cc = some C) (F : FnOk X.prog X.w X.K X.mg X.base (L2.CX X.prog X.w) k f fd ps (initSp T n cc mi)) (hn : ∀ ds, ds.length + 1 ≠ n → mi ds = .bad) (hk : k + 1 ≤ k') (hg : Gl X x) (hm : X.mg x = some (.ref C)) (hb0 : L2.Binds X.K fd ps []) (hb : KBI X.K fd ps (np + 1) ks (0 :: idx.map (· + 1)) dvs) (rd : ∀ G, Reps T G dvs dd)
    (hkw : PKX X T W kws env mk) (hall : (backToKw pos (keywordEach kws X.env)).all (·.1.isSome) = true := by rfl) (hks : (backToKw pos (keywordEach kws X.env)).filterMap (·.1) = ks := by rfl) (hdb : (x == ("__debug__" : Str)) = false := by decide)
    (hpl : ((backTo pos (starEach [] X.env)).any (·.1) || (backToKw pos (keywordEach kws X.env)).any (·.1.isNone)) = false := by rfl) :
    PX X T W (.Call (.Name x p) [] kws pos) env (makeR cc mi [] (kwL np ks.length idx dd (.ok []) mk)) := by
  obtain ⟨tk, pk, sk⟩ := hkw.ex
  have s0 : SA T W tNil env (.ok []) := fun H0 σ H G M Q h => h [] H G (Fr.refl M.gh) .nil
  refine px_make Cc M0 hc F hn hk hg hm hb0 .nil (fun _ => .nil) (t := tKw np ks.length idx dvs tNil tk) (fun E hx => ⟨fun pins s σ H Q I h => ?_⟩) (sa_kw s0 sk rd)
  refine wpAny_Call_Name_kw (ld_glob I hg hm ?_ hdb)
  refine PySem.W.callWith_KW0 (h₀ := X.base) I.ok.mod.kin M0.kp hall ?_ hpl
  refine thn (pk.run pos pins s σ H _ I h) fun ws s2 ⟨zs, H2, I2, rz, l1, l2, q2⟩ => ⟨I2.kIn, ?_⟩
  rw [hks]
  exact run_makeKw (us := []) M0 F (Cc.room.mono hk) hb (hx σ) I2 .nil rz l1 l2 q2
end
/-! ### how such calls bind -/
section
variable {K : PySem.W.Frag} {x qual : Str} {st : Stmt} {params : Arguments} {body : List Stmt} {scope : Scope} {dvs : List V} {kws : List (Str × V)} {f : Addr} {fd : FuncData} {ps ks : List Str} {n : Nat} {idx : List Nat}
theorem kbi_fun (F : Fun K x qual st f fd) (h : ∀ (kV doc pm : Value) (an : Option Addr) (cdv ct : Value) (us ws : List Value), us.length = n → ws.length = ks.length → bindArgs (PySem.W.fnOf x qual (defArgs st) (defBody st) (defScope st) .none kV doc pm an cdv ct) ⟨us, ks.zip ws⟩ = pure (ps.zip (pickI idx (us ++ ws)))) : KBI K fd ps n ks idx [] := by
  obtain ⟨oc, od, kV, doc, pm, an, cdv, ct, osl, rfl, lk, hcd⟩ := F.ex
  refine ⟨[], .nil, fun s us ws X l1 l2 => ?_⟩
  rw [List.append_nil]
  exact .of_eq (h kV doc pm an cdv ct us ws l1 l2)
theorem kbi_kwd (F : FunD K x qual params body scope [] kws f fd) (ms : List (Str × V)) (hk : kws ≠ []) (hms : ∀ q ∈ ms, q ∈ kws)
    (h : ∀ (D : Addr) (doc pm : Value) (an : Option Addr) (cdv ct : Value) (us ws mv : List Value), us.length = n → ws.length = ks.length → mv.length = ms.length → KwChain D ((ms.map (·.1)).zip mv) (bindArgs (PySem.W.fnOf x qual params body scope .none (.ref D) doc pm an cdv ct) ⟨us, ks.zip ws⟩) (ps.zip (pickI idx (us ++ (ws ++ mv))))) : KBI K fd ps n ks idx (ms.map (·.2)) := by
  obtain ⟨oc, od, dV, kV, doc, pm, an, cdv, ct, osl, rfl, lk, hcd, hD, hK⟩ := F.ex
  rcases hD with ⟨_, rfl⟩ | ⟨e, _⟩
  · rcases hK with e | ⟨D, rfl, hq⟩
    · exact absurd e hk
    · obtain ⟨mv, hl, rk, hks⟩ := kwd_vals (ms := ms) fun q hm => hq q (hms q hm)
      refine ⟨mv, rk, fun s us ws X l1 l2 => ?_⟩
      exact BindsTo.of_looks fun M => KwChain.looks X hks (h D doc pm an cdv ct us ws mv l1 l2 hl)
  · exact absurd rfl e
theorem kbi_dfl (F : FunD K x qual params body scope dvs kws f fd) (hd : dvs ≠ [])
    (h : ∀ (T : Addr) (kV doc pm : Value) (an : Option Addr) (cdv ct : Value) (us ws its : List Value), us.length = n → ws.length = ks.length → its.length = dvs.length → ∃ k, bindArgs (PySem.W.fnOf x qual params body scope (.ref T) kV doc pm an cdv ct) ⟨us, ks.zip ws⟩ = seqItems? (.ref T) >>= k ∧ k (some its.toArray) = pure (ps.zip (pickI idx (us ++ (ws ++ its))))) : KBI K fd ps n ks idx dvs := by
  obtain ⟨oc, od, dV, kV, doc, pm, an, cdv, ct, osl, rfl, lk, hcd, hD, hK⟩ := F.ex
  rcases hD with ⟨e, _⟩ | ⟨_, T, o, its, m, rfl, lT, oT, rT⟩
  · exact absurd e hd
  · refine ⟨its, rT, fun s us ws X l1 l2 => ?_⟩
    obtain ⟨k, e1, e2⟩ := h T kV doc pm an cdv ct us ws its l1 l2 rT.length.symm
    refine BindsTo.of_looks fun M => ?_
    rw [e1]
    exact looks_items X lT oT (.of_pure e2)
end
end Px

namespace Px
open PySem PySem.Spec PyProof.Rows L2
/-! ### for a, b in .. -/
def tup2K {R : Type} (m : D → D → Res R) : D → Res R
  | .tup [a0, a1] => m a0 a1
  | _ => .bad
@[simp] theorem tup2K_ok {R : Type} (m : D → D → Res R) (a0 a1 : D) : tup2K m (.tup [a0, a1]) = m a0 a1 := id rfl
theorem tupCase2 {X : Cx} {T : Kt} {W : WX} {x : Xk} {env : Env'} {body : List Stmt} {O L S : Type} {ι : O → Fl L S} {el : L → Env'} {eo : S → Env'} {d : D} {m : D → D → Res O} {j0 j1 : Nat} (h : ∀ a0 a1, PBX X T W x body ((env.set j0 (some (.val a0))).set j1 (some (.val a1))) (m a0 a1) ι el eo) :
    match (match d with
      | .tup l => setAll env [j0, j1] l
      | _ => none) with
    | some env' => PBX X T W x body env' (tup2K m d) ι el eo
    | none => tup2K m d = .bad := by
  cases d with
  | tup l =>
    match l with
    | [a0, a1] => exact h a0 a1
    | [] => rfl
    | [_] => rfl
    | _ :: _ :: _ :: _ => rfl
  | non => rfl
  | bl _ => rfl
  | int _ => rfl
  | str _ => rfl
  | lst _ => rfl
  | scr _ => rfl
  | obj _ _ => rfl
  | dic _ _ => rfl
def tup3K {R : Type} (m : D → D → D → Res R) : D → Res R
  | .tup [a0, a1, a2] => m a0 a1 a2
  | _ => .bad
@[simp] theorem tup3K_ok {R : Type} (m : D → D → D → Res R) (a0 a1 a2 : D) : tup3K m (.tup [a0, a1, a2]) = m a0 a1 a2 := id rfl
theorem tupCase3 {X : Cx} {T : Kt} {W : WX} {x : Xk} {env : Env'} {body : List Stmt} {O L S : Type} {ι : O → Fl L S} {el : L → Env'} {eo : S → Env'} {d : D} {m : D → D → D → Res O} {j0 j1 j2 : Nat} (h : ∀ a0 a1 a2, PBX X T W x body (((env.set j0 (some (.val a0))).set j1 (some (.val a1))).set j2 (some (.val a2))) (m a0 a1 a2) ι el eo) :
    match (match d with
      | .tup l => setAll env [j0, j1, j2] l
      | _ => none) with
    | some env' => PBX X T W x body env' (tup3K m d) ι el eo
    | none => tup3K m d = .bad := by
  cases d with
  | tup l =>
    match l with
    | [a0, a1, a2] => exact h a0 a1 a2
    | [] => rfl
    | [_] => rfl
    | [_, _] => rfl
    | _ :: _ :: _ :: _ :: _ => rfl
  | non => rfl
  | bl _ => rfl
  | int _ => rfl
  | str _ => rfl
  | lst _ => rfl
  | scr _ => rfl
  | obj _ _ => rfl
  | dic _ _ => rfl
def tup4K {R : Type} (m : D → D → D → D → Res R) : D → Res R
  | .tup [a0, a1, a2, a3] => m a0 a1 a2 a3
  | _ => .bad
@[simp] theorem tup4K_ok {R : Type} (m : D → D → D → D → Res R) (a0 a1 a2 a3 : D) : tup4K m (.tup [a0, a1, a2, a3]) = m a0 a1 a2 a3 := id rfl
theorem tupCase4 {X : Cx} {T : Kt} {W : WX} {x : Xk} {env : Env'} {body : List Stmt} {O L S : Type} {ι : O → Fl L S} {el : L → Env'} {eo : S → Env'} {d : D} {m : D → D → D → D → Res O} {j0 j1 j2 j3 : Nat} (h : ∀ a0 a1 a2 a3, PBX X T W x body ((((env.set j0 (some (.val a0))).set j1 (some (.val a1))).set j2 (some (.val a2))).set j3 (some (.val a3))) (m a0 a1 a2 a3) ι el eo) :
    match (match d with
      | .tup l => setAll env [j0, j1, j2, j3] l
      | _ => none) with
    | some env' => PBX X T W x body env' (tup4K m d) ι el eo
    | none => tup4K m d = .bad := by
  cases d with
  | tup l =>
    match l with
    | [a0, a1, a2, a3] => exact h a0 a1 a2 a3
    | [] => rfl
    | [_] => rfl
    | [_, _] => rfl
    | [_, _, _] => rfl
    | _ :: _ :: _ :: _ :: _ :: _ => rfl
  | non => rfl
  | bl _ => rfl
  | int _ => rfl
  | str _ => rfl
  | lst _ => rfl
  | scr _ => rfl
  | obj _ _ => rfl
  | dic _ _ => rfl
def tup5K {R : Type} (m : D → D → D → D → D → Res R) : D → Res R
  | .tup [a0, a1, a2, a3, a4] => m a0 a1 a2 a3 a4
  | _ => .bad
@[simp] theorem tup5K_ok {R : Type} (m : D → D → D → D → D → Res R) (a0 a1 a2 a3 a4 : D) : tup5K m (.tup [a0, a1, a2, a3, a4]) = m a0 a1 a2 a3 a4 := id rfl
theorem tupCase5 {X : Cx} {T : Kt} {W : WX} {x : Xk} {env : Env'} {body : List Stmt} {O L S : Type} {ι : O → Fl L S} {el : L → Env'} {eo : S → Env'} {d : D} {m : D → D → D → D → D → Res O} {j0 j1 j2 j3 j4 : Nat} (h : ∀ a0 a1 a2 a3 a4, PBX X T W x body (((((env.set j0 (some (.val a0))).set j1 (some (.val a1))).set j2 (some (.val a2))).set j3 (some (.val a3))).set j4 (some (.val a4))) (m a0 a1 a2 a3 a4) ι el eo) :
    match (match d with
      | .tup l => setAll env [j0, j1, j2, j3, j4] l
      | _ => none) with
    | some env' => PBX X T W x body env' (tup5K m d) ι el eo
    | none => tup5K m d = .bad := by
  cases d with
  | tup l =>
    match l with
    | [a0, a1, a2, a3, a4] => exact h a0 a1 a2 a3 a4
    | [] => rfl
    | [_] => rfl
    | [_, _] => rfl
    | [_, _, _] => rfl
    | [_, _, _, _] => rfl
    | _ :: _ :: _ :: _ :: _ :: _ :: _ => rfl
  | non => rfl
  | bl _ => rfl
  | int _ => rfl
  | str _ => rfl
  | lst _ => rfl
  | scr _ => rfl
  | obj _ _ => rfl
  | dic _ _ => rfl
/-! ### in, not in -/
def inA (neg : Bool) (d e : D) : Option D := match d, e with
  | .str i, .str j => some (.bl (if neg then !(!(Builtin.Str.occurrences j i 0 j.length 1).isEmpty) else !(Builtin.Str.occurrences j i 0 j.length 1).isEmpty))
  | _, _ => none
def inL (neg : Bool) (d e : D) : Option D := match toP d, toP e with
  | some p, some (.list qs) => if SeqAt.shaped p && SeqAt.shaped (.list qs) then some (.bl (if neg then !(qs.any fun z => PyData.eqv z p) else qs.any fun z => PyData.eqv z p)) else none
  | _, _ => none
def inD (d e : D) : Option D := (inA false d e).orElse fun _ => inL false d e
def notInD (d e : D) : Option D := (inA true d e).orElse fun _ => inL true d e
theorem od_inL {T : Kt} : OpD T (rInD T.K) (inL false) := by
  intro x y d e G H Q s rx ry z hz q
  unfold inL at hz
  split at hz
  · rename_i p qs h1 h2
    split at hz
    · rename_i hs
      rw [Bool.and_eq_true] at hs
      cases hz
      exact ⟨p, qs, dp_mono s (rep_dp rx h1), dp_mono s (rep_dp ry h2), hs.1, hs.2, q _ _ _ (Fr.refl s) (.bl _)⟩
    · cases hz
  · cases hz
theorem od_notInL {T : Kt} : OpD T (rNotInD T.K) (inL true) := by
  intro x y d e G H Q s rx ry z hz q
  unfold inL at hz
  split at hz
  · rename_i p qs h1 h2
    split at hz
    · rename_i hs
      rw [Bool.and_eq_true] at hs
      cases hz
      exact ⟨p, qs, dp_mono s (rep_dp rx h1), dp_mono s (rep_dp ry h2), hs.1, hs.2, q _ _ _ (Fr.refl s) (.bl _)⟩
    · cases hz
  · cases hz
theorem od_inA {T : Kt} : OpD T (fun x y H Q => ∃ i j, x = .str i ∧ y = .str j ∧ Q (.bl (!(Builtin.Str.occurrences j i 0 j.length 1).isEmpty)) H) (inA false) := by
  intro x y d e G H Q s rx ry z hz q
  unfold inA at hz
  split at hz
  · cases rx; cases ry; cases hz
    exact ⟨_, _, rfl, rfl, q _ _ _ (Fr.refl s) (.bl _)⟩
  · cases hz
theorem od_notInA {T : Kt} : OpD T (fun x y H Q => ∃ i j, x = .str i ∧ y = .str j ∧ Q (.bl (!(!(Builtin.Str.occurrences j i 0 j.length 1).isEmpty))) H) (inA true) := by
  intro x y d e G H Q s rx ry z hz q
  unfold inA at hz
  split at hz
  · cases rx; cases ry; cases hz
    exact ⟨_, _, rfl, rfl, q _ _ _ (Fr.refl s) (.bl _)⟩
  · cases hz
theorem Room.units65 {k : Nat} {A : Around} (r : Room k A) : A.units + 65 < cLine := by have := r.un; omega
def rInAll (K : PySem.W.Frag) : R2 := fun x y H Q => (∃ i j, x = .str i ∧ y = .str j ∧ Q (.bl (!(Builtin.Str.occurrences j i 0 j.length 1).isEmpty)) H) ∨ rInD K x y H Q
def rNotInAll (K : PySem.W.Frag) : R2 := fun x y H Q => (∃ i j, x = .str i ∧ y = .str j ∧ Q (.bl (!(!(Builtin.Str.occurrences j i 0 j.length 1).isEmpty))) H) ∨ rNotInD K x y H Q
theorem op_inAll {X : Cx} (hu : X.A.units + 65 < cLine) : OpR X (compareOp .In) (rInAll X.K) := OpR.or op_in_str (op_inD hu)
theorem op_notInAll {X : Cx} (hu : X.A.units + 65 < cLine) : OpR X (compareOp .NotIn) (rNotInAll X.K) := OpR.or op_notin_str (op_notInD hu)
theorem od_in {T : Kt} : OpD T (rInAll T.K) inD := OpD.or od_inA od_inL
theorem od_notIn {T : Kt} : OpD T (rNotInAll T.K) notInD := OpD.or od_notInA od_notInL
/-- list(x), x a list of one's own: a copy -/
theorem pxo_listOwn {X : Cx} {T : Kt} {W : WX} {env : Env'} {y : Str} {py p pos : Pos} {ds : List D} (i : Nat) (hk : X.K = T.K) (hg : Gl X "list") (hm : X.mg "list" = none) (hi : env[i]? = some (some (.own ds))) (hv : PE X (.Name y py) (tVar i))
    (he : starEach [.Name y py] X.env = (false, eval (.Name y py) X.env) :: starEach [] X.env := by rfl) (hpl : (backTo pos (starEach [] X.env)).any (·.1) = false := by rfl) :
    PXO X T W (.Call (.Name "list" p) [.Name y py] [] pos) env (.ok ds) := by
  refine ⟨_, pe_callTy call_list_of hg hm (by decide +kernel) (pa_cons hv pa_nil he) (by decide) (by decide) he hpl, fun H0 σ H G M Q h => ?_⟩
  obtain ⟨a, vs, s1, h1, h2, h3, r⟩ := M.own hi
  have q : PO T G H Q ds := h
  refine ⟨_, s1, ?_⟩
  exact ⟨_, _, rfl, .inl (SqL.of h1), fun p np => q p _ _ G (Fr.newH M.gh np) np upd_same (M.gh.free np) r⟩
/-- str(i) -/
def strD : List D → Option D
  | [.int i] => if i.natAbs.log2 < 1920 then some (.str (toString i)) else none
  | _ => none
theorem cd_strI {T : Kt} : CallD T (fun xs H Q => ∃ i, xs = [.int i] ∧ i.natAbs.log2 < 1920 ∧ Q (.str (toString i)) H) strD := by
  intro vs ds G H Q s r z hz q
  unfold strD at hz
  split at hz
  · split at hz
    · rename_i hl
      cases hz
      obtain ⟨x, rfl, rr⟩ := reps1 r
      cases rr
      exact ⟨_, rfl, hl, q _ _ _ (Fr.refl s) (.str _)⟩
    · cases hz
  · cases hz
end Px

namespace Px
open PySem PySem.Spec PyProof.Rows L2
/-! ### dicts -/
def keyD : D → Option L2.Key
  | .int i => some (.inl i)
  | .str s => some (.inr s)
  | _ => none
@[simp] theorem keyD_int (i : Int) : keyD (.int i) = some (.inl i) := id rfl
@[simp] theorem keyD_str (s : Str) : keyD (.str s) = some (.inr s) := id rfl
theorem keyD_rep {T : Kt} {G : Hp} {v : V} {d : D} {k : L2.Key} (r : Rep T G v d) (h : keyD d = some k) : v = kV k := by
  cases r <;> simp [keyD] at h <;> subst h <;> rfl
def dgetL : List L2.Key → List D → L2.Key → Option D
  | k' :: ks, d :: ds, k => if k' = k then some d else dgetL ks ds k
  | _, _, _ => none
theorem dget_val {T : Kt} {G : Hp} : ∀ {ks : List L2.Key} {vs : List V} {ds : List D} {k : L2.Key}, Reps T G vs ds → match dgetL ks ds k with
    | some d => ∃ v, valV (ks.zip vs) k = some v ∧ Rep T G v d
    | none => valV (ks.zip vs) k = none
  | [], _, _, _, _ => by simp [dgetL, valV]
  | _ :: _, _, _, _, .nil => by simp [dgetL, valV]
  | k' :: ks, _, _, k, .cons (v := v) (vs := vs) (d := d) (ds := ds) a r => by
    unfold dgetL
    by_cases e : k' = k
    · rw [if_pos e]
      exact ⟨v, by rw [List.zip_cons_cons]; exact valV_pos e, a⟩
    · rw [if_neg e, List.zip_cons_cons]
      have ih := dget_val (ks := ks) (k := k) r
      have e2 : valV ((k', v) :: ks.zip vs) k = valV (ks.zip vs) k := valV_neg e
      rw [e2]
      exact ih
def hasK (ks : List L2.Key) (k : L2.Key) : Bool := ks.any fun k' => decide (k' = k)
def dputK (ks : List L2.Key) (k : L2.Key) : List L2.Key := if hasK ks k then ks else ks ++ [k]
def dputV {α : Type} (ks : List L2.Key) (ds : List α) (k : L2.Key) (d : α) : List α := if hasK ks k then List.zipWith (fun k' x => if k' = k then d else x) ks ds else ds ++ [d]
theorem putK_zip (k : L2.Key) (v : V) {ks : List L2.Key} {vs : List V} (hl : ks.length = vs.length) : putK (ks.zip vs) k v = (dputK ks k).zip (dputV ks vs k v) := by
  have h1 : ∀ (ks : List L2.Key) (vs : List V), ks.length = vs.length → ((ks.zip vs).any fun kv => decide (kv.1 = k)) = hasK ks k := by
    intro ks
    induction ks with
    | nil => intro vs _; rfl
    | cons a ks ih =>
      intro vs h
      cases vs with
      | nil => cases h
      | cons b vs => rw [List.zip_cons_cons, List.any_cons, ih vs (by simpa using h)]; rfl
  have h2 : ∀ (ks : List L2.Key) (vs : List V), (ks.zip vs).map (fun kv => if kv.1 = k then (kv.1, v) else kv) = ks.zip (List.zipWith (fun k' x => if k' = k then v else x) ks vs) := by
    intro ks
    induction ks with
    | nil => intro vs; rfl
    | cons a ks ih =>
      intro vs
      cases vs with
      | nil => rfl
      | cons b vs =>
        rw [List.zip_cons_cons, List.map_cons, ih, List.zipWith_cons_cons, List.zip_cons_cons]
        congr 1
        by_cases e : a = k
        · simp [e]
        · simp [e]
  unfold putK dputK dputV
  rw [h1 ks vs hl]
  cases hasK ks k with
  | true => rw [if_pos rfl, if_pos rfl, if_pos rfl]; exact h2 ks vs
  | false =>
    rw [if_neg (by decide), if_neg (by decide), if_neg (by decide)]
    rw [List.zip_append hl]
    rfl
theorem reps_put {T : Kt} {G : Hp} {v : V} {d : D} (a : Rep T G v d) (k : L2.Key) (ks : List L2.Key) {vs : List V} {ds : List D} (r : Reps T G vs ds) : Reps T G (dputV ks vs k v) (dputV ks ds k d) := by
  have go : ∀ (ks : List L2.Key) {vs : List V} {ds : List D}, Reps T G vs ds → Reps T G (List.zipWith (fun k' x => if k' = k then v else x) ks vs) (List.zipWith (fun k' x => if k' = k then d else x) ks ds) := by
    intro ks
    induction ks with
    | nil => intro vs ds r; exact .nil
    | cons b ks ih =>
      intro vs ds r
      cases r with
      | nil => exact .nil
      | cons c r =>
        rw [List.zipWith_cons_cons, List.zipWith_cons_cons]
        refine .cons ?_ (ih r)
        by_cases e : b = k
        · rw [if_pos e, if_pos e]; exact a
        · rw [if_neg e, if_neg e]; exact c
  unfold dputV
  cases hasK ks k with
  | true => rw [if_pos rfl, if_pos rfl]; exact go ks r
  | false => rw [if_neg (by decide), if_neg (by decide)]; exact r.append (.cons a .nil)
theorem dput_len {α : Type} (ks : List L2.Key) (ds : List α) (k : L2.Key) (d : α) (h : ks.length = ds.length) : (dputK ks k).length = (dputV ks ds k d).length := by
  unfold dputK dputV
  cases hasK ks k with
  | true => rw [if_pos rfl, if_pos rfl, List.length_zipWith, h, Nat.min_self]
  | false => rw [if_neg (by decide), if_neg (by decide), List.length_append, List.length_append, h]; rfl

abbrev DP := List L2.Key × List D
def PD (T : Kt) (G H : Hp) (Q : VK) : DP → Prop := fun p => ∀ a vs H' G', Fr G H G' H' → H a = none → H' a = some (.dK (p.1.zip vs)) → G' a = none → Reps T G' vs p.2 → p.1.length = p.2.length → Q (.ref a) H'
def SD (T : Kt) (W : WX) (te : TE) (env : Env') (m : Res DP) : Prop := ∀ H0 σ H G, Mat T H0 σ H G env → ∀ Q : VK, m.sat (PD T G H Q) (EX T (WE W σ) G H) → te σ H Q
structure PXD (X : Cx) (T : Kt) (W : WX) (e : Expr) (env : Env') (m : Res DP) : Prop where
  ex : ∃ t, PE X e t ∧ SD T W t env m
def dicV (m : Res DP) : Res D := m.bind fun p => .ok (.dic p.1 p.2)
@[simp] theorem dicV_ok (p : DP) : dicV (.ok p) = .ok (.dic p.1 p.2) := id rfl
def ixDo (p : DP) (mq : Res D) : Res D := mq.bind fun j => match keyD j with
  | some k => .ofO (dgetL p.1 p.2 k)
  | none => .bad
@[simp] theorem ixDo_int (p : DP) (i : Int) : ixDo p (.ok (.int i)) = .ofO (dgetL p.1 p.2 (.inl i)) := id rfl
@[simp] theorem ixDo_str (p : DP) (i : Str) : ixDo p (.ok (.str i)) = .ofO (dgetL p.1 p.2 (.inr i)) := id rfl
def setDR {O : Type} (p : DP) (me mq : Res D) (k : DP → Res O) : Res O := me.bind fun d => mq.bind fun j => match keyD j with
  | some z => if p.1.length < sizeLine then k (dputK p.1 z, dputV p.1 p.2 z d) else .bad
  | none => .bad
@[simp] theorem setDR_str {O : Type} (p : DP) (d : D) (s : Str) (k : DP → Res O) : setDR p (.ok d) (.ok (.str s)) k = if p.1.length < sizeLine then k (dputK p.1 (.inr s), dputV p.1 p.2 (.inr s) d) else .bad := id rfl
@[simp] theorem setDR_int {O : Type} (p : DP) (d : D) (s : Int) (k : DP → Res O) : setDR p (.ok d) (.ok (.int s)) k = if p.1.length < sizeLine then k (dputK p.1 (.inl s), dputV p.1 p.2 (.inl s) d) else .bad := id rfl
/-- a[k], a a frozen dict or a row -/
def ixA (ma mb : Res D) : Res D := ma.bind fun a => mb.bind fun b => match a with
  | .dic ks ds => (match keyD b with
    | some k => .ofO (dgetL ks ds k)
    | none => .bad)
  | _ => .ofO (ixD a b)
@[simp] theorem ixA_dic (ks : List L2.Key) (ds : List D) (s : Str) : ixA (.ok (.dic ks ds)) (.ok (.str s)) = .ofO (dgetL ks ds (.inr s)) := id rfl
def dixR (ma mb : Res D) : Res D := ma.bind fun a => mb.bind fun b => match a with
  | .dic ks ds => (match keyD b with
    | some k => .ofO (dgetL ks ds k)
    | none => .bad)
  | _ => .bad
section
variable {X : Cx} {T : Kt} {W : WX} {k : Nat} {x : Xk} {env : Env'} {a b c e o : Expr} {es : List Expr} {st : Stmt} {rest : List Stmt} {ma mb mc me : Res D} {pos : Pos} {O L S : Type} {m : Res O} {ι : O → Fl L S} {el : L → Env'} {eo : S → Env'}
theorem PXD.px {mo : Res DP} (h : PXD X T W e env mo) : PX X T W e env (dicV mo) := by
  obtain ⟨t, p, s⟩ := h.ex
  refine ⟨_, p, fun H0 σ H G M Q h => ?_⟩
  refine s H0 σ H G M _ ((Res.sat_bind h).mono (fun l hl a vs H' G' f h1 h2 h3 r hlen => ?_) fun _ _ z => z)
  exact hl (.ref a) H' (upd G' a (.dK (l.1.zip vs))) (f.frz h2 h3 h1) (.dic upd_same hlen (r.mono (same_upd h3)))
theorem pxd_empty : PXD X T W (.Dict [] [] pos) env (.ok ([], [])) := ⟨_, pe_dnewK, fun H0 σ H G M Q h p np => h p [] _ G (Fr.newH M.gh np) np upd_same (M.gh.free np) .nil rfl⟩
/-- x = e, a new dict that x alone holds -/
theorem pb_asgD (i : Nat) {y : Str} {pos' : Pos} {mo : Res DP} {k : DP → Res O} (hN : X.N.Nodup) (hi : X.N[i]? = some y) (hx : Loc X.env.scope y) (he : PXD X T W e env mo) (hs : swapsWith e (some (.Name y pos')) pos.line X.env = pure false)
    (hf : X.fn y = true ∨ X.env.scope.names.lookup y = some .local) (hr : ∀ d, PBX X T W x rest (env.set i (some (.dio d.1 d.2))) (k d) ι el eo) :
    PBX X T W x (.Assign [.Name y pos'] e pos :: rest) env (mo.bind k) ι el eo := by
  obtain ⟨te, pe, se⟩ := he.ex
  obtain ⟨u, pu, su⟩ := PBX.all hr
  refine ⟨_, pss_cons (ps_set hN hi hx pe hs hf) pu, fun G0 H0 σ H G F M Dn nx hx h => ?_⟩
  refine se H0 σ H G M _ ((sat_ex F (Res.sat_bind h)).mono (fun d hd a vs H1 G1 f1 h1 h2 h3 r1 hlen => ?_) fun _ _ z => z)
  exact su d G0 H0 _ H1 G1 (F.trans f1) ((M.fr f1).setd i h2 h3 (F.h.free h1) r1 hlen (M.fresh h1)) Dn nx hx hd
/-- x[i] = e, x a dict of one's own -/
theorem pb_dput (i : Nat) {p : DP} {q o : Expr} {mq : Res D} {k : DP → Res O} {pos' : Pos} (hu : X.A.units + 1 < cLine) (hi : env[i]? = some (some (.dio p.1 p.2))) (ho : PE X o (tVar i)) (he : PX X T W e env me) (hq : PX X T W q env mq)
    (hs : swapsWith e (some (.Subscript o q pos')) pos.line X.env = pure false) (hr : ∀ d, PBX X T W x rest (env.set i (some (.dio d.1 d.2))) (k d) ι el eo) :
    PBX X T W x (.Assign [.Subscript o q pos'] e pos :: rest) env (setDR p me mq k) ι el eo := by
  obtain ⟨te, pe, se⟩ := he.ex
  obtain ⟨tq, pq, sq⟩ := hq.ex
  obtain ⟨u, pu, su⟩ := PBX.all hr
  refine ⟨_, pss_cons (ps_dput hu ho pq pe hs) pu, fun G0 H0 σ H G F M Dn nx hx h => ?_⟩
  refine se H0 σ H G M _ ((sat_ex F (Res.sat_bind h)).mono (fun d hd v1 H1 G1 f1 r1 => ?_) fun _ _ z => z)
  have M1 := M.fr f1
  obtain ⟨a, vs, s1, h1, h2, h3, r, hl⟩ := M1.dio hi
  refine ⟨_, s1, ?_⟩
  refine sq H0 σ H1 G1 M1 _ ((sat_ex (F.trans f1) (Res.sat_bind hd)).mono (fun j hj v2 H2 G2 f2 r2 => ?_) fun _ _ z => z)
  have M2 := M1.fr f2
  obtain ⟨a', vs', s1', h1', h2', h3', r', hl'⟩ := M2.dio hi
  rw [s1] at s1'
  cases s1'
  cases hz : keyD j with
  | none => simp only [hz] at hj; exact hj.elim
  | some z =>
    simp only [hz] at hj
    have ez := keyD_rep r2 hz
    subst ez
    by_cases hlt : p.1.length < sizeLine
    · rw [if_pos hlt] at hj
      have hvl : p.1.length = vs'.length := by rw [r'.length]; exact hl'
      have hzl : (p.1.zip vs').length = p.1.length := by rw [List.length_zip, hvl, Nat.min_self]
      refine ⟨a, _, rfl, DPut.k h1' (by rw [hzl]; exact hlt), ?_⟩
      rw [putK_zip z v1 hvl]
      exact su (dputK p.1 z, dputV p.1 p.2 z d) G0 H0 _ _ G2 (((F.trans f1).trans f2).updo h2' h3') (M2.updd hi s1 h2' h3' (reps_put (r1.mono f2.g) z p.1 r') (dput_len p.1 p.2 z d hl')) Dn nx hx hj
    · rw [if_neg hlt] at hj; exact hj.elim
/-- from here on the dict stands fast -/
theorem pb_frzd (i : Nat) {p : DP} {sts : List Stmt} (hi : env[i]? = some (some (.dio p.1 p.2))) (h : PBX X T W x sts (env.set i (some (.val (.dic p.1 p.2)))) m ι el eo) : PBX X T W x sts env m ι el eo := by
  obtain ⟨u, pu, su⟩ := h.ex
  refine ⟨u, pu, fun G0 H0 σ H G F M Dn nx hx h => ?_⟩
  obtain ⟨a, vs, s1, h1, h2, h3, r, hl⟩ := M.dio hi
  exact su G0 H0 σ H _ (F.frz h1 h2 h3) (M.frzd hi s1 h1 h2 r hl) Dn nx hx h
/-- x[e], x a dict of one's own -/
theorem px_ixdo (i : Nat) {p : DP} {q : Expr} {mq : Res D} (hu : X.A.units + 1 < cLine) (hi : env[i]? = some (some (.dio p.1 p.2))) (ho : PE X o (tVar i)) (hq : PX X T W q env mq) (hs : NoSl q) : PX X T W (.Subscript o q pos) env (ixDo p mq) := by
  obtain ⟨tq, pq, sq⟩ := hq.ex
  refine ⟨_, pe_dget hu ho pq hs, fun H0 σ H G M Q h => ?_⟩
  obtain ⟨a, vs, s1, h1, h2, h3, r, hl⟩ := M.dio hi
  refine ⟨_, s1, ?_⟩
  refine sq H0 σ H G M _ ((Res.sat_bind h).mono (fun j hj v2 H2 G2 f2 r2 => ?_) fun _ _ z => z)
  obtain ⟨a', vs', s1', h1', h2', h3', r', hl'⟩ := (M.fr f2).dio hi
  rw [s1] at s1'
  cases s1'
  cases hz : keyD j with
  | none => simp only [hz] at hj; exact hj.elim
  | some z =>
    simp only [hz] at hj
    have ez := keyD_rep r2 hz
    subst ez
    have g := dget_val (ks := p.1) (k := z) r'
    cases hg : dgetL p.1 p.2 z with
    | none => rw [hg] at hj; exact hj.elim
    | some d =>
      rw [hg] at g hj
      obtain ⟨v, y1, y2⟩ := g
      exact ⟨a, v, rfl, by rw [← y1]; exact DGet.k h1', PQ.fr f2 hj v H2 G2 (Fr.refl f2.s) y2⟩
/-- a[k], a a dict that stands fast -/
theorem px_dix (hu : X.A.units + 1 < cLine) (ha : PX X T W a env ma) (hb : PX X T W b env mb) (hs : NoSl b) : PX X T W (.Subscript a b pos) env (dixR ma mb) := by
  obtain ⟨ta, pa, sa⟩ := ha.ex
  obtain ⟨tb, pb, sb⟩ := hb.ex
  refine ⟨_, pe_dget hu pa pb hs, fun H0 σ H G M Q h => ?_⟩
  refine sa H0 σ H G M _ ((Res.sat_bind h).mono (fun x hx v1 H1 G1 f1 r1 => ?_) fun _ _ z => z)
  refine sb H0 σ H1 G1 (M.fr f1) _ ((Res.sat_bind hx).mono (fun y hy v2 H2 G2 f2 r2 => ?_) fun _ _ z => z.fr f1)
  have r1' := r1.mono f2.g
  cases r1' <;> try exact hy.elim
  rename_i aa ks vs ds h1 h2 r
  cases hz : keyD y with
  | none => simp only [hz] at hy; exact hy.elim
  | some z =>
    simp only [hz] at hy
    have ez := keyD_rep r2 hz
    subst ez
    have g := dget_val (ks := ks) (k := z) r
    cases hg : dgetL ks ds z with
    | none => rw [hg] at hy; exact hy.elim
    | some d =>
      rw [hg] at g hy
      obtain ⟨v, y1, y2⟩ := g
      exact ⟨aa, v, rfl, by rw [← y1]; exact DGet.k (f2.s _ _ h1), (PQ.fr f1 hy).fr f2 v H2 G2 (Fr.refl f2.s) y2⟩
theorem px_ixA (hk : X.K = T.K) (hu : X.A.units + 1 < cLine) (ha : PX X T W a env ma) (hb : PX X T W b env mb) (hs : NoSl b) : PX X T W (.Subscript a b pos) env (ixA ma mb) := by
  refine (px_ix ix_seq (by rw [hk]; exact od_ix) ha hb hs).or (px_dix hu ha hb hs) ?_
  cases ma with
  | ok d => cases d <;> first | exact .inr rfl | exact .inl rfl
  | err c vs => exact .inl rfl
  | bad => exact .inl rfl
end
/-! in -/
def dicIn (neg : Bool) (d e : D) : Option D := match e with
  | .dic ks ds => (keyD d).map fun k => .bl (if neg then !(dgetL ks ds k).isSome else (dgetL ks ds k).isSome)
  | _ => none
def inT (neg : Bool) (d e : D) : Option D := match toP d, toP e with
  | some p, some (.tuple qs) => if SeqAt.shaped p && SeqAt.shaped (.tuple qs) then some (.bl (if neg then !(qs.any fun z => PyData.eqv z p) else qs.any fun z => PyData.eqv z p)) else none
  | _, _ => none
def rInT (K : PySem.W.Frag) (neg : Bool) : R2 := fun x y H Q => ∃ d ds, Dp K H x d ∧ Dp K H y (.tuple ds) ∧ SeqAt.shaped d = true ∧ SeqAt.shaped (.tuple ds) = true ∧ Q (.bl (if neg then !(ds.any fun z => PyData.eqv z d) else ds.any fun z => PyData.eqv z d)) H
theorem op_inT {X : Cx} (hu : X.A.units + 65 < cLine) : OpR X (compareOp .In) (rInT X.K false) := by
  intro pins s σ H x y v u Q I rx ry h
  obtain ⟨d, ds, hd, he, sd, se, q⟩ := h
  obtain ⟨as, r1⟩ := Dp.reads I d x v hd rx
  obtain ⟨bs, r2⟩ := Dp.reads I (.tuple ds) y u he ry
  exact SeqAt.in_tuple_reads r2 r1 (SeqAt.canLay_of_shaped se) (SeqAt.canLay_of_shaped sd) (room_in_shaped sd hu) ⟨.bl _, H, I, rfl, q⟩
theorem op_notInT {X : Cx} (hu : X.A.units + 65 < cLine) : OpR X (compareOp .NotIn) (rInT X.K true) := by
  intro pins s σ H x y v u Q I rx ry h
  obtain ⟨d, ds, hd, he, sd, se, q⟩ := h
  obtain ⟨as, r1⟩ := Dp.reads I d x v hd rx
  obtain ⟨bs, r2⟩ := Dp.reads I (.tuple ds) y u he ry
  exact SeqAt.notIn_tuple_reads r2 r1 (SeqAt.canLay_of_shaped se) (SeqAt.canLay_of_shaped sd) (room_in_shaped sd hu) ⟨.bl _, H, I, rfl, q⟩
theorem od_inT {T : Kt} (neg : Bool) : OpD T (rInT T.K neg) (inT neg) := by
  intro x y d e G H Q s rx ry z hz q
  unfold inT at hz
  split at hz
  · rename_i p qs h1 h2
    split at hz
    · rename_i hs
      rw [Bool.and_eq_true] at hs
      cases hz
      exact ⟨p, qs, dp_mono s (rep_dp rx h1), dp_mono s (rep_dp ry h2), hs.1, hs.2, q _ _ _ (Fr.refl s) (.bl _)⟩
    · cases hz
  · cases hz
def inD2 (d e : D) : Option D := (inD d e).orElse fun _ => (dicIn false d e).orElse fun _ => inT false d e
def notInD2 (d e : D) : Option D := (notInD d e).orElse fun _ => (dicIn true d e).orElse fun _ => inT true d e
def rDIn (neg : Bool) : R2 := fun x y H Q => ∃ a o, y = .ref a ∧ DGet H a x o ∧ Q (.bl (if neg then !o.isSome else o.isSome)) H
theorem op_dIn {X : Cx} (hu : X.A.units + 65 < cLine) : OpR X (compareOp .In) (rDIn false) := by
  intro pins s σ H x y v u Q I rx ry h
  obtain ⟨a, o, rfl, g, q⟩ := h
  cases ry
  exact d_in (by omega) I g rx fun s' I' => ⟨.bl o.isSome, H, I', rfl, q⟩
theorem op_dNotIn {X : Cx} (hu : X.A.units + 65 < cLine) : OpR X (compareOp .NotIn) (rDIn true) := by
  intro pins s σ H x y v u Q I rx ry h
  obtain ⟨a, o, rfl, g, q⟩ := h
  cases ry
  exact d_notIn (by omega) I g rx fun s' I' => ⟨.bl (!o.isSome), H, I', rfl, q⟩
theorem od_dIn {T : Kt} (neg : Bool) : OpD T (rDIn neg) (dicIn neg) := by
  intro x y d e G H Q s rx ry z hz q
  unfold dicIn at hz
  split at hz
  · rename_i ks ds
    cases hk : keyD d with
    | none => rw [hk] at hz; cases hz
    | some k =>
      rw [hk] at hz
      cases hz
      cases ry with
      | dic h1 h2 r =>
        have ez := keyD_rep rx hk
        subst ez
        rename_i a vs
        have g := dget_val (ks := ks) (k := k) r
        have e1 : (valV (ks.zip vs) k).isSome = (dgetL ks ds k).isSome := by
          cases hg : dgetL ks ds k with
          | none => rw [hg] at g; simp only at g; rw [g]; rfl
          | some d => rw [hg] at g; obtain ⟨v, y1, y2⟩ := g; rw [y1]; rfl
        refine ⟨a, valV (ks.zip vs) k, rfl, DGet.k (s _ _ h1), q _ _ _ (Fr.refl s) ?_⟩
        rw [e1]
        exact .bl _
  · cases hz
def rInAll2 (K : PySem.W.Frag) : R2 := fun x y H Q => rInAll K x y H Q ∨ (rDIn false x y H Q ∨ rInT K false x y H Q)
def rNotInAll2 (K : PySem.W.Frag) : R2 := fun x y H Q => rNotInAll K x y H Q ∨ (rDIn true x y H Q ∨ rInT K true x y H Q)
theorem op_inAll2 {X : Cx} (hu : X.A.units + 65 < cLine) : OpR X (compareOp .In) (rInAll2 X.K) := OpR.or (op_inAll hu) (OpR.or (op_dIn hu) (op_inT hu))
theorem op_notInAll2 {X : Cx} (hu : X.A.units + 65 < cLine) : OpR X (compareOp .NotIn) (rNotInAll2 X.K) := OpR.or (op_notInAll hu) (OpR.or (op_dNotIn hu) (op_notInT hu))
theorem od_in2 {T : Kt} : OpD T (rInAll2 T.K) inD2 := OpD.or od_in (OpD.or (od_dIn false) (od_inT false))
theorem od_notIn2 {T : Kt} : OpD T (rNotInAll2 T.K) notInD2 := OpD.or od_notIn (OpD.or (od_dIn true) (od_inT true))
/-! a borrowed thing that does not come out again -/
mutual
def noDic : D → Bool
  | .lst l => noDics l
  | .scr l => noDics l
  | .tup l => noDics l
  | .obj _ l => noDics l
  | .dic _ _ => false
  | _ => true
def noDics : List D → Bool
  | [] => true
  | d :: r => noDic d && noDics r
end
mutual
def noLst : D → Bool
  | .lst _ => false
  | .scr _ => false
  | .tup l => noLsts l
  | .obj _ l => noLsts l
  | .dic _ l => noLsts l
  | _ => true
def noLsts : List D → Bool
  | [] => true
  | d :: r => noLst d && noLsts r
end
section
variable {T : Kt} {G G' : Hp} {a : Addr}
theorem sqL_wo {K : PySem.W.Frag} {b : Addr} {xs : List V} (h : SqL K G b xs) (hn : ∀ o, G b = some o → wo G a b = some o) : SqL K (wo G a) b xs := by
  rcases h with (h | ⟨o, h⟩) | h
  · exact .inl (.inl (hn _ h))
  · exact .inl (.inr ⟨o, hn _ h⟩)
  · exact .inr h
theorem sqT_wo {K : PySem.W.Frag} {b : Addr} {xs : List V} (h : SqT K G b xs) (hn : ∀ o, G b = some o → wo G a b = some o) : SqT K (wo G a) b xs := by
  rcases h with (h | ⟨o, h⟩) | h
  · exact .inl (.inl (hn _ h))
  · exact .inl (.inr ⟨o, hn _ h⟩)
  · exact .inr h
theorem wo_of {b : Addr} {o : HO} (h : G b = some o) (n : b ≠ a) : wo G a b = some o := by rw [wo_ne n]; exact h
mutual
theorem rep_noDic {kvs : List (L2.Key × V)} (ha : G a = some (.dK kvs)) : ∀ {v : V} {d : D}, Rep T G v d → noDic d = true → Rep T (wo G a) v d
  | _, _, .non, _ => .non
  | _, _, .bl b, _ => .bl b
  | _, _, .int b, _ => .int b
  | _, _, .str b, _ => .str b
  | _, _, .lst h r, z => .lst (wo_of h (ne_of h ha (by simp))) (reps_noDic ha r (by simpa [noDic] using z))
  | _, _, .scr h r, z => by
    refine .scr ?_ (reps_noDic ha r (by simpa [noDic] using z))
    rcases h with (h | ⟨o, h⟩) | h
    · exact .inl (.inl (wo_of h (ne_of h ha (by simp))))
    · exact .inl (.inr ⟨o, wo_of h (ne_of h ha (by simp))⟩)
    · exact .inr h
  | _, _, .tup h r, z => by
    refine .tup ?_ (reps_noDic ha r (by simpa [noDic] using z))
    rcases h with (h | ⟨o, h⟩) | h
    · exact .inl (.inl (wo_of h (ne_of h ha (by simp))))
    · exact .inl (.inr ⟨o, wo_of h (ne_of h ha (by simp))⟩)
    · exact .inr h
  | _, _, .obj h1 h h2 h3 r, z => .obj h1 (wo_of h (ne_of h ha (by simp))) h2 h3 (reps_noDic ha r (by simpa [noDic] using z))
  | _, _, .dic _ _ _, z => by simp [noDic] at z
theorem reps_noDic {kvs : List (L2.Key × V)} (ha : G a = some (.dK kvs)) : ∀ {vs : List V} {ds : List D}, Reps T G vs ds → noDics ds = true → Reps T (wo G a) vs ds
  | _, _, .nil, _ => .nil
  | _, _, .cons p r, z => by
    simp only [noDics, Bool.and_eq_true] at z
    exact .cons (rep_noDic ha p z.1) (reps_noDic ha r z.2)
end
mutual
theorem rep_noLst {xs : List V} (ha : G a = some (.lst xs)) : ∀ {v : V} {d : D}, Rep T G v d → noLst d = true → Rep T (wo G a) v d
  | _, _, .non, _ => .non
  | _, _, .bl b, _ => .bl b
  | _, _, .int b, _ => .int b
  | _, _, .str b, _ => .str b
  | _, _, .lst h r, z => by simp [noLst] at z
  | _, _, .scr h r, z => by simp [noLst] at z
  | _, _, .tup h r, z => by
    refine .tup ?_ (reps_noLst ha r (by simpa [noLst] using z))
    rcases h with (h | ⟨o, h⟩) | h
    · exact .inl (.inl (wo_of h (ne_of h ha (by simp))))
    · exact .inl (.inr ⟨o, wo_of h (ne_of h ha (by simp))⟩)
    · exact .inr h
  | _, _, .obj h1 h h2 h3 r, z => .obj h1 (wo_of h (ne_of h ha (by simp))) h2 h3 (reps_noLst ha r (by simpa [noLst] using z))
  | _, _, .dic h h2 r, z => .dic (wo_of h (ne_of h ha (by simp))) h2 (reps_noLst ha r (by simpa [noLst] using z))
theorem reps_noLst {xs : List V} (ha : G a = some (.lst xs)) : ∀ {vs : List V} {ds : List D}, Reps T G vs ds → noLsts ds = true → Reps T (wo G a) vs ds
  | _, _, .nil, _ => .nil
  | _, _, .cons p r, z => by
    simp only [noLsts, Bool.and_eq_true] at z
    exact .cons (rep_noLst ha p z.1) (reps_noLst ha r z.2)
end
end
def thinD (m : Res D) : Res D := m.bind fun d => if noDic d then .ok d else .bad
def thinL (m : Res D) : Res D := m.bind fun d => if noLst d then .ok d else .bad
section
variable {X : Cx} {T : Kt} {W : WX} {env : Env'} {e : Expr} {me : Res D} {mt : Res Bool}
theorem px_bord (i : Nat) {p : DP} (hi : env[i]? = some (some (.dio p.1 p.2))) (h : PX X T W e (env.set i (some (.val (.dic p.1 p.2)))) me) : PX X T W e env (thinD (noErr me)) := by
  obtain ⟨t, pp, s⟩ := h.ex
  refine ⟨t, pp, fun H0 σ H G M Q h => ?_⟩
  obtain ⟨a, vs, s1, h1, h2, h3, r, hl⟩ := M.dio hi
  refine s H0 σ H _ (M.frzd hi s1 h1 h2 r hl) _ (noErr_sat ((Res.sat_bind h).mono (fun d hd v H' G' f r' => ?_) (E' := fun _ _ => True) fun _ _ _ => trivial))
  by_cases hs : noDic d = true
  · rw [if_pos hs] at hd
    exact hd v H' _ (Fr.borrow h2 f) (rep_noDic (f.g _ _ upd_same) r' hs)
  · rw [if_neg hs] at hd; exact hd.elim
theorem ptx_bord (i : Nat) {p : DP} (hi : env[i]? = some (some (.dio p.1 p.2))) (h : PTX X T W e (env.set i (some (.val (.dic p.1 p.2)))) mt) : PTX X T W e env (noErr mt) := by
  obtain ⟨t, pp, s⟩ := h.ex
  refine ⟨t, pp, fun H0 σ H G M Q h => ?_⟩
  obtain ⟨a, vs, s1, h1, h2, h3, r, hl⟩ := M.dio hi
  exact s H0 σ H _ (M.frzd hi s1 h1 h2 r hl) _ (noErr_sat (h.mono (fun d hd H' G' f => hd H' _ (Fr.borrow h2 f)) (E' := fun _ _ => True) fun _ _ _ => trivial))
theorem px_borl (i : Nat) {ds : List D} (hi : env[i]? = some (some (.own ds))) (h : PX X T W e (env.set i (some (.val (.lst ds)))) me) : PX X T W e env (thinL (noErr me)) := by
  obtain ⟨t, pp, s⟩ := h.ex
  refine ⟨t, pp, fun H0 σ H G M Q h => ?_⟩
  obtain ⟨a, vs, s1, h1, h2, h3, r⟩ := M.own hi
  refine s H0 σ H _ (M.frz hi s1 h1 h2 r) _ (noErr_sat ((Res.sat_bind h).mono (fun d hd v H' G' f r' => ?_) (E' := fun _ _ => True) fun _ _ _ => trivial))
  by_cases hs : noLst d = true
  · rw [if_pos hs] at hd
    exact hd v H' _ (Fr.borrow h2 f) (rep_noLst (f.g _ _ upd_same) r' hs)
  · rw [if_neg hs] at hd; exact hd.elim
end
end Px

namespace PySem.Px2
open PySem PySem.Calls PyProof.Rows Srt
section
variable {prog : Program} {w : World} {A : Around} {E : Value → Shared → Prop} {s : Shared}
theorem collect_tuple {l : Addr} {vs : List Value} {Q : List Value → Shared → Prop} (hl : IsTup s.heap l vs.toArray)
    (h : Q vs { s with heap := (s.heap.push (seqObj "list" #[] 0)).update s.heap.objs.size (Obj.mapSeq (· ++ vs.toArray)) }) (hsz : vs.length ≤ sizeLine) :
    wpAny (model prog w) A (collect (.ref l)) Q E s := by
  obtain ⟨o, ho, hc, n, hd⟩ := id hl
  unfold collect
  refine wpAny_bind (wpAny_runValue (codeAny_builtin entry_proto_collect' ?_))
  show wpAny _ _ (do again (.builtin "list.__iadd__" ⟨[← newList [], .ref l], []⟩)) _ _ s
  refine wpAny_bind (wpAny_newList (wpAny_pure ⟨Code.quiet_builtin _ (by decide +kernel), codeAny_builtin entry_list_iadd' ?_⟩))
  show wpAny _ _ (Builtin.List.listExtendWith (.ref s.heap.objs.size) (.ref l) (.ref s.heap.objs.size)) _ _ { s with heap := s.heap.push (seqObj "list" #[] 0) }
  unfold Builtin.List.listExtendWith
  have ho' : (s.heap.push (seqObj "list" #[] 0)).get? l = some o := Heap.get?_push_of_some _ ho
  refine wpAny_bind (wpAny_typeOf (T := "tuple") ⟨o, ho', hc⟩ ?_)
  have ht : (Value.type "tuple" == Value.type "tuple") = true := by rfl
  rw [if_pos (by rw [ht]; simp)]
  refine wpAny_bind (listItems_at ho' hd ?_)
  refine wpAny_bind (listItems_at (xs := #[]) (n := 0) (Heap.get?_push_size _ rfl) rfl ?_)
  rw [if_neg (by simp)]
  refine wpAny_bind (listUpdate_at (xs := #[]) (n := 0) (Heap.get?_push_size _ rfl) rfl ?_ (Nat.zero_le _) (by show (#[] ++ vs.toArray).size ≤ sizeLine + 1; simp only [Array.size_append, List.size_toArray, List.length_nil]; omega))
  refine wpAny_pure ?_
  show wpAny (model prog w) A (do
      let o ← load s.heap.objs.size
      match o.data with
      | .seq xs _ => pure xs.toList
      | _ => unsupported "internal:collect") Q E { s with heap := (s.heap.push (seqObj "list" #[] 0)).update s.heap.objs.size (Obj.mapSeq (· ++ vs.toArray)) }
  refine wpAny_bind (wpAny_load (get?_update_seq (Heap.get?_push_size _ rfl) _) ?_)
  show wpAny _ _ (pure ((#[] : Array Value) ++ vs.toArray).toList) Q E _
  rw [show ((#[] : Array Value) ++ vs.toArray).toList = vs by simp]
  exact wpAny_pure h
theorem sorted_ordT {l : Addr} {vs : List Value} {ltv : Value → Value → Bool} {Q : Value → Shared → Prop} (O : SrtO.Swo ltv) (hl : IsTup s.heap l vs.toArray) (hz : vs.length ≤ sizeLine)
    (hS : 2 ≤ vs.length → ∀ (h₁ : Heap) (a : Addr), h₁.get? a = some (seqObj "list" vs.toArray 0) → (∀ b o, s.heap.get? b = some o → b ≠ a ∧ h₁.get? b = some o) → SrtO.SortableO prog w A.in1.in1 { s with heap := h₁ } a vs ltv)
    (h : ∀ out : List Value, SrtO.Srtd ltv out → SrtO.Stb ltv out vs → Q (.ref (s.heap.objs.size + 1)) { s with heap := sortedAll s.heap vs out.toArray }) :
    wpAny (model prog w) A (call (.builtin "sorted") [.ref l]) Q E s := by
  refine Calls.call_function_entry kind_sorted plain_sorted entry_sorted (args_sorted1 _) ?_
  unfold Builtin.«sorted»
  refine wpAny_bind (m := checkCount "sorted" 1 1 _) (wpAny_pure ?_)
  refine wpAny_bind (collect_tuple hl ?_ hz)
  refine wpAny_bind (wpAny_newList ?_ hz)
  have hsz : ((s.heap.push (seqObj "list" #[] 0)).update s.heap.objs.size (Obj.mapSeq (· ++ vs.toArray))).objs.size = s.heap.objs.size + 1 := by
    rw [Heap.size_update, size_push']
  have hoL : (((s.heap.push (seqObj "list" #[] 0)).update s.heap.objs.size (Obj.mapSeq (· ++ vs.toArray))).push (seqObj "list" vs.toArray 0)).get? (s.heap.objs.size + 1) = some (seqObj "list" vs.toArray 0) := by
    rw [← hsz]; exact Heap.get?_push_size _ rfl
  have keep : ∀ b o, s.heap.get? b = some o → b ≠ s.heap.objs.size + 1 ∧ (((s.heap.push (seqObj "list" #[] 0)).update s.heap.objs.size (Obj.mapSeq (· ++ vs.toArray))).push (seqObj "list" vs.toArray 0)).get? b = some o := fun b o q => by
    have hlt : b < s.heap.objs.size := Heap.lt_size q
    refine ⟨Nat.ne_of_lt (Nat.lt_succ_of_lt hlt), Heap.get?_push_of_some _ ?_⟩
    rw [Heap.get?_update_ne _ _ _ _ (Nat.ne_of_lt hlt)]
    exact Heap.get?_push_of_some _ q
  show wpAny _ _ _ _ _ { s with heap := ((s.heap.push (seqObj "list" #[] 0)).update s.heap.objs.size (Obj.mapSeq (· ++ vs.toArray))).push (seqObj "list" vs.toArray 0) }
  rw [hsz]
  refine wpAny_bind (wpAny_holding (wpAny_call_entry slot_list_sort ⟨_, hoL, rfl⟩ entry_list_sort (SrtO.list_sort_ord O hoL hz (fun h2 => hS h2 _ _ hoL keep) fun out hs hb => ⟨_, rfl, ?_⟩) (args_list_sort _)))
  exact wpAny_pure ⟨_, rfl, h out hs hb⟩
end
end PySem.Px2
namespace Px
open PySem PySem.Spec PyProof.Rows L2
/-! ### sorted -/
def leI (a b : Int) : Bool := decide (a ≤ b)
def sortI (l : List Int) : List Int := l.mergeSort leI
theorem sortI_of {a l : List Int} (h1 : a.Perm l) (h2 : a.Pairwise (· ≤ ·)) : a = sortI l :=
  PySem.W.Srt.the_of_perm leI (fun a b c h1 h2 => by have := of_decide_eq_true h1; have := of_decide_eq_true h2; exact decide_eq_true (by omega)) (fun a b => by unfold leI; rcases Int.le_total a b with h | h <;> simp [h])
    (fun x y h1 h2 => by have := of_decide_eq_true h1; have := of_decide_eq_true h2; omega) h1 (h2.imp fun {x y} h => decide_eq_true h)
def leS (a b : Str) : Bool := !ltCps b.cps.toList a.cps.toList
def sortS (l : List Str) : List Str := l.mergeSort leS
theorem leS_iff (a b : Str) : leS a b = true ↔ a.cps.toList ≤ b.cps.toList := by
  unfold leS
  rw [PyProof.Rows.ltCps_eq]
  simp [List.not_lt]
theorem leS_trans (a b c : Str) (h1 : leS a b = true) (h2 : leS b c = true) : leS a c = true := (leS_iff _ _).mpr (List.le_trans ((leS_iff _ _).mp h1) ((leS_iff _ _).mp h2))
theorem leS_total (a b : Str) : (leS a b || leS b a) = true := by
  rcases List.le_total a.cps.toList b.cps.toList with h | h
  · rw [(leS_iff a b).mpr h]; rfl
  · rw [(leS_iff b a).mpr h]; simp
theorem leS_anti (a b : Str) (h1 : leS a b = true) (h2 : leS b a = true) : a = b := by
  have e : a.cps.toList = b.cps.toList := List.le_antisymm ((leS_iff _ _).mp h1) ((leS_iff _ _).mp h2)
  have e2 : a.cps = b.cps := Array.toList_inj.mp e
  cases a; cases b
  simp only at e2
  rw [e2]
theorem sortedS_pw : ∀ {l : List Str}, sortedS l = true → l.Pairwise (fun x y => leS x y = true)
  | [], _ => .nil
  | [x], _ => .cons (by simp) .nil
  | x :: y :: r, h => by
    have h' : leS x y = true ∧ risingS y r = true := Bool.and_eq_true_iff.mp h
    have ih : (y :: r).Pairwise (fun x y => leS x y = true) := sortedS_pw (l := y :: r) h'.2
    refine .cons (fun z hz => ?_) ih
    rcases List.mem_cons.mp hz with rfl | hz
    · exact h'.1
    · exact leS_trans _ _ _ h'.1 ((List.pairwise_cons.mp ih).1 z hz)
theorem sortS_of {a l : List Str} (h1 : a.Perm l) (h2 : sortedS a = true) : a = sortS l := PySem.W.Srt.the_of_perm leS leS_trans leS_total leS_anti h1 (sortedS_pw h2)
def strsK : List L2.Key → Option (List Str)
  | [] => some []
  | .inr s :: r => (strsK r).map (s :: ·)
  | _ => none
theorem strsK_eq : ∀ {ks : List L2.Key} {l : List Str}, strsK ks = some l → ks = l.map Sum.inr
  | [], _, h => by cases h; rfl
  | .inr s :: r, l, h => by
    unfold strsK at h
    cases q : strsK r with
    | none => rw [q] at h; cases h
    | some t => rw [q] at h; cases h; rw [strsK_eq q]; rfl
  | .inl _ :: _, _, h => by cases h
theorem strsK_map (l : List Str) : strsK (l.map Sum.inr) = some l := by
  induction l with
  | nil => rfl
  | cons a r ih => rw [List.map_cons]; unfold strsK; rw [ih]; rfl
theorem toInts_map (l : List Int) : toInts (l.map D.int) = some l := by
  induction l with
  | nil => rfl
  | cons a r ih => rw [List.map_cons]; unfold toInts; rw [ih]
/-- sorted(x): a dict with texts as keys, a row of ints -/
def sortD : List D → Option D
  | [.dic ks _] => (match strsK ks with
    | some l => if l.length < 64 then some (.lst ((sortS l).map .str)) else none
    | none => none)
  | [.lst l] => (toInts l).map fun n => .lst ((sortI n).map .int)
  | [.tup l] => (toInts l).map fun n => .lst ((sortI n).map .int)
  | _ => none
def rSrtAll (K : PySem.W.Frag) : List V → Hp → VK → Prop := fun vs H Q =>
  (∃ (a : Addr) (ns : List Int), vs = [V.ref a] ∧ SqT K H a (ns.map V.int) ∧ ∀ (ns' : List Int) (p : Addr), ns'.Perm ns → ns'.Pairwise (· ≤ ·) → H p = none → Q (.ref p) (upd H p (.lst (ns'.map V.int)))) ∨
  (rSortedI K vs H Q ∨ (∃ (a : Addr) (kvs : List (Key × V)) (ks : List Str), vs = [.ref a] ∧ Rd H a (.dK kvs) ∧ kvs.map (·.1) = ks.map Sum.inr ∧ ks.length < 64 ∧
    ∀ ys p, ys.Perm ks → sortedS ys = true → H p = none → Q (.ref p) (upd H p (.lst (ys.map V.str)))))
section
variable {X : Cx} {T : Kt}
theorem cr_sortedIT : CallR X (.builtin "sorted") (fun vs H Q => ∃ (a : Addr) (ns : List Int), vs = [V.ref a] ∧ SqT X.K H a (ns.map V.int) ∧ ∀ (ns' : List Int) (p : Addr), ns'.Perm ns → ns'.Pairwise (· ≤ ·) → H p = none → Q (.ref p) (upd H p (.lst (ns'.map V.int)))) := by
  intro pins s σ H vs us Q I r h
  obtain ⟨a, ns, rfl, hs, q⟩ := h
  obtain ⟨its, rv, hl, hz⟩ := I.tuple hs
  rw [Vals.ref1 r]
  have hi := rv.ints
  refine PySem.Px2.sorted_ordT SrtO.swo_int hl (by rw [← rv.length]; exact hz) (fun h2 h₁ a' _ _ => SrtO.ints_sortable hi h2) fun out h1 h2 => ?_
  obtain ⟨k1, k2, k3⟩ := SrtO.ints_out hi h1 h2
  obtain ⟨ep, he'⟩ := PyProof.Rows.sortedAll_at s.heap its out.toArray
  have hlen : ((out.map SrtO.iv).map V.int).length ≤ sizeLine := by
    rw [List.length_map, k2.length_eq]
    rw [List.length_map] at hz
    exact hz
  exact ⟨.ref _, upd H (s.heap.objs.size + 1) (.lst ((out.map SrtO.iv).map V.int)), I.laid (t' := s.toks) (fun _ _ => PyProof.Rows.sortedAll_old) (Nat.le_succ _) ⟨hlen, out, ep, vals_of_ints k1, he'⟩, rfl, q _ _ k2 k3 (I.hok.fresh (Nat.le_succ _))⟩
theorem call_sortAll (hc : X.calm = true) : CallR X (.builtin "sorted") (rSrtAll X.K) := CallR.or cr_sortedIT (CallR.or cr_sortedI (call_sortedD hc))
theorem reps_strs {G : Hp} : ∀ (l : List Str), Reps T G (l.map V.str) (l.map D.str)
  | [] => .nil
  | s :: r => .cons (.str s) (reps_strs r)
theorem cd_sort : CallD T (rSrtAll T.K) sortD := by
  intro xs ds G H Q s r z hz q
  unfold sortD at hz
  split at hz
  · rename_i ks es
    obtain ⟨x, rfl, rr⟩ := reps1 r
    cases hk : strsK ks with
    | none => rw [hk] at hz; cases hz
    | some l =>
      rw [hk] at hz
      simp only at hz
      split at hz
      · rename_i hl
        cases hz
        cases rr with
        | dic h1 h2 r2 =>
          rename_i a vs
          refine .inr (.inr ⟨a, _, l, rfl, Rd.of (s _ _ h1), ?_, hl, fun ys p hp hs np => ?_⟩)
          · rw [List.map_fst_zip (by rw [r2.length, h2]; exact Nat.le_refl _)]
            exact strsK_eq hk
          · rw [sortS_of hp hs]
            exact q _ _ _ (Fr.new s np) (.lst upd_same (reps_strs _))
      · cases hz
  · rename_i l
    obtain ⟨x, rfl, rr⟩ := reps1 r
    cases hk : toInts l with
    | none => rw [hk] at hz; cases hz
    | some n =>
      rw [hk] at hz
      cases hz
      rw [toInts_eq hk] at rr
      cases rr with
      | lst h1 r2 =>
        rw [reps_ints r2] at h1
        refine .inr (.inl ⟨_, n, rfl, SqL.of (s _ _ h1), fun ns' p hp hs np => ?_⟩)
        rw [sortI_of hp hs]
        exact q _ _ _ (Fr.new s np) (.lst upd_same (Reps.ints _))
  · rename_i l
    obtain ⟨x, rfl, rr⟩ := reps1 r
    cases hk : toInts l with
    | none => rw [hk] at hz; cases hz
    | some n =>
      rw [hk] at hz
      cases hz
      rw [toInts_eq hk] at rr
      cases rr with
      | tup h1 r2 =>
        rw [reps_ints r2] at h1
        refine .inl ⟨_, n, rfl, sqT_same s h1, fun ns' p hp hs np => ?_⟩
        rw [sortI_of hp hs]
        exact q _ _ _ (Fr.new s np) (.lst upd_same (Reps.ints _))
  · cases hz
end
/-! ### methods of built-in things -/
def indexD (ma mb : Res D) : Res D := ma.bind fun a => match a with
  | .lst l => mb.bind fun b => (match toPs l, toP b with
    | some ps, some p => if SeqAt.shaped (.list ps) && SeqAt.shaped p then (match ps.findIdx? fun z => PyData.eqv z p with
      | some j => .ok (.int (j : Nat))
      | none => .bad) else .bad
    | _, _ => .bad)
  | _ => .bad
def toStrs : List D → Option (List Str)
  | [] => some []
  | .str s :: r => (toStrs r).map (s :: ·)
  | _ => none
theorem toStrs_eq : ∀ {ks : List D} {l : List Str}, toStrs ks = some l → ks = l.map D.str
  | [], _, h => by cases h; rfl
  | .str s :: r, l, h => by
    unfold toStrs at h
    cases q : toStrs r with
    | none => rw [q] at h; cases h
    | some t => rw [q] at h; cases h; rw [toStrs_eq q]; rfl
  | .non :: _, _, h => by cases h
  | .bl _ :: _, _, h => by cases h
  | .int _ :: _, _, h => by cases h
  | .lst _ :: _, _, h => by cases h
  | .scr _ :: _, _, h => by cases h
  | .tup _ :: _, _, h => by cases h
  | .obj _ _ :: _, _, h => by cases h
  | .dic _ _ :: _, _, h => by cases h
theorem toStrs_map (l : List Str) : toStrs (l.map D.str) = some l := by
  induction l with
  | nil => rfl
  | cons a r ih => rw [List.map_cons]; unfold toStrs; rw [ih]; rfl
theorem reps_strs_eq {T : Kt} {G : Hp} : ∀ {l : List Str} {vs : List V}, Reps T G vs (l.map D.str) → vs = l.map V.str
  | [], _, r => by cases r; rfl
  | s :: l, _, r => by
    cases r with
    | cons a r => cases a; rw [reps_strs_eq r]; rfl
def joinD (ma mb : Res D) : Res D := ma.bind fun a => match a with
  | .str s => mb.bind fun b => (match b with
    | .lst l => (match toStrs l with
      | some ys => if (ys.map (·.length)).sum + ys.length * s.length ≤ 16777216 then .ok (.str (Txt.join s ys)) else .bad
      | none => .bad)
    | _ => .bad)
  | _ => .bad
section
variable {X : Cx} {T : Kt} {W : WX} {k k' : Nat} {env : Env'} {a b c e o : Expr} {es : List Expr} {ma mb m : Res D} {pos apos : Pos}
theorem px_index (hk : X.K = T.K) (hu : X.A.units + 65 < cLine) (ha : PX X T W a env ma) (hb : PX X T W b env mb)
    (hbase : attributeBase a "index" X.env (eval a X.env) = eval a X.env := by rfl)
    (hfew : ((backTo pos (starEach (b :: []) X.env)).all (fun x => !x.1) && (backToKw pos (keywordEach [] X.env)).all (fun x => x.1.isSome)
      && decide ((b :: []).length + ([] : List Keyword).length + (if ([] : List Keyword).isEmpty then 0 else 1) < 30)) = true := by rfl)
    (hline : (apos.endLine == pos.line) = true := by rfl) (hs : starEach (b :: []) X.env = (false, eval b X.env) :: starEach [] X.env := by rfl) (hplain : (backTo pos (starEach [] X.env)).any (·.1) = false := by rfl) :
    PX X T W (.Call (.Attribute a "index" apos) [b] [] pos) env (indexD ma mb) := by
  obtain ⟨ta, pa, sa⟩ := ha.ex
  obtain ⟨tb, pb, sb⟩ := hb.ex
  refine ⟨_, pe_bm PySem.F.plainAttrs_list PySem.F.slot_list_index PySem.F.type_list_index (mt_indexD hu) pa (pa_cons pb pa_nil hs) hbase hfew hline hs hplain, fun H0 σ H G M Q h => ?_⟩
  refine sa H0 σ H G M _ ((Res.sat_bind h).mono (fun x hx v1 H1 G1 f1 r1 => ?_) fun _ _ z => z)
  have r1' := r1
  cases r1 <;> try exact hx.elim
  rename_i aa vs l h1 rr
  refine ⟨.inl ⟨rfl, _, SqL.of (f1.s _ _ h1)⟩, ?_⟩
  refine sb H0 σ H1 G1 (M.fr f1) _ ((Res.sat_bind hx).mono (fun y hy v2 H2 G2 f2 r2 => ?_) fun _ _ z => z.fr f1)
  show rIndexD X.K _ [v2] H2 Q
  cases h1' : toPs l with
  | none => simp only [h1'] at hy; exact hy.elim
  | some ps => cases h2' : toP y with
    | none => simp only [h1', h2'] at hy; exact hy.elim
    | some p =>
      simp only [h1', h2'] at hy
      by_cases hs : (SeqAt.shaped (.list ps) && SeqAt.shaped p) = true
      · rw [if_pos hs] at hy
        have hs' := Bool.and_eq_true_iff.mp hs
        cases h3 : ps.findIdx? fun z => PyData.eqv z p with
        | none => simp only [h3] at hy; exact hy.elim
        | some j =>
          simp only [h3] at hy
          obtain ⟨hj, hj2, hj3⟩ := List.findIdx?_eq_some_iff_getElem.mp h3
          rw [hk]
          refine ⟨aa, v2, p, ps, j, ps[j], rfl, rfl, ?_, ?_, hs'.1, hs'.2, List.getElem?_eq_getElem hj, hj2, fun m z' hm hz' => ?_, (PQ.fr f1 hy).fr f2 _ _ _ (Fr.refl f2.s) (.int _)⟩
          · exact dp_mono f2.s (rep_dp (r1'.mono f2.g) (by unfold toP; rw [h1']; rfl))
          · exact dp_mono f2.s (rep_dp r2 h2')
          · have hml : m < ps.length := by omega
            rw [List.getElem?_eq_getElem hml] at hz'
            cases hz'
            simpa using hj3 m hm
      · rw [if_neg hs] at hy; exact hy.elim
theorem px_join (hk : X.K = T.K) (ha : PX X T W a env ma) (hb : PX X T W b env mb)
    (hs : starEach [b] X.env = [(false, eval b X.env)] := by rfl) (hbase : attributeBase a "join" X.env (eval a X.env) = eval a X.env := by rfl) (hline : (apos.endLine == pos.line) = true := by rfl) :
    PX X T W (.Call (.Attribute a "join" apos) [b] [] pos) env (joinD ma mb) := by
  obtain ⟨ta, pa, sa⟩ := ha.ex
  obtain ⟨tb, pb, sb⟩ := hb.ex
  refine ⟨_, pe_join pa pb hs hbase hline, fun H0 σ H G M Q h => ?_⟩
  refine sa H0 σ H G M _ ((Res.sat_bind h).mono (fun x hx v1 H1 G1 f1 r1 => ?_) fun _ _ z => z)
  cases r1 <;> try exact hx.elim
  rename_i sep
  refine ⟨⟨_, rfl⟩, ?_⟩
  refine sb H0 σ H1 G1 (M.fr f1) _ ((Res.sat_bind hx).mono (fun y hy v2 H2 G2 f2 r2 => ?_) fun _ _ z => z.fr f1)
  cases r2 <;> try exact hy.elim
  rename_i aa vs l h1 rr
  cases hl : toStrs l with
  | none => simp only [hl] at hy; exact hy.elim
  | some ys =>
    simp only [hl] at hy
    rw [toStrs_eq hl] at rr
    rw [reps_strs_eq rr] at h1
    by_cases hz : (ys.map (·.length)).sum + ys.length * sep.length ≤ 16777216
    · rw [if_pos hz] at hy
      exact ⟨sep, aa, ys, rfl, rfl, .inl (SqL.of (f2.s _ _ h1)), hz, (PQ.fr f1 hy).fr f2 _ _ _ (Fr.refl f2.s) (.str _)⟩
    · rw [if_neg hz] at hy; exact hy.elim
/-- x in y, y an instance with an own __contains__ -/
def tOwnIn (neg : Bool) (C : Addr) (sp : Sp) (E : L2.St → XK) (ta tb : TE) : TE := fun σ H Q => ta σ H fun x H1 => tb σ H1 fun y H2 => ∃ b dx fs, y = .ref b ∧ H2 b = some (.ins C dx fs) ∧ sp [y, x] H2 (fun v H3 => ∃ kk, v = .bl kk ∧ Q (.bl (if neg then !kk else kk)) H3) (E σ)
theorem pe_ownIn {CX : CXT} {C f : Addr} {fd : FuncData} {ps : List Str} {sp : Sp} {ta tb : TE} {E : L2.St → XK} (hl : PE X a ta) (hr' : PE X b tb) (hs : PySem.W.findIn X.K (.ref C) "__contains__" = some (some (.ref f))) (hf : PySem.W.isFn X.K (.ref f) = true)
    (F : FnOk X.prog X.w X.K X.mg X.base CX k f fd ps sp) (hr : Room k X.A) (hb : Binds X.K fd ps []) (hx : ∀ σ, PassesAt CX X σ (E σ)) (hm : behindInMarks .In b = false) : PE X (.Compare a [.In] [b] pos) (tOwnIn false C sp E ta tb) := by
  refine ⟨fun pins s σ H Q I h => wpAny_Compare1 (binT hl hr' I h fun v u s2 x y H2 I2 rx ry q => ?_) hm⟩
  obtain ⟨bb, dx, fs, rfl, hb', q⟩ := q
  cases ry
  obtain ⟨mB, J, _⟩ := ins_get I2.hok hb'
  obtain ⟨od, J, _⟩ := J.look
  obtain ⟨m, hF⟩ := I2.fr
  refine PySem.W.in_K hF I2.ok.mod.kin J hs hf ?_
  refine thn (run_fnD (us := [.ref bb, v]) (vs := [.ref bb, x]) (dvs := []) rfl F hr hb .nil (hx σ) I2 (.cons rfl (.cons rx .nil)) q) fun u s3 hq => ?_
  obtain ⟨w, H3, I3, rw3, kk, rfl, q3⟩ := hq
  cases rw3
  exact wpAny_truthy_bool ⟨.bl kk, H3, I3, rfl, q3⟩
theorem pe_ownNotIn {CX : CXT} {C f : Addr} {fd : FuncData} {ps : List Str} {sp : Sp} {ta tb : TE} {E : L2.St → XK} (hl : PE X a ta) (hr' : PE X b tb) (hs : PySem.W.findIn X.K (.ref C) "__contains__" = some (some (.ref f))) (hf : PySem.W.isFn X.K (.ref f) = true)
    (F : FnOk X.prog X.w X.K X.mg X.base CX k f fd ps sp) (hr : Room k X.A) (hb : Binds X.K fd ps []) (hx : ∀ σ, PassesAt CX X σ (E σ)) (hm : behindInMarks .NotIn b = false) : PE X (.Compare a [.NotIn] [b] pos) (tOwnIn true C sp E ta tb) := by
  refine ⟨fun pins s σ H Q I h => wpAny_Compare1 (binT hl hr' I h fun v u s2 x y H2 I2 rx ry q => ?_) hm⟩
  obtain ⟨bb, dx, fs, rfl, hb', q⟩ := q
  cases ry
  obtain ⟨mB, J, _⟩ := ins_get I2.hok hb'
  obtain ⟨od, J, _⟩ := J.look
  obtain ⟨m, hF⟩ := I2.fr
  refine PySem.W.notIn_K hF I2.ok.mod.kin J hs hf ?_
  refine thn (run_fnD (us := [.ref bb, v]) (vs := [.ref bb, x]) (dvs := []) rfl F hr hb .nil (hx σ) I2 (.cons rfl (.cons rx .nil)) q) fun u s3 hq => ?_
  obtain ⟨w, H3, I3, rw3, kk, rfl, q3⟩ := hq
  cases rw3
  exact wpAny_truthy_bool ⟨.bl (!kk), H3, I3, rfl, q3⟩
def ownInR (neg : Bool) (c : Nat) (m : List D → Res D) (ma mb : Res D) : Res D := ma.bind fun a => mb.bind fun b => match b with
  | .obj c1 l => if c1 = c then (m [.obj c1 l, a]).bind fun r => (match r with
      | .bl k => .ok (.bl (if neg then !k else k))
      | _ => .bad)
    else .bad
  | _ => .bad
theorem SE.ownIn {X : Cx} (neg : Bool) {mm : List D → Res D} {n cc : Nat} {C : Addr} {ta tb : TE} (hc : T.ca cc = some C) (hn : ∀ ds, ds.length ≠ n → mm ds = .bad) (sa : SE T W ta env ma) (sb : SE T W tb env mb) :
    SE T W (tOwnIn neg C (pureSp T n mm) (WE W) ta tb) env (ownInR neg cc mm ma mb) := by
  intro H0 σ H G M Q h
  refine sa H0 σ H G M _ ((Res.sat_bind h).mono (fun d1 hd1 v1 H1 G1 f1 r1 => ?_) fun _ _ z => z)
  refine sb H0 σ H1 G1 (M.fr f1) _ ((Res.sat_bind hd1).mono (fun d2 hd2 v2 H2 G2 f2 r2 => ?_) fun _ _ z => z.fr f1)
  have f12 := f1.trans f2
  have r1' := r1.mono f2.g
  cases d2 <;> try exact hd2.elim
  rename_i c1 l1
  by_cases e1 : c1 = cc
  · simp only [if_pos e1] at hd2
    subst e1
    obtain ⟨aa, C', dx, ns, vs', rfl, hc', hg, hns⟩ := rep_obj r2
    rw [hc] at hc'
    cases hc'
    refine ⟨aa, dx, _, rfl, f2.s _ _ hg, ?_⟩
    refine pure_of (σ := σ) (E := WE W σ) f2.s (.cons r2 (.cons r1' .nil)) hn ((Res.sat_bind hd2).mono (fun r hr v3 H3 G3 f3 r3 => ?_) fun _ _ z => z.fr f12)
    cases r3 <;> try exact hr.elim
    rename_i kk
    exact ⟨kk, rfl, (PQ.fr f12 hr).fr f3 _ _ _ (Fr.refl f3.s) (.bl _)⟩
  · simp only [if_neg e1] at hd2; exact hd2.elim
theorem px_ownIn {mm : List D → Res D} {n cc : Nat} {C f : Addr} {fd : FuncData} {ps : List Str} (Cc : Ctx X T W k') (hs : PySem.W.findIn X.K (.ref C) "__contains__" = some (some (.ref f))) (hf : PySem.W.isFn X.K (.ref f) = true) (hc : T.ca cc = some C)
    (F : FnOk X.prog X.w X.K X.mg X.base (L2.CX X.prog X.w) k f fd ps (pureSp T n mm)) (hn : ∀ ds, ds.length ≠ n → mm ds = .bad) (hk : k ≤ k') (hb : L2.Binds X.K fd ps []) (ha : PX X T W a env ma) (hb' : PX X T W b env mb) (hm : behindInMarks .In b = false) : PX X T W (.Compare a [.In] [b] pos) env (ownInR false cc mm ma mb) := by
  obtain ⟨ta, pa, sa⟩ := ha.ex
  obtain ⟨tb, pb, sb⟩ := hb'.ex
  exact ⟨_, pe_ownIn pa pb hs hf F (Cc.room.mono hk) hb Cc.pass hm, SE.ownIn (X := X) false hc hn sa sb⟩
theorem px_ownNotIn {mm : List D → Res D} {n cc : Nat} {C f : Addr} {fd : FuncData} {ps : List Str} (Cc : Ctx X T W k') (hs : PySem.W.findIn X.K (.ref C) "__contains__" = some (some (.ref f))) (hf : PySem.W.isFn X.K (.ref f) = true) (hc : T.ca cc = some C)
    (F : FnOk X.prog X.w X.K X.mg X.base (L2.CX X.prog X.w) k f fd ps (pureSp T n mm)) (hn : ∀ ds, ds.length ≠ n → mm ds = .bad) (hk : k ≤ k') (hb : L2.Binds X.K fd ps []) (ha : PX X T W a env ma) (hb' : PX X T W b env mb) (hm : behindInMarks .NotIn b = false) : PX X T W (.Compare a [.NotIn] [b] pos) env (ownInR true cc mm ma mb) := by
  obtain ⟨ta, pa, sa⟩ := ha.ex
  obtain ⟨tb, pb, sb⟩ := hb'.ex
  exact ⟨_, pe_ownNotIn pa pb hs hf F (Cc.room.mono hk) hb Cc.pass hm, SE.ownIn (X := X) true hc hn sa sb⟩
end
theorem Room.units1 {k : Nat} {A : Around} (r : Room k A) : A.units + 1 < cLine := by have := r.un; omega
/-- a module's tuple of texts -/
theorem rep_ktup {T : Kt} {G : Hp} {a : Addr} {dd : Option Addr} {its : List Value} {n : Nat} {sl : Array (Option Value)} {l : List Str} (h : T.K.lookup a = some ⟨.type "tuple", dd, .seq its.toArray n, sl⟩) (hz : its.length ≤ sizeLine) (r : Vals (l.map V.str) its) : Rep T G (.ref a) (.tup (l.map D.str)) :=
  .tup (.inr ⟨_, its.toArray, n, h, rfl, rfl, by simpa using hz, by simpa using r⟩) (reps_strs l)
/-! ### unpacking of tuples and lists -/
theorem PG.or {X : Cx} {e : Expr} {g g' : TG} (h : PG X e g) (h' : PG X e g') : PG X e (fun v σ H Q => g v σ H Q ∨ g' v σ H Q) := ⟨fun pins s σ H v u Q I r q => by
  rcases q with q | q
  · exact h.run pins s σ H v u Q I r q
  · exact h'.run pins s σ H v u Q I r q⟩
def seqSet (env : Env') (is : List Nat) (d : D) : Option Env' := match d with
  | .tup l => setAll env is l
  | .lst l => setAll env is l
  | _ => none
section
variable {X : Cx} {T : Kt} {W : WX} {k : Nat} {x : Xk} {env : Env'} {a b c e o : Expr} {es : List Expr} {st : Stmt} {rest : List Stmt} {ma mb mc me : Res D} {pos : Pos} {O L S : Type} {m : Res O} {ι : O → Fl L S} {el : L → Env'} {eo : S → Env'}
theorem pgx_seq (is : List Nat) {es : List Expr} {kk : Nat} {pos : Pos} (hk : X.K = T.K) (hc : X.calm = true) (h : PGs X es (is.foldr (fun i g => gCons (gName i) g) gNil)) (hn : (assignEach es X.env).length = is.length) (hst : (assignEach es X.env).findIdx? (·.1) = none) :
    PGX X T (.Tuple es kk pos) is (fun env d => seqSet env is d) := by
  refine ⟨_, PG.or (pg_tup hc h hn hst) (pg_lst hc h hn hst), fun H0 σ H G env v d env' M r e Q q => ?_⟩
  rw [hk]
  have hl : ∀ (is : List Nat) (ds : List D) (env : Env'), setAll env is ds = some env' → ds.length = is.length := by
    intro is
    induction is with
    | nil => intro ds env e; cases ds; rfl; cases e
    | cons i is ih => intro ds env e; cases ds; cases e; exact congrArg (· + 1) (ih _ _ e)
  cases r <;> try (cases e; done)
  · rename_i a vs ds h1 r
    exact .inr ⟨_, _, rfl, SqL.of (M.gh _ _ h1), by rw [r.length]; exact hl is ds env e, sg_all is rfl M r e Q q⟩
  · rename_i a vs ds h1 r
    exact .inl ⟨_, _, rfl, sqT_same M.gh h1, by rw [r.length]; exact hl is ds env e, sg_all is rfl M r e Q q⟩
/-- a, b = e -/
theorem pb_unpack {is : List Nat} {tb : Env' → D → Option Env'} {tg : Expr} {k : D → Res O} (hg : PGX X T tg is tb) (he : PX X T W e env me) (hs : swapsWithSole [tg] e pos.line X.env = pure false) (hw : swappedStores [tg] e X.env = pure none) (h1 : (assignEach [tg] X.env).map (·.2) = [assign tg X.env])
    (hr : ∀ d, match tb env d with
      | some env' => PBX X T W x rest env' (k d) ι el eo
      | none => k d = .bad) : PBX X T W x (.Assign [tg] e pos :: rest) env (me.bind k) ι el eo := by
  obtain ⟨te, pe, se⟩ := he.ex
  obtain ⟨g, pg, sg⟩ := hg.ex
  have hb' : ∃ u, PSs X rest u ∧ ∀ d env', tb env d = some env' → SS T W x u env' (k d) ι el eo := by
    refine ⟨fun D σ H => ∃ u, PSs X rest u ∧ u D σ H, ⟨fun pins s σ H D I h => ?_⟩, fun d env' e => ?_⟩
    · obtain ⟨u, p, q⟩ := h
      exact p.run pins s σ H D I q
    · have q := hr d
      rw [e] at q
      obtain ⟨u, p, s⟩ := q.ex
      intro G0 H0 σ H G F M Dn nx hx h
      exact ⟨u, p, s G0 H0 σ H G F M Dn nx hx h⟩
  obtain ⟨u, pu, su⟩ := hb'
  refine ⟨_, pss_cons (ps_asg pe pg hs hw h1) pu, fun G0 H0 σ H G F M Dn nx hx h => ?_⟩
  refine se H0 σ H G M _ ((sat_ex F (Res.sat_bind h)).mono (fun d hd v1 H1 G1 f1 r1 => ?_) fun _ _ z => z)
  cases ht : tb env d with
  | none =>
    have q := hr d
    rw [ht] at q
    rw [q] at hd
    exact hd.elim
  | some env' =>
    exact sg H0 σ H1 G1 env v1 d env' (M.fr f1) r1 ht _ fun σ' M' _ => su d env' ht G0 H0 _ H1 G1 (F.trans f1) M' Dn nx hx hd
end

def seq2K {R : Type} (m : D → D → Res R) : D → Res R
  | .tup [a0, a1] => m a0 a1
  | .lst [a0, a1] => m a0 a1
  | _ => .bad
@[simp] theorem seq2K_tup {R : Type} (m : D → D → Res R) (a0 a1 : D) : seq2K m (.tup [a0, a1]) = m a0 a1 := id rfl
@[simp] theorem seq2K_lst {R : Type} (m : D → D → Res R) (a0 a1 : D) : seq2K m (.lst [a0, a1]) = m a0 a1 := id rfl
theorem seqCase2 {X : Cx} {T : Kt} {W : WX} {x : Xk} {env : Env'} {body : List Stmt} {O L S : Type} {ι : O → Fl L S} {el : L → Env'} {eo : S → Env'} {d : D} {m : D → D → Res O} {j0 j1 : Nat} (h : ∀ a0 a1, PBX X T W x body ((env.set j0 (some (.val a0))).set j1 (some (.val a1))) (m a0 a1) ι el eo) :
    match seqSet env [j0, j1] d with
    | some env' => PBX X T W x body env' (seq2K m d) ι el eo
    | none => seq2K m d = .bad := by
  cases d with
  | tup l =>
    match l with
    | [a0, a1] => exact h a0 a1
    | [] => rfl
    | [_] => rfl
    | _ :: _ :: _ :: _ => rfl
  | lst l =>
    match l with
    | [a0, a1] => exact h a0 a1
    | [] => rfl
    | [_] => rfl
    | _ :: _ :: _ :: _ => rfl
  | non => rfl
  | bl _ => rfl
  | int _ => rfl
  | str _ => rfl
  | scr _ => rfl
  | obj _ _ => rfl
  | dic _ _ => rfl
def seq3K {R : Type} (m : D → D → D → Res R) : D → Res R
  | .tup [a0, a1, a2] => m a0 a1 a2
  | .lst [a0, a1, a2] => m a0 a1 a2
  | _ => .bad
@[simp] theorem seq3K_tup {R : Type} (m : D → D → D → Res R) (a0 a1 a2 : D) : seq3K m (.tup [a0, a1, a2]) = m a0 a1 a2 := id rfl
@[simp] theorem seq3K_lst {R : Type} (m : D → D → D → Res R) (a0 a1 a2 : D) : seq3K m (.lst [a0, a1, a2]) = m a0 a1 a2 := id rfl
theorem seqCase3 {X : Cx} {T : Kt} {W : WX} {x : Xk} {env : Env'} {body : List Stmt} {O L S : Type} {ι : O → Fl L S} {el : L → Env'} {eo : S → Env'} {d : D} {m : D → D → D → Res O} {j0 j1 j2 : Nat} (h : ∀ a0 a1 a2, PBX X T W x body (((env.set j0 (some (.val a0))).set j1 (some (.val a1))).set j2 (some (.val a2))) (m a0 a1 a2) ι el eo) :
    match seqSet env [j0, j1, j2] d with
    | some env' => PBX X T W x body env' (seq3K m d) ι el eo
    | none => seq3K m d = .bad := by
  cases d with
  | tup l =>
    match l with
    | [a0, a1, a2] => exact h a0 a1 a2
    | [] => rfl
    | [_] => rfl
    | [_, _] => rfl
    | _ :: _ :: _ :: _ :: _ => rfl
  | lst l =>
    match l with
    | [a0, a1, a2] => exact h a0 a1 a2
    | [] => rfl
    | [_] => rfl
    | [_, _] => rfl
    | _ :: _ :: _ :: _ :: _ => rfl
  | non => rfl
  | bl _ => rfl
  | int _ => rfl
  | str _ => rfl
  | scr _ => rfl
  | obj _ _ => rfl
  | dic _ _ => rfl
def seq4K {R : Type} (m : D → D → D → D → Res R) : D → Res R
  | .tup [a0, a1, a2, a3] => m a0 a1 a2 a3
  | .lst [a0, a1, a2, a3] => m a0 a1 a2 a3
  | _ => .bad
@[simp] theorem seq4K_tup {R : Type} (m : D → D → D → D → Res R) (a0 a1 a2 a3 : D) : seq4K m (.tup [a0, a1, a2, a3]) = m a0 a1 a2 a3 := id rfl
@[simp] theorem seq4K_lst {R : Type} (m : D → D → D → D → Res R) (a0 a1 a2 a3 : D) : seq4K m (.lst [a0, a1, a2, a3]) = m a0 a1 a2 a3 := id rfl
theorem seqCase4 {X : Cx} {T : Kt} {W : WX} {x : Xk} {env : Env'} {body : List Stmt} {O L S : Type} {ι : O → Fl L S} {el : L → Env'} {eo : S → Env'} {d : D} {m : D → D → D → D → Res O} {j0 j1 j2 j3 : Nat} (h : ∀ a0 a1 a2 a3, PBX X T W x body ((((env.set j0 (some (.val a0))).set j1 (some (.val a1))).set j2 (some (.val a2))).set j3 (some (.val a3))) (m a0 a1 a2 a3) ι el eo) :
    match seqSet env [j0, j1, j2, j3] d with
    | some env' => PBX X T W x body env' (seq4K m d) ι el eo
    | none => seq4K m d = .bad := by
  cases d with
  | tup l =>
    match l with
    | [a0, a1, a2, a3] => exact h a0 a1 a2 a3
    | [] => rfl
    | [_] => rfl
    | [_, _] => rfl
    | [_, _, _] => rfl
    | _ :: _ :: _ :: _ :: _ :: _ => rfl
  | lst l =>
    match l with
    | [a0, a1, a2, a3] => exact h a0 a1 a2 a3
    | [] => rfl
    | [_] => rfl
    | [_, _] => rfl
    | [_, _, _] => rfl
    | _ :: _ :: _ :: _ :: _ :: _ => rfl
  | non => rfl
  | bl _ => rfl
  | int _ => rfl
  | str _ => rfl
  | scr _ => rfl
  | obj _ _ => rfl
  | dic _ _ => rfl
def seq5K {R : Type} (m : D → D → D → D → D → Res R) : D → Res R
  | .tup [a0, a1, a2, a3, a4] => m a0 a1 a2 a3 a4
  | .lst [a0, a1, a2, a3, a4] => m a0 a1 a2 a3 a4
  | _ => .bad
@[simp] theorem seq5K_tup {R : Type} (m : D → D → D → D → D → Res R) (a0 a1 a2 a3 a4 : D) : seq5K m (.tup [a0, a1, a2, a3, a4]) = m a0 a1 a2 a3 a4 := id rfl
@[simp] theorem seq5K_lst {R : Type} (m : D → D → D → D → D → Res R) (a0 a1 a2 a3 a4 : D) : seq5K m (.lst [a0, a1, a2, a3, a4]) = m a0 a1 a2 a3 a4 := id rfl
theorem seqCase5 {X : Cx} {T : Kt} {W : WX} {x : Xk} {env : Env'} {body : List Stmt} {O L S : Type} {ι : O → Fl L S} {el : L → Env'} {eo : S → Env'} {d : D} {m : D → D → D → D → D → Res O} {j0 j1 j2 j3 j4 : Nat} (h : ∀ a0 a1 a2 a3 a4, PBX X T W x body (((((env.set j0 (some (.val a0))).set j1 (some (.val a1))).set j2 (some (.val a2))).set j3 (some (.val a3))).set j4 (some (.val a4))) (m a0 a1 a2 a3 a4) ι el eo) :
    match seqSet env [j0, j1, j2, j3, j4] d with
    | some env' => PBX X T W x body env' (seq5K m d) ι el eo
    | none => seq5K m d = .bad := by
  cases d with
  | tup l =>
    match l with
    | [a0, a1, a2, a3, a4] => exact h a0 a1 a2 a3 a4
    | [] => rfl
    | [_] => rfl
    | [_, _] => rfl
    | [_, _, _] => rfl
    | [_, _, _, _] => rfl
    | _ :: _ :: _ :: _ :: _ :: _ :: _ => rfl
  | lst l =>
    match l with
    | [a0, a1, a2, a3, a4] => exact h a0 a1 a2 a3 a4
    | [] => rfl
    | [_] => rfl
    | [_, _] => rfl
    | [_, _, _] => rfl
    | [_, _, _, _] => rfl
    | _ :: _ :: _ :: _ :: _ :: _ :: _ => rfl
  | non => rfl
  | bl _ => rfl
  | int _ => rfl
  | str _ => rfl
  | scr _ => rfl
  | obj _ _ => rfl
  | dic _ _ => rfl
def seq6K {R : Type} (m : D → D → D → D → D → D → Res R) : D → Res R
  | .tup [a0, a1, a2, a3, a4, a5] => m a0 a1 a2 a3 a4 a5
  | .lst [a0, a1, a2, a3, a4, a5] => m a0 a1 a2 a3 a4 a5
  | _ => .bad
@[simp] theorem seq6K_tup {R : Type} (m : D → D → D → D → D → D → Res R) (a0 a1 a2 a3 a4 a5 : D) : seq6K m (.tup [a0, a1, a2, a3, a4, a5]) = m a0 a1 a2 a3 a4 a5 := id rfl
@[simp] theorem seq6K_lst {R : Type} (m : D → D → D → D → D → D → Res R) (a0 a1 a2 a3 a4 a5 : D) : seq6K m (.lst [a0, a1, a2, a3, a4, a5]) = m a0 a1 a2 a3 a4 a5 := id rfl
theorem seqCase6 {X : Cx} {T : Kt} {W : WX} {x : Xk} {env : Env'} {body : List Stmt} {O L S : Type} {ι : O → Fl L S} {el : L → Env'} {eo : S → Env'} {d : D} {m : D → D → D → D → D → D → Res O} {j0 j1 j2 j3 j4 j5 : Nat} (h : ∀ a0 a1 a2 a3 a4 a5, PBX X T W x body ((((((env.set j0 (some (.val a0))).set j1 (some (.val a1))).set j2 (some (.val a2))).set j3 (some (.val a3))).set j4 (some (.val a4))).set j5 (some (.val a5))) (m a0 a1 a2 a3 a4 a5) ι el eo) :
    match seqSet env [j0, j1, j2, j3, j4, j5] d with
    | some env' => PBX X T W x body env' (seq6K m d) ι el eo
    | none => seq6K m d = .bad := by
  cases d with
  | tup l =>
    match l with
    | [a0, a1, a2, a3, a4, a5] => exact h a0 a1 a2 a3 a4 a5
    | [] => rfl
    | [_] => rfl
    | [_, _] => rfl
    | [_, _, _] => rfl
    | [_, _, _, _] => rfl
    | [_, _, _, _, _] => rfl
    | _ :: _ :: _ :: _ :: _ :: _ :: _ :: _ => rfl
  | lst l =>
    match l with
    | [a0, a1, a2, a3, a4, a5] => exact h a0 a1 a2 a3 a4 a5
    | [] => rfl
    | [_] => rfl
    | [_, _] => rfl
    | [_, _, _] => rfl
    | [_, _, _, _] => rfl
    | [_, _, _, _, _] => rfl
    | _ :: _ :: _ :: _ :: _ :: _ :: _ :: _ => rfl
  | non => rfl
  | bl _ => rfl
  | int _ => rfl
  | str _ => rfl
  | scr _ => rfl
  | obj _ _ => rfl
  | dic _ _ => rfl
end Px
namespace Px
open PySem PySem.Spec PyProof.Rows L2
/-! ### defs that return a new list -/
def frSp (T : Kt) (n : Nat) (m : List D → Res (List D)) : Sp := fun vs H Q E => ∃ G ds, Same G H ∧ Reps T G vs ds ∧ ds.length = n ∧ (m ds).sat (PO T G H Q) (EX T E G H)
theorem fn_fresh {g : FP} {qual : Str} {st : Stmt} {f : Addr} {fd : FuncData} {N ps : List Str} {k : Nat} {T : Kt} {m : List D → Res (List D)} (hT : g.K = T.K) (R : OkRule g qual st f fd N ps k) (S : FnScope N ps (defScope st))
    (h : ∀ cdv A outer s H E, Ctx (xOf g N qual st f cdv A outer s H E) T (WD E) k → ∀ ds : List D, ds.length = ps.length → PBX (xOf g N qual st f cdv A outer s H E) T (WD E) .fn (defBody st) (envS N.length ds) (m ds) (Fl.ro (L := Empty) (S := Empty)) noE noE) :
    FnOk g.P g.w g.K g.mg g.base (L2.CX g.P g.w) (k + 1) f fd ps (frSp T ps.length m) := by
  refine R _ (fun vs H Q E h => ?_) (fun cdv A outer s H vs Q E hr h0 => ?_)
  · obtain ⟨G, ds, _, r, hl, _⟩ := h
    rw [r.length]; exact hl
  · obtain ⟨G, ds, sm, r, hl, hq⟩ := h0
    obtain ⟨t, p, ss⟩ := (h cdv A outer s H E (ctx_of hT S hr) ds hl).ex
    have hpl : ps.length ≤ N.length := by have := congrArg List.length S.pre; rw [List.length_take] at this; omega
    refine ⟨t, p, ?_⟩
    exact ss G H _ H G (Fr.refl sm) (mat_start sm r (by omega)) { nx := fun _ H' => Q .non H', rt := Q } _ rfl (hq.mono (fun d hd => hd) fun c vs z σ => z)
def callRo (m : List D → Res (List D)) (dd : List D) (ms : Res (List D)) : Res (List D) := ms.bind fun l => m (l ++ dd)
section
variable {X : Cx} {T : Kt} {W : WX} {k k' : Nat} {x : Xk} {xn : Str} {env : Env'} {a b c e o : Expr} {es : List Expr} {st : Stmt} {rest : List Stmt} {ma mb mc me : Res D} {pos p : Pos} {O L S : Type} {m : Res O} {ι : O → Fl L S} {el : L → Env'} {eo : S → Env'}
  {mm : List D → Res (List D)} {f : Addr} {fd : FuncData} {ps : List Str} {dvs : List V} {ds : List Value} {dd : List D} {n : Nat} {ms : Res (List D)}
theorem fr_of {G H : Hp} {σ : L2.St} {vs : List V} {l : List D} {Q : VK} {E : XK} (s : Same G H) (r : Reps T G vs l) (hn : ∀ ds, ds.length ≠ n → mm ds = .bad) (h : (mm l).sat (PO T G H Q) (EX T E G H)) : frSp T n mm vs H Q E := by
  refine ⟨G, l, s, r, ?_, h⟩
  rcases Decidable.em (l.length = n) with z | z
  · exact z
  · rw [hn l z] at h; exact h.elim
theorem pxo_call (Cc : Ctx X T W k') (F : FnOk X.prog X.w X.K X.mg X.base (L2.CX X.prog X.w) k f fd ps (frSp T n mm)) (hn : ∀ ds, ds.length ≠ n → mm ds = .bad) (hk : k ≤ k') (hg : Gl X xn) (hm : X.mg xn = some (.ref f)) (hkp : PySem.W.keepIn X.K (.ref f) = true) (hb : L2.Binds X.K fd ps ds) (hd : Vals dvs ds) (rd : ∀ G, Reps T G dvs dd)
    (ha : PAX X T W (e :: es) env ms) (hdb : (xn == ("__debug__" : Str)) = false := by decide) (he : starEach (e :: es) X.env = (false, eval e X.env) :: starEach es X.env := by rfl) (hpl : (backTo pos (starEach es X.env)).any (·.1) = false := by rfl) :
    PXO X T W (.Call (.Name xn p) (e :: es) [] pos) env (callRo mm dd ms) := by
  obtain ⟨t, pa, sa⟩ := ha.ex
  refine ⟨_, pe_callD F (Cc.room.mono hk) hg hm hkp hb hd Cc.pass pa hdb he hpl, fun H0 σ H G M Q h => ?_⟩
  refine sa H0 σ H G M _ ((Res.sat_bind h).mono (fun l hl vs H1 G1 f1 r1 => ?_) fun _ _ z => z)
  exact fr_of (σ := σ) f1.s (r1.append (rd G1)) hn (hl.mono (fun d z => z.fr f1) fun _ _ z => z.fr f1)
theorem pb_retO {mo : Res (List D)} {r : List D → O} (hi : ∀ d, ι (r d) = .ro d) (he : PXO X T W e env mo) : PBX X T W x (.Return (some e) pos :: rest) env (mo.bind fun d => .ok (r d)) ι el eo := by
  obtain ⟨te, pe, se⟩ := he.ex
  refine ⟨_, pss_cons (ps_ret pe) pss_never, fun G0 H0 σ H G F M Dn nx hx h => ?_⟩
  refine se H0 σ H G M _ ((sat_ex F (Res.sat_bind h)).mono (fun d hd a vs H1 G1 f1 h1 h2 h3 r1 => ?_) fun _ _ z => z)
  have h' : Out T G0 H0 Dn el eo (ι (r d)) := hd
  rw [hi] at h'
  exact h' a vs H1 G1 (F.trans f1) (F.h.free h1) h2 h3 r1
theorem pb_retOD {mo : Res (List D)} {ιd : List D → Fl L S} (hi : ∀ d, ιd d = .ro d) (he : PXO X T W e env mo) : PBX X T W x (.Return (some e) pos :: rest) env mo ιd el eo := by
  have h := pb_retO (x := x) (rest := rest) (pos := pos) (el := el) (eo := eo) (r := fun d => d) hi he
  have e1 : (mo.bind fun d => .ok d) = mo := by cases mo <;> rfl
  rw [e1] at h
  exact h
/-- return x, x a list of one's own -/
theorem pb_retOwn (i : Nat) {l : List D} {o1 : O} (hi : ι o1 = .ro l) (he : env[i]? = some (some (.own l))) (ho : PE X e (tVar i)) : PBX X T W x (.Return (some e) pos :: rest) env (.ok o1) ι el eo := by
  refine ⟨_, pss_cons (ps_ret ho) pss_never, fun G0 H0 σ H G F M Dn nx hx h => ?_⟩
  obtain ⟨a, vs, s1, h1, h2, h3, r⟩ := M.own he
  have h' : Out T G0 H0 Dn el eo (ι o1) := h
  rw [hi] at h'
  exact ⟨_, s1, h' a vs H G F h3 h1 h2 r⟩
end
section
variable {X : Cx} {T : Kt} {W : WX} {k k' : Nat} {env : Env'} {a b : Expr} {ma mb : Res D} {pos : Pos}
theorem pc_ownIn {CX : CXT} {C f : Addr} {fd : FuncData} {ps : List Str} {sp : Sp} {ta tb : TE} {E : L2.St → XK} (hl : PE X a ta) (hr' : PE X b tb) (hs : PySem.W.findIn X.K (.ref C) "__contains__" = some (some (.ref f))) (hf : PySem.W.isFn X.K (.ref f) = true)
    (F : FnOk X.prog X.w X.K X.mg X.base CX k f fd ps sp) (hr : Room k X.A) (hb : Binds X.K fd ps []) (hx : ∀ σ, PassesAt CX X σ (E σ)) : PC X .In a b (tOwnIn false C sp E ta tb) := by
  refine ⟨fun pins s σ H Q I h => ?_⟩
  refine thn (hl.run pins s σ H _ I h) fun v s1 ⟨x, H1, I1, rx, q1⟩ => thn (hr'.run pins s1 σ H1 _ I1 q1) fun u s2 ⟨y, H2, I2, ry, bb, dx, fs, ey, hb', q⟩ => ?_
  subst ey
  cases ry
  obtain ⟨mB, J, _⟩ := ins_get I2.hok hb'
  obtain ⟨od, J, _⟩ := J.look
  obtain ⟨m, hF⟩ := I2.fr
  refine PySem.W.in_K hF I2.ok.mod.kin J hs hf ?_
  refine thn (run_fnD (us := [.ref bb, v]) (vs := [.ref bb, x]) (dvs := []) rfl F hr hb .nil (hx σ) I2 (.cons rfl (.cons rx .nil)) q) fun u s3 hq => ?_
  obtain ⟨w, H3, I3, rw3, kk, rfl, q3⟩ := hq
  cases rw3
  exact wpAny_truthy_bool ⟨.bl kk, H3, I3, rfl, q3⟩
theorem pc_ownNotIn {CX : CXT} {C f : Addr} {fd : FuncData} {ps : List Str} {sp : Sp} {ta tb : TE} {E : L2.St → XK} (hl : PE X a ta) (hr' : PE X b tb) (hs : PySem.W.findIn X.K (.ref C) "__contains__" = some (some (.ref f))) (hf : PySem.W.isFn X.K (.ref f) = true)
    (F : FnOk X.prog X.w X.K X.mg X.base CX k f fd ps sp) (hr : Room k X.A) (hb : Binds X.K fd ps []) (hx : ∀ σ, PassesAt CX X σ (E σ)) : PC X .NotIn a b (tOwnIn true C sp E ta tb) := by
  refine ⟨fun pins s σ H Q I h => ?_⟩
  refine thn (hl.run pins s σ H _ I h) fun v s1 ⟨x, H1, I1, rx, q1⟩ => thn (hr'.run pins s1 σ H1 _ I1 q1) fun u s2 ⟨y, H2, I2, ry, bb, dx, fs, ey, hb', q⟩ => ?_
  subst ey
  cases ry
  obtain ⟨mB, J, _⟩ := ins_get I2.hok hb'
  obtain ⟨od, J, _⟩ := J.look
  obtain ⟨m, hF⟩ := I2.fr
  refine PySem.W.notIn_K hF I2.ok.mod.kin J hs hf ?_
  refine thn (run_fnD (us := [.ref bb, v]) (vs := [.ref bb, x]) (dvs := []) rfl F hr hb .nil (hx σ) I2 (.cons rfl (.cons rx .nil)) q) fun u s3 hq => ?_
  obtain ⟨w, H3, I3, rw3, kk, rfl, q3⟩ := hq
  cases rw3
  exact wpAny_truthy_bool ⟨.bl (!kk), H3, I3, rfl, q3⟩
theorem ST.ofB {t : TE} {m : Res D} (s : SE T W t env m) : ST T W (tB t) env (blR m) := fun H0 σ H G M Q h =>
  s H0 σ H G M _ ((Res.sat_bind h).mono (fun x hx v1 H1 G1 f1 r1 => by cases r1 <;> first | exact ⟨_, rfl, hx _ _ f1⟩ | exact hx.elim) fun _ _ z => z)
theorem ptx_ownIn {mm : List D → Res D} {n cc : Nat} {C f : Addr} {fd : FuncData} {ps : List Str} (Cc : Ctx X T W k') (hs : PySem.W.findIn X.K (.ref C) "__contains__" = some (some (.ref f))) (hf : PySem.W.isFn X.K (.ref f) = true) (hc : T.ca cc = some C)
    (F : FnOk X.prog X.w X.K X.mg X.base (L2.CX X.prog X.w) k f fd ps (pureSp T n mm)) (hn : ∀ ds, ds.length ≠ n → mm ds = .bad) (hk : k ≤ k') (hb : L2.Binds X.K fd ps []) (ha : PX X T W a env ma) (hb' : PX X T W b env mb) (hm : behindInMarks .In b = false) : PTX X T W (.Compare a [.In] [b] pos) env (blR (ownInR false cc mm ma mb)) := by
  obtain ⟨ta, pa, sa⟩ := ha.ex
  obtain ⟨tb, pb, sb⟩ := hb'.ex
  exact ⟨_, pt_cmp (pc_ownIn pa pb hs hf F (Cc.room.mono hk) hb Cc.pass) hm, ST.ofB (SE.ownIn (X := X) false hc hn sa sb)⟩
theorem ptx_ownNotIn {mm : List D → Res D} {n cc : Nat} {C f : Addr} {fd : FuncData} {ps : List Str} (Cc : Ctx X T W k') (hs : PySem.W.findIn X.K (.ref C) "__contains__" = some (some (.ref f))) (hf : PySem.W.isFn X.K (.ref f) = true) (hc : T.ca cc = some C)
    (F : FnOk X.prog X.w X.K X.mg X.base (L2.CX X.prog X.w) k f fd ps (pureSp T n mm)) (hn : ∀ ds, ds.length ≠ n → mm ds = .bad) (hk : k ≤ k') (hb : L2.Binds X.K fd ps []) (ha : PX X T W a env ma) (hb' : PX X T W b env mb) (hm : behindInMarks .NotIn b = false) : PTX X T W (.Compare a [.NotIn] [b] pos) env (blR (ownInR true cc mm ma mb)) := by
  obtain ⟨ta, pa, sa⟩ := ha.ex
  obtain ⟨tb, pb, sb⟩ := hb'.ex
  exact ⟨_, pt_cmp (pc_ownNotIn pa pb hs hf F (Cc.room.mono hk) hb Cc.pass) hm, ST.ofB (SE.ownIn (X := X) true hc hn sa sb)⟩
end
@[simp] theorem callRo_ok (m : List D → Res (List D)) (dd l : List D) : callRo m dd (.ok l) = m (l ++ dd) := id rfl
end Px

namespace Px
open PySem PySem.Spec PyProof.Rows L2
/-! ### == and != where one side is of a class with an own __eq__ -/
section
variable {prog : Program} {w : World} {A : Around} {E : Value → Shared → Prop} {s : Shared} {K : PySem.W.Frag} {x C L f : Addr} {h₀ : Heap} {ox : Obj} {od : Option Obj} {name : Str} {b tb : Value}
theorem ifBound_obj {M : Model} {id : String} {n : Str} {args : List Value} {Q : Option Value → Shared → Prop} (X : K.In s.heap) (I : PySem.W.InstAt s.heap x ox C od) (hs : PySem.W.findIn K (.ref C) name = some (some (.builtin id))) (S : Slot "object" n id)
    (h : wpAny M A (call (.builtin id) (.ref x :: args)) (fun v => Q (some v)) E s) : wpAny M A (callSpecialIfBound? (.ref x) name args) Q E s := by
  simp only [callSpecialIfBound?, bindSpecialIfBound?]
  refine wpAny_holding (wpAny_bind (wpAny_bind (wpAny_bind (I.type.here ((PySem.W.looks_findIn X hs).here ?_)))))
  simp only [S.bind]
  refine wpAny_bind (wpAny_askSetting (wpAny_ite ?_))
  have fin : wpAny M A (call (.builtin id) ([.ref x] ++ args) >>= fun v => pure (some v)) Q E s := wpAny_bind (wpAny_mono h (fun v s' h' => wpAny_pure h') fun _ _ h' => h')
  split
  · exact wpAny_bind (wpAny_pure (wpAny_pure fin))
  · exact wpAny_tryCatch (wpAny_bind (wpAny_pure (wpAny_pure fin)))
theorem check_obj {M : Model} {id n : String} {rest : List Value} {Q : Unit → Shared → Prop} (hk : builtinKind id = some .slot) (hs : splitId id = some ("object", n))
    (ha : argsOk id ⟨.ref x :: rest, []⟩) (X : K.In s.heap) (I : PySem.W.InstAt s.heap x ox C od) (hob : PySem.W.subIn K (.ref C) (.type "object") = some true) (hq : Q () s) :
    wpAny M A (checkBuiltinCall id ⟨.ref x :: rest, []⟩) Q E s := by
  simp only [checkBuiltinCall, hk, hs]
  refine wpAny_bind ?_
  · unfold isInstance
    refine wpAny_bind (I.type.here ((PySem.W.looks_subIn X hob).here ?_))
    repeat (first | wp_step)
    cases hsig : Manifest.signature? id with
    | none => exact wpAny_pure hq
    | some sig =>
      simp only [argsOk, hsig] at ha
      have h2 : Bind.checkArgs id sig ⟨.ref x :: rest, []⟩ = pure () := ha
      show wpAny M A (Bind.checkArgs id sig ⟨.ref x :: rest, []⟩) Q E _
      rw [h2]; exact wpAny_pure hq
/-- what the own == says, as != -/
theorem tryNe_own {Q : Option Value → Shared → Prop} (hu : A.units + 1 < cLine) (X : K.In s.heap) (I : PySem.W.InstAt s.heap x ox C od) (hob : PySem.W.subIn K (.ref C) (.type "object") = some true)
    (hn : PySem.W.findIn K (.ref C) "__ne__" = some (some (.builtin "object.__ne__"))) (he : PySem.W.findIn K (.ref C) "__eq__" = some (some (.ref f))) (hf : PySem.W.isFn K (.ref f) = true)
    (h : wpAny (model prog w) A.in1 (call (.ref f) [.ref x, b]) (fun v s' => ∃ k, v = .bool k ∧ Q (some (.bool (!k))) s') E s) : wpAny (model prog w) A (tryCompare (.ref x) "__ne__" b) Q E s := by
  simp only [tryCompare]
  refine wpAny_bind (ifBound_obj X I hn F.cmp_object.ne ?_)
  refine wpAny_call (codeAny_call_builtin F.cmp_object.ne.plain F.cmpEntry_ne (check_obj F.cmpKind_ne F.cmpSplit_ne (F.cmpArgs_ne _ _) X I hob ?_))
  unfold Builtin.«object.__ne__»
  repeat (first | with_reducible refine wpAny_cRoomFor hu ?_ | with_reducible refine PySem.W.ifBound_K X I he hf (wpAny_mono h (fun v s' z => ?_) fun _ _ e => e) | wp_step)
  obtain ⟨k, rfl, q⟩ := z
  repeat (first | wp_step)
  exact q
/-- a builtin left side that declines, then the right side of the own class -/
theorem cmp_rev {op : CmpOp} {a : Value} {T id : String} {Q : Value → Shared → Prop} (hu : A.units < cLine) (X : K.In s.heap) (I : PySem.W.InstAt s.heap x ox C od) (hT : s.TypeIs a T)
    (hn : PySem.W.subIn K (.ref C) (.type T) = some false) (h1 : Slot T (cmpInfo op).2.1 id)
    (hc : ∀ Q' : Value → Shared → Prop, Q' .notImplemented s → wpAny (model prog w) A (call (.builtin id) [a, .ref x]) Q' E s)
    (h : wpAny (model prog w) A (tryCompare (.ref x) (cmpInfo op).2.2 a) (fun r s' => ∃ v, r = some v ∧ Q v s') E s) : wpAny (model prog w) A (richCompare op a (.ref x)) Q E s := by
  rcases hi : cmpInfo op with ⟨sym, f, r⟩
  rw [hi] at h1 h
  simp only [richCompare, hi, hT.oneThing_none]
  refine wpAny_holding (wpAny_bind (wpAny_cRoomFor hu ?_))
  refine wpAny_bind (wpAny_typeOf hT (wpAny_bind (I.type.here ?_)))
  have hne : (Value.type T != Value.ref C) = true := rfl
  simp only [hne, if_true]
  refine wpAny_bind ((PySem.W.looks_subIn X hn).here ?_)
  simp only [Bool.false_eq_true, if_false, Bool.not_false, if_true]
  refine wpAny_bind (m := tryCompare a _ _) (wpAny_tryCompare_declines hT h1 (hc _ ⟨rfl, ?_⟩))
  refine wpAny_bind (m := tryCompare _ _ a) (wpAny_mono h (fun r s' z => ?_) fun _ _ e => e)
  obtain ⟨v, rfl, hq⟩ := z
  exact wpAny_pure hq
/-- the left side of another class without an own __eq__ -/
theorem tryEq_obj {y : Addr} {oy : Obj} {D : Addr} {od' : Option Obj} {Q : Option Value → Shared → Prop} (X : K.In s.heap) (I : PySem.W.InstAt s.heap x ox C od) (J : PySem.W.InstAt s.heap y oy D od') (hxy : x ≠ y) (hob : PySem.W.subIn K (.ref C) (.type "object") = some true)
    (he : PySem.W.findIn K (.ref C) "__eq__" = some (some (.builtin "object.__eq__"))) (hq : Q none s) : wpAny (model prog w) A (tryCompare (.ref x) "__eq__" (.ref y)) Q E s := by
  simp only [tryCompare]
  refine wpAny_bind (ifBound_obj X I he F.cmp_object.eq ?_)
  refine wpAny_call (codeAny_call_builtin F.cmp_object.eq.plain F.cmpEntry_eq (check_obj F.cmpKind_eq F.cmpSplit_eq (F.cmpArgs_eq _ _) X I hob ?_))
  exact objEq_entry_other hxy I.at_ J.at_ (by rw [I.cls]; exact fun z => nomatch z) (wpAny_pure hq)
theorem tryNe_obj {y : Addr} {oy : Obj} {D : Addr} {od' : Option Obj} {Q : Option Value → Shared → Prop} (hu : A.units + 1 < cLine) (X : K.In s.heap) (I : PySem.W.InstAt s.heap x ox C od) (J : PySem.W.InstAt s.heap y oy D od') (hxy : x ≠ y) (hob : PySem.W.subIn K (.ref C) (.type "object") = some true)
    (hn : PySem.W.findIn K (.ref C) "__ne__" = some (some (.builtin "object.__ne__"))) (he : PySem.W.findIn K (.ref C) "__eq__" = some (some (.builtin "object.__eq__"))) (hq : Q none s) : wpAny (model prog w) A (tryCompare (.ref x) "__ne__" (.ref y)) Q E s := by
  simp only [tryCompare]
  refine wpAny_bind (ifBound_obj X I hn F.cmp_object.ne ?_)
  refine wpAny_call (codeAny_call_builtin F.cmp_object.ne.plain F.cmpEntry_ne (check_obj F.cmpKind_ne F.cmpSplit_ne (F.cmpArgs_ne _ _) X I hob ?_))
  have hnt : ox.cls ≠ .type "tuple" := by rw [I.cls]; exact fun z => nomatch z
  unfold Builtin.«object.__ne__»
  repeat (first | with_reducible refine wpAny_cRoomFor hu ?_ | with_reducible refine ifBound_obj X I he F.cmp_object.eq (wpAny_call (codeAny_call_builtin F.cmp_object.eq.plain F.cmpEntry_eq (check_obj F.cmpKind_eq F.cmpSplit_eq (F.cmpArgs_eq _ _) X I hob (objEq_entry_other hxy I.at_ J.at_ hnt ?_)))) | wp_step)
  exact hq
/-- .. then the right side -/
theorem cmp_rev_obj {op : CmpOp} {y : Addr} {oy : Obj} {D : Addr} {od' : Option Obj} {Q : Value → Shared → Prop} (hu : A.units + 1 < cLine) (X : K.In s.heap) (I : PySem.W.InstAt s.heap x ox C od) (J : PySem.W.InstAt s.heap y oy D od') (hxy : y ≠ x) (hn : PySem.W.subIn K (.ref C) (.ref D) = some false)
    (h1 : ∀ Q' : Option Value → Shared → Prop, Q' none s → wpAny (model prog w) A (tryCompare (.ref y) (cmpInfo op).2.1 (.ref x)) Q' E s)
    (h : wpAny (model prog w) A (tryCompare (.ref x) (cmpInfo op).2.2 (.ref y)) (fun r s' => ∃ v, r = some v ∧ Q v s') E s) : wpAny (model prog w) A (richCompare op (.ref y) (.ref x)) Q E s := by
  rcases hi : cmpInfo op with ⟨sym, f, r⟩
  rw [hi] at h1 h
  simp only [richCompare, hi, oneThing_ref]
  refine wpAny_holding (wpAny_bind (wpAny_cRoomFor (by omega) ?_))
  refine wpAny_bind (J.type.here (wpAny_bind (I.type.here ?_)))
  have fin : wpAny (model prog w) A (do
      if let some v ← tryCompare (.ref y) f (.ref x) then return v
      if let some v ← tryCompare (.ref x) r (.ref y) then return v
      match op with
      | .Eq => rule "compare.eq-identity"; return .bool (← isSame (.ref y) (.ref x))
      | .NotEq => rule "compare.ne-identity"; return .bool (!(← isSame (.ref y) (.ref x)))
      | _ =>
        rule "compare.unsupported"
        raiseError "TypeError" s!"'{sym}' not supported between instances of '{← typeNameOf (.ref y)}' and '{← typeNameOf (.ref x)}'") Q E s := by
    refine wpAny_bind (m := tryCompare (.ref y) _ _) (h1 _ ?_)
    refine wpAny_bind (m := tryCompare _ _ (.ref y)) (wpAny_mono h (fun r s' z => ?_) fun _ _ e => e)
    obtain ⟨v, rfl, hq⟩ := z
    exact wpAny_pure hq
  by_cases e : D = C
  · subst e
    have hne : (Value.ref D != Value.ref D) = false := by simp
    simp only [hne, Bool.false_eq_true, if_false]
    refine wpAny_bind (wpAny_pure ?_)
    simp only [Bool.false_eq_true, if_false, Bool.not_false, if_true]
    exact fin
  · have hne : (Value.ref D != Value.ref C) = true := by simp [e]
    simp only [hne, if_true]
    refine wpAny_bind ((PySem.W.looks_subIn X hn).here ?_)
    simp only [Bool.false_eq_true, if_false, Bool.not_false, if_true]
    exact fin
/-! the builtin sides decline -/
theorem call_dec {T : String} {name : Str} {id : String} {B : Builtin} {self : Value} {rest : List Value} {Q : Value → Shared → Prop} (slot : Slot T name id) (hT : s.TypeIs self T)
    (entry : entryFor table id = some B) (args : argsOk id ⟨self :: rest, []⟩) (g : ∀ (E' : Value → Shared → Prop) (R : Fin → Shared → Prop), R (.done (.ret .notImplemented)) s → wpAny (model prog w) A.in1 (B ⟨self :: rest, []⟩) R E' s) (h : Q .notImplemented s) :
    wpAny (model prog w) A (call (.builtin id) (self :: rest)) Q E s :=
  wpAny_call (codeAny_call_builtin slot.plain entry (slot.check _ _ _ _ _ _ _ _ hT args (g _ _ h)))
theorem dec_none_eq {M : Model} {y : Addr} {R : Fin → Shared → Prop} (h : R (.done (.ret .notImplemented)) s) : wpAny M A (Builtin.«NoneType.__eq__» ⟨[.none, .ref y], []⟩) R E s := by
  obtain ⟨hp, g, d, tk, os⟩ := s; wp_walk; exact h
theorem dec_none_ne {M : Model} {y : Addr} {R : Fin → Shared → Prop} (h : R (.done (.ret .notImplemented)) s) : wpAny M A (Builtin.«NoneType.__ne__» ⟨[.none, .ref y], []⟩) R E s := by
  obtain ⟨hp, g, d, tk, os⟩ := s; wp_walk; exact h
theorem dec_bool_eq {M : Model} {y D dy : Addr} {b : Bool} {R : Fin → Shared → Prop} (hy : s.heap.get? y = some (PySem.W.instObj D dy)) (h : R (.done (.ret .notImplemented)) s) : wpAny M A (Builtin.«int.__eq__» ⟨[.bool b, .ref y], []⟩) R E s := by
  obtain ⟨hp, g, d, tk, os⟩ := s; wp_walk using wpAny_loadPart' hy, wpAny_load hy; exact h
theorem dec_bool_ne {M : Model} {y D dy : Addr} {b : Bool} {R : Fin → Shared → Prop} (hy : s.heap.get? y = some (PySem.W.instObj D dy)) (h : R (.done (.ret .notImplemented)) s) : wpAny M A (Builtin.«int.__ne__» ⟨[.bool b, .ref y], []⟩) R E s := by
  obtain ⟨hp, g, d, tk, os⟩ := s; wp_walk using wpAny_loadPart' hy, wpAny_load hy; exact h
theorem dec_int_eq {M : Model} {y D dy : Addr} {i : Int} {t : Tok} {R : Fin → Shared → Prop} (hy : s.heap.get? y = some (PySem.W.instObj D dy)) (h : R (.done (.ret .notImplemented)) s) : wpAny M A (Builtin.«int.__eq__» ⟨[.int i t, .ref y], []⟩) R E s := by
  obtain ⟨hp, g, d, tk, os⟩ := s; wp_walk using wpAny_loadPart' hy, wpAny_load hy; exact h
theorem dec_int_ne {M : Model} {y D dy : Addr} {i : Int} {t : Tok} {R : Fin → Shared → Prop} (hy : s.heap.get? y = some (PySem.W.instObj D dy)) (h : R (.done (.ret .notImplemented)) s) : wpAny M A (Builtin.«int.__ne__» ⟨[.int i t, .ref y], []⟩) R E s := by
  obtain ⟨hp, g, d, tk, os⟩ := s; wp_walk using wpAny_loadPart' hy, wpAny_load hy; exact h
theorem dec_str_eq {M : Model} {y D dy : Addr} {i : Str} {t : Tok} {R : Fin → Shared → Prop} (hy : s.heap.get? y = some (PySem.W.instObj D dy)) (h : R (.done (.ret .notImplemented)) s) : wpAny M A (Builtin.«str.__eq__» ⟨[.str i t, .ref y], []⟩) R E s := by
  obtain ⟨hp, g, d, tk, os⟩ := s; wp_walk using wpAny_loadPart' hy, wpAny_load hy; exact h
theorem dec_str_ne {M : Model} {y D dy : Addr} {i : Str} {t : Tok} {R : Fin → Shared → Prop} (hy : s.heap.get? y = some (PySem.W.instObj D dy)) (h : R (.done (.ret .notImplemented)) s) : wpAny M A (Builtin.«str.__ne__» ⟨[.str i t, .ref y], []⟩) R E s := by
  obtain ⟨hp, g, d, tk, os⟩ := s; wp_walk using wpAny_loadPart' hy, wpAny_load hy; exact h
theorem dec_list_eq {M : Model} {a y D dy : Addr} {R : Fin → Shared → Prop} (X : K.In s.heap) (hn : PySem.W.subIn K (.ref D) (.type "list") = some false) (hy : s.heap.get? y = some (PySem.W.instObj D dy)) (h : R (.done (.ret .notImplemented)) s) : wpAny M A (Builtin.«list.__eq__» ⟨[.ref a, .ref y], []⟩) R E s := by
  have hs : ∀ {A : Around} {E : Value → Shared → Prop} {Q : Bool → Shared → Prop}, Q false s → wpAny M A (isSubtype (.ref D) (.type "list")) Q E s := (PySem.W.looks_subIn X hn).here
  obtain ⟨hp, g, d, tk, os⟩ := s; wp_walk using wpAny_loadPart' hy, wpAny_load hy, hs; exact h
theorem dec_list_ne {M : Model} {a y D dy : Addr} {R : Fin → Shared → Prop} (X : K.In s.heap) (hn : PySem.W.subIn K (.ref D) (.type "list") = some false) (hy : s.heap.get? y = some (PySem.W.instObj D dy)) (h : R (.done (.ret .notImplemented)) s) : wpAny M A (Builtin.«list.__ne__» ⟨[.ref a, .ref y], []⟩) R E s := by
  have hs : ∀ {A : Around} {E : Value → Shared → Prop} {Q : Bool → Shared → Prop}, Q false s → wpAny M A (isSubtype (.ref D) (.type "list")) Q E s := (PySem.W.looks_subIn X hn).here
  obtain ⟨hp, g, d, tk, os⟩ := s; wp_walk using wpAny_loadPart' hy, wpAny_load hy, hs; exact h
theorem dec_tuple_eq {M : Model} {a y D dy : Addr} {R : Fin → Shared → Prop} (X : K.In s.heap) (hn : PySem.W.subIn K (.ref D) (.type "tuple") = some false) (hy : s.heap.get? y = some (PySem.W.instObj D dy)) (h : R (.done (.ret .notImplemented)) s) : wpAny M A (Builtin.«tuple.__eq__» ⟨[.ref a, .ref y], []⟩) R E s := by
  have hs : ∀ {A : Around} {E : Value → Shared → Prop} {Q : Bool → Shared → Prop}, Q false s → wpAny M A (isSubtype (.ref D) (.type "tuple")) Q E s := (PySem.W.looks_subIn X hn).here
  obtain ⟨hp, g, d, tk, os⟩ := s; wp_walk using wpAny_loadPart' hy, wpAny_load hy, hs; exact h
theorem dec_tuple_ne {M : Model} {a y D dy : Addr} {R : Fin → Shared → Prop} (X : K.In s.heap) (hn : PySem.W.subIn K (.ref D) (.type "tuple") = some false) (hy : s.heap.get? y = some (PySem.W.instObj D dy)) (h : R (.done (.ret .notImplemented)) s) : wpAny M A (Builtin.«tuple.__ne__» ⟨[.ref a, .ref y], []⟩) R E s := by
  have hs : ∀ {A : Around} {E : Value → Shared → Prop} {Q : Bool → Shared → Prop}, Q false s → wpAny M A (isSubtype (.ref D) (.type "tuple")) Q E s := (PySem.W.looks_subIn X hn).here
  obtain ⟨hp, g, d, tk, os⟩ := s; wp_walk using wpAny_loadPart' hy, wpAny_load hy, hs; exact h
end

def KindOf (d : D) (t : Value) : Prop := match d with
      | .non => t = .type "NoneType"
      | .bl _ => t = .type "bool"
      | .int _ => t = .type "int"
      | .str _ => t = .type "str"
      | .lst _ => t = .type "list"
      | .tup _ => t = .type "tuple"
      | _ => False
def Dec (X : Cx) (f : Str) (u : Value) (b : Addr) (s : Shared) (t : Value) : Prop := ∃ T id, t = .type T ∧ s.TypeIs u T ∧ Slot T f id ∧ ∀ (A : Around) (E : Value → Shared → Prop) (Q' : Value → Shared → Prop), Q' .notImplemented s → wpAny (model X.prog X.w) A (call (.builtin id) [u, .ref b]) Q' E s
section
variable {X : Cx} {pins : List (Addr × Obj)} {σ : L2.St} {H : Hp} {s : Shared}
theorem typeIs_of {x : V} {u : Value} {T : String} (I : Inv X pins σ H s) (rx : RelV x u) (ty : TyX X.K H x (.type T)) (hT : T = "list" ∨ T = "tuple") : ∃ a, u = .ref a ∧ s.TypeIs u T := by
  have hx : ∀ {t : Value}, TyX X.K H x t → t = .type T → ∃ a, u = .ref a ∧ s.TypeIs u T := by
    intro t ty e
    cases ty with
    | base b =>
      cases b with
      | non => cases e; rcases hT with h | h <;> exact absurd h (by decide)
      | bl y => cases e; rcases hT with h | h <;> exact absurd h (by decide)
      | int i => cases e; rcases hT with h | h <;> exact absurd h (by decide)
      | str y => cases e; rcases hT with h | h <;> exact absurd h (by decide)
      | flt y => cases e; rcases hT with h | h <;> exact absurd h (by decide)
      | @lst a xs ea =>
        cases e
        cases (show u = Value.ref a from rx)
        obtain ⟨_, _, n, _, h1⟩ := (show ObjOk X.prog X.w H s.heap a (.lst xs) from I.hok a _ ea)
        exact ⟨a, rfl, _, h1, rfl⟩
      | @frz a ob xs ea =>
        cases e
        cases (show u = Value.ref a from rx)
        obtain ⟨_, _, _, n, _, h1⟩ := (show ObjOk X.prog X.w H s.heap a (.frz ob (.lst xs)) from I.hok a _ ea)
        exact ⟨a, rfl, _, h1, rfl⟩
      | @tup a xs ea =>
        cases e
        cases (show u = Value.ref a from rx)
        obtain ⟨_, _, _, o, h1, h2, _⟩ := (show ObjOk X.prog X.w H s.heap a (.tup xs) from I.hok a _ ea)
        exact ⟨a, rfl, o, h1, h2⟩
      | dK _ => cases e; rcases hT with h | h <;> exact absurd h (by decide)
      | dT _ => cases e; rcases hT with h | h <;> exact absurd h (by decide)
      | ins _ _ _ _ _ _ => cases e
    | byt y => cases e; rcases hT with h | h <;> exact absurd h (by decide)
    | set _ => cases e; rcases hT with h | h <;> exact absurd h (by decide)
    | @kList a o ea c =>
      cases e
      cases (show u = Value.ref a from rx)
      exact ⟨a, rfl, o, I.kIn a o ea, c⟩
    | @kTuple a o ea c =>
      cases e
      cases (show u = Value.ref a from rx)
      exact ⟨a, rfl, o, I.kIn a o ea, c⟩
    | kDict _ _ => cases e; rcases hT with h | h <;> exact absurd h (by decide)
    | @fTuple a o xs ea =>
      cases e
      cases (show u = Value.ref a from rx)
      obtain ⟨_, _, _, _, _, h1, h2, _⟩ := (show ObjOk X.prog X.w H s.heap a (.frz o (.tup xs)) from I.hok a _ ea)
      exact ⟨a, rfl, _, h1, h2⟩
    | fDict _ => cases e; rcases hT with h | h <;> exact absurd h (by decide)
  exact hx ty rfl
theorem dec_eq {d : D} {T : Kt} {G : Hp} {v : V} {u : Value} {t : Value} {b B db : Addr} (I : Inv X pins σ H s) (rx : RelV v u) (ty : TyX X.K H v t) (r : Rep T G v d)
    (ht : KindOf d t)
    (hb : s.heap.get? b = some (PySem.W.instObj B db)) (hs : ∀ n ∈ ["NoneType", "bool", "int", "str", "list", "tuple"], PySem.W.subIn X.K (.ref B) (.type n) = some false) :
    ∃ T, t = .type T ∧ PySem.W.subIn X.K (.ref B) (.type T) = some false ∧ Dec X "__eq__" u b s t := by
  cases d with
  | non => subst ht; cases r; cases (show u = Value.none from rx); exact ⟨_, rfl, hs _ (by simp), _, _, rfl, rfl, F.slot_NoneType_eq, fun A E Q' q => call_dec F.slot_NoneType_eq rfl F.entry_NoneType_eq (F.args_NoneType_eq_2 _ _) (fun _ _ h => dec_none_eq h) q⟩
  | bl x => subst ht; cases r; cases (show u = Value.bool x from rx); exact ⟨_, rfl, hs _ (by simp), _, _, rfl, rfl, F.slot_bool_eq, fun A E Q' q => call_dec F.slot_bool_eq rfl F.entry_int_eq (F.args_int_eq_2 _ _) (fun _ _ h => dec_bool_eq hb h) q⟩
  | int x => subst ht; cases r; obtain ⟨tk, rfl⟩ := (show ∃ t, u = Value.int x t from rx); exact ⟨_, rfl, hs _ (by simp), _, _, rfl, rfl, F.slot_int_eq, fun A E Q' q => call_dec F.slot_int_eq rfl F.entry_int_eq (F.args_int_eq_2 _ _) (fun _ _ h => dec_int_eq hb h) q⟩
  | str x => subst ht; cases r; obtain ⟨tk, rfl⟩ := (show ∃ t, u = Value.str x t from rx); exact ⟨_, rfl, hs _ (by simp), _, _, rfl, rfl, F.slot_str_eq, fun A E Q' q => call_dec F.slot_str_eq rfl F.entry_str_eq (F.args_str_eq_2 _ _) (fun _ _ h => dec_str_eq hb h) q⟩
  | lst x => subst ht; obtain ⟨a, rfl, h⟩ := typeIs_of I rx ty (.inl rfl); exact ⟨_, rfl, hs _ (by simp), _, _, rfl, h, F.slot_list_eq, fun A E Q' q => call_dec F.slot_list_eq h F.entry_list_eq (F.args_list_eq_2 _ _) (fun _ _ h => dec_list_eq I.kIn (hs _ (by simp)) hb h) q⟩
  | tup x => subst ht; obtain ⟨a, rfl, h⟩ := typeIs_of I rx ty (.inr rfl); exact ⟨_, rfl, hs _ (by simp), _, _, rfl, h, F.slot_tuple_eq, fun A E Q' q => call_dec F.slot_tuple_eq h F.entry_tuple_eq (F.args_tuple_eq_2 _ _) (fun _ _ h => dec_tuple_eq I.kIn (hs _ (by simp)) hb h) q⟩
  | scr _ => exact ht.elim
  | obj _ _ => exact ht.elim
  | dic _ _ => exact ht.elim
theorem dec_ne {d : D} {T : Kt} {G : Hp} {v : V} {u : Value} {t : Value} {b B db : Addr} (I : Inv X pins σ H s) (rx : RelV v u) (ty : TyX X.K H v t) (r : Rep T G v d)
    (ht : KindOf d t)
    (hb : s.heap.get? b = some (PySem.W.instObj B db)) (hs : ∀ n ∈ ["NoneType", "bool", "int", "str", "list", "tuple"], PySem.W.subIn X.K (.ref B) (.type n) = some false) :
    ∃ T, t = .type T ∧ PySem.W.subIn X.K (.ref B) (.type T) = some false ∧ Dec X "__ne__" u b s t := by
  cases d with
  | non => subst ht; cases r; cases (show u = Value.none from rx); exact ⟨_, rfl, hs _ (by simp), _, _, rfl, rfl, F.slot_NoneType_ne, fun A E Q' q => call_dec F.slot_NoneType_ne rfl F.entry_NoneType_ne (F.args_NoneType_ne_2 _ _) (fun _ _ h => dec_none_ne h) q⟩
  | bl x => subst ht; cases r; cases (show u = Value.bool x from rx); exact ⟨_, rfl, hs _ (by simp), _, _, rfl, rfl, F.slot_bool_ne, fun A E Q' q => call_dec F.slot_bool_ne rfl F.entry_int_ne (F.args_int_ne_2 _ _) (fun _ _ h => dec_bool_ne hb h) q⟩
  | int x => subst ht; cases r; obtain ⟨tk, rfl⟩ := (show ∃ t, u = Value.int x t from rx); exact ⟨_, rfl, hs _ (by simp), _, _, rfl, rfl, F.slot_int_ne, fun A E Q' q => call_dec F.slot_int_ne rfl F.entry_int_ne (F.args_int_ne_2 _ _) (fun _ _ h => dec_int_ne hb h) q⟩
  | str x => subst ht; cases r; obtain ⟨tk, rfl⟩ := (show ∃ t, u = Value.str x t from rx); exact ⟨_, rfl, hs _ (by simp), _, _, rfl, rfl, F.slot_str_ne, fun A E Q' q => call_dec F.slot_str_ne rfl F.entry_str_ne (F.args_str_ne_2 _ _) (fun _ _ h => dec_str_ne hb h) q⟩
  | lst x => subst ht; obtain ⟨a, rfl, h⟩ := typeIs_of I rx ty (.inl rfl); exact ⟨_, rfl, hs _ (by simp), _, _, rfl, h, F.slot_list_ne, fun A E Q' q => call_dec F.slot_list_ne h F.entry_list_ne (F.args_list_ne_2 _ _) (fun _ _ h => dec_list_ne I.kIn (hs _ (by simp)) hb h) q⟩
  | tup x => subst ht; obtain ⟨a, rfl, h⟩ := typeIs_of I rx ty (.inr rfl); exact ⟨_, rfl, hs _ (by simp), _, _, rfl, h, F.slot_tuple_ne, fun A E Q' q => call_dec F.slot_tuple_ne h F.entry_tuple_ne (F.args_tuple_ne_2 _ _) (fun _ _ h => dec_tuple_ne I.kIn (hs _ (by simp)) hb h) q⟩
  | scr _ => exact ht.elim
  | obj _ _ => exact ht.elim
  | dic _ _ => exact ht.elim
end
end Px

namespace Px
open PySem PySem.Spec PyProof.Rows L2
section
variable {prog : Program} {w : World} {A : Around} {E : Value → Shared → Prop} {s : Shared} {K : PySem.W.Frag} {x C L f : Addr} {h₀ : Heap} {ox : Obj} {od : Option Obj} {name : Str} {b tb : Value}
theorem tryEq_own {Q : Option Value → Shared → Prop} (X : K.In s.heap) (I : PySem.W.InstAt s.heap x ox C od)
    (he : PySem.W.findIn K (.ref C) "__eq__" = some (some (.ref f))) (hf : PySem.W.isFn K (.ref f) = true)
    (h : wpAny (model prog w) A (call (.ref f) [.ref x, b]) (fun v s' => ∃ k, v = .bool k ∧ Q (some (.bool k)) s') E s) : wpAny (model prog w) A (tryCompare (.ref x) "__eq__" b) Q E s := by
  simp only [tryCompare]
  refine wpAny_bind (PySem.W.ifBound_K X I he hf (wpAny_mono h (fun v s' z => ?_) fun _ _ e => e))
  obtain ⟨k, rfl, q⟩ := z
  exact wpAny_pure q
theorem cmp_left {op : CmpOp} {Q : Value → Shared → Prop} (hu : A.units < cLine) (X : K.In s.heap) (I : PySem.W.InstAt s.heap x ox C od) (hb : PySem.W.Looks (model prog w) s.heap (typeOf b) tb) (hn : PySem.W.notFirst K C tb = true)
    (one : wpAny (model prog w) A (tryCompare (.ref x) (cmpInfo op).2.1 b) (fun r s' => ∃ v, r = some v ∧ Q v s') E s) : wpAny (model prog w) A (richCompare op (.ref x) b) Q E s := by
  unfold richCompare
  simp only [oneThing_ref]
  refine wpAny_holding (wpAny_bind (wpAny_cRoomFor hu ?_))
  refine wpAny_bind (I.type.here (wpAny_bind (hb.here ?_)))
  split
  · rename_i q
    have e : PySem.W.subIn K tb (.ref C) = some false := by
      rcases Bool.or_eq_true_iff.mp hn with e | e
      · rw [beq_iff_eq.mp e] at q; simp at q
      · exact beq_iff_eq.mp e
    refine wpAny_bind ((PySem.W.looks_subIn X e).here ?_)
    simp only [Bool.false_eq_true, if_false]
    refine wpAny_bind (wpAny_mono one (fun r s' z => ?_) fun _ _ e => e)
    obtain ⟨v, rfl, hq⟩ := z
    exact wpAny_pure hq
  · refine wpAny_bind (wpAny_pure ?_)
    simp only [Bool.false_eq_true, if_false]
    refine wpAny_bind (wpAny_mono one (fun r s' z => ?_) fun _ _ e => e)
    obtain ⟨v, rfl, hq⟩ := z
    exact wpAny_pure hq
end
/-- a class without an own __eq__ or __ne__, beside the class at C -/
structure PlainEq (K : PySem.W.Frag) (C D : Addr) : Prop where
  eq : PySem.W.findIn K (.ref D) "__eq__" = some (some (.builtin "object.__eq__"))
  ne : PySem.W.findIn K (.ref D) "__ne__" = some (some (.builtin "object.__ne__"))
  ob : PySem.W.subIn K (.ref D) (.type "object") = some true
  sb : PySem.W.subIn K (.ref C) (.ref D) = some false
  df : D ≠ C
/-- the class at C has an own __eq__ and no own __ne__ -/
structure OwnEq (K : PySem.W.Frag) (C f : Addr) : Prop where
  eq : PySem.W.findIn K (.ref C) "__eq__" = some (some (.ref f))
  ne : PySem.W.findIn K (.ref C) "__ne__" = some (some (.builtin "object.__ne__"))
  fn : PySem.W.isFn K (.ref f) = true
  ob : PySem.W.subIn K (.ref C) (.type "object") = some true
  bt : ∀ n ∈ ["NoneType", "bool", "int", "str", "list", "tuple"], PySem.W.subIn K (.ref C) (.type n) = some false
inductive DecV (K : PySem.W.Frag) (C : Addr) (H : Hp) (x : V) : Prop where
  | bt {T : Kt} {G : Hp} {d : D} {t : Value} (r : Rep T G x d) (ty : TyX K H x t) (k : KindOf d t) : DecV K C H x
  | own {a D dx : Addr} {fs : List (Str × V)} (e : x = .ref a) (h : H a = some (.ins D dx fs)) (p : PlainEq K C D) : DecV K C H x
def QN (neg : Bool) (Q : VK) : VK := fun r H => ∃ k, r = .bl k ∧ Q (.bl (neg != k)) H
def tCmpOwn (K : PySem.W.Frag) (C : Addr) (neg : Bool) (sp : Sp) (E : L2.St → XK) (ta tb : TE) : TE := fun σ H Q => ta σ H fun x H1 => tb σ H1 fun y H2 =>
  (∃ a dx fs t, x = .ref a ∧ H2 a = some (.ins C dx fs) ∧ TyX K H2 y t ∧ PySem.W.notFirst K C t = true ∧ sp [x, y] H2 (QN neg Q) (E σ))
  ∨ (∃ b dy gs, y = .ref b ∧ H2 b = some (.ins C dy gs) ∧ DecV K C H2 x ∧ sp [y, x] H2 (QN neg Q) (E σ))
section
variable {X : Cx} {CX : CXT} {k : Nat} {f C : Addr} {fd : FuncData} {ps : List Str} {sp : Sp} {E : L2.St → XK} {pos : Pos} {l r : Expr} {ta tb : TE}
theorem own_call {pins : List (Addr × Obj)} {σ : L2.St} {H : Hp} {s : Shared} {Q : VK} {E : XK} {A : Around} {neg : Bool} {a : Addr} {v : V} {u : Value} {R : Value → Shared → Prop} (hA : A.frames = X.A.frames) (F : FnOk X.prog X.w X.K X.mg X.base CX k f fd ps sp) (hr : Room k A) (hb : Binds X.K fd ps []) (hx : PassesAt CX X σ E)
    (I : Inv X pins σ H s) (rv : RelV v u) (h : sp [.ref a, v] H (QN neg Q) E) (hR : ∀ k s', EP X pins σ Q (.bool (neg != k)) s' → R (.bool k) s') : wpAny (model X.prog X.w) A (call (.ref f) [.ref a, u]) (fun z s' => ∃ k, z = .bool k ∧ R (.bool k) s') X.xe s := by
  refine thn (run_fnD (us := [.ref a, u]) (vs := [.ref a, v]) (dvs := []) hA F hr hb .nil hx I (.cons rfl (.cons rv .nil)) h) fun z s3 hq => ?_
  obtain ⟨w, H3, I3, rw3, k, rfl, q3⟩ := hq
  cases rw3
  exact ⟨k, rfl, hR k s3 ⟨.bl _, H3, I3, rfl, q3⟩⟩
theorem roomLt {k : Nat} {A : Around} (r : Room k A) : A.units + 1 < cLine := by have := r.un; omega
/-- e == f -/
theorem pe_cmpEq (hl : PE X l ta) (hr' : PE X r tb) (O : OwnEq X.K C f)
    (F : FnOk X.prog X.w X.K X.mg X.base CX k f fd ps sp) (hr : Room k X.A) (hb : Binds X.K fd ps []) (hx : ∀ σ, PassesAt CX X σ (E σ)) (hm : behindInMarks .Eq r = false) : PE X (.Compare l [.Eq] [r] pos) (tCmpOwn X.K C false sp E ta tb) := by
  refine ⟨fun pins s σ H Q I h => wpAny_Compare1 (binT hl hr' I h fun v u s2 x y H2 I2 rx ry q => ?_) hm⟩
  show wpAny _ _ (richCompare .Eq v u) _ _ _
  rcases q with ⟨a, dx, fs, t, rfl, ha, ty, nf, q⟩ | ⟨b, dy, gs, rfl, hb', dv, q⟩
  · cases rx
    obtain ⟨mA, J, _⟩ := ins_get I2.hok ha
    obtain ⟨od, J, _⟩ := J.look
    obtain ⟨P, Z, p, _⟩ := kit_of I2 ry ty
    refine cmp_left (op := .Eq) (tb := t) hr.units0 I2.kIn J (Z.ty _ _ I2.kIn p) nf ?_
    refine tryEq_own I2.kIn J O.eq O.fn ?_
    exact own_call rfl F hr hb (hx σ) I2 ry q (R := fun v s' => ∃ v', some v = some v' ∧ EP X pins σ Q v' s') (fun k s' z => ⟨_, rfl, by simpa using z⟩)
  · cases ry
    obtain ⟨mA, J0, _⟩ := ins_get I2.hok hb'
    obtain ⟨od, J, _⟩ := J0.look
    cases dv with
    | bt rr ty kd =>
      obtain ⟨T, rfl, hsb, T', id, e, hT, hs, hc⟩ := dec_eq I2 rx ty rr kd J0.obj O.bt
      cases e
      refine cmp_rev (op := .Eq) hr.units0 I2.kIn J hT hsb hs (fun Q' h => hc _ _ _ h) ?_
      refine tryEq_own I2.kIn J O.eq O.fn ?_
      exact own_call rfl F hr hb (hx σ) I2 rx q (R := fun v s' => ∃ v', some v = some v' ∧ EP X pins σ Q v' s') (fun k s' z => ⟨_, rfl, by simpa using z⟩)
    | @own a D dx fs e ha pe =>
      subst e
      cases rx
      obtain ⟨mA', J0', _⟩ := ins_get I2.hok ha
      obtain ⟨od', J', _⟩ := J0'.look
      have hab : a ≠ b := fun z => by
        subst z
        rw [hb'] at ha
        injection ha with ha
        injection ha with ha
        exact pe.df ha.symm
      refine cmp_rev_obj (op := .Eq) (roomLt hr) I2.kIn J J' hab pe.sb (fun Q' h => tryEq_obj I2.kIn J' J hab pe.ob pe.eq h) ?_
      refine tryEq_own I2.kIn J O.eq O.fn ?_
      exact own_call rfl F hr hb (hx σ) I2 (v := .ref a) (u := .ref a) rfl q (R := fun v s' => ∃ v', some v = some v' ∧ EP X pins σ Q v' s') (fun k s' z => ⟨_, rfl, by simpa using z⟩)
/-- e != f -/
theorem pe_cmpNe (hl : PE X l ta) (hr' : PE X r tb) (O : OwnEq X.K C f)
    (F : FnOk X.prog X.w X.K X.mg X.base CX k f fd ps sp) (hr : Room (k + 1) X.A) (hb : Binds X.K fd ps []) (hx : ∀ σ, PassesAt CX X σ (E σ)) (hm : behindInMarks .NotEq r = false) : PE X (.Compare l [.NotEq] [r] pos) (tCmpOwn X.K C true sp E ta tb) := by
  refine ⟨fun pins s σ H Q I h => wpAny_Compare1 (binT hl hr' I h fun v u s2 x y H2 I2 rx ry q => ?_) hm⟩
  show wpAny _ _ (richCompare .NotEq v u) _ _ _
  have hr1 : Room k X.A.in1 := hr.in1
  rcases q with ⟨a, dx, fs, t, rfl, ha, ty, nf, q⟩ | ⟨b, dy, gs, rfl, hb', dv, q⟩
  · cases rx
    obtain ⟨mA, J, _⟩ := ins_get I2.hok ha
    obtain ⟨od, J, _⟩ := J.look
    obtain ⟨P, Z, p, _⟩ := kit_of I2 ry ty
    refine cmp_left (op := .NotEq) (tb := t) hr.units0 I2.kIn J (Z.ty _ _ I2.kIn p) nf ?_
    refine tryNe_own (roomLt hr) I2.kIn J O.ob O.ne O.eq O.fn ?_
    exact thn (own_call rfl F hr1 hb (hx σ) I2 ry q (R := fun v s' => ∃ k, v = .bool k ∧ EP X pins σ Q (.bool (!k)) s') (fun k s' z => ⟨k, rfl, by simpa using z⟩)) fun z s3 hq => by
      obtain ⟨k, rfl, k', e, q⟩ := hq; cases e; exact ⟨k, rfl, _, rfl, q⟩
  · cases ry
    obtain ⟨mA, J0, _⟩ := ins_get I2.hok hb'
    obtain ⟨od, J, _⟩ := J0.look
    cases dv with
    | bt rr ty kd =>
      obtain ⟨T, rfl, hsb, T', id, e, hT, hs, hc⟩ := dec_ne I2 rx ty rr kd J0.obj O.bt
      cases e
      refine cmp_rev (op := .NotEq) hr.units0 I2.kIn J hT hsb hs (fun Q' h => hc _ _ _ h) ?_
      refine tryNe_own (roomLt hr) I2.kIn J O.ob O.ne O.eq O.fn ?_
      exact thn (own_call rfl F hr1 hb (hx σ) I2 rx q (R := fun v s' => ∃ k, v = .bool k ∧ EP X pins σ Q (.bool (!k)) s') (fun k s' z => ⟨k, rfl, by simpa using z⟩)) fun z s3 hq => by
        obtain ⟨k, rfl, k', e, q⟩ := hq; cases e; exact ⟨k, rfl, _, rfl, q⟩
    | @own a D dx fs e ha pe =>
      subst e
      cases rx
      obtain ⟨mA', J0', _⟩ := ins_get I2.hok ha
      obtain ⟨od', J', _⟩ := J0'.look
      have hab : a ≠ b := fun z => by
        subst z
        rw [hb'] at ha
        injection ha with ha
        injection ha with ha
        exact pe.df ha.symm
      refine cmp_rev_obj (op := .NotEq) (roomLt hr) I2.kIn J J' hab pe.sb (fun Q' h => tryNe_obj (roomLt hr) I2.kIn J' J hab pe.ob pe.ne pe.eq h) ?_
      refine tryNe_own (roomLt hr) I2.kIn J O.ob O.ne O.eq O.fn ?_
      exact thn (own_call rfl F hr1 hb (hx σ) I2 (v := .ref a) (u := .ref a) rfl q (R := fun v s' => ∃ k, v = .bool k ∧ EP X pins σ Q (.bool (!k)) s') (fun k s' z => ⟨k, rfl, by simpa using z⟩)) fun z s3 hq => by
        obtain ⟨k, rfl, k', e, q⟩ := hq; cases e; exact ⟨k, rfl, _, rfl, q⟩
end
/-! ### over data -/
def ownPick (sub : Nat → Nat → Bool) (c : Nat) (oth : List Nat) (a b : D) : Option (D × D) := match a with
  | .obj c1 _ => if c1 = c then (match b with
      | .obj c2 _ => if c2 = c ∨ sub c2 c = false then some (a, b) else none
      | .scr _ => none
      | _ => some (a, b))
    else (match b with
      | .obj c2 _ => if c2 = c ∧ c1 ∈ oth then some (b, a) else none
      | _ => none)
  | .scr _ => none
  | .dic _ _ => none
  | _ => match b with
      | .obj c2 _ => if c2 = c then some (b, a) else none
      | _ => none
def ownCmpR (sub : Nat → Nat → Bool) (c : Nat) (oth : List Nat) (neg : Bool) (m : List D → Res D) (ma mb : Res D) : Res D := ma.bind fun a => mb.bind fun b => match ownPick sub c oth a b with
  | some p => (m [p.1, p.2]).bind fun r => (match r with
      | .bl k => .ok (.bl (neg != k))
      | _ => .bad)
  | none => .bad
section
variable {X : Cx} {T : Kt} {W : WX} {k k' : Nat} {env : Env'} {a b : Expr} {ma mb : Res D} {pos : Pos} {mm : List D → Res D} {f C : Addr} {fd : FuncData} {ps : List Str} {n cc : Nat} {oth : List Nat}
theorem rep_ins {G : Hp} {v : V} {c : Nat} {l : List D} {C : Addr} (hc : T.ca c = some C) (r : Rep T G v (.obj c l)) : ∃ a dx fs, v = .ref a ∧ G a = some (.ins C dx fs) := by
  obtain ⟨a, C', dx, ns, vs, rfl, hc', hg, _⟩ := rep_obj r
  rw [hc] at hc'
  cases hc'
  exact ⟨_, _, _, rfl, hg⟩
theorem SE.cmpOwn {X : Cx} (neg : Bool) {ta tb : TE} (S : KtOk T) (hK : X.K = T.K) (hc : T.ca cc = some C) (hnf : ∀ n ∈ ["NoneType", "bool", "int", "str", "list", "tuple", "dict"], PySem.W.notFirst T.K C (.type n) = true)
    (hnc : ∀ d E, T.ca d = some E → d = cc ∨ T.sub d cc = false → PySem.W.notFirst T.K C (.ref E) = true) (hpo : ∀ d ∈ oth, ∀ E, T.ca d = some E → PlainEq T.K C E) (hca : ∀ d ∈ oth, ∃ E, T.ca d = some E)
    (hn : ∀ ds, ds.length ≠ n → mm ds = .bad) (sa : SE T W ta env ma) (sb : SE T W tb env mb) :
    SE T W (tCmpOwn X.K C neg (pureSp T n mm) (WE W) ta tb) env (ownCmpR T.sub cc oth neg mm ma mb) := by
  intro H0 σ H G M Q h
  refine sa H0 σ H G M _ ((Res.sat_bind h).mono (fun d1 hd1 v1 H1 G1 f1 r1 => ?_) fun _ _ z => z)
  refine sb H0 σ H1 G1 (M.fr f1) _ ((Res.sat_bind hd1).mono (fun d2 hd2 v2 H2 G2 f2 r2 => ?_) fun _ _ z => z.fr f1)
  have f12 := f1.trans f2
  have r1' := r1.mono f2.g
  have go : ∀ {e1 e2 : D} {w1 w2 : V}, Rep T G2 w1 e1 → Rep T G2 w2 e2 → (((mm [e1, e2]).bind fun r => (match r with
      | .bl k => .ok (.bl (neg != k))
      | _ => .bad : Res D)).sat (PQ T G H Q) (EX T (WE W σ) G H)) → pureSp T n mm [w1, w2] H2 (QN neg Q) (WE W σ) := fun ra rb z => by
    refine pure_of (σ := σ) (E := WE W σ) f2.s (.cons ra (.cons rb .nil)) hn ((Res.sat_bind z).mono (fun r hr v3 H3 G3 f3 r3 => ?_) fun _ _ z => z.fr f12)
    cases r3 <;> try exact hr.elim
    rename_i kk
    exact ⟨kk, rfl, (PQ.fr f12 hr).fr f3 _ _ _ (Fr.refl f3.s) (.bl _)⟩
  rw [hK]
  cases hp : ownPick T.sub cc oth d1 d2 with
  | none => simp only [hp] at hd2; exact hd2.elim
  | some p =>
    simp only [hp] at hd2
    have left : ∀ {c1 : Nat} {l1 : List D}, d1 = .obj c1 l1 → c1 = cc → p = (d1, d2) → (∀ l, d2 ≠ .scr l) → (∀ c2 l2, d2 = .obj c2 l2 → c2 = cc ∨ T.sub c2 cc = false) →
        ∃ a dx fs t, v1 = .ref a ∧ H2 a = some (.ins C dx fs) ∧ TyX T.K H2 v2 t ∧ PySem.W.notFirst T.K C t = true ∧ pureSp T n mm [v1, v2] H2 (QN neg Q) (WE W σ) := by
      rintro c1 l1 rfl rfl rfl hscr hob
      obtain ⟨a, dx, fs, rfl, hg⟩ := rep_ins hc r1'
      obtain ⟨t, ty, ht⟩ := ty_of S f2.s r2 hscr
      refine ⟨a, dx, fs, t, rfl, f2.s _ _ hg, ty, ?_, go r1' r2 hd2⟩
      cases d2 with
      | non => subst ht; exact hnf _ (by simp)
      | bl b => subst ht; exact hnf _ (by simp)
      | int b => subst ht; exact hnf _ (by simp)
      | str b => subst ht; exact hnf _ (by simp)
      | lst b => subst ht; exact hnf _ (by simp)
      | scr b => exact ht.elim
      | tup b => subst ht; exact hnf _ (by simp)
      | dic b b2 => subst ht; exact hnf _ (by simp)
      | obj c2 l2 => obtain ⟨C', hc', rfl⟩ := ht; exact hnc _ _ hc' (hob _ _ rfl)
    have right : ∀ {l2 : List D}, d2 = .obj cc l2 → p = (d2, d1) → DecV T.K C H2 v1 →
        ∃ b dy gs, v2 = .ref b ∧ H2 b = some (.ins C dy gs) ∧ DecV T.K C H2 v1 ∧ pureSp T n mm [v2, v1] H2 (QN neg Q) (WE W σ) := by
      rintro l2 rfl rfl dv
      obtain ⟨b, dy, gs, rfl, hg⟩ := rep_ins hc r2
      exact ⟨b, dy, gs, rfl, f2.s _ _ hg, dv, go r2 r1' hd2⟩
    cases d1 with
    | scr _ => cases hp
    | dic _ _ => cases hp
    | obj c1 l1 =>
      by_cases e1 : c1 = cc
      · refine .inl ?_
        simp only [ownPick, if_pos e1] at hp
        cases d2 with
        | scr _ => cases hp
        | obj c2 l2 =>
          by_cases e2 : c2 = cc ∨ T.sub c2 cc = false
          · simp only [if_pos e2] at hp
            cases hp
            exact left rfl e1 rfl nofun (fun _ _ z => by cases z; exact e2)
          · simp only [if_neg e2] at hp; cases hp
        | _ => cases hp; exact left rfl e1 rfl nofun nofun
      · refine .inr ?_
        simp only [ownPick, if_neg e1] at hp
        cases d2 with
        | obj c2 l2 =>
          by_cases e2 : c2 = cc ∧ c1 ∈ oth
          · simp only [if_pos e2] at hp
            obtain ⟨rfl, e2⟩ := e2
            cases hp
            obtain ⟨E, hE⟩ := hca _ e2
            obtain ⟨a, dx, fs, rfl, hg⟩ := rep_ins hE r1'
            exact right rfl rfl (.own rfl (f2.s _ _ hg) (hpo _ e2 _ hE))
          · simp only [if_neg e2] at hp; cases hp
        | _ => cases hp
    | _ =>
      refine .inr ?_
      cases d2 with
      | obj c2 l2 =>
        by_cases e2 : c2 = cc
        · simp only [ownPick, if_pos e2] at hp
          subst e2
          cases hp
          obtain ⟨t, ty, ht⟩ := ty_of S f2.s r1' nofun
          exact right rfl rfl (.bt r1' ty ht)
        · simp only [ownPick, if_neg e2] at hp; cases hp
      | _ => cases hp
theorem px_cmpEq (Cc : Ctx X T W k') (S : KtOk T) (O : OwnEq T.K C f) (hc : T.ca cc = some C) (hnf : ∀ n ∈ ["NoneType", "bool", "int", "str", "list", "tuple", "dict"], PySem.W.notFirst T.K C (.type n) = true)
    (hnc : ∀ d E, T.ca d = some E → d = cc ∨ T.sub d cc = false → PySem.W.notFirst T.K C (.ref E) = true) (hpo : ∀ d ∈ oth, ∀ E, T.ca d = some E → PlainEq T.K C E) (hca : ∀ d ∈ oth, ∃ E, T.ca d = some E)
    (F : FnOk X.prog X.w X.K X.mg X.base (L2.CX X.prog X.w) k f fd ps (pureSp T n mm)) (hn : ∀ ds, ds.length ≠ n → mm ds = .bad) (hk : k < k') (hb : L2.Binds X.K fd ps []) (ha : PX X T W a env ma) (hb' : PX X T W b env mb) (hm : behindInMarks .Eq b = false) : PX X T W (.Compare a [.Eq] [b] pos) env (ownCmpR T.sub cc oth false mm ma mb) := by
  obtain ⟨ta, pa, sa⟩ := ha.ex
  obtain ⟨tb, pb, sb⟩ := hb'.ex
  exact ⟨_, pe_cmpEq pa pb (by rw [Cc.kk]; exact O) F (Cc.room.mono (by omega)) hb Cc.pass hm, SE.cmpOwn false S Cc.kk hc hnf hnc hpo hca hn sa sb⟩
theorem px_cmpNe (Cc : Ctx X T W k') (S : KtOk T) (O : OwnEq T.K C f) (hc : T.ca cc = some C) (hnf : ∀ n ∈ ["NoneType", "bool", "int", "str", "list", "tuple", "dict"], PySem.W.notFirst T.K C (.type n) = true)
    (hnc : ∀ d E, T.ca d = some E → d = cc ∨ T.sub d cc = false → PySem.W.notFirst T.K C (.ref E) = true) (hpo : ∀ d ∈ oth, ∀ E, T.ca d = some E → PlainEq T.K C E) (hca : ∀ d ∈ oth, ∃ E, T.ca d = some E)
    (F : FnOk X.prog X.w X.K X.mg X.base (L2.CX X.prog X.w) k f fd ps (pureSp T n mm)) (hn : ∀ ds, ds.length ≠ n → mm ds = .bad) (hk : k < k') (hb : L2.Binds X.K fd ps []) (ha : PX X T W a env ma) (hb' : PX X T W b env mb) (hm : behindInMarks .NotEq b = false) : PX X T W (.Compare a [.NotEq] [b] pos) env (ownCmpR T.sub cc oth true mm ma mb) := by
  obtain ⟨ta, pa, sa⟩ := ha.ex
  obtain ⟨tb, pb, sb⟩ := hb'.ex
  exact ⟨_, pe_cmpNe pa pb (by rw [Cc.kk]; exact O) F (Cc.room.mono (by omega)) hb Cc.pass hm, SE.cmpOwn true S Cc.kk hc hnf hnc hpo hca hn sa sb⟩
end
end Px

namespace K01
open PySem PySem.Spec PyProof.Rows L2 Px
def topS (i : Nat) : Stmt := PySem.Challenge.pw_holdsitself_k01_least_form_whole.main.body.getD i (.Pass ⟨0, 0, 0, 0⟩)
def at_ : Nat → List Str
  | 0 => ["table", "more"]
  | 1 => ["names", "grades"]
  | _ => []
def sub_ : Nat → Nat → Bool := fun a b => a == b
def oth_Grade : List Nat := [1]
abbrev s_law : Stmt := topS 51
theorem sc_law : FnScope ["script", "shape", "base", "longer", "forms", "made", "k", "j", "other", "form"] ["script"] (defScope s_law) := ⟨rfl, rfl, rfl, by decide +kernel, rfl, by decide +kernel, by decide +kernel⟩
abbrev s__law_digits : Stmt := topS 35
theorem sc__law_digits : FnScope ["cell", "sizes", "row", "rest", "seed", "great", "k", "twice"] ["cell", "sizes"] (defScope s__law_digits) := ⟨rfl, rfl, rfl, by decide +kernel, rfl, by decide +kernel, by decide +kernel⟩
abbrev s__law_cell : Stmt := topS 34
theorem sc__law_cell : FnScope ["script", "k", "seed", "cell"] ["script", "k"] (defScope s__law_cell) := ⟨rfl, rfl, rfl, by decide +kernel, rfl, by decide +kernel, by decide +kernel⟩
abbrev s__law_grade : Stmt := topS 37
theorem sc__law_grade : FnScope ["cell", "row", "many", "amount", "gain", "entries", "last", "k"] ["cell"] (defScope s__law_grade) := ⟨rfl, rfl, rfl, by decide +kernel, rfl, by decide +kernel, by decide +kernel⟩
abbrev s__law_entry : Stmt := topS 36
theorem sc__law_entry : FnScope ["kind", "amount", "least", "endless", "small"] ["kind", "amount", "least", "endless"] (defScope s__law_entry) := ⟨rfl, rfl, rfl, by decide +kernel, rfl, by decide +kernel, by decide +kernel⟩
abbrev s__law_longer : Stmt := topS 40
theorem sc__law_longer : FnScope ["grade", "many", "entries", "k"] ["grade", "many"] (defScope s__law_longer) := ⟨rfl, rfl, rfl, by decide +kernel, rfl, by decide +kernel, by decide +kernel⟩
abbrev s__law_whole : Stmt := topS 31
theorem sc__law_whole : FnScope ["value"] ["value"] (defScope s__law_whole) := ⟨rfl, rfl, rfl, by decide +kernel, rfl, by decide +kernel, by decide +kernel⟩
abbrev s__law_nudged : Stmt := topS 42
theorem sc__law_nudged : FnScope ["grade", "cell", "row", "entries", "at", "low"] ["grade", "cell"] (defScope s__law_nudged) := ⟨rfl, rfl, rfl, by decide +kernel, rfl, by decide +kernel, by decide +kernel⟩
abbrev s__law_between : Stmt := topS 43
theorem sc__law_between : FnScope ["grade", "entries", "at", "low", "row", "high", "entry"] ["grade", "entries", "at", "low", "row"] (defScope s__law_between) := ⟨rfl, rfl, rfl, by decide +kernel, rfl, by decide +kernel, by decide +kernel⟩
abbrev s__law_least_entries : Stmt := topS 39
theorem sc__law_least_entries : FnScope ["grade", "entries", "k", "place", "due"] ["grade"] (defScope s__law_least_entries) := ⟨rfl, rfl, rfl, by decide +kernel, rfl, by decide +kernel, by decide +kernel⟩
abbrev s__law_other_gain : Stmt := topS 44
theorem sc__law_other_gain : FnScope ["grade", "cell", "row", "entries", "least", "gain"] ["grade", "cell"] (defScope s__law_other_gain) := ⟨rfl, rfl, rfl, by decide +kernel, rfl, by decide +kernel, by decide +kernel⟩
abbrev s__law_cut : Stmt := topS 46
theorem sc__law_cut : FnScope ["grade", "digit"] ["grade", "digit"] (defScope s__law_cut) := ⟨rfl, rfl, rfl, by decide +kernel, rfl, by decide +kernel, by decide +kernel⟩
abbrev s__law_further : Stmt := topS 45
theorem sc__law_further : FnScope ["grade", "entries", "entry"] ["grade"] (defScope s__law_further) := ⟨rfl, rfl, rfl, by decide +kernel, rfl, by decide +kernel, by decide +kernel⟩
abbrev s_Grade_init : Stmt := inClass (topS 22) 0
theorem sc_Grade_init : FnScope ["self", "table", "more", "bad"] ["self", "table", "more"] (defScope s_Grade_init) := ⟨rfl, rfl, rfl, by decide +kernel, rfl, by decide +kernel, by decide +kernel⟩
abbrev s_first_bad_entry : Stmt := topS 19
theorem sc_first_bad_entry : FnScope ["table", "index", "entry"] ["table"] (defScope s_first_bad_entry) := ⟨rfl, rfl, rfl, by decide +kernel, rfl, by decide +kernel, by decide +kernel⟩
abbrev s_is_worth : Stmt := topS 10
theorem sc_is_worth : FnScope ["thing"] ["thing"] (defScope s_is_worth) := ⟨rfl, rfl, rfl, by decide +kernel, rfl, by decide +kernel, by decide +kernel⟩
abbrev s_is_number : Stmt := topS 9
theorem sc_is_number : FnScope ["thing"] ["thing"] (defScope s_is_number) := ⟨rfl, rfl, rfl, by decide +kernel, rfl, by decide +kernel, by decide +kernel⟩
abbrev s_is_whole : Stmt := topS 8
theorem sc_is_whole : FnScope ["thing"] ["thing"] (defScope s_is_whole) := ⟨rfl, rfl, rfl, by decide +kernel, rfl, by decide +kernel, by decide +kernel⟩
abbrev s_is_before : Stmt := topS 12
theorem sc_is_before : FnScope ["one", "two"] ["one", "two"] (defScope s_is_before) := ⟨rfl, rfl, rfl, by decide +kernel, rfl, by decide +kernel, by decide +kernel⟩
abbrev s_rank_of : Stmt := topS 11
theorem sc_rank_of : FnScope ["worth"] ["worth"] (defScope s_rank_of) := ⟨rfl, rfl, rfl, by decide +kernel, rfl, by decide +kernel, by decide +kernel⟩
abbrev s_is_right_more : Stmt := topS 20
theorem sc_is_right_more : FnScope ["table", "more", "last"] ["table", "more"] (defScope s_is_right_more) := ⟨rfl, rfl, rfl, by decide +kernel, rfl, by decide +kernel, by decide +kernel⟩
abbrev s_least_table : Stmt := topS 21
theorem sc_least_table : FnScope ["table", "more", "size"] ["table", "more"] (defScope s_least_table) := ⟨rfl, rfl, rfl, by decide +kernel, rfl, by decide +kernel, by decide +kernel⟩
abbrev s_beyond : Stmt := topS 17
theorem sc_beyond : FnScope ["number", "more"] ["number", "more"] (defScope s_beyond) := ⟨rfl, rfl, rfl, by decide +kernel, rfl, by decide +kernel, by decide +kernel⟩
abbrev s__law_tells : Stmt := topS 48
theorem sc__law_tells : FnScope ["made", "due", "worths", "worth"] ["made", "due", "worths"] (defScope s__law_tells) := ⟨rfl, rfl, rfl, by decide +kernel, rfl, by decide +kernel, by decide +kernel⟩
abbrev s__law_same_worths : Stmt := topS 33
theorem sc__law_same_worths : FnScope ["told", "due", "k"] ["told", "due"] (defScope s__law_same_worths) := ⟨rfl, rfl, rfl, by decide +kernel, rfl, by decide +kernel, by decide +kernel⟩
abbrev s__law_same_worth : Stmt := topS 32
theorem sc__law_same_worth : FnScope ["told", "due"] ["told", "due"] (defScope s__law_same_worth) := ⟨rfl, rfl, rfl, by decide +kernel, rfl, by decide +kernel, by decide +kernel⟩
abbrev s__law_at : Stmt := topS 38
theorem sc__law_at : FnScope ["grade", "worth"] ["grade", "worth"] (defScope s__law_at) := ⟨rfl, rfl, rfl, by decide +kernel, rfl, by decide +kernel, by decide +kernel⟩
abbrev s_Grade_call : Stmt := inClass (topS 22) 1
theorem sc_Grade_call : FnScope ["self", "worth"] ["self", "worth"] (defScope s_Grade_call) := ⟨rfl, rfl, rfl, by decide +kernel, rfl, by decide +kernel, by decide +kernel⟩
abbrev s_led : Stmt := topS 18
theorem sc_led : FnScope ["table", "more", "worth"] ["table", "more", "worth"] (defScope s_led) := ⟨rfl, rfl, rfl, by decide +kernel, rfl, by decide +kernel, by decide +kernel⟩
abbrev s__law_worths : Stmt := topS 47
theorem sc__law_worths : FnScope ["grade", "amount"] ["grade", "amount"] (defScope s__law_worths) := ⟨rfl, rfl, rfl, by decide +kernel, rfl, by decide +kernel, by decide +kernel⟩
abbrev s__law_told_equal : Stmt := topS 49
theorem sc__law_told_equal : FnScope ["one", "two", "equal", "told"] ["one", "two", "equal"] (defScope s__law_told_equal) := ⟨rfl, rfl, rfl, by decide +kernel, rfl, by decide +kernel, by decide +kernel⟩
abbrev s_Grade_eq : Stmt := inClass (topS 22) 2
theorem sc_Grade_eq : FnScope ["self", "other"] ["self", "other"] (defScope s_Grade_eq) := ⟨rfl, rfl, rfl, by decide +kernel, rfl, by decide +kernel, by decide +kernel⟩
abbrev s__law_same_function : Stmt := topS 41
theorem sc__law_same_function : FnScope ["one", "two", "number"] ["one", "two"] (defScope s__law_same_function) := ⟨rfl, rfl, rfl, by decide +kernel, rfl, by decide +kernel, by decide +kernel⟩
abbrev s_Grade_or : Stmt := inClass (topS 22) 4
theorem sc_Grade_or : FnScope ["self", "other", "size", "table", "number"] ["self", "other"] (defScope s_Grade_or) := ⟨rfl, rfl, rfl, by decide +kernel, rfl, by decide +kernel, by decide +kernel⟩
abbrev s_least_of : Stmt := topS 13
theorem sc_least_of : FnScope ["worths", "least", "worth"] ["worths"] (defScope s_least_of) := ⟨rfl, rfl, rfl, by decide +kernel, rfl, by decide +kernel, by decide +kernel⟩
abbrev s_Grade_rshift : Stmt := inClass (topS 22) 3
theorem sc_Grade_rshift : FnScope ["self", "other", "size", "table", "number"] ["self", "other"] (defScope s_Grade_rshift) := ⟨rfl, rfl, rfl, by decide +kernel, rfl, by decide +kernel, by decide +kernel⟩
abbrev s_total_of : Stmt := topS 14
theorem sc_total_of : FnScope ["worths", "total", "worth"] ["worths"] (defScope s_total_of) := ⟨rfl, rfl, rfl, by decide +kernel, rfl, by decide +kernel, by decide +kernel⟩
abbrev s__law_unlike : Stmt := topS 50
theorem sc__law_unlike : FnScope ["made", "due", "things", "thing"] ["made", "due"] (defScope s__law_unlike) := ⟨rfl, rfl, rfl, by decide +kernel, rfl, by decide +kernel, by decide +kernel⟩
abbrev s_Book_init : Stmt := inClass (topS 29) 0
theorem sc_Book_init : FnScope ["self", "grades", "table", "name", "grade"] ["self", "grades"] (defScope s_Book_init) := ⟨rfl, rfl, rfl, by decide +kernel, rfl, by decide +kernel, by decide +kernel⟩
abbrev s_is_name : Stmt := topS 27
theorem sc_is_name : FnScope ["text", "character"] ["text"] (defScope s_is_name) := ⟨rfl, rfl, rfl, by decide +kernel, rfl, by decide +kernel, by decide +kernel⟩
structure Adr where
  C_Grade : Addr
  C_Book : Addr
  f__law_digits : Addr
  fd__law_digits : FuncData
  f__law_cell : Addr
  fd__law_cell : FuncData
  f__law_entry : Addr
  fd__law_entry : FuncData
  f__law_grade : Addr
  fd__law_grade : FuncData
  f__law_whole : Addr
  fd__law_whole : FuncData
  f__law_longer : Addr
  fd__law_longer : FuncData
  f__law_between : Addr
  fd__law_between : FuncData
  f__law_nudged : Addr
  fd__law_nudged : FuncData
  f__law_least_entries : Addr
  fd__law_least_entries : FuncData
  f__law_other_gain : Addr
  fd__law_other_gain : FuncData
  f__law_cut : Addr
  fd__law_cut : FuncData
  f__law_further : Addr
  fd__law_further : FuncData
  f_is_whole : Addr
  fd_is_whole : FuncData
  f_is_number : Addr
  fd_is_number : FuncData
  f_is_worth : Addr
  fd_is_worth : FuncData
  f_rank_of : Addr
  fd_rank_of : FuncData
  f_is_before : Addr
  fd_is_before : FuncData
  f_first_bad_entry : Addr
  fd_first_bad_entry : FuncData
  f_is_right_more : Addr
  fd_is_right_more : FuncData
  f_beyond : Addr
  fd_beyond : FuncData
  f_least_table : Addr
  fd_least_table : FuncData
  f_Grade_init : Addr
  fd_Grade_init : FuncData
  dvs_Grade_init : List V
  dv_Grade_init_1 : List V
  ds_Grade_init_1 : List Value
  f__law_same_worth : Addr
  fd__law_same_worth : FuncData
  f__law_same_worths : Addr
  fd__law_same_worths : FuncData
  f__law_at : Addr
  fd__law_at : FuncData
  f_led : Addr
  fd_led : FuncData
  f_Grade_call : Addr
  fd_Grade_call : FuncData
  f__law_tells : Addr
  fd__law_tells : FuncData
  f__law_worths : Addr
  fd__law_worths : FuncData
  f_Grade_eq : Addr
  fd_Grade_eq : FuncData
  f__law_told_equal : Addr
  fd__law_told_equal : FuncData
  f__law_same_function : Addr
  fd__law_same_function : FuncData
  f_least_of : Addr
  fd_least_of : FuncData
  f_Grade_or : Addr
  fd_Grade_or : FuncData
  f_total_of : Addr
  fd_total_of : FuncData
  f_Grade_rshift : Addr
  fd_Grade_rshift : FuncData
  f_is_name : Addr
  fd_is_name : FuncData
  f_Book_init : Addr
  fd_Book_init : FuncData
  dvs_Book_init : List V
  dv_Book_init_1 : List V
  ds_Book_init_1 : List Value
  f__law_unlike : Addr
  fd__law_unlike : FuncData
  f_law : Addr
  fd_law : FuncData
  t_DIGITS : Tok
  t_LETTERS : Tok
  t_MOST_CHARACTERS : Tok
  t_MOST_ENTRIES : Tok
def mkT (g : FP) (a : Adr) : Kt where
  K := g.K
  ca := fun i => match i with
    | 0 => some a.C_Grade
    | 1 => some a.C_Book
    | _ => none
  at_ := at_
  sub := sub_
  xa := fun _ => none
  xt := fun _ => []
structure Txt (g : FP) (a : Adr) : Prop where
  kt : KtOk (mkT g a)
  _law_digits_F : Fun g.K "_law_digits" "_law_digits" s__law_digits a.f__law_digits a.fd__law_digits
  _law_digits_b : L2.Binds g.K a.fd__law_digits ["cell", "sizes"] []
  h__law_digits : g.mg "_law_digits" = some (.ref a.f__law_digits)
  _law_cell_F : Fun g.K "_law_cell" "_law_cell" s__law_cell a.f__law_cell a.fd__law_cell
  _law_cell_b : L2.Binds g.K a.fd__law_cell ["script", "k"] []
  h__law_cell : g.mg "_law_cell" = some (.ref a.f__law_cell)
  _law_entry_F : Fun g.K "_law_entry" "_law_entry" s__law_entry a.f__law_entry a.fd__law_entry
  _law_entry_b : L2.Binds g.K a.fd__law_entry ["kind", "amount", "least", "endless"] []
  h__law_entry : g.mg "_law_entry" = some (.ref a.f__law_entry)
  _law_grade_F : Fun g.K "_law_grade" "_law_grade" s__law_grade a.f__law_grade a.fd__law_grade
  _law_grade_b : L2.Binds g.K a.fd__law_grade ["cell"] []
  h__law_grade : g.mg "_law_grade" = some (.ref a.f__law_grade)
  _law_whole_F : Fun g.K "_law_whole" "_law_whole" s__law_whole a.f__law_whole a.fd__law_whole
  _law_whole_b : L2.Binds g.K a.fd__law_whole ["value"] []
  h__law_whole : g.mg "_law_whole" = some (.ref a.f__law_whole)
  _law_longer_F : Fun g.K "_law_longer" "_law_longer" s__law_longer a.f__law_longer a.fd__law_longer
  _law_longer_b : L2.Binds g.K a.fd__law_longer ["grade", "many"] []
  h__law_longer : g.mg "_law_longer" = some (.ref a.f__law_longer)
  _law_between_F : Fun g.K "_law_between" "_law_between" s__law_between a.f__law_between a.fd__law_between
  _law_between_b : L2.Binds g.K a.fd__law_between ["grade", "entries", "at", "low", "row"] []
  h__law_between : g.mg "_law_between" = some (.ref a.f__law_between)
  _law_nudged_F : Fun g.K "_law_nudged" "_law_nudged" s__law_nudged a.f__law_nudged a.fd__law_nudged
  _law_nudged_b : L2.Binds g.K a.fd__law_nudged ["grade", "cell"] []
  h__law_nudged : g.mg "_law_nudged" = some (.ref a.f__law_nudged)
  _law_least_entries_F : Fun g.K "_law_least_entries" "_law_least_entries" s__law_least_entries a.f__law_least_entries a.fd__law_least_entries
  _law_least_entries_b : L2.Binds g.K a.fd__law_least_entries ["grade"] []
  h__law_least_entries : g.mg "_law_least_entries" = some (.ref a.f__law_least_entries)
  _law_other_gain_F : Fun g.K "_law_other_gain" "_law_other_gain" s__law_other_gain a.f__law_other_gain a.fd__law_other_gain
  _law_other_gain_b : L2.Binds g.K a.fd__law_other_gain ["grade", "cell"] []
  h__law_other_gain : g.mg "_law_other_gain" = some (.ref a.f__law_other_gain)
  _law_cut_F : Fun g.K "_law_cut" "_law_cut" s__law_cut a.f__law_cut a.fd__law_cut
  _law_cut_b : L2.Binds g.K a.fd__law_cut ["grade", "digit"] []
  h__law_cut : g.mg "_law_cut" = some (.ref a.f__law_cut)
  _law_further_F : Fun g.K "_law_further" "_law_further" s__law_further a.f__law_further a.fd__law_further
  _law_further_b : L2.Binds g.K a.fd__law_further ["grade"] []
  h__law_further : g.mg "_law_further" = some (.ref a.f__law_further)
  is_whole_F : Fun g.K "is_whole" "is_whole" s_is_whole a.f_is_whole a.fd_is_whole
  is_whole_b : L2.Binds g.K a.fd_is_whole ["thing"] []
  h_is_whole : g.mg "is_whole" = some (.ref a.f_is_whole)
  is_number_F : Fun g.K "is_number" "is_number" s_is_number a.f_is_number a.fd_is_number
  is_number_b : L2.Binds g.K a.fd_is_number ["thing"] []
  h_is_number : g.mg "is_number" = some (.ref a.f_is_number)
  is_worth_F : Fun g.K "is_worth" "is_worth" s_is_worth a.f_is_worth a.fd_is_worth
  is_worth_b : L2.Binds g.K a.fd_is_worth ["thing"] []
  h_is_worth : g.mg "is_worth" = some (.ref a.f_is_worth)
  rank_of_F : Fun g.K "rank_of" "rank_of" s_rank_of a.f_rank_of a.fd_rank_of
  rank_of_b : L2.Binds g.K a.fd_rank_of ["worth"] []
  h_rank_of : g.mg "rank_of" = some (.ref a.f_rank_of)
  is_before_F : Fun g.K "is_before" "is_before" s_is_before a.f_is_before a.fd_is_before
  is_before_b : L2.Binds g.K a.fd_is_before ["one", "two"] []
  h_is_before : g.mg "is_before" = some (.ref a.f_is_before)
  first_bad_entry_F : Fun g.K "first_bad_entry" "first_bad_entry" s_first_bad_entry a.f_first_bad_entry a.fd_first_bad_entry
  first_bad_entry_b : L2.Binds g.K a.fd_first_bad_entry ["table"] []
  h_first_bad_entry : g.mg "first_bad_entry" = some (.ref a.f_first_bad_entry)
  is_right_more_F : Fun g.K "is_right_more" "is_right_more" s_is_right_more a.f_is_right_more a.fd_is_right_more
  is_right_more_b : L2.Binds g.K a.fd_is_right_more ["table", "more"] []
  h_is_right_more : g.mg "is_right_more" = some (.ref a.f_is_right_more)
  beyond_F : Fun g.K "beyond" "beyond" s_beyond a.f_beyond a.fd_beyond
  beyond_b : L2.Binds g.K a.fd_beyond ["number", "more"] []
  h_beyond : g.mg "beyond" = some (.ref a.f_beyond)
  least_table_F : Fun g.K "least_table" "least_table" s_least_table a.f_least_table a.fd_least_table
  least_table_b : L2.Binds g.K a.fd_least_table ["table", "more"] []
  h_least_table : g.mg "least_table" = some (.ref a.f_least_table)
  Grade_init_FD : FunD g.K "__init__" "Grade.__init__" (defArgs s_Grade_init) (defBody s_Grade_init) (defScope s_Grade_init) a.dvs_Grade_init [] a.f_Grade_init a.fd_Grade_init
  Grade_init_b : L2.Binds g.K a.fd_Grade_init ["self", "table", "more"] []
  Grade_init_b1 : L2.Binds g.K a.fd_Grade_init ["self", "table", "more"] a.ds_Grade_init_1
  Grade_init_d1 : Vals a.dv_Grade_init_1 a.ds_Grade_init_1
  Grade_init_r1 : ∀ G, Reps (mkT g a) G a.dv_Grade_init_1 [.tup [], .int 0]
  mk_Grade : Mk g.K a.C_Grade a.f_Grade_init
  _law_same_worth_F : Fun g.K "_law_same_worth" "_law_same_worth" s__law_same_worth a.f__law_same_worth a.fd__law_same_worth
  _law_same_worth_b : L2.Binds g.K a.fd__law_same_worth ["told", "due"] []
  h__law_same_worth : g.mg "_law_same_worth" = some (.ref a.f__law_same_worth)
  _law_same_worths_F : Fun g.K "_law_same_worths" "_law_same_worths" s__law_same_worths a.f__law_same_worths a.fd__law_same_worths
  _law_same_worths_b : L2.Binds g.K a.fd__law_same_worths ["told", "due"] []
  h__law_same_worths : g.mg "_law_same_worths" = some (.ref a.f__law_same_worths)
  _law_at_F : Fun g.K "_law_at" "_law_at" s__law_at a.f__law_at a.fd__law_at
  _law_at_b : L2.Binds g.K a.fd__law_at ["grade", "worth"] []
  h__law_at : g.mg "_law_at" = some (.ref a.f__law_at)
  led_F : Fun g.K "led" "led" s_led a.f_led a.fd_led
  led_b : L2.Binds g.K a.fd_led ["table", "more", "worth"] []
  h_led : g.mg "led" = some (.ref a.f_led)
  Grade_call_F : Fun g.K "__call__" "Grade.__call__" s_Grade_call a.f_Grade_call a.fd_Grade_call
  Grade_call_b : L2.Binds g.K a.fd_Grade_call ["self", "worth"] []
  Grade_call_at : PySem.W.findIn g.K (.ref a.C_Grade) "__call__" = some (some (.ref a.f_Grade_call))
  Grade_call_fn : PySem.W.isFn g.K (.ref a.f_Grade_call) = true
  Grade_call_me : Meth g.K a.C_Grade "__call__" a.f_Grade_call
  Grade_call_fi : PySem.W.fnIn g.K a.f_Grade_call = true
  _law_tells_F : Fun g.K "_law_tells" "_law_tells" s__law_tells a.f__law_tells a.fd__law_tells
  _law_tells_b : L2.Binds g.K a.fd__law_tells ["made", "due", "worths"] []
  h__law_tells : g.mg "_law_tells" = some (.ref a.f__law_tells)
  _law_worths_F : Fun g.K "_law_worths" "_law_worths" s__law_worths a.f__law_worths a.fd__law_worths
  _law_worths_b : L2.Binds g.K a.fd__law_worths ["grade", "amount"] []
  h__law_worths : g.mg "_law_worths" = some (.ref a.f__law_worths)
  Grade_eq_F : Fun g.K "__eq__" "Grade.__eq__" s_Grade_eq a.f_Grade_eq a.fd_Grade_eq
  Grade_eq_b : L2.Binds g.K a.fd_Grade_eq ["self", "other"] []
  Grade_eq_at : PySem.W.findIn g.K (.ref a.C_Grade) "__eq__" = some (some (.ref a.f_Grade_eq))
  Grade_eq_fn : PySem.W.isFn g.K (.ref a.f_Grade_eq) = true
  Grade_eq_me : Meth g.K a.C_Grade "__eq__" a.f_Grade_eq
  _law_told_equal_F : Fun g.K "_law_told_equal" "_law_told_equal" s__law_told_equal a.f__law_told_equal a.fd__law_told_equal
  _law_told_equal_b : L2.Binds g.K a.fd__law_told_equal ["one", "two", "equal"] []
  h__law_told_equal : g.mg "_law_told_equal" = some (.ref a.f__law_told_equal)
  _law_same_function_F : Fun g.K "_law_same_function" "_law_same_function" s__law_same_function a.f__law_same_function a.fd__law_same_function
  _law_same_function_b : L2.Binds g.K a.fd__law_same_function ["one", "two"] []
  h__law_same_function : g.mg "_law_same_function" = some (.ref a.f__law_same_function)
  least_of_F : Fun g.K "least_of" "least_of" s_least_of a.f_least_of a.fd_least_of
  least_of_b : L2.Binds g.K a.fd_least_of ["worths"] []
  h_least_of : g.mg "least_of" = some (.ref a.f_least_of)
  Grade_or_F : Fun g.K "__or__" "Grade.__or__" s_Grade_or a.f_Grade_or a.fd_Grade_or
  Grade_or_b : L2.Binds g.K a.fd_Grade_or ["self", "other"] []
  Grade_or_at : PySem.W.findIn g.K (.ref a.C_Grade) "__or__" = some (some (.ref a.f_Grade_or))
  Grade_or_fn : PySem.W.isFn g.K (.ref a.f_Grade_or) = true
  Grade_or_me : Meth g.K a.C_Grade "__or__" a.f_Grade_or
  total_of_F : Fun g.K "total_of" "total_of" s_total_of a.f_total_of a.fd_total_of
  total_of_b : L2.Binds g.K a.fd_total_of ["worths"] []
  h_total_of : g.mg "total_of" = some (.ref a.f_total_of)
  Grade_rshift_F : Fun g.K "__rshift__" "Grade.__rshift__" s_Grade_rshift a.f_Grade_rshift a.fd_Grade_rshift
  Grade_rshift_b : L2.Binds g.K a.fd_Grade_rshift ["self", "other"] []
  Grade_rshift_at : PySem.W.findIn g.K (.ref a.C_Grade) "__rshift__" = some (some (.ref a.f_Grade_rshift))
  Grade_rshift_fn : PySem.W.isFn g.K (.ref a.f_Grade_rshift) = true
  Grade_rshift_me : Meth g.K a.C_Grade "__rshift__" a.f_Grade_rshift
  is_name_F : Fun g.K "is_name" "is_name" s_is_name a.f_is_name a.fd_is_name
  is_name_b : L2.Binds g.K a.fd_is_name ["text"] []
  h_is_name : g.mg "is_name" = some (.ref a.f_is_name)
  Book_init_FD : FunD g.K "__init__" "Book.__init__" (defArgs s_Book_init) (defBody s_Book_init) (defScope s_Book_init) a.dvs_Book_init [] a.f_Book_init a.fd_Book_init
  Book_init_b : L2.Binds g.K a.fd_Book_init ["self", "grades"] []
  Book_init_b1 : L2.Binds g.K a.fd_Book_init ["self", "grades"] a.ds_Book_init_1
  Book_init_d1 : Vals a.dv_Book_init_1 a.ds_Book_init_1
  Book_init_r1 : ∀ G, Reps (mkT g a) G a.dv_Book_init_1 [.tup []]
  mk_Book : Mk g.K a.C_Book a.f_Book_init
  _law_unlike_F : Fun g.K "_law_unlike" "_law_unlike" s__law_unlike a.f__law_unlike a.fd__law_unlike
  _law_unlike_b : L2.Binds g.K a.fd__law_unlike ["made", "due"] []
  h__law_unlike : g.mg "_law_unlike" = some (.ref a.f__law_unlike)
  law_F : Fun g.K "law" "law" s_law a.f_law a.fd_law
  law_b : L2.Binds g.K a.fd_law ["script"] []
  h_law : g.mg "law" = some (.ref a.f_law)
  h_Grade : g.mg "Grade" = some (.ref a.C_Grade)
  sf_Grade : PySem.W.selfFirst g.K a.C_Grade = true
  nf_Grade : ∀ n ∈ ["NoneType", "bool", "int", "str", "list", "tuple", "dict"], PySem.W.notFirst g.K a.C_Grade (.type n) = true
  nc_Grade : ∀ d E, (mkT g a).ca d = some E → d = 0 ∨ sub_ d 0 = false → PySem.W.notFirst g.K a.C_Grade (.ref E) = true
  h_Book : g.mg "Book" = some (.ref a.C_Book)
  sf_Book : PySem.W.selfFirst g.K a.C_Book = true
  nf_Book : ∀ n ∈ ["NoneType", "bool", "int", "str", "list", "tuple", "dict"], PySem.W.notFirst g.K a.C_Book (.type n) = true
  nc_Book : ∀ d E, (mkT g a).ca d = some E → d = 1 ∨ sub_ d 1 = false → PySem.W.notFirst g.K a.C_Book (.ref E) = true
  oe_Grade : OwnEq g.K a.C_Grade a.f_Grade_eq
  po_Grade : ∀ d ∈ oth_Grade, ∀ E, (mkT g a).ca d = some E → PlainEq g.K a.C_Grade E
  pc_Grade : ∀ d ∈ oth_Grade, ∃ E, (mkT g a).ca d = some E
  n_bool : g.mg "bool" = none
  n_int : g.mg "int" = none
  n_isinstance : g.mg "isinstance" = none
  n_len : g.mg "len" = none
  n_list : g.mg "list" = none
  n_max : g.mg "max" = none
  n_min : g.mg "min" = none
  n_range : g.mg "range" = none
  n_sorted : g.mg "sorted" = none
  n_str : g.mg "str" = none
  n_tuple : g.mg "tuple" = none
  k_DIGITS : g.mg "DIGITS" = some (.str "0123456789" a.t_DIGITS)
  k_LETTERS : g.mg "LETTERS" = some (.str "abcdefghijklmnopqrstuvwxyz" a.t_LETTERS)
  k_MOST_CHARACTERS : g.mg "MOST_CHARACTERS" = some (.int 12 a.t_MOST_CHARACTERS)
  k_MOST_ENTRIES : g.mg "MOST_ENTRIES" = some (.int 30 a.t_MOST_ENTRIES)
theorem Txt._law_digits_R {g : FP} {a : Adr} (S : Txt g a) {k : Nat} : OkRule g "_law_digits" s__law_digits a.f__law_digits a.fd__law_digits ["cell", "sizes", "row", "rest", "seed", "great", "k", "twice"] ["cell", "sizes"] k := rule_fun S._law_digits_F sc__law_digits
theorem Txt._law_cell_R {g : FP} {a : Adr} (S : Txt g a) {k : Nat} : OkRule g "_law_cell" s__law_cell a.f__law_cell a.fd__law_cell ["script", "k", "seed", "cell"] ["script", "k"] k := rule_fun S._law_cell_F sc__law_cell
theorem Txt._law_entry_R {g : FP} {a : Adr} (S : Txt g a) {k : Nat} : OkRule g "_law_entry" s__law_entry a.f__law_entry a.fd__law_entry ["kind", "amount", "least", "endless", "small"] ["kind", "amount", "least", "endless"] k := rule_fun S._law_entry_F sc__law_entry
theorem Txt._law_grade_R {g : FP} {a : Adr} (S : Txt g a) {k : Nat} : OkRule g "_law_grade" s__law_grade a.f__law_grade a.fd__law_grade ["cell", "row", "many", "amount", "gain", "entries", "last", "k"] ["cell"] k := rule_fun S._law_grade_F sc__law_grade
theorem Txt._law_whole_R {g : FP} {a : Adr} (S : Txt g a) {k : Nat} : OkRule g "_law_whole" s__law_whole a.f__law_whole a.fd__law_whole ["value"] ["value"] k := rule_fun S._law_whole_F sc__law_whole
theorem Txt._law_longer_R {g : FP} {a : Adr} (S : Txt g a) {k : Nat} : OkRule g "_law_longer" s__law_longer a.f__law_longer a.fd__law_longer ["grade", "many", "entries", "k"] ["grade", "many"] k := rule_fun S._law_longer_F sc__law_longer
theorem Txt._law_between_R {g : FP} {a : Adr} (S : Txt g a) {k : Nat} : OkRule g "_law_between" s__law_between a.f__law_between a.fd__law_between ["grade", "entries", "at", "low", "row", "high", "entry"] ["grade", "entries", "at", "low", "row"] k := rule_fun S._law_between_F sc__law_between
theorem Txt._law_nudged_R {g : FP} {a : Adr} (S : Txt g a) {k : Nat} : OkRule g "_law_nudged" s__law_nudged a.f__law_nudged a.fd__law_nudged ["grade", "cell", "row", "entries", "at", "low"] ["grade", "cell"] k := rule_fun S._law_nudged_F sc__law_nudged
theorem Txt._law_least_entries_R {g : FP} {a : Adr} (S : Txt g a) {k : Nat} : OkRule g "_law_least_entries" s__law_least_entries a.f__law_least_entries a.fd__law_least_entries ["grade", "entries", "k", "place", "due"] ["grade"] k := rule_fun S._law_least_entries_F sc__law_least_entries
theorem Txt._law_other_gain_R {g : FP} {a : Adr} (S : Txt g a) {k : Nat} : OkRule g "_law_other_gain" s__law_other_gain a.f__law_other_gain a.fd__law_other_gain ["grade", "cell", "row", "entries", "least", "gain"] ["grade", "cell"] k := rule_fun S._law_other_gain_F sc__law_other_gain
theorem Txt._law_cut_R {g : FP} {a : Adr} (S : Txt g a) {k : Nat} : OkRule g "_law_cut" s__law_cut a.f__law_cut a.fd__law_cut ["grade", "digit"] ["grade", "digit"] k := rule_fun S._law_cut_F sc__law_cut
theorem Txt._law_further_R {g : FP} {a : Adr} (S : Txt g a) {k : Nat} : OkRule g "_law_further" s__law_further a.f__law_further a.fd__law_further ["grade", "entries", "entry"] ["grade"] k := rule_fun S._law_further_F sc__law_further
theorem Txt.is_whole_R {g : FP} {a : Adr} (S : Txt g a) {k : Nat} : OkRule g "is_whole" s_is_whole a.f_is_whole a.fd_is_whole ["thing"] ["thing"] k := rule_fun S.is_whole_F sc_is_whole
theorem Txt.is_number_R {g : FP} {a : Adr} (S : Txt g a) {k : Nat} : OkRule g "is_number" s_is_number a.f_is_number a.fd_is_number ["thing"] ["thing"] k := rule_fun S.is_number_F sc_is_number
theorem Txt.is_worth_R {g : FP} {a : Adr} (S : Txt g a) {k : Nat} : OkRule g "is_worth" s_is_worth a.f_is_worth a.fd_is_worth ["thing"] ["thing"] k := rule_fun S.is_worth_F sc_is_worth
theorem Txt.rank_of_R {g : FP} {a : Adr} (S : Txt g a) {k : Nat} : OkRule g "rank_of" s_rank_of a.f_rank_of a.fd_rank_of ["worth"] ["worth"] k := rule_fun S.rank_of_F sc_rank_of
theorem Txt.is_before_R {g : FP} {a : Adr} (S : Txt g a) {k : Nat} : OkRule g "is_before" s_is_before a.f_is_before a.fd_is_before ["one", "two"] ["one", "two"] k := rule_fun S.is_before_F sc_is_before
theorem Txt.first_bad_entry_R {g : FP} {a : Adr} (S : Txt g a) {k : Nat} : OkRule g "first_bad_entry" s_first_bad_entry a.f_first_bad_entry a.fd_first_bad_entry ["table", "index", "entry"] ["table"] k := rule_fun S.first_bad_entry_F sc_first_bad_entry
theorem Txt.is_right_more_R {g : FP} {a : Adr} (S : Txt g a) {k : Nat} : OkRule g "is_right_more" s_is_right_more a.f_is_right_more a.fd_is_right_more ["table", "more", "last"] ["table", "more"] k := rule_fun S.is_right_more_F sc_is_right_more
theorem Txt.beyond_R {g : FP} {a : Adr} (S : Txt g a) {k : Nat} : OkRule g "beyond" s_beyond a.f_beyond a.fd_beyond ["number", "more"] ["number", "more"] k := rule_fun S.beyond_F sc_beyond
theorem Txt.least_table_R {g : FP} {a : Adr} (S : Txt g a) {k : Nat} : OkRule g "least_table" s_least_table a.f_least_table a.fd_least_table ["table", "more", "size"] ["table", "more"] k := rule_fun S.least_table_F sc_least_table
theorem Txt.Grade_init_R {g : FP} {a : Adr} (S : Txt g a) {k : Nat} : OkRule g "Grade.__init__" s_Grade_init a.f_Grade_init a.fd_Grade_init ["self", "table", "more", "bad"] ["self", "table", "more"] k := rule_funD S.Grade_init_FD sc_Grade_init
theorem Txt._law_same_worth_R {g : FP} {a : Adr} (S : Txt g a) {k : Nat} : OkRule g "_law_same_worth" s__law_same_worth a.f__law_same_worth a.fd__law_same_worth ["told", "due"] ["told", "due"] k := rule_fun S._law_same_worth_F sc__law_same_worth
theorem Txt._law_same_worths_R {g : FP} {a : Adr} (S : Txt g a) {k : Nat} : OkRule g "_law_same_worths" s__law_same_worths a.f__law_same_worths a.fd__law_same_worths ["told", "due", "k"] ["told", "due"] k := rule_fun S._law_same_worths_F sc__law_same_worths
theorem Txt._law_at_R {g : FP} {a : Adr} (S : Txt g a) {k : Nat} : OkRule g "_law_at" s__law_at a.f__law_at a.fd__law_at ["grade", "worth"] ["grade", "worth"] k := rule_fun S._law_at_F sc__law_at
theorem Txt.led_R {g : FP} {a : Adr} (S : Txt g a) {k : Nat} : OkRule g "led" s_led a.f_led a.fd_led ["table", "more", "worth"] ["table", "more", "worth"] k := rule_fun S.led_F sc_led
theorem Txt.Grade_call_R {g : FP} {a : Adr} (S : Txt g a) {k : Nat} : OkRule g "Grade.__call__" s_Grade_call a.f_Grade_call a.fd_Grade_call ["self", "worth"] ["self", "worth"] k := rule_fun S.Grade_call_F sc_Grade_call
theorem Txt._law_tells_R {g : FP} {a : Adr} (S : Txt g a) {k : Nat} : OkRule g "_law_tells" s__law_tells a.f__law_tells a.fd__law_tells ["made", "due", "worths", "worth"] ["made", "due", "worths"] k := rule_fun S._law_tells_F sc__law_tells
theorem Txt._law_worths_R {g : FP} {a : Adr} (S : Txt g a) {k : Nat} : OkRule g "_law_worths" s__law_worths a.f__law_worths a.fd__law_worths ["grade", "amount"] ["grade", "amount"] k := rule_fun S._law_worths_F sc__law_worths
theorem Txt.Grade_eq_R {g : FP} {a : Adr} (S : Txt g a) {k : Nat} : OkRule g "Grade.__eq__" s_Grade_eq a.f_Grade_eq a.fd_Grade_eq ["self", "other"] ["self", "other"] k := rule_fun S.Grade_eq_F sc_Grade_eq
theorem Txt._law_told_equal_R {g : FP} {a : Adr} (S : Txt g a) {k : Nat} : OkRule g "_law_told_equal" s__law_told_equal a.f__law_told_equal a.fd__law_told_equal ["one", "two", "equal", "told"] ["one", "two", "equal"] k := rule_fun S._law_told_equal_F sc__law_told_equal
theorem Txt._law_same_function_R {g : FP} {a : Adr} (S : Txt g a) {k : Nat} : OkRule g "_law_same_function" s__law_same_function a.f__law_same_function a.fd__law_same_function ["one", "two", "number"] ["one", "two"] k := rule_fun S._law_same_function_F sc__law_same_function
theorem Txt.least_of_R {g : FP} {a : Adr} (S : Txt g a) {k : Nat} : OkRule g "least_of" s_least_of a.f_least_of a.fd_least_of ["worths", "least", "worth"] ["worths"] k := rule_fun S.least_of_F sc_least_of
theorem Txt.Grade_or_R {g : FP} {a : Adr} (S : Txt g a) {k : Nat} : OkRule g "Grade.__or__" s_Grade_or a.f_Grade_or a.fd_Grade_or ["self", "other", "size", "table", "number"] ["self", "other"] k := rule_fun S.Grade_or_F sc_Grade_or
theorem Txt.total_of_R {g : FP} {a : Adr} (S : Txt g a) {k : Nat} : OkRule g "total_of" s_total_of a.f_total_of a.fd_total_of ["worths", "total", "worth"] ["worths"] k := rule_fun S.total_of_F sc_total_of
theorem Txt.Grade_rshift_R {g : FP} {a : Adr} (S : Txt g a) {k : Nat} : OkRule g "Grade.__rshift__" s_Grade_rshift a.f_Grade_rshift a.fd_Grade_rshift ["self", "other", "size", "table", "number"] ["self", "other"] k := rule_fun S.Grade_rshift_F sc_Grade_rshift
theorem Txt.is_name_R {g : FP} {a : Adr} (S : Txt g a) {k : Nat} : OkRule g "is_name" s_is_name a.f_is_name a.fd_is_name ["text", "character"] ["text"] k := rule_fun S.is_name_F sc_is_name
theorem Txt.Book_init_R {g : FP} {a : Adr} (S : Txt g a) {k : Nat} : OkRule g "Book.__init__" s_Book_init a.f_Book_init a.fd_Book_init ["self", "grades", "table", "name", "grade"] ["self", "grades"] k := rule_funD S.Book_init_FD sc_Book_init
theorem Txt._law_unlike_R {g : FP} {a : Adr} (S : Txt g a) {k : Nat} : OkRule g "_law_unlike" s__law_unlike a.f__law_unlike a.fd__law_unlike ["made", "due", "things", "thing"] ["made", "due"] k := rule_fun S._law_unlike_F sc__law_unlike
theorem Txt.law_R {g : FP} {a : Adr} (S : Txt g a) {k : Nat} : OkRule g "law" s_law a.f_law a.fd_law ["script", "shape", "base", "longer", "forms", "made", "k", "j", "other", "form"] ["script"] k := rule_fun S.law_F sc_law
end K01

namespace K01
open PySem PySem.Spec PyProof.Rows L2 Px
def b__law_digits (cell_0 sizes_0 : D) : Res D := Res.bind (dispR (.ok [])) fun row_0 => Res.bind (callO intD (consR (.ok cell_0) (.ok []))) fun rest_0 => Res.bind (op2 modD (callO intD (consR (.ok rest_0) (.ok []))) (.ok (.int 2147483629))) fun seed_0 => Res.bind (op2 geD (.ok rest_0) (op2 powD (.ok (.int 10)) (.ok (.int 18)))) fun great_0 => Res.bind (iteR (truR (.ok great_0)) (Res.bind (op2 subD (.ok rest_0) (op2 powD (.ok (.int 10)) (.ok (.int 18)))) fun rest_1 => .ok rest_1) (.ok rest_0)) fun s_0 => Res.bind (callOo rng1 (consR (callO lenD (consR (.ok sizes_0) (.ok []))) (.ok []))) fun ds => Res.bind (forR (fun (s_1 : List D × D × D) (k_0 : D) => Res.bind (op2 modD (callO intD (consR (op2 addD (op2 addD (op2 repD (.ok s_1.2.2) (.ok (.int 48271))) (op2 repD (.ok (.int 974711)) (.ok k_0))) (.ok (.int 12345))) (.ok []))) (.ok (.int 2147483647))) fun seed_1 => iteR (andB (truR (.ok great_0)) (blR (op2 gtD (.ok s_1.2.1) (.ok (.int 0))))) (appR s_1.1 (op2 modD (callO intD (consR (.ok s_1.2.1) (.ok []))) (op2 ixD (.ok sizes_0) (.ok k_0))) fun row_1 => Res.bind (op2 divD (callO intD (consR (.ok s_1.2.1) (.ok []))) (op2 ixD (.ok sizes_0) (.ok k_0))) fun rest_2 => .ok (row_1, rest_2, seed_1)) (Res.bind (op2 modD (callO intD (consR (op2 repD (.ok seed_1) (op2 addD (op2 divD (.ok seed_1) (.ok (.int 65537))) (.ok (.int 3)))) (.ok []))) (.ok (.int 2147483629))) fun twice_0 => appR s_1.1 (op2 modD (op2 divD (.ok twice_0) (.ok (.int 19))) (op2 ixD (.ok sizes_0) (.ok k_0))) fun row_2 => .ok (row_2, s_1.2.1, seed_1))) ds (row_0, s_0, seed_0)) fun s_1 => .ok (.lst s_1.1)
def m__law_digits : List D → Res D
  | [cell_0, sizes_0] => b__law_digits cell_0 sizes_0
  | _ => .bad
theorem hn__law_digits : ∀ ds : List D, ds.length ≠ 2 → m__law_digits ds = .bad := by
  intro ds h
  unfold m__law_digits
  split
  · exact absurd rfl h
  · rfl
theorem ok__law_digits {g : FP} {a : Adr} (S : Txt g a) : FnOk g.P g.w g.K g.mg g.base (L2.CX g.P g.w) 1 a.f__law_digits a.fd__law_digits ["cell", "sizes"] (pureSp (mkT g a) 2 m__law_digits) := by
  refine fn_pure rfl S._law_digits_R sc__law_digits fun cdv A outer s H E C ds hl => ?_
  match ds, hl with
  | [cell_0, sizes_0], _ =>
    show PBX _ _ _ _ _ [some (.val cell_0), some (.val sizes_0), none, none, none, none, none, none] (b__law_digits cell_0 sizes_0) _ _ _
    unfold b__law_digits
    exact (pb_asgO 2 C.nd rfl (.inl rfl) (pxo_lst pax_nil) rfl (.inl rfl) (fun row_0 => nrm [some (.val cell_0), some (.val sizes_0), some (.own row_0), none, none, none, none, none] (pb_asg 3 C.nd rfl (.inl rfl) (px_callTy call_int1 cd_int (by rfl) S.n_int (by decide +kernel) (pax_cons (px_v 0 rfl rfl (.inl rfl) (by decide) (by decide)) pax_nil)) rfl (.inl rfl) (fun rest_0 => nrm [some (.val cell_0), some (.val sizes_0), some (.own row_0), some (.val rest_0), none, none, none, none] (pb_asg 4 C.nd rfl (.inl rfl) (px_op op_modN od_mod (px_callTy call_int1 cd_int (by rfl) S.n_int (by decide +kernel) (pax_cons (px_v 3 rfl rfl (.inl rfl) (by decide) (by decide)) pax_nil)) px_int) rfl (.inl rfl) (fun seed_0 => nrm [some (.val cell_0), some (.val sizes_0), some (.own row_0), some (.val rest_0), some (.val seed_0), none, none, none] (pb_asg 5 C.nd rfl (.inl rfl) (px_cmpR op_ge od_ge (px_v 3 rfl rfl (.inl rfl) (by decide) (by decide)) (px_op op_pow od_pow px_int px_int) (nomark _)) rfl (.inl rfl) (fun great_0 => nrm [some (.val cell_0), some (.val sizes_0), some (.own row_0), some (.val rest_0), some (.val seed_0), some (.val great_0), none, none] (pb_if_j (e' := fun (s_0 : D) => ([some (.val cell_0), some (.val sizes_0), some (.own row_0), some (.val s_0), some (.val seed_0), some (.val great_0), none, none] : Env')) (ptx_tru C.kk (px_v 5 rfl rfl (.inl rfl) (by decide) (by decide)) (fun _ => rfl)) (pb_asg 3 C.nd rfl (.inl rfl) (px_op op_sub od_sub (px_v 3 rfl rfl (.inl rfl) (by decide) (by decide)) (px_op op_pow od_pow px_int px_int)) rfl (.inl rfl) (fun rest_1 => nrm [some (.val cell_0), some (.val sizes_0), some (.own row_0), some (.val rest_1), some (.val seed_0), some (.val great_0), none, none] (pb_nilS (s := rest_1) rfl (by simp [subE])))) (pb_nilS (s := rest_0) rfl (by simp [subE])) (fun s_0 => nrm [some (.val cell_0), some (.val sizes_0), some (.own row_0), some (.val s_0), some (.val seed_0), some (.val great_0), none, none] (pb_forS (e1 := (fun (s_1 : List D × D × D) => ([some (.val cell_0), some (.val sizes_0), some (.own s_1.1), some (.val s_1.2.1), some (.val s_1.2.2), some (.val great_0), none, none] : Env'))) (s0 := (row_0, s_0, seed_0)) C.po C.calm (pix_range1 (by rfl) S.n_range (pax_cons (px_callB call_len cd_len (by rfl) S.n_len PySem.boot_len (pax_cons (px_v 1 rfl rfl (.inl rfl) (by decide) (by decide)) pax_nil)) pax_nil)) (pgx_name 6 C.nd rfl (.inl rfl) (.inl rfl)) (by simp [subE]) (fun s_1 k_0 => nrm [some (.val cell_0), some (.val sizes_0), some (.own s_1.1), some (.val s_1.2.1), some (.val s_1.2.2), some (.val great_0), some (.val k_0), none] (pb_asg 4 C.nd rfl (.inl rfl) (px_op op_modN od_mod (px_callTy call_int1 cd_int (by rfl) S.n_int (by decide +kernel) (pax_cons (px_op op_addAll od_add (px_op op_addAll od_add (px_op op_mulAll od_rep (px_v 4 rfl rfl (.inl rfl) (by decide) (by decide)) px_int) (px_op op_mulAll od_rep px_int (px_v 6 rfl rfl (.inl rfl) (by decide) (by decide)))) px_int) pax_nil)) px_int) rfl (.inl rfl) (fun seed_1 => nrm [some (.val cell_0), some (.val sizes_0), some (.own s_1.1), some (.val s_1.2.1), some (.val seed_1), some (.val great_0), some (.val k_0), none] (pb_if_last (PWX.pt (pwx_and (ptx_tru C.kk (px_v 5 rfl rfl (.inl rfl) (by decide) (by decide)) (fun _ => rfl)) (pwx_and1 (ptx_cmp op_gt od_gt (px_v 3 rfl rfl (.inl rfl) (by decide) (by decide)) px_int (nomark _))))) (pb_append 2 (o := .Name "row" ⟨0, 0, 0, 0⟩) (p1 := ⟨0, 0, 0, 0⟩) (p2 := ⟨0, 0, 0, 0⟩) C.kk rfl (px_op op_modN od_mod (px_callTy call_int1 cd_int (by rfl) S.n_int (by decide +kernel) (pax_cons (px_v 3 rfl rfl (.inl rfl) (by decide) (by decide)) pax_nil)) (px_ix ix_seq od_ix (px_v 1 rfl rfl (.inl rfl) (by decide) (by decide)) (px_v 6 rfl rfl (.inl rfl) (by decide) (by decide)) (fun _ _ => rfl))) (fun _ h => ps_expr (pe_bm PySem.F.plainAttrs_list PySem.F.slot_list_append PySem.F.type_list_append mt_append (pv 2 rfl (.inl rfl)) (pa_cons h pa_nil))) (fun row_1 => nrm [some (.val cell_0), some (.val sizes_0), some (.own row_1), some (.val s_1.2.1), some (.val seed_1), some (.val great_0), some (.val k_0), none] (pb_asg 3 C.nd rfl (.inl rfl) (px_op op_fdivW od_div (px_callTy call_int1 cd_int (by rfl) S.n_int (by decide +kernel) (pax_cons (px_v 3 rfl rfl (.inl rfl) (by decide) (by decide)) pax_nil)) (px_ix ix_seq od_ix (px_v 1 rfl rfl (.inl rfl) (by decide) (by decide)) (px_v 6 rfl rfl (.inl rfl) (by decide) (by decide)) (fun _ _ => rfl))) rfl (.inl rfl) (fun rest_2 => nrm [some (.val cell_0), some (.val sizes_0), some (.own row_1), some (.val rest_2), some (.val seed_1), some (.val great_0), some (.val k_0), none] (pb_nilS (s := (row_1, rest_2, seed_1)) rfl (by simp [subE])))))) (pb_asg 7 C.nd rfl (.inl rfl) (px_op op_modN od_mod (px_callTy call_int1 cd_int (by rfl) S.n_int (by decide +kernel) (pax_cons (px_op op_mulAll od_rep (px_v 4 rfl rfl (.inl rfl) (by decide) (by decide)) (px_op op_addAll od_add (px_op op_fdivW od_div (px_v 4 rfl rfl (.inl rfl) (by decide) (by decide)) px_int) px_int)) pax_nil)) px_int) rfl (.inl rfl) (fun twice_0 => nrm [some (.val cell_0), some (.val sizes_0), some (.own s_1.1), some (.val s_1.2.1), some (.val seed_1), some (.val great_0), some (.val k_0), some (.val twice_0)] (pb_append 2 (o := .Name "row" ⟨0, 0, 0, 0⟩) (p1 := ⟨0, 0, 0, 0⟩) (p2 := ⟨0, 0, 0, 0⟩) C.kk rfl (px_op op_modN od_mod (px_op op_fdivW od_div (px_v 7 rfl rfl (.inl rfl) (by decide) (by decide)) px_int) (px_ix ix_seq od_ix (px_v 1 rfl rfl (.inl rfl) (by decide) (by decide)) (px_v 6 rfl rfl (.inl rfl) (by decide) (by decide)) (fun _ _ => rfl))) (fun _ h => ps_expr (pe_bm PySem.F.plainAttrs_list PySem.F.slot_list_append PySem.F.type_list_append mt_append (pv 2 rfl (.inl rfl)) (pa_cons h pa_nil))) (fun row_2 => nrm [some (.val cell_0), some (.val sizes_0), some (.own row_2), some (.val s_1.2.1), some (.val seed_1), some (.val great_0), some (.val k_0), some (.val twice_0)] (pb_nilS (s := (row_2, s_1.2.1, seed_1)) rfl (by simp [subE])))))))))) (fun s_1 => nrm [some (.val cell_0), some (.val sizes_0), some (.own s_1.1), some (.val s_1.2.1), some (.val s_1.2.2), some (.val great_0), none, none] (pb_frz 2 rfl (nrm [some (.val cell_0), some (.val sizes_0), some (.val (.lst s_1.1)), some (.val s_1.2.1), some (.val s_1.2.2), some (.val great_0), none, none] (pb_retD (fun _ => rfl) (px_v 2 rfl rfl (.inl rfl) (by decide) (by decide)))))) (fun _ => rfl))))))))))))
def b__law_cell (script_0 k_0 : D) : Res D := iteR (blR (op2 ltD (.ok k_0) (callO lenD (consR (.ok script_0) (.ok []))))) (op2 ixD (.ok script_0) (.ok k_0)) (Res.bind (.ok (.int 17)) fun seed_0 => Res.bind (itemsR (.ok script_0)) fun ds => Res.bind (forR (fun (s_0 : D) (cell_0 : D) => Res.bind (op2 modD (callO intD (consR (op2 addD (op2 repD (.ok s_0) (.ok (.int 31))) (op2 modD (callO intD (consR (.ok cell_0) (.ok []))) (.ok (.int 1000003)))) (.ok []))) (.ok (.int 1000003))) fun seed_1 => .ok seed_1) ds seed_0) fun s_0 => op2 modD (callO intD (consR (op2 repD (op2 repD (op2 addD (.ok s_0) (.ok (.int 7))) (op2 addD (.ok k_0) (.ok (.int 3)))) (.ok (.int 69621))) (.ok []))) (.ok (.int 2147483647)))
def m__law_cell : List D → Res D
  | [script_0, k_0] => b__law_cell script_0 k_0
  | _ => .bad
theorem hn__law_cell : ∀ ds : List D, ds.length ≠ 2 → m__law_cell ds = .bad := by
  intro ds h
  unfold m__law_cell
  split
  · exact absurd rfl h
  · rfl
theorem ok__law_cell {g : FP} {a : Adr} (S : Txt g a) : FnOk g.P g.w g.K g.mg g.base (L2.CX g.P g.w) 1 a.f__law_cell a.fd__law_cell ["script", "k"] (pureSp (mkT g a) 2 m__law_cell) := by
  refine fn_pure rfl S._law_cell_R sc__law_cell fun cdv A outer s H E C ds hl => ?_
  match ds, hl with
  | [script_0, k_0], _ =>
    show PBX _ _ _ _ _ [some (.val script_0), some (.val k_0), none, none] (b__law_cell script_0 k_0) _ _ _
    unfold b__law_cell
    exact (pb_if_x0 (ptx_cmp (op_ltAll C.room.units0) od_lt (px_v 1 rfl rfl (.inl rfl) (by decide) (by decide)) (px_callB call_len cd_len (by rfl) S.n_len PySem.boot_len (pax_cons (px_v 0 rfl rfl (.inl rfl) (by decide) (by decide)) pax_nil)) (nomark _)) (pb_retD (fun _ => rfl) (px_ix ix_seq od_ix (px_v 0 rfl rfl (.inl rfl) (by decide) (by decide)) (px_v 1 rfl rfl (.inl rfl) (by decide) (by decide)) (fun _ _ => rfl))) (pb_asg 2 C.nd rfl (.inl rfl) px_int rfl (.inl rfl) (fun seed_0 => nrm [some (.val script_0), some (.val k_0), some (.val seed_0), none] (pb_forS (e1 := (fun (s_0 : D) => ([some (.val script_0), some (.val k_0), some (.val s_0), none] : Env'))) (s0 := seed_0) C.po C.calm (pix_seq C.kk (px_v 0 rfl rfl (.inl rfl) (by decide) (by decide))) (pgx_name 3 C.nd rfl (.inl rfl) (.inl rfl)) (by simp [subE]) (fun s_0 cell_0 => nrm [some (.val script_0), some (.val k_0), some (.val s_0), some (.val cell_0)] (pb_asg 2 C.nd rfl (.inl rfl) (px_op op_modN od_mod (px_callTy call_int1 cd_int (by rfl) S.n_int (by decide +kernel) (pax_cons (px_op op_addAll od_add (px_op op_mulAll od_rep (px_v 2 rfl rfl (.inl rfl) (by decide) (by decide)) px_int) (px_op op_modN od_mod (px_callTy call_int1 cd_int (by rfl) S.n_int (by decide +kernel) (pax_cons (px_v 3 rfl rfl (.inl rfl) (by decide) (by decide)) pax_nil)) px_int)) pax_nil)) px_int) rfl (.inl rfl) (fun seed_1 => nrm [some (.val script_0), some (.val k_0), some (.val seed_1), some (.val cell_0)] (pb_nilS (s := seed_1) rfl (by simp [subE]))))) (fun s_0 => nrm [some (.val script_0), some (.val k_0), some (.val s_0), none] (pb_retD (fun _ => rfl) (px_op op_modN od_mod (px_callTy call_int1 cd_int (by rfl) S.n_int (by decide +kernel) (pax_cons (px_op op_mulAll od_rep (px_op op_mulAll od_rep (px_op op_addAll od_add (px_v 2 rfl rfl (.inl rfl) (by decide) (by decide)) px_int) (px_op op_addAll od_add (px_v 1 rfl rfl (.inl rfl) (by decide) (by decide)) px_int)) px_int) pax_nil)) px_int))) (fun _ => rfl)))))
def b__law_entry (kind_0 amount_0 least_0 endless_0 : D) : Res D := iteR (andB (blR (op2 eqD (.ok kind_0) (.ok (.int 11)))) (truR (.ok endless_0))) (.ok .non) (Res.bind (lstV (dispR (consR (.ok (.int 0)) (consR (.ok (.int 0)) (consR (.ok (.int 0)) (consR (.ok (.int 0)) (consR (.ok (.int 0)) (consR (.ok (.int 1)) (consR (.ok (.int 1)) (consR (op2 modD (callO intD (consR (.ok amount_0) (.ok []))) (.ok (.int 3))) (consR (op2 modD (callO intD (consR (.ok amount_0) (.ok []))) (.ok (.int 5))) (consR (op2 modD (callO intD (consR (.ok amount_0) (.ok []))) (.ok (.int 12))) (.ok []))))))))))))) fun small_0 => op2 addD (.ok least_0) (op2 ixD (op2 addD (.ok small_0) (lstV (dispR (consR (.ok amount_0) (consR (.ok (.int 2)) (consR (op2 repD (.ok amount_0) (op2 powD (.ok (.int 10)) (.ok (.int 12)))) (.ok []))))))) (.ok kind_0)))
def m__law_entry : List D → Res D
  | [kind_0, amount_0, least_0, endless_0] => b__law_entry kind_0 amount_0 least_0 endless_0
  | _ => .bad
theorem hn__law_entry : ∀ ds : List D, ds.length ≠ 4 → m__law_entry ds = .bad := by
  intro ds h
  unfold m__law_entry
  split
  · exact absurd rfl h
  · rfl
theorem ok__law_entry {g : FP} {a : Adr} (S : Txt g a) : FnOk g.P g.w g.K g.mg g.base (L2.CX g.P g.w) 1 a.f__law_entry a.fd__law_entry ["kind", "amount", "least", "endless"] (pureSp (mkT g a) 4 m__law_entry) := by
  refine fn_pure rfl S._law_entry_R sc__law_entry fun cdv A outer s H E C ds hl => ?_
  match ds, hl with
  | [kind_0, amount_0, least_0, endless_0], _ =>
    show PBX _ _ _ _ _ [some (.val kind_0), some (.val amount_0), some (.val least_0), some (.val endless_0), none] (b__law_entry kind_0 amount_0 least_0 endless_0) _ _ _
    unfold b__law_entry
    exact (pb_if_x0 (PWX.pt (pwx_and (ptx_cmp (op_eqD C.room.units) od_eq (px_v 0 rfl rfl (.inl rfl) (by decide) (by decide)) px_int (nomark _)) (pwx_and1 (ptx_tru C.kk (px_v 3 rfl rfl (.inl rfl) (by decide) (by decide)) (fun _ => rfl))))) (pb_retD (fun _ => rfl) px_non) (pb_asg 4 C.nd rfl (.inl rfl) (PXO.px (pxo_lst (pax_cons px_int (pax_cons px_int (pax_cons px_int (pax_cons px_int (pax_cons px_int (pax_cons px_int (pax_cons px_int (pax_cons (px_op op_modN od_mod (px_callTy call_int1 cd_int (by rfl) S.n_int (by decide +kernel) (pax_cons (px_v 1 rfl rfl (.inl rfl) (by decide) (by decide)) pax_nil)) px_int) (pax_cons (px_op op_modN od_mod (px_callTy call_int1 cd_int (by rfl) S.n_int (by decide +kernel) (pax_cons (px_v 1 rfl rfl (.inl rfl) (by decide) (by decide)) pax_nil)) px_int) (pax_cons (px_op op_modN od_mod (px_callTy call_int1 cd_int (by rfl) S.n_int (by decide +kernel) (pax_cons (px_v 1 rfl rfl (.inl rfl) (by decide) (by decide)) pax_nil)) px_int) pax_nil)))))))))))) rfl (.inl rfl) (fun small_0 => nrm [some (.val kind_0), some (.val amount_0), some (.val least_0), some (.val endless_0), some (.val small_0)] (pb_retD (fun _ => rfl) (px_op op_addAll od_add (px_v 2 rfl rfl (.inl rfl) (by decide) (by decide)) (px_ix ix_seq od_ix (px_op op_addAll od_add (px_v 4 rfl rfl (.inl rfl) (by decide) (by decide)) (PXO.px (pxo_lst (pax_cons (px_v 1 rfl rfl (.inl rfl) (by decide) (by decide)) (pax_cons px_int (pax_cons (px_op op_mulAll od_rep (px_v 1 rfl rfl (.inl rfl) (by decide) (by decide)) (px_op op_pow od_pow px_int px_int)) pax_nil)))))) (px_v 0 rfl rfl (.inl rfl) (by decide) (by decide)) (fun _ _ => rfl)))))))
def b__law_grade (cell_0 : D) : Res D := Res.bind (callR m__law_digits [] (consR (.ok cell_0) (consR (op2 addD (op2 addD (lstV (dispR (consR (.ok (.int 70)) (consR (.ok (.int 11)) (.ok []))))) (op2 repD (lstV (dispR (consR (.ok (.int 13)) (.ok [])))) (.ok (.int 30)))) (op2 repD (lstV (dispR (consR (op2 powD (.ok (.int 10)) (.ok (.int 20))) (.ok [])))) (.ok (.int 31)))) (.ok [])))) fun row_0 => Res.bind (op2 ixD (.ok row_0) (.ok (.int 0))) fun many_0 => Res.bind (iteR (blR (op2 gtD (.ok many_0) (.ok (.int 30)))) (Res.bind (op2 ixD (lstV (dispR (consR (.ok (.int 0)) (consR (.ok (.int 1)) (consR (.ok (.int 2)) (consR (.ok (.int 3)) (consR (.ok (.int 4)) (consR (.ok (.int 5)) (consR (.ok (.int 6)) (consR (.ok (.int 2)) (consR (.ok (.int 3)) (consR (.ok (.int 4)) (consR (.ok (.int 30)) (consR (.ok (.int 1)) (consR (.ok (.int 3)) (.ok [])))))))))))))))) (op2 modD (callO intD (consR (op2 subD (.ok many_0) (.ok (.int 31))) (.ok []))) (.ok (.int 13)))) fun many_1 => .ok many_1) (.ok many_0)) fun s_0 => Res.bind (op2 ixD (.ok row_0) (.ok (.int 32))) fun amount_0 => Res.bind (op2 ixD (lstV (dispR (consR (.ok (.int 0)) (consR (.ok (.int 0)) (consR (.ok (.int 0)) (consR (.ok (.int 1)) (consR (.ok (.int 1)) (consR (.ok (.int 2)) (consR (.ok .non) (consR (.ok .non) (consR (op2 modD (callO intD (consR (.ok amount_0) (.ok []))) (.ok (.int 40))) (consR (.ok amount_0) (consR (op2 repD (.ok amount_0) (op2 powD (.ok (.int 10)) (.ok (.int 12)))) (.ok [])))))))))))))) (op2 ixD (.ok row_0) (.ok (.int 1)))) fun gain_0 => Res.bind (dispR (.ok [])) fun entries_0 => Res.bind (.ok (.int 0)) fun last_0 => Res.bind (callOo rng1 (consR (.ok s_0) (.ok []))) fun ds => Res.bind (forR (fun (s_1 : List D × D) (k_0 : D) => Res.bind (iteR (blR (op2 notND (.ok s_1.2) (.ok .non))) (Res.bind (callR m__law_entry [] (consR (op2 ixD (.ok row_0) (op2 addD (.ok (.int 2)) (.ok k_0))) (consR (op2 ixD (.ok row_0) (op2 addD (.ok (.int 33)) (.ok k_0))) (consR (callO maxD (consR (.ok s_1.2) (consR (.ok k_0) (.ok [])))) (consR (op2 isND (.ok gain_0) (.ok .non)) (.ok [])))))) fun last_1 => .ok last_1) (.ok s_1.2)) fun s_2 => Res.bind (iteR (blR (op2 notND (.ok gain_0) (.ok .non))) (Res.bind (callO minD (consR (.ok s_2) (consR (op2 addD (.ok s_0) (.ok gain_0)) (.ok [])))) fun last_2 => .ok last_2) (.ok s_2)) fun s_3 => appR s_1.1 (.ok s_3) fun entries_1 => .ok (entries_1, s_3)) ds (entries_0, last_0)) fun s_1 => lstV (dispR (consR (.ok (.lst s_1.1)) (consR (.ok gain_0) (.ok []))))
def m__law_grade : List D → Res D
  | [cell_0] => b__law_grade cell_0
  | _ => .bad
theorem hn__law_grade : ∀ ds : List D, ds.length ≠ 1 → m__law_grade ds = .bad := by
  intro ds h
  unfold m__law_grade
  split
  · exact absurd rfl h
  · rfl
theorem ok__law_grade {g : FP} {a : Adr} (S : Txt g a) : FnOk g.P g.w g.K g.mg g.base (L2.CX g.P g.w) 2 a.f__law_grade a.fd__law_grade ["cell"] (pureSp (mkT g a) 1 m__law_grade) := by
  refine fn_pure rfl S._law_grade_R sc__law_grade fun cdv A outer s H E C ds hl => ?_
  match ds, hl with
  | [cell_0], _ =>
    show PBX _ _ _ _ _ [some (.val cell_0), none, none, none, none, none, none, none] (b__law_grade cell_0) _ _ _
    unfold b__law_grade
    exact (pb_asg 1 C.nd rfl (.inl rfl) (px_call C (ok__law_digits S) hn__law_digits (by decide) (by rfl) S.h__law_digits S._law_digits_F.kp S._law_digits_b .nil (fun _ => .nil) (pax_cons (px_v 0 rfl rfl (.inl rfl) (by decide) (by decide)) (pax_cons (px_op op_addAll od_add (px_op op_addAll od_add (PXO.px (pxo_lst (pax_cons px_int (pax_cons px_int pax_nil)))) (px_op op_mulAll od_rep (PXO.px (pxo_lst (pax_cons px_int pax_nil))) px_int)) (px_op op_mulAll od_rep (PXO.px (pxo_lst (pax_cons (px_op op_pow od_pow px_int px_int) pax_nil))) px_int)) pax_nil))) rfl (.inl rfl) (fun row_0 => nrm [some (.val cell_0), some (.val row_0), none, none, none, none, none, none] (pb_asg 2 C.nd rfl (.inl rfl) (px_ix ix_seq od_ix (px_v 1 rfl rfl (.inl rfl) (by decide) (by decide)) px_int (fun _ _ => rfl)) rfl (.inl rfl) (fun many_0 => nrm [some (.val cell_0), some (.val row_0), some (.val many_0), none, none, none, none, none] (pb_if_j (e' := fun (s_0 : D) => ([some (.val cell_0), some (.val row_0), some (.val s_0), none, none, none, none, none] : Env')) (ptx_cmp op_gt od_gt (px_v 2 rfl rfl (.inl rfl) (by decide) (by decide)) px_int (nomark _)) (pb_asg 2 C.nd rfl (.inl rfl) (px_ix ix_seq od_ix (PXO.px (pxo_lst (pax_cons px_int (pax_cons px_int (pax_cons px_int (pax_cons px_int (pax_cons px_int (pax_cons px_int (pax_cons px_int (pax_cons px_int (pax_cons px_int (pax_cons px_int (pax_cons px_int (pax_cons px_int (pax_cons px_int pax_nil))))))))))))))) (px_op op_modN od_mod (px_callTy call_int1 cd_int (by rfl) S.n_int (by decide +kernel) (pax_cons (px_op op_sub od_sub (px_v 2 rfl rfl (.inl rfl) (by decide) (by decide)) px_int) pax_nil)) px_int) (fun _ _ => rfl)) rfl (.inl rfl) (fun many_1 => nrm [some (.val cell_0), some (.val row_0), some (.val many_1), none, none, none, none, none] (pb_nilS (s := many_1) rfl (by simp [subE])))) (pb_nilS (s := many_0) rfl (by simp [subE])) (fun s_0 => nrm [some (.val cell_0), some (.val row_0), some (.val s_0), none, none, none, none, none] (pb_asg 3 C.nd rfl (.inl rfl) (px_ix ix_seq od_ix (px_v 1 rfl rfl (.inl rfl) (by decide) (by decide)) px_int (fun _ _ => rfl)) rfl (.inl rfl) (fun amount_0 => nrm [some (.val cell_0), some (.val row_0), some (.val s_0), some (.val amount_0), none, none, none, none] (pb_asg 4 C.nd rfl (.inl rfl) (px_ix ix_seq od_ix (PXO.px (pxo_lst (pax_cons px_int (pax_cons px_int (pax_cons px_int (pax_cons px_int (pax_cons px_int (pax_cons px_int (pax_cons px_non (pax_cons px_non (pax_cons (px_op op_modN od_mod (px_callTy call_int1 cd_int (by rfl) S.n_int (by decide +kernel) (pax_cons (px_v 3 rfl rfl (.inl rfl) (by decide) (by decide)) pax_nil)) px_int) (pax_cons (px_v 3 rfl rfl (.inl rfl) (by decide) (by decide)) (pax_cons (px_op op_mulAll od_rep (px_v 3 rfl rfl (.inl rfl) (by decide) (by decide)) (px_op op_pow od_pow px_int px_int)) pax_nil))))))))))))) (px_ix ix_seq od_ix (px_v 1 rfl rfl (.inl rfl) (by decide) (by decide)) px_int (fun _ _ => rfl)) (fun _ _ => rfl)) rfl (.inl rfl) (fun gain_0 => nrm [some (.val cell_0), some (.val row_0), some (.val s_0), some (.val amount_0), some (.val gain_0), none, none, none] (pb_asgO 5 C.nd rfl (.inl rfl) (pxo_lst pax_nil) rfl (.inl rfl) (fun entries_0 => nrm [some (.val cell_0), some (.val row_0), some (.val s_0), some (.val amount_0), some (.val gain_0), some (.own entries_0), none, none] (pb_asg 6 C.nd rfl (.inl rfl) px_int rfl (.inl rfl) (fun last_0 => nrm [some (.val cell_0), some (.val row_0), some (.val s_0), some (.val amount_0), some (.val gain_0), some (.own entries_0), some (.val last_0), none] (pb_forS (e1 := (fun (s_1 : List D × D) => ([some (.val cell_0), some (.val row_0), some (.val s_0), some (.val amount_0), some (.val gain_0), some (.own s_1.1), some (.val s_1.2), none] : Env'))) (s0 := (entries_0, last_0)) C.po C.calm (pix_range1 (by rfl) S.n_range (pax_cons (px_v 2 rfl rfl (.inl rfl) (by decide) (by decide)) pax_nil)) (pgx_name 7 C.nd rfl (.inl rfl) (.inl rfl)) (by simp [subE]) (fun s_1 k_0 => nrm [some (.val cell_0), some (.val row_0), some (.val s_0), some (.val amount_0), some (.val gain_0), some (.own s_1.1), some (.val s_1.2), some (.val k_0)] (pb_if_j (e' := fun (s_2 : D) => ([some (.val cell_0), some (.val row_0), some (.val s_0), some (.val amount_0), some (.val gain_0), some (.own s_1.1), some (.val s_2), some (.val k_0)] : Env')) (ptx_cmp op_notN od_notN (px_v 6 rfl rfl (.inl rfl) (by decide) (by decide)) px_non (nomark _)) (pb_asg 6 C.nd rfl (.inl rfl) (px_call C (ok__law_entry S) hn__law_entry (by decide) (by rfl) S.h__law_entry S._law_entry_F.kp S._law_entry_b .nil (fun _ => .nil) (pax_cons (px_ix ix_seq od_ix (px_v 1 rfl rfl (.inl rfl) (by decide) (by decide)) (px_op op_addAll od_add px_int (px_v 7 rfl rfl (.inl rfl) (by decide) (by decide))) (fun _ _ => rfl)) (pax_cons (px_ix ix_seq od_ix (px_v 1 rfl rfl (.inl rfl) (by decide) (by decide)) (px_op op_addAll od_add px_int (px_v 7 rfl rfl (.inl rfl) (by decide) (by decide))) (fun _ _ => rfl)) (pax_cons (px_callB (call_max2 C.calm) cd_max (by rfl) S.n_max (by decide +kernel) (pax_cons (px_v 6 rfl rfl (.inl rfl) (by decide) (by decide)) (pax_cons (px_v 7 rfl rfl (.inl rfl) (by decide) (by decide)) pax_nil))) (pax_cons (px_cmpR op_isN od_isN (px_v 4 rfl rfl (.inl rfl) (by decide) (by decide)) px_non (nomark _)) pax_nil))))) rfl (.inl rfl) (fun last_1 => nrm [some (.val cell_0), some (.val row_0), some (.val s_0), some (.val amount_0), some (.val gain_0), some (.own s_1.1), some (.val last_1), some (.val k_0)] (pb_nilS (s := last_1) rfl (by simp [subE])))) (pb_nilS (s := s_1.2) rfl (by simp [subE])) (fun s_2 => nrm [some (.val cell_0), some (.val row_0), some (.val s_0), some (.val amount_0), some (.val gain_0), some (.own s_1.1), some (.val s_2), some (.val k_0)] (pb_if_j (e' := fun (s_3 : D) => ([some (.val cell_0), some (.val row_0), some (.val s_0), some (.val amount_0), some (.val gain_0), some (.own s_1.1), some (.val s_3), some (.val k_0)] : Env')) (ptx_cmp op_notN od_notN (px_v 4 rfl rfl (.inl rfl) (by decide) (by decide)) px_non (nomark _)) (pb_asg 6 C.nd rfl (.inl rfl) (px_callB (call_min2 C.calm) cd_min (by rfl) S.n_min (by decide +kernel) (pax_cons (px_v 6 rfl rfl (.inl rfl) (by decide) (by decide)) (pax_cons (px_op op_addAll od_add (px_v 2 rfl rfl (.inl rfl) (by decide) (by decide)) (px_v 4 rfl rfl (.inl rfl) (by decide) (by decide))) pax_nil))) rfl (.inl rfl) (fun last_2 => nrm [some (.val cell_0), some (.val row_0), some (.val s_0), some (.val amount_0), some (.val gain_0), some (.own s_1.1), some (.val last_2), some (.val k_0)] (pb_nilS (s := last_2) rfl (by simp [subE])))) (pb_nilS (s := s_2) rfl (by simp [subE])) (fun s_3 => nrm [some (.val cell_0), some (.val row_0), some (.val s_0), some (.val amount_0), some (.val gain_0), some (.own s_1.1), some (.val s_3), some (.val k_0)] (pb_append 5 (o := .Name "entries" ⟨0, 0, 0, 0⟩) (p1 := ⟨0, 0, 0, 0⟩) (p2 := ⟨0, 0, 0, 0⟩) C.kk rfl (px_v 6 rfl rfl (.inl rfl) (by decide) (by decide)) (fun _ h => ps_expr (pe_bm PySem.F.plainAttrs_list PySem.F.slot_list_append PySem.F.type_list_append mt_append (pv 5 rfl (.inl rfl)) (pa_cons h pa_nil))) (fun entries_1 => nrm [some (.val cell_0), some (.val row_0), some (.val s_0), some (.val amount_0), some (.val gain_0), some (.own entries_1), some (.val s_3), some (.val k_0)] (pb_nilS (s := (entries_1, s_3)) rfl (by simp [subE]))))))))) (fun s_1 => nrm [some (.val cell_0), some (.val row_0), some (.val s_0), some (.val amount_0), some (.val gain_0), some (.own s_1.1), some (.val s_1.2), none] (pb_frz 5 rfl (nrm [some (.val cell_0), some (.val row_0), some (.val s_0), some (.val amount_0), some (.val gain_0), some (.val (.lst s_1.1)), some (.val s_1.2), none] (pb_retD (fun _ => rfl) (PXO.px (pxo_lst (pax_cons (px_v 5 rfl rfl (.inl rfl) (by decide) (by decide)) (pax_cons (px_v 4 rfl rfl (.inl rfl) (by decide) (by decide)) pax_nil)))))))) (fun _ => rfl))))))))))))))))
def b__law_whole (value_0 : D) : Res D := andV (op1 (isiD "int") (.ok value_0)) (notV (op1 (isiD "bool") (.ok value_0)))
def m__law_whole : List D → Res D
  | [value_0] => b__law_whole value_0
  | _ => .bad
theorem hn__law_whole : ∀ ds : List D, ds.length ≠ 1 → m__law_whole ds = .bad := by
  intro ds h
  unfold m__law_whole
  split
  · exact absurd rfl h
  · rfl
theorem ok__law_whole {g : FP} {a : Adr} (S : Txt g a) : FnOk g.P g.w g.K g.mg g.base (L2.CX g.P g.w) 1 a.f__law_whole a.fd__law_whole ["value"] (pureSp (mkT g a) 1 m__law_whole) := by
  refine fn_pure rfl S._law_whole_R sc__law_whole fun cdv A outer s H E C ds hl => ?_
  match ds, hl with
  | [value_0], _ =>
    show PBX _ _ _ _ _ [some (.val value_0)] (b__law_whole value_0) _ _ _
    unfold b__law_whole
    exact (pb_retD (fun _ => rfl) (px_and (px_isi C.kk S.kt (by simp) (by rfl) S.n_isinstance (by rfl) S.n_int (by decide +kernel) (by decide) (by decide) (px_v 0 rfl rfl (.inl rfl) (by decide) (by decide))) (px_one (px_not (px_isi C.kk S.kt (by simp) (by rfl) S.n_isinstance (by rfl) S.n_bool (by decide +kernel) (by decide) (by decide) (px_v 0 rfl rfl (.inl rfl) (by decide) (by decide)))))))
def b__law_longer (grade_0 many_0 : D) : Res D := Res.bind (callOo listO (consR (op2 ixD (.ok grade_0) (.ok (.int 0))) (.ok []))) fun entries_0 => Res.bind (callOo rng2 (consR (callO lenD (consR (op2 ixD (.ok grade_0) (.ok (.int 0))) (.ok []))) (consR (.ok many_0) (.ok [])))) fun ds => Res.bind (forR (fun (s_0 : List D) (k_0 : D) => iteR (truR (callR m__law_whole [] (consR (op2 ixD (.ok grade_0) (.ok (.int 1))) (.ok [])))) (appR s_0 (op2 addD (.ok k_0) (op2 ixD (.ok grade_0) (.ok (.int 1)))) fun entries_1 => .ok entries_1) (appR s_0 (.ok .non) fun entries_2 => .ok entries_2)) ds entries_0) fun s_0 => lstV (dispR (consR (.ok (.lst s_0)) (consR (op2 ixD (.ok grade_0) (.ok (.int 1))) (.ok []))))
def m__law_longer : List D → Res D
  | [grade_0, many_0] => b__law_longer grade_0 many_0
  | _ => .bad
theorem hn__law_longer : ∀ ds : List D, ds.length ≠ 2 → m__law_longer ds = .bad := by
  intro ds h
  unfold m__law_longer
  split
  · exact absurd rfl h
  · rfl
theorem ok__law_longer {g : FP} {a : Adr} (S : Txt g a) : FnOk g.P g.w g.K g.mg g.base (L2.CX g.P g.w) 2 a.f__law_longer a.fd__law_longer ["grade", "many"] (pureSp (mkT g a) 2 m__law_longer) := by
  refine fn_pure rfl S._law_longer_R sc__law_longer fun cdv A outer s H E C ds hl => ?_
  match ds, hl with
  | [grade_0, many_0], _ =>
    show PBX _ _ _ _ _ [some (.val grade_0), some (.val many_0), none, none] (b__law_longer grade_0 many_0) _ _ _
    unfold b__law_longer
    exact (pb_asgO 2 C.nd rfl (.inl rfl) (pxo_list C.kk (by rfl) S.n_list (pax_cons (px_ix ix_seq od_ix (px_v 0 rfl rfl (.inl rfl) (by decide) (by decide)) px_int (fun _ _ => rfl)) pax_nil)) rfl (.inl rfl) (fun entries_0 => nrm [some (.val grade_0), some (.val many_0), some (.own entries_0), none] (pb_forS (e1 := (fun (s_0 : List D) => ([some (.val grade_0), some (.val many_0), some (.own s_0), none] : Env'))) (s0 := entries_0) C.po C.calm (pix_range2 (by rfl) S.n_range (pax_cons (px_callB call_len cd_len (by rfl) S.n_len PySem.boot_len (pax_cons (px_ix ix_seq od_ix (px_v 0 rfl rfl (.inl rfl) (by decide) (by decide)) px_int (fun _ _ => rfl)) pax_nil)) (pax_cons (px_v 1 rfl rfl (.inl rfl) (by decide) (by decide)) pax_nil))) (pgx_name 3 C.nd rfl (.inl rfl) (.inl rfl)) (by simp [subE]) (fun s_0 k_0 => nrm [some (.val grade_0), some (.val many_0), some (.own s_0), some (.val k_0)] (pb_if_last (ptx_tru C.kk (px_call C (ok__law_whole S) hn__law_whole (by decide) (by rfl) S.h__law_whole S._law_whole_F.kp S._law_whole_b .nil (fun _ => .nil) (pax_cons (px_ix ix_seq od_ix (px_v 0 rfl rfl (.inl rfl) (by decide) (by decide)) px_int (fun _ _ => rfl)) pax_nil)) (fun _ => rfl)) (pb_append 2 (o := .Name "entries" ⟨0, 0, 0, 0⟩) (p1 := ⟨0, 0, 0, 0⟩) (p2 := ⟨0, 0, 0, 0⟩) C.kk rfl (px_op op_addAll od_add (px_v 3 rfl rfl (.inl rfl) (by decide) (by decide)) (px_ix ix_seq od_ix (px_v 0 rfl rfl (.inl rfl) (by decide) (by decide)) px_int (fun _ _ => rfl))) (fun _ h => ps_expr (pe_bm PySem.F.plainAttrs_list PySem.F.slot_list_append PySem.F.type_list_append mt_append (pv 2 rfl (.inl rfl)) (pa_cons h pa_nil))) (fun entries_1 => nrm [some (.val grade_0), some (.val many_0), some (.own entries_1), some (.val k_0)] (pb_nilS (s := entries_1) rfl (by simp [subE])))) (pb_append 2 (o := .Name "entries" ⟨0, 0, 0, 0⟩) (p1 := ⟨0, 0, 0, 0⟩) (p2 := ⟨0, 0, 0, 0⟩) C.kk rfl px_non (fun _ h => ps_expr (pe_bm PySem.F.plainAttrs_list PySem.F.slot_list_append PySem.F.type_list_append mt_append (pv 2 rfl (.inl rfl)) (pa_cons h pa_nil))) (fun entries_2 => nrm [some (.val grade_0), some (.val many_0), some (.own entries_2), some (.val k_0)] (pb_nilS (s := entries_2) rfl (by simp [subE])))))) (fun s_0 => nrm [some (.val grade_0), some (.val many_0), some (.own s_0), none] (pb_frz 2 rfl (nrm [some (.val grade_0), some (.val many_0), some (.val (.lst s_0)), none] (pb_retD (fun _ => rfl) (PXO.px (pxo_lst (pax_cons (px_v 2 rfl rfl (.inl rfl) (by decide) (by decide)) (pax_cons (px_ix ix_seq od_ix (px_v 0 rfl rfl (.inl rfl) (by decide) (by decide)) px_int (fun _ _ => rfl)) pax_nil)))))))) (fun _ => rfl))))
def b__law_between (grade_0 entries_0 at_0 low_0 row_0 : D) : Res D := Res.bind (.ok .non) fun high_0 => Res.bind (iteR (blR (op2 ltD (op2 addD (.ok at_0) (.ok (.int 1))) (callO lenD (consR (.ok entries_0) (.ok []))))) (Res.bind (op2 ixD (.ok entries_0) (op2 addD (.ok at_0) (.ok (.int 1)))) fun high_1 => .ok high_1) (iteR (blR (op2 notND (op2 ixD (.ok grade_0) (.ok (.int 1))) (.ok .non))) (Res.bind (op2 addD (callO lenD (consR (.ok entries_0) (.ok []))) (op2 ixD (.ok grade_0) (.ok (.int 1)))) fun high_2 => .ok high_2) (.ok high_0))) fun s_0 => Res.bind (op2 ixD (.ok entries_0) (.ok at_0)) fun entry_0 => iteR (blR (op2 eqD (op2 ixD (.ok row_0) (.ok (.int 2))) (.ok (.int 0)))) (.ok low_0) (iteR (andB (blR (op2 eqD (op2 ixD (.ok row_0) (.ok (.int 2))) (.ok (.int 1)))) (andB (blR (op2 notND (.ok entry_0) (.ok .non))) (orB (blR (op2 isND (.ok s_0) (.ok .non))) (blR (op2 ltD (.ok entry_0) (.ok s_0)))))) (op2 addD (.ok entry_0) (.ok (.int 1))) (iteR (andB (blR (op2 eqD (op2 ixD (.ok row_0) (.ok (.int 2))) (.ok (.int 2)))) (andB (blR (op2 notND (.ok entry_0) (.ok .non))) (blR (op2 gtD (.ok entry_0) (.ok low_0))))) (op2 subD (.ok entry_0) (.ok (.int 1))) (iteR (orB (blR (op2 ltD (op2 ixD (.ok row_0) (.ok (.int 2))) (.ok (.int 4)))) (andB (blR (op2 isND (.ok s_0) (.ok .non))) (blR (op2 eqD (op2 ixD (.ok row_0) (.ok (.int 2))) (.ok (.int 4)))))) (.ok s_0) (iteR (blR (op2 isND (.ok s_0) (.ok .non))) (op2 addD (.ok low_0) (op2 ixD (.ok row_0) (.ok (.int 3)))) (op2 addD (.ok low_0) (op2 modD (callO intD (consR (op2 ixD (.ok row_0) (.ok (.int 3))) (.ok []))) (op2 addD (op2 subD (.ok s_0) (.ok low_0)) (.ok (.int 1)))))))))
def m__law_between : List D → Res D
  | [grade_0, entries_0, at_0, low_0, row_0] => b__law_between grade_0 entries_0 at_0 low_0 row_0
  | _ => .bad
theorem hn__law_between : ∀ ds : List D, ds.length ≠ 5 → m__law_between ds = .bad := by
  intro ds h
  unfold m__law_between
  split
  · exact absurd rfl h
  · rfl
theorem ok__law_between {g : FP} {a : Adr} (S : Txt g a) : FnOk g.P g.w g.K g.mg g.base (L2.CX g.P g.w) 1 a.f__law_between a.fd__law_between ["grade", "entries", "at", "low", "row"] (pureSp (mkT g a) 5 m__law_between) := by
  refine fn_pure rfl S._law_between_R sc__law_between fun cdv A outer s H E C ds hl => ?_
  match ds, hl with
  | [grade_0, entries_0, at_0, low_0, row_0], _ =>
    show PBX _ _ _ _ _ [some (.val grade_0), some (.val entries_0), some (.val at_0), some (.val low_0), some (.val row_0), none, none] (b__law_between grade_0 entries_0 at_0 low_0 row_0) _ _ _
    unfold b__law_between
    exact (pb_asg 5 C.nd rfl (.inl rfl) px_non rfl (.inl rfl) (fun high_0 => nrm [some (.val grade_0), some (.val entries_0), some (.val at_0), some (.val low_0), some (.val row_0), some (.val high_0), none] (pb_if_j (e' := fun (s_0 : D) => ([some (.val grade_0), some (.val entries_0), some (.val at_0), some (.val low_0), some (.val row_0), some (.val s_0), none] : Env')) (ptx_cmp (op_ltAll C.room.units0) od_lt (px_op op_addAll od_add (px_v 2 rfl rfl (.inl rfl) (by decide) (by decide)) px_int) (px_callB call_len cd_len (by rfl) S.n_len PySem.boot_len (pax_cons (px_v 1 rfl rfl (.inl rfl) (by decide) (by decide)) pax_nil)) (nomark _)) (pb_asg 5 C.nd rfl (.inl rfl) (px_ix ix_seq od_ix (px_v 1 rfl rfl (.inl rfl) (by decide) (by decide)) (px_op op_addAll od_add (px_v 2 rfl rfl (.inl rfl) (by decide) (by decide)) px_int) (fun _ _ => rfl)) rfl (.inl rfl) (fun high_1 => nrm [some (.val grade_0), some (.val entries_0), some (.val at_0), some (.val low_0), some (.val row_0), some (.val high_1), none] (pb_nilS (s := high_1) rfl (by simp [subE])))) (pb_if_last (ptx_cmp op_notN od_notN (px_ix ix_seq od_ix (px_v 0 rfl rfl (.inl rfl) (by decide) (by decide)) px_int (fun _ _ => rfl)) px_non (nomark _)) (pb_asg 5 C.nd rfl (.inl rfl) (px_op op_addAll od_add (px_callB call_len cd_len (by rfl) S.n_len PySem.boot_len (pax_cons (px_v 1 rfl rfl (.inl rfl) (by decide) (by decide)) pax_nil)) (px_ix ix_seq od_ix (px_v 0 rfl rfl (.inl rfl) (by decide) (by decide)) px_int (fun _ _ => rfl))) rfl (.inl rfl) (fun high_2 => nrm [some (.val grade_0), some (.val entries_0), some (.val at_0), some (.val low_0), some (.val row_0), some (.val high_2), none] (pb_nilS (s := high_2) rfl (by simp [subE])))) (pb_nilS (s := high_0) rfl (by simp [subE]))) (fun s_0 => nrm [some (.val grade_0), some (.val entries_0), some (.val at_0), some (.val low_0), some (.val row_0), some (.val s_0), none] (pb_asg 6 C.nd rfl (.inl rfl) (px_ix ix_seq od_ix (px_v 1 rfl rfl (.inl rfl) (by decide) (by decide)) (px_v 2 rfl rfl (.inl rfl) (by decide) (by decide)) (fun _ _ => rfl)) rfl (.inl rfl) (fun entry_0 => nrm [some (.val grade_0), some (.val entries_0), some (.val at_0), some (.val low_0), some (.val row_0), some (.val s_0), some (.val entry_0)] (pb_if_x0 (ptx_cmp (op_eqD C.room.units) od_eq (px_ix ix_seq od_ix (px_v 4 rfl rfl (.inl rfl) (by decide) (by decide)) px_int (fun _ _ => rfl)) px_int (nomark _)) (pb_retD (fun _ => rfl) (px_v 3 rfl rfl (.inl rfl) (by decide) (by decide))) (pb_if_x0 (PWX.pt (pwx_and (ptx_cmp (op_eqD C.room.units) od_eq (px_ix ix_seq od_ix (px_v 4 rfl rfl (.inl rfl) (by decide) (by decide)) px_int (fun _ _ => rfl)) px_int (nomark _)) (pwx_and (ptx_cmp op_notN od_notN (px_v 6 rfl rfl (.inl rfl) (by decide) (by decide)) px_non (nomark _)) (pwx_and1 (PWX.pt (pwx_or (ptx_cmp op_isN od_isN (px_v 5 rfl rfl (.inl rfl) (by decide) (by decide)) px_non (nomark _)) (pwx_or1 (ptx_cmp (op_ltAll C.room.units0) od_lt (px_v 6 rfl rfl (.inl rfl) (by decide) (by decide)) (px_v 5 rfl rfl (.inl rfl) (by decide) (by decide)) (nomark _))))))))) (pb_retD (fun _ => rfl) (px_op op_addAll od_add (px_v 6 rfl rfl (.inl rfl) (by decide) (by decide)) px_int)) (pb_if_x0 (PWX.pt (pwx_and (ptx_cmp (op_eqD C.room.units) od_eq (px_ix ix_seq od_ix (px_v 4 rfl rfl (.inl rfl) (by decide) (by decide)) px_int (fun _ _ => rfl)) px_int (nomark _)) (pwx_and (ptx_cmp op_notN od_notN (px_v 6 rfl rfl (.inl rfl) (by decide) (by decide)) px_non (nomark _)) (pwx_and1 (ptx_cmp op_gt od_gt (px_v 6 rfl rfl (.inl rfl) (by decide) (by decide)) (px_v 3 rfl rfl (.inl rfl) (by decide) (by decide)) (nomark _)))))) (pb_retD (fun _ => rfl) (px_op op_sub od_sub (px_v 6 rfl rfl (.inl rfl) (by decide) (by decide)) px_int)) (pb_if_x0 (PWX.pt (pwx_or (ptx_cmp (op_ltAll C.room.units0) od_lt (px_ix ix_seq od_ix (px_v 4 rfl rfl (.inl rfl) (by decide) (by decide)) px_int (fun _ _ => rfl)) px_int (nomark _)) (pwx_or1 (PWX.pt (pwx_and (ptx_cmp op_isN od_isN (px_v 5 rfl rfl (.inl rfl) (by decide) (by decide)) px_non (nomark _)) (pwx_and1 (ptx_cmp (op_eqD C.room.units) od_eq (px_ix ix_seq od_ix (px_v 4 rfl rfl (.inl rfl) (by decide) (by decide)) px_int (fun _ _ => rfl)) px_int (nomark _)))))))) (pb_retD (fun _ => rfl) (px_v 5 rfl rfl (.inl rfl) (by decide) (by decide))) (pb_if_x0 (ptx_cmp op_isN od_isN (px_v 5 rfl rfl (.inl rfl) (by decide) (by decide)) px_non (nomark _)) (pb_retD (fun _ => rfl) (px_op op_addAll od_add (px_v 3 rfl rfl (.inl rfl) (by decide) (by decide)) (px_ix ix_seq od_ix (px_v 4 rfl rfl (.inl rfl) (by decide) (by decide)) px_int (fun _ _ => rfl)))) (pb_retD (fun _ => rfl) (px_op op_addAll od_add (px_v 3 rfl rfl (.inl rfl) (by decide) (by decide)) (px_op op_modN od_mod (px_callTy call_int1 cd_int (by rfl) S.n_int (by decide +kernel) (pax_cons (px_ix ix_seq od_ix (px_v 4 rfl rfl (.inl rfl) (by decide) (by decide)) px_int (fun _ _ => rfl)) pax_nil)) (px_op op_addAll od_add (px_op op_sub od_sub (px_v 5 rfl rfl (.inl rfl) (by decide) (by decide)) (px_v 3 rfl rfl (.inl rfl) (by decide) (by decide))) px_int)))))))))))))))
def b__law_nudged (grade_0 cell_0 : D) : Res D := Res.bind (callR m__law_digits [] (consR (.ok cell_0) (consR (lstV (dispR (consR (.ok (.int 4)) (consR (.ok (.int 30)) (consR (.ok (.int 6)) (consR (op2 powD (.ok (.int 10)) (.ok (.int 20))) (.ok []))))))) (.ok [])))) fun row_0 => Res.bind (op2 ixD (.ok grade_0) (.ok (.int 0))) fun entries_0 => Res.bind (iteR (orB (blR (op2 gtD (op2 ixD (.ok row_0) (.ok (.int 0))) (.ok (.int 1)))) (blR (op2 eqD (callO lenD (consR (.ok entries_0) (.ok []))) (.ok (.int 0))))) (Res.bind (op2 ixD (callR m__law_longer [] (consR (.ok grade_0) (consR (op2 addD (op2 ixD (.ok row_0) (.ok (.int 1))) (.ok (.int 1))) (.ok [])))) (.ok (.int 0))) fun entries_1 => .ok entries_1) (.ok entries_0)) fun s_0 => Res.bind (op2 modD (callO intD (consR (op2 ixD (.ok row_0) (.ok (.int 1))) (.ok []))) (callO lenD (consR (.ok s_0) (.ok [])))) fun at_0 => Res.bind (iteR (blR (op2 eqD (op2 ixD (.ok row_0) (.ok (.int 0))) (.ok (.int 1)))) (Res.bind (op2 subD (callO lenD (consR (.ok s_0) (.ok []))) (.ok (.int 1))) fun at_1 => .ok at_1) (.ok at_0)) fun s_1 => Res.bind (.ok s_1) fun low_0 => Res.bind (iteR (blR (op2 gtD (.ok s_1) (.ok (.int 0)))) (Res.bind (op2 ixD (.ok s_0) (op2 subD (.ok s_1) (.ok (.int 1)))) fun low_1 => .ok low_1) (.ok low_0)) fun s_2 => iteR (blR (op2 isND (.ok s_2) (.ok .non))) (lstV (dispR (consR (.ok s_0) (consR (op2 ixD (.ok grade_0) (.ok (.int 1))) (.ok []))))) (lstV (dispR (consR (op2 addD (op2 addD (sliceR (.ok s_0) none (some (.ok s_1))) (lstV (dispR (consR (callR m__law_between [] (consR (.ok grade_0) (consR (.ok s_0) (consR (.ok s_1) (consR (callO maxD (consR (.ok s_2) (consR (.ok s_1) (.ok [])))) (consR (.ok row_0) (.ok []))))))) (.ok []))))) (sliceR (.ok s_0) (some (op2 addD (.ok s_1) (.ok (.int 1)))) none)) (consR (op2 ixD (.ok grade_0) (.ok (.int 1))) (.ok [])))))
def m__law_nudged : List D → Res D
  | [grade_0, cell_0] => b__law_nudged grade_0 cell_0
  | _ => .bad
theorem hn__law_nudged : ∀ ds : List D, ds.length ≠ 2 → m__law_nudged ds = .bad := by
  intro ds h
  unfold m__law_nudged
  split
  · exact absurd rfl h
  · rfl
theorem ok__law_nudged {g : FP} {a : Adr} (S : Txt g a) : FnOk g.P g.w g.K g.mg g.base (L2.CX g.P g.w) 3 a.f__law_nudged a.fd__law_nudged ["grade", "cell"] (pureSp (mkT g a) 2 m__law_nudged) := by
  refine fn_pure rfl S._law_nudged_R sc__law_nudged fun cdv A outer s H E C ds hl => ?_
  match ds, hl with
  | [grade_0, cell_0], _ =>
    show PBX _ _ _ _ _ [some (.val grade_0), some (.val cell_0), none, none, none, none] (b__law_nudged grade_0 cell_0) _ _ _
    unfold b__law_nudged
    exact (pb_asg 2 C.nd rfl (.inl rfl) (px_call C (ok__law_digits S) hn__law_digits (by decide) (by rfl) S.h__law_digits S._law_digits_F.kp S._law_digits_b .nil (fun _ => .nil) (pax_cons (px_v 1 rfl rfl (.inl rfl) (by decide) (by decide)) (pax_cons (PXO.px (pxo_lst (pax_cons px_int (pax_cons px_int (pax_cons px_int (pax_cons (px_op op_pow od_pow px_int px_int) pax_nil)))))) pax_nil))) rfl (.inl rfl) (fun row_0 => nrm [some (.val grade_0), some (.val cell_0), some (.val row_0), none, none, none] (pb_asg 3 C.nd rfl (.inl rfl) (px_ix ix_seq od_ix (px_v 0 rfl rfl (.inl rfl) (by decide) (by decide)) px_int (fun _ _ => rfl)) rfl (.inl rfl) (fun entries_0 => nrm [some (.val grade_0), some (.val cell_0), some (.val row_0), some (.val entries_0), none, none] (pb_if_j (e' := fun (s_0 : D) => ([some (.val grade_0), some (.val cell_0), some (.val row_0), some (.val s_0), none, none] : Env')) (PWX.pt (pwx_or (ptx_cmp op_gt od_gt (px_ix ix_seq od_ix (px_v 2 rfl rfl (.inl rfl) (by decide) (by decide)) px_int (fun _ _ => rfl)) px_int (nomark _)) (pwx_or1 (ptx_cmp (op_eqD C.room.units) od_eq (px_callB call_len cd_len (by rfl) S.n_len PySem.boot_len (pax_cons (px_v 3 rfl rfl (.inl rfl) (by decide) (by decide)) pax_nil)) px_int (nomark _))))) (pb_asg 3 C.nd rfl (.inl rfl) (px_ix ix_seq od_ix (px_call C (ok__law_longer S) hn__law_longer (by decide) (by rfl) S.h__law_longer S._law_longer_F.kp S._law_longer_b .nil (fun _ => .nil) (pax_cons (px_v 0 rfl rfl (.inl rfl) (by decide) (by decide)) (pax_cons (px_op op_addAll od_add (px_ix ix_seq od_ix (px_v 2 rfl rfl (.inl rfl) (by decide) (by decide)) px_int (fun _ _ => rfl)) px_int) pax_nil))) px_int (fun _ _ => rfl)) rfl (.inl rfl) (fun entries_1 => nrm [some (.val grade_0), some (.val cell_0), some (.val row_0), some (.val entries_1), none, none] (pb_nilS (s := entries_1) rfl (by simp [subE])))) (pb_nilS (s := entries_0) rfl (by simp [subE])) (fun s_0 => nrm [some (.val grade_0), some (.val cell_0), some (.val row_0), some (.val s_0), none, none] (pb_asg 4 C.nd rfl (.inl rfl) (px_op op_modN od_mod (px_callTy call_int1 cd_int (by rfl) S.n_int (by decide +kernel) (pax_cons (px_ix ix_seq od_ix (px_v 2 rfl rfl (.inl rfl) (by decide) (by decide)) px_int (fun _ _ => rfl)) pax_nil)) (px_callB call_len cd_len (by rfl) S.n_len PySem.boot_len (pax_cons (px_v 3 rfl rfl (.inl rfl) (by decide) (by decide)) pax_nil))) rfl (.inl rfl) (fun at_0 => nrm [some (.val grade_0), some (.val cell_0), some (.val row_0), some (.val s_0), some (.val at_0), none] (pb_if_j (e' := fun (s_1 : D) => ([some (.val grade_0), some (.val cell_0), some (.val row_0), some (.val s_0), some (.val s_1), none] : Env')) (ptx_cmp (op_eqD C.room.units) od_eq (px_ix ix_seq od_ix (px_v 2 rfl rfl (.inl rfl) (by decide) (by decide)) px_int (fun _ _ => rfl)) px_int (nomark _)) (pb_asg 4 C.nd rfl (.inl rfl) (px_op op_sub od_sub (px_callB call_len cd_len (by rfl) S.n_len PySem.boot_len (pax_cons (px_v 3 rfl rfl (.inl rfl) (by decide) (by decide)) pax_nil)) px_int) rfl (.inl rfl) (fun at_1 => nrm [some (.val grade_0), some (.val cell_0), some (.val row_0), some (.val s_0), some (.val at_1), none] (pb_nilS (s := at_1) rfl (by simp [subE])))) (pb_nilS (s := at_0) rfl (by simp [subE])) (fun s_1 => nrm [some (.val grade_0), some (.val cell_0), some (.val row_0), some (.val s_0), some (.val s_1), none] (pb_asg 5 C.nd rfl (.inl rfl) (px_v 4 rfl rfl (.inl rfl) (by decide) (by decide)) rfl (.inl rfl) (fun low_0 => nrm [some (.val grade_0), some (.val cell_0), some (.val row_0), some (.val s_0), some (.val s_1), some (.val low_0)] (pb_if_j (e' := fun (s_2 : D) => ([some (.val grade_0), some (.val cell_0), some (.val row_0), some (.val s_0), some (.val s_1), some (.val s_2)] : Env')) (ptx_cmp op_gt od_gt (px_v 4 rfl rfl (.inl rfl) (by decide) (by decide)) px_int (nomark _)) (pb_asg 5 C.nd rfl (.inl rfl) (px_ix ix_seq od_ix (px_v 3 rfl rfl (.inl rfl) (by decide) (by decide)) (px_op op_sub od_sub (px_v 4 rfl rfl (.inl rfl) (by decide) (by decide)) px_int) (fun _ _ => rfl)) rfl (.inl rfl) (fun low_1 => nrm [some (.val grade_0), some (.val cell_0), some (.val row_0), some (.val s_0), some (.val s_1), some (.val low_1)] (pb_nilS (s := low_1) rfl (by simp [subE])))) (pb_nilS (s := low_0) rfl (by simp [subE])) (fun s_2 => nrm [some (.val grade_0), some (.val cell_0), some (.val row_0), some (.val s_0), some (.val s_1), some (.val s_2)] (pb_if_x0 (ptx_cmp op_isN od_isN (px_v 5 rfl rfl (.inl rfl) (by decide) (by decide)) px_non (nomark _)) (pb_retD (fun _ => rfl) (PXO.px (pxo_lst (pax_cons (px_v 3 rfl rfl (.inl rfl) (by decide) (by decide)) (pax_cons (px_ix ix_seq od_ix (px_v 0 rfl rfl (.inl rfl) (by decide) (by decide)) px_int (fun _ _ => rfl)) pax_nil))))) (pb_retD (fun _ => rfl) (PXO.px (pxo_lst (pax_cons (px_op op_addAll od_add (px_op op_addAll od_add (px_slice C.kk (px_v 3 rfl rfl (.inl rfl) (by decide) (by decide)) pox_none (pox_some (px_v 4 rfl rfl (.inl rfl) (by decide) (by decide)))) (PXO.px (pxo_lst (pax_cons (px_call C (ok__law_between S) hn__law_between (by decide) (by rfl) S.h__law_between S._law_between_F.kp S._law_between_b .nil (fun _ => .nil) (pax_cons (px_v 0 rfl rfl (.inl rfl) (by decide) (by decide)) (pax_cons (px_v 3 rfl rfl (.inl rfl) (by decide) (by decide)) (pax_cons (px_v 4 rfl rfl (.inl rfl) (by decide) (by decide)) (pax_cons (px_callB (call_max2 C.calm) cd_max (by rfl) S.n_max (by decide +kernel) (pax_cons (px_v 5 rfl rfl (.inl rfl) (by decide) (by decide)) (pax_cons (px_v 4 rfl rfl (.inl rfl) (by decide) (by decide)) pax_nil))) (pax_cons (px_v 2 rfl rfl (.inl rfl) (by decide) (by decide)) pax_nil)))))) pax_nil)))) (px_slice C.kk (px_v 3 rfl rfl (.inl rfl) (by decide) (by decide)) (pox_some (px_op op_addAll od_add (px_v 4 rfl rfl (.inl rfl) (by decide) (by decide)) px_int)) pox_none)) (pax_cons (px_ix ix_seq od_ix (px_v 0 rfl rfl (.inl rfl) (by decide) (by decide)) px_int (fun _ _ => rfl)) pax_nil))))))))))))))))))))
def b__law_least_entries (grade_0 : D) : Res D := Res.bind (lstV (callOo listO (consR (op2 ixD (.ok grade_0) (.ok (.int 0))) (.ok [])))) fun entries_0 => Res.bind (callOo rng1 (consR (callO lenD (consR (op2 ixD (.ok grade_0) (.ok (.int 0))) (.ok []))) (.ok []))) fun ds => Res.bind (forG id (fun (s_0 : D) (k_0 : D) => Res.bind (op2 subD (callO lenD (consR (.ok s_0) (.ok []))) (.ok (.int 1))) fun place_0 => Res.bind (.ok .non) fun due_0 => Res.bind (iteR (blR (op2 notND (op2 ixD (.ok grade_0) (.ok (.int 1))) (.ok .non))) (Res.bind (op2 addD (.ok place_0) (op2 ixD (.ok grade_0) (.ok (.int 1)))) fun due_1 => .ok due_1) (.ok due_0)) fun s_1 => iteR (blR (op2 neD (op2 ixD (.ok s_0) (.ok place_0)) (.ok s_1))) (Res.bind (.ok s_0) fun d => .ok (.rt d)) (Res.bind (sliceR (.ok s_0) none (some (.ok place_0))) fun entries_1 => .ok (.nx entries_1))) ds entries_0) (lpK (fun d => .ok d) fun s_0 => .ok s_0)
def m__law_least_entries : List D → Res D
  | [grade_0] => b__law_least_entries grade_0
  | _ => .bad
theorem hn__law_least_entries : ∀ ds : List D, ds.length ≠ 1 → m__law_least_entries ds = .bad := by
  intro ds h
  unfold m__law_least_entries
  split
  · exact absurd rfl h
  · rfl
theorem ok__law_least_entries {g : FP} {a : Adr} (S : Txt g a) : FnOk g.P g.w g.K g.mg g.base (L2.CX g.P g.w) 1 a.f__law_least_entries a.fd__law_least_entries ["grade"] (pureSp (mkT g a) 1 m__law_least_entries) := by
  refine fn_pure rfl S._law_least_entries_R sc__law_least_entries fun cdv A outer s H E C ds hl => ?_
  match ds, hl with
  | [grade_0], _ =>
    show PBX _ _ _ _ _ [some (.val grade_0), none, none, none, none] (b__law_least_entries grade_0) _ _ _
    unfold b__law_least_entries
    exact (pb_asg 1 C.nd rfl (.inl rfl) (PXO.px (pxo_list C.kk (by rfl) S.n_list (pax_cons (px_ix ix_seq od_ix (px_v 0 rfl rfl (.inl rfl) (by decide) (by decide)) px_int (fun _ _ => rfl)) pax_nil))) rfl (.inl rfl) (fun entries_0 => nrm [some (.val grade_0), some (.val entries_0), none, none, none] (pb_for (e1 := (fun (s_0 : D) => ([some (.val grade_0), some (.val s_0), none, none, none] : Env'))) (s0 := entries_0) (r := (fun d => .ok d)) C.po C.calm (pix_range1 (by rfl) S.n_range (pax_cons (px_callB call_len cd_len (by rfl) S.n_len PySem.boot_len (pax_cons (px_ix ix_seq od_ix (px_v 0 rfl rfl (.inl rfl) (by decide) (by decide)) px_int (fun _ _ => rfl)) pax_nil)) pax_nil)) (pgx_name 2 C.nd rfl (.inl rfl) (.inl rfl)) (by simp [subE]) (fun s_0 k_0 => nrm [some (.val grade_0), some (.val s_0), some (.val k_0), none, none] (pb_asg 3 C.nd rfl (.inl rfl) (px_op op_sub od_sub (px_callB call_len cd_len (by rfl) S.n_len PySem.boot_len (pax_cons (px_v 1 rfl rfl (.inl rfl) (by decide) (by decide)) pax_nil)) px_int) rfl (.inl rfl) (fun place_0 => nrm [some (.val grade_0), some (.val s_0), some (.val k_0), some (.val place_0), none] (pb_asg 4 C.nd rfl (.inl rfl) px_non rfl (.inl rfl) (fun due_0 => nrm [some (.val grade_0), some (.val s_0), some (.val k_0), some (.val place_0), some (.val due_0)] (pb_if_j (e' := fun (s_1 : D) => ([some (.val grade_0), some (.val s_0), some (.val k_0), some (.val place_0), some (.val s_1)] : Env')) (ptx_cmp op_notN od_notN (px_ix ix_seq od_ix (px_v 0 rfl rfl (.inl rfl) (by decide) (by decide)) px_int (fun _ _ => rfl)) px_non (nomark _)) (pb_asg 4 C.nd rfl (.inl rfl) (px_op op_addAll od_add (px_v 3 rfl rfl (.inl rfl) (by decide) (by decide)) (px_ix ix_seq od_ix (px_v 0 rfl rfl (.inl rfl) (by decide) (by decide)) px_int (fun _ _ => rfl))) rfl (.inl rfl) (fun due_1 => nrm [some (.val grade_0), some (.val s_0), some (.val k_0), some (.val place_0), some (.val due_1)] (pb_nilS (s := due_1) rfl (by simp [subE])))) (pb_nilS (s := due_0) rfl (by simp [subE])) (fun s_1 => nrm [some (.val grade_0), some (.val s_0), some (.val k_0), some (.val place_0), some (.val s_1)] (pb_if_x0 (ptx_cmp (op_neD C.room.units) od_ne (px_ix ix_seq od_ix (px_v 1 rfl rfl (.inl rfl) (by decide) (by decide)) (px_v 3 rfl rfl (.inl rfl) (by decide) (by decide)) (fun _ _ => rfl)) (px_v 4 rfl rfl (.inl rfl) (by decide) (by decide)) (nomark _)) (pb_ret (r := Fl.rt) (fun _ => rfl) (px_v 1 rfl rfl (.inl rfl) (by decide) (by decide))) (pb_asg 1 C.nd rfl (.inl rfl) (px_slice C.kk (px_v 1 rfl rfl (.inl rfl) (by decide) (by decide)) pox_none (pox_some (px_v 3 rfl rfl (.inl rfl) (by decide) (by decide)))) rfl (.inl rfl) (fun entries_1 => nrm [some (.val grade_0), some (.val entries_1), some (.val k_0), some (.val place_0), some (.val s_1)] (pb_nilS (s := entries_1) rfl (by simp [subE])))))))))))) (fun d => .inr ⟨_, rfl, rfl⟩) (fun s_0 => nrm [some (.val grade_0), some (.val s_0), none, none, none] (pb_retD (fun _ => rfl) (px_v 1 rfl rfl (.inl rfl) (by decide) (by decide)))) (fun _ => rfl))))
def b__law_other_gain (grade_0 cell_0 : D) : Res D := Res.bind (callR m__law_digits [] (consR (.ok cell_0) (consR (lstV (dispR (consR (.ok (.int 5)) (consR (op2 powD (.ok (.int 10)) (.ok (.int 20))) (.ok []))))) (.ok [])))) fun row_0 => Res.bind (op2 ixD (.ok grade_0) (.ok (.int 0))) fun entries_0 => Res.bind (.ok (.int 0)) fun least_0 => Res.bind (iteR (blR (op2 gtD (callO lenD (consR (.ok entries_0) (.ok []))) (.ok (.int 0)))) (iteR (blR (op2 isND (op2 ixD (.ok entries_0) (op2 subD (callO lenD (consR (.ok entries_0) (.ok []))) (.ok (.int 1)))) (.ok .non))) (Res.bind (.ok grade_0) fun d => .ok (.rt d)) (Res.bind (callO maxD (consR (.ok (.int 0)) (consR (op2 subD (op2 ixD (.ok entries_0) (op2 subD (callO lenD (consR (.ok entries_0) (.ok []))) (.ok (.int 1)))) (callO lenD (consR (.ok entries_0) (.ok [])))) (.ok [])))) fun least_1 => .ok (.nx least_1))) (.ok (.nx least_0))) (flK (fun d => d) (fun (z : Empty) => nomatch z) (fun (z : Empty) => nomatch z) fun s_0 => Res.bind (op2 ixD (lstV (dispR (consR (.ok s_0) (consR (op2 addD (.ok s_0) (.ok (.int 1))) (consR (op2 addD (op2 addD (.ok s_0) (.ok (.int 1))) (op2 modD (callO intD (consR (op2 ixD (.ok row_0) (.ok (.int 1))) (.ok []))) (.ok (.int 9)))) (consR (op2 addD (.ok s_0) (op2 ixD (.ok row_0) (.ok (.int 1)))) (consR (.ok .non) (.ok [])))))))) (op2 ixD (.ok row_0) (.ok (.int 0)))) fun gain_0 => Res.bind (iteR (andB (blR (op2 notND (.ok gain_0) (.ok .non))) (blR (op2 eqD (.ok gain_0) (op2 ixD (.ok grade_0) (.ok (.int 1)))))) (Res.bind (op2 addD (.ok gain_0) (.ok (.int 1))) fun gain_1 => .ok gain_1) (.ok gain_0)) fun s_1 => lstV (dispR (consR (.ok entries_0) (consR (.ok s_1) (.ok [])))))
def m__law_other_gain : List D → Res D
  | [grade_0, cell_0] => b__law_other_gain grade_0 cell_0
  | _ => .bad
theorem hn__law_other_gain : ∀ ds : List D, ds.length ≠ 2 → m__law_other_gain ds = .bad := by
  intro ds h
  unfold m__law_other_gain
  split
  · exact absurd rfl h
  · rfl
theorem ok__law_other_gain {g : FP} {a : Adr} (S : Txt g a) : FnOk g.P g.w g.K g.mg g.base (L2.CX g.P g.w) 2 a.f__law_other_gain a.fd__law_other_gain ["grade", "cell"] (pureSp (mkT g a) 2 m__law_other_gain) := by
  refine fn_pure rfl S._law_other_gain_R sc__law_other_gain fun cdv A outer s H E C ds hl => ?_
  match ds, hl with
  | [grade_0, cell_0], _ =>
    show PBX _ _ _ _ _ [some (.val grade_0), some (.val cell_0), none, none, none, none] (b__law_other_gain grade_0 cell_0) _ _ _
    unfold b__law_other_gain
    exact (pb_asg 2 C.nd rfl (.inl rfl) (px_call C (ok__law_digits S) hn__law_digits (by decide) (by rfl) S.h__law_digits S._law_digits_F.kp S._law_digits_b .nil (fun _ => .nil) (pax_cons (px_v 1 rfl rfl (.inl rfl) (by decide) (by decide)) (pax_cons (PXO.px (pxo_lst (pax_cons px_int (pax_cons (px_op op_pow od_pow px_int px_int) pax_nil)))) pax_nil))) rfl (.inl rfl) (fun row_0 => nrm [some (.val grade_0), some (.val cell_0), some (.val row_0), none, none, none] (pb_asg 3 C.nd rfl (.inl rfl) (px_ix ix_seq od_ix (px_v 0 rfl rfl (.inl rfl) (by decide) (by decide)) px_int (fun _ _ => rfl)) rfl (.inl rfl) (fun entries_0 => nrm [some (.val grade_0), some (.val cell_0), some (.val row_0), some (.val entries_0), none, none] (pb_asg 4 C.nd rfl (.inl rfl) px_int rfl (.inl rfl) (fun least_0 => nrm [some (.val grade_0), some (.val cell_0), some (.val row_0), some (.val entries_0), some (.val least_0), none] (pb_if_f (e' := fun (s_0 : D) => ([some (.val grade_0), some (.val cell_0), some (.val row_0), some (.val entries_0), some (.val s_0), none] : Env')) (ptx_cmp op_gt od_gt (px_callB call_len cd_len (by rfl) S.n_len PySem.boot_len (pax_cons (px_v 3 rfl rfl (.inl rfl) (by decide) (by decide)) pax_nil)) px_int (nomark _)) (pb_if_x0 (ptx_cmp op_isN od_isN (px_ix ix_seq od_ix (px_v 3 rfl rfl (.inl rfl) (by decide) (by decide)) (px_op op_sub od_sub (px_callB call_len cd_len (by rfl) S.n_len PySem.boot_len (pax_cons (px_v 3 rfl rfl (.inl rfl) (by decide) (by decide)) pax_nil)) px_int) (fun _ _ => rfl)) px_non (nomark _)) (pb_ret (r := Fl.rt) (fun _ => rfl) (px_v 0 rfl rfl (.inl rfl) (by decide) (by decide))) (pb_asg 4 C.nd rfl (.inl rfl) (px_callB (call_max2 C.calm) cd_max (by rfl) S.n_max (by decide +kernel) (pax_cons px_int (pax_cons (px_op op_sub od_sub (px_ix ix_seq od_ix (px_v 3 rfl rfl (.inl rfl) (by decide) (by decide)) (px_op op_sub od_sub (px_callB call_len cd_len (by rfl) S.n_len PySem.boot_len (pax_cons (px_v 3 rfl rfl (.inl rfl) (by decide) (by decide)) pax_nil)) px_int) (fun _ _ => rfl)) (px_callB call_len cd_len (by rfl) S.n_len PySem.boot_len (pax_cons (px_v 3 rfl rfl (.inl rfl) (by decide) (by decide)) pax_nil))) pax_nil))) rfl (.inl rfl) (fun least_1 => nrm [some (.val grade_0), some (.val cell_0), some (.val row_0), some (.val entries_0), some (.val least_1), none] (pb_nilS (s := least_1) rfl (by simp [subE]))))) (pb_nilS (s := least_0) rfl (by simp [subE])) (fun _ => rfl) (fun z => nomatch z) (fun z => nomatch z) (fun s_0 => nrm [some (.val grade_0), some (.val cell_0), some (.val row_0), some (.val entries_0), some (.val s_0), none] (pb_asg 5 C.nd rfl (.inl rfl) (px_ix ix_seq od_ix (PXO.px (pxo_lst (pax_cons (px_v 4 rfl rfl (.inl rfl) (by decide) (by decide)) (pax_cons (px_op op_addAll od_add (px_v 4 rfl rfl (.inl rfl) (by decide) (by decide)) px_int) (pax_cons (px_op op_addAll od_add (px_op op_addAll od_add (px_v 4 rfl rfl (.inl rfl) (by decide) (by decide)) px_int) (px_op op_modN od_mod (px_callTy call_int1 cd_int (by rfl) S.n_int (by decide +kernel) (pax_cons (px_ix ix_seq od_ix (px_v 2 rfl rfl (.inl rfl) (by decide) (by decide)) px_int (fun _ _ => rfl)) pax_nil)) px_int)) (pax_cons (px_op op_addAll od_add (px_v 4 rfl rfl (.inl rfl) (by decide) (by decide)) (px_ix ix_seq od_ix (px_v 2 rfl rfl (.inl rfl) (by decide) (by decide)) px_int (fun _ _ => rfl))) (pax_cons px_non pax_nil))))))) (px_ix ix_seq od_ix (px_v 2 rfl rfl (.inl rfl) (by decide) (by decide)) px_int (fun _ _ => rfl)) (fun _ _ => rfl)) rfl (.inl rfl) (fun gain_0 => nrm [some (.val grade_0), some (.val cell_0), some (.val row_0), some (.val entries_0), some (.val s_0), some (.val gain_0)] (pb_if_j (e' := fun (s_1 : D) => ([some (.val grade_0), some (.val cell_0), some (.val row_0), some (.val entries_0), some (.val s_0), some (.val s_1)] : Env')) (PWX.pt (pwx_and (ptx_cmp op_notN od_notN (px_v 5 rfl rfl (.inl rfl) (by decide) (by decide)) px_non (nomark _)) (pwx_and1 (ptx_cmp (op_eqD C.room.units) od_eq (px_v 5 rfl rfl (.inl rfl) (by decide) (by decide)) (px_ix ix_seq od_ix (px_v 0 rfl rfl (.inl rfl) (by decide) (by decide)) px_int (fun _ _ => rfl)) (nomark _))))) (pb_asg 5 C.nd rfl (.inl rfl) (px_op op_addAll od_add (px_v 5 rfl rfl (.inl rfl) (by decide) (by decide)) px_int) rfl (.inl rfl) (fun gain_1 => nrm [some (.val grade_0), some (.val cell_0), some (.val row_0), some (.val entries_0), some (.val s_0), some (.val gain_1)] (pb_nilS (s := gain_1) rfl (by simp [subE])))) (pb_nilS (s := gain_0) rfl (by simp [subE])) (fun s_1 => nrm [some (.val grade_0), some (.val cell_0), some (.val row_0), some (.val entries_0), some (.val s_0), some (.val s_1)] (pb_retD (fun _ => rfl) (PXO.px (pxo_lst (pax_cons (px_v 3 rfl rfl (.inl rfl) (by decide) (by decide)) (pax_cons (px_v 5 rfl rfl (.inl rfl) (by decide) (by decide)) pax_nil)))))))))))))))))
def b__law_cut (grade_0 digit_0 : D) : Res D := iteR (blR (op2 eqD (.ok digit_0) (.ok (.int 0)))) (lstV (dispR (consR (sliceR (op2 ixD (.ok grade_0) (.ok (.int 0))) none (some (.ok (.int 1)))) (consR (.ok .non) (.ok []))))) (iteR (blR (op2 eqD (.ok digit_0) (.ok (.int 1)))) (lstV (dispR (consR (op2 ixD (.ok grade_0) (.ok (.int 0))) (consR (.ok .non) (.ok []))))) (lstV (dispR (consR (lstV (dispR (.ok []))) (consR (op2 ixD (.ok grade_0) (.ok (.int 1))) (.ok []))))))
def m__law_cut : List D → Res D
  | [grade_0, digit_0] => b__law_cut grade_0 digit_0
  | _ => .bad
theorem hn__law_cut : ∀ ds : List D, ds.length ≠ 2 → m__law_cut ds = .bad := by
  intro ds h
  unfold m__law_cut
  split
  · exact absurd rfl h
  · rfl
theorem ok__law_cut {g : FP} {a : Adr} (S : Txt g a) : FnOk g.P g.w g.K g.mg g.base (L2.CX g.P g.w) 1 a.f__law_cut a.fd__law_cut ["grade", "digit"] (pureSp (mkT g a) 2 m__law_cut) := by
  refine fn_pure rfl S._law_cut_R sc__law_cut fun cdv A outer s H E C ds hl => ?_
  match ds, hl with
  | [grade_0, digit_0], _ =>
    show PBX _ _ _ _ _ [some (.val grade_0), some (.val digit_0)] (b__law_cut grade_0 digit_0) _ _ _
    unfold b__law_cut
    exact (pb_if_x0 (ptx_cmp (op_eqD C.room.units) od_eq (px_v 1 rfl rfl (.inl rfl) (by decide) (by decide)) px_int (nomark _)) (pb_retD (fun _ => rfl) (PXO.px (pxo_lst (pax_cons (px_slice C.kk (px_ix ix_seq od_ix (px_v 0 rfl rfl (.inl rfl) (by decide) (by decide)) px_int (fun _ _ => rfl)) pox_none (pox_some px_int)) (pax_cons px_non pax_nil))))) (pb_if_x0 (ptx_cmp (op_eqD C.room.units) od_eq (px_v 1 rfl rfl (.inl rfl) (by decide) (by decide)) px_int (nomark _)) (pb_retD (fun _ => rfl) (PXO.px (pxo_lst (pax_cons (px_ix ix_seq od_ix (px_v 0 rfl rfl (.inl rfl) (by decide) (by decide)) px_int (fun _ _ => rfl)) (pax_cons px_non pax_nil))))) (pb_retD (fun _ => rfl) (PXO.px (pxo_lst (pax_cons (PXO.px (pxo_lst pax_nil)) (pax_cons (px_ix ix_seq od_ix (px_v 0 rfl rfl (.inl rfl) (by decide) (by decide)) px_int (fun _ _ => rfl)) pax_nil)))))))
def b__law_further (grade_0 : D) : Res D := Res.bind (dispR (.ok [])) fun entries_0 => Res.bind (itemsR (op2 ixD (.ok grade_0) (.ok (.int 0)))) fun ds => Res.bind (forR (fun (s_0 : List D) (entry_0 : D) => iteR (blR (op2 isND (.ok entry_0) (.ok .non))) (appR s_0 (.ok .non) fun entries_1 => .ok entries_1) (appR s_0 (op2 addD (.ok entry_0) (.ok (.int 1))) fun entries_2 => .ok entries_2)) ds entries_0) fun s_0 => iteR (blR (op2 isND (op2 ixD (.ok grade_0) (.ok (.int 1))) (.ok .non))) (lstV (dispR (consR (.ok (.lst s_0)) (consR (.ok .non) (.ok []))))) (lstV (dispR (consR (.ok (.lst s_0)) (consR (op2 addD (op2 ixD (.ok grade_0) (.ok (.int 1))) (.ok (.int 1))) (.ok [])))))
def m__law_further : List D → Res D
  | [grade_0] => b__law_further grade_0
  | _ => .bad
theorem hn__law_further : ∀ ds : List D, ds.length ≠ 1 → m__law_further ds = .bad := by
  intro ds h
  unfold m__law_further
  split
  · exact absurd rfl h
  · rfl
theorem ok__law_further {g : FP} {a : Adr} (S : Txt g a) : FnOk g.P g.w g.K g.mg g.base (L2.CX g.P g.w) 1 a.f__law_further a.fd__law_further ["grade"] (pureSp (mkT g a) 1 m__law_further) := by
  refine fn_pure rfl S._law_further_R sc__law_further fun cdv A outer s H E C ds hl => ?_
  match ds, hl with
  | [grade_0], _ =>
    show PBX _ _ _ _ _ [some (.val grade_0), none, none] (b__law_further grade_0) _ _ _
    unfold b__law_further
    exact (pb_asgO 1 C.nd rfl (.inl rfl) (pxo_lst pax_nil) rfl (.inl rfl) (fun entries_0 => nrm [some (.val grade_0), some (.own entries_0), none] (pb_forS (e1 := (fun (s_0 : List D) => ([some (.val grade_0), some (.own s_0), none] : Env'))) (s0 := entries_0) C.po C.calm (pix_seq C.kk (px_ix ix_seq od_ix (px_v 0 rfl rfl (.inl rfl) (by decide) (by decide)) px_int (fun _ _ => rfl))) (pgx_name 2 C.nd rfl (.inl rfl) (.inl rfl)) (by simp [subE]) (fun s_0 entry_0 => nrm [some (.val grade_0), some (.own s_0), some (.val entry_0)] (pb_if_last (ptx_cmp op_isN od_isN (px_v 2 rfl rfl (.inl rfl) (by decide) (by decide)) px_non (nomark _)) (pb_append 1 (o := .Name "entries" ⟨0, 0, 0, 0⟩) (p1 := ⟨0, 0, 0, 0⟩) (p2 := ⟨0, 0, 0, 0⟩) C.kk rfl px_non (fun _ h => ps_expr (pe_bm PySem.F.plainAttrs_list PySem.F.slot_list_append PySem.F.type_list_append mt_append (pv 1 rfl (.inl rfl)) (pa_cons h pa_nil))) (fun entries_1 => nrm [some (.val grade_0), some (.own entries_1), some (.val entry_0)] (pb_nilS (s := entries_1) rfl (by simp [subE])))) (pb_append 1 (o := .Name "entries" ⟨0, 0, 0, 0⟩) (p1 := ⟨0, 0, 0, 0⟩) (p2 := ⟨0, 0, 0, 0⟩) C.kk rfl (px_op op_addAll od_add (px_v 2 rfl rfl (.inl rfl) (by decide) (by decide)) px_int) (fun _ h => ps_expr (pe_bm PySem.F.plainAttrs_list PySem.F.slot_list_append PySem.F.type_list_append mt_append (pv 1 rfl (.inl rfl)) (pa_cons h pa_nil))) (fun entries_2 => nrm [some (.val grade_0), some (.own entries_2), some (.val entry_0)] (pb_nilS (s := entries_2) rfl (by simp [subE])))))) (fun s_0 => nrm [some (.val grade_0), some (.own s_0), none] (pb_frz 1 rfl (nrm [some (.val grade_0), some (.val (.lst s_0)), none] (pb_if_x0 (ptx_cmp op_isN od_isN (px_ix ix_seq od_ix (px_v 0 rfl rfl (.inl rfl) (by decide) (by decide)) px_int (fun _ _ => rfl)) px_non (nomark _)) (pb_retD (fun _ => rfl) (PXO.px (pxo_lst (pax_cons (px_v 1 rfl rfl (.inl rfl) (by decide) (by decide)) (pax_cons px_non pax_nil))))) (pb_retD (fun _ => rfl) (PXO.px (pxo_lst (pax_cons (px_v 1 rfl rfl (.inl rfl) (by decide) (by decide)) (pax_cons (px_op op_addAll od_add (px_ix ix_seq od_ix (px_v 0 rfl rfl (.inl rfl) (by decide) (by decide)) px_int (fun _ _ => rfl)) px_int) pax_nil))))))))) (fun _ => rfl))))
def b_is_whole (thing_0 : D) : Res D := andV (op1 (isiD "int") (.ok thing_0)) (notV (op1 (isiD "bool") (.ok thing_0)))
def m_is_whole : List D → Res D
  | [thing_0] => b_is_whole thing_0
  | _ => .bad
theorem hn_is_whole : ∀ ds : List D, ds.length ≠ 1 → m_is_whole ds = .bad := by
  intro ds h
  unfold m_is_whole
  split
  · exact absurd rfl h
  · rfl
theorem ok_is_whole {g : FP} {a : Adr} (S : Txt g a) : FnOk g.P g.w g.K g.mg g.base (L2.CX g.P g.w) 1 a.f_is_whole a.fd_is_whole ["thing"] (pureSp (mkT g a) 1 m_is_whole) := by
  refine fn_pure rfl S.is_whole_R sc_is_whole fun cdv A outer s H E C ds hl => ?_
  match ds, hl with
  | [thing_0], _ =>
    show PBX _ _ _ _ _ [some (.val thing_0)] (b_is_whole thing_0) _ _ _
    unfold b_is_whole
    exact (pb_retD (fun _ => rfl) (px_and (px_isi C.kk S.kt (by simp) (by rfl) S.n_isinstance (by rfl) S.n_int (by decide +kernel) (by decide) (by decide) (px_v 0 rfl rfl (.inl rfl) (by decide) (by decide))) (px_one (px_not (px_isi C.kk S.kt (by simp) (by rfl) S.n_isinstance (by rfl) S.n_bool (by decide +kernel) (by decide) (by decide) (px_v 0 rfl rfl (.inl rfl) (by decide) (by decide)))))))
def b_is_number (thing_0 : D) : Res D := andV (callR m_is_whole [] (consR (.ok thing_0) (.ok []))) (op2 geD (.ok thing_0) (.ok (.int 0)))
def m_is_number : List D → Res D
  | [thing_0] => b_is_number thing_0
  | _ => .bad
theorem hn_is_number : ∀ ds : List D, ds.length ≠ 1 → m_is_number ds = .bad := by
  intro ds h
  unfold m_is_number
  split
  · exact absurd rfl h
  · rfl
theorem ok_is_number {g : FP} {a : Adr} (S : Txt g a) : FnOk g.P g.w g.K g.mg g.base (L2.CX g.P g.w) 2 a.f_is_number a.fd_is_number ["thing"] (pureSp (mkT g a) 1 m_is_number) := by
  refine fn_pure rfl S.is_number_R sc_is_number fun cdv A outer s H E C ds hl => ?_
  match ds, hl with
  | [thing_0], _ =>
    show PBX _ _ _ _ _ [some (.val thing_0)] (b_is_number thing_0) _ _ _
    unfold b_is_number
    exact (pb_retD (fun _ => rfl) (px_and (px_call C (ok_is_whole S) hn_is_whole (by decide) (by rfl) S.h_is_whole S.is_whole_F.kp S.is_whole_b .nil (fun _ => .nil) (pax_cons (px_v 0 rfl rfl (.inl rfl) (by decide) (by decide)) pax_nil)) (px_one (px_cmpR op_ge od_ge (px_v 0 rfl rfl (.inl rfl) (by decide) (by decide)) px_int (nomark _)))))
def b_is_worth (thing_0 : D) : Res D := orV (op2 isND (.ok thing_0) (.ok .non)) (callR m_is_number [] (consR (.ok thing_0) (.ok [])))
def m_is_worth : List D → Res D
  | [thing_0] => b_is_worth thing_0
  | _ => .bad
theorem hn_is_worth : ∀ ds : List D, ds.length ≠ 1 → m_is_worth ds = .bad := by
  intro ds h
  unfold m_is_worth
  split
  · exact absurd rfl h
  · rfl
theorem ok_is_worth {g : FP} {a : Adr} (S : Txt g a) : FnOk g.P g.w g.K g.mg g.base (L2.CX g.P g.w) 3 a.f_is_worth a.fd_is_worth ["thing"] (pureSp (mkT g a) 1 m_is_worth) := by
  refine fn_pure rfl S.is_worth_R sc_is_worth fun cdv A outer s H E C ds hl => ?_
  match ds, hl with
  | [thing_0], _ =>
    show PBX _ _ _ _ _ [some (.val thing_0)] (b_is_worth thing_0) _ _ _
    unfold b_is_worth
    exact (pb_retD (fun _ => rfl) (px_or (px_cmpR op_isN od_isN (px_v 0 rfl rfl (.inl rfl) (by decide) (by decide)) px_non (nomark _)) (px_one (px_call C (ok_is_number S) hn_is_number (by decide) (by rfl) S.h_is_number S.is_number_F.kp S.is_number_b .nil (fun _ => .nil) (pax_cons (px_v 0 rfl rfl (.inl rfl) (by decide) (by decide)) pax_nil)))))
def b_rank_of (worth_0 : D) : Res D := iteR (blR (op2 isND (.ok worth_0) (.ok .non))) (tupR (consR (.ok (.int 1)) (consR (.ok (.int 0)) (.ok [])))) (tupR (consR (.ok (.int 0)) (consR (.ok worth_0) (.ok []))))
def m_rank_of : List D → Res D
  | [worth_0] => b_rank_of worth_0
  | _ => .bad
theorem hn_rank_of : ∀ ds : List D, ds.length ≠ 1 → m_rank_of ds = .bad := by
  intro ds h
  unfold m_rank_of
  split
  · exact absurd rfl h
  · rfl
theorem ok_rank_of {g : FP} {a : Adr} (S : Txt g a) : FnOk g.P g.w g.K g.mg g.base (L2.CX g.P g.w) 1 a.f_rank_of a.fd_rank_of ["worth"] (pureSp (mkT g a) 1 m_rank_of) := by
  refine fn_pure rfl S.rank_of_R sc_rank_of fun cdv A outer s H E C ds hl => ?_
  match ds, hl with
  | [worth_0], _ =>
    show PBX _ _ _ _ _ [some (.val worth_0)] (b_rank_of worth_0) _ _ _
    unfold b_rank_of
    exact (pb_if_x0 (ptx_cmp op_isN od_isN (px_v 0 rfl rfl (.inl rfl) (by decide) (by decide)) px_non (nomark _)) (pb_retD (fun _ => rfl) (px_tup (pax_cons px_int (pax_cons px_int pax_nil)))) (pb_retD (fun _ => rfl) (px_tup (pax_cons px_int (pax_cons (px_v 0 rfl rfl (.inl rfl) (by decide) (by decide)) pax_nil)))))
def b_is_before (one_0 two_0 : D) : Res D := op2 ltD (callR m_rank_of [] (consR (.ok one_0) (.ok []))) (callR m_rank_of [] (consR (.ok two_0) (.ok [])))
def m_is_before : List D → Res D
  | [one_0, two_0] => b_is_before one_0 two_0
  | _ => .bad
theorem hn_is_before : ∀ ds : List D, ds.length ≠ 2 → m_is_before ds = .bad := by
  intro ds h
  unfold m_is_before
  split
  · exact absurd rfl h
  · rfl
theorem ok_is_before {g : FP} {a : Adr} (S : Txt g a) : FnOk g.P g.w g.K g.mg g.base (L2.CX g.P g.w) 2 a.f_is_before a.fd_is_before ["one", "two"] (pureSp (mkT g a) 2 m_is_before) := by
  refine fn_pure rfl S.is_before_R sc_is_before fun cdv A outer s H E C ds hl => ?_
  match ds, hl with
  | [one_0, two_0], _ =>
    show PBX _ _ _ _ _ [some (.val one_0), some (.val two_0)] (b_is_before one_0 two_0) _ _ _
    unfold b_is_before
    exact (pb_retD (fun _ => rfl) (px_cmpR (op_ltAll C.room.units0) od_lt (px_call C (ok_rank_of S) hn_rank_of (by decide) (by rfl) S.h_rank_of S.rank_of_F.kp S.rank_of_b .nil (fun _ => .nil) (pax_cons (px_v 0 rfl rfl (.inl rfl) (by decide) (by decide)) pax_nil)) (px_call C (ok_rank_of S) hn_rank_of (by decide) (by rfl) S.h_rank_of S.rank_of_F.kp S.rank_of_b .nil (fun _ => .nil) (pax_cons (px_v 1 rfl rfl (.inl rfl) (by decide) (by decide)) pax_nil)) (nomark _)))
def b_first_bad_entry (table_0 : D) : Res D := Res.bind (callOo rng1 (consR (callO lenD (consR (.ok table_0) (.ok []))) (.ok []))) fun ds => Res.bind (forG id (fun (s_0 : Unit) (index_0 : D) => Res.bind (op2 ixD (.ok table_0) (.ok index_0)) fun entry_0 => iteR (orB (blR (op2 geD (.ok index_0) (.ok (.int 30)))) (notB (truR (callR m_is_worth [] (consR (.ok entry_0) (.ok [])))))) (Res.bind (.ok index_0) fun d => .ok (.rt d)) (iteR (andB (blR (op2 notND (.ok entry_0) (.ok .non))) (blR (op2 ltD (.ok entry_0) (.ok index_0)))) (Res.bind (.ok index_0) fun d => .ok (.rt d)) (iteR (andB (blR (op2 gtD (.ok index_0) (.ok (.int 0)))) (truR (callR m_is_before [] (consR (.ok entry_0) (consR (op2 ixD (.ok table_0) (op2 subD (.ok index_0) (.ok (.int 1)))) (.ok [])))))) (Res.bind (.ok index_0) fun d => .ok (.rt d)) (.ok (.nx ()))))) ds ()) (lpK (fun d => .ok d) fun s_0 => .ok .non)
def m_first_bad_entry : List D → Res D
  | [table_0] => b_first_bad_entry table_0
  | _ => .bad
theorem hn_first_bad_entry : ∀ ds : List D, ds.length ≠ 1 → m_first_bad_entry ds = .bad := by
  intro ds h
  unfold m_first_bad_entry
  split
  · exact absurd rfl h
  · rfl
theorem ok_first_bad_entry {g : FP} {a : Adr} (S : Txt g a) : FnOk g.P g.w g.K g.mg g.base (L2.CX g.P g.w) 4 a.f_first_bad_entry a.fd_first_bad_entry ["table"] (pureSp (mkT g a) 1 m_first_bad_entry) := by
  refine fn_pure rfl S.first_bad_entry_R sc_first_bad_entry fun cdv A outer s H E C ds hl => ?_
  match ds, hl with
  | [table_0], _ =>
    show PBX _ _ _ _ _ [some (.val table_0), none, none] (b_first_bad_entry table_0) _ _ _
    unfold b_first_bad_entry
    exact (pb_for (e1 := (fun (s_0 : Unit) => ([some (.val table_0), none, none] : Env'))) (s0 := ()) (r := (fun d => .ok d)) C.po C.calm (pix_range1 (by rfl) S.n_range (pax_cons (px_callB call_len cd_len (by rfl) S.n_len PySem.boot_len (pax_cons (px_v 0 rfl rfl (.inl rfl) (by decide) (by decide)) pax_nil)) pax_nil)) (pgx_name 1 C.nd rfl (.inl rfl) (.inl rfl)) (by simp [subE]) (fun s_0 index_0 => nrm [some (.val table_0), some (.val index_0), none] (pb_asg 2 C.nd rfl (.inl rfl) (px_ix ix_seq od_ix (px_v 0 rfl rfl (.inl rfl) (by decide) (by decide)) (px_v 1 rfl rfl (.inl rfl) (by decide) (by decide)) (fun _ _ => rfl)) rfl (.inl rfl) (fun entry_0 => nrm [some (.val table_0), some (.val index_0), some (.val entry_0)] (pb_if_x0 (PWX.pt (pwx_or (ptx_cmp op_ge od_ge (px_v 1 rfl rfl (.inl rfl) (by decide) (by decide)) (px_glob (v := .int 30) (by rfl) S.k_MOST_ENTRIES ⟨_, rfl⟩ (fun _ => .int _) (by decide)) (nomark _)) (pwx_or1 (ptx_not (ptx_tru C.kk (px_call C (ok_is_worth S) hn_is_worth (by decide) (by rfl) S.h_is_worth S.is_worth_F.kp S.is_worth_b .nil (fun _ => .nil) (pax_cons (px_v 2 rfl rfl (.inl rfl) (by decide) (by decide)) pax_nil)) (fun _ => rfl)))))) (pb_ret (r := Fl.rt) (fun _ => rfl) (px_v 1 rfl rfl (.inl rfl) (by decide) (by decide))) (pb_if_x0 (PWX.pt (pwx_and (ptx_cmp op_notN od_notN (px_v 2 rfl rfl (.inl rfl) (by decide) (by decide)) px_non (nomark _)) (pwx_and1 (ptx_cmp (op_ltAll C.room.units0) od_lt (px_v 2 rfl rfl (.inl rfl) (by decide) (by decide)) (px_v 1 rfl rfl (.inl rfl) (by decide) (by decide)) (nomark _))))) (pb_ret (r := Fl.rt) (fun _ => rfl) (px_v 1 rfl rfl (.inl rfl) (by decide) (by decide))) (pb_if_x0 (PWX.pt (pwx_and (ptx_cmp op_gt od_gt (px_v 1 rfl rfl (.inl rfl) (by decide) (by decide)) px_int (nomark _)) (pwx_and1 (ptx_tru C.kk (px_call C (ok_is_before S) hn_is_before (by decide) (by rfl) S.h_is_before S.is_before_F.kp S.is_before_b .nil (fun _ => .nil) (pax_cons (px_v 2 rfl rfl (.inl rfl) (by decide) (by decide)) (pax_cons (px_ix ix_seq od_ix (px_v 0 rfl rfl (.inl rfl) (by decide) (by decide)) (px_op op_sub od_sub (px_v 1 rfl rfl (.inl rfl) (by decide) (by decide)) px_int) (fun _ _ => rfl)) pax_nil))) (fun _ => rfl))))) (pb_ret (r := Fl.rt) (fun _ => rfl) (px_v 1 rfl rfl (.inl rfl) (by decide) (by decide))) (pb_nilS (s := ()) rfl (by simp [subE])))))))) (fun d => .inr ⟨_, rfl, rfl⟩) (fun s_0 => nrm [some (.val table_0), none, none] (pb_retD (fun _ => rfl) px_non)) (fun _ => rfl))
def b_is_right_more (table_0 more_0 : D) : Res D := iteR (notB (truR (callR m_is_worth [] (consR (.ok more_0) (.ok []))))) (.ok (.bl false)) (iteR (orB (blR (op2 isND (.ok more_0) (.ok .non))) (blR (op2 eqD (callO lenD (consR (.ok table_0) (.ok []))) (.ok (.int 0))))) (.ok (.bl true)) (Res.bind (op2 ixD (.ok table_0) (op2 subD (callO lenD (consR (.ok table_0) (.ok []))) (.ok (.int 1)))) fun last_0 => andV (op2 notND (.ok last_0) (.ok .non)) (op2 leD (.ok last_0) (op2 addD (callO lenD (consR (.ok table_0) (.ok []))) (.ok more_0)))))
def m_is_right_more : List D → Res D
  | [table_0, more_0] => b_is_right_more table_0 more_0
  | _ => .bad
theorem hn_is_right_more : ∀ ds : List D, ds.length ≠ 2 → m_is_right_more ds = .bad := by
  intro ds h
  unfold m_is_right_more
  split
  · exact absurd rfl h
  · rfl
theorem ok_is_right_more {g : FP} {a : Adr} (S : Txt g a) : FnOk g.P g.w g.K g.mg g.base (L2.CX g.P g.w) 4 a.f_is_right_more a.fd_is_right_more ["table", "more"] (pureSp (mkT g a) 2 m_is_right_more) := by
  refine fn_pure rfl S.is_right_more_R sc_is_right_more fun cdv A outer s H E C ds hl => ?_
  match ds, hl with
  | [table_0, more_0], _ =>
    show PBX _ _ _ _ _ [some (.val table_0), some (.val more_0), none] (b_is_right_more table_0 more_0) _ _ _
    unfold b_is_right_more
    exact (pb_if_x0 (ptx_not (ptx_tru C.kk (px_call C (ok_is_worth S) hn_is_worth (by decide) (by rfl) S.h_is_worth S.is_worth_F.kp S.is_worth_b .nil (fun _ => .nil) (pax_cons (px_v 1 rfl rfl (.inl rfl) (by decide) (by decide)) pax_nil)) (fun _ => rfl))) (pb_retD (fun _ => rfl) px_bl) (pb_if_x0 (PWX.pt (pwx_or (ptx_cmp op_isN od_isN (px_v 1 rfl rfl (.inl rfl) (by decide) (by decide)) px_non (nomark _)) (pwx_or1 (ptx_cmp (op_eqD C.room.units) od_eq (px_callB call_len cd_len (by rfl) S.n_len PySem.boot_len (pax_cons (px_v 0 rfl rfl (.inl rfl) (by decide) (by decide)) pax_nil)) px_int (nomark _))))) (pb_retD (fun _ => rfl) px_bl) (pb_asg 2 C.nd rfl (.inl rfl) (px_ix ix_seq od_ix (px_v 0 rfl rfl (.inl rfl) (by decide) (by decide)) (px_op op_sub od_sub (px_callB call_len cd_len (by rfl) S.n_len PySem.boot_len (pax_cons (px_v 0 rfl rfl (.inl rfl) (by decide) (by decide)) pax_nil)) px_int) (fun _ _ => rfl)) rfl (.inl rfl) (fun last_0 => nrm [some (.val table_0), some (.val more_0), some (.val last_0)] (pb_retD (fun _ => rfl) (px_and (px_cmpR op_notN od_notN (px_v 2 rfl rfl (.inl rfl) (by decide) (by decide)) px_non (nomark _)) (px_one (px_cmpR op_le od_le (px_v 2 rfl rfl (.inl rfl) (by decide) (by decide)) (px_op op_addAll od_add (px_callB call_len cd_len (by rfl) S.n_len PySem.boot_len (pax_cons (px_v 0 rfl rfl (.inl rfl) (by decide) (by decide)) pax_nil)) (px_v 1 rfl rfl (.inl rfl) (by decide) (by decide))) (nomark _)))))))))
def b_beyond (number_0 more_0 : D) : Res D := iteR (blR (op2 isND (.ok more_0) (.ok .non))) (.ok .non) (op2 addD (.ok number_0) (.ok more_0))
def m_beyond : List D → Res D
  | [number_0, more_0] => b_beyond number_0 more_0
  | _ => .bad
theorem hn_beyond : ∀ ds : List D, ds.length ≠ 2 → m_beyond ds = .bad := by
  intro ds h
  unfold m_beyond
  split
  · exact absurd rfl h
  · rfl
theorem ok_beyond {g : FP} {a : Adr} (S : Txt g a) : FnOk g.P g.w g.K g.mg g.base (L2.CX g.P g.w) 1 a.f_beyond a.fd_beyond ["number", "more"] (pureSp (mkT g a) 2 m_beyond) := by
  refine fn_pure rfl S.beyond_R sc_beyond fun cdv A outer s H E C ds hl => ?_
  match ds, hl with
  | [number_0, more_0], _ =>
    show PBX _ _ _ _ _ [some (.val number_0), some (.val more_0)] (b_beyond number_0 more_0) _ _ _
    unfold b_beyond
    exact (pb_if_x0 (ptx_cmp op_isN od_isN (px_v 1 rfl rfl (.inl rfl) (by decide) (by decide)) px_non (nomark _)) (pb_retD (fun _ => rfl) px_non) (pb_retD (fun _ => rfl) (px_op op_addAll od_add (px_v 0 rfl rfl (.inl rfl) (by decide) (by decide)) (px_v 1 rfl rfl (.inl rfl) (by decide) (by decide)))))
def b_least_table (table_0 more_0 : D) : Res D := Res.bind (callO lenD (consR (.ok table_0) (.ok []))) fun size_0 => Res.bind (whileR (fun (s_0 : D) => andB (blR (op2 gtD (.ok s_0) (.ok (.int 0)))) (blR (op2 eqD (op2 ixD (.ok table_0) (op2 subD (.ok s_0) (.ok (.int 1)))) (callR m_beyond [] (consR (op2 subD (.ok s_0) (.ok (.int 1))) (consR (.ok more_0) (.ok []))))))) (fun (s_0 : D) => Res.bind (op2 subD (.ok s_0) (.ok (.int 1))) fun size_1 => .ok size_1) fuel size_0) fun s_0 => callO tupleD (consR (sliceR (.ok table_0) none (some (.ok s_0))) (.ok []))
def m_least_table : List D → Res D
  | [table_0, more_0] => b_least_table table_0 more_0
  | _ => .bad
theorem hn_least_table : ∀ ds : List D, ds.length ≠ 2 → m_least_table ds = .bad := by
  intro ds h
  unfold m_least_table
  split
  · exact absurd rfl h
  · rfl
theorem ok_least_table {g : FP} {a : Adr} (S : Txt g a) : FnOk g.P g.w g.K g.mg g.base (L2.CX g.P g.w) 2 a.f_least_table a.fd_least_table ["table", "more"] (pureSp (mkT g a) 2 m_least_table) := by
  refine fn_pure rfl S.least_table_R sc_least_table fun cdv A outer s H E C ds hl => ?_
  match ds, hl with
  | [table_0, more_0], _ =>
    show PBX _ _ _ _ _ [some (.val table_0), some (.val more_0), none] (b_least_table table_0 more_0) _ _ _
    unfold b_least_table
    exact (pb_asg 2 C.nd rfl (.inl rfl) (px_callB call_len cd_len (by rfl) S.n_len PySem.boot_len (pax_cons (px_v 0 rfl rfl (.inl rfl) (by decide) (by decide)) pax_nil)) rfl (.inl rfl) (fun size_0 => nrm [some (.val table_0), some (.val more_0), some (.val size_0)] (pb_whileS (e1 := (fun (s_0 : D) => ([some (.val table_0), some (.val more_0), some (.val s_0)] : Env'))) (s0 := size_0) (n0 := fuel) C.po (by simp [subE]) (fun s_0 => nrmT [some (.val table_0), some (.val more_0), some (.val s_0)] (PWX.pt (pwx_and (ptx_cmp op_gt od_gt (px_v 2 rfl rfl (.inl rfl) (by decide) (by decide)) px_int (nomark _)) (pwx_and1 (ptx_cmp (op_eqD C.room.units) od_eq (px_ix ix_seq od_ix (px_v 0 rfl rfl (.inl rfl) (by decide) (by decide)) (px_op op_sub od_sub (px_v 2 rfl rfl (.inl rfl) (by decide) (by decide)) px_int) (fun _ _ => rfl)) (px_call C (ok_beyond S) hn_beyond (by decide) (by rfl) S.h_beyond S.beyond_F.kp S.beyond_b .nil (fun _ => .nil) (pax_cons (px_op op_sub od_sub (px_v 2 rfl rfl (.inl rfl) (by decide) (by decide)) px_int) (pax_cons (px_v 1 rfl rfl (.inl rfl) (by decide) (by decide)) pax_nil))) (nomark _)))))) (fun s_0 => nrm [some (.val table_0), some (.val more_0), some (.val s_0)] (pb_asg 2 C.nd rfl (.inl rfl) (px_op op_sub od_sub (px_v 2 rfl rfl (.inl rfl) (by decide) (by decide)) px_int) rfl (.inl rfl) (fun size_1 => nrm [some (.val table_0), some (.val more_0), some (.val size_1)] (pb_nilS (s := size_1) rfl (by simp [subE]))))) (fun s_0 => nrm [some (.val table_0), some (.val more_0), some (.val s_0)] (pb_retD (fun _ => rfl) (px_callTy call_tuple_of cd_tuple (by rfl) S.n_tuple (by decide +kernel) (pax_cons (px_slice C.kk (px_v 0 rfl rfl (.inl rfl) (by decide) (by decide)) pox_none (pox_some (px_v 2 rfl rfl (.inl rfl) (by decide) (by decide)))) pax_nil)))))))
def b_Grade_init (table_0 more_0 : D) : Res (List D) := Res.bind (callR m_first_bad_entry [] (consR (.ok table_0) (.ok []))) fun bad_0 => iteR (blR (op2 notND (.ok bad_0) (.ok .non))) .bad (iteR (notB (truR (callR m_is_right_more [] (consR (.ok table_0) (consR (.ok more_0) (.ok [])))))) .bad (Res.bind (callR m_least_table [] (consR (.ok table_0) (consR (.ok more_0) (.ok [])))) fun table_1 => Res.bind (.ok more_0) fun more_1 => .ok [table_1, more_1]))
def m_Grade_init : List D → Res (List D)
  | [table_0, more_0] => b_Grade_init table_0 more_0
  | _ => .bad
def i_Grade_init (ds : List D) : Res (List D) := chkL 2 (m_Grade_init ds)
theorem hn_Grade_init : ∀ ds : List D, ds.length + 1 ≠ 3 → i_Grade_init ds = .bad := by
  intro ds h
  unfold i_Grade_init m_Grade_init
  split
  · exact absurd rfl h
  · rfl
theorem ok_Grade_init {g : FP} {a : Adr} (S : Txt g a) : FnOk g.P g.w g.K g.mg g.base (L2.CX g.P g.w) 5 a.f_Grade_init a.fd_Grade_init ["self", "table", "more"] (initSp (mkT g a) 3 0 i_Grade_init) := by
  refine fn_init (T := mkT g a) (m := m_Grade_init) rfl S.Grade_init_R sc_Grade_init fun cdv A outer s H E C xself ds hl => ?_
  match ds, hl with
  | [table_0, more_0], _ =>
    show PBX _ _ _ _ _ [some (.ins xself 0 []), some (.val table_0), some (.val more_0), none] (b_Grade_init table_0 more_0) _ _ _
    unfold b_Grade_init
    exact (pb_asg 3 C.nd rfl (.inl rfl) (px_call C (ok_first_bad_entry S) hn_first_bad_entry (by decide) (by rfl) S.h_first_bad_entry S.first_bad_entry_F.kp S.first_bad_entry_b .nil (fun _ => .nil) (pax_cons (px_v 1 rfl rfl (.inl rfl) (by decide) (by decide)) pax_nil)) rfl (.inl rfl) (fun bad_0 => nrm [some (.ins xself 0 []), some (.val table_0), some (.val more_0), some (.val bad_0)] (pb_if_x0 (ptx_cmp op_notN od_notN (px_v 3 rfl rfl (.inl rfl) (by decide) (by decide)) px_non (nomark _)) pb_bad (pb_if_x0 (ptx_not (ptx_tru C.kk (px_call C (ok_is_right_more S) hn_is_right_more (by decide) (by rfl) S.h_is_right_more S.is_right_more_F.kp S.is_right_more_b .nil (fun _ => .nil) (pax_cons (px_v 1 rfl rfl (.inl rfl) (by decide) (by decide)) (pax_cons (px_v 2 rfl rfl (.inl rfl) (by decide) (by decide)) pax_nil))) (fun _ => rfl))) pb_bad (pb_self 0 C.kk S.kt rfl rfl rfl (by simp) (px_call C (ok_least_table S) hn_least_table (by decide) (by rfl) S.h_least_table S.least_table_F.kp S.least_table_b .nil (fun _ => .nil) (pax_cons (px_v 1 rfl rfl (.inl rfl) (by decide) (by decide)) (pax_cons (px_v 2 rfl rfl (.inl rfl) (by decide) (by decide)) pax_nil))) (fun _ h => ps_fld (pv 0 rfl (.inl rfl)) h rfl) (fun table_1 => nrm [some (.ins xself 0 [table_1]), some (.val table_0), some (.val more_0), some (.val bad_0)] (pb_self 0 C.kk S.kt rfl rfl rfl (by simp) (px_v 2 rfl rfl (.inl rfl) (by decide) (by decide)) (fun _ h => ps_fld (pv 0 rfl (.inl rfl)) h rfl) (fun more_1 => nrm [some (.ins xself 0 [table_1, more_1]), some (.val table_0), some (.val more_0), some (.val bad_0)] (pb_nilS (s := [table_1, more_1]) rfl (by simp [subE, insE, List.replicate]))))))))))
def b__law_same_worth (told_0 due_0 : D) : Res D := iteR (blR (op2 isND (.ok due_0) (.ok .non))) (op2 isND (.ok told_0) (.ok .non)) (andV (callR m__law_whole [] (consR (.ok told_0) (.ok []))) (op2 eqD (.ok told_0) (.ok due_0)))
def m__law_same_worth : List D → Res D
  | [told_0, due_0] => b__law_same_worth told_0 due_0
  | _ => .bad
theorem hn__law_same_worth : ∀ ds : List D, ds.length ≠ 2 → m__law_same_worth ds = .bad := by
  intro ds h
  unfold m__law_same_worth
  split
  · exact absurd rfl h
  · rfl
theorem ok__law_same_worth {g : FP} {a : Adr} (S : Txt g a) : FnOk g.P g.w g.K g.mg g.base (L2.CX g.P g.w) 2 a.f__law_same_worth a.fd__law_same_worth ["told", "due"] (pureSp (mkT g a) 2 m__law_same_worth) := by
  refine fn_pure rfl S._law_same_worth_R sc__law_same_worth fun cdv A outer s H E C ds hl => ?_
  match ds, hl with
  | [told_0, due_0], _ =>
    show PBX _ _ _ _ _ [some (.val told_0), some (.val due_0)] (b__law_same_worth told_0 due_0) _ _ _
    unfold b__law_same_worth
    exact (pb_if_x0 (ptx_cmp op_isN od_isN (px_v 1 rfl rfl (.inl rfl) (by decide) (by decide)) px_non (nomark _)) (pb_retD (fun _ => rfl) (px_cmpR op_isN od_isN (px_v 0 rfl rfl (.inl rfl) (by decide) (by decide)) px_non (nomark _))) (pb_retD (fun _ => rfl) (px_and (px_call C (ok__law_whole S) hn__law_whole (by decide) (by rfl) S.h__law_whole S._law_whole_F.kp S._law_whole_b .nil (fun _ => .nil) (pax_cons (px_v 0 rfl rfl (.inl rfl) (by decide) (by decide)) pax_nil)) (px_one (px_cmpR (op_eqD C.room.units) od_eq (px_v 0 rfl rfl (.inl rfl) (by decide) (by decide)) (px_v 1 rfl rfl (.inl rfl) (by decide) (by decide)) (nomark _))))))
def b__law_same_worths (told_0 due_0 : D) : Res D := iteR (orB (notB (truR (op1 (isiD "tuple") (.ok told_0)))) (blR (op2 neD (callO lenD (consR (.ok told_0) (.ok []))) (callO lenD (consR (.ok due_0) (.ok [])))))) (.ok (.bl false)) (Res.bind (callOo rng1 (consR (callO lenD (consR (.ok due_0) (.ok []))) (.ok []))) fun ds => Res.bind (forG id (fun (s_0 : Unit) (k_0 : D) => iteR (notB (truR (callR m__law_same_worth [] (consR (op2 ixD (.ok told_0) (.ok k_0)) (consR (op2 ixD (.ok due_0) (.ok k_0)) (.ok [])))))) (Res.bind (.ok (.bl false)) fun d => .ok (.rt d)) (.ok (.nx ()))) ds ()) (lpK (fun d => .ok d) fun s_0 => .ok (.bl true)))
def m__law_same_worths : List D → Res D
  | [told_0, due_0] => b__law_same_worths told_0 due_0
  | _ => .bad
theorem hn__law_same_worths : ∀ ds : List D, ds.length ≠ 2 → m__law_same_worths ds = .bad := by
  intro ds h
  unfold m__law_same_worths
  split
  · exact absurd rfl h
  · rfl
theorem ok__law_same_worths {g : FP} {a : Adr} (S : Txt g a) : FnOk g.P g.w g.K g.mg g.base (L2.CX g.P g.w) 3 a.f__law_same_worths a.fd__law_same_worths ["told", "due"] (pureSp (mkT g a) 2 m__law_same_worths) := by
  refine fn_pure rfl S._law_same_worths_R sc__law_same_worths fun cdv A outer s H E C ds hl => ?_
  match ds, hl with
  | [told_0, due_0], _ =>
    show PBX _ _ _ _ _ [some (.val told_0), some (.val due_0), none] (b__law_same_worths told_0 due_0) _ _ _
    unfold b__law_same_worths
    exact (pb_if_x0 (PWX.pt (pwx_or (ptx_not (ptx_tru C.kk (px_isi C.kk S.kt (by simp) (by rfl) S.n_isinstance (by rfl) S.n_tuple (by decide +kernel) (by decide) (by decide) (px_v 0 rfl rfl (.inl rfl) (by decide) (by decide))) (fun _ => rfl))) (pwx_or1 (ptx_cmp (op_neD C.room.units) od_ne (px_callB call_len cd_len (by rfl) S.n_len PySem.boot_len (pax_cons (px_v 0 rfl rfl (.inl rfl) (by decide) (by decide)) pax_nil)) (px_callB call_len cd_len (by rfl) S.n_len PySem.boot_len (pax_cons (px_v 1 rfl rfl (.inl rfl) (by decide) (by decide)) pax_nil)) (nomark _))))) (pb_retD (fun _ => rfl) px_bl) (pb_for (e1 := (fun (s_0 : Unit) => ([some (.val told_0), some (.val due_0), none] : Env'))) (s0 := ()) (r := (fun d => .ok d)) C.po C.calm (pix_range1 (by rfl) S.n_range (pax_cons (px_callB call_len cd_len (by rfl) S.n_len PySem.boot_len (pax_cons (px_v 1 rfl rfl (.inl rfl) (by decide) (by decide)) pax_nil)) pax_nil)) (pgx_name 2 C.nd rfl (.inl rfl) (.inl rfl)) (by simp [subE]) (fun s_0 k_0 => nrm [some (.val told_0), some (.val due_0), some (.val k_0)] (pb_if_x0 (ptx_not (ptx_tru C.kk (px_call C (ok__law_same_worth S) hn__law_same_worth (by decide) (by rfl) S.h__law_same_worth S._law_same_worth_F.kp S._law_same_worth_b .nil (fun _ => .nil) (pax_cons (px_ix ix_seq od_ix (px_v 0 rfl rfl (.inl rfl) (by decide) (by decide)) (px_v 2 rfl rfl (.inl rfl) (by decide) (by decide)) (fun _ _ => rfl)) (pax_cons (px_ix ix_seq od_ix (px_v 1 rfl rfl (.inl rfl) (by decide) (by decide)) (px_v 2 rfl rfl (.inl rfl) (by decide) (by decide)) (fun _ _ => rfl)) pax_nil))) (fun _ => rfl))) (pb_ret (r := Fl.rt) (fun _ => rfl) px_bl) (pb_nilS (s := ()) rfl (by simp [subE])))) (fun d => .inr ⟨_, rfl, rfl⟩) (fun s_0 => nrm [some (.val told_0), some (.val due_0), none] (pb_retD (fun _ => rfl) px_bl)) (fun _ => rfl)))
def b__law_at (grade_0 worth_0 : D) : Res D := iteR (blR (op2 isND (.ok worth_0) (.ok .non))) (.ok .non) (iteR (blR (op2 ltD (.ok worth_0) (callO lenD (consR (op2 ixD (.ok grade_0) (.ok (.int 0))) (.ok []))))) (op2 ixD (op2 ixD (.ok grade_0) (.ok (.int 0))) (.ok worth_0)) (iteR (blR (op2 isND (op2 ixD (.ok grade_0) (.ok (.int 1))) (.ok .non))) (.ok .non) (op2 addD (.ok worth_0) (op2 ixD (.ok grade_0) (.ok (.int 1))))))
def m__law_at : List D → Res D
  | [grade_0, worth_0] => b__law_at grade_0 worth_0
  | _ => .bad
theorem hn__law_at : ∀ ds : List D, ds.length ≠ 2 → m__law_at ds = .bad := by
  intro ds h
  unfold m__law_at
  split
  · exact absurd rfl h
  · rfl
theorem ok__law_at {g : FP} {a : Adr} (S : Txt g a) : FnOk g.P g.w g.K g.mg g.base (L2.CX g.P g.w) 1 a.f__law_at a.fd__law_at ["grade", "worth"] (pureSp (mkT g a) 2 m__law_at) := by
  refine fn_pure rfl S._law_at_R sc__law_at fun cdv A outer s H E C ds hl => ?_
  match ds, hl with
  | [grade_0, worth_0], _ =>
    show PBX _ _ _ _ _ [some (.val grade_0), some (.val worth_0)] (b__law_at grade_0 worth_0) _ _ _
    unfold b__law_at
    exact (pb_if_x0 (ptx_cmp op_isN od_isN (px_v 1 rfl rfl (.inl rfl) (by decide) (by decide)) px_non (nomark _)) (pb_retD (fun _ => rfl) px_non) (pb_if_x0 (ptx_cmp (op_ltAll C.room.units0) od_lt (px_v 1 rfl rfl (.inl rfl) (by decide) (by decide)) (px_callB call_len cd_len (by rfl) S.n_len PySem.boot_len (pax_cons (px_ix ix_seq od_ix (px_v 0 rfl rfl (.inl rfl) (by decide) (by decide)) px_int (fun _ _ => rfl)) pax_nil)) (nomark _)) (pb_retD (fun _ => rfl) (px_ix ix_seq od_ix (px_ix ix_seq od_ix (px_v 0 rfl rfl (.inl rfl) (by decide) (by decide)) px_int (fun _ _ => rfl)) (px_v 1 rfl rfl (.inl rfl) (by decide) (by decide)) (fun _ _ => rfl))) (pb_if_x0 (ptx_cmp op_isN od_isN (px_ix ix_seq od_ix (px_v 0 rfl rfl (.inl rfl) (by decide) (by decide)) px_int (fun _ _ => rfl)) px_non (nomark _)) (pb_retD (fun _ => rfl) px_non) (pb_retD (fun _ => rfl) (px_op op_addAll od_add (px_v 1 rfl rfl (.inl rfl) (by decide) (by decide)) (px_ix ix_seq od_ix (px_v 0 rfl rfl (.inl rfl) (by decide) (by decide)) px_int (fun _ _ => rfl)))))))
def b_led (table_0 more_0 worth_0 : D) : Res D := iteR (blR (op2 isND (.ok worth_0) (.ok .non))) (.ok .non) (iteR (blR (op2 ltD (.ok worth_0) (callO lenD (consR (.ok table_0) (.ok []))))) (op2 ixD (.ok table_0) (.ok worth_0)) (callR m_beyond [] (consR (.ok worth_0) (consR (.ok more_0) (.ok [])))))
def m_led : List D → Res D
  | [table_0, more_0, worth_0] => b_led table_0 more_0 worth_0
  | _ => .bad
theorem hn_led : ∀ ds : List D, ds.length ≠ 3 → m_led ds = .bad := by
  intro ds h
  unfold m_led
  split
  · exact absurd rfl h
  · rfl
theorem ok_led {g : FP} {a : Adr} (S : Txt g a) : FnOk g.P g.w g.K g.mg g.base (L2.CX g.P g.w) 2 a.f_led a.fd_led ["table", "more", "worth"] (pureSp (mkT g a) 3 m_led) := by
  refine fn_pure rfl S.led_R sc_led fun cdv A outer s H E C ds hl => ?_
  match ds, hl with
  | [table_0, more_0, worth_0], _ =>
    show PBX _ _ _ _ _ [some (.val table_0), some (.val more_0), some (.val worth_0)] (b_led table_0 more_0 worth_0) _ _ _
    unfold b_led
    exact (pb_if_x0 (ptx_cmp op_isN od_isN (px_v 2 rfl rfl (.inl rfl) (by decide) (by decide)) px_non (nomark _)) (pb_retD (fun _ => rfl) px_non) (pb_if_x0 (ptx_cmp (op_ltAll C.room.units0) od_lt (px_v 2 rfl rfl (.inl rfl) (by decide) (by decide)) (px_callB call_len cd_len (by rfl) S.n_len PySem.boot_len (pax_cons (px_v 0 rfl rfl (.inl rfl) (by decide) (by decide)) pax_nil)) (nomark _)) (pb_retD (fun _ => rfl) (px_ix ix_seq od_ix (px_v 0 rfl rfl (.inl rfl) (by decide) (by decide)) (px_v 2 rfl rfl (.inl rfl) (by decide) (by decide)) (fun _ _ => rfl))) (pb_retD (fun _ => rfl) (px_call C (ok_beyond S) hn_beyond (by decide) (by rfl) S.h_beyond S.beyond_F.kp S.beyond_b .nil (fun _ => .nil) (pax_cons (px_v 2 rfl rfl (.inl rfl) (by decide) (by decide)) (pax_cons (px_v 1 rfl rfl (.inl rfl) (by decide) (by decide)) pax_nil))))))
def b_Grade_call (self_0 worth_0 : D) : Res D := callR m_led [] (consR (op1 (fldD at_ "table") (.ok self_0)) (consR (op1 (fldD at_ "more") (.ok self_0)) (consR (.ok worth_0) (.ok []))))
def m_Grade_call : List D → Res D
  | [self_0, worth_0] => b_Grade_call self_0 worth_0
  | _ => .bad
theorem hn_Grade_call : ∀ ds : List D, ds.length ≠ 2 → m_Grade_call ds = .bad := by
  intro ds h
  unfold m_Grade_call
  split
  · exact absurd rfl h
  · rfl
theorem ok_Grade_call {g : FP} {a : Adr} (S : Txt g a) : FnOk g.P g.w g.K g.mg g.base (L2.CX g.P g.w) 3 a.f_Grade_call a.fd_Grade_call ["self", "worth"] (pureSp (mkT g a) 2 m_Grade_call) := by
  refine fn_pure rfl S.Grade_call_R sc_Grade_call fun cdv A outer s H E C ds hl => ?_
  match ds, hl with
  | [self_0, worth_0], _ =>
    show PBX _ _ _ _ _ [some (.val self_0), some (.val worth_0)] (b_Grade_call self_0 worth_0) _ _ _
    unfold b_Grade_call
    exact (pb_retD (fun _ => rfl) (px_call C (ok_led S) hn_led (by decide) (by rfl) S.h_led S.led_F.kp S.led_b .nil (fun _ => .nil) (pax_cons (px_fld C.kk S.kt (px_v 0 rfl rfl (.inl rfl) (by decide) (by decide)) rfl) (pax_cons (px_fld C.kk S.kt (px_v 0 rfl rfl (.inl rfl) (by decide) (by decide)) rfl) (pax_cons (px_v 1 rfl rfl (.inl rfl) (by decide) (by decide)) pax_nil)))))
def b__law_tells (made_0 due_0 worths_0 : D) : Res D := iteR (orB (notB (truR (op1 (isCD sub_ 0) (.ok made_0)))) (notB (truR (callR m__law_same_worths [] (consR (op1 (fldD at_ "table") (.ok made_0)) (consR (callR m__law_least_entries [] (consR (.ok due_0) (.ok []))) (.ok []))))))) (.ok (.bl false)) (iteR (notB (truR (callR m__law_same_worth [] (consR (op1 (fldD at_ "more") (.ok made_0)) (consR (op2 ixD (.ok due_0) (.ok (.int 1))) (.ok [])))))) (.ok (.bl false)) (Res.bind (itemsR (.ok worths_0)) fun ds => Res.bind (forG id (fun (s_0 : Unit) (worth_0 : D) => iteR (notB (truR (callR m__law_same_worth [] (consR (callI 0 m_Grade_call (.ok made_0) (consR (.ok worth_0) (.ok []))) (consR (callR m__law_at [] (consR (.ok due_0) (consR (.ok worth_0) (.ok [])))) (.ok [])))))) (Res.bind (.ok (.bl false)) fun d => .ok (.rt d)) (.ok (.nx ()))) ds ()) (lpK (fun d => .ok d) fun s_0 => .ok (.bl true))))
def m__law_tells : List D → Res D
  | [made_0, due_0, worths_0] => b__law_tells made_0 due_0 worths_0
  | _ => .bad
theorem hn__law_tells : ∀ ds : List D, ds.length ≠ 3 → m__law_tells ds = .bad := by
  intro ds h
  unfold m__law_tells
  split
  · exact absurd rfl h
  · rfl
theorem ok__law_tells {g : FP} {a : Adr} (S : Txt g a) : FnOk g.P g.w g.K g.mg g.base (L2.CX g.P g.w) 5 a.f__law_tells a.fd__law_tells ["made", "due", "worths"] (pureSp (mkT g a) 3 m__law_tells) := by
  refine fn_pure rfl S._law_tells_R sc__law_tells fun cdv A outer s H E C ds hl => ?_
  match ds, hl with
  | [made_0, due_0, worths_0], _ =>
    show PBX _ _ _ _ _ [some (.val made_0), some (.val due_0), some (.val worths_0), none] (b__law_tells made_0 due_0 worths_0) _ _ _
    unfold b__law_tells
    exact (pb_if_x0 (PWX.pt (pwx_or (ptx_not (ptx_tru C.kk (px_isC C.kk S.kt rfl (by rfl) S.n_isinstance (by rfl) S.h_Grade (by decide) (px_v 0 rfl rfl (.inl rfl) (by decide) (by decide))) (fun _ => rfl))) (pwx_or1 (ptx_not (ptx_tru C.kk (px_call C (ok__law_same_worths S) hn__law_same_worths (by decide) (by rfl) S.h__law_same_worths S._law_same_worths_F.kp S._law_same_worths_b .nil (fun _ => .nil) (pax_cons (px_fld C.kk S.kt (px_v 0 rfl rfl (.inl rfl) (by decide) (by decide)) rfl) (pax_cons (px_call C (ok__law_least_entries S) hn__law_least_entries (by decide) (by rfl) S.h__law_least_entries S._law_least_entries_F.kp S._law_least_entries_b .nil (fun _ => .nil) (pax_cons (px_v 1 rfl rfl (.inl rfl) (by decide) (by decide)) pax_nil)) pax_nil))) (fun _ => rfl)))))) (pb_retD (fun _ => rfl) px_bl) (pb_if_x0 (ptx_not (ptx_tru C.kk (px_call C (ok__law_same_worth S) hn__law_same_worth (by decide) (by rfl) S.h__law_same_worth S._law_same_worth_F.kp S._law_same_worth_b .nil (fun _ => .nil) (pax_cons (px_fld C.kk S.kt (px_v 0 rfl rfl (.inl rfl) (by decide) (by decide)) rfl) (pax_cons (px_ix ix_seq od_ix (px_v 1 rfl rfl (.inl rfl) (by decide) (by decide)) px_int (fun _ _ => rfl)) pax_nil))) (fun _ => rfl))) (pb_retD (fun _ => rfl) px_bl) (pb_for (e1 := (fun (s_0 : Unit) => ([some (.val made_0), some (.val due_0), some (.val worths_0), none] : Env'))) (s0 := ()) (r := (fun d => .ok d)) C.po C.calm (pix_seq C.kk (px_v 2 rfl rfl (.inl rfl) (by decide) (by decide))) (pgx_name 3 C.nd rfl (.inl rfl) (.inl rfl)) (by simp [subE]) (fun s_0 worth_0 => nrm [some (.val made_0), some (.val due_0), some (.val worths_0), some (.val worth_0)] (pb_if_x0 (ptx_not (ptx_tru C.kk (px_call C (ok__law_same_worth S) hn__law_same_worth (by decide) (by rfl) S.h__law_same_worth S._law_same_worth_F.kp S._law_same_worth_b .nil (fun _ => .nil) (pax_cons (px_callI C S.Grade_call_at S.Grade_call_fn S.Grade_call_fi rfl (ok_Grade_call S) hn_Grade_call (by decide) S.Grade_call_b (px_v 0 rfl rfl (.inl rfl) (by decide) (by decide)) (pax_cons (px_v 3 rfl rfl (.inl rfl) (by decide) (by decide)) pax_nil)) (pax_cons (px_call C (ok__law_at S) hn__law_at (by decide) (by rfl) S.h__law_at S._law_at_F.kp S._law_at_b .nil (fun _ => .nil) (pax_cons (px_v 1 rfl rfl (.inl rfl) (by decide) (by decide)) (pax_cons (px_v 3 rfl rfl (.inl rfl) (by decide) (by decide)) pax_nil))) pax_nil))) (fun _ => rfl))) (pb_ret (r := Fl.rt) (fun _ => rfl) px_bl) (pb_nilS (s := ()) rfl (by simp [subE])))) (fun d => .inr ⟨_, rfl, rfl⟩) (fun s_0 => nrm [some (.val made_0), some (.val due_0), some (.val worths_0), none] (pb_retD (fun _ => rfl) px_bl)) (fun _ => rfl))))
def b__law_worths (grade_0 amount_0 : D) : Res D := op2 addD (lstV (callOo lrng1 (consR (op2 addD (callO lenD (consR (op2 ixD (.ok grade_0) (.ok (.int 0))) (.ok []))) (.ok (.int 2))) (.ok [])))) (lstV (dispR (consR (.ok amount_0) (consR (op2 addD (op2 powD (.ok (.int 10)) (.ok (.int 18))) (.ok amount_0)) (consR (.ok .non) (.ok []))))))
def m__law_worths : List D → Res D
  | [grade_0, amount_0] => b__law_worths grade_0 amount_0
  | _ => .bad
theorem hn__law_worths : ∀ ds : List D, ds.length ≠ 2 → m__law_worths ds = .bad := by
  intro ds h
  unfold m__law_worths
  split
  · exact absurd rfl h
  · rfl
theorem ok__law_worths {g : FP} {a : Adr} (S : Txt g a) : FnOk g.P g.w g.K g.mg g.base (L2.CX g.P g.w) 1 a.f__law_worths a.fd__law_worths ["grade", "amount"] (pureSp (mkT g a) 2 m__law_worths) := by
  refine fn_pure rfl S._law_worths_R sc__law_worths fun cdv A outer s H E C ds hl => ?_
  match ds, hl with
  | [grade_0, amount_0], _ =>
    show PBX _ _ _ _ _ [some (.val grade_0), some (.val amount_0)] (b__law_worths grade_0 amount_0) _ _ _
    unfold b__law_worths
    exact (pb_retD (fun _ => rfl) (px_op op_addAll od_add (PXO.px (pxo_listRg1 C.calm (by rfl) S.n_list (by rfl) S.n_range (px_op op_addAll od_add (px_callB call_len cd_len (by rfl) S.n_len PySem.boot_len (pax_cons (px_ix ix_seq od_ix (px_v 0 rfl rfl (.inl rfl) (by decide) (by decide)) px_int (fun _ _ => rfl)) pax_nil)) px_int))) (PXO.px (pxo_lst (pax_cons (px_v 1 rfl rfl (.inl rfl) (by decide) (by decide)) (pax_cons (px_op op_addAll od_add (px_op op_pow od_pow px_int px_int) (px_v 1 rfl rfl (.inl rfl) (by decide) (by decide))) (pax_cons px_non pax_nil)))))))
def b_Grade_eq (self_0 other_0 : D) : Res D := andV (op1 (isCD sub_ 0) (.ok other_0)) (andV (op2 eqD (op1 (fldD at_ "table") (.ok self_0)) (op1 (fldD at_ "table") (.ok other_0))) (op2 eqD (op1 (fldD at_ "more") (.ok self_0)) (op1 (fldD at_ "more") (.ok other_0))))
def m_Grade_eq : List D → Res D
  | [self_0, other_0] => b_Grade_eq self_0 other_0
  | _ => .bad
theorem hn_Grade_eq : ∀ ds : List D, ds.length ≠ 2 → m_Grade_eq ds = .bad := by
  intro ds h
  unfold m_Grade_eq
  split
  · exact absurd rfl h
  · rfl
theorem ok_Grade_eq {g : FP} {a : Adr} (S : Txt g a) : FnOk g.P g.w g.K g.mg g.base (L2.CX g.P g.w) 1 a.f_Grade_eq a.fd_Grade_eq ["self", "other"] (pureSp (mkT g a) 2 m_Grade_eq) := by
  refine fn_pure rfl S.Grade_eq_R sc_Grade_eq fun cdv A outer s H E C ds hl => ?_
  match ds, hl with
  | [self_0, other_0], _ =>
    show PBX _ _ _ _ _ [some (.val self_0), some (.val other_0)] (b_Grade_eq self_0 other_0) _ _ _
    unfold b_Grade_eq
    exact (pb_retD (fun _ => rfl) (px_and (px_isC C.kk S.kt rfl (by rfl) S.n_isinstance (by rfl) S.h_Grade (by decide) (px_v 1 rfl rfl (.inl rfl) (by decide) (by decide))) (px_and (px_cmpR (op_eqD C.room.units) od_eq (px_fld C.kk S.kt (px_v 0 rfl rfl (.inl rfl) (by decide) (by decide)) rfl) (px_fld C.kk S.kt (px_v 1 rfl rfl (.inl rfl) (by decide) (by decide)) rfl) (nomark _)) (px_one (px_cmpR (op_eqD C.room.units) od_eq (px_fld C.kk S.kt (px_v 0 rfl rfl (.inl rfl) (by decide) (by decide)) rfl) (px_fld C.kk S.kt (px_v 1 rfl rfl (.inl rfl) (by decide) (by decide)) rfl) (nomark _))))))
def b__law_told_equal (one_0 two_0 equal_0 : D) : Res D := Res.bind (itemsR (lstV (dispR (consR (ownCmpR sub_ 0 oth_Grade false m_Grade_eq (.ok one_0) (.ok two_0)) (consR (ownCmpR sub_ 0 oth_Grade false m_Grade_eq (.ok two_0) (.ok one_0)) (.ok [])))))) fun ds => Res.bind (forG id (fun (s_0 : Unit) (told_0 : D) => iteR (orB (notB (truR (op1 (isiD "bool") (.ok told_0)))) (blR (op2 neD (.ok told_0) (.ok equal_0)))) (Res.bind (.ok (.bl false)) fun d => .ok (.rt d)) (.ok (.nx ()))) ds ()) (lpK (fun d => .ok d) fun s_0 => Res.bind (itemsR (lstV (dispR (consR (ownCmpR sub_ 0 oth_Grade true m_Grade_eq (.ok one_0) (.ok two_0)) (consR (ownCmpR sub_ 0 oth_Grade true m_Grade_eq (.ok two_0) (.ok one_0)) (.ok [])))))) fun ds => Res.bind (forG id (fun (s_1 : Unit) (told_1 : D) => iteR (orB (notB (truR (op1 (isiD "bool") (.ok told_1)))) (blR (op2 eqD (.ok told_1) (.ok equal_0)))) (Res.bind (.ok (.bl false)) fun d => .ok (.rt d)) (.ok (.nx ()))) ds ()) (lpK (fun d => .ok d) fun s_1 => .ok (.bl true)))
def m__law_told_equal : List D → Res D
  | [one_0, two_0, equal_0] => b__law_told_equal one_0 two_0 equal_0
  | _ => .bad
theorem hn__law_told_equal : ∀ ds : List D, ds.length ≠ 3 → m__law_told_equal ds = .bad := by
  intro ds h
  unfold m__law_told_equal
  split
  · exact absurd rfl h
  · rfl
theorem ok__law_told_equal {g : FP} {a : Adr} (S : Txt g a) : FnOk g.P g.w g.K g.mg g.base (L2.CX g.P g.w) 3 a.f__law_told_equal a.fd__law_told_equal ["one", "two", "equal"] (pureSp (mkT g a) 3 m__law_told_equal) := by
  refine fn_pure rfl S._law_told_equal_R sc__law_told_equal fun cdv A outer s H E C ds hl => ?_
  match ds, hl with
  | [one_0, two_0, equal_0], _ =>
    show PBX _ _ _ _ _ [some (.val one_0), some (.val two_0), some (.val equal_0), none] (b__law_told_equal one_0 two_0 equal_0) _ _ _
    unfold b__law_told_equal
    exact (pb_for (e1 := (fun (s_0 : Unit) => ([some (.val one_0), some (.val two_0), some (.val equal_0), none] : Env'))) (s0 := ()) (r := (fun d => .ok d)) C.po C.calm (pix_seq C.kk (PXO.px (pxo_lst (pax_cons (px_cmpEq C S.kt S.oe_Grade rfl S.nf_Grade S.nc_Grade S.po_Grade S.pc_Grade (ok_Grade_eq S) hn_Grade_eq (by decide) S.Grade_eq_b (px_v 0 rfl rfl (.inl rfl) (by decide) (by decide)) (px_v 1 rfl rfl (.inl rfl) (by decide) (by decide)) (nomark _)) (pax_cons (px_cmpEq C S.kt S.oe_Grade rfl S.nf_Grade S.nc_Grade S.po_Grade S.pc_Grade (ok_Grade_eq S) hn_Grade_eq (by decide) S.Grade_eq_b (px_v 1 rfl rfl (.inl rfl) (by decide) (by decide)) (px_v 0 rfl rfl (.inl rfl) (by decide) (by decide)) (nomark _)) pax_nil))))) (pgx_name 3 C.nd rfl (.inl rfl) (.inl rfl)) (by simp [subE]) (fun s_0 told_0 => nrm [some (.val one_0), some (.val two_0), some (.val equal_0), some (.val told_0)] (pb_if_x0 (PWX.pt (pwx_or (ptx_not (ptx_tru C.kk (px_isi C.kk S.kt (by simp) (by rfl) S.n_isinstance (by rfl) S.n_bool (by decide +kernel) (by decide) (by decide) (px_v 3 rfl rfl (.inl rfl) (by decide) (by decide))) (fun _ => rfl))) (pwx_or1 (ptx_cmp (op_neD C.room.units) od_ne (px_v 3 rfl rfl (.inl rfl) (by decide) (by decide)) (px_v 2 rfl rfl (.inl rfl) (by decide) (by decide)) (nomark _))))) (pb_ret (r := Fl.rt) (fun _ => rfl) px_bl) (pb_nilS (s := ()) rfl (by simp [subE])))) (fun d => .inr ⟨_, rfl, rfl⟩) (fun s_0 => nrm [some (.val one_0), some (.val two_0), some (.val equal_0), none] (pb_for (e1 := (fun (s_1 : Unit) => ([some (.val one_0), some (.val two_0), some (.val equal_0), none] : Env'))) (s0 := ()) (r := (fun d => .ok d)) C.po C.calm (pix_seq C.kk (PXO.px (pxo_lst (pax_cons (px_cmpNe C S.kt S.oe_Grade rfl S.nf_Grade S.nc_Grade S.po_Grade S.pc_Grade (ok_Grade_eq S) hn_Grade_eq (by decide) S.Grade_eq_b (px_v 0 rfl rfl (.inl rfl) (by decide) (by decide)) (px_v 1 rfl rfl (.inl rfl) (by decide) (by decide)) (nomark _)) (pax_cons (px_cmpNe C S.kt S.oe_Grade rfl S.nf_Grade S.nc_Grade S.po_Grade S.pc_Grade (ok_Grade_eq S) hn_Grade_eq (by decide) S.Grade_eq_b (px_v 1 rfl rfl (.inl rfl) (by decide) (by decide)) (px_v 0 rfl rfl (.inl rfl) (by decide) (by decide)) (nomark _)) pax_nil))))) (pgx_name 3 C.nd rfl (.inl rfl) (.inl rfl)) (by simp [subE]) (fun s_1 told_1 => nrm [some (.val one_0), some (.val two_0), some (.val equal_0), some (.val told_1)] (pb_if_x0 (PWX.pt (pwx_or (ptx_not (ptx_tru C.kk (px_isi C.kk S.kt (by simp) (by rfl) S.n_isinstance (by rfl) S.n_bool (by decide +kernel) (by decide) (by decide) (px_v 3 rfl rfl (.inl rfl) (by decide) (by decide))) (fun _ => rfl))) (pwx_or1 (ptx_cmp (op_eqD C.room.units) od_eq (px_v 3 rfl rfl (.inl rfl) (by decide) (by decide)) (px_v 2 rfl rfl (.inl rfl) (by decide) (by decide)) (nomark _))))) (pb_ret (r := Fl.rt) (fun _ => rfl) px_bl) (pb_nilS (s := ()) rfl (by simp [subE])))) (fun d => .inr ⟨_, rfl, rfl⟩) (fun s_1 => nrm [some (.val one_0), some (.val two_0), some (.val equal_0), none] (pb_retD (fun _ => rfl) px_bl)) (fun _ => rfl))) (fun _ => rfl))
def b__law_same_function (one_0 two_0 : D) : Res D := Res.bind (callOo rng1 (consR (op2 addD (callO maxD (consR (callO lenD (consR (op2 ixD (.ok one_0) (.ok (.int 0))) (.ok []))) (consR (callO lenD (consR (op2 ixD (.ok two_0) (.ok (.int 0))) (.ok []))) (.ok [])))) (.ok (.int 1))) (.ok []))) fun ds => Res.bind (forG id (fun (s_0 : Unit) (number_0 : D) => iteR (blR (op2 neD (callR m__law_at [] (consR (.ok one_0) (consR (.ok number_0) (.ok [])))) (callR m__law_at [] (consR (.ok two_0) (consR (.ok number_0) (.ok [])))))) (Res.bind (.ok (.bl false)) fun d => .ok (.rt d)) (.ok (.nx ()))) ds ()) (lpK (fun d => .ok d) fun s_0 => .ok (.bl true))
def m__law_same_function : List D → Res D
  | [one_0, two_0] => b__law_same_function one_0 two_0
  | _ => .bad
theorem hn__law_same_function : ∀ ds : List D, ds.length ≠ 2 → m__law_same_function ds = .bad := by
  intro ds h
  unfold m__law_same_function
  split
  · exact absurd rfl h
  · rfl
theorem ok__law_same_function {g : FP} {a : Adr} (S : Txt g a) : FnOk g.P g.w g.K g.mg g.base (L2.CX g.P g.w) 2 a.f__law_same_function a.fd__law_same_function ["one", "two"] (pureSp (mkT g a) 2 m__law_same_function) := by
  refine fn_pure rfl S._law_same_function_R sc__law_same_function fun cdv A outer s H E C ds hl => ?_
  match ds, hl with
  | [one_0, two_0], _ =>
    show PBX _ _ _ _ _ [some (.val one_0), some (.val two_0), none] (b__law_same_function one_0 two_0) _ _ _
    unfold b__law_same_function
    exact (pb_for (e1 := (fun (s_0 : Unit) => ([some (.val one_0), some (.val two_0), none] : Env'))) (s0 := ()) (r := (fun d => .ok d)) C.po C.calm (pix_range1 (by rfl) S.n_range (pax_cons (px_op op_addAll od_add (px_callB (call_max2 C.calm) cd_max (by rfl) S.n_max (by decide +kernel) (pax_cons (px_callB call_len cd_len (by rfl) S.n_len PySem.boot_len (pax_cons (px_ix ix_seq od_ix (px_v 0 rfl rfl (.inl rfl) (by decide) (by decide)) px_int (fun _ _ => rfl)) pax_nil)) (pax_cons (px_callB call_len cd_len (by rfl) S.n_len PySem.boot_len (pax_cons (px_ix ix_seq od_ix (px_v 1 rfl rfl (.inl rfl) (by decide) (by decide)) px_int (fun _ _ => rfl)) pax_nil)) pax_nil))) px_int) pax_nil)) (pgx_name 2 C.nd rfl (.inl rfl) (.inl rfl)) (by simp [subE]) (fun s_0 number_0 => nrm [some (.val one_0), some (.val two_0), some (.val number_0)] (pb_if_x0 (ptx_cmp (op_neD C.room.units) od_ne (px_call C (ok__law_at S) hn__law_at (by decide) (by rfl) S.h__law_at S._law_at_F.kp S._law_at_b .nil (fun _ => .nil) (pax_cons (px_v 0 rfl rfl (.inl rfl) (by decide) (by decide)) (pax_cons (px_v 2 rfl rfl (.inl rfl) (by decide) (by decide)) pax_nil))) (px_call C (ok__law_at S) hn__law_at (by decide) (by rfl) S.h__law_at S._law_at_F.kp S._law_at_b .nil (fun _ => .nil) (pax_cons (px_v 1 rfl rfl (.inl rfl) (by decide) (by decide)) (pax_cons (px_v 2 rfl rfl (.inl rfl) (by decide) (by decide)) pax_nil))) (nomark _)) (pb_ret (r := Fl.rt) (fun _ => rfl) px_bl) (pb_nilS (s := ()) rfl (by simp [subE])))) (fun d => .inr ⟨_, rfl, rfl⟩) (fun s_0 => nrm [some (.val one_0), some (.val two_0), none] (pb_retD (fun _ => rfl) px_bl)) (fun _ => rfl))
def b_least_of (worths_0 : D) : Res D := Res.bind (.ok .non) fun least_0 => Res.bind (itemsR (.ok worths_0)) fun ds => Res.bind (forR (fun (s_0 : D) (worth_0 : D) => iteR (truR (callR m_is_before [] (consR (.ok worth_0) (consR (.ok s_0) (.ok []))))) (Res.bind (.ok worth_0) fun least_1 => .ok least_1) (.ok s_0)) ds least_0) fun s_0 => .ok s_0
def m_least_of : List D → Res D
  | [worths_0] => b_least_of worths_0
  | _ => .bad
theorem hn_least_of : ∀ ds : List D, ds.length ≠ 1 → m_least_of ds = .bad := by
  intro ds h
  unfold m_least_of
  split
  · exact absurd rfl h
  · rfl
theorem ok_least_of {g : FP} {a : Adr} (S : Txt g a) : FnOk g.P g.w g.K g.mg g.base (L2.CX g.P g.w) 3 a.f_least_of a.fd_least_of ["worths"] (pureSp (mkT g a) 1 m_least_of) := by
  refine fn_pure rfl S.least_of_R sc_least_of fun cdv A outer s H E C ds hl => ?_
  match ds, hl with
  | [worths_0], _ =>
    show PBX _ _ _ _ _ [some (.val worths_0), none, none] (b_least_of worths_0) _ _ _
    unfold b_least_of
    exact (pb_asg 1 C.nd rfl (.inl rfl) px_non rfl (.inl rfl) (fun least_0 => nrm [some (.val worths_0), some (.val least_0), none] (pb_forS (e1 := (fun (s_0 : D) => ([some (.val worths_0), some (.val s_0), none] : Env'))) (s0 := least_0) C.po C.calm (pix_seq C.kk (px_v 0 rfl rfl (.inl rfl) (by decide) (by decide))) (pgx_name 2 C.nd rfl (.inl rfl) (.inl rfl)) (by simp [subE]) (fun s_0 worth_0 => nrm [some (.val worths_0), some (.val s_0), some (.val worth_0)] (pb_if_last (ptx_tru C.kk (px_call C (ok_is_before S) hn_is_before (by decide) (by rfl) S.h_is_before S.is_before_F.kp S.is_before_b .nil (fun _ => .nil) (pax_cons (px_v 2 rfl rfl (.inl rfl) (by decide) (by decide)) (pax_cons (px_v 1 rfl rfl (.inl rfl) (by decide) (by decide)) pax_nil))) (fun _ => rfl)) (pb_asg 1 C.nd rfl (.inl rfl) (px_v 2 rfl rfl (.inl rfl) (by decide) (by decide)) rfl (.inl rfl) (fun least_1 => nrm [some (.val worths_0), some (.val least_1), some (.val worth_0)] (pb_nilS (s := least_1) rfl (by simp [subE])))) (pb_nilS (s := s_0) rfl (by simp [subE])))) (fun s_0 => nrm [some (.val worths_0), some (.val s_0), none] (pb_retD (fun _ => rfl) (px_v 1 rfl rfl (.inl rfl) (by decide) (by decide)))) (fun _ => rfl))))
def b_Grade_or (self_0 other_0 : D) : Res D := Res.bind (callO maxD (consR (callO lenD (consR (op1 (fldD at_ "table") (.ok self_0)) (.ok []))) (consR (callO lenD (consR (op1 (fldD at_ "table") (.ok other_0)) (.ok []))) (.ok [])))) fun size_0 => Res.bind (lstV (mapL (fun number_0 => callR m_least_of [] (consR (lstV (dispR (consR (callR m_led [] (consR (op1 (fldD at_ "table") (.ok self_0)) (consR (op1 (fldD at_ "more") (.ok self_0)) (consR (.ok number_0) (.ok []))))) (consR (callR m_led [] (consR (op1 (fldD at_ "table") (.ok other_0)) (consR (op1 (fldD at_ "more") (.ok other_0)) (consR (.ok number_0) (.ok []))))) (.ok []))))) (.ok []))) (callOo rng1 (consR (.ok size_0) (.ok []))))) fun table_0 => makeR 0 i_Grade_init [] (consR (.ok table_0) (consR (callR m_least_of [] (consR (lstV (dispR (consR (op1 (fldD at_ "more") (.ok self_0)) (consR (op1 (fldD at_ "more") (.ok other_0)) (.ok []))))) (.ok []))) (.ok [])))
def m_Grade_or : List D → Res D
  | [self_0, other_0] => b_Grade_or self_0 other_0
  | _ => .bad
theorem hn_Grade_or : ∀ ds : List D, ds.length ≠ 2 → m_Grade_or ds = .bad := by
  intro ds h
  unfold m_Grade_or
  split
  · exact absurd rfl h
  · rfl
theorem ok_Grade_or {g : FP} {a : Adr} (S : Txt g a) : FnOk g.P g.w g.K g.mg g.base (L2.CX g.P g.w) 7 a.f_Grade_or a.fd_Grade_or ["self", "other"] (pureSp (mkT g a) 2 m_Grade_or) := by
  refine fn_pure rfl S.Grade_or_R sc_Grade_or fun cdv A outer s H E C ds hl => ?_
  match ds, hl with
  | [self_0, other_0], _ =>
    show PBX _ _ _ _ _ [some (.val self_0), some (.val other_0), none, none, none] (b_Grade_or self_0 other_0) _ _ _
    unfold b_Grade_or
    exact (pb_asg 2 C.nd rfl (.inl rfl) (px_callB (call_max2 C.calm) cd_max (by rfl) S.n_max (by decide +kernel) (pax_cons (px_callB call_len cd_len (by rfl) S.n_len PySem.boot_len (pax_cons (px_fld C.kk S.kt (px_v 0 rfl rfl (.inr (.inl rfl)) (by decide) (by decide)) rfl) pax_nil)) (pax_cons (px_callB call_len cd_len (by rfl) S.n_len PySem.boot_len (pax_cons (px_fld C.kk S.kt (px_v 1 rfl rfl (.inr (.inl rfl)) (by decide) (by decide)) rfl) pax_nil)) pax_nil))) rfl (.inl rfl) (fun size_0 => nrm [some (.val self_0), some (.val other_0), some (.val size_0), none, none] (pb_asgLc 3 (lcx_map (own := [("number", 4)]) (pix_range1 (by rfl) S.n_range (pax_cons (px_v 2 rfl rfl (.inl rfl) (by decide) (by decide)) pax_nil)) (fun _ _ _ _ _ => pgx_name 4 C.nd rfl (.inl rfl) (.inr rfl)) (by decide) (fun _ => ⟨_, rfl⟩) (fun _ _ _ _ _ number_0 => nrmX [some (.val self_0), some (.val other_0), some (.val size_0), none, some (.val number_0)] (px_call (Ctx.blk C) (ok_least_of S) hn_least_of (by decide) (by rfl) S.h_least_of S.least_of_F.kp S.least_of_b .nil (fun _ => .nil) (pax_cons (PXO.px (pxo_lst (pax_cons (px_call (Ctx.blk C) (ok_led S) hn_led (by decide) (by rfl) S.h_led S.led_F.kp S.led_b .nil (fun _ => .nil) (pax_cons (px_fld (Ctx.blk C).kk S.kt (px_v (x := "self") 0 rfl rfl (.inr (.inl rfl)) (by decide) (by decide)) rfl) (pax_cons (px_fld (Ctx.blk C).kk S.kt (px_v (x := "self") 0 rfl rfl (.inr (.inl rfl)) (by decide) (by decide)) rfl) (pax_cons (px_v (x := "number") 4 rfl rfl (.inl rfl) (by decide) (by decide)) pax_nil)))) (pax_cons (px_call (Ctx.blk C) (ok_led S) hn_led (by decide) (by rfl) S.h_led S.led_F.kp S.led_b .nil (fun _ => .nil) (pax_cons (px_fld (Ctx.blk C).kk S.kt (px_v (x := "other") 1 rfl rfl (.inr (.inl rfl)) (by decide) (by decide)) rfl) (pax_cons (px_fld (Ctx.blk C).kk S.kt (px_v (x := "other") 1 rfl rfl (.inr (.inl rfl)) (by decide) (by decide)) rfl) (pax_cons (px_v (x := "number") 4 rfl rfl (.inl rfl) (by decide) (by decide)) pax_nil)))) pax_nil)))) pax_nil)))) C.calm C.nd rfl rfl (sw_true rfl rfl rfl (by decide +kernel)) (blkOk_by (N := ["self", "other", "size", "table", "number"]) (sc := defScope s_Grade_or) (by decide +kernel)) (fun _ => rfl) (fun table_0 => nrm [some (.val self_0), some (.val other_0), some (.val size_0), some (.val table_0), none] (pb_retD (fun _ => rfl) (px_makeN C S.mk_Grade rfl (ok_Grade_init S) hn_Grade_init (by decide) (by rfl) S.h_Grade S.Grade_init_b .nil (fun _ => .nil) (pax_cons (px_v 3 rfl rfl (.inl rfl) (by decide) (by decide)) (pax_cons (px_call C (ok_least_of S) hn_least_of (by decide) (by rfl) S.h_least_of S.least_of_F.kp S.least_of_b .nil (fun _ => .nil) (pax_cons (PXO.px (pxo_lst (pax_cons (px_fld C.kk S.kt (px_v 0 rfl rfl (.inr (.inl rfl)) (by decide) (by decide)) rfl) (pax_cons (px_fld C.kk S.kt (px_v 1 rfl rfl (.inr (.inl rfl)) (by decide) (by decide)) rfl) pax_nil)))) pax_nil)) pax_nil))))))))
def b_total_of (worths_0 : D) : Res D := Res.bind (.ok (.int 0)) fun total_0 => Res.bind (itemsR (.ok worths_0)) fun ds => Res.bind (forG id (fun (s_0 : D) (worth_0 : D) => iteR (blR (op2 isND (.ok worth_0) (.ok .non))) (Res.bind (.ok .non) fun d => .ok (.rt d)) (Res.bind (op2 addD (.ok s_0) (.ok worth_0)) fun total_1 => .ok (.nx total_1))) ds total_0) (lpK (fun d => .ok d) fun s_0 => .ok s_0)
def m_total_of : List D → Res D
  | [worths_0] => b_total_of worths_0
  | _ => .bad
theorem hn_total_of : ∀ ds : List D, ds.length ≠ 1 → m_total_of ds = .bad := by
  intro ds h
  unfold m_total_of
  split
  · exact absurd rfl h
  · rfl
theorem ok_total_of {g : FP} {a : Adr} (S : Txt g a) : FnOk g.P g.w g.K g.mg g.base (L2.CX g.P g.w) 1 a.f_total_of a.fd_total_of ["worths"] (pureSp (mkT g a) 1 m_total_of) := by
  refine fn_pure rfl S.total_of_R sc_total_of fun cdv A outer s H E C ds hl => ?_
  match ds, hl with
  | [worths_0], _ =>
    show PBX _ _ _ _ _ [some (.val worths_0), none, none] (b_total_of worths_0) _ _ _
    unfold b_total_of
    exact (pb_asg 1 C.nd rfl (.inl rfl) px_int rfl (.inl rfl) (fun total_0 => nrm [some (.val worths_0), some (.val total_0), none] (pb_for (e1 := (fun (s_0 : D) => ([some (.val worths_0), some (.val s_0), none] : Env'))) (s0 := total_0) (r := (fun d => .ok d)) C.po C.calm (pix_seq C.kk (px_v 0 rfl rfl (.inl rfl) (by decide) (by decide))) (pgx_name 2 C.nd rfl (.inl rfl) (.inl rfl)) (by simp [subE]) (fun s_0 worth_0 => nrm [some (.val worths_0), some (.val s_0), some (.val worth_0)] (pb_if_x0 (ptx_cmp op_isN od_isN (px_v 2 rfl rfl (.inl rfl) (by decide) (by decide)) px_non (nomark _)) (pb_ret (r := Fl.rt) (fun _ => rfl) px_non) (pb_asg 1 C.nd rfl (.inl rfl) (px_op op_addAll od_add (px_v 1 rfl rfl (.inl rfl) (by decide) (by decide)) (px_v 2 rfl rfl (.inl rfl) (by decide) (by decide))) rfl (.inl rfl) (fun total_1 => nrm [some (.val worths_0), some (.val total_1), some (.val worth_0)] (pb_nilS (s := total_1) rfl (by simp [subE])))))) (fun d => .inr ⟨_, rfl, rfl⟩) (fun s_0 => nrm [some (.val worths_0), some (.val s_0), none] (pb_retD (fun _ => rfl) (px_v 1 rfl rfl (.inl rfl) (by decide) (by decide)))) (fun _ => rfl))))
def b_Grade_rshift (self_0 other_0 : D) : Res D := Res.bind (callO maxD (consR (callO lenD (consR (op1 (fldD at_ "table") (.ok self_0)) (.ok []))) (consR (callO lenD (consR (op1 (fldD at_ "table") (.ok other_0)) (.ok []))) (.ok [])))) fun size_0 => Res.bind (lstV (mapL (fun number_0 => callR m_led [] (consR (op1 (fldD at_ "table") (.ok other_0)) (consR (op1 (fldD at_ "more") (.ok other_0)) (consR (callR m_led [] (consR (op1 (fldD at_ "table") (.ok self_0)) (consR (op1 (fldD at_ "more") (.ok self_0)) (consR (.ok number_0) (.ok []))))) (.ok []))))) (callOo rng1 (consR (.ok size_0) (.ok []))))) fun table_0 => makeR 0 i_Grade_init [] (consR (.ok table_0) (consR (callR m_total_of [] (consR (lstV (dispR (consR (op1 (fldD at_ "more") (.ok self_0)) (consR (op1 (fldD at_ "more") (.ok other_0)) (.ok []))))) (.ok []))) (.ok [])))
def m_Grade_rshift : List D → Res D
  | [self_0, other_0] => b_Grade_rshift self_0 other_0
  | _ => .bad
theorem hn_Grade_rshift : ∀ ds : List D, ds.length ≠ 2 → m_Grade_rshift ds = .bad := by
  intro ds h
  unfold m_Grade_rshift
  split
  · exact absurd rfl h
  · rfl
theorem ok_Grade_rshift {g : FP} {a : Adr} (S : Txt g a) : FnOk g.P g.w g.K g.mg g.base (L2.CX g.P g.w) 7 a.f_Grade_rshift a.fd_Grade_rshift ["self", "other"] (pureSp (mkT g a) 2 m_Grade_rshift) := by
  refine fn_pure rfl S.Grade_rshift_R sc_Grade_rshift fun cdv A outer s H E C ds hl => ?_
  match ds, hl with
  | [self_0, other_0], _ =>
    show PBX _ _ _ _ _ [some (.val self_0), some (.val other_0), none, none, none] (b_Grade_rshift self_0 other_0) _ _ _
    unfold b_Grade_rshift
    exact (pb_asg 2 C.nd rfl (.inl rfl) (px_callB (call_max2 C.calm) cd_max (by rfl) S.n_max (by decide +kernel) (pax_cons (px_callB call_len cd_len (by rfl) S.n_len PySem.boot_len (pax_cons (px_fld C.kk S.kt (px_v 0 rfl rfl (.inr (.inl rfl)) (by decide) (by decide)) rfl) pax_nil)) (pax_cons (px_callB call_len cd_len (by rfl) S.n_len PySem.boot_len (pax_cons (px_fld C.kk S.kt (px_v 1 rfl rfl (.inr (.inl rfl)) (by decide) (by decide)) rfl) pax_nil)) pax_nil))) rfl (.inl rfl) (fun size_0 => nrm [some (.val self_0), some (.val other_0), some (.val size_0), none, none] (pb_asgLc 3 (lcx_map (own := [("number", 4)]) (pix_range1 (by rfl) S.n_range (pax_cons (px_v 2 rfl rfl (.inl rfl) (by decide) (by decide)) pax_nil)) (fun _ _ _ _ _ => pgx_name 4 C.nd rfl (.inl rfl) (.inr rfl)) (by decide) (fun _ => ⟨_, rfl⟩) (fun _ _ _ _ _ number_0 => nrmX [some (.val self_0), some (.val other_0), some (.val size_0), none, some (.val number_0)] (px_call (Ctx.blk C) (ok_led S) hn_led (by decide) (by rfl) S.h_led S.led_F.kp S.led_b .nil (fun _ => .nil) (pax_cons (px_fld (Ctx.blk C).kk S.kt (px_v (x := "other") 1 rfl rfl (.inr (.inl rfl)) (by decide) (by decide)) rfl) (pax_cons (px_fld (Ctx.blk C).kk S.kt (px_v (x := "other") 1 rfl rfl (.inr (.inl rfl)) (by decide) (by decide)) rfl) (pax_cons (px_call (Ctx.blk C) (ok_led S) hn_led (by decide) (by rfl) S.h_led S.led_F.kp S.led_b .nil (fun _ => .nil) (pax_cons (px_fld (Ctx.blk C).kk S.kt (px_v (x := "self") 0 rfl rfl (.inr (.inl rfl)) (by decide) (by decide)) rfl) (pax_cons (px_fld (Ctx.blk C).kk S.kt (px_v (x := "self") 0 rfl rfl (.inr (.inl rfl)) (by decide) (by decide)) rfl) (pax_cons (px_v (x := "number") 4 rfl rfl (.inl rfl) (by decide) (by decide)) pax_nil)))) pax_nil)))))) C.calm C.nd rfl rfl (sw_true rfl rfl rfl (by decide +kernel)) (blkOk_by (N := ["self", "other", "size", "table", "number"]) (sc := defScope s_Grade_rshift) (by decide +kernel)) (fun _ => rfl) (fun table_0 => nrm [some (.val self_0), some (.val other_0), some (.val size_0), some (.val table_0), none] (pb_retD (fun _ => rfl) (px_makeN C S.mk_Grade rfl (ok_Grade_init S) hn_Grade_init (by decide) (by rfl) S.h_Grade S.Grade_init_b .nil (fun _ => .nil) (pax_cons (px_v 3 rfl rfl (.inl rfl) (by decide) (by decide)) (pax_cons (px_call C (ok_total_of S) hn_total_of (by decide) (by rfl) S.h_total_of S.total_of_F.kp S.total_of_b .nil (fun _ => .nil) (pax_cons (PXO.px (pxo_lst (pax_cons (px_fld C.kk S.kt (px_v 0 rfl rfl (.inr (.inl rfl)) (by decide) (by decide)) rfl) (pax_cons (px_fld C.kk S.kt (px_v 1 rfl rfl (.inr (.inl rfl)) (by decide) (by decide)) rfl) pax_nil)))) pax_nil)) pax_nil))))))))
def b_is_name (text_0 : D) : Res D := iteR (orB (notB (truR (op1 (isiD "str") (.ok text_0)))) (notB (blR (chnR leD leD (.ok (.int 1)) (callO lenD (consR (.ok text_0) (.ok []))) (.ok (.int 12)))))) (.ok (.bl false)) (iteR (blR (op2 notInD2 (op2 ixD (.ok text_0) (.ok (.int 0))) (.ok (.str "abcdefghijklmnopqrstuvwxyz")))) (.ok (.bl false)) (Res.bind (itemsR (.ok text_0)) fun ds => Res.bind (forG id (fun (s_0 : Unit) (character_0 : D) => iteR (andB (blR (op2 notInD2 (.ok character_0) (.ok (.str "abcdefghijklmnopqrstuvwxyz")))) (blR (op2 notInD2 (.ok character_0) (.ok (.str "0123456789"))))) (Res.bind (.ok (.bl false)) fun d => .ok (.rt d)) (.ok (.nx ()))) ds ()) (lpK (fun d => .ok d) fun s_0 => .ok (.bl true))))
def m_is_name : List D → Res D
  | [text_0] => b_is_name text_0
  | _ => .bad
theorem hn_is_name : ∀ ds : List D, ds.length ≠ 1 → m_is_name ds = .bad := by
  intro ds h
  unfold m_is_name
  split
  · exact absurd rfl h
  · rfl
theorem ok_is_name {g : FP} {a : Adr} (S : Txt g a) : FnOk g.P g.w g.K g.mg g.base (L2.CX g.P g.w) 1 a.f_is_name a.fd_is_name ["text"] (pureSp (mkT g a) 1 m_is_name) := by
  refine fn_pure rfl S.is_name_R sc_is_name fun cdv A outer s H E C ds hl => ?_
  match ds, hl with
  | [text_0], _ =>
    show PBX _ _ _ _ _ [some (.val text_0), none] (b_is_name text_0) _ _ _
    unfold b_is_name
    exact (pb_if_x0 (PWX.pt (pwx_or (ptx_not (ptx_tru C.kk (px_isi C.kk S.kt (by simp) (by rfl) S.n_isinstance (by rfl) S.n_str (by decide +kernel) (by decide) (by decide) (px_v 0 rfl rfl (.inl rfl) (by decide) (by decide))) (fun _ => rfl))) (pwx_or1 (ptx_not (ptx_chain op_le od_le op_le od_le px_int (px_callB call_len cd_len (by rfl) S.n_len PySem.boot_len (pax_cons (px_v 0 rfl rfl (.inl rfl) (by decide) (by decide)) pax_nil)) (px_glob (v := .int 12) (by rfl) S.k_MOST_CHARACTERS ⟨_, rfl⟩ (fun _ => .int _) (by decide)) rfl))))) (pb_retD (fun _ => rfl) px_bl) (pb_if_x0 (ptx_cmp (op_notInAll2 (Px.Room.units65 C.room)) od_notIn2 (px_ix ix_seq od_ix (px_v 0 rfl rfl (.inl rfl) (by decide) (by decide)) px_int (fun _ _ => rfl)) (px_glob (v := .str "abcdefghijklmnopqrstuvwxyz") (by rfl) S.k_LETTERS ⟨_, rfl⟩ (fun _ => .str _) (by decide)) rfl) (pb_retD (fun _ => rfl) px_bl) (pb_for (e1 := (fun (s_0 : Unit) => ([some (.val text_0), none] : Env'))) (s0 := ()) (r := (fun d => .ok d)) C.po C.calm (pix_seq C.kk (px_v 0 rfl rfl (.inl rfl) (by decide) (by decide))) (pgx_name 1 C.nd rfl (.inl rfl) (.inl rfl)) (by simp [subE]) (fun s_0 character_0 => nrm [some (.val text_0), some (.val character_0)] (pb_if_x0 (PWX.pt (pwx_and (ptx_cmp (op_notInAll2 (Px.Room.units65 C.room)) od_notIn2 (px_v 1 rfl rfl (.inl rfl) (by decide) (by decide)) (px_glob (v := .str "abcdefghijklmnopqrstuvwxyz") (by rfl) S.k_LETTERS ⟨_, rfl⟩ (fun _ => .str _) (by decide)) rfl) (pwx_and1 (ptx_cmp (op_notInAll2 (Px.Room.units65 C.room)) od_notIn2 (px_v 1 rfl rfl (.inl rfl) (by decide) (by decide)) (px_glob (v := .str "0123456789") (by rfl) S.k_DIGITS ⟨_, rfl⟩ (fun _ => .str _) (by decide)) rfl)))) (pb_ret (r := Fl.rt) (fun _ => rfl) px_bl) (pb_nilS (s := ()) rfl (by simp [subE])))) (fun d => .inr ⟨_, rfl, rfl⟩) (fun s_0 => nrm [some (.val text_0), none] (pb_retD (fun _ => rfl) px_bl)) (fun _ => rfl))))
def b_Book_init (grades_0 : D) : Res (List D) := Res.bind (.ok ([], [])) fun table_0 => Res.bind (itemsR (.ok grades_0)) fun ds => Res.bind (forR (fun (s_0 : DP) (d_0 : D) => seq2K (fun (name_0 : D) (grade_0 : D) => iteR (notB (truR (callR m_is_name [] (consR (.ok name_0) (.ok []))))) .bad (iteR (noErr (blR (op2 inD2 (.ok name_0) (.ok (.dic s_0.1 s_0.2))))) .bad (setDR s_0 (.ok grade_0) (.ok name_0) fun table_1 => .ok table_1))) d_0) ds table_0) fun s_0 => Res.bind (callO tupleD (consR (callO sortD (consR (.ok (.dic s_0.1 s_0.2)) (.ok []))) (.ok []))) fun names_0 => Res.bind (.ok (.dic s_0.1 s_0.2)) fun grades_1 => .ok [names_0, grades_1]
def m_Book_init : List D → Res (List D)
  | [grades_0] => b_Book_init grades_0
  | _ => .bad
def i_Book_init (ds : List D) : Res (List D) := chkL 2 (m_Book_init ds)
theorem hn_Book_init : ∀ ds : List D, ds.length + 1 ≠ 2 → i_Book_init ds = .bad := by
  intro ds h
  unfold i_Book_init m_Book_init
  split
  · exact absurd rfl h
  · rfl
theorem ok_Book_init {g : FP} {a : Adr} (S : Txt g a) : FnOk g.P g.w g.K g.mg g.base (L2.CX g.P g.w) 2 a.f_Book_init a.fd_Book_init ["self", "grades"] (initSp (mkT g a) 2 1 i_Book_init) := by
  refine fn_init (T := mkT g a) (m := m_Book_init) rfl S.Book_init_R sc_Book_init fun cdv A outer s H E C xself ds hl => ?_
  match ds, hl with
  | [grades_0], _ =>
    show PBX _ _ _ _ _ [some (.ins xself 1 []), some (.val grades_0), none, none, none] (b_Book_init grades_0) _ _ _
    unfold b_Book_init
    exact (pb_asgD 2 C.nd rfl (.inl rfl) pxd_empty rfl (.inl rfl) (fun table_0 => nrm [some (.ins xself 1 []), some (.val grades_0), some (.dio table_0.1 table_0.2), none, none] (pb_forS (e1 := (fun (s_0 : DP) => ([some (.ins xself 1 []), some (.val grades_0), some (.dio s_0.1 s_0.2), none, none] : Env'))) (s0 := table_0) C.po C.calm (pix_seq C.kk (px_v 1 rfl rfl (.inl rfl) (by decide) (by decide))) (pgx_seq [3, 4] C.kk C.calm (pgs_cons (pg_name (i := 3) C.nd rfl (.inl rfl)) (pgs_cons (pg_name (i := 4) C.nd rfl (.inl rfl)) pgs_nil)) rfl rfl) (by simp [subE]) (fun s_0 d_0 => seqCase2 (fun name_0 grade_0 => nrm [some (.ins xself 1 []), some (.val grades_0), some (.dio s_0.1 s_0.2), some (.val name_0), some (.val grade_0)] (pb_if_x0 (ptx_not (ptx_tru C.kk (px_call C (ok_is_name S) hn_is_name (by decide) (by rfl) S.h_is_name S.is_name_F.kp S.is_name_b .nil (fun _ => .nil) (pax_cons (px_v 3 rfl rfl (.inl rfl) (by decide) (by decide)) pax_nil)) (fun _ => rfl))) pb_bad (pb_if_x0 (ptx_bord 2 rfl (nrmT [some (.ins xself 1 []), some (.val grades_0), some (.val (.dic s_0.1 s_0.2)), some (.val name_0), some (.val grade_0)] (ptx_cmp (op_inAll2 (Px.Room.units65 C.room)) od_in2 (px_v 3 rfl rfl (.inl rfl) (by decide) (by decide)) (px_v 2 rfl rfl (.inl rfl) (by decide) (by decide)) rfl))) pb_bad (pb_dput 2 (p := s_0) (Px.Room.units1 C.room) rfl (pv 2 rfl (.inl rfl)) (px_v 4 rfl rfl (.inl rfl) (by decide) (by decide)) (px_v 3 rfl rfl (.inl rfl) (by decide) (by decide)) rfl (fun table_1 => nrm [some (.ins xself 1 []), some (.val grades_0), some (.dio table_1.1 table_1.2), some (.val name_0), some (.val grade_0)] (pb_nilS (s := table_1) rfl (by simp [subE])))))))) (fun s_0 => nrm [some (.ins xself 1 []), some (.val grades_0), some (.dio s_0.1 s_0.2), none, none] (pb_frzd 2 rfl (nrm [some (.ins xself 1 []), some (.val grades_0), some (.val (.dic s_0.1 s_0.2)), none, none] (pb_self 0 C.kk S.kt rfl rfl rfl (by simp) (px_callTy call_tuple_of cd_tuple (by rfl) S.n_tuple (by decide +kernel) (pax_cons (px_callB (call_sortAll C.calm) cd_sort (by rfl) S.n_sorted (by decide +kernel) (pax_cons (px_v 2 rfl rfl (.inl rfl) (by decide) (by decide)) pax_nil)) pax_nil)) (fun _ h => ps_fld (pv 0 rfl (.inl rfl)) h rfl) (fun names_0 => nrm [some (.ins xself 1 [names_0]), some (.val grades_0), some (.val (.dic s_0.1 s_0.2)), none, none] (pb_self 0 C.kk S.kt rfl rfl rfl (by simp) (px_v 2 rfl rfl (.inl rfl) (by decide) (by decide)) (fun _ h => ps_fld (pv 0 rfl (.inl rfl)) h rfl) (fun grades_1 => nrm [some (.ins xself 1 [names_0, grades_1]), some (.val grades_0), some (.val (.dic s_0.1 s_0.2)), none, none] (pb_nilS (s := [names_0, grades_1]) rfl (by simp [subE, insE, List.replicate]))))))))) (fun _ => rfl))))
def b__law_unlike (made_0 due_0 : D) : Res D := Res.bind (lstV (dispR (consR (op1 (fldD at_ "table") (.ok made_0)) (consR (lstV (callOo listO (consR (op1 (fldD at_ "table") (.ok made_0)) (.ok [])))) (consR (tupR (consR (op1 (fldD at_ "table") (.ok made_0)) (consR (op1 (fldD at_ "more") (.ok made_0)) (.ok [])))) (consR (lstV (dispR (consR (lstV (callOo listO (consR (op1 (fldD at_ "table") (.ok made_0)) (.ok [])))) (consR (op1 (fldD at_ "more") (.ok made_0)) (.ok []))))) (.ok []))))))) fun things_0 => Res.bind (op2 addD (.ok things_0) (lstV (dispR (consR (lstV (callOo listO (consR (op2 ixD (.ok due_0) (.ok (.int 0))) (.ok [])))) (consR (lstV (dispR (consR (lstV (callOo listO (consR (op2 ixD (.ok due_0) (.ok (.int 0))) (.ok [])))) (consR (op2 ixD (.ok due_0) (.ok (.int 1))) (.ok []))))) (consR (op1 (fldD at_ "more") (.ok made_0)) (consR (.ok .non) (consR (.ok (.int 0)) (consR (.ok (.bl true)) (consR (.ok (.bl false)) (consR (.ok (.str "")) (consR (.ok (.str "grade")) (consR (tupR (.ok [])) (consR (lstV (dispR (.ok []))) (.ok []))))))))))))))) fun things_1 => Res.bind (op2 addD (.ok things_1) (lstV (dispR (consR (makeR 1 i_Book_init [] (consR (lstV (dispR (consR (tupR (consR (.ok (.str "a")) (consR (.ok made_0) (.ok [])))) (.ok [])))) (.ok []))) (consR (makeR 1 i_Book_init [.tup []] (.ok [])) (.ok [])))))) fun things_2 => Res.bind (itemsR (.ok things_2)) fun ds => Res.bind (forG id (fun (s_0 : Unit) (thing_0 : D) => iteR (notB (truR (callR m__law_told_equal [] (consR (.ok made_0) (consR (.ok thing_0) (consR (.ok (.bl false)) (.ok []))))))) (Res.bind (.ok (.bl false)) fun d => .ok (.rt d)) (.ok (.nx ()))) ds ()) (lpK (fun d => .ok d) fun s_0 => .ok (.bl true))
def m__law_unlike : List D → Res D
  | [made_0, due_0] => b__law_unlike made_0 due_0
  | _ => .bad
theorem hn__law_unlike : ∀ ds : List D, ds.length ≠ 2 → m__law_unlike ds = .bad := by
  intro ds h
  unfold m__law_unlike
  split
  · exact absurd rfl h
  · rfl
theorem ok__law_unlike {g : FP} {a : Adr} (S : Txt g a) : FnOk g.P g.w g.K g.mg g.base (L2.CX g.P g.w) 4 a.f__law_unlike a.fd__law_unlike ["made", "due"] (pureSp (mkT g a) 2 m__law_unlike) := by
  refine fn_pure rfl S._law_unlike_R sc__law_unlike fun cdv A outer s H E C ds hl => ?_
  match ds, hl with
  | [made_0, due_0], _ =>
    show PBX _ _ _ _ _ [some (.val made_0), some (.val due_0), none, none] (b__law_unlike made_0 due_0) _ _ _
    unfold b__law_unlike
    exact (pb_asg 2 C.nd rfl (.inl rfl) (PXO.px (pxo_lst (pax_cons (px_fld C.kk S.kt (px_v 0 rfl rfl (.inl rfl) (by decide) (by decide)) rfl) (pax_cons (PXO.px (pxo_list C.kk (by rfl) S.n_list (pax_cons (px_fld C.kk S.kt (px_v 0 rfl rfl (.inl rfl) (by decide) (by decide)) rfl) pax_nil))) (pax_cons (px_tup (pax_cons (px_fld C.kk S.kt (px_v 0 rfl rfl (.inl rfl) (by decide) (by decide)) rfl) (pax_cons (px_fld C.kk S.kt (px_v 0 rfl rfl (.inl rfl) (by decide) (by decide)) rfl) pax_nil))) (pax_cons (PXO.px (pxo_lst (pax_cons (PXO.px (pxo_list C.kk (by rfl) S.n_list (pax_cons (px_fld C.kk S.kt (px_v 0 rfl rfl (.inl rfl) (by decide) (by decide)) rfl) pax_nil))) (pax_cons (px_fld C.kk S.kt (px_v 0 rfl rfl (.inl rfl) (by decide) (by decide)) rfl) pax_nil)))) pax_nil)))))) rfl (.inl rfl) (fun things_0 => nrm [some (.val made_0), some (.val due_0), some (.val things_0), none] (pb_asg 2 C.nd rfl (.inl rfl) (px_op op_addAll od_add (px_v 2 rfl rfl (.inl rfl) (by decide) (by decide)) (PXO.px (pxo_lst (pax_cons (PXO.px (pxo_list C.kk (by rfl) S.n_list (pax_cons (px_ix ix_seq od_ix (px_v 1 rfl rfl (.inl rfl) (by decide) (by decide)) px_int (fun _ _ => rfl)) pax_nil))) (pax_cons (PXO.px (pxo_lst (pax_cons (PXO.px (pxo_list C.kk (by rfl) S.n_list (pax_cons (px_ix ix_seq od_ix (px_v 1 rfl rfl (.inl rfl) (by decide) (by decide)) px_int (fun _ _ => rfl)) pax_nil))) (pax_cons (px_ix ix_seq od_ix (px_v 1 rfl rfl (.inl rfl) (by decide) (by decide)) px_int (fun _ _ => rfl)) pax_nil)))) (pax_cons (px_fld C.kk S.kt (px_v 0 rfl rfl (.inl rfl) (by decide) (by decide)) rfl) (pax_cons px_non (pax_cons px_int (pax_cons px_bl (pax_cons px_bl (pax_cons px_str (pax_cons px_str (pax_cons (px_tup pax_nil) (pax_cons (PXO.px (pxo_lst pax_nil)) pax_nil)))))))))))))) rfl (.inl rfl) (fun things_1 => nrm [some (.val made_0), some (.val due_0), some (.val things_1), none] (pb_asg 2 C.nd rfl (.inl rfl) (px_op op_addAll od_add (px_v 2 rfl rfl (.inl rfl) (by decide) (by decide)) (PXO.px (pxo_lst (pax_cons (px_makeN C S.mk_Book rfl (ok_Book_init S) hn_Book_init (by decide) (by rfl) S.h_Book S.Book_init_b .nil (fun _ => .nil) (pax_cons (PXO.px (pxo_lst (pax_cons (px_tup (pax_cons px_str (pax_cons (px_v 0 rfl rfl (.inl rfl) (by decide) (by decide)) pax_nil))) pax_nil))) pax_nil)) (pax_cons (px_make0 C S.mk_Book rfl (ok_Book_init S) hn_Book_init (by decide) (by rfl) S.h_Book S.Book_init_b1 S.Book_init_d1 (S.Book_init_r1)) pax_nil))))) rfl (.inl rfl) (fun things_2 => nrm [some (.val made_0), some (.val due_0), some (.val things_2), none] (pb_for (e1 := (fun (s_0 : Unit) => ([some (.val made_0), some (.val due_0), some (.val things_2), none] : Env'))) (s0 := ()) (r := (fun d => .ok d)) C.po C.calm (pix_seq C.kk (px_v 2 rfl rfl (.inl rfl) (by decide) (by decide))) (pgx_name 3 C.nd rfl (.inl rfl) (.inl rfl)) (by simp [subE]) (fun s_0 thing_0 => nrm [some (.val made_0), some (.val due_0), some (.val things_2), some (.val thing_0)] (pb_if_x0 (ptx_not (ptx_tru C.kk (px_call C (ok__law_told_equal S) hn__law_told_equal (by decide) (by rfl) S.h__law_told_equal S._law_told_equal_F.kp S._law_told_equal_b .nil (fun _ => .nil) (pax_cons (px_v 0 rfl rfl (.inl rfl) (by decide) (by decide)) (pax_cons (px_v 3 rfl rfl (.inl rfl) (by decide) (by decide)) (pax_cons px_bl pax_nil)))) (fun _ => rfl))) (pb_ret (r := Fl.rt) (fun _ => rfl) px_bl) (pb_nilS (s := ()) rfl (by simp [subE])))) (fun d => .inr ⟨_, rfl, rfl⟩) (fun s_0 => nrm [some (.val made_0), some (.val due_0), some (.val things_2), none] (pb_retD (fun _ => rfl) px_bl)) (fun _ => rfl))))))))
def b_law (script_0 : D) : Res D := Res.bind (callR m__law_digits [] (consR (callR m__law_cell [] (consR (.ok script_0) (consR (.ok (.int 0)) (.ok [])))) (consR (lstV (dispR (consR (.ok (.int 4)) (consR (.ok (.int 3)) (consR (op2 powD (.ok (.int 10)) (.ok (.int 20))) (.ok [])))))) (.ok [])))) fun shape_0 => Res.bind (callR m__law_grade [] (consR (callR m__law_cell [] (consR (.ok script_0) (consR (.ok (.int 1)) (.ok [])))) (.ok []))) fun base_0 => Res.bind (callR m__law_longer [] (consR (.ok base_0) (consR (callO minD (consR (.ok (.int 30)) (consR (op2 addD (callO lenD (consR (op2 ixD (.ok base_0) (.ok (.int 0))) (.ok []))) (op2 ixD (lstV (dispR (consR (.ok (.int 1)) (consR (.ok (.int 2)) (consR (.ok (.int 9)) (consR (.ok (.int 30)) (.ok []))))))) (op2 ixD (.ok shape_0) (.ok (.int 0))))) (.ok [])))) (.ok [])))) fun longer_0 => Res.bind (lstV (dispR (consR (.ok base_0) (consR (.ok longer_0) (consR (lstV (dispR (consR (callR m__law_least_entries [] (consR (.ok base_0) (.ok []))) (consR (op2 ixD (.ok base_0) (.ok (.int 1))) (.ok []))))) (consR (callR m__law_nudged [] (consR (.ok base_0) (consR (callR m__law_cell [] (consR (.ok script_0) (consR (.ok (.int 2)) (.ok [])))) (.ok [])))) (.ok []))))))) fun forms_0 => Res.bind (op2 addD (.ok forms_0) (lstV (dispR (consR (callR m__law_nudged [] (consR (.ok longer_0) (consR (callR m__law_cell [] (consR (.ok script_0) (consR (.ok (.int 3)) (.ok [])))) (.ok [])))) (consR (callR m__law_other_gain [] (consR (.ok longer_0) (consR (callR m__law_cell [] (consR (.ok script_0) (consR (.ok (.int 4)) (.ok [])))) (.ok [])))) (.ok [])))))) fun forms_1 => Res.bind (op2 addD (.ok forms_1) (lstV (dispR (consR (callR m__law_further [] (consR (.ok base_0) (.ok []))) (consR (callR m__law_cut [] (consR (.ok longer_0) (consR (op2 ixD (.ok shape_0) (.ok (.int 1))) (.ok [])))) (consR (callR m__law_grade [] (consR (callR m__law_cell [] (consR (.ok script_0) (consR (.ok (.int 5)) (.ok [])))) (.ok []))) (consR (.ok base_0) (.ok [])))))))) fun forms_2 => Res.bind (lstV (mapL (fun form_0 => makeR 0 i_Grade_init [] (consR (lstV (callOo listO (consR (op2 ixD (.ok form_0) (.ok (.int 0))) (.ok [])))) (consR (op2 ixD (.ok form_0) (.ok (.int 1))) (.ok [])))) (itemsR (.ok forms_2)))) fun made_0 => Res.bind (callOo rng1 (consR (callO lenD (consR (.ok forms_2) (.ok []))) (.ok []))) fun ds => Res.bind (forG id (fun (s_0 : Unit) (k_0 : D) => iteR (notB (truR (callR m__law_tells [] (consR (op2 ixD (.ok made_0) (.ok k_0)) (consR (op2 ixD (.ok forms_2) (.ok k_0)) (consR (callR m__law_worths [] (consR (op2 ixD (.ok forms_2) (.ok k_0)) (consR (op2 ixD (.ok shape_0) (.ok (.int 2))) (.ok [])))) (.ok []))))))) (Res.bind (.ok (.bl false)) fun d => .ok (.rt d)) (.ok (.nx ()))) ds ()) (lpK (fun d => .ok d) fun s_0 => Res.bind (callOo rng1 (consR (callO lenD (consR (.ok forms_2) (.ok []))) (.ok []))) fun ds => Res.bind (forG id (fun (s_1 : Unit) (k_1 : D) => Res.bind (callOo rng2 (consR (.ok k_1) (consR (callO lenD (consR (.ok forms_2) (.ok []))) (.ok [])))) fun ds => Res.bind (forG id (fun (s_2 : Unit) (j_0 : D) => iteR (notB (truR (callR m__law_told_equal [] (consR (op2 ixD (.ok made_0) (.ok k_1)) (consR (op2 ixD (.ok made_0) (.ok j_0)) (consR (callR m__law_same_function [] (consR (op2 ixD (.ok forms_2) (.ok k_1)) (consR (op2 ixD (.ok forms_2) (.ok j_0)) (.ok [])))) (.ok []))))))) (Res.bind (.ok (.bl false)) fun d => .ok (.rt d)) (.ok (.nx ()))) ds ()) (lpK (fun d => (.ok (.rt d) : Res (Fl Unit Unit))) fun s_2 => .ok (.nx ()))) ds ()) (lpK (fun d => .ok d) fun s_1 => Res.bind (itemsR (lstV (dispR (consR (own2R 0 m_Grade_rshift (op2 ixD (.ok made_0) (.ok (.int 0))) (makeR 0 i_Grade_init [.tup [], .int 0] (.ok []))) (consR (own2R 0 m_Grade_rshift (makeR 0 i_Grade_init [] (consR (lstV (dispR (.ok []))) (consR (.ok (.int 0)) (.ok [])))) (op2 ixD (.ok made_0) (.ok (.int 1)))) (consR (own2R 0 m_Grade_or (op2 ixD (.ok made_0) (.ok (.int 1))) (op2 ixD (.ok made_0) (.ok (.int 9)))) (consR (own2R 0 m_Grade_or (op2 ixD (.ok made_0) (.ok (.int 2))) (makeR 0 i_Grade_init [] (consR (tupR (.ok [])) (consR (.ok .non) (.ok []))))) (.ok [])))))))) fun ds => Res.bind (forG id (fun (s_3 : Unit) (other_0 : D) => iteR (orB (notB (truR (callR m__law_tells [] (consR (.ok other_0) (consR (.ok base_0) (consR (callR m__law_worths [] (consR (.ok base_0) (consR (op2 ixD (.ok shape_0) (.ok (.int 2))) (.ok [])))) (.ok []))))))) (notB (truR (callR m__law_told_equal [] (consR (.ok other_0) (consR (op2 ixD (.ok made_0) (.ok (.int 0))) (consR (.ok (.bl true)) (.ok [])))))))) (Res.bind (.ok (.bl false)) fun d => .ok (.rt d)) (.ok (.nx ()))) ds ()) (lpK (fun d => .ok d) fun s_3 => iteR (orB (notB (truR (callR m__law_unlike [] (consR (op2 ixD (.ok made_0) (.ok (.int 0))) (consR (.ok base_0) (.ok [])))))) (notB (truR (callR m__law_unlike [] (consR (op2 ixD (.ok made_0) (.ok (.int 8))) (consR (op2 ixD (.ok forms_2) (.ok (.int 8))) (.ok []))))))) (.ok (.bl false)) (Res.bind (callOo rng1 (consR (callO lenD (consR (.ok forms_2) (.ok []))) (.ok []))) fun ds => Res.bind (forG id (fun (s_4 : Unit) (k_2 : D) => iteR (notB (truR (callR m__law_tells [] (consR (op2 ixD (.ok made_0) (.ok k_2)) (consR (op2 ixD (.ok forms_2) (.ok k_2)) (consR (lstV (dispR (consR (.ok (.int 0)) (consR (op2 ixD (.ok shape_0) (.ok (.int 2))) (consR (.ok .non) (.ok [])))))) (.ok []))))))) (Res.bind (.ok (.bl false)) fun d => .ok (.rt d)) (.ok (.nx ()))) ds ()) (lpK (fun d => .ok d) fun s_4 => .ok (.bl true))))))
def m_law : List D → Res D
  | [script_0] => b_law script_0
  | _ => .bad
theorem hn_law : ∀ ds : List D, ds.length ≠ 1 → m_law ds = .bad := by
  intro ds h
  unfold m_law
  split
  · exact absurd rfl h
  · rfl
theorem ok_law {g : FP} {a : Adr} (S : Txt g a) : FnOk g.P g.w g.K g.mg g.base (L2.CX g.P g.w) 8 a.f_law a.fd_law ["script"] (pureSp (mkT g a) 1 m_law) := by
  refine fn_pure rfl S.law_R sc_law fun cdv A outer s H E C ds hl => ?_
  match ds, hl with
  | [script_0], _ =>
    show PBX _ _ _ _ _ [some (.val script_0), none, none, none, none, none, none, none, none, none] (b_law script_0) _ _ _
    unfold b_law
    exact (pb_asg 1 C.nd rfl (.inl rfl) (px_call C (ok__law_digits S) hn__law_digits (by decide) (by rfl) S.h__law_digits S._law_digits_F.kp S._law_digits_b .nil (fun _ => .nil) (pax_cons (px_call C (ok__law_cell S) hn__law_cell (by decide) (by rfl) S.h__law_cell S._law_cell_F.kp S._law_cell_b .nil (fun _ => .nil) (pax_cons (px_v 0 rfl rfl (.inl rfl) (by decide) (by decide)) (pax_cons px_int pax_nil))) (pax_cons (PXO.px (pxo_lst (pax_cons px_int (pax_cons px_int (pax_cons (px_op op_pow od_pow px_int px_int) pax_nil))))) pax_nil))) rfl (.inl rfl) (fun shape_0 => nrm [some (.val script_0), some (.val shape_0), none, none, none, none, none, none, none, none] (pb_asg 2 C.nd rfl (.inl rfl) (px_call C (ok__law_grade S) hn__law_grade (by decide) (by rfl) S.h__law_grade S._law_grade_F.kp S._law_grade_b .nil (fun _ => .nil) (pax_cons (px_call C (ok__law_cell S) hn__law_cell (by decide) (by rfl) S.h__law_cell S._law_cell_F.kp S._law_cell_b .nil (fun _ => .nil) (pax_cons (px_v 0 rfl rfl (.inl rfl) (by decide) (by decide)) (pax_cons px_int pax_nil))) pax_nil)) rfl (.inl rfl) (fun base_0 => nrm [some (.val script_0), some (.val shape_0), some (.val base_0), none, none, none, none, none, none, none] (pb_asg 3 C.nd rfl (.inl rfl) (px_call C (ok__law_longer S) hn__law_longer (by decide) (by rfl) S.h__law_longer S._law_longer_F.kp S._law_longer_b .nil (fun _ => .nil) (pax_cons (px_v 2 rfl rfl (.inl rfl) (by decide) (by decide)) (pax_cons (px_callB (call_min2 C.calm) cd_min (by rfl) S.n_min (by decide +kernel) (pax_cons px_int (pax_cons (px_op op_addAll od_add (px_callB call_len cd_len (by rfl) S.n_len PySem.boot_len (pax_cons (px_ix ix_seq od_ix (px_v 2 rfl rfl (.inl rfl) (by decide) (by decide)) px_int (fun _ _ => rfl)) pax_nil)) (px_ix ix_seq od_ix (PXO.px (pxo_lst (pax_cons px_int (pax_cons px_int (pax_cons px_int (pax_cons px_int pax_nil)))))) (px_ix ix_seq od_ix (px_v 1 rfl rfl (.inl rfl) (by decide) (by decide)) px_int (fun _ _ => rfl)) (fun _ _ => rfl))) pax_nil))) pax_nil))) rfl (.inl rfl) (fun longer_0 => nrm [some (.val script_0), some (.val shape_0), some (.val base_0), some (.val longer_0), none, none, none, none, none, none] (pb_asg 4 C.nd rfl (.inl rfl) (PXO.px (pxo_lst (pax_cons (px_v 2 rfl rfl (.inl rfl) (by decide) (by decide)) (pax_cons (px_v 3 rfl rfl (.inl rfl) (by decide) (by decide)) (pax_cons (PXO.px (pxo_lst (pax_cons (px_call C (ok__law_least_entries S) hn__law_least_entries (by decide) (by rfl) S.h__law_least_entries S._law_least_entries_F.kp S._law_least_entries_b .nil (fun _ => .nil) (pax_cons (px_v 2 rfl rfl (.inl rfl) (by decide) (by decide)) pax_nil)) (pax_cons (px_ix ix_seq od_ix (px_v 2 rfl rfl (.inl rfl) (by decide) (by decide)) px_int (fun _ _ => rfl)) pax_nil)))) (pax_cons (px_call C (ok__law_nudged S) hn__law_nudged (by decide) (by rfl) S.h__law_nudged S._law_nudged_F.kp S._law_nudged_b .nil (fun _ => .nil) (pax_cons (px_v 2 rfl rfl (.inl rfl) (by decide) (by decide)) (pax_cons (px_call C (ok__law_cell S) hn__law_cell (by decide) (by rfl) S.h__law_cell S._law_cell_F.kp S._law_cell_b .nil (fun _ => .nil) (pax_cons (px_v 0 rfl rfl (.inl rfl) (by decide) (by decide)) (pax_cons px_int pax_nil))) pax_nil))) pax_nil)))))) rfl (.inl rfl) (fun forms_0 => nrm [some (.val script_0), some (.val shape_0), some (.val base_0), some (.val longer_0), some (.val forms_0), none, none, none, none, none] (pb_asg 4 C.nd rfl (.inl rfl) (px_op op_addAll od_add (px_v 4 rfl rfl (.inl rfl) (by decide) (by decide)) (PXO.px (pxo_lst (pax_cons (px_call C (ok__law_nudged S) hn__law_nudged (by decide) (by rfl) S.h__law_nudged S._law_nudged_F.kp S._law_nudged_b .nil (fun _ => .nil) (pax_cons (px_v 3 rfl rfl (.inl rfl) (by decide) (by decide)) (pax_cons (px_call C (ok__law_cell S) hn__law_cell (by decide) (by rfl) S.h__law_cell S._law_cell_F.kp S._law_cell_b .nil (fun _ => .nil) (pax_cons (px_v 0 rfl rfl (.inl rfl) (by decide) (by decide)) (pax_cons px_int pax_nil))) pax_nil))) (pax_cons (px_call C (ok__law_other_gain S) hn__law_other_gain (by decide) (by rfl) S.h__law_other_gain S._law_other_gain_F.kp S._law_other_gain_b .nil (fun _ => .nil) (pax_cons (px_v 3 rfl rfl (.inl rfl) (by decide) (by decide)) (pax_cons (px_call C (ok__law_cell S) hn__law_cell (by decide) (by rfl) S.h__law_cell S._law_cell_F.kp S._law_cell_b .nil (fun _ => .nil) (pax_cons (px_v 0 rfl rfl (.inl rfl) (by decide) (by decide)) (pax_cons px_int pax_nil))) pax_nil))) pax_nil))))) rfl (.inl rfl) (fun forms_1 => nrm [some (.val script_0), some (.val shape_0), some (.val base_0), some (.val longer_0), some (.val forms_1), none, none, none, none, none] (pb_asg 4 C.nd rfl (.inl rfl) (px_op op_addAll od_add (px_v 4 rfl rfl (.inl rfl) (by decide) (by decide)) (PXO.px (pxo_lst (pax_cons (px_call C (ok__law_further S) hn__law_further (by decide) (by rfl) S.h__law_further S._law_further_F.kp S._law_further_b .nil (fun _ => .nil) (pax_cons (px_v 2 rfl rfl (.inl rfl) (by decide) (by decide)) pax_nil)) (pax_cons (px_call C (ok__law_cut S) hn__law_cut (by decide) (by rfl) S.h__law_cut S._law_cut_F.kp S._law_cut_b .nil (fun _ => .nil) (pax_cons (px_v 3 rfl rfl (.inl rfl) (by decide) (by decide)) (pax_cons (px_ix ix_seq od_ix (px_v 1 rfl rfl (.inl rfl) (by decide) (by decide)) px_int (fun _ _ => rfl)) pax_nil))) (pax_cons (px_call C (ok__law_grade S) hn__law_grade (by decide) (by rfl) S.h__law_grade S._law_grade_F.kp S._law_grade_b .nil (fun _ => .nil) (pax_cons (px_call C (ok__law_cell S) hn__law_cell (by decide) (by rfl) S.h__law_cell S._law_cell_F.kp S._law_cell_b .nil (fun _ => .nil) (pax_cons (px_v 0 rfl rfl (.inl rfl) (by decide) (by decide)) (pax_cons px_int pax_nil))) pax_nil)) (pax_cons (px_v 2 rfl rfl (.inl rfl) (by decide) (by decide)) pax_nil))))))) rfl (.inl rfl) (fun forms_2 => nrm [some (.val script_0), some (.val shape_0), some (.val base_0), some (.val longer_0), some (.val forms_2), none, none, none, none, none] (pb_asgLc 5 (lcx_map (own := [("form", 9)]) (pix_seq C.kk (px_v 4 rfl rfl (.inl rfl) (by decide) (by decide))) (fun _ _ _ _ _ => pgx_name 9 C.nd rfl (.inl rfl) (.inr rfl)) (by decide) (fun _ => ⟨_, rfl⟩) (fun _ _ _ _ _ form_0 => nrmX [some (.val script_0), some (.val shape_0), some (.val base_0), some (.val longer_0), some (.val forms_2), none, none, none, none, some (.val form_0)] (px_makeN (Ctx.blk C) S.mk_Grade rfl (ok_Grade_init S) hn_Grade_init (by decide) (by rfl) S.h_Grade S.Grade_init_b .nil (fun _ => .nil) (pax_cons (PXO.px (pxo_list (Ctx.blk C).kk (by rfl) S.n_list (pax_cons (px_ix ix_seq od_ix (px_v (x := "form") 9 rfl rfl (.inl rfl) (by decide) (by decide)) px_int (fun _ _ => rfl)) pax_nil))) (pax_cons (px_ix ix_seq od_ix (px_v (x := "form") 9 rfl rfl (.inl rfl) (by decide) (by decide)) px_int (fun _ _ => rfl)) pax_nil))))) C.calm C.nd rfl rfl (sw_true rfl rfl rfl (by decide +kernel)) (blkOk_by (N := ["script", "shape", "base", "longer", "forms", "made", "k", "j", "other", "form"]) (sc := defScope s_law) (by decide +kernel)) (fun _ => rfl) (fun made_0 => nrm [some (.val script_0), some (.val shape_0), some (.val base_0), some (.val longer_0), some (.val forms_2), some (.val made_0), none, none, none, none] (pb_for (e1 := (fun (s_0 : Unit) => ([some (.val script_0), some (.val shape_0), some (.val base_0), some (.val longer_0), some (.val forms_2), some (.val made_0), none, none, none, none] : Env'))) (s0 := ()) (r := (fun d => .ok d)) C.po C.calm (pix_range1 (by rfl) S.n_range (pax_cons (px_callB call_len cd_len (by rfl) S.n_len PySem.boot_len (pax_cons (px_v 4 rfl rfl (.inl rfl) (by decide) (by decide)) pax_nil)) pax_nil)) (pgx_name 6 C.nd rfl (.inl rfl) (.inl rfl)) (by simp [subE]) (fun s_0 k_0 => nrm [some (.val script_0), some (.val shape_0), some (.val base_0), some (.val longer_0), some (.val forms_2), some (.val made_0), some (.val k_0), none, none, none] (pb_if_x0 (ptx_not (ptx_tru C.kk (px_call C (ok__law_tells S) hn__law_tells (by decide) (by rfl) S.h__law_tells S._law_tells_F.kp S._law_tells_b .nil (fun _ => .nil) (pax_cons (px_ix ix_seq od_ix (px_v 5 rfl rfl (.inl rfl) (by decide) (by decide)) (px_v 6 rfl rfl (.inl rfl) (by decide) (by decide)) (fun _ _ => rfl)) (pax_cons (px_ix ix_seq od_ix (px_v 4 rfl rfl (.inl rfl) (by decide) (by decide)) (px_v 6 rfl rfl (.inl rfl) (by decide) (by decide)) (fun _ _ => rfl)) (pax_cons (px_call C (ok__law_worths S) hn__law_worths (by decide) (by rfl) S.h__law_worths S._law_worths_F.kp S._law_worths_b .nil (fun _ => .nil) (pax_cons (px_ix ix_seq od_ix (px_v 4 rfl rfl (.inl rfl) (by decide) (by decide)) (px_v 6 rfl rfl (.inl rfl) (by decide) (by decide)) (fun _ _ => rfl)) (pax_cons (px_ix ix_seq od_ix (px_v 1 rfl rfl (.inl rfl) (by decide) (by decide)) px_int (fun _ _ => rfl)) pax_nil))) pax_nil)))) (fun _ => rfl))) (pb_ret (r := Fl.rt) (fun _ => rfl) px_bl) (pb_nilS (s := ()) rfl (by simp [subE])))) (fun d => .inr ⟨_, rfl, rfl⟩) (fun s_0 => nrm [some (.val script_0), some (.val shape_0), some (.val base_0), some (.val longer_0), some (.val forms_2), some (.val made_0), none, none, none, none] (pb_for (e1 := (fun (s_1 : Unit) => ([some (.val script_0), some (.val shape_0), some (.val base_0), some (.val longer_0), some (.val forms_2), some (.val made_0), none, none, none, none] : Env'))) (s0 := ()) (r := (fun d => .ok d)) C.po C.calm (pix_range1 (by rfl) S.n_range (pax_cons (px_callB call_len cd_len (by rfl) S.n_len PySem.boot_len (pax_cons (px_v 4 rfl rfl (.inl rfl) (by decide) (by decide)) pax_nil)) pax_nil)) (pgx_name 6 C.nd rfl (.inl rfl) (.inl rfl)) (by simp [subE]) (fun s_1 k_1 => nrm [some (.val script_0), some (.val shape_0), some (.val base_0), some (.val longer_0), some (.val forms_2), some (.val made_0), some (.val k_1), none, none, none] (pb_for (e1 := (fun (s_2 : Unit) => ([some (.val script_0), some (.val shape_0), some (.val base_0), some (.val longer_0), some (.val forms_2), some (.val made_0), some (.val k_1), none, none, none] : Env'))) (s0 := ()) (r := (fun d => (.ok (.rt d) : Res (Fl Unit Unit)))) C.po C.calm (pix_range2 (by rfl) S.n_range (pax_cons (px_v 6 rfl rfl (.inl rfl) (by decide) (by decide)) (pax_cons (px_callB call_len cd_len (by rfl) S.n_len PySem.boot_len (pax_cons (px_v 4 rfl rfl (.inl rfl) (by decide) (by decide)) pax_nil)) pax_nil))) (pgx_name 7 C.nd rfl (.inl rfl) (.inl rfl)) (by simp [subE]) (fun s_2 j_0 => nrm [some (.val script_0), some (.val shape_0), some (.val base_0), some (.val longer_0), some (.val forms_2), some (.val made_0), some (.val k_1), some (.val j_0), none, none] (pb_if_x0 (ptx_not (ptx_tru C.kk (px_call C (ok__law_told_equal S) hn__law_told_equal (by decide) (by rfl) S.h__law_told_equal S._law_told_equal_F.kp S._law_told_equal_b .nil (fun _ => .nil) (pax_cons (px_ix ix_seq od_ix (px_v 5 rfl rfl (.inl rfl) (by decide) (by decide)) (px_v 6 rfl rfl (.inl rfl) (by decide) (by decide)) (fun _ _ => rfl)) (pax_cons (px_ix ix_seq od_ix (px_v 5 rfl rfl (.inl rfl) (by decide) (by decide)) (px_v 7 rfl rfl (.inl rfl) (by decide) (by decide)) (fun _ _ => rfl)) (pax_cons (px_call C (ok__law_same_function S) hn__law_same_function (by decide) (by rfl) S.h__law_same_function S._law_same_function_F.kp S._law_same_function_b .nil (fun _ => .nil) (pax_cons (px_ix ix_seq od_ix (px_v 4 rfl rfl (.inl rfl) (by decide) (by decide)) (px_v 6 rfl rfl (.inl rfl) (by decide) (by decide)) (fun _ _ => rfl)) (pax_cons (px_ix ix_seq od_ix (px_v 4 rfl rfl (.inl rfl) (by decide) (by decide)) (px_v 7 rfl rfl (.inl rfl) (by decide) (by decide)) (fun _ _ => rfl)) pax_nil))) pax_nil)))) (fun _ => rfl))) (pb_ret (r := Fl.rt) (fun _ => rfl) px_bl) (pb_nilS (s := ()) rfl (by simp [subE])))) (fun d => .inr ⟨_, rfl, rfl⟩) (fun s_2 => nrm [some (.val script_0), some (.val shape_0), some (.val base_0), some (.val longer_0), some (.val forms_2), some (.val made_0), some (.val k_1), none, none, none] (pb_nilS (s := ()) rfl (by simp [subE]))) (fun _ => rfl))) (fun d => .inr ⟨_, rfl, rfl⟩) (fun s_1 => nrm [some (.val script_0), some (.val shape_0), some (.val base_0), some (.val longer_0), some (.val forms_2), some (.val made_0), none, none, none, none] (pb_for (e1 := (fun (s_3 : Unit) => ([some (.val script_0), some (.val shape_0), some (.val base_0), some (.val longer_0), some (.val forms_2), some (.val made_0), none, none, none, none] : Env'))) (s0 := ()) (r := (fun d => .ok d)) C.po C.calm (pix_seq C.kk (PXO.px (pxo_lst (pax_cons (px_own2 (op := .RShift) C S.sf_Grade S.Grade_rshift_at S.Grade_rshift_fn rfl (ok_Grade_rshift S) hn_Grade_rshift (by decide) S.Grade_rshift_b (px_ix ix_seq od_ix (px_v 5 rfl rfl (.inl rfl) (by decide) (by decide)) px_int (fun _ _ => rfl)) (px_make0 C S.mk_Grade rfl (ok_Grade_init S) hn_Grade_init (by decide) (by rfl) S.h_Grade S.Grade_init_b1 S.Grade_init_d1 (S.Grade_init_r1))) (pax_cons (px_own2 (op := .RShift) C S.sf_Grade S.Grade_rshift_at S.Grade_rshift_fn rfl (ok_Grade_rshift S) hn_Grade_rshift (by decide) S.Grade_rshift_b (px_makeN C S.mk_Grade rfl (ok_Grade_init S) hn_Grade_init (by decide) (by rfl) S.h_Grade S.Grade_init_b .nil (fun _ => .nil) (pax_cons (PXO.px (pxo_lst pax_nil)) (pax_cons px_int pax_nil))) (px_ix ix_seq od_ix (px_v 5 rfl rfl (.inl rfl) (by decide) (by decide)) px_int (fun _ _ => rfl))) (pax_cons (px_own2 (op := .BitOr) C S.sf_Grade S.Grade_or_at S.Grade_or_fn rfl (ok_Grade_or S) hn_Grade_or (by decide) S.Grade_or_b (px_ix ix_seq od_ix (px_v 5 rfl rfl (.inl rfl) (by decide) (by decide)) px_int (fun _ _ => rfl)) (px_ix ix_seq od_ix (px_v 5 rfl rfl (.inl rfl) (by decide) (by decide)) px_int (fun _ _ => rfl))) (pax_cons (px_own2 (op := .BitOr) C S.sf_Grade S.Grade_or_at S.Grade_or_fn rfl (ok_Grade_or S) hn_Grade_or (by decide) S.Grade_or_b (px_ix ix_seq od_ix (px_v 5 rfl rfl (.inl rfl) (by decide) (by decide)) px_int (fun _ _ => rfl)) (px_makeN C S.mk_Grade rfl (ok_Grade_init S) hn_Grade_init (by decide) (by rfl) S.h_Grade S.Grade_init_b .nil (fun _ => .nil) (pax_cons (px_tup pax_nil) (pax_cons px_non pax_nil)))) pax_nil))))))) (pgx_name 8 C.nd rfl (.inl rfl) (.inl rfl)) (by simp [subE]) (fun s_3 other_0 => nrm [some (.val script_0), some (.val shape_0), some (.val base_0), some (.val longer_0), some (.val forms_2), some (.val made_0), none, none, some (.val other_0), none] (pb_if_x0 (PWX.pt (pwx_or (ptx_not (ptx_tru C.kk (px_call C (ok__law_tells S) hn__law_tells (by decide) (by rfl) S.h__law_tells S._law_tells_F.kp S._law_tells_b .nil (fun _ => .nil) (pax_cons (px_v 8 rfl rfl (.inl rfl) (by decide) (by decide)) (pax_cons (px_v 2 rfl rfl (.inl rfl) (by decide) (by decide)) (pax_cons (px_call C (ok__law_worths S) hn__law_worths (by decide) (by rfl) S.h__law_worths S._law_worths_F.kp S._law_worths_b .nil (fun _ => .nil) (pax_cons (px_v 2 rfl rfl (.inl rfl) (by decide) (by decide)) (pax_cons (px_ix ix_seq od_ix (px_v 1 rfl rfl (.inl rfl) (by decide) (by decide)) px_int (fun _ _ => rfl)) pax_nil))) pax_nil)))) (fun _ => rfl))) (pwx_or1 (ptx_not (ptx_tru C.kk (px_call C (ok__law_told_equal S) hn__law_told_equal (by decide) (by rfl) S.h__law_told_equal S._law_told_equal_F.kp S._law_told_equal_b .nil (fun _ => .nil) (pax_cons (px_v 8 rfl rfl (.inl rfl) (by decide) (by decide)) (pax_cons (px_ix ix_seq od_ix (px_v 5 rfl rfl (.inl rfl) (by decide) (by decide)) px_int (fun _ _ => rfl)) (pax_cons px_bl pax_nil)))) (fun _ => rfl)))))) (pb_ret (r := Fl.rt) (fun _ => rfl) px_bl) (pb_nilS (s := ()) rfl (by simp [subE])))) (fun d => .inr ⟨_, rfl, rfl⟩) (fun s_3 => nrm [some (.val script_0), some (.val shape_0), some (.val base_0), some (.val longer_0), some (.val forms_2), some (.val made_0), none, none, none, none] (pb_if_x0 (PWX.pt (pwx_or (ptx_not (ptx_tru C.kk (px_call C (ok__law_unlike S) hn__law_unlike (by decide) (by rfl) S.h__law_unlike S._law_unlike_F.kp S._law_unlike_b .nil (fun _ => .nil) (pax_cons (px_ix ix_seq od_ix (px_v 5 rfl rfl (.inl rfl) (by decide) (by decide)) px_int (fun _ _ => rfl)) (pax_cons (px_v 2 rfl rfl (.inl rfl) (by decide) (by decide)) pax_nil))) (fun _ => rfl))) (pwx_or1 (ptx_not (ptx_tru C.kk (px_call C (ok__law_unlike S) hn__law_unlike (by decide) (by rfl) S.h__law_unlike S._law_unlike_F.kp S._law_unlike_b .nil (fun _ => .nil) (pax_cons (px_ix ix_seq od_ix (px_v 5 rfl rfl (.inl rfl) (by decide) (by decide)) px_int (fun _ _ => rfl)) (pax_cons (px_ix ix_seq od_ix (px_v 4 rfl rfl (.inl rfl) (by decide) (by decide)) px_int (fun _ _ => rfl)) pax_nil))) (fun _ => rfl)))))) (pb_retD (fun _ => rfl) px_bl) (pb_for (e1 := (fun (s_4 : Unit) => ([some (.val script_0), some (.val shape_0), some (.val base_0), some (.val longer_0), some (.val forms_2), some (.val made_0), none, none, none, none] : Env'))) (s0 := ()) (r := (fun d => .ok d)) C.po C.calm (pix_range1 (by rfl) S.n_range (pax_cons (px_callB call_len cd_len (by rfl) S.n_len PySem.boot_len (pax_cons (px_v 4 rfl rfl (.inl rfl) (by decide) (by decide)) pax_nil)) pax_nil)) (pgx_name 6 C.nd rfl (.inl rfl) (.inl rfl)) (by simp [subE]) (fun s_4 k_2 => nrm [some (.val script_0), some (.val shape_0), some (.val base_0), some (.val longer_0), some (.val forms_2), some (.val made_0), some (.val k_2), none, none, none] (pb_if_x0 (ptx_not (ptx_tru C.kk (px_call C (ok__law_tells S) hn__law_tells (by decide) (by rfl) S.h__law_tells S._law_tells_F.kp S._law_tells_b .nil (fun _ => .nil) (pax_cons (px_ix ix_seq od_ix (px_v 5 rfl rfl (.inl rfl) (by decide) (by decide)) (px_v 6 rfl rfl (.inl rfl) (by decide) (by decide)) (fun _ _ => rfl)) (pax_cons (px_ix ix_seq od_ix (px_v 4 rfl rfl (.inl rfl) (by decide) (by decide)) (px_v 6 rfl rfl (.inl rfl) (by decide) (by decide)) (fun _ _ => rfl)) (pax_cons (PXO.px (pxo_lst (pax_cons px_int (pax_cons (px_ix ix_seq od_ix (px_v 1 rfl rfl (.inl rfl) (by decide) (by decide)) px_int (fun _ _ => rfl)) (pax_cons px_non pax_nil))))) pax_nil)))) (fun _ => rfl))) (pb_ret (r := Fl.rt) (fun _ => rfl) px_bl) (pb_nilS (s := ()) rfl (by simp [subE])))) (fun d => .inr ⟨_, rfl, rfl⟩) (fun s_4 => nrm [some (.val script_0), some (.val shape_0), some (.val base_0), some (.val longer_0), some (.val forms_2), some (.val made_0), none, none, none, none] (pb_retD (fun _ => rfl) px_bl)) (fun _ => rfl)))) (fun _ => rfl))) (fun _ => rfl))) (fun _ => rfl))))))))))))))))
end K01

namespace K01
open PySem PySem.Spec PyProof.Rows L2 Px
/-! ### what a table and "more" lead to -/
abbrev Wt := Option Int
def bey (n : Int) (m : Wt) : Wt := m.map (n + ·)
def ledF (t : List Wt) (m : Wt) : Wt → Wt
  | none => none
  | some i => if i < t.length then (t[i.toNat]?).join else bey i m
def nn (w : Wt) : Prop := ∀ i, w = some i → 0 ≤ i
/-- a table as a list or a tuple -/
def sq (b : Bool) (l : List D) : D := if b then .tup l else .lst l
theorem len_sq (b : Bool) (l : List D) : lenD [sq b l] = some (.int l.length) := by cases b <;> rfl
theorem ix_sq {b : Bool} {l : List D} {n : Nat} {d : D} (h : l[n]? = some d) : ixD (sq b l) (.int n) = some d := by
  cases b
  · exact ix_lst h
  · exact ix_tup' h
theorem beyond_ok (n : Int) (m : Wt) : m_beyond [.int n, W m] = .ok (W (bey n m)) := by
  cases m <;> simp [m_beyond, b_beyond, bey]
theorem led_ok {b : Bool} {t : List Wt} {m w : Wt} (hw : nn w) : m_led [sq b (t.map W), W m, W w] = .ok (W (ledF t m w)) := by
  cases w with
  | none => simp [m_led, b_led, ledF]
  | some i =>
    have h0 : 0 ≤ i := hw i rfl
    by_cases h : i < t.length
    · obtain ⟨n, rfl⟩ := Int.eq_ofNat_of_zero_le h0
      have hn : n < t.length := by omega
      have hg : (t.map W)[n]? = some (W t[n]) := by rw [List.getElem?_map, List.getElem?_eq_getElem hn]; rfl
      simp [m_led, b_led, ledF, len_sq, h, ix_sq hg, hn]
    · simp [m_led, b_led, ledF, len_sq, h, beyond_ok]
theorem whole_W (w : Wt) : m_is_whole [W w] = .ok (.bl w.isSome) := by cases w <;> simp [m_is_whole, b_is_whole, isiD, isBT]
theorem number_W (w : Wt) (h : nn w) : m_is_number [W w] = .ok (.bl w.isSome) := by
  cases w with
  | none => simp [m_is_number, b_is_number, show m_is_whole [D.non] = .ok (.bl false) from whole_W none]
  | some i =>
    have := h i rfl
    simp [m_is_number, b_is_number, show m_is_whole [D.int i] = .ok (.bl true) from whole_W (some i), this]
theorem worth_W (w : Wt) (h : nn w) : m_is_worth [W w] = .ok (.bl true) := by
  cases w with
  | none => simp [m_is_worth, b_is_worth]
  | some i => simp [m_is_worth, b_is_worth, show m_is_number [D.int i] = .ok (.bl true) from number_W (some i) h]
/-- strictly before -/
def bef : Wt → Wt → Bool
  | none, _ => false
  | some _, none => true
  | some i, some j => decide (i < j)
theorem rank_W (w : Wt) : m_rank_of [W w] = .ok (match w with | none => .tup [.int 1, .int 0] | some i => .tup [.int 0, .int i]) := by
  cases w <;> simp [m_rank_of, b_rank_of, tupR_ok]
theorem before_W (a b : Wt) : m_is_before [W a, W b] = .ok (.bl (bef a b)) := by
  simp only [m_is_before, b_is_before, consR_ok, callR_ok, List.append_nil, rank_W]
  cases a <;> cases b <;> simp [ltD, toInts, HT.lexLt, bef]
  omega
def leW (a b : Wt) : Prop := bef b a = false
theorem leW_refl (a : Wt) : leW a a := by cases a <;> simp [leW, bef]
theorem leW_trans {a b c : Wt} (h : leW a b) (h' : leW b c) : leW a c := by
  cases a <;> cases b <;> cases c <;> simp [leW, bef] at * <;> omega
theorem leW_none (a : Wt) : leW a none := by cases a <;> simp [leW, bef]
theorem leW_some {i j : Int} : leW (some i) (some j) ↔ i ≤ j := by simp [leW, bef]
theorem leW_of_none {a : Wt} (h : leW none a) : a = none := by cases a <;> simp [leW, bef] at *
theorem leW_antisymm {a b : Wt} (h : leW a b) (h' : leW b a) : a = b := by
  cases a <;> cases b <;> simp [leW, bef] at * <;> omega
/-- a table and "more" that make a grade -/
structure Good (t : List Wt) (m : Wt) : Prop where
  len : t.length ≤ 30
  pos : nn m
  ge : ∀ n : Nat, leW (some n) (ledF t m (some n))
  mono : ∀ n : Nat, leW (ledF t m (some n)) (ledF t m (some (n + 1 : Nat)))
theorem ledF_in {t : List Wt} {m : Wt} {n : Nat} (h : n < t.length) : ledF t m (some n) = t[n] := by
  have h' : (n : Int) < t.length := by omega
  simp [ledF, h', h]
theorem ledF_out {t : List Wt} {m : Wt} {n : Int} (h : (t.length : Int) ≤ n) : ledF t m (some n) = bey n m := by
  have h' : ¬ n < (t.length : Int) := by omega
  simp only [ledF, if_neg h']
theorem get_W {t : List Wt} {i : Nat} (hi : i < t.length) : (t.map W)[i]? = some (W t[i]) := by rw [List.getElem?_map, List.getElem?_eq_getElem hi]; rfl
theorem first_bad {b : Bool} {t : List Wt} {m : Wt} (g : Good t m) : m_first_bad_entry [sq b (t.map W)] = .ok .non := by
  refine To.eq ?_
  have hl := g.len
  refine To.bindE (a := (List.range t.length).map fun (i : Nat) => D.int (i : Int)) (by simp [len_sq, rng1_nat (show t.length ≤ 16777216 by omega)]) ?_
  refine To.lp (To.forG (fun _ _ => True) (fun _ => False) (fun _ => False) trivial fun i s d hd _ => ?_) (fun _ _ => To.ok rfl) (fun _ h => h.elim)
  obtain ⟨hi, rfl⟩ := range_get hd
  have hge := g.ge i
  rw [ledF_in hi] at hge
  have hnn : nn t[i] := fun j e => by rw [e] at hge; rw [leW_some] at hge; omega
  refine To.bindE (a := W t[i]) (by simp [ix_sq (get_W hi)]) ?_
  refine To.iteF ?_ (To.iteF ?_ (To.iteF ?_ (To.ok trivial)))
  · have h30 : ¬ (30 : Int) ≤ i := by omega
    simp [worth_W _ hnn, h30]
  · cases e : t[i] with
    | none => simp
    | some j =>
      rw [e, leW_some] at hge
      simp
      omega
  · cases i with
    | zero => simp
    | succ j =>
      have hj : j < t.length := by omega
      have hm := g.mono j
      rw [ledF_in hj, ledF_in hi] at hm
      have e1 : ((j + 1 : Nat) : Int) - 1 = (j : Int) := by omega
      have e2 : (0 : Int) < ((j + 1 : Nat) : Int) := by omega
      simp only [op2_ok, gtD_int, Res.ofO_some, blR_ok, decide_eq_true e2, andB_true, subD_int, e1, ix_sq (get_W hj), consR_ok, callR_ok, List.append_nil, before_W, truR_ok, truD_bl]
      rw [show bef t[j + 1] t[j] = false from hm]
/-! ### functions of grades -/
def addW : Wt → Wt → Wt
  | some a, some b => some (a + b)
  | _, _ => none
def apF (f : Nat → Wt) : Wt → Wt
  | none => none
  | some i => f i.toNat
structure GF (f : Nat → Wt) (m : Wt) (L : Nat) : Prop where
  pos : nn m
  ge : ∀ n : Nat, leW (some n) (f n)
  mono : ∀ n : Nat, leW (f n) (f (n + 1))
  out : ∀ n : Nat, L ≤ n → f n = bey n m
theorem GF.nn {f : Nat → Wt} {m : Wt} {L : Nat} (g : GF f m L) (n : Nat) : nn (f n) := fun j e => by
  have := g.ge n
  rw [e, leW_some] at this
  omega
theorem GF.mon {f : Nat → Wt} {m : Wt} {L : Nat} (g : GF f m L) {a b : Nat} (h : a ≤ b) : leW (f a) (f b) := by
  obtain ⟨d, rfl⟩ := Nat.exists_eq_add_of_le h
  induction d with
  | zero => exact leW_refl _
  | succ d ih => exact leW_trans (ih (Nat.le_add_right _ _)) (g.mono (a + d))
theorem Good.gf {t : List Wt} {m : Wt} (g : Good t m) : GF (fun n => ledF t m (some n)) m t.length :=
  ⟨g.pos, g.ge, fun n => by have := g.mono n; simpa using this, fun n h => ledF_out (by omega)⟩
theorem GF.id : GF (fun n => some (n : Int)) (some 0) 0 :=
  ⟨fun i e => by cases e; omega, fun n => leW_refl _, fun n => leW_some.mpr (by omega), fun n _ => by simp [bey]⟩
theorem GF.weak {f : Nat → Wt} {m : Wt} {L L' : Nat} (g : GF f m L) (h : L ≤ L') : GF f m L' := ⟨g.pos, g.ge, g.mono, fun n hn => g.out n (Nat.le_trans h hn)⟩
theorem GF.comp {f g : Nat → Wt} {m k : Wt} {L M : Nat} (a : GF f m L) (b : GF g k M) : GF (fun n => apF g (f n)) (addW m k) (max L M) := by
  refine ⟨?_, fun n => ?_, fun n => ?_, fun n hn => ?_⟩
  · intro i e
    cases m <;> cases k <;> simp [addW] at e
    have h1 := a.pos _ rfl
    have h2 := b.pos _ rfl
    omega
  · have h1 := a.ge n
    cases e : f n with
    | none => exact leW_none _
    | some i =>
      rw [e, leW_some] at h1
      have h2 := b.ge i.toNat
      refine leW_trans (leW_some.mpr ?_) h2
      omega
  · have h1 := a.mono n
    have hn0 := a.nn n
    cases e : f n with
    | none => rw [e] at h1; rw [leW_of_none h1]; exact leW_none _
    | some i =>
      cases e2 : f (n + 1) with
      | none => exact leW_none _
      | some j =>
        rw [e, e2, leW_some] at h1
        exact b.mon (by omega)
  · have e1 := a.out n (by omega)
    rw [e1]
    cases m with
    | none => simp [bey, apF, addW]
    | some x =>
      have hx := a.pos x rfl
      have e2 := b.out ((n : Int) + x).toNat (by omega)
      simp only [bey, Option.map_some, apF]
      rw [e2]
      cases k with
      | none => rfl
      | some y => simp only [bey, Option.map_some, addW]; congr 1; omega
/-- the table of a function -/
theorem GF.tab {f : Nat → Wt} {m : Wt} {L : Nat} (g : GF f m L) (n : Nat) : ledF ((List.range L).map f) m (some n) = f n := by
  by_cases h : n < L
  · rw [ledF_in (by simpa using h)]
    simp
  · rw [ledF_out (by simp; omega), g.out n (by omega)]
theorem GF.good {f : Nat → Wt} {m : Wt} {L : Nat} (g : GF f m L) (h : L ≤ 30) : Good ((List.range L).map f) m :=
  ⟨by simpa using h, g.pos, fun n => by rw [g.tab]; exact g.ge n, fun n => by rw [g.tab, show ((n + 1 : Nat) : Int) = ((n + 1 : Nat) : Int) from rfl, g.tab]; exact g.mono n⟩
/-! ### the least form -/
def Lst (u : List Wt) (m : Wt) : Prop := ∀ j, j + 1 = u.length → u[j]? ≠ some (bey j m)
theorem lst_le {u v : List Wt} {m : Wt} (hu : Lst u m) (h : ∀ n : Nat, ledF u m (some n) = ledF v m (some n)) : u.length ≤ v.length := by
  rcases Nat.lt_or_ge v.length u.length with z | z
  · exfalso
    obtain ⟨j, hj⟩ : ∃ j, j + 1 = u.length := ⟨u.length - 1, by omega⟩
    refine hu j hj ?_
    have := h j
    rw [ledF_in (by omega), ledF_out (by omega)] at this
    rw [List.getElem?_eq_getElem (by omega), this]
  · exact z
theorem lst_uniq {u v : List Wt} {m : Wt} (hu : Lst u m) (hv : Lst v m) (h : ∀ n : Nat, ledF u m (some n) = ledF v m (some n)) : u = v := by
  have l1 := lst_le hu h
  have l2 := lst_le hv fun n => (h n).symm
  refine List.ext_getElem (by omega) fun i h1 h2 => ?_
  have := h i
  rw [ledF_in h1, ledF_in h2] at this
  exact this
theorem right_more {b : Bool} {t : List Wt} {m : Wt} (g : Good t m) : m_is_right_more [sq b (t.map W), W m] = .ok (.bl true) := by
  refine To.eq ?_
  refine To.iteF (by simp [worth_W m g.pos]) ?_
  cases m with
  | none => exact To.iteT (by simp) (To.ok rfl)
  | some x =>
    by_cases h : t.length = 0
    · exact To.iteT (by simp [len_sq, eqD_int, h]) (To.ok rfl)
    · refine To.iteF (by simp [len_sq, eqD_int]; intro z; exact h (by rw [z]; rfl)) ?_
      obtain ⟨j, hj⟩ : ∃ j, j + 1 = t.length := ⟨t.length - 1, by omega⟩
      have hm := g.mono j
      rw [ledF_in (by omega), ledF_out (by omega)] at hm
      have e1 : (t.length : Int) - 1 = j := by omega
      cases e : t[j] with
      | none => rw [e] at hm; have := leW_of_none hm; simp [bey] at this
      | some v =>
        rw [e] at hm
        simp only [bey, Option.map_some, leW_some] at hm
        have hg : (t.map W)[j]? = some (.int v) := by rw [get_W (by omega), e]; rfl
        refine To.bindE (a := .int v) (by simp [len_sq, e1, ix_sq hg]) ?_
        refine To.of (a := .bl true) ?_ rfl
        simp [len_sq]
        omega
theorem cutD_take (l : List D) (k : Nat) (h : k ≤ l.length) : Px.cutD l none (some (k : Int)) = l.take k := by
  unfold Px.cutD
  rw [HT.sIx_none, HT.sIx_nat]
  simp [Nat.min_eq_left h]
theorem cutD_drop (l : List D) (k : Nat) : Px.cutD l (some (k : Int)) none = l.drop k := by
  unfold Px.cutD
  rw [HT.sIx_none, HT.sIx_nat]
  rcases Nat.le_total k l.length with h | h
  · rw [Nat.min_eq_left h]
    exact List.take_of_length_le (by simp)
  · rw [Nat.min_eq_right h, List.drop_of_length_le (Nat.le_refl _), List.drop_of_length_le h]
    simp
theorem slice_lst_take (l : List D) (k : Nat) (h : k ≤ l.length) : sliceR (.ok (.lst l)) none (some (.ok (.int k))) = .ok (.lst (l.take k)) := by
  unfold sliceR
  simp only [Res.ok_bind, partR_none, partR_ok, sliceD, cutD_take l k h, Res.ofO_some]
theorem slice_lst_drop (l : List D) (k : Nat) : sliceR (.ok (.lst l)) (some (.ok (.int k))) none = .ok (.lst (l.drop k)) := by
  unfold sliceR
  simp only [Res.ok_bind, partR_none, partR_ok, sliceD, cutD_drop l k, Res.ofO_some]
theorem slice_tup_take (l : List D) (k : Nat) (h : k ≤ l.length) : sliceR (.ok (.tup l)) none (some (.ok (.int k))) = .ok (.tup (l.take k)) := by
  unfold sliceR
  simp only [Res.ok_bind, partR_none, partR_ok, sliceD, cutD_take l k h, Res.ofO_some]
theorem slice_sq_take (b : Bool) (l : List D) (k : Nat) (h : k ≤ l.length) : callO tupleD (consR (sliceR (.ok (sq b l)) none (some (.ok (.int k)))) (.ok [])) = .ok (.tup (l.take k)) := by
  cases b with
  | false => rw [show sq false l = .lst l from rfl, slice_lst_take l k h]; simp
  | true => rw [show sq true l = .tup l from rfl, slice_tup_take l k h]; simp
def toN : D → Nat
  | .int i => i.toNat
  | _ => 0
theorem least_ok {t : List Wt} {m : Wt} (b : Bool) (ht : t.length < 2 ^ 70) : To (m_least_table [sq b (t.map W), W m]) fun d => ∃ u : List Wt, d = .tup (u.map W) ∧ (∀ n : Nat, ledF u m (some n) = ledF t m (some n)) ∧ Lst u m ∧ u.length ≤ t.length := by
  show To (b_least_table (sq b (t.map W)) (W m)) _
  unfold b_least_table
  refine To.bindE (a := .int t.length) (by simp [len_sq]) ?_
  refine To.bind (To.whileR (fun s => ∃ k : Nat, s = .int k ∧ k ≤ t.length ∧ ∀ j, k ≤ j → j < t.length → t[j]? = some (bey j m)) toN ?_ fuel _ ⟨t.length, rfl, Nat.le_refl _, fun j h1 h2 => absurd h2 (by omega)⟩ ?_) ?_
  · rintro s ⟨k, rfl, hk, hj⟩
    cases k with
    | zero => exact ⟨false, by simp, fun z => by cases z⟩
    | succ k =>
      have e0 : (0 : Int) < ((k + 1 : Nat) : Int) := by omega
      have e1 : ((k + 1 : Nat) : Int) - 1 = k := by omega
      refine ⟨decide (t[k] = bey k m), ?_, fun hd => ?_⟩
      · simp only [op2_ok, gtD_int, Res.ofO_some, blR_ok, decide_eq_true e0, andB_true, subD_int, e1, ix_sq (get_W (t := t) (i := k) (by omega)), consR_ok, callR_ok, List.append_nil, List.cons_append, List.nil_append, beyond_ok, eqD_W]
      · refine To.of (a := .int k) (by simp only [op2_ok, subD_int, e1, Res.ofO_some, Res.ok_bind]) ⟨⟨k, rfl, by omega, fun j h1 h2 => ?_⟩, by simp [toN]⟩
        rcases Nat.lt_or_ge k j with z | z
        · exact hj j z h2
        · have : j = k := by omega
          subst this
          rw [List.getElem?_eq_getElem (by omega), of_decide_eq_true hd]
  · simp only [toN, Int.toNat_natCast]
    exact ht
  · rintro s ⟨⟨k, rfl, hk, hj⟩, hc⟩
    refine To.of (a := .tup ((t.take k).map W)) ?_ ⟨t.take k, rfl, fun n => ?_, fun j hjk => ?_, by simp; omega⟩
    · rw [slice_sq_take b _ _ (by simpa using hk), List.map_take]
    · rcases Nat.lt_or_ge n k with z | z
      · rw [ledF_in (by simp; omega), ledF_in (by omega)]
        simp
      · rw [ledF_out (by simp; omega)]
        rcases Nat.lt_or_ge n t.length with z2 | z2
        · rw [ledF_in z2]
          have := hj n z z2
          rw [List.getElem?_eq_getElem z2] at this
          exact (Option.some.inj this).symm
        · rw [ledF_out (by omega)]
    · have hl : (t.take k).length = k := by simp; omega
      rw [hl] at hjk
      subst hjk
      have e0 : (0 : Int) < ((j + 1 : Nat) : Int) := by omega
      have e1 : ((j + 1 : Nat) : Int) - 1 = j := by omega
      simp only [op2_ok, gtD_int, Res.ofO_some, blR_ok, decide_eq_true e0, andB_true, subD_int, e1, ix_sq (get_W (t := t) (i := j) (by omega)), consR_ok, callR_ok, List.append_nil, List.cons_append, List.nil_append, beyond_ok, eqD_W] at hc
      have hne := of_decide_eq_false (Res.ok.inj hc)
      rw [List.getElem?_take, if_pos (by omega), List.getElem?_eq_getElem (by omega)]
      exact fun z => hne (Option.some.inj z)
/-! ### grades as objects -/
def Gobj (u : List Wt) (m : Wt) : D := .obj 0 [.tup (u.map W), W m]
structure IsG (o : D) (f : Nat → Wt) (m : Wt) : Prop where
  ex : ∃ u, o = Gobj u m ∧ Lst u m ∧ u.length ≤ 30 ∧ ∀ n : Nat, ledF u m (some n) = f n
  gf : ∃ L, GF f m L
theorem IsG.uniq {o o' : D} {f : Nat → Wt} {m : Wt} (a : IsG o f m) (b : IsG o' f m) : o = o' := by
  obtain ⟨u, rfl, h1, _, h2⟩ := a.ex
  obtain ⟨v, rfl, h3, _, h4⟩ := b.ex
  rw [lst_uniq h1 h3 fun n => (h2 n).trans (h4 n).symm]
theorem IsG.congr {o : D} {f g : Nat → Wt} {m : Wt} (a : IsG o f m) (h : ∀ n, f n = g n) : IsG o g m := by
  have : f = g := funext h
  subst this
  exact a
theorem IsG.fl {u : List Wt} {m : Wt} {f : Nat → Wt} (h : ∀ n : Nat, ledF u m (some n) = f n) {w : Wt} (hw : nn w) : ledF u m w = apF f w := by
  cases w with
  | none => rfl
  | some i =>
    obtain ⟨n, rfl⟩ := Int.eq_ofNat_of_zero_le (hw i rfl)
    exact h n
theorem make_ok {t : List Wt} {m : Wt} (b : Bool) (g : Good t m) : To (makeR 0 i_Grade_init [] (.ok [sq b (t.map W), W m])) fun o => IsG o (fun n => ledF t m (some n)) m := by
  unfold makeR
  refine To.bindE rfl ?_
  have h : To (b_Grade_init (sq b (t.map W)) (W m)) fun l => ∃ u : List Wt, l = [.tup (u.map W), W m] ∧ (∀ n : Nat, ledF u m (some n) = ledF t m (some n)) ∧ Lst u m ∧ u.length ≤ t.length := by
    unfold b_Grade_init
    have fb := first_bad (b := b) g
    have rm := right_more (b := b) g
    refine To.bindE (a := .non) (by simpa using fb) ?_
    refine To.iteF (by simp) (To.iteF (by simp at rm ⊢; simp [rm]) ?_)
    obtain ⟨d, e, u, rfl, h1, h2, h3⟩ := least_ok (t := t) (m := m) b (by have := g.len; omega)
    refine To.bindE (a := .tup (u.map W)) (by simpa using e) ?_
    exact To.of rfl ⟨u, rfl, h1, h2, h3⟩
  obtain ⟨l, e, u, rfl, h1, h2, h3⟩ := h
  refine To.bindE (a := [.tup (u.map W), W m]) ?_ (To.ok ⟨⟨u, rfl, h2, Nat.le_trans h3 g.len, h1⟩, ⟨_, g.gf⟩⟩)
  show i_Grade_init [sq b (t.map W), W m] = _
  unfold i_Grade_init
  rw [show m_Grade_init [sq b (t.map W), W m] = b_Grade_init (sq b (t.map W)) (W m) from rfl, e]
  rfl
theorem fld_table (u : List Wt) (m : Wt) : fldD at_ "table" (Gobj u m) = some (.tup (u.map W)) := rfl
theorem fld_more (u : List Wt) (m : Wt) : fldD at_ "more" (Gobj u m) = some (W m) := rfl
theorem addW_total (a b : Wt) : m_total_of [.lst [W a, W b]] = .ok (W (addW a b)) := by
  cases a <;> cases b <;> simp [m_total_of, b_total_of, addW, forG, lpK]
theorem call_ok {o : D} {f : Nat → Wt} {m : Wt} (g : IsG o f m) {w : Wt} (hw : nn w) : m_Grade_call [o, W w] = .ok (W (apF f w)) := by
  obtain ⟨u, rfl, _, _, h⟩ := g.ex
  show b_Grade_call (Gobj u m) (W w) = _
  unfold b_Grade_call
  have := led_ok (b := true) (t := u) (m := m) hw
  simp only [sq, if_true] at this
  simp only [op1_ok, fld_table, fld_more, Res.ofO_some, consR_ok, callR_ok, List.append_nil, List.cons_append, List.nil_append, this, IsG.fl h hw]
theorem isG_out {u : List Wt} {m : Wt} {f : Nat → Wt} (h : ∀ n : Nat, ledF u m (some n) = f n) : ∀ n : Nat, u.length ≤ n → f n = bey n m := fun n hn => by rw [← h n, ledF_out (by omega)]
theorem shift_ok {o1 o2 : D} {f1 f2 : Nat → Wt} {m1 m2 : Wt} (g1 : IsG o1 f1 m1) (g2 : IsG o2 f2 m2) : To (m_Grade_rshift [o1, o2]) fun o => IsG o (fun n => apF f2 (f1 n)) (addW m1 m2) := by
  obtain ⟨u1, rfl, _, l1, h1⟩ := g1.ex
  obtain ⟨u2, rfl, _, l2, h2⟩ := g2.ex
  obtain ⟨L1, G1⟩ := g1.gf
  obtain ⟨L2, G2⟩ := g2.gf
  have G1' : GF f1 m1 u1.length := ⟨G1.pos, G1.ge, G1.mono, isG_out h1⟩
  have G2' : GF f2 m2 u2.length := ⟨G2.pos, G2.ge, G2.mono, isG_out h2⟩
  have G := G1'.comp G2'
  show To (b_Grade_rshift (Gobj u1 m1) (Gobj u2 m2)) _
  unfold b_Grade_rshift
  have hm : (if (u2.length : Int) > u1.length then (u2.length : Int) else u1.length) = ((max u1.length u2.length : Nat) : Int) := by
    split <;> omega
  refine To.bindE (a := .int ((max u1.length u2.length : Nat) : Int)) ?_ ?_
  · simp only [op1_ok, fld_table, Res.ofO_some, consR_ok, callO_ok, lenD_tup, List.length_map, maxD_int, hm]
  refine To.bindE (a := .lst (((List.range (max u1.length u2.length)).map fun n => apF f2 (f1 n)).map W)) ?_ ?_
  · have e : callOo rng1 (consR (.ok (.int ((max u1.length u2.length : Nat) : Int))) (.ok [])) = .ok ((List.range (max u1.length u2.length)).map fun (i : Nat) => D.int (i : Int)) := by
      rw [consR_ok, callOo_ok, rng1_nat (by omega), Res.ofO_some]
    rw [e, mapL_ok (h := fun n => W (apF f2 (f1 n))) (by simp; omega), List.map_map]
    · rfl
    · intro n _
      have e1 := led_ok (b := true) (t := u1) (m := m1) (w := some n) (fun i e => by cases e; omega)
      simp only [sq, if_true, W_some, h1] at e1
      have e2 := led_ok (b := true) (t := u2) (m := m2) (w := f1 n) (G1.nn n)
      simp only [sq, if_true, IsG.fl h2 (G1.nn n)] at e2
      simp only [op1_ok, fld_table, fld_more, Res.ofO_some, consR_ok, callR_ok, List.append_nil, List.cons_append, List.nil_append, e1, e2]
  have hl : ¬ False := fun z => z
  have e3 : callR m_total_of [] (consR (lstV (dispR (consR (op1 (fldD at_ "more") (.ok (Gobj u1 m1))) (consR (op1 (fldD at_ "more") (.ok (Gobj u2 m2))) (.ok []))))) (.ok [])) = .ok (W (addW m1 m2)) := by
    simp only [op1_ok, fld_more, Res.ofO_some, consR_ok, dispR_ok, List.length_cons, List.length_nil, lstV, Res.ok_bind]
    rw [if_pos (by omega)]
    simp only [Res.ok_bind, consR_ok, callR_ok, List.append_nil, addW_total]
  rw [e3]
  have gd := G.good (by omega)
  refine (make_ok false gd).mono fun o ho => ho.congr fun n => G.tab n
def pW : Wt → PyData
  | none => .none
  | some i => .int i
theorem toPs_W : ∀ u : List Wt, toPs (u.map W) = some (u.map pW)
  | [] => rfl
  | w :: u => by
    rw [List.map_cons]
    unfold toPs
    rw [toPs_W u]
    cases w <;> rfl
theorem shaped_tupW (u : List Wt) : SeqAt.shaped (.tuple (u.map pW)) = true := by
  have h1 : ∀ u : List Wt, PyData.canLayAll0 (u.map pW) = true := by
    intro u
    induction u with
    | nil => simp [PyData.canLayAll0]
    | cons w u ih => cases w <;> simp [PyData.canLayAll0, PyData.canLay0, pW, ih]
  have h2 : ∀ u : List Wt, PyData.depthAll (u.map pW) = 0 := by
    intro u
    induction u with
    | nil => simp [PyData.depthAll]
    | cons w u ih => cases w <;> simp [PyData.depthAll, PyData.depth, pW, ih]
  simp [SeqAt.shaped, PyData.canLay0, PyData.depth, h1, h2]
theorem eqvAll_W : ∀ u v : List Wt, PyData.eqvAll (u.map pW) (v.map pW) = decide (u = v)
  | [], [] => by simp [PyData.eqvAll]
  | [], w :: v => by simp [PyData.eqvAll]
  | w :: u, [] => by simp [PyData.eqvAll]
  | w :: u, x :: v => by
    rw [List.map_cons, List.map_cons]
    unfold PyData.eqvAll
    rw [eqvAll_W u v]
    cases w <;> cases x <;> simp [PyData.eqv, pW]
    rw [Bool.eq_iff_iff]
    simp
theorem eqD_tupW (u v : List Wt) : eqD (.tup (u.map W)) (.tup (v.map W)) = some (.bl (decide (u = v))) := by
  unfold eqD toP
  rw [toPs_W, toPs_W]
  simp only [Option.map_some, shaped_tupW, Bool.and_self, if_true]
  unfold PyData.eqv
  rw [eqvAll_W]
theorem eq_ok (u v : List Wt) (m k : Wt) : m_Grade_eq [Gobj u m, Gobj v k] = .ok (.bl (decide (u = v) && decide (m = k))) := by
  show b_Grade_eq (Gobj u m) (Gobj v k) = _
  unfold b_Grade_eq
  have e1 : isCD sub_ 0 (Gobj v k) = some (.bl true) := rfl
  simp only [op1_ok, op2_ok, fld_table, fld_more, Res.ofO_some, e1, andV_true, eqD_tupW, eqD_W]
  by_cases h : u = v
  · simp [h]
  · simp [h]
/-- the least number at which f stands -/
def LeastSt (f : Nat → Wt) (B : Nat) (s : Wt) : Prop := (s = none ∧ ∀ n : Nat, f n ≠ some (n : Int)) ∨ ∃ k : Nat, s = some (k : Int) ∧ f k = some (k : Int) ∧ (∀ j : Nat, j < k → f j ≠ some (j : Int)) ∧ k ≤ B
theorem lwhole_W (w : Wt) : m__law_whole [W w] = .ok (.bl w.isSome) := by cases w <;> simp [m__law_whole, b__law_whole, isiD, isBT]
theorem same_W (a b : Wt) : m__law_same_worth [W a, W b] = .ok (.bl (decide (a = b))) := by
  show b__law_same_worth (W a) (W b) = _
  unfold b__law_same_worth
  cases b with
  | none => cases a <;> simp
  | some j =>
    have h := lwhole_W a
    cases a with
    | none => simp at h; simp [h]
    | some i => simp at h; simp [h, eqD_int]
theorem same_tup (u v : List Wt) (hu : u.length ≤ 30) (hv : v.length ≤ 30) (e : u = v) : m__law_same_worths [.tup (u.map W), .lst (v.map W)] = .ok (.bl true) := by
  subst e
  refine To.eq ?_
  show To (b__law_same_worths (.tup (u.map W)) (.lst (u.map W))) _
  unfold b__law_same_worths
  refine To.iteF (by simp [isiD, isBT, neD_int]) ?_
  refine To.bindE (a := (List.range u.length).map fun (i : Nat) => D.int (i : Int)) ?_ ?_
  · simp only [consR_ok, callO_ok, lenD_lst, List.length_map, Res.ofO_some, callOo_ok, rng1_nat (show u.length ≤ 16777216 by omega)]
  refine To.lp (To.forG (fun _ _ => True) (fun _ => False) (fun _ => False) trivial fun i s d hd _ => ?_) (fun _ _ => To.ok rfl) (fun _ h => h.elim)
  obtain ⟨hi, rfl⟩ := range_get hd
  refine To.iteF ?_ (To.ok trivial)
  simp [ix_lst (get_W hi), ix_tup' (get_W hi), same_W]
/-! cells and digits -/
theorem mul_ok {i j a b : Int} {n k : Nat} (hi : 0 ≤ i) (hi' : i < a) (ha : a ≤ 2 ^ n) (hj : 0 ≤ j) (hj' : j < b) (hb : b ≤ 2 ^ k) (hn : 0 < n) (hk : 0 < k) (h : n + k ≤ 100000000) : repD (.int i) (.int j) = some (.int (i * j)) :=
  repD_int (by have := log2_of hi hi' ha hn; have := log2_of hj hj' hb hk; omega)
theorem digits_ok (c : Int) (ss : List Int) (hs : ∀ s ∈ ss, 0 < s ∧ s.natAbs.log2 < 9000) (hl : ss.length ≤ 100000) : ∃ row : List Int, m__law_digits [.int c, .lst (ss.map D.int)] = .ok (.lst (row.map D.int)) ∧ row.length = ss.length ∧ ∀ (k : Nat) (x s : Int), row[k]? = some x → ss[k]? = some s → 0 ≤ x ∧ x < s := by
  have main : To (b__law_digits (.int c) (.lst (ss.map D.int))) fun d => ∃ row : List Int, d = .lst (row.map D.int) ∧ row.length = ss.length ∧ ∀ (k : Nat) (x s : Int), row[k]? = some x → ss[k]? = some s → 0 ≤ x ∧ x < s := by
    unfold b__law_digits
    have p18 : powD (.int 10) (.int 18) = some (.int 1000000000000000000) := by rw [powD_int (by decide) (by decide) (by decide)]; rfl
    refine To.bindE (a := []) (by rw [dispR_ok]; rfl) ?_
    refine To.bindE (a := .int c) (by simp) ?_
    refine To.bindE (a := .int (c % 2147483629)) (by simp [modD_pos]) ?_
    refine To.bindE (a := .bl (decide (1000000000000000000 ≤ c))) (by simp [p18]) ?_
    refine To.bind (P := fun d => ∃ r : Int, d = .int r) ?_ ?_
    · refine To.ite (k := decide (1000000000000000000 ≤ c)) (by simp) (fun _ => ?_) (fun _ => To.ok ⟨c, rfl⟩)
      exact To.of (a := .int (c - 1000000000000000000)) (by simp [p18]) ⟨_, rfl⟩
    rintro d ⟨r, rfl⟩
    refine To.bindE (a := (List.range ss.length).map fun (i : Nat) => D.int (i : Int)) ?_ ?_
    · simp only [consR_ok, callO_ok, lenD_lst, List.length_map, Res.ofO_some, callOo_ok, rng1_nat (show ss.length ≤ 16777216 by omega)]
    refine To.bind (To.forR (fun i s => ∃ (row : List Int) (r seed : Int), s = (row.map D.int, .int r, .int seed) ∧ row.length = i ∧ (0 ≤ seed ∧ seed < 2147483647) ∧ ∀ (k : Nat) (x s : Int), row[k]? = some x → ss[k]? = some s → 0 ≤ x ∧ x < s) ⟨[], r, c % 2147483629, rfl, rfl, by omega, fun k x s h => by simp at h⟩ fun i s d hd hp => ?_) ?_
    · obtain ⟨hi, rfl⟩ := range_get hd
      obtain ⟨row, r, seed, rfl, hrow, ⟨h0, h1⟩, hall⟩ := hp
      obtain ⟨sp, sl⟩ := hs ss[i] (List.getElem_mem hi)
      have hg : (ss.map D.int)[i]? = some (.int ss[i]) := by rw [List.getElem?_map, List.getElem?_eq_getElem hi]; rfl
      have m1 : repD (.int seed) (.int 48271) = some (.int (seed * 48271)) := mul_ok (n := 31) (k := 16) h0 h1 (by decide) (by decide) (show (48271 : Int) < 48272 by decide) (by decide) (by decide) (by decide) (by decide)
      have m2 : repD (.int 974711) (.int i) = some (.int (974711 * i)) := mul_ok (n := 20) (k := 20) (by decide) (show (974711 : Int) < 974712 by decide) (by decide) (by omega) (show (i : Int) < 1000000 by omega) (by decide) (by decide) (by decide) (by decide)
      refine To.bindE (a := .int ((seed * 48271 + 974711 * i + 12345) % 2147483647)) ?_ ?_
      · simp only [op2_ok, m1, m2, Res.ofO_some, addD_int, consR_ok, callO_ok, intD_int, modD_pos (show (0 : Int) < 2147483647 by decide)]
      have hseed : 0 ≤ (seed * 48271 + 974711 * i + 12345) % 2147483647 ∧ (seed * 48271 + 974711 * i + 12345) % 2147483647 < 2147483647 := by omega
      generalize (seed * 48271 + 974711 * i + 12345) % 2147483647 = seed2 at hseed
      have more : ∀ (z : Int), 0 ≤ z → z < ss[i] → ∀ (k : Nat) (x s : Int), (row ++ [z])[k]? = some x → ss[k]? = some s → 0 ≤ x ∧ x < s := fun z z0 z1 k x s hx hs' => by
        rcases Nat.lt_or_ge k row.length with y | y
        · rw [List.getElem?_append_left y] at hx
          exact hall k x s hx hs'
        · rw [List.getElem?_append_right y] at hx
          cases e : k - row.length with
          | zero =>
            rw [e] at hx
            simp at hx
            have : k = i := by omega
            subst this
            rw [List.getElem?_eq_getElem hi] at hs'
            cases hs'
            subst hx
            exact ⟨z0, z1⟩
          | succ q => rw [e] at hx; simp at hx
      refine To.ite (k := decide (1000000000000000000 ≤ c) && decide (0 < r)) ?_ (fun _ => ?_) (fun _ => ?_)
      · by_cases hc : 1000000000000000000 ≤ c <;> simp [hc]
      · refine To.appR (P := fun d => d = .int (r % ss[i])) (by simp; omega) ?_ ?_
        · exact To.of (by simp only [op2_ok, consR_ok, callO_ok, intD_int, Res.ofO_some, ix_lst hg, modD_pos sp]) rfl
        rintro d rfl
        refine To.bindE (a := .int (r / ss[i])) (by simp only [op2_ok, consR_ok, callO_ok, intD_int, Res.ofO_some, ix_lst hg, divD_pos sp sl]) ?_
        exact To.ok ⟨row ++ [r % ss[i]], r / ss[i], seed2, by simp, by simp [hrow], hseed, more _ (Int.emod_nonneg _ (by omega)) (Int.emod_lt_of_pos _ sp)⟩
      · have hq : 0 ≤ seed2 / 65537 ∧ seed2 / 65537 < 32768 := by omega
        have m3 : repD (.int seed2) (.int (seed2 / 65537 + 3)) = some (.int (seed2 * (seed2 / 65537 + 3))) := mul_ok (n := 31) (k := 16) hseed.1 hseed.2 (by decide) (by omega) (show seed2 / 65537 + 3 < 65536 by omega) (by decide) (by decide) (by decide) (by decide)
        refine To.bindE (a := .int (seed2 * (seed2 / 65537 + 3) % 2147483629)) ?_ ?_
        · simp only [op2_ok, divD_pos (show (0 : Int) < 65537 by decide) (by decide), Res.ofO_some, addD_int, m3, consR_ok, callO_ok, intD_int, modD_pos (show (0 : Int) < 2147483629 by decide)]
        generalize seed2 * (seed2 / 65537 + 3) % 2147483629 = tw
        refine To.appR (P := fun d => d = .int (tw / 19 % ss[i])) (by simp; omega) ?_ ?_
        · exact To.of (by simp only [op2_ok, divD_pos (show (0 : Int) < 19 by decide) (by decide), Res.ofO_some, ix_lst hg, modD_pos sp]) rfl
        rintro d rfl
        exact To.ok ⟨row ++ [tw / 19 % ss[i]], r, seed2, by simp, by simp [hrow], hseed, more _ (Int.emod_nonneg _ (by omega)) (Int.emod_lt_of_pos _ sp)⟩
    · rintro s ⟨row, r, seed, rfl, hrow, _, hall⟩
      exact To.ok ⟨row, rfl, by simpa using hrow, hall⟩
  obtain ⟨d, e, row, rfl, h1, h2⟩ := main
  exact ⟨row, e, h1, h2⟩
/-- a cell of the script -/
theorem cell_ok (ns : List Int) (hl : ns.length ≤ 63) (hb : ∀ k ∈ ns, Builtin.Int.intBits k ≤ 1048576) (k : Nat) (hk : k ≤ 1000) : ∃ c : Int, m__law_cell [.scr (ns.map D.int), .int k] = .ok (.int c) ∧ c.natAbs.log2 ≤ 1048576 := by
  have main : To (b__law_cell (.scr (ns.map D.int)) (.int k)) fun d => ∃ c : Int, d = .int c ∧ c.natAbs.log2 ≤ 1048576 := by
    unfold b__law_cell
    refine To.ite (k := decide ((k : Int) < ns.length)) (by simp) (fun h => ?_) (fun h => ?_)
    · have h := of_decide_eq_true h
      have hk2 : k < ns.length := by omega
      have hg : (ns.map D.int)[k]? = some (.int ns[k]) := by rw [List.getElem?_map, List.getElem?_eq_getElem hk2]; rfl
      refine To.of (a := .int ns[k]) (by simp only [op2_ok, ix_scr hg, Res.ofO_some]) ⟨_, rfl, ?_⟩
      have := hb ns[k] (List.getElem_mem hk2)
      unfold Builtin.Int.intBits at this
      split at this
      · rename_i z
        have : ns[k] = 0 := by simpa using z
        rw [this]
        decide
      · omega
    · refine To.bindE rfl ?_
      refine To.bindE (a := ns.map D.int) (by simp) ?_
      refine To.bind (To.forR (fun _ s => ∃ x : Int, s = .int x ∧ 0 ≤ x ∧ x < 1000003) ⟨17, rfl, by decide, by decide⟩ fun i s d hd hp => ?_) ?_
      · obtain ⟨x, rfl, h0, h1⟩ := hp
        rw [List.getElem?_map] at hd
        cases q : ns[i]? with
        | none => rw [q] at hd; cases hd
        | some c =>
          rw [q] at hd
          cases hd
          have m1 : repD (.int x) (.int 31) = some (.int (x * 31)) := mul_ok (n := 20) (k := 6) h0 h1 (by decide) (by decide) (show (31 : Int) < 32 by decide) (by decide) (by decide) (by decide) (by decide)
          refine To.bindE (a := .int ((x * 31 + c % 1000003) % 1000003)) ?_ (To.ok ⟨_, rfl, by omega, by omega⟩)
          simp only [op2_ok, m1, Res.ofO_some, addD_int, consR_ok, callO_ok, intD_int, modD_pos (show (0 : Int) < 1000003 by decide)]
      · rintro s ⟨x, rfl, h0, h1⟩
        have m1 : repD (.int (x + 7)) (.int (k + 3)) = some (.int ((x + 7) * (k + 3))) := mul_ok (n := 20) (k := 10) (by omega) (show x + 7 < 1000010 by omega) (by decide) (by omega) (show (k : Int) + 3 < 1004 by omega) (by decide) (by decide) (by decide) (by decide)
        have hp : 0 ≤ (x + 7) * (k + 3) := Int.mul_nonneg (by omega) (by omega)
        have hp2 : (x + 7) * (k + 3) < 1004010041 := Int.lt_of_le_of_lt (Int.mul_le_mul (show x + 7 ≤ 1000010 by omega) (show (k : Int) + 3 ≤ 1003 by omega) (by omega) (by decide)) (by decide)
        have m2 : repD (.int ((x + 7) * (k + 3))) (.int 69621) = some (.int ((x + 7) * (k + 3) * 69621)) := mul_ok (n := 30) (k := 17) hp hp2 (by decide) (by decide) (show (69621 : Int) < 69622 by decide) (by decide) (by decide) (by decide) (by decide)
        refine To.of (a := .int ((x + 7) * (k + 3) * 69621 % 2147483647)) ?_ ⟨_, rfl, ?_⟩
        · simp only [op2_ok, Res.ofO_some, addD_int, m1, m2, consR_ok, callO_ok, intD_int, modD_pos (show (0 : Int) < 2147483647 by decide)]
        · have := log2_of (i := (x + 7) * (k + 3) * 69621 % 2147483647) (b := 2147483647) (by omega) (by omega) (n := 31) (by decide) (by decide)
          omega
  obtain ⟨d, e, c, rfl, h⟩ := main
  exact ⟨c, e, h⟩
/-- the law's own grade -/
def LG (p : List Wt × Wt) : D := .lst [.lst (p.1.map W), W p.2]
theorem ix0 (p : List Wt × Wt) : ixD (LG p) (.int 0) = some (.lst (p.1.map W)) := ix_lst (n := 0) rfl
theorem ix1 (p : List Wt × Wt) : ixD (LG p) (.int 1) = some (W p.2) := ix_lst (n := 1) rfl
theorem at_ok (p : List Wt × Wt) {w : Wt} (hw : nn w) : m__law_at [LG p, W w] = .ok (W (ledF p.1 p.2 w)) := by
  show b__law_at (LG p) (W w) = _
  unfold b__law_at
  cases w with
  | none => simp [ledF]
  | some i =>
    have h0 : 0 ≤ i := hw i rfl
    by_cases h : i < p.1.length
    · obtain ⟨n, rfl⟩ := Int.eq_ofNat_of_zero_le h0
      have hn : n < p.1.length := by omega
      simp [ledF, ix0, h, ix_lst (get_W hn), hn]
    · cases e : p.2 <;> simp [ledF, ix0, ix1, h, bey, e]
theorem LG_mk (a : List Wt) (m : Wt) : lstV (dispR (.ok [.lst (a.map W), W m])) = .ok (LG (a, m)) := by
  rw [dispR_ok]
  rfl
theorem least_entries_ok {p : List Wt × Wt} (hl : p.1.length ≤ 30) : ∃ u : List Wt, m__law_least_entries [LG p] = .ok (.lst (u.map W)) ∧ (∀ n : Nat, ledF u p.2 (some n) = ledF p.1 p.2 (some n)) ∧ Lst u p.2 ∧ u.length ≤ p.1.length := by
  obtain ⟨t, m⟩ := p
  have take_led : ∀ k, (∀ j, k ≤ j → j < t.length → t[j]? = some (bey j m)) → ∀ n : Nat, ledF (t.take k) m (some n) = ledF t m (some n) := fun k hj n => by
    rcases Nat.lt_or_ge k t.length with hk | hk
    · rcases Nat.lt_or_ge n k with z | z
      · rw [ledF_in (by simp; omega), ledF_in (by omega)]
        simp
      · rw [ledF_out (by simp; omega)]
        rcases Nat.lt_or_ge n t.length with z2 | z2
        · rw [ledF_in z2]
          have := hj n z z2
          rw [List.getElem?_eq_getElem z2] at this
          exact (Option.some.inj this).symm
        · rw [ledF_out (by omega)]
    · rw [List.take_of_length_le hk]
  have main : To (b__law_least_entries (LG (t, m))) fun d => ∃ u : List Wt, d = .lst (u.map W) ∧ (∀ n : Nat, ledF u m (some n) = ledF t m (some n)) ∧ Lst u m ∧ u.length ≤ t.length := by
    unfold b__law_least_entries
    refine To.bindE (a := .lst (t.map W)) (by simp [ix0]) ?_
    refine To.bindE (a := (List.range t.length).map fun (i : Nat) => D.int (i : Int)) ?_ ?_
    · simp only [op2_ok, ix0, consR_ok, callO_ok, lenD_lst, List.length_map, Res.ofO_some, callOo_ok, rng1_nat (show t.length ≤ 16777216 from by simp only at hl; omega)]
    refine To.lp (To.forG (fun i s => s = .lst ((t.take (t.length - i)).map W) ∧ ∀ j, t.length - i ≤ j → j < t.length → t[j]? = some (bey j m)) (fun d => ∃ u : List Wt, d = .lst (u.map W) ∧ (∀ n : Nat, ledF u m (some n) = ledF t m (some n)) ∧ Lst u m ∧ u.length ≤ t.length) (fun _ => False) ⟨by simp, fun j h1 h2 => absurd h1 (by omega)⟩ fun i s d hd hp => ?_) (fun s hs => ?_) (fun d hd => To.ok hd)
    · obtain ⟨hi, rfl⟩ := range_get hd
      obtain ⟨rfl, hj⟩ := hp
      obtain ⟨k, hk⟩ : ∃ k, t.length - i = k + 1 := ⟨t.length - i - 1, by omega⟩
      rw [hk] at hj ⊢
      have hk2 : k < t.length := by omega
      have hlen : ((t.take (k + 1)).map W).length = k + 1 := by simp; omega
      have e1 : ((k + 1 : Nat) : Int) - 1 = k := by omega
      refine To.bindE (a := .int k) (by simp only [consR_ok, callO_ok, lenD_lst, hlen, Res.ofO_some, op2_ok, subD_int, e1]) ?_
      refine To.bindE rfl ?_
      refine To.bindE (a := W (bey k m)) ?_ ?_
      · cases m <;> simp [ix1, bey]
      have hg : ((t.take (k + 1)).map W)[k]? = some (W t[k]) := by
        rw [List.getElem?_map, List.getElem?_take, if_pos (by omega), List.getElem?_eq_getElem hk2]; rfl
      refine To.ite (k := !decide (t[k] = bey k m)) (by simp only [op2_ok, ix_lst hg, neD_W, Res.ofO_some, blR_ok]) (fun z => ?_) (fun z => ?_)
      · refine To.bindE rfl (To.ok ⟨t.take (k + 1), rfl, take_led _ hj, fun j hjk => ?_, by simp; omega⟩)
        have hl2 : (t.take (k + 1)).length = k + 1 := by simp; omega
        have : j = k := by omega
        subst this
        rw [List.getElem?_take, if_pos (by omega), List.getElem?_eq_getElem hk2]
        intro q
        rw [decide_eq_true (Option.some.inj q)] at z
        cases z
      · have hz : t[k] = bey k m := by
          by_cases q : t[k] = bey k m
          · exact q
          · rw [decide_eq_false q] at z; cases z
        refine To.bindE (a := .lst ((t.take k).map W)) ?_ (To.ok ⟨?_, fun j h1 h2 => ?_⟩)
        · rw [slice_lst_take _ _ (by rw [hlen]; omega), ← List.map_take, List.take_take, Nat.min_eq_left (by omega)]
        · rw [show t.length - (i + 1) = k by omega]
        · rcases Nat.lt_or_ge k j with y | y
          · exact hj j y h2
          · have : j = k := by omega
            subst this
            rw [List.getElem?_eq_getElem hk2, hz]
    · rcases hs with ⟨rfl, hj⟩ | hs
      · simp only [List.length_map, List.length_range, Nat.sub_self] at hj ⊢
        refine To.ok ⟨t.take 0, rfl, take_led 0 hj, fun j h => ?_, by simp⟩
        simp at h
      · exact hs.elim
  obtain ⟨d, e, u, rfl, h⟩ := main
  exact ⟨u, e, h⟩
/-! a row of grades -/
def thr (gs : List (List Wt × Wt)) (w : Wt) : Wt := gs.foldl (fun w p => ledF p.1 p.2 w) w
def mx (gs : List (List Wt × Wt)) : Nat := gs.foldl (fun n p => max n p.1.length) 0
def tot (gs : List (List Wt × Wt)) : Wt := gs.foldl (fun w p => addW w p.2) (some 0)
/-- the functions of a row, one behind another -/
theorem row_gf : ∀ (gs : List (List Wt × Wt)) {f : Nat → Wt} {m : Wt} {L : Nat}, (∀ p ∈ gs, Good p.1 p.2) → GF f m L →
    GF (fun n => gs.foldl (fun w p => ledF p.1 p.2 w) (f n)) (gs.foldl (fun w p => addW w p.2) m) (gs.foldl (fun n p => max n p.1.length) L)
  | [], _, _, _, _, g => g
  | p :: gs, f, m, L, h, g => by
    have a := g.comp (h p List.mem_cons_self).gf
    have e : (fun n => apF (fun n => ledF p.1 p.2 (some n)) (f n)) = fun n => ledF p.1 p.2 (f n) := by
      funext n
      cases q : f n with
      | none => rfl
      | some i =>
        have := g.nn n
        rw [q] at this
        obtain ⟨k, rfl⟩ := Int.eq_ofNat_of_zero_le (this i rfl)
        rfl
    rw [e] at a
    exact row_gf gs (fun q hq => h q (List.mem_cons_of_mem _ hq)) a
theorem row_GF (gs : List (List Wt × Wt)) (h : ∀ p ∈ gs, Good p.1 p.2) : GF (fun n => thr gs (some n)) (tot gs) (mx gs) := row_gf gs h GF.id
theorem mx_le : ∀ (gs : List (List Wt × Wt)) (L : Nat), L ≤ 30 → (∀ p ∈ gs, p.1.length ≤ 30) → gs.foldl (fun n p => max n p.1.length) L ≤ 30
  | [], _, h, _ => h
  | p :: gs, L, h, hh => mx_le gs _ (by show max L p.1.length ≤ 30; have := hh p List.mem_cons_self; omega) fun q hq => hh q (List.mem_cons_of_mem _ hq)
theorem LG_items (gs : List (List Wt × Wt)) {i : Nat} {d : D} (h : (gs.map LG)[i]? = some d) : ∃ hi : i < gs.length, d = LG gs[i] := by
  rw [List.getElem?_map] at h
  cases q : gs[i]? with
  | none => rw [q] at h; cases h
  | some p =>
    rw [q] at h
    obtain ⟨h1, h2⟩ := List.getElem?_eq_some_iff.mp q
    cases h
    exact ⟨h1, by rw [h2]⟩
theorem foldl_take {α β : Type} (f : β → α → β) (l : List α) (b : β) {i : Nat} (hi : i < l.length) : (l.take (i + 1)).foldl f b = f ((l.take i).foldl f b) l[i] := by
  rw [List.take_add_one, List.getElem?_eq_getElem hi, List.foldl_append]
  rfl
theorem nn_led {p : List Wt × Wt} (g : Good p.1 p.2) {w : Wt} (hw : nn w) : nn (ledF p.1 p.2 w) := by
  cases w with
  | none => exact fun i e => by cases e
  | some i =>
    obtain ⟨n, rfl⟩ := Int.eq_ofNat_of_zero_le (hw i rfl)
    exact g.gf.nn n
theorem nn_thr : ∀ (gs : List (List Wt × Wt)) {w : Wt}, (∀ p ∈ gs, Good p.1 p.2) → nn w → nn (thr gs w)
  | [], _, _, h => h
  | p :: gs, w, g, h => nn_thr gs (fun q hq => g q (List.mem_cons_of_mem _ hq)) (nn_led (g p List.mem_cons_self) h)
/-! drawn grades -/
theorem p20 : powD (.int 10) (.int 20) = some (.int 100000000000000000000) := by rw [powD_int (by decide) (by decide) (by decide)]; rfl
theorem p12 : powD (.int 10) (.int 12) = some (.int 1000000000000) := by rw [powD_int (by decide) (by decide) (by decide)]; rfl
theorem p64 : powD (.int 10) (.int 64) = some (.int (10 ^ 64)) := by rw [powD_int (by decide) (by decide) (by decide)]; rfl
theorem ten12 {a : Int} (h0 : 0 ≤ a) (h1 : a < 100000000000000000000) : repD (.int a) (.int 1000000000000) = some (.int (a * 1000000000000)) :=
  mul_ok (n := 67) (k := 40) h0 h1 (by decide) (by decide) (show (1000000000000 : Int) < 1000000000001 by decide) (by decide) (by decide) (by decide) (by decide)
theorem disp_go {l : List D} (h : l.length ≤ 16777216) : dispR (.ok l) = .ok l := by rw [dispR_ok, if_pos h]
/-- an item of a list of numbers at a number in its bounds -/
theorem pick {l : List Int} {n : Int} (h0 : 0 ≤ n) (h1 : n < l.length) : ∃ x ∈ l, ixD (.lst (l.map D.int)) (.int n) = some (.int x) := by
  obtain ⟨k, rfl⟩ := Int.eq_ofNat_of_zero_le h0
  have hk : k < l.length := by omega
  exact ⟨l[k], List.getElem_mem hk, ix_lst (by rw [List.getElem?_map, List.getElem?_eq_getElem hk]; rfl)⟩
theorem pickW {l : List Wt} {n : Int} (h0 : 0 ≤ n) (h1 : n < l.length) : ∃ x ∈ l, ixD (.lst (l.map W)) (.int n) = some (W x) := by
  obtain ⟨k, rfl⟩ := Int.eq_ofNat_of_zero_le h0
  have hk : k < l.length := by omega
  exact ⟨l[k], List.getElem_mem hk, ix_lst (get_W hk)⟩
theorem entry_ok {kind amount least : Int} {endless : Bool} (hk : 0 ≤ kind ∧ kind < 13) (ha : 0 ≤ amount ∧ amount < 100000000000000000000) (hl : 0 ≤ least) : ∃ w : Wt, m__law_entry [.int kind, .int amount, .int least, .bl endless] = .ok (W w) ∧ leW (some least) w ∧ (endless = false → w.isSome) := by
  have main : To (b__law_entry (.int kind) (.int amount) (.int least) (.bl endless)) fun d => ∃ w : Wt, d = W w ∧ leW (some least) w ∧ (endless = false → w.isSome) := by
    unfold b__law_entry
    refine To.ite (k := decide (kind = 11) && endless) ?_ (fun z => ?_) (fun z => ?_)
    · by_cases y : kind = 11 <;> simp [eqD_int, y]
    · rw [Bool.and_eq_true] at z
      exact To.ok ⟨none, rfl, leW_none _, fun e => by rw [e] at z; simp at z⟩
    · refine To.bindE (a := .lst ([0, 0, 0, 0, 0, 1, 1, amount % 3, amount % 5, amount % 12].map D.int)) ?_ ?_
      · simp only [op2_ok, consR_ok, callO_ok, intD_int, Res.ofO_some, modD_pos (show (0 : Int) < 3 by decide), modD_pos (show (0 : Int) < 5 by decide), modD_pos (show (0 : Int) < 12 by decide)]
        rw [disp_go (by simp)]
        rfl
      · have e1 : op2 addD (.ok (.lst ([0, 0, 0, 0, 0, 1, 1, amount % 3, amount % 5, amount % 12].map D.int))) (lstV (dispR (consR (.ok (.int amount)) (consR (.ok (.int 2)) (consR (op2 repD (.ok (.int amount)) (op2 powD (.ok (.int 10)) (.ok (.int 12)))) (.ok [])))))) = .ok (.lst ([0, 0, 0, 0, 0, 1, 1, amount % 3, amount % 5, amount % 12, amount, 2, amount * 1000000000000].map D.int)) := by
          simp only [op2_ok, p12, Res.ofO_some, ten12 ha.1 ha.2, consR_ok]
          rw [disp_go (by simp)]
          simp only [lstV_ok, op2_ok]
          rw [addD_lst (by simp)]
          rfl
        obtain ⟨x, hx, e2⟩ := pick (l := [0, 0, 0, 0, 0, 1, 1, amount % 3, amount % 5, amount % 12, amount, 2, amount * 1000000000000]) hk.1 (by simp; omega)
        rw [e1, op2_ok, e2]
        have hx0 : 0 ≤ x := by
          simp only [List.mem_cons, List.not_mem_nil, or_false] at hx
          omega
        exact To.of (a := .int (least + x)) (by simp only [Res.ofO_some, op2_ok, addD_int]) ⟨some (least + x), rfl, leW_some.mpr (by omega), fun _ => rfl⟩
  obtain ⟨d, e, w, rfl, h⟩ := main
  exact ⟨w, e, h⟩
def gsizes : List Int := [70, 11] ++ List.replicate 30 13 ++ List.replicate 31 100000000000000000000
theorem gsizes_ok : ∀ s ∈ gsizes, 0 < s ∧ s.natAbs.log2 < 9000 := by decide +kernel
/-- a table that is built entry by entry -/
structure Build (es : List Wt) (last : Wt) (i : Nat) (many : Int) (gain : Wt) : Prop where
  len : es.length = i
  lnn : nn last
  ge : ∀ (k : Nat) (w : Wt), es[k]? = some w → leW (some (k : Int)) w ∧ leW w last
  mono : ∀ (k : Nat) (w x : Wt), es[k]? = some w → es[k + 1]? = some x → leW w x
  cap : ∀ g, gain = some g → leW last (some (many + g))
theorem Build.good {es : List Wt} {last : Wt} {i : Nat} {gain : Wt} (b : Build es last i i gain) (hi : i ≤ 30) (hg : nn gain) : Good es gain := by
  have hl := b.len
  have bge : ∀ n : Nat, leW (some (n : Int)) (bey n gain) := fun n => by
    cases gain with
    | none => exact leW_none _
    | some g => have := hg g rfl; exact leW_some.mpr (show (n : Int) ≤ n + g by omega)
  refine ⟨by omega, hg, fun n => ?_, fun n => ?_⟩
  · rcases Nat.lt_or_ge n es.length with z | z
    · rw [ledF_in z]; exact (b.ge n _ (List.getElem?_eq_getElem z)).1
    · rw [ledF_out (by omega)]; exact bge n
  · rcases Nat.lt_or_ge n es.length with z | z
    · rw [ledF_in z]
      rcases Nat.lt_or_ge (n + 1) es.length with y | y
      · rw [ledF_in y]; exact b.mono n _ _ (List.getElem?_eq_getElem z) (List.getElem?_eq_getElem y)
      · rw [ledF_out (by omega)]
        have h1 := (b.ge n _ (List.getElem?_eq_getElem z)).2
        cases gain with
        | none => exact leW_none _
        | some g =>
          exact leW_trans h1 (leW_trans (b.cap g rfl) (leW_some.mpr (show (i : Int) + g ≤ ((n + 1 : Nat) : Int) + g by omega)))
    · rw [ledF_out (by omega), ledF_out (by omega)]
      cases gain with
      | none => exact leW_none _
      | some g => exact leW_some.mpr (show (n : Int) + g ≤ ((n + 1 : Nat) : Int) + g by omega)
theorem Build.push {es : List Wt} {last new : Wt} {i : Nat} {many : Int} {gain : Wt} (b : Build es last i many gain) (h1 : leW last new) (h2 : leW (some (i : Int)) new) (hn : nn new) (hc : ∀ g, gain = some g → leW new (some (many + g))) : Build (es ++ [new]) new (i + 1) many gain := by
  have hl := b.len
  have key : ∀ (k : Nat) (w : Wt), (es ++ [new])[k]? = some w → (k < es.length ∧ es[k]? = some w) ∨ (k = es.length ∧ w = new) := fun k w e => by
    rcases Nat.lt_trichotomy k es.length with z | z | z
    · rw [List.getElem?_append_left z] at e; exact .inl ⟨z, e⟩
    · subst z; rw [List.getElem?_append_right (Nat.le_refl _)] at e; simp at e; exact .inr ⟨rfl, e.symm⟩
    · rw [List.getElem?_eq_none (by simp; omega)] at e; cases e
  refine ⟨by simp [hl], hn, fun k w e => ?_, fun k w x e e' => ?_, hc⟩
  · rcases key k w e with ⟨z, e2⟩ | ⟨rfl, rfl⟩
    · exact ⟨(b.ge k w e2).1, leW_trans (b.ge k w e2).2 h1⟩
    · rw [hl]; exact ⟨h2, leW_refl _⟩
  · rcases key k w e with ⟨z, e2⟩ | ⟨rfl, rfl⟩
    · rcases key (k + 1) x e' with ⟨z', e3⟩ | ⟨z', rfl⟩
      · exact b.mono k w x e2 e3
      · exact leW_trans (b.ge k w e2).2 h1
    · rcases key _ x e' with ⟨z', e3⟩ | ⟨z', rfl⟩
      · omega
      · exact leW_refl _
theorem bl_ok {α : Type} (b : Bool) (x y : Res α) : iteR (truR (.ok (.bl b))) x y = if b then x else y := rfl
/-! a grade that stands at a number -/
theorem rng2_nat {a b : Nat} (ha : a ≤ 16777216) (hb : b ≤ 16777216) : rng2 [.int a, .int b] = some ((List.range (b - a)).map fun (i : Nat) => D.int ((a + i : Nat) : Int)) := by
  have h : (2 : Int) ^ 62 = 4611686018427387904 := by decide
  simp only [rng2]
  rw [if_pos (by omega)]
  congr 1
  unfold intsD
  rw [show ((b : Int) - a).toNat = b - a by omega]
  simp
theorem map_get {n i : Nat} {g : Nat → D} {d : D} (h : ((List.range n).map g)[i]? = some d) : i < n ∧ d = g i := by
  rw [List.getElem?_map] at h
  cases q : (List.range n)[i]? with
  | none => rw [q] at h; cases h
  | some k =>
    rw [q] at h
    have hi : i < n := by
      have := (List.getElem?_eq_some_iff.mp q).1
      simpa using this
    rw [List.getElem?_range hi] at q
    cases q
    cases h
    exact ⟨hi, rfl⟩
theorem tab_eq (t : List Wt) (m : Wt) : ((List.range t.length).map fun (n : Nat) => ledF t m (some (n : Int))) = t := by
  apply List.ext_getElem
  · simp
  · intro i h1 h2
    simp only [List.getElem_map, List.getElem_range]
    exact ledF_in h2
theorem longer_ok (p : List Wt × Wt) (hp : p.1.length ≤ 30) (many : Nat) (hm : many ≤ 40) : m__law_longer [LG p, .int many] = .ok (LG ((List.range (p.1.length + (many - p.1.length))).map (fun (n : Nat) => ledF p.1 p.2 (some (n : Int))), p.2)) := by
  refine To.eq ?_
  show To (b__law_longer (LG p) (.int many)) _
  unfold b__law_longer
  refine To.bindE (a := p.1.map W) (by simp [ix0]) ?_
  refine To.bindE (a := (List.range (many - p.1.length)).map fun (i : Nat) => D.int ((p.1.length + i : Nat) : Int)) ?_ ?_
  · simp only [op2_ok, ix0, Res.ofO_some, consR_ok, callO_ok, lenD_lst, List.length_map, callOo_ok, rng2_nat (show p.1.length ≤ 16777216 by omega) (show many ≤ 16777216 by omega)]
  refine To.bind (To.forR (fun i s => s = ((List.range (p.1.length + i)).map fun (n : Nat) => ledF p.1 p.2 (some (n : Int))).map W) ?_ fun i s d hd hs => ?_) ?_
  · rw [Nat.add_zero, tab_eq]
  · obtain ⟨hi, rfl⟩ := map_get hd
    subst hs
    have hnew : ledF p.1 p.2 (some ((p.1.length + i : Nat) : Int)) = bey ((p.1.length + i : Nat) : Int) p.2 := ledF_out (by omega)
    have hfin : ((List.range (p.1.length + (i + 1))).map fun (n : Nat) => ledF p.1 p.2 (some (n : Int))).map W = ((List.range (p.1.length + i)).map fun (n : Nat) => ledF p.1 p.2 (some (n : Int))).map W ++ [W (bey ((p.1.length + i : Nat) : Int) p.2)] := by
      rw [← Nat.add_assoc, List.range_succ, List.map_append, List.map_append, ← hnew]
      rfl
    rw [hfin]
    have hln : (((List.range (p.1.length + i)).map fun (n : Nat) => ledF p.1 p.2 (some (n : Int))).map W).length < 16777216 := by simp; omega
    refine To.ite (k := p.2.isSome) (by simp only [op2_ok, ix1, Res.ofO_some, consR_ok, callR_ok, List.append_nil, lwhole_W, truR_ok, truD_bl]) (fun z => ?_) (fun z => ?_)
    · cases q : p.2 with
      | none => rw [q] at z; cases z
      | some g =>
        refine To.appR (by rw [q] at hln; exact hln) (To.of (a := W (bey ((p.1.length + i : Nat) : Int) (some g))) (by simp only [op2_ok, ix1, q, Res.ofO_some, W_some, addD_int]; rfl) rfl) ?_
        rintro d rfl
        exact To.ok rfl
    · cases q : p.2 with
      | some g => rw [q] at z; cases z
      | none =>
        refine To.appR (by rw [q] at hln; exact hln) (To.ok rfl) ?_
        rintro d rfl
        exact To.ok rfl
  · rintro s rfl
    rw [List.length_map, List.length_range]
    refine To.of ?_ rfl
    simp only [op2_ok, ix1, Res.ofO_some, consR_ok]
    exact LG_mk _ _
def cap (N : Int) : Wt → Wt
  | none => some N
  | some e => if N < e then some N else some e
def stF (f : Nat → Wt) (N : Nat) (n : Nat) : Wt := if n < N then cap N (f n) else if n = N then some (N : Int) else f n
theorem stF_lt {f : Nat → Wt} {N n : Nat} (h : n < N) : stF f N n = cap N (f n) := by unfold stF; rw [if_pos h]
theorem stF_eq {f : Nat → Wt} {N : Nat} : stF f N N = some (N : Int) := by unfold stF; rw [if_neg (by omega), if_pos rfl]
theorem stF_gt {f : Nat → Wt} {N n : Nat} (h : N < n) : stF f N n = f n := by unfold stF; rw [if_neg (by omega), if_neg (by omega)]
theorem cap_mono {N : Int} {a b : Wt} (h : leW a b) : leW (cap N a) (cap N b) := by
  cases a with
  | none => rw [leW_of_none h]; exact leW_refl _
  | some a =>
    cases b with
    | none =>
      simp only [cap]
      split
      · exact leW_refl _
      · exact leW_some.mpr (by omega)
    | some b =>
      have := leW_some.mp h
      simp only [cap]
      split <;> split <;> exact leW_some.mpr (by omega)
theorem cap_le {N : Int} {a : Wt} : leW (cap N a) (some N) := by
  cases a with
  | none => exact leW_refl _
  | some a =>
    simp only [cap]
    split
    · exact leW_refl _
    · exact leW_some.mpr (by omega)
theorem cap_ge {N n : Int} {a : Wt} (h : leW (some n) a) (hn : n ≤ N) : leW (some n) (cap N a) := by
  cases a with
  | none => exact leW_some.mpr hn
  | some a =>
    have := leW_some.mp h
    simp only [cap]
    split <;> exact leW_some.mpr (by omega)
theorem GF.st {f : Nat → Wt} {m : Wt} {L : Nat} (g : GF f m L) (N : Nat) : GF (stF f N) m (L + (N + 1 - L)) := by
  refine ⟨g.pos, fun n => ?_, fun n => ?_, fun n hn => ?_⟩
  · rcases Nat.lt_trichotomy n N with z | z | z
    · rw [stF_lt z]; exact cap_ge (g.ge n) (by omega)
    · subst z; rw [stF_eq]; exact leW_refl _
    · rw [stF_gt z]; exact g.ge n
  · rcases Nat.lt_trichotomy n N with z | z | z
    · rcases Nat.lt_or_ge (n + 1) N with y | y
      · rw [stF_lt z, stF_lt y]; exact cap_mono (g.mono n)
      · have y : n + 1 = N := by omega
        rw [stF_lt z, y, stF_eq]
        exact cap_le
    · subst z
      rw [stF_eq, stF_gt (by omega)]
      exact leW_trans (leW_some.mpr (by omega)) (g.ge (n + 1))
    · rw [stF_gt z, stF_gt (by omega)]; exact g.mono n
  · rw [stF_gt (by omega), g.out n (by omega)]
end K01

namespace K01
open PySem PySem.Spec PyProof.Rows L2 Px
theorem grade_ok (c : Int) : ∃ p : List Wt × Wt, m__law_grade [.int c] = .ok (LG p) ∧ Good p.1 p.2 := by
  have main : To (b__law_grade (.int c)) fun d => ∃ p : List Wt × Wt, d = LG p ∧ Good p.1 p.2 := by
    unfold b__law_grade
    obtain ⟨row, er, hlen, hrow⟩ := digits_ok c gsizes gsizes_ok (by decide)
    have h63 : row.length = 63 := by rw [hlen]; rfl
    refine To.bindE (a := .lst (row.map D.int)) ?_ ?_
    · have e1 : op2 addD (op2 addD (lstV (dispR (consR (.ok (.int 70)) (consR (.ok (.int 11)) (.ok []))))) (op2 repD (lstV (dispR (consR (.ok (.int 13)) (.ok [])))) (.ok (.int 30)))) (op2 repD (lstV (dispR (consR (op2 powD (.ok (.int 10)) (.ok (.int 20))) (.ok [])))) (.ok (.int 31))) = .ok (.lst (gsizes.map D.int)) := by
        simp only [consR_ok, op2_ok, p20, Res.ofO_some]
        rw [disp_go (by simp), disp_go (by simp), disp_go (by simp)]
        simp only [lstV_ok, op2_ok]
        rw [repD_lst (by decide) (by decide) (by decide), repD_lst (by decide) (by decide) (by decide)]
        simp only [Res.ofO_some, op2_ok]
        rw [addD_lst (by decide)]
        simp only [Res.ofO_some, op2_ok]
        rw [addD_lst (by decide)]
        rfl
      rw [e1]
      simp only [consR_ok, callR_ok, List.append_nil, er]
    have at' : ∀ (k : Nat) (hk : k < row.length), ixD (.lst (row.map D.int)) (.int k) = some (.int row[k]) := fun k hk => ix_lst (by rw [List.getElem?_map, List.getElem?_eq_getElem hk]; rfl)
    have bnd : ∀ (k : Nat) (hk : k < row.length) (s : Int), gsizes[k]? = some s → 0 ≤ row[k] ∧ row[k] < s := fun k hk s hs => hrow k _ s (List.getElem?_eq_getElem hk) hs
    have b0 := bnd 0 (by omega) 70 rfl
    have b1 := bnd 1 (by omega) 11 rfl
    have b32 := bnd 32 (by omega) 100000000000000000000 rfl
    have hk13 : ∀ k : Nat, k < 30 → gsizes[2 + k]? = some 13 := by decide
    have hk20 : ∀ k : Nat, k < 30 → gsizes[33 + k]? = some 100000000000000000000 := by decide
    refine To.bindE (a := .int row[0]) (by rw [op2_ok, show ixD (.lst (row.map D.int)) (.int 0) = some (.int row[0]) from at' 0 (by omega)]; rfl) ?_
    generalize row[0] = r0 at b0
    refine To.bind (P := fun d => ∃ n : Nat, d = .int n ∧ n ≤ 30) ?_ ?_
    · refine To.ite (k := decide (30 < r0)) (by simp) (fun z => ?_) (fun z => ?_)
      · have z := of_decide_eq_true z
        obtain ⟨x, hx, e2⟩ := pick (l := [0, 1, 2, 3, 4, 5, 6, 2, 3, 4, 30, 1, 3]) (n := (r0 - 31) % 13) (by omega) (by simp; omega)
        have hx2 : 0 ≤ x ∧ x ≤ 30 := by
          simp only [List.mem_cons, List.not_mem_nil, or_false] at hx
          omega
        refine To.of (a := .int x) ?_ ⟨x.toNat, by congr 1; omega, by omega⟩
        simp only [consR_ok]
        rw [disp_go (by simp)]
        simp only [lstV_ok, op2_ok, subD_int, Res.ofO_some, callO_ok, consR_ok, intD_int, modD_pos (show (0 : Int) < 13 by decide)]
        have e3 : ixD (.lst [.int 0, .int 1, .int 2, .int 3, .int 4, .int 5, .int 6, .int 2, .int 3, .int 4, .int 30, .int 1, .int 3]) (.int ((r0 - 31) % 13)) = some (.int x) := e2
        rw [e3]
        rfl
      · have z := of_decide_eq_false z
        exact To.ok ⟨r0.toNat, by congr 1; omega, by omega⟩
    rintro d ⟨many, rfl, hmany⟩
    refine To.bindE (a := .int row[32]) (by rw [op2_ok, show ixD (.lst (row.map D.int)) (.int 32) = some (.int row[32]) from at' 32 (by omega)]; rfl) ?_
    have e1r : op2 ixD (.ok (.lst (row.map D.int))) (.ok (.int 1)) = .ok (.int row[1]) := by rw [op2_ok, show ixD (.lst (row.map D.int)) (.int 1) = some (.int row[1]) from at' 1 (by omega)]; rfl
    rw [e1r]
    generalize row[1] = r1 at b1
    generalize row[32] = am at b32
    refine To.bind (P := fun d => ∃ g : Wt, d = W g ∧ nn g) ?_ ?_
    · obtain ⟨x, hx, e2⟩ := pickW (l := [some 0, some 0, some 0, some 1, some 1, some 2, none, none, some (am % 40), some am, some (am * 1000000000000)]) (n := r1) (by omega) (by simp; omega)
      refine To.of (a := W x) ?_ ⟨x, rfl, ?_⟩
      · simp only [op2_ok, callO_ok, consR_ok, intD_int, Res.ofO_some, modD_pos (show (0 : Int) < 40 by decide), p12, ten12 b32.1 b32.2]
        rw [disp_go (by simp)]
        simp only [lstV_ok, op2_ok]
        have e3 : ixD (.lst [.int 0, .int 0, .int 0, .int 1, .int 1, .int 2, .non, .non, .int (am % 40), .int am, .int (am * 1000000000000)]) (.int r1) = some (W x) := e2
        rw [e3]
        rfl
      · intro j e
        subst e
        simp only [List.mem_cons, List.not_mem_nil, or_false, Option.some.injEq, reduceCtorEq, false_or] at hx
        omega
    rintro d ⟨gain, rfl, hg⟩
    refine To.bindE (a := []) (disp_go (by simp)) ?_
    refine To.bindE rfl ?_
    refine To.bindE (a := (List.range many).map fun (i : Nat) => D.int (i : Int)) ?_ ?_
    · simp only [consR_ok, callOo_ok, rng1_nat (show many ≤ 16777216 by omega), Res.ofO_some]
    refine To.bind (To.forR (fun i s => ∃ es last, s = (es.map W, W last) ∧ Build es last i many gain) ⟨[], some 0, rfl, rfl, fun i e => by cases e; omega, fun k w e => by simp at e, fun k w x e => by simp at e, fun g e => by have := hg g e; exact leW_some.mpr (by omega)⟩ fun i s d hd hp => ?_) ?_
    · obtain ⟨hi, rfl⟩ := range_get hd
      obtain ⟨es, last, rfl, b⟩ := hp
      have c2 : (2 : Int) + i = ((2 + i : Nat) : Int) := by omega
      have c33 : (33 : Int) + i = ((33 + i : Nat) : Int) := by omega
      have x2 := bnd (2 + i) (by omega) 13 (hk13 i (by omega))
      have x33 := bnd (33 + i) (by omega) 100000000000000000000 (hk20 i (by omega))
      have hel : (es.map W).length < 16777216 := by simp [b.len]; omega
      -- the new worth ahead of the cap
      refine To.bind (P := fun d => ∃ w : Wt, d = W w ∧ leW last w ∧ leW (some (i : Int)) w ∧ nn w ∧ (gain.isSome → w.isSome)) ?_ ?_
      · cases hlast : last with
        | none =>
          refine To.iteF (by simp) (To.ok ⟨none, rfl, leW_none _, leW_none _, fun i e => (by cases e), fun hgs => ?_⟩)
          cases hgg : gain with
          | none => rw [hgg] at hgs; simp at hgs
          | some g => have := b.cap g hgg; rw [hlast] at this; have := leW_of_none this; cases this
        | some l =>
          have hl0 : 0 ≤ l := b.lnn l hlast
          have hmx : 0 ≤ (if (i : Int) > l then (i : Int) else l) := by split <;> omega
          obtain ⟨w, ew, hw1, hw2⟩ := entry_ok (kind := row[2 + i]) (amount := row[33 + i]) (least := if (i : Int) > l then (i : Int) else l) (endless := gain.isNone) x2 x33 hmx
          refine To.iteT (by simp) (To.of (a := W w) ?_ ⟨w, rfl, leW_trans (leW_some.mpr ?_) hw1, leW_trans (leW_some.mpr ?_) hw1, fun j e => ?_, fun hgs => hw2 ?_⟩)
          · simp only [op2_ok, addD_int, Res.ofO_some, c2, c33, at' (2 + i) (by omega), at' (33 + i) (by omega), W_some, consR_ok, callO_ok, maxD_int, isND_non, isNon_W, callR_ok, List.append_nil, ew, Res.ok_bind]
          · split <;> omega
          · split <;> omega
          · rw [e, leW_some] at hw1; omega
          · cases hgg : gain with
            | none => rw [hgg] at hgs; simp at hgs
            | some g => rfl
      rintro d ⟨w, rfl, w1, w2, w3, w4⟩
      refine To.bind (P := fun d => ∃ x : Wt, d = W x ∧ leW last x ∧ leW (some (i : Int)) x ∧ nn x ∧ ∀ g, gain = some g → leW x (some (many + g))) ?_ ?_
      · cases hgg : gain with
        | none => exact To.iteF (by simp) (To.ok ⟨w, rfl, w1, w2, w3, fun g e => by cases e⟩)
        | some g =>
          have hg0 := hg g hgg
          cases w with
          | none => rw [hgg] at w4; simp at w4
          | some v =>
            have hc := b.cap g hgg
            refine To.iteT (by simp) (To.of (a := W (some (if (many : Int) + g < v then (many : Int) + g else v))) ?_ ⟨_, rfl, ?_, ?_, ?_, ?_⟩)
            · simp only [op2_ok, W_some, addD_int, Res.ofO_some, consR_ok, callO_ok, minD_int, Res.ok_bind]
            · split
              · exact hc
              · exact w1
            · rw [leW_some] at w2 ⊢; split <;> omega
            · intro j e
              have hv := w3 v rfl
              cases e
              split <;> omega
            · intro g' e
              cases e
              rw [leW_some]
              split <;> omega
      rintro d ⟨x, rfl, y1, y2, y3, y4⟩
      refine To.appR hel (To.ok rfl) ?_
      rintro d rfl
      exact To.ok ⟨es ++ [x], x, by simp, b.push y1 y2 y3 y4⟩
    · rintro s ⟨es, last, rfl, b⟩
      simp only [List.length_map, List.length_range] at b
      refine To.of ?_ ⟨(es, gain), rfl, b.good hmany hg⟩
      simp only [consR_ok]
      exact LG_mk es gain
  obtain ⟨d, e, p, rfl, h⟩ := main
  exact ⟨p, e, h⟩

/-! the lesser of two -/
def minW : Wt → Wt → Wt
  | none, b => b
  | some a, none => some a
  | some a, some b => if a < b then some a else some b
theorem minW_bef (a b : Wt) : minW a b = if bef a b then a else b := by
  cases a <;> cases b <;> simp [minW, bef]
theorem minW_none (a : Wt) : minW a none = a := by cases a <;> rfl
theorem minW_le1 (a b : Wt) : leW (minW a b) a := by
  cases a with
  | none => exact leW_none _
  | some a =>
    cases b with
    | none => exact leW_refl _
    | some b =>
      simp only [minW]
      split
      · exact leW_refl _
      · exact leW_some.mpr (by omega)
theorem minW_le2 (a b : Wt) : leW (minW a b) b := by
  cases a with
  | none => exact leW_refl _
  | some a =>
    cases b with
    | none => exact leW_none _
    | some b =>
      simp only [minW]
      split
      · exact leW_some.mpr (by omega)
      · exact leW_refl _
theorem minW_ge {a b c : Wt} (h1 : leW c a) (h2 : leW c b) : leW c (minW a b) := by
  rw [minW_bef]; split
  · exact h1
  · exact h2
theorem minW_mono {a b c d : Wt} (h1 : leW a c) (h2 : leW b d) : leW (minW a b) (minW c d) :=
  minW_ge (leW_trans (minW_le1 _ _) h1) (leW_trans (minW_le2 _ _) h2)
theorem minW_nn {a b : Wt} (h1 : nn a) (h2 : nn b) : nn (minW a b) := by
  rw [minW_bef]; split
  · exact h1
  · exact h2
theorem minW_bey (n : Int) (a b : Wt) : minW (bey n a) (bey n b) = bey n (minW a b) := by
  cases a with
  | none => cases b <;> rfl
  | some a =>
    cases b with
    | none => rfl
    | some b =>
      simp only [minW, bey, Option.map_some]
      by_cases h : a < b
      · rw [if_pos (show n + a < n + b by omega), if_pos h]; rfl
      · rw [if_neg (show ¬ n + a < n + b by omega), if_neg h]; rfl
theorem GF.min {f g : Nat → Wt} {m k : Wt} {L M : Nat} (a : GF f m L) (b : GF g k M) : GF (fun n => minW (f n) (g n)) (minW m k) (max L M) :=
  ⟨minW_nn a.pos b.pos, fun n => minW_ge (a.ge n) (b.ge n), fun n => minW_mono (a.mono n) (b.mono n), fun n hn => by
    show minW (f n) (g n) = _
    rw [a.out n (by omega), b.out n (by omega), minW_bey]⟩
theorem least2_ok (a b : Wt) : m_least_of [.lst [W a, W b]] = .ok (W (minW a b)) := by
  show b_least_of (.lst [W a, W b]) = _
  unfold b_least_of
  have h1 : m_is_before [W a, .non] = .ok (.bl (bef a none)) := before_W a none
  simp only [itemsR_ok, itemsD_lst, Res.ofO_some, Res.ok_bind, forR, consR_ok, callR_ok, List.append_nil, h1, truR_ok, truD_bl]
  cases a with
  | none =>
    have h2 : m_is_before [W b, .non] = .ok (.bl (bef b none)) := before_W b none
    cases b <;> simp [bef, minW] at h2 ⊢ <;> simp [h2, iteR]
  | some i =>
    have h2 : m_is_before [W b, .int i] = .ok (.bl (bef b (some i))) := before_W b (some i)
    cases b with
    | none => simp [bef, minW] at h2 ⊢; simp [h2, iteR]
    | some j =>
      simp [bef, minW] at h2 ⊢
      simp [h2, iteR]
      by_cases z : j < i
      · simp [z, show ¬ i < j by omega]
      · by_cases y : i < j
        · simp [z, y]
        · have e : i = j := by omega
          subst e
          simp
theorem or_ok {o1 o2 : D} {f1 f2 : Nat → Wt} {m1 m2 : Wt} (g1 : IsG o1 f1 m1) (g2 : IsG o2 f2 m2) : To (m_Grade_or [o1, o2]) fun o => IsG o (fun n => minW (f1 n) (f2 n)) (minW m1 m2) := by
  obtain ⟨u1, rfl, _, l1, h1⟩ := g1.ex
  obtain ⟨u2, rfl, _, l2, h2⟩ := g2.ex
  obtain ⟨L1, G1⟩ := g1.gf
  obtain ⟨L2, G2⟩ := g2.gf
  have G1' : GF f1 m1 u1.length := ⟨G1.pos, G1.ge, G1.mono, isG_out h1⟩
  have G2' : GF f2 m2 u2.length := ⟨G2.pos, G2.ge, G2.mono, isG_out h2⟩
  have G := G1'.min G2'
  show To (b_Grade_or (Gobj u1 m1) (Gobj u2 m2)) _
  unfold b_Grade_or
  have hm : (if (u2.length : Int) > u1.length then (u2.length : Int) else u1.length) = ((max u1.length u2.length : Nat) : Int) := by
    split <;> omega
  refine To.bindE (a := .int ((max u1.length u2.length : Nat) : Int)) ?_ ?_
  · simp only [op1_ok, fld_table, Res.ofO_some, consR_ok, callO_ok, lenD_tup, List.length_map, maxD_int, hm]
  refine To.bindE (a := .lst (((List.range (max u1.length u2.length)).map fun n => minW (f1 n) (f2 n)).map W)) ?_ ?_
  · have e : callOo rng1 (consR (.ok (.int ((max u1.length u2.length : Nat) : Int))) (.ok [])) = .ok ((List.range (max u1.length u2.length)).map fun (i : Nat) => D.int (i : Int)) := by
      rw [consR_ok, callOo_ok, rng1_nat (by omega), Res.ofO_some]
    rw [e, mapL_ok (h := fun n => W (minW (f1 n) (f2 n))) (by simp; omega), List.map_map]
    · rfl
    · intro n _
      have e1 := led_ok (b := true) (t := u1) (m := m1) (w := some n) (fun i e => by cases e; omega)
      simp only [sq, if_true, W_some, h1] at e1
      have e2 := led_ok (b := true) (t := u2) (m := m2) (w := some n) (fun i e => by cases e; omega)
      simp only [sq, if_true, W_some, h2] at e2
      simp only [op1_ok, fld_table, fld_more, Res.ofO_some, consR_ok, callR_ok, List.append_nil, List.cons_append, List.nil_append, e1, e2]
      rw [disp_go (by simp), lstV_ok]
      simp only [consR_ok, callR_ok, List.append_nil, least2_ok]
  have e3 : callR m_least_of [] (consR (lstV (dispR (consR (op1 (fldD at_ "more") (.ok (Gobj u1 m1))) (consR (op1 (fldD at_ "more") (.ok (Gobj u2 m2))) (.ok []))))) (.ok [])) = .ok (W (minW m1 m2)) := by
    simp only [op1_ok, fld_more, Res.ofO_some, consR_ok]
    rw [disp_go (by simp), lstV_ok]
    simp only [consR_ok, callR_ok, List.append_nil, least2_ok]
  rw [e3]
  have gd := G.good (by omega)
  refine (make_ok false gd).mono fun o ho => ho.congr fun n => G.tab n
/-! the forms -/
theorem longer_good {p : List Wt × Wt} (gp : Good p.1 p.2) (many : Nat) (hm : many ≤ 30) : ∃ q : List Wt × Wt, m__law_longer [LG p, .int many] = .ok (LG q) ∧ Good q.1 q.2 ∧ many ≤ q.1.length :=
  ⟨_, longer_ok p gp.len many (by omega), (gp.gf.weak (Nat.le_add_right _ _)).good (by have := gp.len; omega), by simp; omega⟩
def upW (w : Wt) : Wt := w.map (· + 1)
theorem upW_le {a b : Wt} (h : leW a b) : leW (upW a) (upW b) := by
  cases b with
  | none => exact leW_none _
  | some b =>
    cases a with
    | none => cases leW_of_none h
    | some a => exact leW_some.mpr (show a + 1 ≤ b + 1 from Int.add_le_add_right (leW_some.mp h) 1)
theorem GF.up {f : Nat → Wt} {m : Wt} {L : Nat} (a : GF f m L) : GF (fun n => upW (f n)) (upW m) L :=
  ⟨fun j e => by
    cases m with
    | none => cases e
    | some i => have := a.pos i rfl; cases e; show 0 ≤ i + 1; omega, fun n => by
    have := a.ge n
    cases h : f n with
    | none => exact leW_none _
    | some i => rw [h] at this; have := leW_some.mp this; exact leW_some.mpr (show (n : Int) ≤ i + 1 by omega), fun n => upW_le (a.mono n), fun n hn => by
    show upW (f n) = _
    rw [a.out n hn]
    cases m with
    | none => rfl
    | some i => show some ((n : Int) + i + 1) = some ((n : Int) + (i + 1)); congr 1; omega⟩
theorem further_ok {p : List Wt × Wt} (gp : Good p.1 p.2) : ∃ r : List Wt × Wt, m__law_further [LG p] = .ok (LG r) ∧ Good r.1 r.2 := by
  have G := gp.gf.up
  have l1 := gp.len
  refine ⟨((List.range p.1.length).map fun (n : Nat) => upW (ledF p.1 p.2 (some (n : Int))), upW p.2), ?_, G.good (by omega)⟩
  refine To.eq ?_
  show To (b__law_further (LG p)) _
  unfold b__law_further
  refine To.bindE (a := []) (by rw [dispR_ok]; rfl) ?_
  refine To.bindE (a := ((List.range p.1.length).map fun (n : Nat) => ledF p.1 p.2 (some (n : Int))).map W) (by rw [tab_eq]; simp [ix0]) ?_
  refine To.bind (To.forR (fun i s => s = ((List.range i).map fun (n : Nat) => upW (ledF p.1 p.2 (some (n : Int)))).map W) rfl fun i s d hd hs => ?_) ?_
  · rw [List.map_map] at hd
    obtain ⟨hi, rfl⟩ := map_get hd
    subst hs
    have hfin : ((List.range (i + 1)).map fun (n : Nat) => upW (ledF p.1 p.2 (some (n : Int)))).map W = ((List.range i).map fun (n : Nat) => upW (ledF p.1 p.2 (some (n : Int)))).map W ++ [W (upW (ledF p.1 p.2 (some (i : Int))))] := by
      rw [List.range_succ, List.map_append, List.map_append]
      rfl
    have hln : (((List.range i).map fun (n : Nat) => upW (ledF p.1 p.2 (some (n : Int)))).map W).length < 16777216 := by simp; omega
    rw [hfin]
    simp only [Function.comp]
    cases q : ledF p.1 p.2 (some (i : Int)) with
    | none =>
      refine To.iteT (by simp) (To.appR hln (To.ok rfl) ?_)
      rintro d rfl
      exact To.ok rfl
    | some e =>
      refine To.iteF (by simp) (To.appR hln (To.of (a := .int (e + 1)) (by simp) rfl) ?_)
      rintro d rfl
      exact To.ok rfl
  · rintro s rfl
    rw [List.length_map, List.length_map, List.length_range]
    cases q : p.2 with
    | none =>
      refine To.iteT (by simp [ix1, q]) (To.of ?_ rfl)
      rw [consR_ok, consR_ok]
      exact LG_mk _ none
    | some g =>
      refine To.iteF (by simp [ix1, q]) (To.of ?_ rfl)
      simp only [op2_ok, ix1, q, W_some, addD_int, Res.ofO_some, consR_ok]
      exact LG_mk _ (some (g + 1))
theorem GF.upd {f : Nat → Wt} {m : Wt} {L : Nat} (g : GF f m L) {a : Nat} {v : Wt} (ha : a < L) (h1 : ∀ k, k + 1 = a → leW (f k) v) (h2 : leW (some (a : Int)) v) (h3 : leW v (f (a + 1))) : GF (fun n => if n = a then v else f n) m L := by
  refine ⟨g.pos, fun n => ?_, fun n => ?_, fun n hn => ?_⟩
  · show leW _ (if n = a then v else f n)
    split
    · rename_i e; subst e; exact h2
    · exact g.ge n
  · show leW (if n = a then v else f n) (if n + 1 = a then v else f (n + 1))
    by_cases e : n = a
    · subst e
      rw [if_pos rfl, if_neg (by omega)]
      exact h3
    · rw [if_neg e]
      by_cases e2 : n + 1 = a
      · rw [if_pos e2]; exact h1 n e2
      · rw [if_neg e2]; exact g.mono n
  · show (if n = a then v else f n) = _
    rw [if_neg (by omega)]
    exact g.out n hn
theorem set_good {q : List Wt × Wt} (gq : Good q.1 q.2) {a : Nat} {v : Wt} (ha : a < q.1.length) (h1 : ∀ k : Nat, k + 1 = a → leW (ledF q.1 q.2 (some (k : Int))) v) (h2 : leW (some (a : Int)) v) (h3 : leW v (ledF q.1 q.2 (some ((a + 1 : Nat) : Int)))) : Good (q.1.set a v) q.2 := by
  have G := (gq.gf.upd ha h1 h2 h3).good gq.len
  have e : (List.range q.1.length).map (fun n => if n = a then v else ledF q.1 q.2 (some (n : Int))) = q.1.set a v := by
    apply List.ext_getElem
    · simp
    · intro i hi1 hi2
      have hi : i < q.1.length := by simpa using hi1
      simp only [List.getElem_map, List.getElem_range, List.getElem_set]
      by_cases z : a = i
      · rw [if_pos z.symm, if_pos z]
      · rw [if_neg (Ne.symm z), if_neg z]; exact ledF_in hi
  rw [e] at G
  exact G
theorem between_ok {p q : List Wt × Wt} (gq : Good q.1 q.2) (hpq : q.2 = p.2) {a : Nat} (ha : a < q.1.length) {lo r2 r3 : Int} {row : D} (x2 : ixD row (.int 2) = some (.int r2)) (x3 : ixD row (.int 3) = some (.int r3)) (hr3 : 0 ≤ r3) (hlo : leW (some lo) (ledF q.1 q.2 (some ((a + 1 : Nat) : Int)))) (hla : leW (some lo) (ledF q.1 q.2 (some (a : Int)))) :
    To (m__law_between [LG p, .lst (q.1.map W), .int a, .int lo, row]) fun d => ∃ v : Wt, d = W v ∧ leW (some lo) v ∧ leW v (ledF q.1 q.2 (some ((a + 1 : Nat) : Int))) := by
  show To (b__law_between (LG p) (.lst (q.1.map W)) (.int a) (.int lo) row) _
  unfold b__law_between
  have c1 : ((a : Int) + 1) = ((a + 1 : Nat) : Int) := by omega
  have hmono : leW (ledF q.1 q.2 (some (a : Int))) (ledF q.1 q.2 (some ((a + 1 : Nat) : Int))) := gq.mono a
  refine To.bindE rfl ?_
  refine To.bindE (a := W (ledF q.1 q.2 (some ((a + 1 : Nat) : Int)))) ?_ ?_
  · simp only [op2_ok, addD_int, c1, Res.ofO_some, consR_ok, callO_ok, lenD_lst, List.length_map, ltD_int, blR_ok]
    by_cases z : a + 1 < q.1.length
    · rw [decide_eq_true (show ((a + 1 : Nat) : Int) < (q.1.length : Int) by omega)]
      simp only [ix_lst (get_W z), Res.ofO_some, Res.ok_bind, ledF_in z]
      rfl
    · rw [decide_eq_false (show ¬ ((a + 1 : Nat) : Int) < (q.1.length : Int) by omega), ledF_out (show (q.1.length : Int) ≤ ((a + 1 : Nat) : Int) by omega)]
      have e : ((a + 1 : Nat) : Int) = q.1.length := by omega
      rw [e]
      cases h : q.2 with
      | none =>
        have h' : p.2 = none := hpq.symm.trans h
        simp [ix1, h', iteR, bey]
      | some g =>
        have h' : p.2 = some g := hpq.symm.trans h
        simp [ix1, h', iteR, bey]
  generalize ledF q.1 q.2 (some ((a + 1 : Nat) : Int)) = hi at hlo hmono ⊢
  have ea : ledF q.1 q.2 (some (a : Int)) = q.1[a] := ledF_in ha
  rw [ea] at hmono hla
  refine To.bindE (a := W q.1[a]) (by simp only [op2_ok, ix_lst (get_W ha), Res.ofO_some]) ?_
  generalize q.1[a] = en at hmono hla
  simp only [op2_ok, x2, x3, Res.ofO_some, eqD_int, blR_ok]
  refine To.ite (k := decide (r2 = 0)) rfl (fun _ => To.ok ⟨some lo, rfl, leW_refl _, hlo⟩) (fun _ => ?_)
  refine To.ite (k := decide (r2 = 1) && (en.isSome && (hi.isNone || bef en hi))) ?_ (fun z => ?_) (fun _ => ?_)
  · cases en <;> cases hi <;> by_cases y : r2 = 1 <;> simp [y, bef]
  · simp only [Bool.and_eq_true] at z
    cases en with
    | none => simp at z
    | some e =>
      refine To.of (a := W (some (e + 1))) (by simp) ⟨_, rfl, leW_some.mpr (by have := leW_some.mp hla; omega), ?_⟩
      cases hi with
      | none => exact leW_none _
      | some h =>
        have := z.2.2
        simp [bef] at this
        exact leW_some.mpr (by omega)
  refine To.ite (k := decide (r2 = 2) && (en.isSome && bef (some lo) en && en.isSome)) ?_ (fun z => ?_) (fun _ => ?_)
  · cases en <;> by_cases y : r2 = 2 <;> simp [y, bef]
  · simp only [Bool.and_eq_true] at z
    cases en with
    | none => simp at z
    | some e =>
      have hb := z.2.1.2
      simp [bef] at hb
      refine To.of (a := W (some (e - 1))) (by simp) ⟨_, rfl, leW_some.mpr (by omega), leW_trans (leW_some.mpr (by omega)) hmono⟩
  refine To.ite (k := decide (r2 < 4) || (hi.isNone && decide (r2 = 4))) ?_ (fun z => To.ok ⟨hi, rfl, hlo, leW_refl _⟩) (fun _ => ?_)
  · cases hi <;> by_cases y : r2 < 4 <;> by_cases y2 : r2 = 4 <;> simp [y, y2]
  cases hi with
  | none => exact To.iteT (by simp) (To.of (a := W (some (lo + r3))) (by simp) ⟨_, rfl, leW_some.mpr (by omega), leW_none _⟩)
  | some h =>
    have hl := leW_some.mp hlo
    have hp : 0 < h - lo + 1 := by omega
    have m1 := Int.emod_nonneg r3 (show h - lo + 1 ≠ 0 by omega)
    have m2 := Int.emod_lt_of_pos r3 hp
    refine To.iteF (by simp) (To.of (a := W (some (lo + r3 % (h - lo + 1)))) ?_ ⟨_, rfl, leW_some.mpr (by omega), leW_some.mpr (by omega)⟩)
    simp only [W_some, op2_ok, subD_int, Res.ofO_some, addD_int, consR_ok, callO_ok, intD_int, modD_pos hp]
theorem nn_good {p : List Wt × Wt} (g : Good p.1 p.2) (n : Nat) : nn (ledF p.1 p.2 (some (n : Int))) := fun j e => by
  have := g.ge n
  rw [e] at this
  have := leW_some.mp this
  omega
theorem nudged_ok {p : List Wt × Wt} (gp : Good p.1 p.2) (c : Int) : ∃ r : List Wt × Wt, m__law_nudged [LG p, .int c] = .ok (LG r) ∧ Good r.1 r.2 := by
  have main : To (b__law_nudged (LG p) (.int c)) fun d => ∃ r : List Wt × Wt, d = LG r ∧ Good r.1 r.2 := by
    unfold b__law_nudged
    obtain ⟨row, er, hlen, hrow⟩ := digits_ok c [4, 30, 6, 100000000000000000000] (by decide +kernel) (by decide)
    refine To.bindE (a := .lst (row.map D.int)) ?_ ?_
    · simp only [consR_ok, op2_ok, p20, Res.ofO_some]
      rw [disp_go (by simp)]
      simp only [lstV_ok, consR_ok, callR_ok, List.append_nil]
      exact er
    match row, hlen with
    | [r0, r1, r2, r3], _ =>
    have h1 := hrow 1 r1 30 rfl rfl
    have h3 := hrow 3 r3 _ rfl rfl
    have x0 : ixD (.lst ([r0, r1, r2, r3].map D.int)) (.int 0) = some (.int r0) := ix_lst (n := 0) rfl
    have x1 : ixD (.lst ([r0, r1, r2, r3].map D.int)) (.int 1) = some (.int r1) := ix_lst (n := 1) rfl
    have x2 : ixD (.lst ([r0, r1, r2, r3].map D.int)) (.int 2) = some (.int r2) := ix_lst (n := 2) rfl
    have x3 : ixD (.lst ([r0, r1, r2, r3].map D.int)) (.int 3) = some (.int r3) := ix_lst (n := 3) rfl
    generalize D.lst ([r0, r1, r2, r3].map D.int) = rw at x0 x1 x2 x3
    clear hrow er
    refine To.bindE (a := .lst (p.1.map W)) (by simp only [op2_ok, ix0, Res.ofO_some]) ?_
    refine To.bind (P := fun d => ∃ q : List Wt × Wt, d = .lst (q.1.map W) ∧ q.2 = p.2 ∧ Good q.1 q.2 ∧ 0 < q.1.length) ?_ ?_
    · refine To.ite (k := decide (1 < r0) || decide ((p.1.length : Int) = 0)) ?_ (fun _ => ?_) (fun z => ?_)
      · simp only [op2_ok, x0, Res.ofO_some, gtD_int, blR_ok, consR_ok, callO_ok, lenD_lst, List.length_map, eqD_int]
        cases decide (1 < r0) <;> simp
      · obtain ⟨N, rfl⟩ := Int.eq_ofNat_of_zero_le h1.1
        have e1 : ((N : Int) + 1) = ((N + 1 : Nat) : Int) := by omega
        have lo := longer_ok p gp.len (N + 1) (by omega)
        have lg : Good ((List.range (p.1.length + (N + 1 - p.1.length))).map (fun (n : Nat) => ledF p.1 p.2 (some (n : Int)))) p.2 := (gp.gf.weak (Nat.le_add_right _ _)).good (by have := gp.len; omega)
        have hT : 0 < ((List.range (p.1.length + (N + 1 - p.1.length))).map (fun (n : Nat) => ledF p.1 p.2 (some (n : Int)))).length := by simp; omega
        generalize (List.range (p.1.length + (N + 1 - p.1.length))).map (fun (n : Nat) => ledF p.1 p.2 (some (n : Int))) = T at lo lg hT
        refine To.bindE (a := .lst (T.map W)) ?_ (To.ok ⟨(T, p.2), rfl, rfl, lg, hT⟩)
        simp only [op2_ok, x1, Res.ofO_some, addD_int, e1, consR_ok, callR_ok, List.append_nil, lo, ix0]
      · rw [Bool.or_eq_false_iff] at z
        have := of_decide_eq_false z.2
        exact To.ok ⟨p, rfl, rfl, gp, by omega⟩
    rintro d ⟨q, rfl, hq2, gq, hq0⟩
    have hql := gq.len
    -- the place
    have hm0 := Int.emod_nonneg r1 (show (q.1.length : Int) ≠ 0 by omega)
    have hm1 := Int.emod_lt_of_pos r1 (show (0 : Int) < q.1.length by omega)
    refine To.bindE (a := .int (r1 % q.1.length)) ?_ ?_
    · simp only [op2_ok, x1, Res.ofO_some, consR_ok, callO_ok, intD_int, lenD_lst, List.length_map, modD_pos (show (0 : Int) < q.1.length by omega)]
    refine To.bind (P := fun d => ∃ a : Nat, d = .int a ∧ a < q.1.length) ?_ ?_
    · refine To.ite (k := decide (r0 = 1)) (by simp only [op2_ok, x0, Res.ofO_some, eqD_int, blR_ok]) (fun _ => ?_) (fun _ => ?_)
      · exact To.of (a := .int ((q.1.length - 1 : Nat) : Int)) (by simp; omega) ⟨_, rfl, by omega⟩
      · exact To.ok ⟨(r1 % q.1.length).toNat, by congr 1; omega, by omega⟩
    rintro d ⟨a, rfl, ha⟩
    refine To.bindE rfl ?_
    refine To.bind (P := fun d => ∃ l : Wt, d = W l ∧ (∀ k : Nat, k + 1 = a → l = ledF q.1 q.2 (some (k : Int))) ∧ (a = 0 → l = some 0)) ?_ ?_
    · cases a with
      | zero => exact To.iteF (by simp) (To.ok ⟨some 0, rfl, fun k e => (by omega), fun _ => rfl⟩)
      | succ b =>
        have e1 : ((b + 1 : Nat) : Int) - 1 = b := by omega
        have e0 : (0 : Int) < ((b + 1 : Nat) : Int) := by omega
        have hb : b < q.1.length := by omega
        refine To.iteT (by simp only [op2_ok, gtD_int, Res.ofO_some, blR_ok, decide_eq_true e0]) (To.of (a := W q.1[b]) ?_ ⟨q.1[b], rfl, fun k e => ?_, fun e => (by omega)⟩)
        · simp only [op2_ok, subD_int, Res.ofO_some, e1, ix_lst (get_W hb), Res.ok_bind]
        · have : k = b := by omega
          subst this
          exact (ledF_in hb).symm
    rintro d ⟨l, rfl, hl1, hl0⟩
    cases l with
    | none =>
      refine To.iteT (by simp) (To.of (a := LG (q.1, p.2)) ?_ ⟨(q.1, p.2), rfl, by rw [← hq2]; exact gq⟩)
      simp only [op2_ok, ix1, Res.ofO_some, consR_ok]
      exact LG_mk _ _
    | some l =>
      refine To.iteF (by simp) ?_
      have hprev : ∀ k : Nat, k + 1 = a → leW (ledF q.1 q.2 (some (k : Int))) (ledF q.1 q.2 (some (a : Int))) := fun k e => by subst e; exact gq.mono k
      have hla : leW (some (if (a : Int) > l then (a : Int) else l)) (ledF q.1 q.2 (some (a : Int))) := by
        split
        · exact gq.ge a
        · cases a with
          | zero => have := hl0 rfl; cases this; exact gq.ge 0
          | succ b => rw [hl1 b rfl]; exact hprev b rfl
      have hmono : leW (ledF q.1 q.2 (some (a : Int))) (ledF q.1 q.2 (some ((a + 1 : Nat) : Int))) := gq.mono a
      obtain ⟨d, eb, v, rfl, hv1, hv2⟩ := between_ok (p := p) gq hq2 ha x2 x3 h3.1 (leW_trans hla hmono) hla
      have e1 : ((a : Int) + 1) = ((a + 1 : Nat) : Int) := by omega
      have gs := set_good gq ha (v := v) (fun k e => by
        rw [← hl1 k e]
        exact leW_trans (leW_some.mpr (by split <;> omega)) hv1) (leW_trans (leW_some.mpr (by split <;> omega)) hv1) hv2
      refine To.of (a := LG (q.1.set a v, p.2)) ?_ ⟨(q.1.set a v, p.2), rfl, by rw [← hq2]; exact gs⟩
      have ec : callR m__law_between [] (consR (.ok (LG p)) (consR (.ok (.lst (q.1.map W))) (consR (.ok (.int a)) (consR (callO maxD (consR (.ok (W (some l))) (consR (.ok (.int a)) (.ok [])))) (consR (.ok rw) (.ok [])))))) = .ok (W v) := by
        simp only [W_some, consR_ok, callO_ok, maxD_int, Res.ofO_some, callR_ok, List.append_nil]
        exact eb
      rw [ec]
      simp only [op2_ok, addD_int, Res.ofO_some, e1, ix1, consR_ok]
      rw [slice_lst_take _ _ (by simp; omega), slice_lst_drop, disp_go (by simp)]
      simp only [lstV_ok, op2_ok]
      rw [addD_lst (by simp; omega), Res.ofO_some, op2_ok, addD_lst (by simp; omega), Res.ofO_some, consR_ok]
      have es : (q.1.map W).take a ++ [W v] ++ (q.1.map W).drop (a + 1) = (q.1.set a v).map W := by
        rw [List.set_eq_take_append_cons_drop, if_pos ha]
        simp [List.map_take, List.map_drop]
      rw [es]
      exact LG_mk _ _
  obtain ⟨d, e, r, rfl, h⟩ := main
  exact ⟨r, e, h⟩
theorem gain_good {q : List Wt × Wt} (gq : Good q.1 q.2) {g : Wt} (hn : nn g) (hl : ∀ k : Nat, k + 1 = q.1.length → leW (ledF q.1 q.2 (some (k : Int))) (bey (k + 1 : Nat) g)) : Good q.1 g := by
  have e : ∀ n : Nat, n < q.1.length → ledF q.1 g (some (n : Int)) = ledF q.1 q.2 (some (n : Int)) := fun n hn => by rw [ledF_in hn, ledF_in hn]
  have bge : ∀ n : Nat, leW (some (n : Int)) (bey n g) := fun n => by
    cases g with
    | none => exact leW_none _
    | some g => have := hn g rfl; exact leW_some.mpr (show (n : Int) ≤ n + g by omega)
  refine ⟨gq.len, hn, fun n => ?_, fun n => ?_⟩
  · rcases Nat.lt_or_ge n q.1.length with z | z
    · rw [e n z]; exact gq.ge n
    · rw [ledF_out (by omega)]; exact bge n
  · rcases Nat.lt_or_ge (n + 1) q.1.length with y | y
    · rw [e n (by omega), e (n + 1) y]; exact gq.mono n
    · rw [ledF_out (show (q.1.length : Int) ≤ ((n + 1 : Nat) : Int) by omega)]
      rcases Nat.lt_or_ge n q.1.length with z | z
      · rw [e n z]; exact hl n (by omega)
      · rw [ledF_out (by omega)]
        cases g with
        | none => exact leW_none _
        | some g => exact leW_some.mpr (show (n : Int) + g ≤ ((n + 1 : Nat) : Int) + g by omega)
theorem other_gain_ok {p : List Wt × Wt} (gp : Good p.1 p.2) (c : Int) : ∃ r : List Wt × Wt, m__law_other_gain [LG p, .int c] = .ok (LG r) ∧ Good r.1 r.2 := by
  have main : To (b__law_other_gain (LG p) (.int c)) fun d => ∃ r : List Wt × Wt, d = LG r ∧ Good r.1 r.2 := by
    unfold b__law_other_gain
    obtain ⟨row, er, hlen, hrow⟩ := digits_ok c [5, 100000000000000000000] (by decide +kernel) (by decide)
    refine To.bindE (a := .lst (row.map D.int)) ?_ ?_
    · simp only [consR_ok, op2_ok, p20, Res.ofO_some]
      rw [disp_go (by simp)]
      simp only [lstV_ok, consR_ok, callR_ok, List.append_nil]
      exact er
    match row, hlen with
    | [r0, r1], _ =>
    have h0 := hrow 0 r0 5 rfl rfl
    have h1 := hrow 1 r1 _ rfl rfl
    have x0 : ixD (.lst ([r0, r1].map D.int)) (.int 0) = some (.int r0) := ix_lst (n := 0) rfl
    have x1 : ixD (.lst ([r0, r1].map D.int)) (.int 1) = some (.int r1) := ix_lst (n := 1) rfl
    generalize D.lst ([r0, r1].map D.int) = rw at x0 x1
    clear hrow er
    have hpl := gp.len
    refine To.bindE (a := .lst (p.1.map W)) (by simp only [op2_ok, ix0, Res.ofO_some]) ?_
    refine To.bindE rfl ?_
    refine To.bind (P := fun fl => fl = .rt (LG p) ∨ ∃ l : Int, fl = .nx (.int l) ∧ 0 ≤ l ∧ ∀ k : Nat, k + 1 = p.1.length → leW (ledF p.1 p.2 (some (k : Int))) (some ((k + 1 : Nat) + l))) ?_ ?_
    · by_cases hz : p.1.length = 0
      · refine To.iteF ?_ (To.ok (.inr ⟨0, rfl, by omega, fun k e => (by omega)⟩))
        simp only [consR_ok, callO_ok, lenD_lst, List.length_map, Res.ofO_some, op2_ok, gtD_int, blR_ok]
        rw [decide_eq_false (by omega)]
      · obtain ⟨k, hk⟩ : ∃ k, p.1.length = k + 1 := ⟨p.1.length - 1, by omega⟩
        have e1 : ((k + 1 : Nat) : Int) - 1 = k := by omega
        have hk' : k < p.1.length := by omega
        refine To.iteT ?_ ?_
        · simp only [consR_ok, callO_ok, lenD_lst, List.length_map, Res.ofO_some, op2_ok, gtD_int, blR_ok]
          rw [decide_eq_true (by omega)]
        simp only [consR_ok, callO_ok, lenD_lst, List.length_map, Res.ofO_some, op2_ok, hk, subD_int, e1, ix_lst (get_W hk')]
        have hl := ledF_in (m := p.2) hk'
        cases q : p.1[k] with
        | none => exact To.iteT (by simp) (To.ok (.inl rfl))
        | some v =>
          refine To.iteF (by simp) (To.of (a := .nx (.int (if v - ((k + 1 : Nat) : Int) > 0 then v - ((k + 1 : Nat) : Int) else 0))) (by simp) (.inr ⟨_, rfl, by split <;> omega, fun j e => ?_⟩))
          have : j = k := by omega
          subst this
          rw [hl, q]
          exact leW_some.mpr (by split <;> omega)
    rintro fl (rfl | ⟨l, rfl, hl0, hl⟩)
    · exact To.ok ⟨p, rfl, gp⟩
    show To (Res.bind _ _) _
    refine To.bind (P := fun d => ∃ g : Wt, d = W g ∧ leW (some l) g) ?_ ?_
    · obtain ⟨x, hx, e2⟩ := pickW (l := [some l, some (l + 1), some (l + 1 + r1 % 9), some (l + r1), none]) (n := r0) h0.1 (by simp; omega)
      refine To.of (a := W x) ?_ ⟨x, rfl, ?_⟩
      · simp only [op2_ok, x0, x1, Res.ofO_some, addD_int, consR_ok, callO_ok, intD_int, modD_pos (show (0 : Int) < 9 by decide)]
        rw [disp_go (by simp)]
        simp only [lstV_ok, op2_ok]
        have e3 : ixD (.lst [.int l, .int (l + 1), .int (l + 1 + r1 % 9), .int (l + r1), .non]) (.int r0) = some (W x) := e2
        rw [e3]
        rfl
      · simp only [List.mem_cons, List.not_mem_nil, or_false] at hx
        rcases hx with rfl | rfl | rfl | rfl | rfl
        · exact leW_refl _
        · exact leW_some.mpr (by omega)
        · exact leW_some.mpr (by omega)
        · exact leW_some.mpr (by omega)
        · exact leW_none _
    rintro d ⟨g, rfl, hg⟩
    refine To.bind (P := fun d => ∃ g : Wt, d = W g ∧ leW (some l) g) ?_ ?_
    · cases g with
      | none => exact To.iteF (by simp) (To.ok ⟨none, rfl, leW_none _⟩)
      | some g =>
        have e := eqD_W (some g) p.2
        simp only [W_some] at e
        refine To.ite (k := decide (some g = p.2)) ?_ (fun _ => ?_) (fun _ => To.ok ⟨some g, rfl, hg⟩)
        · simp only [op2_ok, W_some, notND_non, isNon_int, Bool.not_false, Res.ofO_some, ix1, e, blR_ok, andB_true]
        · have := leW_some.mp hg
          exact To.of (a := W (some (g + 1))) (by simp) ⟨_, rfl, leW_some.mpr (by omega)⟩
    rintro d ⟨g, rfl, hg⟩
    have gg : Good p.1 g := gain_good gp (fun j e => by
      rw [e] at hg
      have := leW_some.mp hg
      omega) fun k e => by
      refine leW_trans (hl k e) ?_
      cases g with
      | none => exact leW_none _
      | some g => have := leW_some.mp hg; exact leW_some.mpr (show ((k + 1 : Nat) : Int) + l ≤ ((k + 1 : Nat) : Int) + g by omega)
    refine To.of (a := LG (p.1, g)) ?_ ⟨(p.1, g), rfl, gg⟩
    simp only [consR_ok]
    exact LG_mk _ _
  obtain ⟨d, e, r, rfl, h⟩ := main
  exact ⟨r, e, h⟩
/-! where a grade stands -/
def rf (p : List Wt × Wt) : (Nat → Wt) × Wt := (fun (n : Nat) => ledF p.1 p.2 (some (n : Int)), p.2)
theorem p18 : powD (.int 10) (.int 18) = some (.int 1000000000000000000) := by rw [powD_int (by decide) (by decide) (by decide)]; rfl
theorem p40 : powD (.int 10) (.int 40) = some (.int 10000000000000000000000000000000000000000) := by rw [powD_int (by decide) (by decide) (by decide)]; rfl
def nInt (n : Nat) : D := .int (n : Int)
theorem compR_nat {fc : D → Res Bool} {P : Nat → Bool} : ∀ l : List Nat, (∀ n ∈ l, fc (nInt n) = .ok (P n)) → compR fc (fun d => .ok d) (l.map nInt) = .ok ((l.filter P).map nInt)
  | [], _ => rfl
  | n :: l, h => by
    have ih := compR_nat l fun k hk => h k (List.mem_cons_of_mem _ hk)
    rw [List.map_cons, compR, h n List.mem_cons_self, ih, List.filter_cons]
    cases P n <;> rfl
def rowsOf (u : List Wt) (m : Wt) : List Nat := (List.range u.length).filter fun n => decide (ledF u m (some (n : Int)) = some (n : Int))
theorem rows_ok (b : Bool) (u : List Wt) (m : Wt) (hu : u.length ≤ 30) (fc : D → Res Bool) (hfc : ∀ d, fc d = blR (op2 eqD (op2 ixD (.ok (sq b (u.map W))) (.ok d)) (.ok d))) : compL fc (fun d => .ok d) (.ok ((List.range u.length).map fun (i : Nat) => D.int (i : Int))) = .ok ((rowsOf u m).map nInt) := by
  unfold compL
  rw [Res.ok_bind, sizeLine_eq, if_pos (by simp; omega)]
  refine compR_nat _ fun n hn => ?_
  have hn : n < u.length := by simpa using hn
  have e := eqD_W u[n] (some (n : Int))
  simp only [W_some] at e
  rw [hfc]
  show blR (op2 eqD (op2 ixD (.ok (sq b (u.map W))) (.ok (.int n))) (.ok (.int n))) = _
  rw [op2_ok, ix_sq (get_W hn), Res.ofO_some, op2_ok, e, ledF_in hn]
  rfl
def toldT (r : List Nat) (b : Bool) : D := .tup [.tup (r.map nInt), .bl b]
theorem nInt_W (r : List Nat) : r.map nInt = (r.map fun (n : Nat) => some (n : Int)).map W := by
  rw [List.map_map]; rfl
theorem neD_told (r : List Nat) (b : Bool) : neD (toldT r b) (toldT r b) = some (.bl false) := by
  have e : toP (toldT r b) = some (.tuple [.tuple ((r.map fun (n : Nat) => some (n : Int)).map pW), .bool b]) := by
    unfold toldT
    rw [nInt_W]
    simp only [toP, toPs, toPs_W, Option.map_some]
  have hl : ∀ u : List Wt, PyData.canLayAll0 (u.map pW) = true := by
    intro u
    induction u with
    | nil => simp [PyData.canLayAll0]
    | cons w u ih => cases w <;> simp [PyData.canLayAll0, PyData.canLay0, pW, ih]
  have hd : ∀ u : List Wt, PyData.depthAll (u.map pW) = 0 := by
    intro u
    induction u with
    | nil => simp [PyData.depthAll]
    | cons w u ih => cases w <;> simp [PyData.depthAll, PyData.depth, pW, ih]
  have hs : ∀ w : List Wt, SeqAt.shaped (.tuple [.tuple (w.map pW), .bool b]) = true := fun w => by
    simp [SeqAt.shaped, PyData.canLay0, PyData.canLayAll0, PyData.depth, PyData.depthAll, hl, hd]
  have hv : ∀ w : List Wt, PyData.eqv (.tuple [.tuple (w.map pW), .bool b]) (.tuple [.tuple (w.map pW), .bool b]) = true := fun w => by
    simp [PyData.eqv, PyData.eqvAll, eqvAll_W]
  unfold neD
  rw [e]
  simp only [hs, hv, Bool.and_self, if_true, Bool.not_true]
theorem more0 (m : Wt) : op2 eqD (.ok (W m)) (.ok (.int 0)) = .ok (.bl (decide (m = some 0))) := by
  have e := eqD_W m (some 0)
  simp only [W_some] at e
  rw [op2_ok, e]
  rfl
theorem rows_len (u : List Wt) (m : Wt) : (rowsOf u m).length ≤ u.length := by
  have := List.length_filter_le (fun (n : Nat) => decide (ledF u m (some (n : Int)) = some (n : Int))) (List.range u.length)
  simpa [rowsOf] using this
theorem least_uniq {f : Nat → Wt} {B B' : Nat} {s s' : Wt} (h : LeastSt f B s) (h' : LeastSt f B' s') : s = s' := by
  rcases h with ⟨rfl, h⟩ | ⟨k, rfl, hk, hkl, _⟩
  · rcases h' with ⟨rfl, _⟩ | ⟨j, rfl, hj, _, _⟩
    · rfl
    · exact absurd hj (h j)
  · rcases h' with ⟨rfl, h'⟩ | ⟨j, rfl, hj, hjl, _⟩
    · exact absurd hk (h' k)
    · rcases Nat.lt_trichotomy k j with w | w | w
      · exact absurd hk (hjl k w)
      · rw [w]
      · exact absurd hj (hkl j w)
theorem rows_head {u : List Wt} {m : Wt} {n : Nat} {r : List Nat} (h : rowsOf u m = n :: r) : n < u.length ∧ ledF u m (some (n : Int)) = some (n : Int) ∧ ∀ j : Nat, j < n → ledF u m (some (j : Int)) ≠ some (j : Int) := by
  have hm : ∀ k, k ∈ rowsOf u m ↔ k < u.length ∧ ledF u m (some (k : Int)) = some (k : Int) := fun k => by simp [rowsOf]
  have h1 := (hm n).mp (by rw [h]; exact List.mem_cons_self)
  refine ⟨h1.1, h1.2, fun j hj e => ?_⟩
  have hjm := (hm j).mpr ⟨by omega, e⟩
  have hp : (rowsOf u m).Pairwise (· < ·) := List.Pairwise.filter _ List.pairwise_lt_range
  rw [h] at hjm hp
  rcases List.mem_cons.mp hjm with rfl | hjr
  · omega
  · have := (List.pairwise_cons.mp hp).1 j hjr
    omega
theorem rows_nil {u : List Wt} {m : Wt} (h : rowsOf u m = []) : ∀ n : Nat, n < u.length → ledF u m (some (n : Int)) ≠ some (n : Int) := fun n hn e => by
  have : n ∈ rowsOf u m := by simp [rowsOf, hn, e]
  rw [h] at this
  cases this
theorem propR_G (m : List D → Res D) (u : List Wt) (k : Wt) : propR 0 m (.ok (Gobj u k)) = noErr (m [Gobj u k]) := rfl
theorem methR_G (m : List D → Res D) (u : List Wt) (k : Wt) (l : List D) : methR 0 m [] (.ok (Gobj u k)) (.ok l) = m (Gobj u k :: (l ++ [])) := rfl
theorem callI_G (m : List D → Res D) (u : List Wt) (k : Wt) (l : List D) : callI 0 m (.ok (Gobj u k)) (.ok l) = m (Gobj u k :: l) := rfl
theorem own2R_G (m : List D → Res D) (u v : List Wt) (k j : Wt) : own2R 0 m (.ok (Gobj u k)) (.ok (Gobj v j)) = m [Gobj u k, Gobj v j] := rfl
/-! groupings -/
theorem ownEqR_G (m : List D → Res D) (u v : List Wt) (k j : Wt) : ownEqR sub_ 0 m (.ok (Gobj u k)) (.ok (Gobj v j)) = m [Gobj u k, Gobj v j] := rfl
/-- objects that are the grades of a row of functions -/
inductive Objs : List D → List ((Nat → Wt) × Wt) → Prop
  | nil : Objs [] []
  | cons {o : D} {r : (Nat → Wt) × Wt} {os : List D} {rs : List ((Nat → Wt) × Wt)} : IsG o r.1 r.2 → Objs os rs → Objs (o :: os) (r :: rs)
theorem Objs.length : ∀ {os : List D} {rs : List ((Nat → Wt) × Wt)}, Objs os rs → os.length = rs.length
  | _, _, .nil => rfl
  | _, _, .cons _ h => congrArg (· + 1) h.length
theorem Objs.get : ∀ {os : List D} {rs : List ((Nat → Wt) × Wt)}, Objs os rs → ∀ (i : Nat) (h : i < os.length) (h' : i < rs.length), IsG os[i] rs[i].1 rs[i].2
  | _, _, .nil, i, h, _ => absurd h (Nat.not_lt_zero i)
  | _, _, .cons g r, 0, _, _ => g
  | _, _, .cons g r, i + 1, h, h' => r.get i (Nat.lt_of_succ_lt_succ h) (Nat.lt_of_succ_lt_succ h')
theorem Objs.append : ∀ {os ps : List D} {rs qs : List ((Nat → Wt) × Wt)}, Objs os rs → Objs ps qs → Objs (os ++ ps) (rs ++ qs)
  | _, _, _, _, .nil, h => h
  | _, _, _, _, .cons g r, h => .cons g (r.append h)
theorem Objs.take : ∀ {os : List D} {rs : List ((Nat → Wt) × Wt)} (n : Nat), Objs os rs → Objs (os.take n) (rs.take n)
  | _, _, 0, _ => .nil
  | _, _, _ + 1, .nil => .nil
  | _, _, n + 1, .cons g r => .cons g (r.take n)
theorem Objs.drop : ∀ {os : List D} {rs : List ((Nat → Wt) × Wt)} (n : Nat), Objs os rs → Objs (os.drop n) (rs.drop n)
  | _, _, 0, h => h
  | _, _, _ + 1, .nil => .nil
  | _, _, n + 1, .cons g r => r.drop n
def allF (rs : List ((Nat → Wt) × Wt)) (w : Wt) : Wt := rs.foldl (fun w r => apF r.1 w) w
def allM (rs : List ((Nat → Wt) × Wt)) : Wt := rs.foldl (fun w r => addW w r.2) (some 0)
theorem addW_assoc (a b c : Wt) : addW (addW a b) c = addW a (addW b c) := by
  cases a <;> cases b <;> cases c <;> simp [addW, Int.add_assoc]
theorem addW_zero (a : Wt) : addW (some 0) a = a := by cases a <;> simp [addW]
def two (r q : (Nat → Wt) × Wt) : (Nat → Wt) × Wt := (fun n => apF q.1 (r.1 n), addW r.2 q.2)
theorem apF_two (r q : (Nat → Wt) × Wt) (w : Wt) : apF (two r q).1 w = apF q.1 (apF r.1 w) := by cases w <;> rfl
theorem merge_F {rs : List ((Nat → Wt) × Wt)} {i : Nat} (h : i + 1 < rs.length) (w : Wt) : allF (rs.take i ++ [two rs[i] rs[i + 1]] ++ rs.drop (i + 2)) w = allF rs w := by
  have e : rs = rs.take i ++ [rs[i], rs[i + 1]] ++ rs.drop (i + 2) := by
    have h1 : rs.drop i = rs[i] :: rs.drop (i + 1) := List.drop_eq_getElem_cons (by omega)
    have h2 : rs.drop (i + 1) = rs[i + 1] :: rs.drop (i + 2) := List.drop_eq_getElem_cons h
    conv => lhs; rw [← List.take_append_drop i rs, h1, h2]
    simp
  conv => rhs; rw [e]
  unfold allF
  simp only [List.foldl_append, List.foldl_cons, List.foldl_nil, apF_two]
theorem merge_M {rs : List ((Nat → Wt) × Wt)} {i : Nat} (h : i + 1 < rs.length) : allM (rs.take i ++ [two rs[i] rs[i + 1]] ++ rs.drop (i + 2)) = allM rs := by
  have e : rs = rs.take i ++ [rs[i], rs[i + 1]] ++ rs.drop (i + 2) := by
    have h1 : rs.drop i = rs[i] :: rs.drop (i + 1) := List.drop_eq_getElem_cons (by omega)
    have h2 : rs.drop (i + 1) = rs[i + 1] :: rs.drop (i + 2) := List.drop_eq_getElem_cons h
    conv => lhs; rw [← List.take_append_drop i rs, h1, h2]
    simp
  conv => rhs; rw [e]
  unfold allM
  simp only [List.foldl_append, List.foldl_cons, List.foldl_nil, two, addW_assoc]
/-! the two looks -/
/-- whether all stand -/
def allSt (gs : List (List Wt × Wt)) (n : Nat) : Bool := gs.all fun p => decide (ledF p.1 p.2 (some (n : Int)) = some (n : Int))
/-! rows of grades -/
theorem nn_nat (n : Nat) : nn (some (n : Int)) := fun j e => by cases e; omega
theorem allF_thr : ∀ (gs : List (List Wt × Wt)) {w : Wt}, (∀ p ∈ gs, Good p.1 p.2) → nn w → allF (gs.map rf) w = thr gs w
  | [], _, _, _ => rfl
  | p :: gs, w, h, hw => by
    have hp := h p List.mem_cons_self
    have e : apF (rf p).1 w = ledF p.1 p.2 w := (IsG.fl (fun _ => rfl) hw).symm
    show allF (gs.map rf) (apF (rf p).1 w) = thr gs (ledF p.1 p.2 w)
    rw [e]
    exact allF_thr gs (fun q hq => h q (List.mem_cons_of_mem _ hq)) (nn_led hp hw)
theorem allM_tot (gs : List (List Wt × Wt)) : allM (gs.map rf) = tot gs := by
  unfold allM tot
  rw [List.foldl_map]
  rfl
theorem led_ge {p : List Wt × Wt} (g : Good p.1 p.2) {w : Wt} (hw : nn w) : leW w (ledF p.1 p.2 w) := by
  cases w with
  | none => exact leW_none _
  | some i =>
    obtain ⟨n, rfl⟩ := Int.eq_ofNat_of_zero_le (hw i rfl)
    exact g.ge n
theorem thr_ge : ∀ (gs : List (List Wt × Wt)) {w : Wt}, (∀ p ∈ gs, Good p.1 p.2) → nn w → leW w (thr gs w)
  | [], _, _, _ => leW_refl _
  | p :: gs, w, h, hw => by
    have hp := h p List.mem_cons_self
    exact leW_trans (led_ge hp hw) (thr_ge gs (w := ledF p.1 p.2 w) (fun q hq => h q (List.mem_cons_of_mem _ hq)) (nn_led hp hw))
theorem allSt_iff : ∀ (gs : List (List Wt × Wt)), (∀ p ∈ gs, Good p.1 p.2) → ∀ n : Nat, thr gs (some (n : Int)) = some (n : Int) ↔ allSt gs n = true
  | [], _, n => by simp [thr, allSt]
  | p :: gs, h, n => by
    have hp := h p List.mem_cons_self
    have hr : ∀ q ∈ gs, Good q.1 q.2 := fun q hq => h q (List.mem_cons_of_mem _ hq)
    have ih := allSt_iff gs hr n
    have e : allSt (p :: gs) n = (decide (ledF p.1 p.2 (some (n : Int)) = some (n : Int)) && allSt gs n) := rfl
    rw [e, Bool.and_eq_true, decide_eq_true_iff, ← ih]
    show thr gs (ledF p.1 p.2 (some (n : Int))) = some (n : Int) ↔ _
    constructor
    · intro y
      have h1 := thr_ge gs hr (nn_led hp (nn_nat n))
      rw [y] at h1
      have h2 := leW_antisymm h1 (led_ge hp (nn_nat n))
      refine ⟨h2, ?_⟩
      rw [h2] at y
      exact y
    · rintro ⟨y, z⟩
      rw [y]; exact z
theorem mx_fold : ∀ (gs : List (List Wt × Wt)) (L : Nat), L ≤ gs.foldl (fun n p => max n p.1.length) L ∧ ∀ p ∈ gs, p.1.length ≤ gs.foldl (fun n p => max n p.1.length) L
  | [], L => ⟨Nat.le_refl _, fun p hp => by simp at hp⟩
  | q :: gs, L => by
    obtain ⟨h1, h2⟩ := mx_fold gs (max L q.1.length)
    refine ⟨Nat.le_trans (Nat.le_max_left _ _) h1, fun p hp => ?_⟩
    rcases List.mem_cons.mp hp with rfl | hp
    · exact Nat.le_trans (Nat.le_max_right _ _) h1
    · exact h2 p hp
theorem mx_get {gs : List (List Wt × Wt)} {p : List Wt × Wt} (h : p ∈ gs) : p.1.length ≤ mx gs := (mx_fold gs 0).2 p h
theorem mx_30 {gs : List (List Wt × Wt)} (h : ∀ p ∈ gs, Good p.1 p.2) : mx gs ≤ 30 := mx_le gs 0 (by omega) fun p hp => (h p hp).len
theorem thr_append (gs hs : List (List Wt × Wt)) (w : Wt) : thr (gs ++ hs) w = thr hs (thr gs w) := List.foldl_append
theorem tot_from : ∀ (gs : List (List Wt × Wt)) (w : Wt), gs.foldl (fun w p => addW w p.2) w = addW w (tot gs)
  | [], w => by cases w <;> simp [tot, addW]
  | p :: gs, w => by
    show gs.foldl (fun w p => addW w p.2) (addW w p.2) = addW w (gs.foldl (fun w p => addW w p.2) (addW (some 0) p.2))
    rw [tot_from gs, tot_from gs, addW_zero, addW_assoc]
theorem tot_append (gs hs : List (List Wt × Wt)) : tot (gs ++ hs) = addW (tot gs) (tot hs) := by
  unfold tot
  rw [List.foldl_append, tot_from]
  rfl
theorem make_e {t : List Wt} {m : Wt} (b : Bool) (g : Good t m) : ∃ o, makeR 0 i_Grade_init [] (.ok [sq b (t.map W), W m]) = .ok o ∧ IsG o (fun (n : Nat) => ledF t m (some (n : Int))) m := by
  obtain ⟨o, e, h⟩ := make_ok b g
  exact ⟨o, e, h⟩
def mkOne (grade_2 : D) : Res D := makeR 0 i_Grade_init [] (consR (lstV (callOo listO (consR (op2 ixD (.ok grade_2) (.ok (.int 0))) (.ok [])))) (consR (op2 ixD (.ok grade_2) (.ok (.int 1))) (.ok [])))
theorem mkOne_ok {p : List Wt × Wt} (g : Good p.1 p.2) : ∃ o, mkOne (LG p) = .ok o ∧ IsG o (rf p).1 (rf p).2 := by
  obtain ⟨o, e, h⟩ := make_e false g
  refine ⟨o, ?_, h⟩
  unfold mkOne
  simp only [op2_ok, ix0, ix1, Res.ofO_some, consR_ok, callOo_ok, listO_lst, lstV_ok]
  exact e
theorem mapR_objs : ∀ (gs : List (List Wt × Wt)), (∀ p ∈ gs, Good p.1 p.2) → ∃ os, mapR mkOne (gs.map LG) = .ok os ∧ Objs os (gs.map rf)
  | [], _ => ⟨[], rfl, .nil⟩
  | p :: gs, h => by
    obtain ⟨os, e, ho⟩ := mapR_objs gs fun q hq => h q (List.mem_cons_of_mem _ hq)
    obtain ⟨o, e1, g⟩ := mkOne_ok (h p List.mem_cons_self)
    refine ⟨o :: os, ?_, .cons g ho⟩
    rw [List.map_cons, mapR, e1, e]
    rfl
def gid : Good [] (some 0) := GF.id.good (Nat.zero_le _)
theorem GF.nul : GF (fun _ => none) none 0 := ⟨fun j e => (by cases e), fun _ => leW_none _, fun _ => leW_none _, fun _ _ => rfl⟩
def gnul : Good [] none := GF.nul.good (Nat.zero_le _)
theorem set_ok {gs : List (List Wt × Wt)} (hg : ∀ p ∈ gs, Good p.1 p.2) {q : List Wt × Wt} (gq : Good q.1 q.2) (z : Nat) : ∀ p ∈ gs.set z q, Good p.1 p.2 := fun p hp => by
  rcases List.mem_or_eq_of_mem_set hp with h | rfl
  · exact hg p h
  · exact gq
def nums (B : Nat) (ex : List Nat) : List D := (List.range B ++ ex).map fun (n : Nat) => D.int (n : Int)
def wos (B : Nat) (ex : List Nat) : List Wt := ((List.range B ++ ex).map fun (n : Nat) => some (n : Int)) ++ [none]
theorem wos_nn (B : Nat) (ex : List Nat) : ∀ w ∈ wos B ex, nn w := fun w hw => by
  rcases List.mem_append.mp hw with h | h
  · obtain ⟨n, _, rfl⟩ := List.mem_map.mp h
    exact nn_nat n
  · have : w = none := by simpa using h
    subst this
    exact fun j e => by cases e
theorem wos_W (B : Nat) (ex : List Nat) : (wos B ex).map W = nums B ex ++ [.non] := by
  unfold wos nums
  rw [List.map_append, List.map_map]
  rfl
def due (gs : List (List Wt × Wt)) : List Wt × Wt := ((List.range (mx gs)).map (fun (n : Nat) => thr gs (some (n : Int))), tot gs)
theorem p3 : powD (.int 10) (.int 3) = some (.int 1000) := by rw [powD_int (by decide) (by decide) (by decide)]; rfl
def sizes0 : List Int := [8, 8, 6, 30, 12, 12, 100000000000000000000]
theorem raw_ok (c : Int) (hc : c.natAbs.log2 ≤ 1048576) (s3 : Int) : ∃ r : Nat, op2 repD (callO absD (consR (callO intD (consR (.ok (.int c)) (.ok []))) (.ok []))) (op2 ixD (lstV (dispR (consR (.ok (.int 1)) (consR (op2 powD (.ok (.int 10)) (.ok (.int 64))) (.ok []))))) (op2 modD (callO intD (consR (.ok (.int s3)) (.ok []))) (.ok (.int 2)))) = .ok (.int r) := by
  obtain ⟨x, hx, e2⟩ := pick (l := [1, 10 ^ 64]) (n := s3 % 2) (by omega) (by simp; omega)
  have e3 : ixD (.lst [.int 1, .int (10 ^ 64)]) (.int (s3 % 2)) = some (.int x) := e2
  have ha : (if c < 0 then -c else c) = (c.natAbs : Int) := by split <;> omega
  have hx2 : 0 ≤ x ∧ x.natAbs.log2 ≤ 1000 := by
    simp only [List.mem_cons, List.not_mem_nil, or_false] at hx
    rcases hx with rfl | rfl
    · decide
    · exact ⟨by decide, by decide +kernel⟩
  refine ⟨c.natAbs * x.toNat, ?_⟩
  simp only [op2_ok, p64, Res.ofO_some, consR_ok, callO_ok, intD_int, absD_int, ha, modD_pos (show (0 : Int) < 2 by decide)]
  rw [disp_go (by simp)]
  simp only [lstV_ok, op2_ok, e3, Res.ofO_some]
  rw [repD_int (by simp only [Int.natAbs_natCast]; omega), Res.ofO_some]
  congr 2
  rw [Int.natCast_mul, Int.toNat_of_nonneg hx2.1]
theorem thr_none : ∀ gs : List (List Wt × Wt), thr gs none = none
  | [] => rfl
  | p :: gs => thr_none gs
theorem thr_ap (gs : List (List Wt × Wt)) {w : Wt} (hw : nn w) : apF (fun (n : Nat) => thr gs (some (n : Int))) w = thr gs w := by
  cases w with
  | none => exact (thr_none gs).symm
  | some i =>
    show thr gs (some ((i.toNat : Nat) : Int)) = _
    rw [Int.toNat_of_nonneg (hw i rfl)]
theorem take_two {α : Type} : ∀ (l : List α) (h : 2 ≤ l.length), l.take 2 = [l[0]'(by omega), l[1]'(by omega)]
  | a :: b :: r, _ => rfl
theorem flags_ok (b1 b2 b3 : Bool) : andB (.ok b1) (orB (.ok b2) (.ok b3)) = .ok (b1 && (b2 || b3)) := by cases b1 <;> cases b2 <;> cases b3 <;> rfl
theorem Objs.set : ∀ {os : List D} {rs : List ((Nat → Wt) × Wt)} (i : Nat) {o : D} (h' : i < rs.length), Objs os rs → IsG o rs[i].1 rs[i].2 → Objs (os.set i o) rs
  | _, _, i, _, h', .nil, _ => absurd h' (Nat.not_lt_zero i)
  | _, _, 0, _, _, .cons _ r, g => .cons g r
  | _, _, i + 1, _, h', .cons q r, g => .cons q (Objs.set i (Nat.lt_of_succ_lt_succ h') r g)
theorem ixO_get {os : List D} {k : Nat} (hk : k < os.length) : ixO os (.ok (.int (k : Int))) = .ok os[k] := by
  rw [ixO_ok, atI_nat (List.getElem?_eq_getElem hk)]
  rfl
theorem or_e {o1 o2 : D} {f1 f2 : Nat → Wt} {m1 m2 : Wt} (g1 : IsG o1 f1 m1) (g2 : IsG o2 f2 m2) : ∃ o, own2R 0 m_Grade_or (.ok o1) (.ok o2) = .ok o ∧ IsG o (fun n => minW (f1 n) (f2 n)) (minW m1 m2) := by
  obtain ⟨u1, r1, _⟩ := g1.ex
  obtain ⟨u2, r2, _⟩ := g2.ex
  obtain ⟨o, e, h⟩ := or_ok g1 g2
  refine ⟨o, ?_, h⟩
  rw [← e, r1, r2, own2R_G]
theorem grade_e (c : Int) : ∃ p : List Wt × Wt, m__law_grade [.int c] = .ok (LG p) ∧ Good p.1 p.2 := grade_ok c
theorem LGs (l : List (List Wt × Wt)) (k : Nat) (hk : k < l.length) : op2 ixD (.ok (.lst (l.map LG))) (.ok (.int (k : Int))) = .ok (LG l[k]) := by
  rw [op2_ok, ix_lst (n := k) (d := LG l[k]) (by rw [List.getElem?_map, List.getElem?_eq_getElem hk]; rfl)]
  rfl
def pairD (p : Nat × Nat) : D := .lst [.int (p.1 : Int), .int (p.2 : Int)]
def pairsL : List (Nat × Nat) := (List.range 8).map (fun k => (k, k)) ++ (List.range 7).map (fun k => (0, 1 + k)) ++ (List.range 7).map (fun k => (1 + k, 0))
theorem pairs_lt : ∀ p ∈ pairsL ++ [(6, 7), (7, 6)], p.1 < 8 ∧ p.2 < 8 := by decide
end K01

namespace K01
open PySem PySem.Spec PyProof.Rows L2 Px
/-! groupings -/
/-! the two looks -/
theorem tells_ok {o : D} {f : Nat → Wt} {p : List Wt × Wt} (g : IsG o f p.2) (hp : p.1.length ≤ 30) (hf : ∀ n : Nat, ledF p.1 p.2 (some n) = f n) (ws : List Wt) (hw : ∀ w ∈ ws, nn w) : m__law_tells [o, LG p, .lst (ws.map W)] = .ok (.bl true) := by
  refine To.eq ?_
  obtain ⟨u, rfl, hu, hl, hfu⟩ := g.ex
  obtain ⟨v, ev, hv1, hv2, hv3⟩ := least_entries_ok hp
  have huv : u = v := lst_uniq hu hv2 fun n => (hfu n).trans ((hf n).symm.trans (hv1 n).symm)
  show To (b__law_tells (Gobj u p.2) (LG p) (.lst (ws.map W))) _
  unfold b__law_tells
  have e1 : isCD sub_ 0 (Gobj u p.2) = some (.bl true) := rfl
  refine To.iteF ?_ (To.iteF ?_ ?_)
  · simp only [op1_ok, e1, Res.ofO_some, truR_ok, truD_bl, notB_ok, Bool.not_true, orB_false, fld_table, consR_ok, callR_ok, List.append_nil, ev, same_tup u v hl (by omega) huv]
  · simp only [op1_ok, fld_more, Res.ofO_some, op2_ok, ix1, consR_ok, callR_ok, List.append_nil, same_W, truR_ok, truD_bl, decide_true, notB_ok, Bool.not_true]
  refine To.bindE (a := ws.map W) (by simp) ?_
  refine To.lp (To.forG (fun _ _ => True) (fun _ => False) (fun _ => False) trivial fun i s d hd _ => ?_) (fun _ _ => To.ok rfl) (fun _ h => h.elim)
  rw [List.getElem?_map] at hd
  cases q : ws[i]? with
  | none => rw [q] at hd; cases hd
  | some w =>
    rw [q] at hd
    cases hd
    have hn := hw w (List.mem_of_getElem? q)
    have ec : callI 0 m_Grade_call (.ok (Gobj u p.2)) (consR (.ok (W w)) (.ok [])) = .ok (W (apF f w)) := by
      rw [← call_ok g hn, consR_ok, callI_G]
    have hfw : ledF p.1 p.2 w = apF f w := IsG.fl hf hn
    refine To.iteF ?_ (To.ok trivial)
    rw [ec]
    simp only [consR_ok, callR_ok, List.append_nil, at_ok p hn, same_W, hfw, decide_true, truR_ok, Res.ofO_some, truD_bl, notB_ok, Bool.not_true]
/-! rows of grades -/
theorem tells_due {gs : List (List Wt × Wt)} (h : ∀ p ∈ gs, Good p.1 p.2) {o : D} (g : IsG o (fun (n : Nat) => thr gs (some (n : Int))) (tot gs)) (B : Nat) (ex : List Nat) : m__law_tells [o, LG (due gs), .lst (nums B ex ++ [.non])] = .ok (.bl true) := by
  rw [← wos_W]
  exact tells_ok (p := due gs) g (by have := mx_30 h; simpa [due] using this) (fun n => (row_GF gs h).tab n) _ (wos_nn B ex)
theorem tells_one {p : List Wt × Wt} (h : Good p.1 p.2) {o : D} (g : IsG o (rf p).1 (rf p).2) (B : Nat) (ex : List Nat) : m__law_tells [o, LG p, .lst (nums B ex ++ [.non])] = .ok (.bl true) := by
  rw [← wos_W]
  exact tells_ok (p := p) g h.len (fun n => rfl) _ (wos_nn B ex)
theorem own_e {o1 o2 : D} {f1 f2 : Nat → Wt} {m1 m2 : Wt} (g1 : IsG o1 f1 m1) (g2 : IsG o2 f2 m2) : ∃ o, own2R 0 m_Grade_rshift (.ok o1) (.ok o2) = .ok o ∧ IsG o (fun n => apF f2 (f1 n)) (addW m1 m2) := by
  obtain ⟨u1, r1, _⟩ := g1.ex
  obtain ⟨u2, r2, _⟩ := g2.ex
  obtain ⟨o, e, h⟩ := shift_ok g1 g2
  refine ⟨o, ?_, h⟩
  rw [← e, r1, r2, own2R_G]
theorem eq_e {o1 o2 : D} {f : Nat → Wt} {m : Wt} (g1 : IsG o1 f m) (g2 : IsG o2 f m) : ownEqR sub_ 0 m_Grade_eq (.ok o1) (.ok o2) = .ok (.bl true) := by
  rw [g1.uniq g2]
  obtain ⟨u, r, _⟩ := g2.ex
  rw [r, ownEqR_G, eq_ok]
  simp
end K01

namespace K01
open PySem PySem.Spec PyProof.Rows L2 Px
/-! told_equal -/
theorem eq_other (u : List Wt) (m : Wt) {d : D} (h : isCD sub_ 0 d = some (.bl false)) : m_Grade_eq [Gobj u m, d] = .ok (.bl false) := by
  show b_Grade_eq (Gobj u m) d = _
  unfold b_Grade_eq
  simp only [op1_ok, h, Res.ofO_some, andV_false]
theorem cmpR_of {a b x y : D} {neg e : Bool} (hp : ownPick sub_ 0 oth_Grade a b = some (x, y)) (he : m_Grade_eq [x, y] = .ok (.bl e)) : ownCmpR sub_ 0 oth_Grade neg m_Grade_eq (.ok a) (.ok b) = .ok (.bl (neg != e)) := by
  unfold ownCmpR
  simp only [Res.ok_bind, hp, he]
theorem told_ok {a b x y x' y' : D} {e : Bool} (h1 : ownPick sub_ 0 oth_Grade a b = some (x, y)) (e1 : m_Grade_eq [x, y] = .ok (.bl e)) (h2 : ownPick sub_ 0 oth_Grade b a = some (x', y')) (e2 : m_Grade_eq [x', y'] = .ok (.bl e)) :
    m__law_told_equal [a, b, .bl e] = .ok (.bl true) := by
  refine To.eq ?_
  show To (b__law_told_equal a b (.bl e)) _
  unfold b__law_told_equal
  rw [cmpR_of h1 e1, cmpR_of h2 e2, cmpR_of h1 e1, cmpR_of h2 e2]
  refine To.bindE (a := [.bl e, .bl e]) (by rw [consR_ok, consR_ok, disp_go (by simp), lstV_ok, itemsR_ok, itemsD_lst, Res.ofO_some]; simp) ?_
  refine To.lp (To.forG (fun _ _ => True) (fun _ => False) (fun _ => False) trivial fun i s d hd _ => ?_) (fun _ _ => ?_) (fun _ h => h.elim)
  · have : d = .bl e := by
      match i, hd with
      | 0, hd => cases hd; rfl
      | 1, hd => cases hd; rfl
    subst this
    refine To.iteF ?_ (To.ok trivial)
    cases e <;> rfl
  refine To.bindE (a := [.bl (!e), .bl (!e)]) (by rw [consR_ok, consR_ok, disp_go (by simp), lstV_ok, itemsR_ok, itemsD_lst, Res.ofO_some]; simp) ?_
  refine To.lp (To.forG (fun _ _ => True) (fun _ => False) (fun _ => False) trivial fun i s d hd _ => ?_) (fun _ _ => To.ok rfl) (fun _ h => h.elim)
  · have : d = .bl (!e) := by
      match i, hd with
      | 0, hd => cases hd; rfl
      | 1, hd => cases hd; rfl
    subst this
    refine To.iteF ?_ (To.ok trivial)
    cases e <;> rfl
theorem told_GG (u v : List Wt) (m k : Wt) : m__law_told_equal [Gobj u m, Gobj v k, .bl (decide (u = v) && decide (m = k))] = .ok (.bl true) := by
  refine told_ok (x := Gobj u m) (y := Gobj v k) (x' := Gobj v k) (y' := Gobj u m) rfl (eq_ok u v m k) rfl ?_
  rw [eq_ok]
  congr 2
  simp [eq_comm]
theorem told_other (u : List Wt) (m : Wt) {d : D} (h : isCD sub_ 0 d = some (.bl false)) (h1 : ownPick sub_ 0 oth_Grade (Gobj u m) d = some (Gobj u m, d)) (h2 : ownPick sub_ 0 oth_Grade d (Gobj u m) = some (Gobj u m, d)) :
    m__law_told_equal [Gobj u m, d, .bl false] = .ok (.bl true) := told_ok h1 (eq_other u m h) h2 (eq_other u m h)
/-! same_function -/
theorem bey_inj' {n : Int} {a b : Wt} (h : bey n a = bey n b) : a = b := by
  cases a <;> cases b <;> simp [bey] at h ⊢
  omega
theorem same_fn_ok {p q : List Wt × Wt} (gp : Good p.1 p.2) (gq : Good q.1 q.2) : ∃ e : Bool, m__law_same_function [LG p, LG q] = .ok (.bl e) ∧ (e = true ↔ (∀ n : Nat, ledF p.1 p.2 (some (n : Int)) = ledF q.1 q.2 (some (n : Int))) ∧ p.2 = q.2) := by
  have hlp := gp.len
  have hlq := gq.len
  have far : (∀ n : Nat, n ≤ max p.1.length q.1.length → ledF p.1 p.2 (some (n : Int)) = ledF q.1 q.2 (some (n : Int))) → (∀ n : Nat, ledF p.1 p.2 (some (n : Int)) = ledF q.1 q.2 (some (n : Int))) ∧ p.2 = q.2 := fun h => by
    have h0 := h _ (Nat.le_refl _)
    rw [ledF_out (by omega), ledF_out (by omega)] at h0
    have hm := bey_inj' h0
    refine ⟨fun n => ?_, hm⟩
    rcases Nat.le_total n (max p.1.length q.1.length) with z | z
    · exact h n z
    · rw [ledF_out (by omega), ledF_out (by omega), hm]
  have step : To (m__law_same_function [LG p, LG q]) fun d => ∃ e : Bool, d = .bl e ∧ (e = true ↔ (∀ n : Nat, ledF p.1 p.2 (some (n : Int)) = ledF q.1 q.2 (some (n : Int))) ∧ p.2 = q.2) := by
    show To (b__law_same_function (LG p) (LG q)) _
    unfold b__law_same_function
    refine To.bindE (a := (List.range (max p.1.length q.1.length + 1)).map fun (i : Nat) => D.int (i : Int)) ?_ ?_
    · simp only [op2_ok, ix0, Res.ofO_some, consR_ok, callO_ok, lenD_lst, List.length_map, maxD_int, addD_int, callOo_ok]
      have e : ((if (p.1.length : Int) < (q.1.length : Int) then (q.1.length : Int) else (p.1.length : Int)) + 1) = ((max p.1.length q.1.length + 1 : Nat) : Int) := by
        split <;> omega
      first
        | rw [e, rng1_nat (by omega)]
        | (rw [show (max (p.1.length : Int) (q.1.length : Int) + 1) = ((max p.1.length q.1.length + 1 : Nat) : Int) by omega, rng1_nat (by omega)])
      rfl
    refine To.lp (To.forG (fun i _ => ∀ n : Nat, n < i → ledF p.1 p.2 (some (n : Int)) = ledF q.1 q.2 (some (n : Int))) (fun d => d = .bl false ∧ ∃ n : Nat, ledF p.1 p.2 (some (n : Int)) ≠ ledF q.1 q.2 (some (n : Int))) (fun _ => False) (fun n hn => by omega) fun i s d hd ih => ?_) (fun _ h => To.ok ⟨true, rfl, ⟨fun _ => far fun n hn => ?_, fun _ => rfl⟩⟩) (fun d h => ?_)
    · obtain ⟨hi, rfl⟩ := range_get hd
      have ea : ∀ {r : List Wt × Wt}, callR m__law_at [] (consR (.ok (LG r)) (consR (.ok (.int (i : Int))) (.ok []))) = .ok (W (ledF r.1 r.2 (some (i : Int)))) := fun {r} => by
        simp only [consR_ok, callR_ok, List.append_nil]
        exact at_ok r (nn_nat i)
      rw [ea, ea]
      by_cases e : ledF p.1 p.2 (some (i : Int)) = ledF q.1 q.2 (some (i : Int))
      · refine To.iteF ?_ (To.ok fun n hn => ?_)
        · rw [e]; simp only [op2_ok, neD_W, Res.ofO_some, blR_ok]; simp
        · rcases Nat.lt_succ_iff_lt_or_eq.mp hn with z | z
          · exact ih n z
          · rw [z]; exact e
      · refine To.iteT ?_ (To.bindE (a := .bl false) rfl (To.ok ⟨rfl, i, e⟩))
        simp only [op2_ok, neD_W, Res.ofO_some, blR_ok]; simp [e]
    · rcases h with h | h
      · exact h n (by simp; omega)
      · exact h.elim
    · obtain ⟨rfl, n, hn⟩ := h
      exact To.ok ⟨false, rfl, ⟨fun z => (by cases z), fun z => absurd (z.1 n) hn⟩⟩
  obtain ⟨d, e, b, rfl, h⟩ := step
  exact ⟨b, e, h⟩
end K01

namespace K01
open PySem PySem.Spec PyProof.Rows L2 Px
/-! texts by their codes -/
def St (l : List Nat) : Str := ⟨l.toArray⟩
def st (l : List Nat) : D := .str (St l)
theorem St_inj {a b : List Nat} (h : St a = St b) : a = b := by
  have : (St a).cps.toList = (St b).cps.toList := by rw [h]
  simpa [St] using this
theorem st_len {l : List Nat} (h : l.length ≤ 1000) : lenD [st l] = some (.int l.length) := by
  have : (St l).length ≤ sizeLine := by rw [sizeLine_eq]; show l.toArray.size ≤ _; simp; omega
  show (if (St l).length ≤ sizeLine then some (D.int ((St l).length : Nat)) else none) = _
  rw [if_pos this]
  show some (D.int ((l.toArray.size : Nat) : Int)) = _
  simp
theorem st_add {a b : List Nat} (h : a.length + b.length ≤ 1000) : addD (st a) (st b) = some (st (a ++ b)) := by
  have : (St a).length + (St b).length ≤ sizeLine := by rw [sizeLine_eq]; show a.toArray.size + b.toArray.size ≤ _; simp; omega
  show (if (St a).length + (St b).length ≤ sizeLine then some (D.str (St a ++ St b)) else none) = _
  rw [if_pos this]
  show some (D.str ⟨a.toArray ++ b.toArray⟩) = _
  simp [st, St]
theorem st_ix {l : List Nat} {n c : Nat} (hl : l.length ≤ 1000) (h : l[n]? = some c) : ixD (st l) (.int n) = some (st [c]) := by
  have : (St l).length ≤ sizeLine := by rw [sizeLine_eq]; show l.toArray.size ≤ _; simp; omega
  show (if (St l).length ≤ sizeLine then (atI (St l).cps.toList n).map fun c => D.str ⟨#[c]⟩ else none) = _
  rw [if_pos this]
  have e : atI (St l).cps.toList (n : Int) = some c := by
    have e0 : (St l).cps.toList = l := by simp [St]
    rw [e0]
    exact atI_nat h
  rw [e]
  rfl
def sg (i : Nat) : Nat := if i < 26 then 97 + i else 22 + i
def signsL : List Nat := (List.range 36).map sg
theorem signs_eq : (D.str ("abcdefghijklmnopqrstuvwxyz0123456789" : Str)) = st signsL := by
  have : ("abcdefghijklmnopqrstuvwxyz0123456789" : Str) = St signsL := by decide +kernel
  rw [this]; rfl
theorem empty_eq : (D.str ("" : Str)) = st [] := by
  have : ("" : Str) = St [] := by decide +kernel
  rw [this]; rfl
theorem signs_ix {n : Nat} (h : n < 36) : ixD (st signsL) (.int (n : Int)) = some (st [sg n]) := by
  refine st_ix (by decide) ?_
  unfold signsL
  rw [List.getElem?_map, List.getElem?_range h]
  rfl
theorem sg_inj {a b : Nat} (ha : a < 36) (hb : b < 36) (h : sg a = sg b) : a = b := by
  unfold sg at h
  split at h <;> split at h <;> omega
def isL (c : Nat) : Prop := 97 ≤ c ∧ c ≤ 122
def isDg (c : Nat) : Prop := 48 ≤ c ∧ c ≤ 57
def okC (c : Nat) : Prop := isL c ∨ isDg c
theorem sg_ok {n : Nat} (h : n < 36) : okC (sg n) := by
  unfold sg okC isL isDg
  split <;> omega
theorem sg_let {n : Nat} (h : n < 26) : isL (sg n) := by
  unfold sg isL
  rw [if_pos h]; omega
structure Nm (l : List Nat) : Prop where
  len : 1 ≤ l.length ∧ l.length ≤ 12
  fst : ∀ c, l[0]? = some c → isL c
  all : ∀ c ∈ l, okC c
def occ (i j : Str) : Bool := !(Builtin.Str.occurrences j i 0 j.length 1).isEmpty
theorem in_str (i j : Str) : inD2 (.str i) (.str j) = some (.bl (occ i j)) := rfl
theorem nin_str (i j : Str) : notInD2 (.str i) (.str j) = some (.bl (!occ i j)) := rfl
theorem occ_let : ∀ n : Fin 26, occ (St [97 + n.val]) "abcdefghijklmnopqrstuvwxyz" = true := by decide +kernel
theorem occ_dig : ∀ n : Fin 10, occ (St [48 + n.val]) "0123456789" = true := by decide +kernel
theorem occ_dl : ∀ n : Fin 10, occ (St [48 + n.val]) "abcdefghijklmnopqrstuvwxyz" = false := by decide +kernel
theorem occ_L {c : Nat} (h : isL c) : occ (St [c]) "abcdefghijklmnopqrstuvwxyz" = true := by
  have e : c = 97 + (⟨c - 97, by unfold isL at h; omega⟩ : Fin 26).val := by unfold isL at h; show c = 97 + (c - 97); omega
  rw [e]; exact occ_let _
theorem occ_D {c : Nat} (h : isDg c) : occ (St [c]) "0123456789" = true := by
  have e : c = 48 + (⟨c - 48, by unfold isDg at h; omega⟩ : Fin 10).val := by unfold isDg at h; show c = 48 + (c - 48); omega
  rw [e]; exact occ_dig _
theorem occ_DL {c : Nat} (h : isDg c) : occ (St [c]) "abcdefghijklmnopqrstuvwxyz" = false := by
  have e : c = 48 + (⟨c - 48, by unfold isDg at h; omega⟩ : Fin 10).val := by unfold isDg at h; show c = 48 + (c - 48); omega
  rw [e]; exact occ_dl _
theorem chars_st (l : List Nat) : chars (St l) = l.map fun c => st [c] := by
  unfold chars
  have : (St l).cps.toList = l := by simp [St]
  rw [this]; rfl
theorem is_name_ok {l : List Nat} (h : Nm l) : m_is_name [st l] = .ok (.bl true) := by
  obtain ⟨c0, hc0⟩ : ∃ c, l[0]? = some c := by
    have := h.len.1
    exact ⟨l[0], List.getElem?_eq_getElem (by omega)⟩
  have main : To (b_is_name (st l)) fun d => d = .bl true := by
    unfold b_is_name
    refine To.iteF ?_ ?_
    · have e1 : op1 (isiD "str") (.ok (st l)) = .ok (.bl true) := rfl
      rw [e1]
      have e2 : callO lenD (consR (.ok (st l)) (.ok [])) = .ok (.int l.length) := by rw [consR_ok, callO_ok, st_len (by have := h.len.2; omega)]; rfl
      rw [e2]
      have h1 := h.len.1
      have h2 := h.len.2
      simp only [truR_ok, truD_bl, Res.ofO_some, notB_ok, Bool.not_true, orB_false, chnR, Res.ok_bind, leD_int, blR_ok]
      rw [decide_eq_true (show (1 : Int) ≤ l.length by omega)]
      simp only [if_true, Res.ofO_some, blR_ok, decide_eq_true (show (l.length : Int) ≤ 12 by omega), notB_ok, Bool.not_true]
    refine To.iteF ?_ ?_
    · rw [op2_ok, show (.int 0 : D) = .int ((0 : Nat) : Int) from rfl, st_ix (by have := h.len.2; omega) hc0]
      rw [Res.ofO_some, op2_ok]
      show blR (.ofO (notInD2 (.str (St [c0])) _)) = _
      rw [nin_str, occ_L (h.fst c0 hc0)]
      rfl
    refine To.bindE (a := l.map fun c => st [c]) ?_ ?_
    · show Res.ofO (some (chars (St l))) = _
      rw [chars_st]; rfl
    refine To.lp (P := fun _ => True) (Q := fun _ => False) (To.mono (To.forG (fun _ _ => True) (fun _ => False) (fun _ => False) trivial fun i s d hd _ => ?_) ?_) (fun s _ => To.ok rfl) (fun d hd => hd.elim)
    · rw [List.getElem?_map] at hd
      cases q : l[i]? with
      | none => rw [q] at hd; cases hd
      | some c =>
        rw [q] at hd
        cases hd
        have hc := h.all c (List.mem_of_getElem? q)
        refine To.iteF ?_ (To.ok trivial)
        simp only [op2_ok, st, nin_str]
        rcases hc with hc | hc
        · rw [occ_L hc]; rfl
        · rw [occ_DL hc, occ_D hc]; rfl
    · intro o ho
      cases o with
      | nx s => trivial
      | rt d => exact ho
  exact To.eq main
theorem mod_nat {a b : Nat} (hb : 0 < b) : modD (.int (a : Int)) (.int (b : Int)) = some (.int ((a % b : Nat) : Int)) := by
  rw [modD_pos (by omega)]; norm_cast
theorem div_nat {a b : Nat} (hb : 0 < b) (h : b < 2 ^ 60) : divD (.int (a : Int)) (.int (b : Int)) = some (.int ((a / b : Nat) : Int)) := by
  rw [divD_pos (by omega) (by
    have := log2_of (i := (b : Int)) (b := 2 ^ 60) (by omega) (by exact_mod_cast h) (n := 60) (by decide) (by decide)
    omega)]
  norm_cast
theorem mul_nat {a b : Nat} (ha : a < 2 ^ 60) (hb : b < 2 ^ 60) : repD (.int (a : Int)) (.int (b : Int)) = some (.int ((a * b : Nat) : Int)) := by
  rw [mul_ok (n := 60) (k := 60) (by omega) (show (a : Int) < 2 ^ 60 by exact_mod_cast ha) (by decide) (by omega) (show (b : Int) < 2 ^ 60 by exact_mod_cast hb) (by decide) (by decide) (by decide) (by decide)]
  norm_cast
theorem add_nat {a b : Nat} : addD (.int (a : Int)) (.int (b : Int)) = some (.int ((a + b : Nat) : Int)) := by
  rw [addD_int]; norm_cast
theorem eq_nat {a b : Nat} : eqD (.int (a : Int)) (.int (b : Int)) = some (.bl (decide (a = b))) := by
  rw [eqD_int]; congr 3; exact propext (by omega)
theorem range_ok {n : Nat} (h : n ≤ 16777216) : callOo rng1 (consR (.ok (.int (n : Int))) (.ok [])) = .ok ((List.range n).map fun (i : Nat) => D.int (i : Int)) := by
  rw [consR_ok, callOo_ok, rng1_nat h]; rfl
theorem fl_rep {α : Type} (x : α) (n : Nat) : (List.replicate n [x]).flatten = List.replicate n x := by
  induction n with
  | zero => rfl
  | succ n ih => rw [List.replicate_succ, List.flatten_cons, ih, List.replicate_succ]; rfl
/-- [x] * n -/
theorem rep_ok (x : D) (n : Nat) (h : n ≤ 1000) : op2 repD (lstV (dispR (consR (.ok x) (.ok [])))) (.ok (.int (n : Int))) = .ok (.lst (List.replicate n x)) := by
  rw [consR_ok, disp_go (by simp), lstV_ok, op2_ok, repD_lst (by omega) (by omega) (by simp; omega)]
  simp [fl_rep]
theorem cat_ok {a b : List D} (h : a.length + b.length ≤ 16777216) : op2 addD (.ok (.lst a)) (.ok (.lst b)) = .ok (.lst (a ++ b)) := by
  rw [op2_ok, addD_lst h]; rfl
theorem slice_sqN (b : Bool) (l : List Nat) (k : Nat) (h : k ≤ l.length) : sliceR (.ok (sq b (l.map iN))) none (some (.ok (.int (k : Int)))) = .ok (sq b ((l.take k).map iN)) := by
  rw [List.map_take]
  cases b
  · exact slice_lst_take _ k (by simpa using h)
  · exact slice_tup_take _ k (by simpa using h)
/-! dicts by names -/
def ky (l : List Nat) : L2.Key := .inr (St l)
theorem ky_inj {a b : List Nat} (h : ky a = ky b) : a = b := St_inj (Sum.inr.inj h)
theorem dget_none : ∀ (ls : List (List Nat)) (os : List D) (n : List Nat), n ∉ ls → dgetL (ls.map ky) os (ky n) = none
  | [], _, _, _ => rfl
  | a :: ls, [], n, _ => rfl
  | a :: ls, o :: os, n, h => by
    rw [List.map_cons]
    unfold dgetL
    rw [if_neg (fun e => h (by rw [← ky_inj e]; exact List.mem_cons_self)), dget_none ls os n (fun z => h (List.mem_cons_of_mem _ z))]
theorem dget_get : ∀ (ls : List (List Nat)) (os : List D) (i : Nat) (n : List Nat) (o : D), ls.Nodup → ls[i]? = some n → os[i]? = some o → dgetL (ls.map ky) os (ky n) = some o
  | [], _, _, _, _, _, h, _ => by simp at h
  | a :: ls, [], _, _, _, _, _, h => by simp at h
  | a :: ls, o :: os, 0, n, o', hn, h, h' => by
    simp at h h'
    subst h h'
    rw [List.map_cons]
    unfold dgetL
    rw [if_pos rfl]
  | a :: ls, o :: os, i + 1, n, o', hn, h, h' => by
    have hn' := List.nodup_cons.mp hn
    rw [List.map_cons]
    unfold dgetL
    have hm : n ∈ ls := List.mem_of_getElem? (by simpa using h)
    rw [if_neg (fun e => hn'.1 (by rw [ky_inj e]; exact hm))]
    exact dget_get ls os i n o' hn'.2 (by simpa using h) (by simpa using h')
theorem has_none (ls : List (List Nat)) (n : List Nat) (h : n ∉ ls) : hasK (ls.map ky) (ky n) = false := by
  unfold hasK
  rw [List.any_eq_false]
  intro k hk
  obtain ⟨a, ha, rfl⟩ := List.mem_map.mp hk
  simp only [decide_eq_true_eq]
  exact fun e => h (ky_inj e ▸ ha)
theorem inL_dic (neg : Bool) (ks : List L2.Key) (os : List D) (n : List Nat) : inL neg (st n) (.dic ks os) = none := by
  have e1 : toP (.dic ks os) = none := by unfold toP; rfl
  unfold inL; rw [e1]; cases toP (st n) <;> rfl
theorem inD_dic (ks : List L2.Key) (os : List D) (n : List Nat) : inD2 (st n) (.dic ks os) = some (.bl (dgetL ks os (ky n)).isSome) := by
  unfold inD2 inD
  rw [show inA false (st n) (.dic ks os) = none from rfl, inL_dic]; rfl
theorem ninD_dic (ks : List L2.Key) (os : List D) (n : List Nat) : notInD2 (st n) (.dic ks os) = some (.bl !(dgetL ks os (ky n)).isSome) := by
  unfold notInD2 notInD
  rw [show inA true (st n) (.dic ks os) = none from rfl, inL_dic]; rfl
theorem setDR_new {O : Type} (ls : List (List Nat)) (os : List D) (n : List Nat) (o : D) (k : DP → Res O) (h : n ∉ ls) (hl : ls.length < 16777216) : setDR (ls.map ky, os) (.ok o) (.ok (st n)) k = k ((ls ++ [n]).map ky, os ++ [o]) := by
  show (if (ls.map ky).length < sizeLine then k (dputK (ls.map ky) (ky n), dputV (ls.map ky) os (ky n) o) else .bad) = _
  rw [sizeLine_eq, if_pos (by simpa using hl)]
  unfold dputK dputV
  rw [has_none ls n h]
  simp
theorem sort_dic (ls : List (List Nat)) (os : List D) (hl : ls.length < 64) : callO sortD (consR (.ok (.dic (ls.map ky) os)) (.ok [])) = .ok (.lst ((sortS (ls.map St)).map .str)) := by
  rw [consR_ok, callO_ok]
  have e : strsK (ls.map ky) = some (ls.map St) := by
    have := strsK_map (ls.map St)
    rw [List.map_map] at this
    exact this
  show Res.ofO (match strsK (ls.map ky) with
    | some l => if l.length < 64 then some (D.lst ((sortS l).map .str)) else none
    | none => none) = _
  rw [e]
  simp only [List.length_map, if_pos hl, Res.ofO_some]
/-! books -/
def bkD (x : D) (ls : List (List Nat)) (os : List D) : D := .obj 1 [x, .dic (ls.map ky) os]
theorem book_ok (ls : List (List Nat)) (os : List D) (hl : os.length = ls.length) (h64 : ls.length < 64) (hn : ls.Nodup) (hnm : ∀ l ∈ ls, Nm l) :
    ∃ x, makeR 1 i_Book_init [] (.ok [.lst ((ls.zip os).map fun p => .tup [st p.1, p.2])]) = .ok (bkD x ls os) := by
  have main : To (b_Book_init (.lst ((ls.zip os).map fun p => .tup [st p.1, p.2]))) fun l => ∃ x, l = [x, .dic (ls.map ky) os] := by
    unfold b_Book_init
    refine To.bindE rfl ?_
    refine To.bindE (a := (ls.zip os).map fun p => .tup [st p.1, p.2]) rfl ?_
    refine To.bind (P := fun s => s = (ls.map ky, os)) (To.mono (To.forR (fun i s => s = ((ls.take i).map ky, os.take i)) rfl fun i s d hd hp => ?_) ?_) ?_
    · subst hp
      rw [List.getElem?_map] at hd
      cases q : (ls.zip os)[i]? with
      | none => rw [q] at hd; cases hd
      | some p =>
        rw [q] at hd
        cases hd
        have hi : i < ls.length := by
          have := (List.getElem?_eq_some_iff.mp q).1
          simp at this; omega
        have q1 : ls[i]? = some p.1 ∧ os[i]? = some p.2 := by
          rw [List.getElem?_zip_eq_some] at q
          exact q
        have hnot : p.1 ∉ ls.take i := fun hm => by
          obtain ⟨j, hj, e⟩ := List.mem_take_iff_getElem.mp hm
          have e2 : ls[i] = p.1 := by
            have := q1.1
            rw [List.getElem?_eq_getElem hi] at this
            exact Option.some.inj this
          rw [← e2] at e
          have := (List.getElem_inj hn).mp e
          omega
        show To (seq2K _ (.tup [st p.1, p.2])) _
        rw [seq2K_tup]
        refine To.iteF ?_ (To.iteF ?_ ?_)
        · rw [show callR m_is_name [] (consR (.ok (st p.1)) (.ok [])) = .ok (.bl true) from is_name_ok (hnm _ (List.mem_of_getElem? q1.1))]; rfl
        · rw [op2_ok, inD_dic, dget_none _ _ _ hnot]; rfl
        · rw [setDR_new _ _ _ _ _ hnot (by simp; omega)]
          refine To.ok ?_
          rw [List.take_add_one, q1.1, List.take_add_one, q1.2]
          rfl
    · intro s hs
      rw [hs, List.take_of_length_le (by simp; omega), List.take_of_length_le (by simp; omega)]
    rintro s rfl
    refine To.bind (P := fun _ => True) ?_ fun x _ => ?_
    · show To (callO tupleD (consR (callO sortD (consR (.ok (.dic (ls.map ky) os)) (.ok []))) (.ok []))) _
      rw [sort_dic ls os h64]
      exact To.of rfl trivial
    · exact To.bindE rfl (To.ok ⟨x, rfl⟩)
  obtain ⟨l, e, x, rfl⟩ := main
  refine ⟨x, ?_⟩
  show (i_Book_init _).bind _ = _
  have e2 : i_Book_init ([.lst ((ls.zip os).map fun p => .tup [st p.1, p.2])] ++ []) = .ok [x, .dic (ls.map ky) os] := by
    show (b_Book_init _).bind _ = _
    rw [e]; rfl
  rw [e2]; rfl
end K01

namespace K01
open PySem PySem.Spec PyProof.Rows L2 Px
theorem leW_bey {n : Int} {m : Wt} (h : nn m) : leW (some n) (bey n m) := by
  cases m with
  | none => exact leW_none _
  | some i => have := h i rfl; show leW (some n) (some (n + i)); rw [leW_some]; omega
theorem take1_good {p : List Wt × Wt} (g : Good p.1 p.2) : Good (p.1.take 1) none := by
  have far : ∀ n : Nat, 1 ≤ n → ledF (p.1.take 1) none (some (n : Int)) = none := fun n hn => by
    rw [ledF_out (by rw [List.length_take]; omega)]; rfl
  refine ⟨by rw [List.length_take]; have := g.len; omega, fun i h => (by cases h), fun n => ?_, fun n => ?_⟩
  · cases n with
    | zero =>
      rcases Nat.eq_zero_or_pos p.1.length with z | z
      · rw [ledF_out (by rw [List.length_take]; omega)]; exact leW_none _
      · rw [ledF_in (by rw [List.length_take]; omega)]
        have := g.ge 0
        rw [ledF_in z] at this
        simpa using this
    | succ n => rw [far _ (by omega)]; exact leW_none _
  · rw [far (n + 1) (by omega)]; exact leW_none _
theorem none_good {p : List Wt × Wt} (g : Good p.1 p.2) : Good p.1 none := by
  refine ⟨g.len, fun i h => (by cases h), fun n => ?_, fun n => ?_⟩
  · rcases Nat.lt_or_ge n p.1.length with z | z
    · rw [ledF_in z, ← ledF_in (m := p.2) z]; exact g.ge n
    · rw [ledF_out (by omega)]; exact leW_none _
  · rcases Nat.lt_or_ge (n + 1) p.1.length with z | z
    · rw [ledF_in z, ledF_in (show n < p.1.length by omega), ← ledF_in (m := p.2) z, ← ledF_in (m := p.2) (show n < p.1.length by omega)]; exact g.mono n
    · rw [ledF_out (n := ((n + 1 : Nat) : Int)) (by omega)]; exact leW_none _
theorem nil_good {m : Wt} (h : nn m) : Good [] m := by
  have e : ∀ n : Nat, ledF [] m (some (n : Int)) = bey n m := fun n => ledF_out (by simp)
  refine ⟨by simp, h, fun n => ?_, fun n => ?_⟩
  · rw [e]; exact leW_bey h
  · rw [e, e]
    cases m with
    | none => exact leW_none _
    | some i => show leW (some ((n : Int) + i)) (some (((n + 1 : Nat) : Int) + i)); rw [leW_some]; omega
theorem cut_ok {p : List Wt × Wt} (g : Good p.1 p.2) (k : Int) : ∃ r : List Wt × Wt, m__law_cut [LG p, .int k] = .ok (LG r) ∧ Good r.1 r.2 := by
  have step : To (m__law_cut [LG p, .int k]) fun d => ∃ r : List Wt × Wt, d = LG r ∧ Good r.1 r.2 := by
    show To (b__law_cut (LG p) (.int k)) _
    unfold b__law_cut
    refine To.ite (k := decide (k = 0)) (by simp only [op2_ok, eqD_int, Res.ofO_some, blR_ok]) (fun _ => ?_) (fun _ => To.ite (k := decide (k = 1)) (by simp only [op2_ok, eqD_int, Res.ofO_some, blR_ok]) (fun _ => ?_) (fun _ => ?_))
    · refine To.of (a := LG (p.1.take 1, none)) ?_ ⟨(p.1.take 1, none), rfl, take1_good g⟩
      rw [op2_ok, ix0, Res.ofO_some]
      have e : sliceR (.ok (D.lst (p.1.map W))) none (some (.ok (.int 1))) = .ok (.lst ((p.1.take 1).map W)) := by
        rcases Nat.eq_zero_or_pos p.1.length with z | z
        · have : p.1 = [] := List.length_eq_zero_iff.mp z
          rw [this]; rfl
        · rw [show (1 : Int) = ((1 : Nat) : Int) from rfl, slice_lst_take _ 1 (by simp; omega), List.map_take]
      rw [e, consR_ok, consR_ok]
      exact LG_mk (p.1.take 1) none
    · refine To.of (a := LG (p.1, none)) ?_ ⟨(p.1, none), rfl, (none_good g : Good p.1 none)⟩
      rw [op2_ok, ix0, Res.ofO_some, consR_ok, consR_ok]
      exact LG_mk p.1 none
    · refine To.of (a := LG ([], p.2)) ?_ ⟨([], p.2), rfl, nil_good g.pos⟩
      rw [op2_ok, ix1, Res.ofO_some, disp_go (by simp), lstV_ok, consR_ok, consR_ok]
      exact LG_mk [] p.2
  obtain ⟨d, e, r, rfl, h⟩ := step
  exact ⟨r, e, h⟩
def wsOf (p : List Wt × Wt) (A : Nat) : List Wt := (List.range (p.1.length + 2)).map (fun (n : Nat) => some (n : Int)) ++ [some (A : Int), some (1000000000000000000 + A : Int), none]
theorem wsOf_nn (p : List Wt × Wt) (A : Nat) : ∀ w ∈ wsOf p A, nn w := fun w hw => by
  unfold wsOf at hw
  rcases List.mem_append.mp hw with h | h
  · obtain ⟨n, _, rfl⟩ := List.mem_map.mp h; exact nn_nat n
  · simp only [List.mem_cons, List.not_mem_nil, or_false] at h
    rcases h with rfl | rfl | rfl
    · exact nn_nat A
    · intro i e; cases e; omega
    · intro i e; cases e
theorem worths_ok {p : List Wt × Wt} (hl : p.1.length ≤ 30) (A : Nat) : m__law_worths [LG p, .int (A : Int)] = .ok (.lst ((wsOf p A).map W)) := by
  show b__law_worths (LG p) (.int (A : Int)) = _
  unfold b__law_worths
  simp only [op2_ok, ix0, p18, Res.ofO_some, consR_ok, callO_ok, lenD_lst, List.length_map, addD_int, callOo_ok]
  rw [show ((p.1.length : Int) + 2) = ((p.1.length + 2 : Nat) : Int) by omega, lrng1_nat (by omega), Res.ofO_some, lstV_ok, disp_go (by simp), lstV_ok, op2_ok, addD_lst (by simp; omega), Res.ofO_some]
  unfold wsOf
  rw [List.map_append, List.map_map]
  rfl
/-! unlike -/
theorem fldT (u : List Wt) (m : Wt) : op1 (fldD at_ "table") (.ok (Gobj u m)) = .ok (.tup (u.map W)) := by rw [op1_ok, fld_table, Res.ofO_some]
theorem fldM (u : List Wt) (m : Wt) : op1 (fldD at_ "more") (.ok (Gobj u m)) = .ok (W m) := by rw [op1_ok, fld_more, Res.ofO_some]
end K01

namespace K01
open PySem PySem.Spec PyProof.Rows L2 Px
theorem st_a : D.str "a" = st [97] := congrArg D.str (by decide +kernel : ("a" : Str) = St [97])
theorem nm_a : Nm [97] := ⟨by decide, fun c h => by cases h; unfold isL; omega, fun c h => by simp at h; subst h; exact .inl (by unfold isL; omega)⟩
theorem book_one (o : D) : ∃ b, makeR 1 i_Book_init [] (.ok [.lst [.tup [.str "a", o]]]) = .ok (.obj 1 b) := by
  obtain ⟨x, e⟩ := book_ok [[97]] [o] rfl (by decide) (by decide) (fun l h => by simp at h; subst h; exact nm_a)
  rw [st_a]
  exact ⟨_, e⟩
theorem book_nil : ∃ b, makeR 1 i_Book_init [.tup []] (.ok []) = .ok (.obj 1 b) := by
  have main : To (b_Book_init (.tup [])) fun l => ∃ x, l = [x, .dic [] []] := by
    unfold b_Book_init
    refine To.bindE rfl ?_
    refine To.bindE (a := []) rfl ?_
    refine To.bindE (a := ([], [])) rfl ?_
    refine To.bind (P := fun _ => True) ?_ fun x _ => ?_
    · have := sort_dic [] [] (by decide)
      show To (callO tupleD (consR (callO sortD (consR (.ok (.dic (([] : List (List Nat)).map ky) [])) (.ok []))) (.ok []))) _
      rw [this]
      exact To.of rfl trivial
    · exact To.bindE rfl (To.ok ⟨x, rfl⟩)
  obtain ⟨l, e, x, rfl⟩ := main
  refine ⟨[x, .dic [] []], ?_⟩
  unfold makeR
  rw [Res.ok_bind]
  have e2 : i_Book_init ([] ++ [D.tup []]) = .ok [x, .dic [] []] := by
    show chkL 2 (b_Book_init (.tup [])) = _
    rw [e]; rfl
  rw [e2]; rfl
theorem unlike_ok {o : D} {f : Nat → Wt} {p q : List Wt × Wt} (g : IsG o f p.2) (hq : q.1.length ≤ 30) : m__law_unlike [o, LG q] = .ok (.bl true) := by
  obtain ⟨u, rfl, _, hl, _⟩ := g.ex
  refine To.eq ?_
  show To (b__law_unlike (Gobj u p.2) (LG q)) _
  unfold b__law_unlike
  obtain ⟨b1, eb1⟩ := book_one (Gobj u p.2)
  obtain ⟨b2, eb2⟩ := book_nil
  have tup0 : tupR (.ok []) = .ok (.tup []) := by rw [tupR_ok, if_pos (by simp)]
  refine To.bindE (a := .lst [.tup (u.map W), .lst (u.map W), .tup [.tup (u.map W), W p.2], .lst [.lst (u.map W), W p.2]]) ?_ ?_
  · rw [fldT, fldM]
    simp only [consR_ok, callOo_ok, listO_tup, Res.ofO_some, lstV_ok]
    rw [tupR_ok, if_pos (by simp), disp_go (l := [D.lst (u.map W), W p.2]) (by simp), lstV_ok]
    simp only [consR_ok]
    rw [disp_go (by simp), lstV_ok]
  refine To.bindE (a := .lst ([.tup (u.map W), .lst (u.map W), .tup [.tup (u.map W), W p.2], .lst [.lst (u.map W), W p.2]] ++ [.lst (q.1.map W), .lst [.lst (q.1.map W), W q.2], W p.2, .non, .int 0, .bl true, .bl false, .str "", .str "grade", .tup [], .lst []])) ?_ ?_
  · rw [fldM, tup0]
    simp only [op2_ok, ix0, ix1, consR_ok, callOo_ok, listO_lst, Res.ofO_some, lstV_ok]
    rw [disp_go (l := [D.lst (q.1.map W), W q.2]) (by simp), disp_go (l := []) (by simp), lstV_ok, lstV_ok]
    simp only [consR_ok]
    rw [disp_go (by simp), lstV_ok, op2_ok, addD_lst (by simp)]
    rfl
  refine To.bindE (a := .lst (([.tup (u.map W), .lst (u.map W), .tup [.tup (u.map W), W p.2], .lst [.lst (u.map W), W p.2]] ++ [.lst (q.1.map W), .lst [.lst (q.1.map W), W q.2], W p.2, .non, .int 0, .bl true, .bl false, .str "", .str "grade", .tup [], .lst []]) ++ [.obj 1 b1, .obj 1 b2])) ?_ ?_
  · simp only [consR_ok]
    rw [tupR_ok, if_pos (by simp)]
    simp only [consR_ok]
    rw [disp_go (by simp), lstV_ok]
    simp only [consR_ok]
    rw [eb1, eb2]
    simp only [consR_ok]
    rw [disp_go (by simp), lstV_ok, op2_ok, addD_lst (by simp)]
    rfl
  refine To.bindE (by rw [itemsR_ok, itemsD_lst, Res.ofO_some]) ?_
  refine To.lp (To.forG (fun _ _ => True) (fun _ => False) (fun _ => False) trivial fun i s d hd _ => ?_) (fun _ _ => To.ok rfl) (fun _ h => h.elim)
  have hm := List.mem_of_getElem? hd
  have hW : ∀ w : Wt, isCD sub_ 0 (W w) = some (.bl false) ∧ ownPick sub_ 0 oth_Grade (Gobj u p.2) (W w) = some (Gobj u p.2, W w) ∧ ownPick sub_ 0 oth_Grade (W w) (Gobj u p.2) = some (Gobj u p.2, W w) := fun w => by
    cases w <;> exact ⟨rfl, rfl, rfl⟩
  have ht : m__law_told_equal [Gobj u p.2, d, .bl false] = .ok (.bl true) := by
    simp only [List.cons_append, List.nil_append, List.mem_cons, List.not_mem_nil, or_false] at hm
    rcases hm with rfl | rfl | rfl | rfl | rfl | rfl | rfl | rfl | rfl | rfl | rfl | rfl | rfl | rfl | rfl | rfl | rfl
    all_goals first
      | exact told_other u p.2 rfl rfl rfl
      | exact told_other u p.2 (hW _).1 (hW _).2.1 (hW _).2.2
  refine To.iteF ?_ (To.ok trivial)
  simp only [consR_ok, callR_ok, List.append_nil, ht]
  rfl
end K01

namespace K01
open PySem PySem.Spec PyProof.Rows L2 Px
theorem isG_of {o : D} {p : List Wt × Wt} (g : IsG o (rf p).1 (rf p).2) : ∃ u, o = Gobj u p.2 ∧ Lst u p.2 ∧ ∀ n : Nat, ledF u p.2 (some (n : Int)) = ledF p.1 p.2 (some (n : Int)) := by
  obtain ⟨u, rfl, hu, _, hf⟩ := g.ex
  exact ⟨u, rfl, hu, hf⟩
theorem told_pair {o1 o2 : D} {p q : List Wt × Wt} {e : Bool} (g1 : IsG o1 (rf p).1 (rf p).2) (g2 : IsG o2 (rf q).1 (rf q).2) (he : e = true ↔ (∀ n : Nat, ledF p.1 p.2 (some (n : Int)) = ledF q.1 q.2 (some (n : Int))) ∧ p.2 = q.2) :
    m__law_told_equal [o1, o2, .bl e] = .ok (.bl true) := by
  obtain ⟨u, rfl, hu, hf⟩ := isG_of g1
  obtain ⟨v, rfl, hv, hg⟩ := isG_of g2
  have : e = (decide (u = v) && decide (p.2 = q.2)) := by
    rw [Bool.eq_iff_iff, he, Bool.and_eq_true, decide_eq_true_iff, decide_eq_true_iff]
    constructor
    · rintro ⟨h, hm⟩
      refine ⟨?_, hm⟩
      rw [← hm] at hv hg
      exact lst_uniq hu hv fun n => by rw [hf, h n, hm]; rw [hm] at hg; exact (hg n).symm
    · rintro ⟨h, hm⟩
      refine ⟨fun n => ?_, hm⟩
      rw [← hf, ← hg, h, hm]
  rw [this]
  exact told_GG u v p.2 q.2
theorem shift_e {o1 o2 : D} {f1 f2 : Nat → Wt} {m1 m2 : Wt} (g1 : IsG o1 f1 m1) (g2 : IsG o2 f2 m2) : ∃ o, own2R 0 m_Grade_rshift (.ok o1) (.ok o2) = .ok o ∧ IsG o (fun n => apF f2 (f1 n)) (addW m1 m2) := by
  obtain ⟨u, rfl, _⟩ := id g1.ex
  obtain ⟨v, rfl, _⟩ := id g2.ex
  rw [own2R_G]
  exact shift_ok g1 g2
theorem id_o : ∃ o, makeR 0 i_Grade_init [.tup [], .int 0] (.ok []) = .ok o ∧ IsG o (rf ([], some 0)).1 (some 0) := by
  obtain ⟨o, e, g⟩ := make_e true gid
  exact ⟨o, e, g⟩
theorem id_o2 : ∃ o, makeR 0 i_Grade_init [] (consR (lstV (dispR (.ok []))) (consR (.ok (.int 0)) (.ok []))) = .ok o ∧ IsG o (rf ([], some 0)).1 (some 0) := by
  obtain ⟨o, e, g⟩ := make_e false gid
  refine ⟨o, ?_, g⟩
  rw [disp_go (by simp), lstV_ok, consR_ok, consR_ok]
  exact e
theorem nul_o : ∃ o, makeR 0 i_Grade_init [] (consR (tupR (.ok [])) (consR (.ok .non) (.ok []))) = .ok o ∧ IsG o (rf ([], none)).1 none := by
  obtain ⟨o, e, g⟩ := make_e true gnul
  refine ⟨o, ?_, g⟩
  rw [tupR_ok, if_pos (by simp), consR_ok, consR_ok]
  exact e
theorem rf_id (n : Nat) : (rf ([], some 0)).1 n = some (n : Int) := by
  show ledF [] (some 0) (some (n : Int)) = _
  rw [ledF_out (by simp)]
  simp [bey]
theorem rf_nul (n : Nat) : (rf ([], none)).1 n = none := by
  show ledF [] none (some (n : Int)) = _
  rw [ledF_out (by simp)]
  rfl
theorem apF_id {f : Nat → Wt} (h : ∀ n, f n = some (n : Int)) {w : Wt} (hw : nn w) : apF f w = w := by
  cases w with
  | none => rfl
  | some i =>
    have := hw i rfl
    show f i.toNat = some i
    rw [h]
    congr 1
    omega
theorem minW_same (a : Wt) : minW a a = a := by
  exact leW_antisymm (minW_le1 a a) (minW_ge (leW_refl a) (leW_refl a))
end K01

namespace K01
open PySem PySem.Spec PyProof.Rows L2 Px
theorem plain_law (ns : List Int) (hl : ns.length ≤ 63) (hb : ∀ k ∈ ns, Builtin.Int.intBits k ≤ 1048576) : m_law [.scr (ns.map D.int)] = .ok (.bl true) := by
  refine To.eq ?_
  show To (b_law (.scr (ns.map D.int))) _
  unfold b_law
  have cell : ∀ k : Nat, k ≤ 1000 → ∃ c : Int, callR m__law_cell [] (consR (.ok (.scr (ns.map D.int))) (consR (.ok (.int k)) (.ok []))) = .ok (.int c) ∧ c.natAbs.log2 ≤ 1048576 := fun k hk => cell_ok ns hl hb k hk
  generalize D.scr (ns.map D.int) = scr at cell
  have cell' : ∀ (k : Nat) (i : Int), i = (k : Int) → k ≤ 1000 → ∃ c : Int, callR m__law_cell [] (consR (.ok scr) (consR (.ok (.int i)) (.ok []))) = .ok (.int c) ∧ c.natAbs.log2 ≤ 1048576 := fun k i e hk => by rw [e]; exact cell k hk
  obtain ⟨c0, ec0, _⟩ := cell' 0 0 rfl (by omega)
  obtain ⟨c1, ec1, _⟩ := cell' 1 1 rfl (by omega)
  obtain ⟨c2, ec2, _⟩ := cell' 2 2 rfl (by omega)
  obtain ⟨c3, ec3, _⟩ := cell' 3 3 rfl (by omega)
  obtain ⟨c4, ec4, _⟩ := cell' 4 4 rfl (by omega)
  obtain ⟨c5, ec5, _⟩ := cell' 5 5 rfl (by omega)
  rw [ec0, ec1, ec2, ec3, ec4, ec5]
  -- the shape
  obtain ⟨row, er, hlen, hrow⟩ := digits_ok c0 [4, 3, 100000000000000000000] (by decide +kernel) (by decide)
  refine To.bindE (a := .lst (row.map D.int)) ?_ ?_
  · have e1 : lstV (dispR (consR (.ok (.int 4)) (consR (.ok (.int 3)) (consR (op2 powD (.ok (.int 10)) (.ok (.int 20))) (.ok []))))) = .ok (.lst (([4, 3, 100000000000000000000] : List Int).map D.int)) := by
      simp only [consR_ok, op2_ok, p20, Res.ofO_some]
      rw [disp_go (by simp)]
      rfl
    rw [e1]
    simp only [consR_ok, callR_ok, List.append_nil, er]
  match row, hlen with
  | [s0, s1, s2], _ =>
  have h0 := hrow 0 s0 4 rfl rfl
  have h2 := hrow 2 s2 _ rfl rfl
  have x0 : ixD (.lst ([s0, s1, s2].map D.int)) (.int 0) = some (.int s0) := ix_lst (n := 0) rfl
  have x1 : ixD (.lst ([s0, s1, s2].map D.int)) (.int 1) = some (.int s1) := ix_lst (n := 1) rfl
  have x2 : ixD (.lst ([s0, s1, s2].map D.int)) (.int 2) = some (.int s2) := ix_lst (n := 2) rfl
  generalize D.lst ([s0, s1, s2].map D.int) = shp at x0 x1 x2
  clear hrow er
  -- the forms
  obtain ⟨b, eb, gb⟩ := grade_e c1
  obtain ⟨dr, edr, gdr⟩ := grade_e c5
  refine To.bindE (a := LG b) (by simp only [consR_ok, callR_ok, List.append_nil, eb]) ?_
  have hbl := gb.len
  refine To.bind (P := fun d => ∃ q : List Wt × Wt, d = LG q ∧ Good q.1 q.2 ∧ (∀ n : Nat, (rf q).1 n = (rf b).1 n) ∧ q.2 = b.2) ?_ ?_
  · obtain ⟨x, hx, e2⟩ := pick (l := [1, 2, 9, 30]) (n := s0) h0.1 (by simp; omega)
    have hx2 : 0 ≤ x := by
      simp only [List.mem_cons, List.not_mem_nil, or_false] at hx
      omega
    have e3 : ixD (.lst [.int 1, .int 2, .int 9, .int 30]) (.int s0) = some (.int x) := e2
    obtain ⟨M, hM⟩ := Int.eq_ofNat_of_zero_le (show 0 ≤ (if (b.1.length : Int) + x < 30 then (b.1.length : Int) + x else 30) by split <;> omega)
    have hM30 : M ≤ 30 := by
      have : (M : Int) ≤ 30 := by rw [← hM]; split <;> omega
      omega
    have eq := longer_ok b hbl M (by omega)
    have gw := gb.gf.weak (L' := b.1.length + (M - b.1.length)) (by omega)
    refine To.of (a := LG ((List.range (b.1.length + (M - b.1.length))).map (fun (n : Nat) => ledF b.1 b.2 (some (n : Int))), b.2)) ?_ ⟨((List.range (b.1.length + (M - b.1.length))).map (fun (n : Nat) => ledF b.1 b.2 (some (n : Int))), b.2), rfl, gw.good (by omega), fun n => gw.tab n, rfl⟩
    simp only [consR_ok, op2_ok, x0, Res.ofO_some]
    rw [disp_go (by simp)]
    simp only [lstV_ok, op2_ok, e3, ix0, Res.ofO_some, consR_ok, callO_ok, lenD_lst, List.length_map, addD_int, minD_int, hM, callR_ok, List.append_nil]
    exact eq
  rintro d ⟨lo, rfl, glo, flo, mlo⟩
  obtain ⟨u0, eu0, fu0, lu0, leu0⟩ := least_entries_ok hbl
  have gle : Good u0 b.2 := ⟨by have := gb.len; omega, gb.pos, fun n => by rw [fu0]; exact gb.ge n, fun n => by rw [fu0, fu0]; exact gb.mono n⟩
  obtain ⟨n1, en1, gn1⟩ := nudged_ok gb c2
  obtain ⟨n2, en2, gn2⟩ := nudged_ok glo c3
  obtain ⟨og, eog, gog⟩ := other_gain_ok glo c4
  obtain ⟨fu, efu, gfu⟩ := further_ok gb
  obtain ⟨cu, ecu, gcu⟩ := cut_ok glo s1
  refine To.bindE (a := .lst [LG b, LG lo, LG (u0, b.2), LG n1]) ?_ ?_
  · simp only [consR_ok, callR_ok, List.append_nil, en1, eu0, op2_ok, ix1, Res.ofO_some]
    rw [LG_mk]
    simp only [consR_ok]
    rw [disp_go (by simp), lstV_ok]
  refine To.bindE (a := .lst [LG b, LG lo, LG (u0, b.2), LG n1, LG n2, LG og]) ?_ ?_
  · simp only [consR_ok, callR_ok, List.append_nil, eog, en2]
    rw [disp_go (by simp), lstV_ok, op2_ok, addD_lst (by simp)]
    rfl
  obtain ⟨forms, hforms⟩ : ∃ l : List (List Wt × Wt), l = [b, lo, (u0, b.2), n1, n2, og, fu, cu, dr, b] := ⟨_, rfl⟩
  have hfl : forms.length = 10 := by rw [hforms]; rfl
  have hg : ∀ p ∈ forms, Good p.1 p.2 := fun p hp => by
    rw [hforms] at hp
    simp only [List.mem_cons, List.not_mem_nil, or_false] at hp
    rcases hp with rfl | rfl | rfl | rfl | rfl | rfl | rfl | rfl | rfl | rfl <;> assumption
  refine To.bindE (a := .lst (forms.map LG)) ?_ ?_
  · simp only [consR_ok, callR_ok, List.append_nil, op2_ok, x1, Res.ofO_some, efu, ecu, edr]
    rw [disp_go (by simp), lstV_ok, op2_ok, addD_lst (by simp), hforms]
    rfl
  -- the objects
  obtain ⟨os, eos, hos⟩ := mapR_objs forms hg
  have hol : os.length = 10 := by rw [hos.length, List.length_map, hfl]
  refine To.bindE (a := .lst os) ?_ ?_
  · have : mapL mkOne (itemsR (.ok (.lst (forms.map LG)))) = .ok os := by
      rw [itemsR_ok, itemsD_lst, Res.ofO_some]
      unfold mapL
      rw [Res.ok_bind, sizeLine_eq, if_pos (by simp; omega), eos]
    show lstV (mapL mkOne (itemsR (.ok (.lst (forms.map LG))))) = _
    rw [this, lstV_ok]
  have go : ∀ (k : Nat) (hk : k < 10), IsG (os[k]'(by omega)) (rf (forms[k]'(by omega))).1 (rf (forms[k]'(by omega))).2 := fun k hk => by
    have := hos.get k (by omega) (by simp; omega)
    simpa using this
  have gf : ∀ (k : Nat) (hk : k < 10), Good (forms[k]'(by omega)).1 (forms[k]'(by omega)).2 := fun k hk => hg _ (List.getElem_mem _)
  obtain ⟨A, rfl⟩ := Int.eq_ofNat_of_zero_le h2.1
  have xA : op2 ixD (.ok shp) (.ok (.int 2)) = .ok (.int A) := by rw [op2_ok, x2]; rfl
  rw [xA]
  have ixf : ∀ (k : Nat) (hk : k < 10), op2 ixD (.ok (.lst (forms.map LG))) (.ok (.int (k : Int))) = .ok (LG (forms[k]'(by omega))) := fun k hk => LGs forms k (by omega)
  have ixo : ∀ (k : Nat) (hk : k < 10), op2 ixD (.ok (.lst os)) (.ok (.int (k : Int))) = .ok (os[k]'(by omega)) := fun k hk => by
    rw [op2_ok, ix_lst (n := k) (List.getElem?_eq_getElem (by omega)), Res.ofO_some]
  have range10 : callOo rng1 (consR (callO lenD (consR (.ok (.lst (forms.map LG))) (.ok []))) (.ok [])) = .ok ((List.range 10).map fun (i : Nat) => D.int (i : Int)) := by
    simp only [consR_ok, callO_ok, lenD_lst, List.length_map, hfl, Res.ofO_some, callOo_ok, rng1_nat (show 10 ≤ 16777216 by omega)]
  refine To.bindE range10 ?_
  refine To.lp (To.forG (fun _ _ => True) (fun _ => False) (fun _ => False) trivial fun i s d hd _ => ?_) (fun _ _ => ?_) (fun _ h => h.elim)
  · obtain ⟨hi, rfl⟩ := range_get hd
    refine To.iteF ?_ (To.ok trivial)
    rw [ixo i hi, ixf i hi]
    simp only [consR_ok, callR_ok, List.append_nil, worths_ok (gf i hi).len A]
    rw [tells_ok (go i hi) (gf i hi).len (fun n => rfl) _ (wsOf_nn _ A)]
    rfl
  -- every two
  refine To.bindE range10 ?_
  refine To.lp (To.forG (fun _ _ => True) (fun _ => False) (fun _ => False) trivial fun i s d hd _ => ?_) (fun _ _ => ?_) (fun _ h => h.elim)
  · obtain ⟨hi, rfl⟩ := range_get hd
    refine To.bindE (a := (List.range (10 - i)).map fun (j : Nat) => D.int ((i + j : Nat) : Int)) ?_ ?_
    · simp only [consR_ok, callO_ok, lenD_lst, List.length_map, hfl, Res.ofO_some, callOo_ok]
      rw [rng2_nat (by omega) (by omega)]
      rfl
    refine To.lp (To.forG (fun _ _ => True) (fun _ => False) (fun _ => False) trivial fun j s d hd _ => ?_) (fun _ _ => To.ok trivial) (fun _ h => h.elim)
    rw [List.getElem?_map] at hd
    cases hq : (List.range (10 - i))[j]? with
    | none => rw [hq] at hd; cases hd
    | some j' =>
      rw [hq] at hd
      cases hd
      have hj := List.mem_of_getElem? hq
      rw [List.mem_range] at hj
      have hij : i + j' < 10 := by omega
      refine To.iteF ?_ (To.ok trivial)
      rw [ixo i hi, ixf i hi, ixo (i + j') hij, ixf (i + j') hij]
      obtain ⟨e, ee, he⟩ := same_fn_ok (gf i hi) (gf (i + j') hij)
      simp only [consR_ok, callR_ok, List.append_nil, ee, told_pair (go i hi) (go (i + j') hij) he]
      rfl
  -- taken together
  have i0 : op2 ixD (.ok (.lst os)) (.ok (.int 0)) = .ok (os[0]'(by omega)) := ixo 0 (by omega)
  have i1 : op2 ixD (.ok (.lst os)) (.ok (.int 1)) = .ok (os[1]'(by omega)) := ixo 1 (by omega)
  have i2 : op2 ixD (.ok (.lst os)) (.ok (.int 2)) = .ok (os[2]'(by omega)) := ixo 2 (by omega)
  have i8 : op2 ixD (.ok (.lst os)) (.ok (.int 8)) = .ok (os[8]'(by omega)) := ixo 8 (by omega)
  have i9 : op2 ixD (.ok (.lst os)) (.ok (.int 9)) = .ok (os[9]'(by omega)) := ixo 9 (by omega)
  have g0 : IsG (os[0]'(by omega)) (rf b).1 b.2 := by have := go 0 (by omega); subst hforms; exact this
  have g1 : IsG (os[1]'(by omega)) (rf lo).1 lo.2 := by have := go 1 (by omega); subst hforms; exact this
  have g2 : IsG (os[2]'(by omega)) (rf (u0, b.2)).1 b.2 := by have := go 2 (by omega); subst hforms; exact this
  have g8 : IsG (os[8]'(by omega)) (rf dr).1 dr.2 := by have := go 8 (by omega); subst hforms; exact this
  have g9 : IsG (os[9]'(by omega)) (rf b).1 b.2 := by have := go 9 (by omega); subst hforms; exact this
  have f8 : op2 ixD (.ok (.lst (forms.map LG))) (.ok (.int 8)) = .ok (LG dr) := by have := ixf 8 (by omega); subst hforms; exact this
  obtain ⟨id1, eid1, gid1⟩ := id_o
  obtain ⟨id2, eid2, gid2⟩ := id_o2
  obtain ⟨nl, enl, gnl⟩ := nul_o
  have nb : ∀ n : Nat, nn ((rf b).1 n) := fun n => nn_good gb n
  obtain ⟨a1, ea1, ga1⟩ := shift_e g0 gid1
  obtain ⟨a2, ea2, ga2⟩ := shift_e gid2 g1
  obtain ⟨a3, ea3, ga3⟩ := or_e g1 g9
  obtain ⟨a4, ea4, ga4⟩ := or_e g2 gnl
  have k1 : IsG a1 (rf b).1 b.2 := by
    have := ga1.congr (g := (rf b).1) fun n => apF_id rf_id (nb n)
    rw [show addW b.2 (some 0) = b.2 by cases b.2 <;> simp [addW]] at this
    exact this
  have k2 : IsG a2 (rf b).1 b.2 := by
    have := ga2.congr (g := (rf b).1) fun n => by
      rw [rf_id]
      show (rf lo).1 ((n : Int)).toNat = _
      rw [flo, Int.toNat_natCast]
    rw [addW_zero, mlo] at this
    exact this
  have k3 : IsG a3 (rf b).1 b.2 := by
    have := ga3.congr (g := (rf b).1) fun n => by rw [flo, minW_same]
    rw [mlo, minW_same] at this
    exact this
  have k4 : IsG a4 (rf b).1 b.2 := by
    have := ga4.congr (g := (rf b).1) fun n => by
      rw [rf_nul, minW_none]
      exact fu0 n
    rw [minW_none] at this
    exact this
  refine To.bindE (a := [a1, a2, a3, a4]) ?_ ?_
  · rw [i0, i1, i2, i9, eid1, eid2, enl, ea1, ea2, ea3, ea4]
    simp only [consR_ok]
    rw [disp_go (by simp), lstV_ok, itemsR_ok, itemsD_lst, Res.ofO_some]
  have hk : ∀ o ∈ [a1, a2, a3, a4], IsG o (rf b).1 (rf b).2 := fun o ho => by
    simp only [List.mem_cons, List.not_mem_nil, or_false] at ho
    rcases ho with rfl | rfl | rfl | rfl <;> assumption
  refine To.lp (To.forG (fun _ _ => True) (fun _ => False) (fun _ => False) trivial fun i s d hd _ => ?_) (fun _ _ => ?_) (fun _ h => h.elim)
  · have gd := hk d (List.mem_of_getElem? hd)
    refine To.iteF ?_ (To.ok trivial)
    rw [i0]
    simp only [consR_ok, callR_ok, List.append_nil, worths_ok gb.len A]
    rw [tells_ok gd gb.len (fun n => rfl) _ (wsOf_nn _ A), told_pair (e := true) gd (p := b) (q := b) g0 ⟨fun _ => ⟨fun _ => rfl, rfl⟩, fun _ => rfl⟩]
    rfl
  -- unlike
  refine To.iteF ?_ ?_
  · rw [i0, i8, f8]
    simp only [consR_ok, callR_ok, List.append_nil]
    rw [unlike_ok (p := b) g0 gb.len, unlike_ok (p := dr) g8 gdr.len]
    rfl
  -- once more
  refine To.bindE range10 ?_
  refine To.lp (To.forG (fun _ _ => True) (fun _ => False) (fun _ => False) trivial fun i s d hd _ => ?_) (fun _ _ => To.ok rfl) (fun _ h => h.elim)
  obtain ⟨hi, rfl⟩ := range_get hd
  refine To.iteF ?_ (To.ok trivial)
  rw [ixo i hi, ixf i hi]
  have e3 : lstV (dispR (consR (.ok (.int 0)) (consR (.ok (.int (A : Int))) (consR (.ok .non) (.ok []))))) = .ok (.lst ([some ((0 : Nat) : Int), some (A : Int), none].map W)) := by
    simp only [consR_ok]
    rw [disp_go (by simp), lstV_ok]
    rfl
  rw [e3]
  simp only [consR_ok, callR_ok, List.append_nil]
  rw [tells_ok (go i hi) (gf i hi).len (fun n => rfl) _ (fun w hw => ?_)]
  · rfl
  · simp only [List.mem_cons, List.not_mem_nil, or_false] at hw
    rcases hw with rfl | rfl | rfl
    · exact nn_nat 0
    · exact nn_nat A
    · intro i e; cases e
end K01

namespace K01
open PySem PySem.Spec PyProof.Rows L2 Px
def spLaw (K : PySem.W.Frag) : Sp := fun vs H Q _ => ∃ (a : Addr) (ns : List Int), vs = [.ref a] ∧ SqL K H a (ns.map V.int) ∧ ns.length ≤ 63 ∧ (∀ k ∈ ns, Builtin.Int.intBits k ≤ 1048576) ∧ ∀ H', Q (.bl true) H'
theorem ok_end {g : FP} {a : Adr} (S : Txt g a) : FnOk g.P g.w g.K g.mg g.base (L2.CX g.P g.w) 8 a.f_law a.fd_law ["script"] (spLaw g.K) := by
  refine (ok_law S).imp fun vs H Q E h => ?_
  obtain ⟨p, ns, rfl, hS, hl, hb, q⟩ := h
  refine ⟨H, [.scr (ns.map D.int)], Same.refl _, .cons (.scr hS (Reps.ints ns)) .nil, rfl, ?_⟩
  rw [plain_law ns hl hb]
  intro v H' G' _ r
  cases r
  exact q H'
theorem all_mk {l : PySem.W.OpenLaw} {w : World} {K : PySem.W.Frag} {h : Heap} {mg : Str → Option Value} {fa C_Grade C_Book f__law_digits f__law_cell f__law_entry f__law_grade f__law_whole f__law_longer f__law_between f__law_nudged f__law_least_entries f__law_other_gain f__law_cut f__law_further f_is_whole f_is_number f_is_worth f_rank_of f_is_before f_first_bad_entry f_is_right_more f_beyond f_least_table f_Grade_init D_Grade_init dA_Grade_init_0 f__law_same_worth f__law_same_worths f__law_at f_led f_Grade_call f__law_tells f__law_worths f_Grade_eq f__law_told_equal f__law_same_function f_least_of f_Grade_or f_total_of f_Grade_rshift f_is_name f_Book_init D_Book_init dA_Book_init_0 f__law_unlike f_law : Addr} {od__law_digits an__law_digits : Option Addr} {sl__law_digits : Array (Option Value)} {oc__law_digits kV__law_digits dc__law_digits pm__law_digits cd__law_digits ct__law_digits : Value} {od__law_cell an__law_cell : Option Addr} {sl__law_cell : Array (Option Value)} {oc__law_cell kV__law_cell dc__law_cell pm__law_cell cd__law_cell ct__law_cell : Value} {od__law_entry an__law_entry : Option Addr} {sl__law_entry : Array (Option Value)} {oc__law_entry kV__law_entry dc__law_entry pm__law_entry cd__law_entry ct__law_entry : Value} {od__law_grade an__law_grade : Option Addr} {sl__law_grade : Array (Option Value)} {oc__law_grade kV__law_grade dc__law_grade pm__law_grade cd__law_grade ct__law_grade : Value} {od__law_whole an__law_whole : Option Addr} {sl__law_whole : Array (Option Value)} {oc__law_whole kV__law_whole dc__law_whole pm__law_whole cd__law_whole ct__law_whole : Value} {od__law_longer an__law_longer : Option Addr} {sl__law_longer : Array (Option Value)} {oc__law_longer kV__law_longer dc__law_longer pm__law_longer cd__law_longer ct__law_longer : Value} {od__law_between an__law_between : Option Addr} {sl__law_between : Array (Option Value)} {oc__law_between kV__law_between dc__law_between pm__law_between cd__law_between ct__law_between : Value} {od__law_nudged an__law_nudged : Option Addr} {sl__law_nudged : Array (Option Value)} {oc__law_nudged kV__law_nudged dc__law_nudged pm__law_nudged cd__law_nudged ct__law_nudged : Value} {od__law_least_entries an__law_least_entries : Option Addr} {sl__law_least_entries : Array (Option Value)} {oc__law_least_entries kV__law_least_entries dc__law_least_entries pm__law_least_entries cd__law_least_entries ct__law_least_entries : Value} {od__law_other_gain an__law_other_gain : Option Addr} {sl__law_other_gain : Array (Option Value)} {oc__law_other_gain kV__law_other_gain dc__law_other_gain pm__law_other_gain cd__law_other_gain ct__law_other_gain : Value} {od__law_cut an__law_cut : Option Addr} {sl__law_cut : Array (Option Value)} {oc__law_cut kV__law_cut dc__law_cut pm__law_cut cd__law_cut ct__law_cut : Value} {od__law_further an__law_further : Option Addr} {sl__law_further : Array (Option Value)} {oc__law_further kV__law_further dc__law_further pm__law_further cd__law_further ct__law_further : Value} {od_is_whole an_is_whole : Option Addr} {sl_is_whole : Array (Option Value)} {oc_is_whole kV_is_whole dc_is_whole pm_is_whole cd_is_whole ct_is_whole : Value} {od_is_number an_is_number : Option Addr} {sl_is_number : Array (Option Value)} {oc_is_number kV_is_number dc_is_number pm_is_number cd_is_number ct_is_number : Value} {od_is_worth an_is_worth : Option Addr} {sl_is_worth : Array (Option Value)} {oc_is_worth kV_is_worth dc_is_worth pm_is_worth cd_is_worth ct_is_worth : Value} {od_rank_of an_rank_of : Option Addr} {sl_rank_of : Array (Option Value)} {oc_rank_of kV_rank_of dc_rank_of pm_rank_of cd_rank_of ct_rank_of : Value} {od_is_before an_is_before : Option Addr} {sl_is_before : Array (Option Value)} {oc_is_before kV_is_before dc_is_before pm_is_before cd_is_before ct_is_before : Value} {od_first_bad_entry an_first_bad_entry : Option Addr} {sl_first_bad_entry : Array (Option Value)} {oc_first_bad_entry kV_first_bad_entry dc_first_bad_entry pm_first_bad_entry cd_first_bad_entry ct_first_bad_entry : Value} {od_is_right_more an_is_right_more : Option Addr} {sl_is_right_more : Array (Option Value)} {oc_is_right_more kV_is_right_more dc_is_right_more pm_is_right_more cd_is_right_more ct_is_right_more : Value} {od_beyond an_beyond : Option Addr} {sl_beyond : Array (Option Value)} {oc_beyond kV_beyond dc_beyond pm_beyond cd_beyond ct_beyond : Value} {od_least_table an_least_table : Option Addr} {sl_least_table : Array (Option Value)} {oc_least_table kV_least_table dc_least_table pm_least_table cd_least_table ct_least_table : Value} {od_Grade_init an_Grade_init : Option Addr} {sl_Grade_init : Array (Option Value)} {oc_Grade_init kV_Grade_init dc_Grade_init pm_Grade_init cd_Grade_init ct_Grade_init : Value} {dd_Grade_init_0 : Option Addr} {dn_Grade_init_0 : Nat} {ds_Grade_init_0 : Array (Option Value)} {dt_Grade_init_1 : Tok} {do_Grade_init : Value} {dd_Grade_init : Option Addr} {dn_Grade_init : Nat} {ds_Grade_init : Array (Option Value)} {od__law_same_worth an__law_same_worth : Option Addr} {sl__law_same_worth : Array (Option Value)} {oc__law_same_worth kV__law_same_worth dc__law_same_worth pm__law_same_worth cd__law_same_worth ct__law_same_worth : Value} {od__law_same_worths an__law_same_worths : Option Addr} {sl__law_same_worths : Array (Option Value)} {oc__law_same_worths kV__law_same_worths dc__law_same_worths pm__law_same_worths cd__law_same_worths ct__law_same_worths : Value} {od__law_at an__law_at : Option Addr} {sl__law_at : Array (Option Value)} {oc__law_at kV__law_at dc__law_at pm__law_at cd__law_at ct__law_at : Value} {od_led an_led : Option Addr} {sl_led : Array (Option Value)} {oc_led kV_led dc_led pm_led cd_led ct_led : Value} {od_Grade_call an_Grade_call : Option Addr} {sl_Grade_call : Array (Option Value)} {oc_Grade_call kV_Grade_call dc_Grade_call pm_Grade_call cd_Grade_call ct_Grade_call : Value} {od__law_tells an__law_tells : Option Addr} {sl__law_tells : Array (Option Value)} {oc__law_tells kV__law_tells dc__law_tells pm__law_tells cd__law_tells ct__law_tells : Value} {od__law_worths an__law_worths : Option Addr} {sl__law_worths : Array (Option Value)} {oc__law_worths kV__law_worths dc__law_worths pm__law_worths cd__law_worths ct__law_worths : Value} {od_Grade_eq an_Grade_eq : Option Addr} {sl_Grade_eq : Array (Option Value)} {oc_Grade_eq kV_Grade_eq dc_Grade_eq pm_Grade_eq cd_Grade_eq ct_Grade_eq : Value} {od__law_told_equal an__law_told_equal : Option Addr} {sl__law_told_equal : Array (Option Value)} {oc__law_told_equal kV__law_told_equal dc__law_told_equal pm__law_told_equal cd__law_told_equal ct__law_told_equal : Value} {od__law_same_function an__law_same_function : Option Addr} {sl__law_same_function : Array (Option Value)} {oc__law_same_function kV__law_same_function dc__law_same_function pm__law_same_function cd__law_same_function ct__law_same_function : Value} {od_least_of an_least_of : Option Addr} {sl_least_of : Array (Option Value)} {oc_least_of kV_least_of dc_least_of pm_least_of cd_least_of ct_least_of : Value} {od_Grade_or an_Grade_or : Option Addr} {sl_Grade_or : Array (Option Value)} {oc_Grade_or kV_Grade_or dc_Grade_or pm_Grade_or cd_Grade_or ct_Grade_or : Value} {od_total_of an_total_of : Option Addr} {sl_total_of : Array (Option Value)} {oc_total_of kV_total_of dc_total_of pm_total_of cd_total_of ct_total_of : Value} {od_Grade_rshift an_Grade_rshift : Option Addr} {sl_Grade_rshift : Array (Option Value)} {oc_Grade_rshift kV_Grade_rshift dc_Grade_rshift pm_Grade_rshift cd_Grade_rshift ct_Grade_rshift : Value} {od_is_name an_is_name : Option Addr} {sl_is_name : Array (Option Value)} {oc_is_name kV_is_name dc_is_name pm_is_name cd_is_name ct_is_name : Value} {od_Book_init an_Book_init : Option Addr} {sl_Book_init : Array (Option Value)} {oc_Book_init kV_Book_init dc_Book_init pm_Book_init cd_Book_init ct_Book_init : Value} {dd_Book_init_0 : Option Addr} {dn_Book_init_0 : Nat} {ds_Book_init_0 : Array (Option Value)} {do_Book_init : Value} {dd_Book_init : Option Addr} {dn_Book_init : Nat} {ds_Book_init : Array (Option Value)} {od__law_unlike an__law_unlike : Option Addr} {sl__law_unlike : Array (Option Value)} {oc__law_unlike kV__law_unlike dc__law_unlike pm__law_unlike cd__law_unlike ct__law_unlike : Value} {od_law an_law : Option Addr} {sl_law : Array (Option Value)} {oc_law kV_law dc_law pm_law cd_law ct_law : Value} {t_DIGITS : Tok} {t_LETTERS : Tok} {t_MOST_CHARACTERS : Tok} {t_MOST_ENTRIES : Tok} (X : K.In h) (Gm : h.Ns mainGlobals mg) (hfa : mg "law" = some (.ref fa))
    (gC_Grade : PySem.W.nsIn K mainGlobals "Grade" = some (some (.ref C_Grade)))
    (gC_Book : PySem.W.nsIn K mainGlobals "Book" = some (some (.ref C_Book)))
    (pg_Grade : PySem.W.plainGet K C_Grade Str.empty = true)
    (hd_Grade : PySem.W.hasDictIn K C_Grade = true)
    (po_Grade : PySem.W.plainOver K C_Grade = true)
    (sa_Grade : PySem.W.findIn K (.ref C_Grade) "__setattr__" = some (some (.builtin "object.__setattr__")))
    (mi_Grade : PySem.W.makesIn K C_Grade = true)
    (kc_Grade : PySem.W.keepIn K (.ref C_Grade) = true)
    (sf_Grade : PySem.W.selfFirst K C_Grade = true)
    (t1_Grade : PySem.W.findIn K (.ref C_Grade) "__class__" = some (some (.builtin "object.__class__")))
    (t4_Grade : PySem.W.mroIn K C_Grade (.type "object") = some true)
    (ic_Grade : PySem.W.isClsIn K C_Grade = true)
    (ty_Grade : PySem.W.typeIn K (.ref C_Grade) = some (.type "type"))
    (bNoneType_Grade : PySem.W.subIn K (.type "NoneType") (.ref C_Grade) = some false)
    (bbool_Grade : PySem.W.subIn K (.type "bool") (.ref C_Grade) = some false)
    (bint_Grade : PySem.W.subIn K (.type "int") (.ref C_Grade) = some false)
    (bstr_Grade : PySem.W.subIn K (.type "str") (.ref C_Grade) = some false)
    (blist_Grade : PySem.W.subIn K (.type "list") (.ref C_Grade) = some false)
    (btuple_Grade : PySem.W.subIn K (.type "tuple") (.ref C_Grade) = some false)
    (bdict_Grade : PySem.W.subIn K (.type "dict") (.ref C_Grade) = some false)
    (sbool_Grade : PySem.W.subIn K (.ref C_Grade) (.type "bool") = some false)
    (sint_Grade : PySem.W.subIn K (.ref C_Grade) (.type "int") = some false)
    (sstr_Grade : PySem.W.subIn K (.ref C_Grade) (.type "str") = some false)
    (slist_Grade : PySem.W.subIn K (.ref C_Grade) (.type "list") = some false)
    (stuple_Grade : PySem.W.subIn K (.ref C_Grade) (.type "tuple") = some false)
    (sdict_Grade : PySem.W.subIn K (.ref C_Grade) (.type "dict") = some false)
    (na_Grade_table : PySem.W.findIn K (.ref C_Grade) "table" = some none)
    (na_Grade_more : PySem.W.findIn K (.ref C_Grade) "more" = some none)
    (cc_Grade_Book : PySem.W.subIn K (.ref C_Grade) (.ref C_Book) = some false)
    (ne_Grade_Book : C_Grade ≠ C_Book)
    (pg_Book : PySem.W.plainGet K C_Book Str.empty = true)
    (hd_Book : PySem.W.hasDictIn K C_Book = true)
    (po_Book : PySem.W.plainOver K C_Book = true)
    (sa_Book : PySem.W.findIn K (.ref C_Book) "__setattr__" = some (some (.builtin "object.__setattr__")))
    (mi_Book : PySem.W.makesIn K C_Book = true)
    (kc_Book : PySem.W.keepIn K (.ref C_Book) = true)
    (sf_Book : PySem.W.selfFirst K C_Book = true)
    (t1_Book : PySem.W.findIn K (.ref C_Book) "__class__" = some (some (.builtin "object.__class__")))
    (t4_Book : PySem.W.mroIn K C_Book (.type "object") = some true)
    (ic_Book : PySem.W.isClsIn K C_Book = true)
    (ty_Book : PySem.W.typeIn K (.ref C_Book) = some (.type "type"))
    (bNoneType_Book : PySem.W.subIn K (.type "NoneType") (.ref C_Book) = some false)
    (bbool_Book : PySem.W.subIn K (.type "bool") (.ref C_Book) = some false)
    (bint_Book : PySem.W.subIn K (.type "int") (.ref C_Book) = some false)
    (bstr_Book : PySem.W.subIn K (.type "str") (.ref C_Book) = some false)
    (blist_Book : PySem.W.subIn K (.type "list") (.ref C_Book) = some false)
    (btuple_Book : PySem.W.subIn K (.type "tuple") (.ref C_Book) = some false)
    (bdict_Book : PySem.W.subIn K (.type "dict") (.ref C_Book) = some false)
    (sbool_Book : PySem.W.subIn K (.ref C_Book) (.type "bool") = some false)
    (sint_Book : PySem.W.subIn K (.ref C_Book) (.type "int") = some false)
    (sstr_Book : PySem.W.subIn K (.ref C_Book) (.type "str") = some false)
    (slist_Book : PySem.W.subIn K (.ref C_Book) (.type "list") = some false)
    (stuple_Book : PySem.W.subIn K (.ref C_Book) (.type "tuple") = some false)
    (sdict_Book : PySem.W.subIn K (.ref C_Book) (.type "dict") = some false)
    (na_Book_names : PySem.W.findIn K (.ref C_Book) "names" = some none)
    (na_Book_grades : PySem.W.findIn K (.ref C_Book) "grades" = some none)
    (cc_Book_Grade : PySem.W.subIn K (.ref C_Book) (.ref C_Grade) = some false)
    (ne_Book_Grade : C_Book ≠ C_Grade)
    (sNoneType_Grade : PySem.W.subIn K (.ref C_Grade) (.type "NoneType") = some false)
    (on_Grade : PySem.W.findIn K (.ref C_Grade) "__ne__" = some (some (.builtin "object.__ne__")))
    (oq_Book : PySem.W.findIn K (.ref C_Book) "__eq__" = some (some (.builtin "object.__eq__")))
    (on_Book : PySem.W.findIn K (.ref C_Book) "__ne__" = some (some (.builtin "object.__ne__")))
    (ob2 : PySem.W.specialIn K (.builtin "object.__class__") "__get__" = some (some (.builtin "getset_descriptor.__get__")))
    (ob3 : PySem.W.takesIn K (.builtin "object.__class__") = some true)
    (a__law_digits : PySem.W.nsIn K mainGlobals "_law_digits" = some (some (.ref f__law_digits)))
    (l__law_digits : K.lookup f__law_digits = some ⟨oc__law_digits, od__law_digits, .func (PySem.W.fnOf "_law_digits" "_law_digits" (defArgs s__law_digits) (defBody s__law_digits) (defScope s__law_digits) .none kV__law_digits dc__law_digits pm__law_digits an__law_digits cd__law_digits ct__law_digits), sl__law_digits⟩)
    (c__law_digits : PySem.W.codeIn K cd__law_digits "_law_digits" = true)
    (k__law_digits : PySem.W.keepIn K (.ref f__law_digits) = true)
    (a__law_cell : PySem.W.nsIn K mainGlobals "_law_cell" = some (some (.ref f__law_cell)))
    (l__law_cell : K.lookup f__law_cell = some ⟨oc__law_cell, od__law_cell, .func (PySem.W.fnOf "_law_cell" "_law_cell" (defArgs s__law_cell) (defBody s__law_cell) (defScope s__law_cell) .none kV__law_cell dc__law_cell pm__law_cell an__law_cell cd__law_cell ct__law_cell), sl__law_cell⟩)
    (c__law_cell : PySem.W.codeIn K cd__law_cell "_law_cell" = true)
    (k__law_cell : PySem.W.keepIn K (.ref f__law_cell) = true)
    (a__law_entry : PySem.W.nsIn K mainGlobals "_law_entry" = some (some (.ref f__law_entry)))
    (l__law_entry : K.lookup f__law_entry = some ⟨oc__law_entry, od__law_entry, .func (PySem.W.fnOf "_law_entry" "_law_entry" (defArgs s__law_entry) (defBody s__law_entry) (defScope s__law_entry) .none kV__law_entry dc__law_entry pm__law_entry an__law_entry cd__law_entry ct__law_entry), sl__law_entry⟩)
    (c__law_entry : PySem.W.codeIn K cd__law_entry "_law_entry" = true)
    (k__law_entry : PySem.W.keepIn K (.ref f__law_entry) = true)
    (a__law_grade : PySem.W.nsIn K mainGlobals "_law_grade" = some (some (.ref f__law_grade)))
    (l__law_grade : K.lookup f__law_grade = some ⟨oc__law_grade, od__law_grade, .func (PySem.W.fnOf "_law_grade" "_law_grade" (defArgs s__law_grade) (defBody s__law_grade) (defScope s__law_grade) .none kV__law_grade dc__law_grade pm__law_grade an__law_grade cd__law_grade ct__law_grade), sl__law_grade⟩)
    (c__law_grade : PySem.W.codeIn K cd__law_grade "_law_grade" = true)
    (k__law_grade : PySem.W.keepIn K (.ref f__law_grade) = true)
    (a__law_whole : PySem.W.nsIn K mainGlobals "_law_whole" = some (some (.ref f__law_whole)))
    (l__law_whole : K.lookup f__law_whole = some ⟨oc__law_whole, od__law_whole, .func (PySem.W.fnOf "_law_whole" "_law_whole" (defArgs s__law_whole) (defBody s__law_whole) (defScope s__law_whole) .none kV__law_whole dc__law_whole pm__law_whole an__law_whole cd__law_whole ct__law_whole), sl__law_whole⟩)
    (c__law_whole : PySem.W.codeIn K cd__law_whole "_law_whole" = true)
    (k__law_whole : PySem.W.keepIn K (.ref f__law_whole) = true)
    (a__law_longer : PySem.W.nsIn K mainGlobals "_law_longer" = some (some (.ref f__law_longer)))
    (l__law_longer : K.lookup f__law_longer = some ⟨oc__law_longer, od__law_longer, .func (PySem.W.fnOf "_law_longer" "_law_longer" (defArgs s__law_longer) (defBody s__law_longer) (defScope s__law_longer) .none kV__law_longer dc__law_longer pm__law_longer an__law_longer cd__law_longer ct__law_longer), sl__law_longer⟩)
    (c__law_longer : PySem.W.codeIn K cd__law_longer "_law_longer" = true)
    (k__law_longer : PySem.W.keepIn K (.ref f__law_longer) = true)
    (a__law_between : PySem.W.nsIn K mainGlobals "_law_between" = some (some (.ref f__law_between)))
    (l__law_between : K.lookup f__law_between = some ⟨oc__law_between, od__law_between, .func (PySem.W.fnOf "_law_between" "_law_between" (defArgs s__law_between) (defBody s__law_between) (defScope s__law_between) .none kV__law_between dc__law_between pm__law_between an__law_between cd__law_between ct__law_between), sl__law_between⟩)
    (c__law_between : PySem.W.codeIn K cd__law_between "_law_between" = true)
    (k__law_between : PySem.W.keepIn K (.ref f__law_between) = true)
    (a__law_nudged : PySem.W.nsIn K mainGlobals "_law_nudged" = some (some (.ref f__law_nudged)))
    (l__law_nudged : K.lookup f__law_nudged = some ⟨oc__law_nudged, od__law_nudged, .func (PySem.W.fnOf "_law_nudged" "_law_nudged" (defArgs s__law_nudged) (defBody s__law_nudged) (defScope s__law_nudged) .none kV__law_nudged dc__law_nudged pm__law_nudged an__law_nudged cd__law_nudged ct__law_nudged), sl__law_nudged⟩)
    (c__law_nudged : PySem.W.codeIn K cd__law_nudged "_law_nudged" = true)
    (k__law_nudged : PySem.W.keepIn K (.ref f__law_nudged) = true)
    (a__law_least_entries : PySem.W.nsIn K mainGlobals "_law_least_entries" = some (some (.ref f__law_least_entries)))
    (l__law_least_entries : K.lookup f__law_least_entries = some ⟨oc__law_least_entries, od__law_least_entries, .func (PySem.W.fnOf "_law_least_entries" "_law_least_entries" (defArgs s__law_least_entries) (defBody s__law_least_entries) (defScope s__law_least_entries) .none kV__law_least_entries dc__law_least_entries pm__law_least_entries an__law_least_entries cd__law_least_entries ct__law_least_entries), sl__law_least_entries⟩)
    (c__law_least_entries : PySem.W.codeIn K cd__law_least_entries "_law_least_entries" = true)
    (k__law_least_entries : PySem.W.keepIn K (.ref f__law_least_entries) = true)
    (a__law_other_gain : PySem.W.nsIn K mainGlobals "_law_other_gain" = some (some (.ref f__law_other_gain)))
    (l__law_other_gain : K.lookup f__law_other_gain = some ⟨oc__law_other_gain, od__law_other_gain, .func (PySem.W.fnOf "_law_other_gain" "_law_other_gain" (defArgs s__law_other_gain) (defBody s__law_other_gain) (defScope s__law_other_gain) .none kV__law_other_gain dc__law_other_gain pm__law_other_gain an__law_other_gain cd__law_other_gain ct__law_other_gain), sl__law_other_gain⟩)
    (c__law_other_gain : PySem.W.codeIn K cd__law_other_gain "_law_other_gain" = true)
    (k__law_other_gain : PySem.W.keepIn K (.ref f__law_other_gain) = true)
    (a__law_cut : PySem.W.nsIn K mainGlobals "_law_cut" = some (some (.ref f__law_cut)))
    (l__law_cut : K.lookup f__law_cut = some ⟨oc__law_cut, od__law_cut, .func (PySem.W.fnOf "_law_cut" "_law_cut" (defArgs s__law_cut) (defBody s__law_cut) (defScope s__law_cut) .none kV__law_cut dc__law_cut pm__law_cut an__law_cut cd__law_cut ct__law_cut), sl__law_cut⟩)
    (c__law_cut : PySem.W.codeIn K cd__law_cut "_law_cut" = true)
    (k__law_cut : PySem.W.keepIn K (.ref f__law_cut) = true)
    (a__law_further : PySem.W.nsIn K mainGlobals "_law_further" = some (some (.ref f__law_further)))
    (l__law_further : K.lookup f__law_further = some ⟨oc__law_further, od__law_further, .func (PySem.W.fnOf "_law_further" "_law_further" (defArgs s__law_further) (defBody s__law_further) (defScope s__law_further) .none kV__law_further dc__law_further pm__law_further an__law_further cd__law_further ct__law_further), sl__law_further⟩)
    (c__law_further : PySem.W.codeIn K cd__law_further "_law_further" = true)
    (k__law_further : PySem.W.keepIn K (.ref f__law_further) = true)
    (a_is_whole : PySem.W.nsIn K mainGlobals "is_whole" = some (some (.ref f_is_whole)))
    (l_is_whole : K.lookup f_is_whole = some ⟨oc_is_whole, od_is_whole, .func (PySem.W.fnOf "is_whole" "is_whole" (defArgs s_is_whole) (defBody s_is_whole) (defScope s_is_whole) .none kV_is_whole dc_is_whole pm_is_whole an_is_whole cd_is_whole ct_is_whole), sl_is_whole⟩)
    (c_is_whole : PySem.W.codeIn K cd_is_whole "is_whole" = true)
    (k_is_whole : PySem.W.keepIn K (.ref f_is_whole) = true)
    (a_is_number : PySem.W.nsIn K mainGlobals "is_number" = some (some (.ref f_is_number)))
    (l_is_number : K.lookup f_is_number = some ⟨oc_is_number, od_is_number, .func (PySem.W.fnOf "is_number" "is_number" (defArgs s_is_number) (defBody s_is_number) (defScope s_is_number) .none kV_is_number dc_is_number pm_is_number an_is_number cd_is_number ct_is_number), sl_is_number⟩)
    (c_is_number : PySem.W.codeIn K cd_is_number "is_number" = true)
    (k_is_number : PySem.W.keepIn K (.ref f_is_number) = true)
    (a_is_worth : PySem.W.nsIn K mainGlobals "is_worth" = some (some (.ref f_is_worth)))
    (l_is_worth : K.lookup f_is_worth = some ⟨oc_is_worth, od_is_worth, .func (PySem.W.fnOf "is_worth" "is_worth" (defArgs s_is_worth) (defBody s_is_worth) (defScope s_is_worth) .none kV_is_worth dc_is_worth pm_is_worth an_is_worth cd_is_worth ct_is_worth), sl_is_worth⟩)
    (c_is_worth : PySem.W.codeIn K cd_is_worth "is_worth" = true)
    (k_is_worth : PySem.W.keepIn K (.ref f_is_worth) = true)
    (a_rank_of : PySem.W.nsIn K mainGlobals "rank_of" = some (some (.ref f_rank_of)))
    (l_rank_of : K.lookup f_rank_of = some ⟨oc_rank_of, od_rank_of, .func (PySem.W.fnOf "rank_of" "rank_of" (defArgs s_rank_of) (defBody s_rank_of) (defScope s_rank_of) .none kV_rank_of dc_rank_of pm_rank_of an_rank_of cd_rank_of ct_rank_of), sl_rank_of⟩)
    (c_rank_of : PySem.W.codeIn K cd_rank_of "rank_of" = true)
    (k_rank_of : PySem.W.keepIn K (.ref f_rank_of) = true)
    (a_is_before : PySem.W.nsIn K mainGlobals "is_before" = some (some (.ref f_is_before)))
    (l_is_before : K.lookup f_is_before = some ⟨oc_is_before, od_is_before, .func (PySem.W.fnOf "is_before" "is_before" (defArgs s_is_before) (defBody s_is_before) (defScope s_is_before) .none kV_is_before dc_is_before pm_is_before an_is_before cd_is_before ct_is_before), sl_is_before⟩)
    (c_is_before : PySem.W.codeIn K cd_is_before "is_before" = true)
    (k_is_before : PySem.W.keepIn K (.ref f_is_before) = true)
    (a_first_bad_entry : PySem.W.nsIn K mainGlobals "first_bad_entry" = some (some (.ref f_first_bad_entry)))
    (l_first_bad_entry : K.lookup f_first_bad_entry = some ⟨oc_first_bad_entry, od_first_bad_entry, .func (PySem.W.fnOf "first_bad_entry" "first_bad_entry" (defArgs s_first_bad_entry) (defBody s_first_bad_entry) (defScope s_first_bad_entry) .none kV_first_bad_entry dc_first_bad_entry pm_first_bad_entry an_first_bad_entry cd_first_bad_entry ct_first_bad_entry), sl_first_bad_entry⟩)
    (c_first_bad_entry : PySem.W.codeIn K cd_first_bad_entry "first_bad_entry" = true)
    (k_first_bad_entry : PySem.W.keepIn K (.ref f_first_bad_entry) = true)
    (a_is_right_more : PySem.W.nsIn K mainGlobals "is_right_more" = some (some (.ref f_is_right_more)))
    (l_is_right_more : K.lookup f_is_right_more = some ⟨oc_is_right_more, od_is_right_more, .func (PySem.W.fnOf "is_right_more" "is_right_more" (defArgs s_is_right_more) (defBody s_is_right_more) (defScope s_is_right_more) .none kV_is_right_more dc_is_right_more pm_is_right_more an_is_right_more cd_is_right_more ct_is_right_more), sl_is_right_more⟩)
    (c_is_right_more : PySem.W.codeIn K cd_is_right_more "is_right_more" = true)
    (k_is_right_more : PySem.W.keepIn K (.ref f_is_right_more) = true)
    (a_beyond : PySem.W.nsIn K mainGlobals "beyond" = some (some (.ref f_beyond)))
    (l_beyond : K.lookup f_beyond = some ⟨oc_beyond, od_beyond, .func (PySem.W.fnOf "beyond" "beyond" (defArgs s_beyond) (defBody s_beyond) (defScope s_beyond) .none kV_beyond dc_beyond pm_beyond an_beyond cd_beyond ct_beyond), sl_beyond⟩)
    (c_beyond : PySem.W.codeIn K cd_beyond "beyond" = true)
    (k_beyond : PySem.W.keepIn K (.ref f_beyond) = true)
    (a_least_table : PySem.W.nsIn K mainGlobals "least_table" = some (some (.ref f_least_table)))
    (l_least_table : K.lookup f_least_table = some ⟨oc_least_table, od_least_table, .func (PySem.W.fnOf "least_table" "least_table" (defArgs s_least_table) (defBody s_least_table) (defScope s_least_table) .none kV_least_table dc_least_table pm_least_table an_least_table cd_least_table ct_least_table), sl_least_table⟩)
    (c_least_table : PySem.W.codeIn K cd_least_table "least_table" = true)
    (k_least_table : PySem.W.keepIn K (.ref f_least_table) = true)
    (a_Grade_init : PySem.W.findIn K (.ref C_Grade) "__init__" = some (some (.ref f_Grade_init)))
    (i_Grade_init : PySem.W.isFn K (.ref f_Grade_init) = true)
    (l_Grade_init : K.lookup f_Grade_init = some ⟨oc_Grade_init, od_Grade_init, .func (PySem.W.fnOf "__init__" "Grade.__init__" (defArgs s_Grade_init) (defBody s_Grade_init) (defScope s_Grade_init) (.ref D_Grade_init) kV_Grade_init dc_Grade_init pm_Grade_init an_Grade_init cd_Grade_init ct_Grade_init), sl_Grade_init⟩)
    (c_Grade_init : PySem.W.codeIn K cd_Grade_init "Grade.__init__" = true)
    (k_Grade_init : PySem.W.keepIn K (.ref f_Grade_init) = true)
    (lD_Grade_init : K.lookup D_Grade_init = some ⟨do_Grade_init, dd_Grade_init, .seq #[.ref dA_Grade_init_0, .int 0 dt_Grade_init_1] dn_Grade_init, ds_Grade_init⟩)
    (dl_Grade_init_0 : K.lookup dA_Grade_init_0 = some ⟨.type "tuple", dd_Grade_init_0, .seq #[] dn_Grade_init_0, ds_Grade_init_0⟩)
    (a__law_same_worth : PySem.W.nsIn K mainGlobals "_law_same_worth" = some (some (.ref f__law_same_worth)))
    (l__law_same_worth : K.lookup f__law_same_worth = some ⟨oc__law_same_worth, od__law_same_worth, .func (PySem.W.fnOf "_law_same_worth" "_law_same_worth" (defArgs s__law_same_worth) (defBody s__law_same_worth) (defScope s__law_same_worth) .none kV__law_same_worth dc__law_same_worth pm__law_same_worth an__law_same_worth cd__law_same_worth ct__law_same_worth), sl__law_same_worth⟩)
    (c__law_same_worth : PySem.W.codeIn K cd__law_same_worth "_law_same_worth" = true)
    (k__law_same_worth : PySem.W.keepIn K (.ref f__law_same_worth) = true)
    (a__law_same_worths : PySem.W.nsIn K mainGlobals "_law_same_worths" = some (some (.ref f__law_same_worths)))
    (l__law_same_worths : K.lookup f__law_same_worths = some ⟨oc__law_same_worths, od__law_same_worths, .func (PySem.W.fnOf "_law_same_worths" "_law_same_worths" (defArgs s__law_same_worths) (defBody s__law_same_worths) (defScope s__law_same_worths) .none kV__law_same_worths dc__law_same_worths pm__law_same_worths an__law_same_worths cd__law_same_worths ct__law_same_worths), sl__law_same_worths⟩)
    (c__law_same_worths : PySem.W.codeIn K cd__law_same_worths "_law_same_worths" = true)
    (k__law_same_worths : PySem.W.keepIn K (.ref f__law_same_worths) = true)
    (a__law_at : PySem.W.nsIn K mainGlobals "_law_at" = some (some (.ref f__law_at)))
    (l__law_at : K.lookup f__law_at = some ⟨oc__law_at, od__law_at, .func (PySem.W.fnOf "_law_at" "_law_at" (defArgs s__law_at) (defBody s__law_at) (defScope s__law_at) .none kV__law_at dc__law_at pm__law_at an__law_at cd__law_at ct__law_at), sl__law_at⟩)
    (c__law_at : PySem.W.codeIn K cd__law_at "_law_at" = true)
    (k__law_at : PySem.W.keepIn K (.ref f__law_at) = true)
    (a_led : PySem.W.nsIn K mainGlobals "led" = some (some (.ref f_led)))
    (l_led : K.lookup f_led = some ⟨oc_led, od_led, .func (PySem.W.fnOf "led" "led" (defArgs s_led) (defBody s_led) (defScope s_led) .none kV_led dc_led pm_led an_led cd_led ct_led), sl_led⟩)
    (c_led : PySem.W.codeIn K cd_led "led" = true)
    (k_led : PySem.W.keepIn K (.ref f_led) = true)
    (a_Grade_call : PySem.W.findIn K (.ref C_Grade) "__call__" = some (some (.ref f_Grade_call)))
    (i_Grade_call : PySem.W.isFn K (.ref f_Grade_call) = true)
    (n_Grade_call : PySem.W.fnIn K f_Grade_call = true)
    (l_Grade_call : K.lookup f_Grade_call = some ⟨oc_Grade_call, od_Grade_call, .func (PySem.W.fnOf "__call__" "Grade.__call__" (defArgs s_Grade_call) (defBody s_Grade_call) (defScope s_Grade_call) .none kV_Grade_call dc_Grade_call pm_Grade_call an_Grade_call cd_Grade_call ct_Grade_call), sl_Grade_call⟩)
    (c_Grade_call : PySem.W.codeIn K cd_Grade_call "Grade.__call__" = true)
    (k_Grade_call : PySem.W.keepIn K (.ref f_Grade_call) = true)
    (a__law_tells : PySem.W.nsIn K mainGlobals "_law_tells" = some (some (.ref f__law_tells)))
    (l__law_tells : K.lookup f__law_tells = some ⟨oc__law_tells, od__law_tells, .func (PySem.W.fnOf "_law_tells" "_law_tells" (defArgs s__law_tells) (defBody s__law_tells) (defScope s__law_tells) .none kV__law_tells dc__law_tells pm__law_tells an__law_tells cd__law_tells ct__law_tells), sl__law_tells⟩)
    (c__law_tells : PySem.W.codeIn K cd__law_tells "_law_tells" = true)
    (k__law_tells : PySem.W.keepIn K (.ref f__law_tells) = true)
    (a__law_worths : PySem.W.nsIn K mainGlobals "_law_worths" = some (some (.ref f__law_worths)))
    (l__law_worths : K.lookup f__law_worths = some ⟨oc__law_worths, od__law_worths, .func (PySem.W.fnOf "_law_worths" "_law_worths" (defArgs s__law_worths) (defBody s__law_worths) (defScope s__law_worths) .none kV__law_worths dc__law_worths pm__law_worths an__law_worths cd__law_worths ct__law_worths), sl__law_worths⟩)
    (c__law_worths : PySem.W.codeIn K cd__law_worths "_law_worths" = true)
    (k__law_worths : PySem.W.keepIn K (.ref f__law_worths) = true)
    (a_Grade_eq : PySem.W.findIn K (.ref C_Grade) "__eq__" = some (some (.ref f_Grade_eq)))
    (i_Grade_eq : PySem.W.isFn K (.ref f_Grade_eq) = true)
    (l_Grade_eq : K.lookup f_Grade_eq = some ⟨oc_Grade_eq, od_Grade_eq, .func (PySem.W.fnOf "__eq__" "Grade.__eq__" (defArgs s_Grade_eq) (defBody s_Grade_eq) (defScope s_Grade_eq) .none kV_Grade_eq dc_Grade_eq pm_Grade_eq an_Grade_eq cd_Grade_eq ct_Grade_eq), sl_Grade_eq⟩)
    (c_Grade_eq : PySem.W.codeIn K cd_Grade_eq "Grade.__eq__" = true)
    (k_Grade_eq : PySem.W.keepIn K (.ref f_Grade_eq) = true)
    (a__law_told_equal : PySem.W.nsIn K mainGlobals "_law_told_equal" = some (some (.ref f__law_told_equal)))
    (l__law_told_equal : K.lookup f__law_told_equal = some ⟨oc__law_told_equal, od__law_told_equal, .func (PySem.W.fnOf "_law_told_equal" "_law_told_equal" (defArgs s__law_told_equal) (defBody s__law_told_equal) (defScope s__law_told_equal) .none kV__law_told_equal dc__law_told_equal pm__law_told_equal an__law_told_equal cd__law_told_equal ct__law_told_equal), sl__law_told_equal⟩)
    (c__law_told_equal : PySem.W.codeIn K cd__law_told_equal "_law_told_equal" = true)
    (k__law_told_equal : PySem.W.keepIn K (.ref f__law_told_equal) = true)
    (a__law_same_function : PySem.W.nsIn K mainGlobals "_law_same_function" = some (some (.ref f__law_same_function)))
    (l__law_same_function : K.lookup f__law_same_function = some ⟨oc__law_same_function, od__law_same_function, .func (PySem.W.fnOf "_law_same_function" "_law_same_function" (defArgs s__law_same_function) (defBody s__law_same_function) (defScope s__law_same_function) .none kV__law_same_function dc__law_same_function pm__law_same_function an__law_same_function cd__law_same_function ct__law_same_function), sl__law_same_function⟩)
    (c__law_same_function : PySem.W.codeIn K cd__law_same_function "_law_same_function" = true)
    (k__law_same_function : PySem.W.keepIn K (.ref f__law_same_function) = true)
    (a_least_of : PySem.W.nsIn K mainGlobals "least_of" = some (some (.ref f_least_of)))
    (l_least_of : K.lookup f_least_of = some ⟨oc_least_of, od_least_of, .func (PySem.W.fnOf "least_of" "least_of" (defArgs s_least_of) (defBody s_least_of) (defScope s_least_of) .none kV_least_of dc_least_of pm_least_of an_least_of cd_least_of ct_least_of), sl_least_of⟩)
    (c_least_of : PySem.W.codeIn K cd_least_of "least_of" = true)
    (k_least_of : PySem.W.keepIn K (.ref f_least_of) = true)
    (a_Grade_or : PySem.W.findIn K (.ref C_Grade) "__or__" = some (some (.ref f_Grade_or)))
    (i_Grade_or : PySem.W.isFn K (.ref f_Grade_or) = true)
    (l_Grade_or : K.lookup f_Grade_or = some ⟨oc_Grade_or, od_Grade_or, .func (PySem.W.fnOf "__or__" "Grade.__or__" (defArgs s_Grade_or) (defBody s_Grade_or) (defScope s_Grade_or) .none kV_Grade_or dc_Grade_or pm_Grade_or an_Grade_or cd_Grade_or ct_Grade_or), sl_Grade_or⟩)
    (c_Grade_or : PySem.W.codeIn K cd_Grade_or "Grade.__or__" = true)
    (k_Grade_or : PySem.W.keepIn K (.ref f_Grade_or) = true)
    (a_total_of : PySem.W.nsIn K mainGlobals "total_of" = some (some (.ref f_total_of)))
    (l_total_of : K.lookup f_total_of = some ⟨oc_total_of, od_total_of, .func (PySem.W.fnOf "total_of" "total_of" (defArgs s_total_of) (defBody s_total_of) (defScope s_total_of) .none kV_total_of dc_total_of pm_total_of an_total_of cd_total_of ct_total_of), sl_total_of⟩)
    (c_total_of : PySem.W.codeIn K cd_total_of "total_of" = true)
    (k_total_of : PySem.W.keepIn K (.ref f_total_of) = true)
    (a_Grade_rshift : PySem.W.findIn K (.ref C_Grade) "__rshift__" = some (some (.ref f_Grade_rshift)))
    (i_Grade_rshift : PySem.W.isFn K (.ref f_Grade_rshift) = true)
    (l_Grade_rshift : K.lookup f_Grade_rshift = some ⟨oc_Grade_rshift, od_Grade_rshift, .func (PySem.W.fnOf "__rshift__" "Grade.__rshift__" (defArgs s_Grade_rshift) (defBody s_Grade_rshift) (defScope s_Grade_rshift) .none kV_Grade_rshift dc_Grade_rshift pm_Grade_rshift an_Grade_rshift cd_Grade_rshift ct_Grade_rshift), sl_Grade_rshift⟩)
    (c_Grade_rshift : PySem.W.codeIn K cd_Grade_rshift "Grade.__rshift__" = true)
    (k_Grade_rshift : PySem.W.keepIn K (.ref f_Grade_rshift) = true)
    (a_is_name : PySem.W.nsIn K mainGlobals "is_name" = some (some (.ref f_is_name)))
    (l_is_name : K.lookup f_is_name = some ⟨oc_is_name, od_is_name, .func (PySem.W.fnOf "is_name" "is_name" (defArgs s_is_name) (defBody s_is_name) (defScope s_is_name) .none kV_is_name dc_is_name pm_is_name an_is_name cd_is_name ct_is_name), sl_is_name⟩)
    (c_is_name : PySem.W.codeIn K cd_is_name "is_name" = true)
    (k_is_name : PySem.W.keepIn K (.ref f_is_name) = true)
    (a_Book_init : PySem.W.findIn K (.ref C_Book) "__init__" = some (some (.ref f_Book_init)))
    (i_Book_init : PySem.W.isFn K (.ref f_Book_init) = true)
    (l_Book_init : K.lookup f_Book_init = some ⟨oc_Book_init, od_Book_init, .func (PySem.W.fnOf "__init__" "Book.__init__" (defArgs s_Book_init) (defBody s_Book_init) (defScope s_Book_init) (.ref D_Book_init) kV_Book_init dc_Book_init pm_Book_init an_Book_init cd_Book_init ct_Book_init), sl_Book_init⟩)
    (c_Book_init : PySem.W.codeIn K cd_Book_init "Book.__init__" = true)
    (k_Book_init : PySem.W.keepIn K (.ref f_Book_init) = true)
    (lD_Book_init : K.lookup D_Book_init = some ⟨do_Book_init, dd_Book_init, .seq #[.ref dA_Book_init_0] dn_Book_init, ds_Book_init⟩)
    (dl_Book_init_0 : K.lookup dA_Book_init_0 = some ⟨.type "tuple", dd_Book_init_0, .seq #[] dn_Book_init_0, ds_Book_init_0⟩)
    (a__law_unlike : PySem.W.nsIn K mainGlobals "_law_unlike" = some (some (.ref f__law_unlike)))
    (l__law_unlike : K.lookup f__law_unlike = some ⟨oc__law_unlike, od__law_unlike, .func (PySem.W.fnOf "_law_unlike" "_law_unlike" (defArgs s__law_unlike) (defBody s__law_unlike) (defScope s__law_unlike) .none kV__law_unlike dc__law_unlike pm__law_unlike an__law_unlike cd__law_unlike ct__law_unlike), sl__law_unlike⟩)
    (c__law_unlike : PySem.W.codeIn K cd__law_unlike "_law_unlike" = true)
    (k__law_unlike : PySem.W.keepIn K (.ref f__law_unlike) = true)
    (a_law : PySem.W.nsIn K mainGlobals "law" = some (some (.ref f_law)))
    (l_law : K.lookup f_law = some ⟨oc_law, od_law, .func (PySem.W.fnOf "law" "law" (defArgs s_law) (defBody s_law) (defScope s_law) .none kV_law dc_law pm_law an_law cd_law ct_law), sl_law⟩)
    (c_law : PySem.W.codeIn K cd_law "law" = true)
    (k_law : PySem.W.keepIn K (.ref f_law) = true)
    (z_bool : PySem.W.nsIn K mainGlobals "bool" = some none)
    (z_int : PySem.W.nsIn K mainGlobals "int" = some none)
    (z_isinstance : PySem.W.nsIn K mainGlobals "isinstance" = some none)
    (z_len : PySem.W.nsIn K mainGlobals "len" = some none)
    (z_list : PySem.W.nsIn K mainGlobals "list" = some none)
    (z_max : PySem.W.nsIn K mainGlobals "max" = some none)
    (z_min : PySem.W.nsIn K mainGlobals "min" = some none)
    (z_range : PySem.W.nsIn K mainGlobals "range" = some none)
    (z_sorted : PySem.W.nsIn K mainGlobals "sorted" = some none)
    (z_str : PySem.W.nsIn K mainGlobals "str" = some none)
    (z_tuple : PySem.W.nsIn K mainGlobals "tuple" = some none)
    (q_DIGITS : PySem.W.nsIn K mainGlobals "DIGITS" = some (some (.str "0123456789" t_DIGITS)))
    (q_LETTERS : PySem.W.nsIn K mainGlobals "LETTERS" = some (some (.str "abcdefghijklmnopqrstuvwxyz" t_LETTERS)))
    (q_MOST_CHARACTERS : PySem.W.nsIn K mainGlobals "MOST_CHARACTERS" = some (some (.int 12 t_MOST_CHARACTERS)))
    (q_MOST_ENTRIES : PySem.W.nsIn K mainGlobals "MOST_ENTRIES" = some (some (.int 30 t_MOST_ENTRIES)))
    : ∃ fd : FuncData, (∀ (s : Shared) (v : Value), BindsTo s fd ⟨[v], []⟩ [("script", v)]) ∧ ∀ base : Heap, K.In base → base.Ns mainGlobals mg → FnOk l.prog w K mg base (L2.CX l.prog w) 8 fa fd ["script"] (spLaw K) := by
  have e0 := hfa.symm.trans (PySem.W.mg_of X Gm a_law)
  have e : fa = f_law := by cases e0; rfl
  rw [e]
  have F__law_digits : Fun K "_law_digits" "_law_digits" s__law_digits f__law_digits (PySem.W.fnOf "_law_digits" "_law_digits" (defArgs s__law_digits) (defBody s__law_digits) (defScope s__law_digits) .none kV__law_digits dc__law_digits pm__law_digits an__law_digits cd__law_digits ct__law_digits) := fun_mk (st := s__law_digits) l__law_digits c__law_digits k__law_digits
  have B__law_digits := F__law_digits.binds (ps := ["cell", "sizes"]) fun _ _ _ _ _ _ us hl => match us, hl with | [_, _], _ => rfl
  have F__law_cell : Fun K "_law_cell" "_law_cell" s__law_cell f__law_cell (PySem.W.fnOf "_law_cell" "_law_cell" (defArgs s__law_cell) (defBody s__law_cell) (defScope s__law_cell) .none kV__law_cell dc__law_cell pm__law_cell an__law_cell cd__law_cell ct__law_cell) := fun_mk (st := s__law_cell) l__law_cell c__law_cell k__law_cell
  have B__law_cell := F__law_cell.binds (ps := ["script", "k"]) fun _ _ _ _ _ _ us hl => match us, hl with | [_, _], _ => rfl
  have F__law_entry : Fun K "_law_entry" "_law_entry" s__law_entry f__law_entry (PySem.W.fnOf "_law_entry" "_law_entry" (defArgs s__law_entry) (defBody s__law_entry) (defScope s__law_entry) .none kV__law_entry dc__law_entry pm__law_entry an__law_entry cd__law_entry ct__law_entry) := fun_mk (st := s__law_entry) l__law_entry c__law_entry k__law_entry
  have B__law_entry := F__law_entry.binds (ps := ["kind", "amount", "least", "endless"]) fun _ _ _ _ _ _ us hl => match us, hl with | [_, _, _, _], _ => rfl
  have F__law_grade : Fun K "_law_grade" "_law_grade" s__law_grade f__law_grade (PySem.W.fnOf "_law_grade" "_law_grade" (defArgs s__law_grade) (defBody s__law_grade) (defScope s__law_grade) .none kV__law_grade dc__law_grade pm__law_grade an__law_grade cd__law_grade ct__law_grade) := fun_mk (st := s__law_grade) l__law_grade c__law_grade k__law_grade
  have B__law_grade := F__law_grade.binds (ps := ["cell"]) fun _ _ _ _ _ _ us hl => match us, hl with | [_], _ => rfl
  have F__law_whole : Fun K "_law_whole" "_law_whole" s__law_whole f__law_whole (PySem.W.fnOf "_law_whole" "_law_whole" (defArgs s__law_whole) (defBody s__law_whole) (defScope s__law_whole) .none kV__law_whole dc__law_whole pm__law_whole an__law_whole cd__law_whole ct__law_whole) := fun_mk (st := s__law_whole) l__law_whole c__law_whole k__law_whole
  have B__law_whole := F__law_whole.binds (ps := ["value"]) fun _ _ _ _ _ _ us hl => match us, hl with | [_], _ => rfl
  have F__law_longer : Fun K "_law_longer" "_law_longer" s__law_longer f__law_longer (PySem.W.fnOf "_law_longer" "_law_longer" (defArgs s__law_longer) (defBody s__law_longer) (defScope s__law_longer) .none kV__law_longer dc__law_longer pm__law_longer an__law_longer cd__law_longer ct__law_longer) := fun_mk (st := s__law_longer) l__law_longer c__law_longer k__law_longer
  have B__law_longer := F__law_longer.binds (ps := ["grade", "many"]) fun _ _ _ _ _ _ us hl => match us, hl with | [_, _], _ => rfl
  have F__law_between : Fun K "_law_between" "_law_between" s__law_between f__law_between (PySem.W.fnOf "_law_between" "_law_between" (defArgs s__law_between) (defBody s__law_between) (defScope s__law_between) .none kV__law_between dc__law_between pm__law_between an__law_between cd__law_between ct__law_between) := fun_mk (st := s__law_between) l__law_between c__law_between k__law_between
  have B__law_between := F__law_between.binds (ps := ["grade", "entries", "at", "low", "row"]) fun _ _ _ _ _ _ us hl => match us, hl with | [_, _, _, _, _], _ => rfl
  have F__law_nudged : Fun K "_law_nudged" "_law_nudged" s__law_nudged f__law_nudged (PySem.W.fnOf "_law_nudged" "_law_nudged" (defArgs s__law_nudged) (defBody s__law_nudged) (defScope s__law_nudged) .none kV__law_nudged dc__law_nudged pm__law_nudged an__law_nudged cd__law_nudged ct__law_nudged) := fun_mk (st := s__law_nudged) l__law_nudged c__law_nudged k__law_nudged
  have B__law_nudged := F__law_nudged.binds (ps := ["grade", "cell"]) fun _ _ _ _ _ _ us hl => match us, hl with | [_, _], _ => rfl
  have F__law_least_entries : Fun K "_law_least_entries" "_law_least_entries" s__law_least_entries f__law_least_entries (PySem.W.fnOf "_law_least_entries" "_law_least_entries" (defArgs s__law_least_entries) (defBody s__law_least_entries) (defScope s__law_least_entries) .none kV__law_least_entries dc__law_least_entries pm__law_least_entries an__law_least_entries cd__law_least_entries ct__law_least_entries) := fun_mk (st := s__law_least_entries) l__law_least_entries c__law_least_entries k__law_least_entries
  have B__law_least_entries := F__law_least_entries.binds (ps := ["grade"]) fun _ _ _ _ _ _ us hl => match us, hl with | [_], _ => rfl
  have F__law_other_gain : Fun K "_law_other_gain" "_law_other_gain" s__law_other_gain f__law_other_gain (PySem.W.fnOf "_law_other_gain" "_law_other_gain" (defArgs s__law_other_gain) (defBody s__law_other_gain) (defScope s__law_other_gain) .none kV__law_other_gain dc__law_other_gain pm__law_other_gain an__law_other_gain cd__law_other_gain ct__law_other_gain) := fun_mk (st := s__law_other_gain) l__law_other_gain c__law_other_gain k__law_other_gain
  have B__law_other_gain := F__law_other_gain.binds (ps := ["grade", "cell"]) fun _ _ _ _ _ _ us hl => match us, hl with | [_, _], _ => rfl
  have F__law_cut : Fun K "_law_cut" "_law_cut" s__law_cut f__law_cut (PySem.W.fnOf "_law_cut" "_law_cut" (defArgs s__law_cut) (defBody s__law_cut) (defScope s__law_cut) .none kV__law_cut dc__law_cut pm__law_cut an__law_cut cd__law_cut ct__law_cut) := fun_mk (st := s__law_cut) l__law_cut c__law_cut k__law_cut
  have B__law_cut := F__law_cut.binds (ps := ["grade", "digit"]) fun _ _ _ _ _ _ us hl => match us, hl with | [_, _], _ => rfl
  have F__law_further : Fun K "_law_further" "_law_further" s__law_further f__law_further (PySem.W.fnOf "_law_further" "_law_further" (defArgs s__law_further) (defBody s__law_further) (defScope s__law_further) .none kV__law_further dc__law_further pm__law_further an__law_further cd__law_further ct__law_further) := fun_mk (st := s__law_further) l__law_further c__law_further k__law_further
  have B__law_further := F__law_further.binds (ps := ["grade"]) fun _ _ _ _ _ _ us hl => match us, hl with | [_], _ => rfl
  have F_is_whole : Fun K "is_whole" "is_whole" s_is_whole f_is_whole (PySem.W.fnOf "is_whole" "is_whole" (defArgs s_is_whole) (defBody s_is_whole) (defScope s_is_whole) .none kV_is_whole dc_is_whole pm_is_whole an_is_whole cd_is_whole ct_is_whole) := fun_mk (st := s_is_whole) l_is_whole c_is_whole k_is_whole
  have B_is_whole := F_is_whole.binds (ps := ["thing"]) fun _ _ _ _ _ _ us hl => match us, hl with | [_], _ => rfl
  have F_is_number : Fun K "is_number" "is_number" s_is_number f_is_number (PySem.W.fnOf "is_number" "is_number" (defArgs s_is_number) (defBody s_is_number) (defScope s_is_number) .none kV_is_number dc_is_number pm_is_number an_is_number cd_is_number ct_is_number) := fun_mk (st := s_is_number) l_is_number c_is_number k_is_number
  have B_is_number := F_is_number.binds (ps := ["thing"]) fun _ _ _ _ _ _ us hl => match us, hl with | [_], _ => rfl
  have F_is_worth : Fun K "is_worth" "is_worth" s_is_worth f_is_worth (PySem.W.fnOf "is_worth" "is_worth" (defArgs s_is_worth) (defBody s_is_worth) (defScope s_is_worth) .none kV_is_worth dc_is_worth pm_is_worth an_is_worth cd_is_worth ct_is_worth) := fun_mk (st := s_is_worth) l_is_worth c_is_worth k_is_worth
  have B_is_worth := F_is_worth.binds (ps := ["thing"]) fun _ _ _ _ _ _ us hl => match us, hl with | [_], _ => rfl
  have F_rank_of : Fun K "rank_of" "rank_of" s_rank_of f_rank_of (PySem.W.fnOf "rank_of" "rank_of" (defArgs s_rank_of) (defBody s_rank_of) (defScope s_rank_of) .none kV_rank_of dc_rank_of pm_rank_of an_rank_of cd_rank_of ct_rank_of) := fun_mk (st := s_rank_of) l_rank_of c_rank_of k_rank_of
  have B_rank_of := F_rank_of.binds (ps := ["worth"]) fun _ _ _ _ _ _ us hl => match us, hl with | [_], _ => rfl
  have F_is_before : Fun K "is_before" "is_before" s_is_before f_is_before (PySem.W.fnOf "is_before" "is_before" (defArgs s_is_before) (defBody s_is_before) (defScope s_is_before) .none kV_is_before dc_is_before pm_is_before an_is_before cd_is_before ct_is_before) := fun_mk (st := s_is_before) l_is_before c_is_before k_is_before
  have B_is_before := F_is_before.binds (ps := ["one", "two"]) fun _ _ _ _ _ _ us hl => match us, hl with | [_, _], _ => rfl
  have F_first_bad_entry : Fun K "first_bad_entry" "first_bad_entry" s_first_bad_entry f_first_bad_entry (PySem.W.fnOf "first_bad_entry" "first_bad_entry" (defArgs s_first_bad_entry) (defBody s_first_bad_entry) (defScope s_first_bad_entry) .none kV_first_bad_entry dc_first_bad_entry pm_first_bad_entry an_first_bad_entry cd_first_bad_entry ct_first_bad_entry) := fun_mk (st := s_first_bad_entry) l_first_bad_entry c_first_bad_entry k_first_bad_entry
  have B_first_bad_entry := F_first_bad_entry.binds (ps := ["table"]) fun _ _ _ _ _ _ us hl => match us, hl with | [_], _ => rfl
  have F_is_right_more : Fun K "is_right_more" "is_right_more" s_is_right_more f_is_right_more (PySem.W.fnOf "is_right_more" "is_right_more" (defArgs s_is_right_more) (defBody s_is_right_more) (defScope s_is_right_more) .none kV_is_right_more dc_is_right_more pm_is_right_more an_is_right_more cd_is_right_more ct_is_right_more) := fun_mk (st := s_is_right_more) l_is_right_more c_is_right_more k_is_right_more
  have B_is_right_more := F_is_right_more.binds (ps := ["table", "more"]) fun _ _ _ _ _ _ us hl => match us, hl with | [_, _], _ => rfl
  have F_beyond : Fun K "beyond" "beyond" s_beyond f_beyond (PySem.W.fnOf "beyond" "beyond" (defArgs s_beyond) (defBody s_beyond) (defScope s_beyond) .none kV_beyond dc_beyond pm_beyond an_beyond cd_beyond ct_beyond) := fun_mk (st := s_beyond) l_beyond c_beyond k_beyond
  have B_beyond := F_beyond.binds (ps := ["number", "more"]) fun _ _ _ _ _ _ us hl => match us, hl with | [_, _], _ => rfl
  have F_least_table : Fun K "least_table" "least_table" s_least_table f_least_table (PySem.W.fnOf "least_table" "least_table" (defArgs s_least_table) (defBody s_least_table) (defScope s_least_table) .none kV_least_table dc_least_table pm_least_table an_least_table cd_least_table ct_least_table) := fun_mk (st := s_least_table) l_least_table c_least_table k_least_table
  have B_least_table := F_least_table.binds (ps := ["table", "more"]) fun _ _ _ _ _ _ us hl => match us, hl with | [_, _], _ => rfl
  have FD_Grade_init : FunD K "__init__" "Grade.__init__" (defArgs s_Grade_init) (defBody s_Grade_init) (defScope s_Grade_init) [.ref dA_Grade_init_0, .int 0] [] f_Grade_init (PySem.W.fnOf "__init__" "Grade.__init__" (defArgs s_Grade_init) (defBody s_Grade_init) (defScope s_Grade_init) (.ref D_Grade_init) kV_Grade_init dc_Grade_init pm_Grade_init an_Grade_init cd_Grade_init ct_Grade_init) := ⟨⟨_, _, _, _, _, _, _, _, _, _, rfl, l_Grade_init, c_Grade_init, .inr ⟨by simp, D_Grade_init, _, [.ref dA_Grade_init_0, .int 0 dt_Grade_init_1], _, rfl, lD_Grade_init, rfl, .cons rfl (.cons ⟨_, rfl⟩ (.nil))⟩, .inl rfl⟩, k_Grade_init⟩
  obtain ⟨e0_Grade_init, v0_Grade_init, b0_Grade_init⟩ := FD_Grade_init.binds1 (ps := ["self", "table", "more"]) 3 2 (by simp) rfl fun T kV doc pm an cdv ct us its hu hi => match us, its, hu, hi with | [u0, u1, u2], [i0, i1], _, _ => ⟨_, rfl, rfl⟩
  have z0_Grade_init : e0_Grade_init = [] := by cases v0_Grade_init; rfl
  subst z0_Grade_init
  obtain ⟨e1_Grade_init, v1_Grade_init, b1_Grade_init⟩ := FD_Grade_init.binds1 (ps := ["self", "table", "more"]) 1 0 (by simp) rfl fun T kV doc pm an cdv ct us its hu hi => match us, its, hu, hi with | [u0], [i0, i1], _, _ => ⟨_, rfl, rfl⟩
  have F__law_same_worth : Fun K "_law_same_worth" "_law_same_worth" s__law_same_worth f__law_same_worth (PySem.W.fnOf "_law_same_worth" "_law_same_worth" (defArgs s__law_same_worth) (defBody s__law_same_worth) (defScope s__law_same_worth) .none kV__law_same_worth dc__law_same_worth pm__law_same_worth an__law_same_worth cd__law_same_worth ct__law_same_worth) := fun_mk (st := s__law_same_worth) l__law_same_worth c__law_same_worth k__law_same_worth
  have B__law_same_worth := F__law_same_worth.binds (ps := ["told", "due"]) fun _ _ _ _ _ _ us hl => match us, hl with | [_, _], _ => rfl
  have F__law_same_worths : Fun K "_law_same_worths" "_law_same_worths" s__law_same_worths f__law_same_worths (PySem.W.fnOf "_law_same_worths" "_law_same_worths" (defArgs s__law_same_worths) (defBody s__law_same_worths) (defScope s__law_same_worths) .none kV__law_same_worths dc__law_same_worths pm__law_same_worths an__law_same_worths cd__law_same_worths ct__law_same_worths) := fun_mk (st := s__law_same_worths) l__law_same_worths c__law_same_worths k__law_same_worths
  have B__law_same_worths := F__law_same_worths.binds (ps := ["told", "due"]) fun _ _ _ _ _ _ us hl => match us, hl with | [_, _], _ => rfl
  have F__law_at : Fun K "_law_at" "_law_at" s__law_at f__law_at (PySem.W.fnOf "_law_at" "_law_at" (defArgs s__law_at) (defBody s__law_at) (defScope s__law_at) .none kV__law_at dc__law_at pm__law_at an__law_at cd__law_at ct__law_at) := fun_mk (st := s__law_at) l__law_at c__law_at k__law_at
  have B__law_at := F__law_at.binds (ps := ["grade", "worth"]) fun _ _ _ _ _ _ us hl => match us, hl with | [_, _], _ => rfl
  have F_led : Fun K "led" "led" s_led f_led (PySem.W.fnOf "led" "led" (defArgs s_led) (defBody s_led) (defScope s_led) .none kV_led dc_led pm_led an_led cd_led ct_led) := fun_mk (st := s_led) l_led c_led k_led
  have B_led := F_led.binds (ps := ["table", "more", "worth"]) fun _ _ _ _ _ _ us hl => match us, hl with | [_, _, _], _ => rfl
  have F_Grade_call : Fun K "__call__" "Grade.__call__" s_Grade_call f_Grade_call (PySem.W.fnOf "__call__" "Grade.__call__" (defArgs s_Grade_call) (defBody s_Grade_call) (defScope s_Grade_call) .none kV_Grade_call dc_Grade_call pm_Grade_call an_Grade_call cd_Grade_call ct_Grade_call) := fun_mk (st := s_Grade_call) l_Grade_call c_Grade_call k_Grade_call
  have B_Grade_call := F_Grade_call.binds (ps := ["self", "worth"]) fun _ _ _ _ _ _ us hl => match us, hl with | [_, _], _ => rfl
  have F__law_tells : Fun K "_law_tells" "_law_tells" s__law_tells f__law_tells (PySem.W.fnOf "_law_tells" "_law_tells" (defArgs s__law_tells) (defBody s__law_tells) (defScope s__law_tells) .none kV__law_tells dc__law_tells pm__law_tells an__law_tells cd__law_tells ct__law_tells) := fun_mk (st := s__law_tells) l__law_tells c__law_tells k__law_tells
  have B__law_tells := F__law_tells.binds (ps := ["made", "due", "worths"]) fun _ _ _ _ _ _ us hl => match us, hl with | [_, _, _], _ => rfl
  have F__law_worths : Fun K "_law_worths" "_law_worths" s__law_worths f__law_worths (PySem.W.fnOf "_law_worths" "_law_worths" (defArgs s__law_worths) (defBody s__law_worths) (defScope s__law_worths) .none kV__law_worths dc__law_worths pm__law_worths an__law_worths cd__law_worths ct__law_worths) := fun_mk (st := s__law_worths) l__law_worths c__law_worths k__law_worths
  have B__law_worths := F__law_worths.binds (ps := ["grade", "amount"]) fun _ _ _ _ _ _ us hl => match us, hl with | [_, _], _ => rfl
  have F_Grade_eq : Fun K "__eq__" "Grade.__eq__" s_Grade_eq f_Grade_eq (PySem.W.fnOf "__eq__" "Grade.__eq__" (defArgs s_Grade_eq) (defBody s_Grade_eq) (defScope s_Grade_eq) .none kV_Grade_eq dc_Grade_eq pm_Grade_eq an_Grade_eq cd_Grade_eq ct_Grade_eq) := fun_mk (st := s_Grade_eq) l_Grade_eq c_Grade_eq k_Grade_eq
  have B_Grade_eq := F_Grade_eq.binds (ps := ["self", "other"]) fun _ _ _ _ _ _ us hl => match us, hl with | [_, _], _ => rfl
  have F__law_told_equal : Fun K "_law_told_equal" "_law_told_equal" s__law_told_equal f__law_told_equal (PySem.W.fnOf "_law_told_equal" "_law_told_equal" (defArgs s__law_told_equal) (defBody s__law_told_equal) (defScope s__law_told_equal) .none kV__law_told_equal dc__law_told_equal pm__law_told_equal an__law_told_equal cd__law_told_equal ct__law_told_equal) := fun_mk (st := s__law_told_equal) l__law_told_equal c__law_told_equal k__law_told_equal
  have B__law_told_equal := F__law_told_equal.binds (ps := ["one", "two", "equal"]) fun _ _ _ _ _ _ us hl => match us, hl with | [_, _, _], _ => rfl
  have F__law_same_function : Fun K "_law_same_function" "_law_same_function" s__law_same_function f__law_same_function (PySem.W.fnOf "_law_same_function" "_law_same_function" (defArgs s__law_same_function) (defBody s__law_same_function) (defScope s__law_same_function) .none kV__law_same_function dc__law_same_function pm__law_same_function an__law_same_function cd__law_same_function ct__law_same_function) := fun_mk (st := s__law_same_function) l__law_same_function c__law_same_function k__law_same_function
  have B__law_same_function := F__law_same_function.binds (ps := ["one", "two"]) fun _ _ _ _ _ _ us hl => match us, hl with | [_, _], _ => rfl
  have F_least_of : Fun K "least_of" "least_of" s_least_of f_least_of (PySem.W.fnOf "least_of" "least_of" (defArgs s_least_of) (defBody s_least_of) (defScope s_least_of) .none kV_least_of dc_least_of pm_least_of an_least_of cd_least_of ct_least_of) := fun_mk (st := s_least_of) l_least_of c_least_of k_least_of
  have B_least_of := F_least_of.binds (ps := ["worths"]) fun _ _ _ _ _ _ us hl => match us, hl with | [_], _ => rfl
  have F_Grade_or : Fun K "__or__" "Grade.__or__" s_Grade_or f_Grade_or (PySem.W.fnOf "__or__" "Grade.__or__" (defArgs s_Grade_or) (defBody s_Grade_or) (defScope s_Grade_or) .none kV_Grade_or dc_Grade_or pm_Grade_or an_Grade_or cd_Grade_or ct_Grade_or) := fun_mk (st := s_Grade_or) l_Grade_or c_Grade_or k_Grade_or
  have B_Grade_or := F_Grade_or.binds (ps := ["self", "other"]) fun _ _ _ _ _ _ us hl => match us, hl with | [_, _], _ => rfl
  have F_total_of : Fun K "total_of" "total_of" s_total_of f_total_of (PySem.W.fnOf "total_of" "total_of" (defArgs s_total_of) (defBody s_total_of) (defScope s_total_of) .none kV_total_of dc_total_of pm_total_of an_total_of cd_total_of ct_total_of) := fun_mk (st := s_total_of) l_total_of c_total_of k_total_of
  have B_total_of := F_total_of.binds (ps := ["worths"]) fun _ _ _ _ _ _ us hl => match us, hl with | [_], _ => rfl
  have F_Grade_rshift : Fun K "__rshift__" "Grade.__rshift__" s_Grade_rshift f_Grade_rshift (PySem.W.fnOf "__rshift__" "Grade.__rshift__" (defArgs s_Grade_rshift) (defBody s_Grade_rshift) (defScope s_Grade_rshift) .none kV_Grade_rshift dc_Grade_rshift pm_Grade_rshift an_Grade_rshift cd_Grade_rshift ct_Grade_rshift) := fun_mk (st := s_Grade_rshift) l_Grade_rshift c_Grade_rshift k_Grade_rshift
  have B_Grade_rshift := F_Grade_rshift.binds (ps := ["self", "other"]) fun _ _ _ _ _ _ us hl => match us, hl with | [_, _], _ => rfl
  have F_is_name : Fun K "is_name" "is_name" s_is_name f_is_name (PySem.W.fnOf "is_name" "is_name" (defArgs s_is_name) (defBody s_is_name) (defScope s_is_name) .none kV_is_name dc_is_name pm_is_name an_is_name cd_is_name ct_is_name) := fun_mk (st := s_is_name) l_is_name c_is_name k_is_name
  have B_is_name := F_is_name.binds (ps := ["text"]) fun _ _ _ _ _ _ us hl => match us, hl with | [_], _ => rfl
  have FD_Book_init : FunD K "__init__" "Book.__init__" (defArgs s_Book_init) (defBody s_Book_init) (defScope s_Book_init) [.ref dA_Book_init_0] [] f_Book_init (PySem.W.fnOf "__init__" "Book.__init__" (defArgs s_Book_init) (defBody s_Book_init) (defScope s_Book_init) (.ref D_Book_init) kV_Book_init dc_Book_init pm_Book_init an_Book_init cd_Book_init ct_Book_init) := ⟨⟨_, _, _, _, _, _, _, _, _, _, rfl, l_Book_init, c_Book_init, .inr ⟨by simp, D_Book_init, _, [.ref dA_Book_init_0], _, rfl, lD_Book_init, rfl, .cons rfl (.nil)⟩, .inl rfl⟩, k_Book_init⟩
  obtain ⟨e0_Book_init, v0_Book_init, b0_Book_init⟩ := FD_Book_init.binds1 (ps := ["self", "grades"]) 2 1 (by simp) rfl fun T kV doc pm an cdv ct us its hu hi => match us, its, hu, hi with | [u0, u1], [i0], _, _ => ⟨_, rfl, rfl⟩
  have z0_Book_init : e0_Book_init = [] := by cases v0_Book_init; rfl
  subst z0_Book_init
  obtain ⟨e1_Book_init, v1_Book_init, b1_Book_init⟩ := FD_Book_init.binds1 (ps := ["self", "grades"]) 1 0 (by simp) rfl fun T kV doc pm an cdv ct us its hu hi => match us, its, hu, hi with | [u0], [i0], _, _ => ⟨_, rfl, rfl⟩
  have F__law_unlike : Fun K "_law_unlike" "_law_unlike" s__law_unlike f__law_unlike (PySem.W.fnOf "_law_unlike" "_law_unlike" (defArgs s__law_unlike) (defBody s__law_unlike) (defScope s__law_unlike) .none kV__law_unlike dc__law_unlike pm__law_unlike an__law_unlike cd__law_unlike ct__law_unlike) := fun_mk (st := s__law_unlike) l__law_unlike c__law_unlike k__law_unlike
  have B__law_unlike := F__law_unlike.binds (ps := ["made", "due"]) fun _ _ _ _ _ _ us hl => match us, hl with | [_, _], _ => rfl
  have F_law : Fun K "law" "law" s_law f_law (PySem.W.fnOf "law" "law" (defArgs s_law) (defBody s_law) (defScope s_law) .none kV_law dc_law pm_law an_law cd_law ct_law) := fun_mk (st := s_law) l_law c_law k_law
  have B_law := F_law.binds (ps := ["script"]) fun _ _ _ _ _ _ us hl => match us, hl with | [_], _ => rfl
  refine ⟨PySem.W.fnOf "law" "law" (defArgs s_law) (defBody s_law) (defScope s_law) .none kV_law dc_law pm_law an_law cd_law ct_law, fun s v => .of_eq rfl, fun base _ _ => ?_⟩
  let a : Adr := {
    C_Book := C_Book,
    C_Grade := C_Grade,
    f__law_digits := f__law_digits,
    fd__law_digits := PySem.W.fnOf "_law_digits" "_law_digits" (defArgs s__law_digits) (defBody s__law_digits) (defScope s__law_digits) .none kV__law_digits dc__law_digits pm__law_digits an__law_digits cd__law_digits ct__law_digits,
    f__law_cell := f__law_cell,
    fd__law_cell := PySem.W.fnOf "_law_cell" "_law_cell" (defArgs s__law_cell) (defBody s__law_cell) (defScope s__law_cell) .none kV__law_cell dc__law_cell pm__law_cell an__law_cell cd__law_cell ct__law_cell,
    f__law_entry := f__law_entry,
    fd__law_entry := PySem.W.fnOf "_law_entry" "_law_entry" (defArgs s__law_entry) (defBody s__law_entry) (defScope s__law_entry) .none kV__law_entry dc__law_entry pm__law_entry an__law_entry cd__law_entry ct__law_entry,
    f__law_grade := f__law_grade,
    fd__law_grade := PySem.W.fnOf "_law_grade" "_law_grade" (defArgs s__law_grade) (defBody s__law_grade) (defScope s__law_grade) .none kV__law_grade dc__law_grade pm__law_grade an__law_grade cd__law_grade ct__law_grade,
    f__law_whole := f__law_whole,
    fd__law_whole := PySem.W.fnOf "_law_whole" "_law_whole" (defArgs s__law_whole) (defBody s__law_whole) (defScope s__law_whole) .none kV__law_whole dc__law_whole pm__law_whole an__law_whole cd__law_whole ct__law_whole,
    f__law_longer := f__law_longer,
    fd__law_longer := PySem.W.fnOf "_law_longer" "_law_longer" (defArgs s__law_longer) (defBody s__law_longer) (defScope s__law_longer) .none kV__law_longer dc__law_longer pm__law_longer an__law_longer cd__law_longer ct__law_longer,
    f__law_between := f__law_between,
    fd__law_between := PySem.W.fnOf "_law_between" "_law_between" (defArgs s__law_between) (defBody s__law_between) (defScope s__law_between) .none kV__law_between dc__law_between pm__law_between an__law_between cd__law_between ct__law_between,
    f__law_nudged := f__law_nudged,
    fd__law_nudged := PySem.W.fnOf "_law_nudged" "_law_nudged" (defArgs s__law_nudged) (defBody s__law_nudged) (defScope s__law_nudged) .none kV__law_nudged dc__law_nudged pm__law_nudged an__law_nudged cd__law_nudged ct__law_nudged,
    f__law_least_entries := f__law_least_entries,
    fd__law_least_entries := PySem.W.fnOf "_law_least_entries" "_law_least_entries" (defArgs s__law_least_entries) (defBody s__law_least_entries) (defScope s__law_least_entries) .none kV__law_least_entries dc__law_least_entries pm__law_least_entries an__law_least_entries cd__law_least_entries ct__law_least_entries,
    f__law_other_gain := f__law_other_gain,
    fd__law_other_gain := PySem.W.fnOf "_law_other_gain" "_law_other_gain" (defArgs s__law_other_gain) (defBody s__law_other_gain) (defScope s__law_other_gain) .none kV__law_other_gain dc__law_other_gain pm__law_other_gain an__law_other_gain cd__law_other_gain ct__law_other_gain,
    f__law_cut := f__law_cut,
    fd__law_cut := PySem.W.fnOf "_law_cut" "_law_cut" (defArgs s__law_cut) (defBody s__law_cut) (defScope s__law_cut) .none kV__law_cut dc__law_cut pm__law_cut an__law_cut cd__law_cut ct__law_cut,
    f__law_further := f__law_further,
    fd__law_further := PySem.W.fnOf "_law_further" "_law_further" (defArgs s__law_further) (defBody s__law_further) (defScope s__law_further) .none kV__law_further dc__law_further pm__law_further an__law_further cd__law_further ct__law_further,
    f_is_whole := f_is_whole,
    fd_is_whole := PySem.W.fnOf "is_whole" "is_whole" (defArgs s_is_whole) (defBody s_is_whole) (defScope s_is_whole) .none kV_is_whole dc_is_whole pm_is_whole an_is_whole cd_is_whole ct_is_whole,
    f_is_number := f_is_number,
    fd_is_number := PySem.W.fnOf "is_number" "is_number" (defArgs s_is_number) (defBody s_is_number) (defScope s_is_number) .none kV_is_number dc_is_number pm_is_number an_is_number cd_is_number ct_is_number,
    f_is_worth := f_is_worth,
    fd_is_worth := PySem.W.fnOf "is_worth" "is_worth" (defArgs s_is_worth) (defBody s_is_worth) (defScope s_is_worth) .none kV_is_worth dc_is_worth pm_is_worth an_is_worth cd_is_worth ct_is_worth,
    f_rank_of := f_rank_of,
    fd_rank_of := PySem.W.fnOf "rank_of" "rank_of" (defArgs s_rank_of) (defBody s_rank_of) (defScope s_rank_of) .none kV_rank_of dc_rank_of pm_rank_of an_rank_of cd_rank_of ct_rank_of,
    f_is_before := f_is_before,
    fd_is_before := PySem.W.fnOf "is_before" "is_before" (defArgs s_is_before) (defBody s_is_before) (defScope s_is_before) .none kV_is_before dc_is_before pm_is_before an_is_before cd_is_before ct_is_before,
    f_first_bad_entry := f_first_bad_entry,
    fd_first_bad_entry := PySem.W.fnOf "first_bad_entry" "first_bad_entry" (defArgs s_first_bad_entry) (defBody s_first_bad_entry) (defScope s_first_bad_entry) .none kV_first_bad_entry dc_first_bad_entry pm_first_bad_entry an_first_bad_entry cd_first_bad_entry ct_first_bad_entry,
    f_is_right_more := f_is_right_more,
    fd_is_right_more := PySem.W.fnOf "is_right_more" "is_right_more" (defArgs s_is_right_more) (defBody s_is_right_more) (defScope s_is_right_more) .none kV_is_right_more dc_is_right_more pm_is_right_more an_is_right_more cd_is_right_more ct_is_right_more,
    f_beyond := f_beyond,
    fd_beyond := PySem.W.fnOf "beyond" "beyond" (defArgs s_beyond) (defBody s_beyond) (defScope s_beyond) .none kV_beyond dc_beyond pm_beyond an_beyond cd_beyond ct_beyond,
    f_least_table := f_least_table,
    fd_least_table := PySem.W.fnOf "least_table" "least_table" (defArgs s_least_table) (defBody s_least_table) (defScope s_least_table) .none kV_least_table dc_least_table pm_least_table an_least_table cd_least_table ct_least_table,
    f_Grade_init := f_Grade_init,
    fd_Grade_init := PySem.W.fnOf "__init__" "Grade.__init__" (defArgs s_Grade_init) (defBody s_Grade_init) (defScope s_Grade_init) (.ref D_Grade_init) kV_Grade_init dc_Grade_init pm_Grade_init an_Grade_init cd_Grade_init ct_Grade_init,
    dvs_Grade_init := [.ref dA_Grade_init_0, .int 0],
    dv_Grade_init_1 := [.ref dA_Grade_init_0, .int 0],
    ds_Grade_init_1 := e1_Grade_init,
    f__law_same_worth := f__law_same_worth,
    fd__law_same_worth := PySem.W.fnOf "_law_same_worth" "_law_same_worth" (defArgs s__law_same_worth) (defBody s__law_same_worth) (defScope s__law_same_worth) .none kV__law_same_worth dc__law_same_worth pm__law_same_worth an__law_same_worth cd__law_same_worth ct__law_same_worth,
    f__law_same_worths := f__law_same_worths,
    fd__law_same_worths := PySem.W.fnOf "_law_same_worths" "_law_same_worths" (defArgs s__law_same_worths) (defBody s__law_same_worths) (defScope s__law_same_worths) .none kV__law_same_worths dc__law_same_worths pm__law_same_worths an__law_same_worths cd__law_same_worths ct__law_same_worths,
    f__law_at := f__law_at,
    fd__law_at := PySem.W.fnOf "_law_at" "_law_at" (defArgs s__law_at) (defBody s__law_at) (defScope s__law_at) .none kV__law_at dc__law_at pm__law_at an__law_at cd__law_at ct__law_at,
    f_led := f_led,
    fd_led := PySem.W.fnOf "led" "led" (defArgs s_led) (defBody s_led) (defScope s_led) .none kV_led dc_led pm_led an_led cd_led ct_led,
    f_Grade_call := f_Grade_call,
    fd_Grade_call := PySem.W.fnOf "__call__" "Grade.__call__" (defArgs s_Grade_call) (defBody s_Grade_call) (defScope s_Grade_call) .none kV_Grade_call dc_Grade_call pm_Grade_call an_Grade_call cd_Grade_call ct_Grade_call,
    f__law_tells := f__law_tells,
    fd__law_tells := PySem.W.fnOf "_law_tells" "_law_tells" (defArgs s__law_tells) (defBody s__law_tells) (defScope s__law_tells) .none kV__law_tells dc__law_tells pm__law_tells an__law_tells cd__law_tells ct__law_tells,
    f__law_worths := f__law_worths,
    fd__law_worths := PySem.W.fnOf "_law_worths" "_law_worths" (defArgs s__law_worths) (defBody s__law_worths) (defScope s__law_worths) .none kV__law_worths dc__law_worths pm__law_worths an__law_worths cd__law_worths ct__law_worths,
    f_Grade_eq := f_Grade_eq,
    fd_Grade_eq := PySem.W.fnOf "__eq__" "Grade.__eq__" (defArgs s_Grade_eq) (defBody s_Grade_eq) (defScope s_Grade_eq) .none kV_Grade_eq dc_Grade_eq pm_Grade_eq an_Grade_eq cd_Grade_eq ct_Grade_eq,
    f__law_told_equal := f__law_told_equal,
    fd__law_told_equal := PySem.W.fnOf "_law_told_equal" "_law_told_equal" (defArgs s__law_told_equal) (defBody s__law_told_equal) (defScope s__law_told_equal) .none kV__law_told_equal dc__law_told_equal pm__law_told_equal an__law_told_equal cd__law_told_equal ct__law_told_equal,
    f__law_same_function := f__law_same_function,
    fd__law_same_function := PySem.W.fnOf "_law_same_function" "_law_same_function" (defArgs s__law_same_function) (defBody s__law_same_function) (defScope s__law_same_function) .none kV__law_same_function dc__law_same_function pm__law_same_function an__law_same_function cd__law_same_function ct__law_same_function,
    f_least_of := f_least_of,
    fd_least_of := PySem.W.fnOf "least_of" "least_of" (defArgs s_least_of) (defBody s_least_of) (defScope s_least_of) .none kV_least_of dc_least_of pm_least_of an_least_of cd_least_of ct_least_of,
    f_Grade_or := f_Grade_or,
    fd_Grade_or := PySem.W.fnOf "__or__" "Grade.__or__" (defArgs s_Grade_or) (defBody s_Grade_or) (defScope s_Grade_or) .none kV_Grade_or dc_Grade_or pm_Grade_or an_Grade_or cd_Grade_or ct_Grade_or,
    f_total_of := f_total_of,
    fd_total_of := PySem.W.fnOf "total_of" "total_of" (defArgs s_total_of) (defBody s_total_of) (defScope s_total_of) .none kV_total_of dc_total_of pm_total_of an_total_of cd_total_of ct_total_of,
    f_Grade_rshift := f_Grade_rshift,
    fd_Grade_rshift := PySem.W.fnOf "__rshift__" "Grade.__rshift__" (defArgs s_Grade_rshift) (defBody s_Grade_rshift) (defScope s_Grade_rshift) .none kV_Grade_rshift dc_Grade_rshift pm_Grade_rshift an_Grade_rshift cd_Grade_rshift ct_Grade_rshift,
    f_is_name := f_is_name,
    fd_is_name := PySem.W.fnOf "is_name" "is_name" (defArgs s_is_name) (defBody s_is_name) (defScope s_is_name) .none kV_is_name dc_is_name pm_is_name an_is_name cd_is_name ct_is_name,
    f_Book_init := f_Book_init,
    fd_Book_init := PySem.W.fnOf "__init__" "Book.__init__" (defArgs s_Book_init) (defBody s_Book_init) (defScope s_Book_init) (.ref D_Book_init) kV_Book_init dc_Book_init pm_Book_init an_Book_init cd_Book_init ct_Book_init,
    dvs_Book_init := [.ref dA_Book_init_0],
    dv_Book_init_1 := [.ref dA_Book_init_0],
    ds_Book_init_1 := e1_Book_init,
    f__law_unlike := f__law_unlike,
    fd__law_unlike := PySem.W.fnOf "_law_unlike" "_law_unlike" (defArgs s__law_unlike) (defBody s__law_unlike) (defScope s__law_unlike) .none kV__law_unlike dc__law_unlike pm__law_unlike an__law_unlike cd__law_unlike ct__law_unlike,
    f_law := f_law,
    fd_law := PySem.W.fnOf "law" "law" (defArgs s_law) (defBody s_law) (defScope s_law) .none kV_law dc_law pm_law an_law cd_law ct_law,
    t_DIGITS := t_DIGITS,
    t_LETTERS := t_LETTERS,
    t_MOST_CHARACTERS := t_MOST_CHARACTERS,
    t_MOST_ENTRIES := t_MOST_ENTRIES }
  let g : FP := ⟨l.prog, w, K, mg, base⟩
  have kt : KtOk (mkT g a) := {
    cls := (fun c C hC => match c, hC with
      | 0, hC => by cases hC; exact ⟨pg_Grade, hd_Grade, po_Grade, sa_Grade⟩
      | 1, hC => by cases hC; exact ⟨pg_Book, hd_Book, po_Book, sa_Book⟩
      | (_ + 2), hC => by cases hC),
    no := (fun c C hC => match c, hC with
      | 0, hC => by cases hC; exact (by intro f hf; simp only [mkT, at_, List.mem_cons, List.not_mem_nil, or_false] at hf; rcases hf with rfl | rfl; exact na_Grade_table; exact na_Grade_more)
      | 1, hC => by cases hC; exact (by intro f hf; simp only [mkT, at_, List.mem_cons, List.not_mem_nil, or_false] at hf; rcases hf with rfl | rfl; exact na_Book_names; exact na_Book_grades)
      | (_ + 2), hC => by cases hC),
    ty := (fun c C hC => match c, hC with
      | 0, hC => by cases hC; exact ⟨t1_Grade, ob2, ob3, t4_Grade⟩
      | 1, hC => by cases hC; exact ⟨t1_Book, ob2, ob3, t4_Book⟩
      | (_ + 2), hC => by cases hC),
    sub := (fun c d C E hC hE => match c, d, hC, hE with
      | 0, 0, hC, hE => by cases hC; cases hE; exact kit_self
      | 0, 1, hC, hE => by cases hC; cases hE; exact kit_cc ne_Grade_Book ic_Book ty_Book cc_Grade_Book
      | 1, 0, hC, hE => by cases hC; cases hE; exact kit_cc ne_Book_Grade ic_Grade ty_Grade cc_Book_Grade
      | 1, 1, hC, hE => by cases hC; cases hE; exact kit_self
      | (_ + 2), _, hC, _ => by cases hC
      | 0, (_ + 2), _, hE => by cases hE
      | 1, (_ + 2), _, hE => by cases hE),
    bt := fun d E n hE hn => (show ∀ q ∈ ["NoneType", "bool", "int", "str", "list", "tuple", "dict"], PySem.W.kitOne K (.type q) (.ref E) = some false from match d, hE with
      | 0, hC => by cases hC; exact (by intro q hq; simp only [List.mem_cons, List.not_mem_nil, or_false] at hq; rcases hq with rfl | rfl | rfl | rfl | rfl | rfl | rfl; exact kit_bt ic_Grade ty_Grade bNoneType_Grade; exact kit_bt ic_Grade ty_Grade bbool_Grade; exact kit_bt ic_Grade ty_Grade bint_Grade; exact kit_bt ic_Grade ty_Grade bstr_Grade; exact kit_bt ic_Grade ty_Grade blist_Grade; exact kit_bt ic_Grade ty_Grade btuple_Grade; exact kit_bt ic_Grade ty_Grade bdict_Grade)
      | 1, hC => by cases hC; exact (by intro q hq; simp only [List.mem_cons, List.not_mem_nil, or_false] at hq; rcases hq with rfl | rfl | rfl | rfl | rfl | rfl | rfl; exact kit_bt ic_Book ty_Book bNoneType_Book; exact kit_bt ic_Book ty_Book bbool_Book; exact kit_bt ic_Book ty_Book bint_Book; exact kit_bt ic_Book ty_Book bstr_Book; exact kit_bt ic_Book ty_Book blist_Book; exact kit_bt ic_Book ty_Book btuple_Book; exact kit_bt ic_Book ty_Book bdict_Book)
      | (_ + 2), hC => by cases hC) n hn,
    tb := fun d E n hE hn => (show ∀ q ∈ ["bool", "int", "str", "list", "tuple", "dict"], PySem.W.kitOne K (.ref E) (.type q) = some false from match d, hE with
      | 0, hC => by cases hC; exact (by intro q hq; simp only [List.mem_cons, List.not_mem_nil, or_false] at hq; rcases hq with rfl | rfl | rfl | rfl | rfl | rfl; exact kit_tb (by decide +kernel) sbool_Grade; exact kit_tb (by decide +kernel) sint_Grade; exact kit_tb (by decide +kernel) sstr_Grade; exact kit_tb (by decide +kernel) slist_Grade; exact kit_tb (by decide +kernel) stuple_Grade; exact kit_tb (by decide +kernel) sdict_Grade)
      | 1, hC => by cases hC; exact (by intro q hq; simp only [List.mem_cons, List.not_mem_nil, or_false] at hq; rcases hq with rfl | rfl | rfl | rfl | rfl | rfl; exact kit_tb (by decide +kernel) sbool_Book; exact kit_tb (by decide +kernel) sint_Book; exact kit_tb (by decide +kernel) sstr_Book; exact kit_tb (by decide +kernel) slist_Book; exact kit_tb (by decide +kernel) stuple_Book; exact kit_tb (by decide +kernel) sdict_Book)
      | (_ + 2), hC => by cases hC) n hn }
  have S : Txt g a := {
    kt := kt,
    _law_digits_F := F__law_digits,
    _law_digits_b := B__law_digits,
    h__law_digits := PySem.W.mg_of X Gm a__law_digits,
    _law_cell_F := F__law_cell,
    _law_cell_b := B__law_cell,
    h__law_cell := PySem.W.mg_of X Gm a__law_cell,
    _law_entry_F := F__law_entry,
    _law_entry_b := B__law_entry,
    h__law_entry := PySem.W.mg_of X Gm a__law_entry,
    _law_grade_F := F__law_grade,
    _law_grade_b := B__law_grade,
    h__law_grade := PySem.W.mg_of X Gm a__law_grade,
    _law_whole_F := F__law_whole,
    _law_whole_b := B__law_whole,
    h__law_whole := PySem.W.mg_of X Gm a__law_whole,
    _law_longer_F := F__law_longer,
    _law_longer_b := B__law_longer,
    h__law_longer := PySem.W.mg_of X Gm a__law_longer,
    _law_between_F := F__law_between,
    _law_between_b := B__law_between,
    h__law_between := PySem.W.mg_of X Gm a__law_between,
    _law_nudged_F := F__law_nudged,
    _law_nudged_b := B__law_nudged,
    h__law_nudged := PySem.W.mg_of X Gm a__law_nudged,
    _law_least_entries_F := F__law_least_entries,
    _law_least_entries_b := B__law_least_entries,
    h__law_least_entries := PySem.W.mg_of X Gm a__law_least_entries,
    _law_other_gain_F := F__law_other_gain,
    _law_other_gain_b := B__law_other_gain,
    h__law_other_gain := PySem.W.mg_of X Gm a__law_other_gain,
    _law_cut_F := F__law_cut,
    _law_cut_b := B__law_cut,
    h__law_cut := PySem.W.mg_of X Gm a__law_cut,
    _law_further_F := F__law_further,
    _law_further_b := B__law_further,
    h__law_further := PySem.W.mg_of X Gm a__law_further,
    is_whole_F := F_is_whole,
    is_whole_b := B_is_whole,
    h_is_whole := PySem.W.mg_of X Gm a_is_whole,
    is_number_F := F_is_number,
    is_number_b := B_is_number,
    h_is_number := PySem.W.mg_of X Gm a_is_number,
    is_worth_F := F_is_worth,
    is_worth_b := B_is_worth,
    h_is_worth := PySem.W.mg_of X Gm a_is_worth,
    rank_of_F := F_rank_of,
    rank_of_b := B_rank_of,
    h_rank_of := PySem.W.mg_of X Gm a_rank_of,
    is_before_F := F_is_before,
    is_before_b := B_is_before,
    h_is_before := PySem.W.mg_of X Gm a_is_before,
    first_bad_entry_F := F_first_bad_entry,
    first_bad_entry_b := B_first_bad_entry,
    h_first_bad_entry := PySem.W.mg_of X Gm a_first_bad_entry,
    is_right_more_F := F_is_right_more,
    is_right_more_b := B_is_right_more,
    h_is_right_more := PySem.W.mg_of X Gm a_is_right_more,
    beyond_F := F_beyond,
    beyond_b := B_beyond,
    h_beyond := PySem.W.mg_of X Gm a_beyond,
    least_table_F := F_least_table,
    least_table_b := B_least_table,
    h_least_table := PySem.W.mg_of X Gm a_least_table,
    Grade_init_FD := FD_Grade_init,
    Grade_init_b := b0_Grade_init,
    Grade_init_b1 := b1_Grade_init,
    Grade_init_d1 := v1_Grade_init,
    Grade_init_r1 := fun G => .cons (.tup (.inr ⟨_, _, _, dl_Grade_init_0, rfl, rfl, by simp, .nil⟩) .nil) (.cons (.int _) (.nil)),
    mk_Grade := ⟨mi_Grade, a_Grade_init, i_Grade_init, kc_Grade⟩,
    _law_same_worth_F := F__law_same_worth,
    _law_same_worth_b := B__law_same_worth,
    h__law_same_worth := PySem.W.mg_of X Gm a__law_same_worth,
    _law_same_worths_F := F__law_same_worths,
    _law_same_worths_b := B__law_same_worths,
    h__law_same_worths := PySem.W.mg_of X Gm a__law_same_worths,
    _law_at_F := F__law_at,
    _law_at_b := B__law_at,
    h__law_at := PySem.W.mg_of X Gm a__law_at,
    led_F := F_led,
    led_b := B_led,
    h_led := PySem.W.mg_of X Gm a_led,
    Grade_call_F := F_Grade_call,
    Grade_call_b := B_Grade_call,
    Grade_call_at := a_Grade_call,
    Grade_call_fn := i_Grade_call,
    Grade_call_me := ⟨a_Grade_call, i_Grade_call, k_Grade_call⟩,
    Grade_call_fi := n_Grade_call,
    _law_tells_F := F__law_tells,
    _law_tells_b := B__law_tells,
    h__law_tells := PySem.W.mg_of X Gm a__law_tells,
    _law_worths_F := F__law_worths,
    _law_worths_b := B__law_worths,
    h__law_worths := PySem.W.mg_of X Gm a__law_worths,
    Grade_eq_F := F_Grade_eq,
    Grade_eq_b := B_Grade_eq,
    Grade_eq_at := a_Grade_eq,
    Grade_eq_fn := i_Grade_eq,
    Grade_eq_me := ⟨a_Grade_eq, i_Grade_eq, k_Grade_eq⟩,
    _law_told_equal_F := F__law_told_equal,
    _law_told_equal_b := B__law_told_equal,
    h__law_told_equal := PySem.W.mg_of X Gm a__law_told_equal,
    _law_same_function_F := F__law_same_function,
    _law_same_function_b := B__law_same_function,
    h__law_same_function := PySem.W.mg_of X Gm a__law_same_function,
    least_of_F := F_least_of,
    least_of_b := B_least_of,
    h_least_of := PySem.W.mg_of X Gm a_least_of,
    Grade_or_F := F_Grade_or,
    Grade_or_b := B_Grade_or,
    Grade_or_at := a_Grade_or,
    Grade_or_fn := i_Grade_or,
    Grade_or_me := ⟨a_Grade_or, i_Grade_or, k_Grade_or⟩,
    total_of_F := F_total_of,
    total_of_b := B_total_of,
    h_total_of := PySem.W.mg_of X Gm a_total_of,
    Grade_rshift_F := F_Grade_rshift,
    Grade_rshift_b := B_Grade_rshift,
    Grade_rshift_at := a_Grade_rshift,
    Grade_rshift_fn := i_Grade_rshift,
    Grade_rshift_me := ⟨a_Grade_rshift, i_Grade_rshift, k_Grade_rshift⟩,
    is_name_F := F_is_name,
    is_name_b := B_is_name,
    h_is_name := PySem.W.mg_of X Gm a_is_name,
    Book_init_FD := FD_Book_init,
    Book_init_b := b0_Book_init,
    Book_init_b1 := b1_Book_init,
    Book_init_d1 := v1_Book_init,
    Book_init_r1 := fun G => .cons (.tup (.inr ⟨_, _, _, dl_Book_init_0, rfl, rfl, by simp, .nil⟩) .nil) (.nil),
    mk_Book := ⟨mi_Book, a_Book_init, i_Book_init, kc_Book⟩,
    _law_unlike_F := F__law_unlike,
    _law_unlike_b := B__law_unlike,
    h__law_unlike := PySem.W.mg_of X Gm a__law_unlike,
    law_F := F_law,
    law_b := B_law,
    h_law := PySem.W.mg_of X Gm a_law,
    h_Grade := PySem.W.mg_of X Gm gC_Grade,
    sf_Grade := sf_Grade,
    nf_Grade := (fun q hq => by simp only [List.mem_cons, List.not_mem_nil, or_false] at hq; rcases hq with rfl | rfl | rfl | rfl | rfl | rfl | rfl; exact nf_bt bNoneType_Grade; exact nf_bt bbool_Grade; exact nf_bt bint_Grade; exact nf_bt bstr_Grade; exact nf_bt blist_Grade; exact nf_bt btuple_Grade; exact nf_bt bdict_Grade),
    nc_Grade := (fun d E hE hs => match d, hE, hs with
    | 0, hE, _ => by cases hE; exact nf_self
    | 1, hE, _ => by cases hE; exact nf_cc cc_Book_Grade
    | (_ + 2), hE, _ => by cases hE),
    h_Book := PySem.W.mg_of X Gm gC_Book,
    sf_Book := sf_Book,
    nf_Book := (fun q hq => by simp only [List.mem_cons, List.not_mem_nil, or_false] at hq; rcases hq with rfl | rfl | rfl | rfl | rfl | rfl | rfl; exact nf_bt bNoneType_Book; exact nf_bt bbool_Book; exact nf_bt bint_Book; exact nf_bt bstr_Book; exact nf_bt blist_Book; exact nf_bt btuple_Book; exact nf_bt bdict_Book),
    nc_Book := (fun d E hE hs => match d, hE, hs with
    | 0, hE, _ => by cases hE; exact nf_cc cc_Grade_Book
    | 1, hE, _ => by cases hE; exact nf_self
    | (_ + 2), hE, _ => by cases hE),
    oe_Grade := ⟨a_Grade_eq, on_Grade, i_Grade_eq, t4_Grade, (fun q hq => by simp only [List.mem_cons, List.not_mem_nil, or_false] at hq; rcases hq with rfl | rfl | rfl | rfl | rfl | rfl; exact sNoneType_Grade; exact sbool_Grade; exact sint_Grade; exact sstr_Grade; exact slist_Grade; exact stuple_Grade)⟩,
    po_Grade := (fun d hd E hE => by simp only [oth_Grade, List.mem_cons, List.not_mem_nil, or_false] at hd; rcases hd with rfl <;> cases hE; exact ⟨oq_Book, on_Book, t4_Book, cc_Grade_Book, (by first | exact ne_Book_Grade | exact Ne.symm ne_Grade_Book)⟩),
    pc_Grade := (fun d hd => by simp only [oth_Grade, List.mem_cons, List.not_mem_nil, or_false] at hd; rcases hd with rfl <;> exact ⟨_, rfl⟩),
    n_bool := PySem.W.mg_none_of X Gm z_bool,
    n_int := PySem.W.mg_none_of X Gm z_int,
    n_isinstance := PySem.W.mg_none_of X Gm z_isinstance,
    n_len := PySem.W.mg_none_of X Gm z_len,
    n_list := PySem.W.mg_none_of X Gm z_list,
    n_max := PySem.W.mg_none_of X Gm z_max,
    n_min := PySem.W.mg_none_of X Gm z_min,
    n_range := PySem.W.mg_none_of X Gm z_range,
    n_sorted := PySem.W.mg_none_of X Gm z_sorted,
    n_str := PySem.W.mg_none_of X Gm z_str,
    n_tuple := PySem.W.mg_none_of X Gm z_tuple,
    k_DIGITS := PySem.W.mg_of X Gm q_DIGITS,
    k_LETTERS := PySem.W.mg_of X Gm q_LETTERS,
    k_MOST_CHARACTERS := PySem.W.mg_of X Gm q_MOST_CHARACTERS,
    k_MOST_ENTRIES := PySem.W.mg_of X Gm q_MOST_ENTRIES }
  exact ok_end S
end K01
open PySem PySem.W PyProof.Rows
theorem PySem.Challenge.cw_holdsitself_k01_least_form_whole_holds : PySem.Challenge.rw_holdsitself_k01_least_form_whole.Holds := by
  w_on; o_law; k_head; (case hw => w_witness2)
  k_fill
  refine L2.walk_ofB (l := PySem.Challenge.rw_holdsitself_k01_least_form_whole) (n := 63) (k := 8) (x := "script") (CX := fun w => L2.CX PySem.Challenge.rw_holdsitself_k01_least_form_whole.prog w) (sp := fun w => K01.spLaw _) rfl (by decide) rfl ⟨rfl, by decide, by decide⟩ (fun w h Y => PySem.W.kIn_of Y) ?F (fun _ _ a ns hl hb _ hS => ⟨a, ns, rfl, hS, hl, hb, fun _ => rfl⟩) (fun _ _ _ _ _ h => by obtain ⟨_, _, _, _, _, _, _, _, _, _, _, _, z⟩ := h; exact z.elim)
  case F =>
    intro w mg fa h KX G hmg
    refine' K01.all_mk KX G hmg ?gC_Grade ?gC_Book ?pg_Grade ?hd_Grade ?po_Grade ?sa_Grade ?mi_Grade ?kc_Grade ?sf_Grade ?t1_Grade ?t4_Grade ?ic_Grade ?ty_Grade ?bNoneType_Grade ?bbool_Grade ?bint_Grade ?bstr_Grade ?blist_Grade ?btuple_Grade ?bdict_Grade ?sbool_Grade ?sint_Grade ?sstr_Grade ?slist_Grade ?stuple_Grade ?sdict_Grade ?na_Grade_table ?na_Grade_more ?cc_Grade_Book ?ne_Grade_Book ?pg_Book ?hd_Book ?po_Book ?sa_Book ?mi_Book ?kc_Book ?sf_Book ?t1_Book ?t4_Book ?ic_Book ?ty_Book ?bNoneType_Book ?bbool_Book ?bint_Book ?bstr_Book ?blist_Book ?btuple_Book ?bdict_Book ?sbool_Book ?sint_Book ?sstr_Book ?slist_Book ?stuple_Book ?sdict_Book ?na_Book_names ?na_Book_grades ?cc_Book_Grade ?ne_Book_Grade ?sNoneType_Grade ?on_Grade ?oq_Book ?on_Book ?ob2 ?ob3 ?a__law_digits ?l__law_digits ?c__law_digits ?k__law_digits ?a__law_cell ?l__law_cell ?c__law_cell ?k__law_cell ?a__law_entry ?l__law_entry ?c__law_entry ?k__law_entry ?a__law_grade ?l__law_grade ?c__law_grade ?k__law_grade ?a__law_whole ?l__law_whole ?c__law_whole ?k__law_whole ?a__law_longer ?l__law_longer ?c__law_longer ?k__law_longer ?a__law_between ?l__law_between ?c__law_between ?k__law_between ?a__law_nudged ?l__law_nudged ?c__law_nudged ?k__law_nudged ?a__law_least_entries ?l__law_least_entries ?c__law_least_entries ?k__law_least_entries ?a__law_other_gain ?l__law_other_gain ?c__law_other_gain ?k__law_other_gain ?a__law_cut ?l__law_cut ?c__law_cut ?k__law_cut ?a__law_further ?l__law_further ?c__law_further ?k__law_further ?a_is_whole ?l_is_whole ?c_is_whole ?k_is_whole ?a_is_number ?l_is_number ?c_is_number ?k_is_number ?a_is_worth ?l_is_worth ?c_is_worth ?k_is_worth ?a_rank_of ?l_rank_of ?c_rank_of ?k_rank_of ?a_is_before ?l_is_before ?c_is_before ?k_is_before ?a_first_bad_entry ?l_first_bad_entry ?c_first_bad_entry ?k_first_bad_entry ?a_is_right_more ?l_is_right_more ?c_is_right_more ?k_is_right_more ?a_beyond ?l_beyond ?c_beyond ?k_beyond ?a_least_table ?l_least_table ?c_least_table ?k_least_table ?a_Grade_init ?i_Grade_init ?l_Grade_init ?c_Grade_init ?k_Grade_init ?lD_Grade_init ?dl_Grade_init_0 ?a__law_same_worth ?l__law_same_worth ?c__law_same_worth ?k__law_same_worth ?a__law_same_worths ?l__law_same_worths ?c__law_same_worths ?k__law_same_worths ?a__law_at ?l__law_at ?c__law_at ?k__law_at ?a_led ?l_led ?c_led ?k_led ?a_Grade_call ?i_Grade_call ?n_Grade_call ?l_Grade_call ?c_Grade_call ?k_Grade_call ?a__law_tells ?l__law_tells ?c__law_tells ?k__law_tells ?a__law_worths ?l__law_worths ?c__law_worths ?k__law_worths ?a_Grade_eq ?i_Grade_eq ?l_Grade_eq ?c_Grade_eq ?k_Grade_eq ?a__law_told_equal ?l__law_told_equal ?c__law_told_equal ?k__law_told_equal ?a__law_same_function ?l__law_same_function ?c__law_same_function ?k__law_same_function ?a_least_of ?l_least_of ?c_least_of ?k_least_of ?a_Grade_or ?i_Grade_or ?l_Grade_or ?c_Grade_or ?k_Grade_or ?a_total_of ?l_total_of ?c_total_of ?k_total_of ?a_Grade_rshift ?i_Grade_rshift ?l_Grade_rshift ?c_Grade_rshift ?k_Grade_rshift ?a_is_name ?l_is_name ?c_is_name ?k_is_name ?a_Book_init ?i_Book_init ?l_Book_init ?c_Book_init ?k_Book_init ?lD_Book_init ?dl_Book_init_0 ?a__law_unlike ?l__law_unlike ?c__law_unlike ?k__law_unlike ?a_law ?l_law ?c_law ?k_law ?z_bool ?z_int ?z_isinstance ?z_len ?z_list ?z_max ?z_min ?z_range ?z_sorted ?z_str ?z_tuple ?q_DIGITS ?q_LETTERS ?q_MOST_CHARACTERS ?q_MOST_ENTRIES
    (case gC_Grade => k_is)
    (case gC_Book => k_is)
    (case pg_Grade => k_is)
    (case hd_Grade => k_is)
    (case po_Grade => k_is)
    (case sa_Grade => k_is)
    (case mi_Grade => k_is)
    (case kc_Grade => k_is)
    (case sf_Grade => k_is)
    (case t1_Grade => k_is)
    (case t4_Grade => k_is)
    (case ic_Grade => k_is)
    (case ty_Grade => k_is)
    (case bNoneType_Grade => k_is)
    (case bbool_Grade => k_is)
    (case bint_Grade => k_is)
    (case bstr_Grade => k_is)
    (case blist_Grade => k_is)
    (case btuple_Grade => k_is)
    (case bdict_Grade => k_is)
    (case sbool_Grade => k_is)
    (case sint_Grade => k_is)
    (case sstr_Grade => k_is)
    (case slist_Grade => k_is)
    (case stuple_Grade => k_is)
    (case sdict_Grade => k_is)
    (case na_Grade_table => k_is)
    (case na_Grade_more => k_is)
    (case cc_Grade_Book => k_is)
    (case ne_Grade_Book => decide)
    (case pg_Book => k_is)
    (case hd_Book => k_is)
    (case po_Book => k_is)
    (case sa_Book => k_is)
    (case mi_Book => k_is)
    (case kc_Book => k_is)
    (case sf_Book => k_is)
    (case t1_Book => k_is)
    (case t4_Book => k_is)
    (case ic_Book => k_is)
    (case ty_Book => k_is)
    (case bNoneType_Book => k_is)
    (case bbool_Book => k_is)
    (case bint_Book => k_is)
    (case bstr_Book => k_is)
    (case blist_Book => k_is)
    (case btuple_Book => k_is)
    (case bdict_Book => k_is)
    (case sbool_Book => k_is)
    (case sint_Book => k_is)
    (case sstr_Book => k_is)
    (case slist_Book => k_is)
    (case stuple_Book => k_is)
    (case sdict_Book => k_is)
    (case na_Book_names => k_is)
    (case na_Book_grades => k_is)
    (case cc_Book_Grade => k_is)
    (case ne_Book_Grade => decide)
    (case sNoneType_Grade => k_is)
    (case on_Grade => k_is)
    (case oq_Book => k_is)
    (case on_Book => k_is)
    (case ob2 => k_is)
    (case ob3 => k_is)
    (case a__law_digits => k_is)
    (case l__law_digits => k_is)
    (case c__law_digits => k_is)
    (case k__law_digits => k_is)
    (case a__law_cell => k_is)
    (case l__law_cell => k_is)
    (case c__law_cell => k_is)
    (case k__law_cell => k_is)
    (case a__law_entry => k_is)
    (case l__law_entry => k_is)
    (case c__law_entry => k_is)
    (case k__law_entry => k_is)
    (case a__law_grade => k_is)
    (case l__law_grade => k_is)
    (case c__law_grade => k_is)
    (case k__law_grade => k_is)
    (case a__law_whole => k_is)
    (case l__law_whole => k_is)
    (case c__law_whole => k_is)
    (case k__law_whole => k_is)
    (case a__law_longer => k_is)
    (case l__law_longer => k_is)
    (case c__law_longer => k_is)
    (case k__law_longer => k_is)
    (case a__law_between => k_is)
    (case l__law_between => k_is)
    (case c__law_between => k_is)
    (case k__law_between => k_is)
    (case a__law_nudged => k_is)
    (case l__law_nudged => k_is)
    (case c__law_nudged => k_is)
    (case k__law_nudged => k_is)
    (case a__law_least_entries => k_is)
    (case l__law_least_entries => k_is)
    (case c__law_least_entries => k_is)
    (case k__law_least_entries => k_is)
    (case a__law_other_gain => k_is)
    (case l__law_other_gain => k_is)
    (case c__law_other_gain => k_is)
    (case k__law_other_gain => k_is)
    (case a__law_cut => k_is)
    (case l__law_cut => k_is)
    (case c__law_cut => k_is)
    (case k__law_cut => k_is)
    (case a__law_further => k_is)
    (case l__law_further => k_is)
    (case c__law_further => k_is)
    (case k__law_further => k_is)
    (case a_is_whole => k_is)
    (case l_is_whole => k_is)
    (case c_is_whole => k_is)
    (case k_is_whole => k_is)
    (case a_is_number => k_is)
    (case l_is_number => k_is)
    (case c_is_number => k_is)
    (case k_is_number => k_is)
    (case a_is_worth => k_is)
    (case l_is_worth => k_is)
    (case c_is_worth => k_is)
    (case k_is_worth => k_is)
    (case a_rank_of => k_is)
    (case l_rank_of => k_is)
    (case c_rank_of => k_is)
    (case k_rank_of => k_is)
    (case a_is_before => k_is)
    (case l_is_before => k_is)
    (case c_is_before => k_is)
    (case k_is_before => k_is)
    (case a_first_bad_entry => k_is)
    (case l_first_bad_entry => k_is)
    (case c_first_bad_entry => k_is)
    (case k_first_bad_entry => k_is)
    (case a_is_right_more => k_is)
    (case l_is_right_more => k_is)
    (case c_is_right_more => k_is)
    (case k_is_right_more => k_is)
    (case a_beyond => k_is)
    (case l_beyond => k_is)
    (case c_beyond => k_is)
    (case k_beyond => k_is)
    (case a_least_table => k_is)
    (case l_least_table => k_is)
    (case c_least_table => k_is)
    (case k_least_table => k_is)
    (case a_Grade_init => k_is)
    (case i_Grade_init => k_is)
    (case l_Grade_init => k_is)
    (case c_Grade_init => k_is)
    (case k_Grade_init => k_is)
    (case lD_Grade_init => k_is)
    (case dl_Grade_init_0 => k_is)
    (case a__law_same_worth => k_is)
    (case l__law_same_worth => k_is)
    (case c__law_same_worth => k_is)
    (case k__law_same_worth => k_is)
    (case a__law_same_worths => k_is)
    (case l__law_same_worths => k_is)
    (case c__law_same_worths => k_is)
    (case k__law_same_worths => k_is)
    (case a__law_at => k_is)
    (case l__law_at => k_is)
    (case c__law_at => k_is)
    (case k__law_at => k_is)
    (case a_led => k_is)
    (case l_led => k_is)
    (case c_led => k_is)
    (case k_led => k_is)
    (case a_Grade_call => k_is)
    (case i_Grade_call => k_is)
    (case n_Grade_call => k_is)
    (case l_Grade_call => k_is)
    (case c_Grade_call => k_is)
    (case k_Grade_call => k_is)
    (case a__law_tells => k_is)
    (case l__law_tells => k_is)
    (case c__law_tells => k_is)
    (case k__law_tells => k_is)
    (case a__law_worths => k_is)
    (case l__law_worths => k_is)
    (case c__law_worths => k_is)
    (case k__law_worths => k_is)
    (case a_Grade_eq => k_is)
    (case i_Grade_eq => k_is)
    (case l_Grade_eq => k_is)
    (case c_Grade_eq => k_is)
    (case k_Grade_eq => k_is)
    (case a__law_told_equal => k_is)
    (case l__law_told_equal => k_is)
    (case c__law_told_equal => k_is)
    (case k__law_told_equal => k_is)
    (case a__law_same_function => k_is)
    (case l__law_same_function => k_is)
    (case c__law_same_function => k_is)
    (case k__law_same_function => k_is)
    (case a_least_of => k_is)
    (case l_least_of => k_is)
    (case c_least_of => k_is)
    (case k_least_of => k_is)
    (case a_Grade_or => k_is)
    (case i_Grade_or => k_is)
    (case l_Grade_or => k_is)
    (case c_Grade_or => k_is)
    (case k_Grade_or => k_is)
    (case a_total_of => k_is)
    (case l_total_of => k_is)
    (case c_total_of => k_is)
    (case k_total_of => k_is)
    (case a_Grade_rshift => k_is)
    (case i_Grade_rshift => k_is)
    (case l_Grade_rshift => k_is)
    (case c_Grade_rshift => k_is)
    (case k_Grade_rshift => k_is)
    (case a_is_name => k_is)
    (case l_is_name => k_is)
    (case c_is_name => k_is)
    (case k_is_name => k_is)
    (case a_Book_init => k_is)
    (case i_Book_init => k_is)
    (case l_Book_init => k_is)
    (case c_Book_init => k_is)
    (case k_Book_init => k_is)
    (case lD_Book_init => k_is)
    (case dl_Book_init_0 => k_is)
    (case a__law_unlike => k_is)
    (case l__law_unlike => k_is)
    (case c__law_unlike => k_is)
    (case k__law_unlike => k_is)
    (case a_law => k_is)
    (case l_law => k_is)
    (case c_law => k_is)
    (case k_law => k_is)
    (case z_bool => k_is)
    (case z_int => k_is)
    (case z_isinstance => k_is)
    (case z_len => k_is)
    (case z_list => k_is)
    (case z_max => k_is)
    (case z_min => k_is)
    (case z_range => k_is)
    (case z_sorted => k_is)
    (case z_str => k_is)
    (case z_tuple => k_is)
    (case q_DIGITS => k_is)
    (case q_LETTERS => k_is)
    (case q_MOST_CHARACTERS => k_is)
    (case q_MOST_ENTRIES => k_is)

