import PyProof.Rows.All
import Wide.All
import OpenK.AllK
import Wide.FinOn
import HandS.ForMost
import HandS.ForExc
import HandS.Wide
import HandS.CallSlots
import HandS.Defaults
import HandS.Conv
import HandS.TupAny
import HandS.Comp
import KE.DataEq
import HandS.Style
import HandS.IsInst
import KE.KStateDown
import HandS.Head0
import HandS.Head1
import HandS.Head2
import HandS.HeadEnd
import HandS.HeadHook1
import HandS.HeadHook2
import PyProof.Rows.Range3
import PySem.Challenge.RW_saveagain_k06_whole_rounding_by_the_near
set_option Elab.async false
set_option linter.all false
set_option maxRecDepth 100000
set_option maxHeartbeats 4000000
namespace Mi
open PySem PySem.Spec PyProof.Rows L2

/-! ### data, values, the store -/
/-- frozen data -/
inductive D where
  | non | bl (b : Bool) | int (i : Int) | str (x : Str) | tup (xs : List D) | lst (xs : List D) | obj (C : Addr) (fs : List (Str × D)) | ty (n : String) | adr (a : Addr) | scr (ns : List Int)
/-- a value: data, or a cell of the store -/
inductive U where
  | d (x : D) | r (i : Nat)
inductive Cell where
  | lst (xs : List U) | dK (kvs : List (Key × U)) | ins (C : Addr) (fs : List (Str × U)) | dead
abbrev Sto := List Cell
abbrev En := List (Option U)
structure Er where
  cls : Value
  fs : List (Str × D)

/-! ### data in a heap -/
/-- a tuple of data's: tracked, or of the written part -/
def TpA (K : PySem.W.Frag) (F : Hp) (a : Addr) (xs : List V) : Prop :=
  F a = some (.tup xs) ∨ ∃ (o : Obj) (its : Array Value) (n : Nat), K.lookup a = some o ∧ o.cls = .type "tuple" ∧ o.data = .seq its n ∧ its.size ≤ sizeLine ∧ Vals xs its.toList
theorem TpA.sq {K : PySem.W.Frag} {F H : Hp} {a : Addr} {xs : List V} (h : TpA K F a xs) (e : Same F H) : SqT K H a xs := h.elim (fun h => .inl (.inl (e _ _ h))) .inr
theorem TpA.mono {K : PySem.W.Frag} {F F' : Hp} {a : Addr} {xs : List V} (e : Same F F') (h : TpA K F a xs) : TpA K F' a xs := h.imp (e _ _) id
mutual
def RD (K : PySem.W.Frag) (F : Hp) : D → V → Prop
  | .non, v => v = .non
  | .bl b, v => v = .bl b
  | .int i, v => v = .int i
  | .str x, v => v = .str x
  | .tup xs, v => ∃ a vs, v = .ref a ∧ TpA K F a vs ∧ RDs K F xs vs
  | .lst xs, v => ∃ a vs, v = .ref a ∧ F a = some (.lst vs) ∧ RDs K F xs vs
  | .obj C fs, v => ∃ a dx vs, v = .ref a ∧ F a = some (.ins C dx vs) ∧ RDf K F fs vs
  | .ty n, v => v = .ty n
  | .adr a, v => v = .ref a
  | .scr ns, v => ∃ a, v = .ref a ∧ SqL K F a (ns.map V.int)
def RDs (K : PySem.W.Frag) (F : Hp) : List D → List V → Prop
  | [], vs => vs = []
  | x :: xs, vs => ∃ v r, vs = v :: r ∧ RD K F x v ∧ RDs K F xs r
def RDf (K : PySem.W.Frag) (F : Hp) : List (Str × D) → List (Str × V) → Prop
  | [], vs => vs = []
  | (n, x) :: xs, vs => ∃ v r, vs = (n, v) :: r ∧ RD K F x v ∧ RDf K F xs r
end
mutual
theorem RD.mono {K : PySem.W.Frag} {F F' : Hp} (e : Same F F') : ∀ {x : D} {v : V}, RD K F x v → RD K F' x v
  | .non, v, h => h
  | .bl b, v, h => h
  | .int i, v, h => h
  | .str x, v, h => h
  | .tup xs, v, h => by
    obtain ⟨a, vs, rfl, h1, h2⟩ := h
    exact ⟨a, vs, rfl, TpA.mono e h1, RDs.mono e h2⟩
  | .lst xs, v, h => by
    obtain ⟨a, vs, rfl, h1, h2⟩ := h
    exact ⟨a, vs, rfl, e _ _ h1, RDs.mono e h2⟩
  | .obj C fs, v, h => by
    obtain ⟨a, dx, vs, rfl, h1, h2⟩ := h
    exact ⟨a, dx, vs, rfl, e _ _ h1, RDf.mono e h2⟩
  | .ty n, v, h => h
  | .adr a, v, h => h
  | .scr ns, v, h => by
    obtain ⟨a, rfl, h1⟩ := h
    exact ⟨a, rfl, e.seq h1⟩
theorem RDs.mono {K : PySem.W.Frag} {F F' : Hp} (e : Same F F') : ∀ {xs : List D} {vs : List V}, RDs K F xs vs → RDs K F' xs vs
  | [], vs, h => h
  | x :: xs, vs, h => by
    obtain ⟨v, r, rfl, h1, h2⟩ := h
    exact ⟨v, r, rfl, RD.mono e h1, RDs.mono e h2⟩
theorem RDf.mono {K : PySem.W.Frag} {F F' : Hp} (e : Same F F') : ∀ {xs : List (Str × D)} {vs : List (Str × V)}, RDf K F xs vs → RDf K F' xs vs
  | [], vs, h => h
  | (n, x) :: xs, vs, h => by
    obtain ⟨v, r, rfl, h1, h2⟩ := h
    exact ⟨v, r, rfl, RD.mono e h1, RDf.mono e h2⟩
end
/-- values: μ tells where the cells stand -/
def RU (K : PySem.W.Frag) (F : Hp) (μ : List Addr) : U → V → Prop
  | .d x, v => RD K F x v
  | .r i, v => ∃ p, v = .ref p ∧ μ[i]? = some p
def RUs (K : PySem.W.Frag) (F : Hp) (μ : List Addr) : List U → List V → Prop
  | [], vs => vs = []
  | x :: xs, vs => ∃ v r, vs = v :: r ∧ RU K F μ x v ∧ RUs K F μ xs r
def RUf {κ : Type} (K : PySem.W.Frag) (F : Hp) (μ : List Addr) : List (κ × U) → List (κ × V) → Prop
  | [], vs => vs = []
  | (n, x) :: xs, vs => ∃ v r, vs = (n, v) :: r ∧ RU K F μ x v ∧ RUf K F μ xs r
/-- a configuration -/
structure Cf where
  F : Hp
  μ : List Addr
  S : Sto
  H : Hp
/-- a living cell stands at b -/
def Al (μ : List Addr) (S : Sto) (b : Addr) : Prop := ∃ (i : Nat) (c : Cell), S[i]? = some c ∧ c ≠ .dead ∧ μ[i]? = some b
/-- more data, more cells -/
structure Mo (F F' : Hp) (μ μ' : List Addr) : Prop where
  s : Same F F'
  p : ∀ (i : Nat) p, μ[i]? = some p → μ'[i]? = some p
theorem Mo.refl (F : Hp) (μ : List Addr) : Mo F F μ μ := ⟨Same.refl F, fun _ _ h => h⟩
theorem Mo.trans {F1 F2 F3 : Hp} {m1 m2 m3 : List Addr} (a : Mo F1 F2 m1 m2) (b : Mo F2 F3 m2 m3) : Mo F1 F3 m1 m3 := ⟨a.s.trans b.s, fun i p h => b.p i p (a.p i p h)⟩
/-- later -/
structure Gw (c c' : Cf) : Prop where
  m : Mo c.F c'.F c.μ c'.μ
  n : c.μ.length ≤ c'.μ.length
  f : ∀ b o, c.H b = some o → ¬ Al c.μ c.S b → c'.H b = some o ∧ ¬ Al c'.μ c'.S b
  k : ∀ b o, c.H b = some o → ¬ Al c.μ c.S b → c.F b = none → c'.F b = none
theorem Gw.refl (c : Cf) : Gw c c := ⟨Mo.refl _ _, Nat.le_refl _, fun _ _ h n => ⟨h, n⟩, fun _ _ _ _ h => h⟩
theorem Gw.trans {a b c : Cf} (x : Gw a b) (y : Gw b c) : Gw a c := ⟨x.m.trans y.m, Nat.le_trans x.n y.n, fun p o h n => let ⟨h1, n1⟩ := x.f p o h n; y.f p o h1 n1, fun p o h n e => let ⟨h1, n1⟩ := x.f p o h n; y.k p o h1 n1 (x.k p o h n e)⟩
section
variable {K : PySem.W.Frag} {F F' : Hp} {μ μ' : List Addr}
theorem RU.mono (g : Mo F F' μ μ') : ∀ {x : U} {v : V}, RU K F μ x v → RU K F' μ' x v
  | .d _, _, h => RD.mono g.s h
  | .r _, _, ⟨p, e, h⟩ => ⟨p, e, g.p _ _ h⟩
theorem RUs.mono (g : Mo F F' μ μ') : ∀ {xs : List U} {vs : List V}, RUs K F μ xs vs → RUs K F' μ' xs vs
  | [], _, h => h
  | _ :: _, _, ⟨v, r, e, h1, h2⟩ => ⟨v, r, e, h1.mono g, RUs.mono g h2⟩
theorem RUf.mono {κ : Type} (g : Mo F F' μ μ') : ∀ {xs : List (κ × U)} {vs : List (κ × V)}, RUf K F μ xs vs → RUf K F' μ' xs vs
  | [], _, h => h
  | (_, _) :: _, _, ⟨v, r, e, h1, h2⟩ => ⟨v, r, e, h1.mono g, RUf.mono g h2⟩
theorem RUs.length : ∀ {xs : List U} {vs : List V}, RUs K F μ xs vs → vs.length = xs.length
  | [], _, rfl => rfl
  | _ :: _, _, ⟨_, _, rfl, _, h2⟩ => congrArg Nat.succ (RUs.length h2)
theorem RUs.get : ∀ {xs : List U} {vs : List V} {i : Nat} {x : U}, RUs K F μ xs vs → xs[i]? = some x → ∃ v, vs[i]? = some v ∧ RU K F μ x v
  | [], _, _, _, _, e => by simp at e
  | y :: ys, _, 0, x, ⟨v, r, rfl, h1, h2⟩, e => by
    have e' : y = x := by simpa using e
    exact ⟨v, rfl, e' ▸ h1⟩
  | _ :: ys, _, i + 1, x, ⟨v, r, rfl, h1, h2⟩, e => by
    obtain ⟨w, a, b⟩ := RUs.get (i := i) h2 (by simpa using e)
    exact ⟨w, by simpa using a, b⟩
theorem RUs.append : ∀ {xs ys : List U} {vs ws : List V}, RUs K F μ xs vs → RUs K F μ ys ws → RUs K F μ (xs ++ ys) (vs ++ ws)
  | [], _, _, _, rfl, h => h
  | _ :: _, _, _, _, ⟨v, r, rfl, h1, h2⟩, h => ⟨v, _, rfl, h1, RUs.append h2 h⟩
theorem RUs.set {x : U} {v : V} (h : RU K F μ x v) : ∀ {xs : List U} {vs : List V} (i : Nat), RUs K F μ xs vs → RUs K F μ (xs.set i x) (vs.set i v)
  | [], _, _, rfl => rfl
  | _ :: _, _, 0, ⟨w, r, rfl, h1, h2⟩ => ⟨v, r, rfl, h, h2⟩
  | _ :: _, _, i + 1, ⟨w, r, rfl, h1, h2⟩ => ⟨w, _, rfl, h1, RUs.set h i h2⟩
theorem RUs.take : ∀ {xs : List U} {vs : List V} (n : Nat), RUs K F μ xs vs → RUs K F μ (xs.take n) (vs.take n)
  | [], _, n, rfl => by simp; rfl
  | _ :: _, _, 0, _ => rfl
  | _ :: _, _, n + 1, ⟨w, r, rfl, h1, h2⟩ => ⟨w, _, rfl, h1, RUs.take n h2⟩
theorem RUs.drop : ∀ {xs : List U} {vs : List V} (n : Nat), RUs K F μ xs vs → RUs K F μ (xs.drop n) (vs.drop n)
  | [], _, n, rfl => by simp; rfl
  | _ :: _, _, 0, h => h
  | _ :: _, _, n + 1, ⟨w, r, rfl, h1, h2⟩ => RUs.drop n h2
theorem RUs.reverse : ∀ {xs : List U} {vs : List V}, RUs K F μ xs vs → RUs K F μ xs.reverse vs.reverse
  | [], _, rfl => rfl
  | x :: xs, _, ⟨v, r, rfl, h1, h2⟩ => by
    rw [List.reverse_cons, List.reverse_cons]
    exact RUs.append (RUs.reverse h2) ⟨v, [], rfl, h1, rfl⟩
/-- data as values -/
theorem RDs.u : ∀ {xs : List D} {vs : List V}, RDs K F xs vs → RUs K F μ (xs.map U.d) vs
  | [], _, h => h
  | _ :: _, _, ⟨v, r, e, h1, h2⟩ => ⟨v, r, e, h1, RDs.u h2⟩
theorem RDs.of_u : ∀ {xs : List D} {vs : List V}, RUs K F μ (xs.map U.d) vs → RDs K F xs vs
  | [], _, h => h
  | _ :: _, _, ⟨v, r, e, h1, h2⟩ => ⟨v, r, e, h1, RDs.of_u h2⟩
end

/-! ### the state -/
def CR (K : PySem.W.Frag) (F : Hp) (μ : List Addr) : Cell → HO → Prop
  | .lst xs, o => ∃ vs, o = .lst vs ∧ RUs K F μ xs vs
  | .dK kvs, o => ∃ vs, o = .dK vs ∧ RUf K F μ kvs vs
  | .ins C fs, o => ∃ dx vs, o = .ins C dx vs ∧ RUf K F μ fs vs
  | .dead, _ => False
structure SR (K : PySem.W.Frag) (c : Cf) : Prop where
  sub : Same c.F c.H
  len : c.μ.length = c.S.length
  cel : ∀ (i : Nat) x, c.S[i]? = some x → x ≠ .dead → ∃ p o, c.μ[i]? = some p ∧ c.F p = none ∧ c.H p = some o ∧ CR K c.F c.μ x o
  ap : ∀ (i j : Nat) ci cj p, c.S[i]? = some ci → ci ≠ .dead → c.S[j]? = some cj → cj ≠ .dead → c.μ[i]? = some p → c.μ[j]? = some p → i = j
def ER (K : PySem.W.Frag) (c : Cf) (env : En) (σ : L2.St) : Prop :=
  env.length = σ.length ∧ ∀ (i : Nat) x, env[i]? = some (some x) → ∃ v, σ[i]? = some (some v) ∧ RU K c.F c.μ x v
section
variable {K : PySem.W.Frag} {F F' : Hp} {μ μ' : List Addr} {S S' : Sto} {H H' : Hp} {c c' : Cf} {env : En} {σ : L2.St}
theorem CR.mono (g : Mo F F' μ μ') : ∀ {c : Cell} {o : HO}, CR K F μ c o → CR K F' μ' c o
  | .lst _, _, ⟨vs, e, h⟩ => ⟨vs, e, h.mono g⟩
  | .dK _, _, ⟨vs, e, h⟩ => ⟨vs, e, h.mono g⟩
  | .ins _ _, _, ⟨dx, vs, e, h⟩ => ⟨dx, vs, e, h.mono g⟩
theorem ER.mono (g : Gw c c') (h : ER K c env σ) : ER K c' env σ := ⟨h.1, fun i x e => by
  obtain ⟨v, a, b⟩ := h.2 i x e
  exact ⟨v, a, b.mono g.m⟩⟩
theorem ER.set {x : U} {v : V} (h : ER K c env σ) (hx : RU K c.F c.μ x v) (i : Nat) : ER K c (env.set i (some x)) (σ.set i (some v)) := by
  refine ⟨by simp [h.1], fun j y e => ?_⟩
  by_cases hj : i = j
  · subst hj
    by_cases hl : i < env.length
    · rw [List.getElem?_set_self hl] at e
      cases e
      exact ⟨v, by rw [List.getElem?_set_self (by rw [← h.1]; exact hl)], hx⟩
    · rw [List.getElem?_eq_none (by simpa using hl)] at e
      cases e
  · rw [List.getElem?_set_ne hj] at e ⊢
    exact h.2 j y e
theorem ER.clear (h : ER K c env σ) (i : Nat) : ER K c (env.set i none) (σ.set i none) := by
  refine ⟨by simp [h.1], fun j y e => ?_⟩
  by_cases hj : i = j
  · subst hj
    by_cases hl : i < env.length
    · rw [List.getElem?_set_self hl] at e
      cases e
    · rw [List.getElem?_eq_none (by simpa using hl)] at e
      cases e
  · rw [List.getElem?_set_ne hj] at e ⊢
    exact h.2 j y e
theorem SR.al (r : SR K c) {b : Addr} (h : Al c.μ c.S b) : c.F b = none ∧ ∃ o, c.H b = some o := by
  obtain ⟨i, x, e, n, m⟩ := h
  obtain ⟨p, o, a1, a2, a3, a4⟩ := r.cel i x e n
  rw [a1] at m; cases m
  exact ⟨a2, o, a3⟩
/-- a new datum's object -/
theorem SR.data {p : Addr} {o : HO} (r : SR K ⟨F, μ, S, H⟩) (hp : H p = none) : SR K ⟨upd F p o, μ, S, upd H p o⟩ ∧ Gw ⟨F, μ, S, H⟩ ⟨upd F p o, μ, S, upd H p o⟩ := by
  have hF : F p = none := by
    cases q : F p with
    | none => rfl
    | some o' => have z := r.sub _ _ q; rw [show (Cf.H ⟨F, μ, S, H⟩) p = none from hp] at z; cases z
  have g : Mo F (upd F p o) μ μ := ⟨fun b u e => by rw [upd_ne (ne_of_none e hF)]; exact e, fun _ _ h => h⟩
  refine ⟨⟨fun b u e => ?_, r.len, fun i c e hc => ?_, r.ap⟩, ⟨g, Nat.le_refl _, fun b u e n => ⟨?_, n⟩, fun b u e _ h0 => (upd_ne (ne_of_none e hp)).trans h0⟩⟩
  · show upd H p o b = some u
    have e : upd F p o b = some u := e
    by_cases hb : b = p
    · subst hb; rw [upd_same] at e ⊢; exact e
    · rw [upd_ne hb] at e ⊢; exact r.sub _ _ e
  · obtain ⟨q, u, e1, e2, e3, e4⟩ := r.cel i c e hc
    have hq : q ≠ p := ne_of_none e3 hp
    exact ⟨q, u, e1, (upd_ne hq).trans e2, (upd_ne hq).trans e3, e4.mono g⟩
  · exact (upd_ne (ne_of_none e hp)).trans e
/-- a new cell -/
theorem SR.cell {p : Addr} {o : HO} {c : Cell} (r : SR K ⟨F, μ, S, H⟩) (hp : H p = none) (hc : CR K F (μ ++ [p]) c o) : SR K ⟨F, μ ++ [p], S ++ [c], upd H p o⟩ ∧ Gw ⟨F, μ, S, H⟩ ⟨F, μ ++ [p], S ++ [c], upd H p o⟩ := by
  have hF : F p = none := by
    cases q : F p with
    | none => rfl
    | some o' => have z := r.sub _ _ q; rw [show (Cf.H ⟨F, μ, S, H⟩) p = none from hp] at z; cases z
  have rl : μ.length = S.length := r.len
  have g : Mo F F μ (μ ++ [p]) := ⟨Same.refl F, fun i q h => by rw [List.getElem?_append_left (List.getElem?_eq_some_iff.mp h).1]; exact h⟩
  have old : ∀ {i : Nat} {c' : Cell}, (S ++ [c])[i]? = some c' → (S[i]? = some c' ∧ i < S.length) ∨ (i = S.length ∧ c' = c) := fun {i c'} e => by
    by_cases hi : i < S.length
    · rw [List.getElem?_append_left hi] at e; exact .inl ⟨e, hi⟩
    · rw [List.getElem?_append_right (by omega)] at e
      by_cases h0 : i - S.length = 0
      · rw [h0] at e; exact .inr ⟨by omega, by simpa using e.symm⟩
      · rw [List.getElem?_eq_none (by simp; omega)] at e; cases e
  have oldm : ∀ {i : Nat} {q : Addr}, i < S.length → (μ ++ [p])[i]? = some q → μ[i]? = some q := fun {i q} hi e => by
    rw [List.getElem?_append_left (by omega)] at e; exact e
  have newm : ∀ {q : Addr}, (μ ++ [p])[S.length]? = some q → q = p := fun {q} e => by
    rw [List.getElem?_append_right (by omega)] at e
    simp [rl] at e
    exact e.symm
  refine ⟨⟨fun b u e => ?_, by simp [rl], fun i c' e h' => ?_, fun i j ci cj q ei hi ej hj mi mj => ?_⟩, ⟨g, by simp, fun b u e n => ⟨(upd_ne (ne_of_none e hp)).trans e, ?_⟩, fun _ _ _ _ h0 => h0⟩⟩
  · exact (upd_ne (ne_of_none e hF)).trans (r.sub _ _ e)
  · rcases old e with ⟨e, hi⟩ | ⟨e1, e2⟩
    · obtain ⟨q, u, e1, e2, e3, e4⟩ := r.cel i c' e h'
      exact ⟨q, u, g.p _ _ e1, e2, (upd_ne (ne_of_none e3 hp)).trans e3, e4.mono g⟩
    · subst e1 e2
      exact ⟨p, o, by show (μ ++ [p])[S.length]? = some p; rw [List.getElem?_append_right (by omega)]; simp [rl], hF, upd_same, hc⟩
  · rcases old ei with ⟨ai, li⟩ | ⟨ai, bi⟩
    · obtain ⟨qi, _, a1, _, b1, _⟩ := r.cel i ci ai hi
      have mi := oldm li mi
      rcases old ej with ⟨aj, lj⟩ | ⟨aj, bj⟩
      · exact r.ap i j ci cj q ai hi aj hj mi (oldm lj mj)
      · subst aj
        have e := newm mj
        rw [show (Cf.μ ⟨F, μ, S, H⟩)[i]? = some q from mi] at a1
        cases a1
        rw [e] at b1
        have z : H p = some _ := b1
        rw [hp] at z; cases z
    · subst ai
      have e := newm mi
      rcases old ej with ⟨aj, lj⟩ | ⟨aj, bj⟩
      · obtain ⟨qj, _, a2, _, b2, _⟩ := r.cel j cj aj hj
        rw [show (Cf.μ ⟨F, μ, S, H⟩)[j]? = some q from oldm lj mj] at a2
        cases a2
        rw [e] at b2
        have z : H p = some _ := b2
        rw [hp] at z; cases z
      · exact aj.symm
  · rintro ⟨i, c', e', h', m'⟩
    rcases old e' with ⟨a, l⟩ | ⟨a, a'⟩
    · exact n ⟨i, c', a, h', oldm l m'⟩
    · subst a
      have z := newm m'
      rw [z] at e
      have z2 : H p = some u := e
      rw [hp] at z2; cases z2
/-- a cell written -/
theorem SR.write {i : Nat} {p : Addr} {o' : HO} {c c' : Cell} (r : SR K ⟨F, μ, S, H⟩) (hi : S[i]? = some c) (hc : c ≠ .dead) (hp : μ[i]? = some p) (hn : CR K F μ c' o') :
    SR K ⟨F, μ, S.set i c', upd H p o'⟩ ∧ Gw ⟨F, μ, S, H⟩ ⟨F, μ, S.set i c', upd H p o'⟩ := by
  obtain ⟨q, u, e1, e2, e3, e4⟩ := r.cel i c hi hc
  have eq : p = q := Option.some.inj (hp.symm.trans e1)
  subst eq
  have hl : i < S.length := (List.getElem?_eq_some_iff.mp hi).1
  have old : ∀ {j : Nat} {x : Cell}, (S.set i c')[j]? = some x → (j = i ∧ x = c') ∨ (j ≠ i ∧ S[j]? = some x) := fun {j x} e => by
    by_cases hj : i = j
    · subst hj
      rw [List.getElem?_set_self hl] at e
      exact .inl ⟨rfl, by simpa using e.symm⟩
    · rw [List.getElem?_set_ne hj] at e
      exact .inr ⟨fun z => hj z.symm, e⟩
  have nb : ∀ {b : Addr}, Al μ (S.set i c') b → Al μ S b := fun {b} ⟨j, x, e, h, m⟩ => by
    rcases old e with ⟨a, _⟩ | ⟨_, a⟩
    · subst a; exact ⟨_, c, hi, hc, m⟩
    · exact ⟨j, x, a, h, m⟩
  refine ⟨⟨fun b u e => ?_, by show μ.length = (S.set i c').length; rw [List.length_set]; exact r.len, fun j x e hx => ?_, fun j k cj ck t ej hj ek hk mj mk => ?_⟩, ⟨Mo.refl _ _, Nat.le_refl _, fun b u e n => ⟨?_, fun z => n (nb z)⟩, fun _ _ _ _ h0 => h0⟩⟩
  · exact (upd_ne (ne_of_none e e2)).trans (r.sub _ _ e)
  · rcases old e with ⟨a, b⟩ | ⟨hne, e⟩
    · subst a b
      exact ⟨p, o', e1, e2, upd_same, hn⟩
    · obtain ⟨q', u', a1, a2, a3, a4⟩ := r.cel j x e hx
      have nq : q' ≠ p := fun z => hne (r.ap j i x c q' e hx hi hc a1 (by rw [z]; exact e1))
      exact ⟨q', u', a1, a2, (upd_ne nq).trans a3, a4⟩
  · rcases old ej with ⟨aj, bj⟩ | ⟨nj, aj⟩
    · subst aj
      rcases old ek with ⟨ak, bk⟩ | ⟨nk, ak⟩
      · exact ak.symm
      · exact r.ap _ _ c ck t hi hc ak hk mj mk
    · rcases old ek with ⟨ak, bk⟩ | ⟨nk, ak⟩
      · subst ak
        exact r.ap _ _ cj c t aj hj hi hc mj mk
      · exact r.ap _ _ cj ck t aj hj ak hk mj mk
  · refine (upd_ne fun z => n ?_).trans e
    rw [z]
    exact ⟨i, c, hi, hc, e1⟩
/-- a cell frozen: its object is data's from now on -/
theorem SR.freeze {i : Nat} {p : Addr} {o : HO} {x : Cell} (r : SR K ⟨F, μ, S, H⟩) (hi : S[i]? = some x) (hc : x ≠ .dead) (hp : μ[i]? = some p) (ho : H p = some o) :
    SR K ⟨upd F p o, μ, S.set i .dead, H⟩ ∧ Gw ⟨F, μ, S, H⟩ ⟨upd F p o, μ, S.set i .dead, H⟩ := by
  obtain ⟨q, u, e1, e2, e3, e4⟩ := r.cel i x hi hc
  have eq : p = q := Option.some.inj (hp.symm.trans e1)
  subst eq
  have hl : i < S.length := (List.getElem?_eq_some_iff.mp hi).1
  have g : Mo F (upd F p o) μ μ := ⟨fun b u e => (upd_ne (ne_of_none e e2)).trans e, fun _ _ h => h⟩
  have old : ∀ {j : Nat} {y : Cell}, (S.set i .dead)[j]? = some y → y ≠ .dead → j ≠ i ∧ S[j]? = some y := fun {j y} e hy => by
    by_cases hj : i = j
    · subst hj
      rw [List.getElem?_set_self hl] at e
      exact absurd (Option.some.inj e).symm hy
    · rw [List.getElem?_set_ne hj] at e
      exact ⟨fun z => hj z.symm, e⟩
  refine ⟨⟨fun b u e => ?_, by show μ.length = (S.set i .dead).length; rw [List.length_set]; exact r.len, fun j y e hy => ?_, fun j k cj ck t ej hj ek hk mj mk => ?_⟩, ⟨g, Nat.le_refl _, fun b u e n => ⟨e, fun ⟨j, y, ey, hy, m⟩ => n ⟨j, y, (old ey hy).2, hy, m⟩⟩, fun b u e n h0 => (upd_ne fun z => n ⟨i, x, hi, hc, by rw [z]; exact e1⟩).trans h0⟩⟩
  · have e : upd F p o b = some u := e
    by_cases hb : b = p
    · subst hb; rw [upd_same] at e; cases e; exact ho
    · rw [upd_ne hb] at e; exact r.sub _ _ e
  · obtain ⟨hne, e⟩ := old e hy
    obtain ⟨q', u', a1, a2, a3, a4⟩ := r.cel j y e hy
    have nq : q' ≠ p := fun z => hne (r.ap j i y x q' e hy hi hc a1 (by rw [z]; exact e1))
    exact ⟨q', u', a1, (upd_ne nq).trans a2, a3, a4.mono g⟩
  · exact r.ap j k cj ck t (old ej hj).2 hj (old ek hk).2 hk mj mk
/-- cells dropped: what stays names the first n alone -/
def U.below (n : Nat) : U → Bool
  | .d _ => true
  | .r i => decide (i < n)
def Cell.below (n : Nat) : Cell → Bool
  | .lst xs => xs.all (U.below n)
  | .dK kvs => kvs.all fun p => p.2.below n
  | .ins _ fs => fs.all fun p => p.2.below n
  | .dead => true
theorem RU.below {n : Nat} : ∀ {x : U} {v : V}, RU K F μ x v → x.below n = true → RU K F (μ.take n) x v
  | .d _, _, h, _ => h
  | .r i, _, ⟨p, e, h⟩, hb => ⟨p, e, by rw [List.getElem?_take_of_lt (of_decide_eq_true hb)]; exact h⟩
theorem RUs.below {n : Nat} : ∀ {xs : List U} {vs : List V}, RUs K F μ xs vs → xs.all (U.below n) = true → RUs K F (μ.take n) xs vs
  | [], _, h, _ => h
  | _ :: _, _, ⟨v, r, e, h1, h2⟩, hb => by
    rw [List.all_cons, Bool.and_eq_true] at hb
    exact ⟨v, r, e, h1.below hb.1, RUs.below h2 hb.2⟩
theorem RUf.below {κ : Type} {n : Nat} : ∀ {xs : List (κ × U)} {vs : List (κ × V)}, RUf K F μ xs vs → (xs.all fun p => p.2.below n) = true → RUf K F (μ.take n) xs vs
  | [], _, h, _ => h
  | (_, _) :: _, _, ⟨v, r, e, h1, h2⟩, hb => by
    rw [List.all_cons, Bool.and_eq_true] at hb
    exact ⟨v, r, e, h1.below hb.1, RUf.below h2 hb.2⟩
theorem CR.below {n : Nat} : ∀ {x : Cell} {o : HO}, CR K F μ x o → x.below n = true → CR K F (μ.take n) x o
  | .lst _, _, ⟨vs, e, h⟩, hb => ⟨vs, e, h.below hb⟩
  | .dK _, _, ⟨vs, e, h⟩, hb => ⟨vs, e, h.below hb⟩
  | .ins _ _, _, ⟨dx, vs, e, h⟩, hb => ⟨dx, vs, e, h.below hb⟩
theorem SR.cut {n : Nat} (r : SR K ⟨F, μ, S, H⟩) (hb : (S.take n).all (Cell.below n) = true) : SR K ⟨F, μ.take n, S.take n, H⟩ := by
  have rl : μ.length = S.length := r.len
  have old : ∀ {j : Nat} {y : Cell}, (S.take n)[j]? = some y → S[j]? = some y ∧ j < n := fun {j y} e => by
    have hj := (List.getElem?_eq_some_iff.mp e).1
    have hj' : j < n := by rw [List.length_take] at hj; omega
    rw [List.getElem?_take_of_lt hj'] at e
    exact ⟨e, hj'⟩
  have tk : ∀ {j : Nat}, j < n → (μ.take n)[j]? = μ[j]? := fun {j} h => List.getElem?_take_of_lt h
  refine ⟨r.sub, by simp [rl], fun j y e hy => ?_, fun j k cj ck t ej hj ek hk mj mk => ?_⟩
  · have hbb : y.below n = true := List.all_eq_true.mp hb y (List.mem_of_getElem? e)
    obtain ⟨e, hj⟩ := old e
    obtain ⟨q', u', a1, a2, a3, a4⟩ := r.cel j y e hy
    exact ⟨q', u', (tk hj).trans a1, a2, a3, a4.below hbb⟩
  · obtain ⟨ej', hj'⟩ := old ej
    obtain ⟨ek', hk'⟩ := old ek
    exact r.ap j k cj ck t ej' hj ek' hk ((tk hj').symm.trans mj) ((tk hk').symm.trans mk)
theorem Gw.cut {n : Nat} {c : Cf} (g : Gw c ⟨F, μ, S, H⟩) (hn : c.μ.length = n) : Gw c ⟨F, μ.take n, S.take n, H⟩ := by
  refine ⟨⟨g.m.s, fun i p h => ?_⟩, ?_, fun b o e na => ⟨(g.f b o e na).1, fun ⟨j, y, ey, hy, m⟩ => (g.f b o e na).2 ⟨j, y, ?_, hy, ?_⟩⟩, g.k⟩
  · have hi : i < n := by rw [← hn]; exact (List.getElem?_eq_some_iff.mp h).1
    show (μ.take n)[i]? = some p
    rw [List.getElem?_take_of_lt hi]
    exact g.m.p i p h
  · have z : c.μ.length ≤ μ.length := g.n
    show c.μ.length ≤ (μ.take n).length
    rw [List.length_take]; omega
  · have ey : (S.take n)[j]? = some y := ey
    have hj := (List.getElem?_eq_some_iff.mp ey).1
    rw [List.length_take] at hj
    rw [List.getElem?_take_of_lt (by omega)] at ey
    exact ey
  · have m : (μ.take n)[j]? = some b := m
    have hj := (List.getElem?_eq_some_iff.mp m).1
    rw [List.length_take] at hj
    rw [List.getElem?_take_of_lt (by omega)] at m
    exact m
end

section
variable {K : PySem.W.Frag} {F : Hp} {μ : List Addr} {S : Sto} {H : Hp} {D : Addr} {o o' : HO} {c : Cf}
/-- an object of no one's -/
theorem SR.extra (r : SR K ⟨F, μ, S, H⟩) (h : H D = none) : SR K ⟨F, μ, S, upd H D o⟩ ∧ Gw ⟨F, μ, S, H⟩ ⟨F, μ, S, upd H D o⟩ ∧ ¬ Al μ S D ∧ F D = none := by
  have hF : F D = none := by
    cases q : F D with
    | none => rfl
    | some o' => have z := r.sub _ _ q; rw [show (Cf.H ⟨F, μ, S, H⟩) D = none from h] at z; cases z
  refine ⟨⟨fun b u e => (upd_ne (ne_of_none e hF)).trans (r.sub _ _ e), r.len, fun i x e hx => ?_, r.ap⟩, ⟨Mo.refl _ _, Nat.le_refl _, fun b u e n => ⟨(upd_ne (ne_of_none e h)).trans e, n⟩, fun _ _ _ _ z => z⟩, fun a => ?_, hF⟩
  · obtain ⟨q, u, e1, e2, e3, e4⟩ := r.cel i x e hx
    exact ⟨q, u, e1, e2, (upd_ne (ne_of_none e3 h)).trans e3, e4⟩
  · obtain ⟨_, u, e⟩ := r.al a
    rw [show (Cf.H ⟨F, μ, S, H⟩) D = none from h] at e; cases e
theorem SR.reExtra (r : SR K ⟨F, μ, S, H⟩) (n : ¬ Al μ S D) (hF : F D = none) : SR K ⟨F, μ, S, upd H D o⟩ := by
  refine ⟨fun b u e => (upd_ne (ne_of_none e hF)).trans (r.sub _ _ e), r.len, fun i x e hx => ?_, r.ap⟩
  obtain ⟨q, u, e1, e2, e3, e4⟩ := r.cel i x e hx
  exact ⟨q, u, e1, e2, (upd_ne fun z => n ⟨i, x, e, hx, by rw [← z]; exact e1⟩).trans e3, e4⟩
/-- .. becomes data's -/
theorem SR.adopt (r : SR K ⟨F, μ, S, H⟩) (h : H D = some o) (n : ¬ Al μ S D) (hF : F D = none) : SR K ⟨upd F D o, μ, S, H⟩ ∧ Mo F (upd F D o) μ μ := by
  have g : Mo F (upd F D o) μ μ := ⟨fun b u e => (upd_ne (ne_of_none e hF)).trans e, fun _ _ h => h⟩
  refine ⟨⟨fun b u e => ?_, r.len, fun i x e hx => ?_, r.ap⟩, g⟩
  · have e : upd F D o b = some u := e
    by_cases hb : b = D
    · subst hb; rw [upd_same] at e; cases e; exact h
    · rw [upd_ne hb] at e; exact r.sub _ _ e
  · obtain ⟨q, u, e1, e2, e3, e4⟩ := r.cel i x e hx
    exact ⟨q, u, e1, (upd_ne fun z => n ⟨i, x, e, hx, by rw [← z]; exact e1⟩).trans e2, e3, e4.mono g⟩
/-- .. becomes a cell's -/
theorem SR.adoptC {x : Cell} (r : SR K ⟨F, μ, S, H⟩) (h : H D = some o) (n : ¬ Al μ S D) (hF : F D = none) (hx : CR K F (μ ++ [D]) x o) : SR K ⟨F, μ ++ [D], S ++ [x], H⟩ ∧ Mo F F μ (μ ++ [D]) := by
  have g : Mo F F μ (μ ++ [D]) := ⟨Same.refl F, fun i q h => by rw [List.getElem?_append_left (List.getElem?_eq_some_iff.mp h).1]; exact h⟩
  have rl : μ.length = S.length := r.len
  have old : ∀ {i : Nat} {c' : Cell}, (S ++ [x])[i]? = some c' → (S[i]? = some c' ∧ i < S.length) ∨ (i = S.length ∧ c' = x) := fun {i c'} e => by
    by_cases hi : i < S.length
    · rw [List.getElem?_append_left hi] at e; exact .inl ⟨e, hi⟩
    · rw [List.getElem?_append_right (by omega)] at e
      by_cases h0 : i - S.length = 0
      · rw [h0] at e; exact .inr ⟨by omega, by simpa using e.symm⟩
      · rw [List.getElem?_eq_none (by simp; omega)] at e; cases e
  have oldm : ∀ {i : Nat} {q : Addr}, i < S.length → (μ ++ [D])[i]? = some q → μ[i]? = some q := fun {i q} hi e => by
    rw [List.getElem?_append_left (by omega)] at e; exact e
  have newm : ∀ {q : Addr}, (μ ++ [D])[S.length]? = some q → q = D := fun {q} e => by
    rw [List.getElem?_append_right (by omega)] at e
    simp [rl] at e
    exact e.symm
  refine ⟨⟨r.sub, by simp [rl], fun i c' e h' => ?_, fun i j ci cj q ei hi ej hj mi mj => ?_⟩, g⟩
  · rcases old e with ⟨e, hi⟩ | ⟨e1, e2⟩
    · obtain ⟨q, u, e1, e2, e3, e4⟩ := r.cel i c' e h'
      exact ⟨q, u, g.p _ _ e1, e2, e3, e4.mono g⟩
    · subst e1 e2
      exact ⟨D, o, by show (μ ++ [D])[S.length]? = some D; rw [List.getElem?_append_right (by omega)]; simp [rl], hF, h, hx⟩
  · rcases old ei with ⟨ai, li⟩ | ⟨ai, bi⟩
    · have mi := oldm li mi
      rcases old ej with ⟨aj, lj⟩ | ⟨aj, bj⟩
      · exact r.ap i j ci cj q ai hi aj hj mi (oldm lj mj)
      · subst aj
        have e := newm mj
        exact absurd ⟨i, ci, ai, hi, by rw [← e]; exact mi⟩ n
    · subst ai
      have e := newm mi
      rcases old ej with ⟨aj, lj⟩ | ⟨aj, bj⟩
      · exact absurd ⟨j, cj, aj, hj, by rw [← e]; exact oldm lj mj⟩ n
      · exact aj.symm
theorem Al.push {b : Addr} {x : Cell} (rl : μ.length = S.length) (h : Al (μ ++ [D]) (S ++ [x]) b) : Al μ S b ∨ b = D := by
  obtain ⟨i, c, e, hc, m⟩ := h
  by_cases hi : i < S.length
  · rw [List.getElem?_append_left hi] at e
    rw [List.getElem?_append_left (by omega)] at m
    exact .inl ⟨i, c, e, hc, m⟩
  · rw [List.getElem?_append_right (by omega)] at m
    by_cases h0 : i - μ.length = 0
    · rw [h0] at m; exact .inr (by simpa using m.symm)
    · rw [List.getElem?_eq_none (by simp; omega)] at m; cases m
end

/-! ### results -/
inductive Rs (α : Type) where
  | ok (a : α) (S : Sto) | er (x : Er) (S : Sto) | no
abbrev EvE := En → Sto → Rs U
abbrev EvT := En → Sto → Rs Bool
abbrev EvA := En → Sto → Rs (List U)
inductive RS where
  | nx (e : En) (S : Sto) | rt (x : U) (S : Sto) | bk (e : En) (S : Sto) | ct (e : En) (S : Sto) | er (x : Er) (e : En) (S : Sto) | no
abbrev EvS := En → Sto → RS
def Rs.bd {α β : Type} : Rs α → (α → Sto → Rs β) → Rs β
  | .ok a S, k => k a S
  | .er x S, _ => .er x S
  | .no, _ => .no
@[simp] theorem Rs.bd_ok {α β : Type} (a : α) (S : Sto) (k : α → Sto → Rs β) : (Rs.ok a S).bd k = k a S := rfl
@[simp] theorem Rs.bd_er {α β : Type} (x : Er) (S : Sto) (k : α → Sto → Rs β) : (Rs.er x S : Rs α).bd k = .er x S := rfl
@[simp] theorem Rs.bd_no {α β : Type} (k : α → Sto → Rs β) : (Rs.no : Rs α).bd k = .no := rfl
/-- .. within a statement -/
def Rs.st {α : Type} : Rs α → En → (α → Sto → RS) → RS
  | .ok a S, _, k => k a S
  | .er x S, e, _ => .er x e S
  | .no, _, _ => .no
@[simp] theorem Rs.st_ok {α : Type} (a : α) (S : Sto) (e : En) (k : α → Sto → RS) : (Rs.ok a S).st e k = k a S := rfl
@[simp] theorem Rs.st_er {α : Type} (x : Er) (S : Sto) (e : En) (k : α → Sto → RS) : (Rs.er x S : Rs α).st e k = .er x e S := rfl
@[simp] theorem Rs.st_no {α : Type} (e : En) (k : α → Sto → RS) : (Rs.no : Rs α).st e k = .no := rfl
/-- an error as it lies -/
def RE (K : PySem.W.Frag) (c : Cf) (x : Er) (cls : Value) (d : Option Addr) : Prop := cls = x.cls ∧ ((x.fs = [] ∧ d = none) ∨ ∃ a vs, d = some a ∧ c.H a = some (.xd vs) ∧ ¬ Al c.μ c.S a ∧ RDf K c.F x.fs vs)
def Po {α β : Type} (K : PySem.W.Frag) (c : Cf) (σ : L2.St) (Wx : WX) (R : Cf → α → β → Prop) (Q : β → Hp → Prop) : Rs α → Prop
  | .ok a S => ∀ b F' μ' H', Gw c ⟨F', μ', S, H'⟩ → SR K ⟨F', μ', S, H'⟩ → R ⟨F', μ', S, H'⟩ a b → Q b H'
  | .er x S => ∀ cls d F' μ' H', Gw c ⟨F', μ', S, H'⟩ → SR K ⟨F', μ', S, H'⟩ → RE K ⟨F', μ', S, H'⟩ x cls d → Wx cls d σ H'
  | .no => False
abbrev PoE (K : PySem.W.Frag) (c : Cf) (σ : L2.St) (Wx : WX) (Q : VK) : Rs U → Prop := Po K c σ Wx (fun c => RU K c.F c.μ) Q
abbrev PoT (K : PySem.W.Frag) (c : Cf) (σ : L2.St) (Wx : WX) (Q : Bool → Hp → Prop) : Rs Bool → Prop := Po K c σ Wx (fun _ a b => a = b) Q
abbrev PoA (K : PySem.W.Frag) (c : Cf) (σ : L2.St) (Wx : WX) (Q : List V → Hp → Prop) : Rs (List U) → Prop := Po K c σ Wx (fun c => RUs K c.F c.μ) Q
def PoS (K : PySem.W.Frag) (c : Cf) (Wx : WX) (D : Ends) : RS → Prop
  | .nx e S => ∀ σ' F' μ' H', Gw c ⟨F', μ', S, H'⟩ → SR K ⟨F', μ', S, H'⟩ → ER K ⟨F', μ', S, H'⟩ e σ' → D.nx σ' H'
  | .bk e S => ∀ σ' F' μ' H', Gw c ⟨F', μ', S, H'⟩ → SR K ⟨F', μ', S, H'⟩ → ER K ⟨F', μ', S, H'⟩ e σ' → D.bk σ' H'
  | .ct e S => ∀ σ' F' μ' H', Gw c ⟨F', μ', S, H'⟩ → SR K ⟨F', μ', S, H'⟩ → ER K ⟨F', μ', S, H'⟩ e σ' → D.ct σ' H'
  | .rt x S => ∀ v F' μ' H', Gw c ⟨F', μ', S, H'⟩ → SR K ⟨F', μ', S, H'⟩ → RU K F' μ' x v → D.rt v H'
  | .er x e S => ∀ cls d σ' F' μ' H', Gw c ⟨F', μ', S, H'⟩ → SR K ⟨F', μ', S, H'⟩ → ER K ⟨F', μ', S, H'⟩ e σ' → RE K ⟨F', μ', S, H'⟩ x cls d → Wx cls d σ' H'
  | .no => False
section
variable {K : PySem.W.Frag} {c c' : Cf} {σ : L2.St} {Wx : WX}
theorem Po.later {α β : Type} {R : Cf → α → β → Prop} {Q : β → Hp → Prop} (g : Gw c c') : ∀ {r : Rs α}, Po K c σ Wx R Q r → Po K c' σ Wx R Q r
  | .ok _ _, h => fun b F1 m1 H1 g1 => h b F1 m1 H1 (g.trans g1)
  | .er _ _, h => fun c d F1 m1 H1 g1 => h c d F1 m1 H1 (g.trans g1)
  | .no, h => h
theorem PoS.later {D : Ends} (g : Gw c c') : ∀ {r : RS}, PoS K c Wx D r → PoS K c' Wx D r
  | .nx _ _, h => fun b F1 m1 H1 g1 => h b F1 m1 H1 (g.trans g1)
  | .bk _ _, h => fun b F1 m1 H1 g1 => h b F1 m1 H1 (g.trans g1)
  | .ct _ _, h => fun b F1 m1 H1 g1 => h b F1 m1 H1 (g.trans g1)
  | .rt _ _, h => fun b F1 m1 H1 g1 => h b F1 m1 H1 (g.trans g1)
  | .er _ _ _, h => fun c d s F1 m1 H1 g1 => h c d s F1 m1 H1 (g.trans g1)
  | .no, h => h
/-- one behind another -/
theorem Po.bind {α β γ δ : Type} {R : Cf → α → β → Prop} {R2 : Cf → γ → δ → Prop} {Q2 : δ → Hp → Prop} {Q1 : β → Hp → Prop} {r : Rs α} {k : α → Sto → Rs γ} (h : Po K c σ Wx R2 Q2 (r.bd k))
    (hk : ∀ a b F μ S H, Gw c ⟨F, μ, S, H⟩ → SR K ⟨F, μ, S, H⟩ → R ⟨F, μ, S, H⟩ a b → Po K ⟨F, μ, S, H⟩ σ Wx R2 Q2 (k a S) → Q1 b H) : Po K c σ Wx R Q1 r := by
  cases r with
  | ok a S => exact fun b F' μ' H' g s rr => hk a b F' μ' S H' g s rr (Po.later g h)
  | er x S => exact h
  | no => exact h
theorem Po.bindS {α β : Type} {R : Cf → α → β → Prop} {D : Ends} {Q1 : β → Hp → Prop} {r : Rs α} {env : En} {k : α → Sto → RS} (er : ER K c env σ) (h : PoS K c Wx D (r.st env k))
    (hk : ∀ a b F μ S H, Gw c ⟨F, μ, S, H⟩ → SR K ⟨F, μ, S, H⟩ → R ⟨F, μ, S, H⟩ a b → PoS K ⟨F, μ, S, H⟩ Wx D (k a S) → Q1 b H) : Po K c σ Wx R Q1 r := by
  cases r with
  | ok a S => exact fun b F' μ' H' g s rr => hk a b F' μ' S H' g s rr (PoS.later g h)
  | er x S => exact fun cls d F' μ' H' g s re => h cls d σ F' μ' H' g s (ER.mono g er) re
  | no => exact h
theorem Po.done {α β : Type} {R : Cf → α → β → Prop} {Q : β → Hp → Prop} {F μ S H a b} (h : Po K ⟨F, μ, S, H⟩ σ Wx R Q (.ok a S)) (r : SR K ⟨F, μ, S, H⟩) (hr : R ⟨F, μ, S, H⟩ a b) : Q b H := h b F μ H (Gw.refl _) r hr
end

/-! ### the judgements -/
structure FE (X : Cx) (Wx : WX) (e : Expr) (a : EvE) : Prop where
  ex : ∃ t, PE X e t ∧ ∀ F μ S H σ env, SR X.K ⟨F, μ, S, H⟩ → ER X.K ⟨F, μ, S, H⟩ env σ → ∀ Q, PoE X.K ⟨F, μ, S, H⟩ σ Wx Q (a env S) → t σ H Q
structure FT (X : Cx) (Wx : WX) (e : Expr) (a : EvT) : Prop where
  ex : ∃ t, PT X e t ∧ ∀ F μ S H σ env, SR X.K ⟨F, μ, S, H⟩ → ER X.K ⟨F, μ, S, H⟩ env σ → ∀ Q, PoT X.K ⟨F, μ, S, H⟩ σ Wx Q (a env S) → t σ H Q
structure FW (X : Cx) (Wx : WX) (e : Expr) (a : EvT) : Prop where
  ex : ∃ t, PW X e t ∧ ∀ F μ S H σ env, SR X.K ⟨F, μ, S, H⟩ → ER X.K ⟨F, μ, S, H⟩ env σ → ∀ Q, PoT X.K ⟨F, μ, S, H⟩ σ Wx Q (a env S) → t σ H Q
structure FA (X : Cx) (Wx : WX) (es : List Expr) (a : EvA) : Prop where
  ex : ∃ t, PA X es t ∧ ∀ F μ S H σ env, SR X.K ⟨F, μ, S, H⟩ → ER X.K ⟨F, μ, S, H⟩ env σ → ∀ Q, PoA X.K ⟨F, μ, S, H⟩ σ Wx Q (a env S) → t σ H Q
structure FS (X : Cx) (Wx : WX) (st : Stmt) (a : EvS) : Prop where
  ex : ∃ t, PS X st t ∧ ∀ F μ S H σ env, SR X.K ⟨F, μ, S, H⟩ → ER X.K ⟨F, μ, S, H⟩ env σ → ∀ D, PoS X.K ⟨F, μ, S, H⟩ Wx D (a env S) → t D σ H
structure FSs (X : Cx) (Wx : WX) (st : List Stmt) (a : EvS) : Prop where
  ex : ∃ t, PSs X st t ∧ ∀ F μ S H σ env, SR X.K ⟨F, μ, S, H⟩ → ER X.K ⟨F, μ, S, H⟩ env σ → ∀ D, PoS X.K ⟨F, μ, S, H⟩ Wx D (a env S) → t D σ H
/-- a target of an assignment; it raises nothing; is: the slots that it stores -/
abbrev EvG := U → En → Sto → Rs En
structure FG (X : Cx) (Wx : WX) (e : Expr) (is : List Nat) (a : EvG) : Prop where
  ex : ∃ t, PG X e t ∧ ∀ F μ S H σ env, SR X.K ⟨F, μ, S, H⟩ → ER X.K ⟨F, μ, S, H⟩ env σ → ∀ u v, RU X.K F μ u v → ∀ Q, Po X.K ⟨F, μ, S, H⟩ σ Wx (fun c e s => ER X.K c e s ∧ ∀ vs, (∀ i ∈ is, i ∈ vs) → wipe s vs = wipe σ vs) Q (a u env S) → t v σ H Q
/-! the canonical readings -/
def cE (K : PySem.W.Frag) (Wx : WX) (a : EvE) : TE := fun σ H Q => ∃ F μ S env, SR K ⟨F, μ, S, H⟩ ∧ ER K ⟨F, μ, S, H⟩ env σ ∧ PoE K ⟨F, μ, S, H⟩ σ Wx Q (a env S)
def cT (K : PySem.W.Frag) (Wx : WX) (a : EvT) : TT := fun σ H Q => ∃ F μ S env, SR K ⟨F, μ, S, H⟩ ∧ ER K ⟨F, μ, S, H⟩ env σ ∧ PoT K ⟨F, μ, S, H⟩ σ Wx Q (a env S)
def cG (K : PySem.W.Frag) (Wx : WX) (is : List Nat) (a : EvG) : TG := fun v σ H Q => ∃ F μ S env u, SR K ⟨F, μ, S, H⟩ ∧ ER K ⟨F, μ, S, H⟩ env σ ∧ RU K F μ u v ∧ Po K ⟨F, μ, S, H⟩ σ Wx (fun c e s => ER K c e s ∧ ∀ vs, (∀ i ∈ is, i ∈ vs) → wipe s vs = wipe σ vs) Q (a u env S)
theorem FE.can {X : Cx} {Wx : WX} {e : Expr} {a : EvE} (h : FE X Wx e a) : PE X e (cE X.K Wx a) := by
  obtain ⟨t, h1, h2⟩ := h
  exact ⟨fun pins s σ H Q I ⟨F, μ, S, env, r, er, p⟩ => h1.run pins s σ H Q I (h2 _ _ _ _ _ _ r er Q p)⟩
theorem FG.can {X : Cx} {Wx : WX} {e : Expr} {is : List Nat} {a : EvG} (h : FG X Wx e is a) : PG X e (cG X.K Wx is a) := by
  obtain ⟨t, h1, h2⟩ := h
  exact ⟨fun pins s σ H v u Q I rv ⟨F, μ, S, env, x, r, er, ux, p⟩ => h1.run pins s σ H v u Q I rv (h2 _ _ _ _ _ _ r er x v ux Q p)⟩
end Mi

namespace Mi
open PySem PySem.Spec PyProof.Rows L2

/-! ### sequences -/
def allD : List U → Option (List D)
  | [] => some []
  | .d x :: r => (allD r).map (x :: ·)
  | .r _ :: _ => none
@[simp] theorem allD_map : ∀ xs : List D, allD (xs.map U.d) = some xs
  | [] => rfl
  | x :: xs => by simp [allD, allD_map xs]
theorem allD_ok : ∀ {ws : List U} {xs : List D}, allD ws = some xs → ws = xs.map U.d
  | [], xs, h => by
    have e : ([] : List D) = xs := Option.some.inj h
    rw [← e]; rfl
  | .d x :: r, xs, h => by
    unfold allD at h
    cases q : allD r with
    | none => rw [q] at h; cases h
    | some ys =>
      rw [q] at h
      have e : x :: ys = xs := Option.some.inj h
      rw [← e, allD_ok q]; rfl
  | .r _ :: _, _, h => by cases h
def cellL (S : Sto) (i : Nat) : Option (List U) := match S[i]? with
  | some (.lst ws) => some ws
  | _ => none
def lstU (S : Sto) : U → Option (List U)
  | .d (.lst xs) => some (xs.map U.d)
  | .r i => cellL S i
  | _ => none
def tupU : U → Option (List U)
  | .d (.tup xs) => some (xs.map U.d)
  | _ => none
def seqU (S : Sto) : U → Option (List U)
  | .d (.lst xs) => some (xs.map U.d)
  | .d (.tup xs) => some (xs.map U.d)
  | .r i => cellL S i
  | _ => none
def lstD (S : Sto) (x : U) : Option (List D) := (lstU S x).bind allD
section
variable {K : PySem.W.Frag} {c : Cf} {F : Hp} {μ : List Addr} {S : Sto} {H : Hp} {x : U} {v : V} {ws : List U}
theorem cellL_ok {i : Nat} (r : SR K c) (h : cellL c.S i = some ws) : ∃ p vs, c.μ[i]? = some p ∧ c.H p = some (.lst vs) ∧ RUs K c.F c.μ ws vs ∧ c.S[i]? = some (.lst ws) := by
  unfold cellL at h
  split at h
  · rename_i w e
    cases h
    obtain ⟨p, o, a1, a2, a3, a4⟩ := r.cel i _ e (by intro z; cases z)
    obtain ⟨vs, rfl, a5⟩ := a4
    exact ⟨p, vs, a1, a3, a5, e⟩
  · cases h
theorem lstU_ok (r : SR K c) (hx : RU K c.F c.μ x v) (h : lstU c.S x = some ws) : ∃ p vs, v = .ref p ∧ c.H p = some (.lst vs) ∧ RUs K c.F c.μ ws vs := by
  unfold lstU at h
  split at h
  · cases h
    obtain ⟨a, vs, rfl, h1, h2⟩ := (show ∃ a vs, v = .ref a ∧ c.F a = some (.lst vs) ∧ RDs K c.F _ vs from hx)
    exact ⟨a, vs, rfl, r.sub _ _ h1, RDs.u h2⟩
  · obtain ⟨p, vs, a1, a2, a3, _⟩ := cellL_ok r h
    obtain ⟨q, rfl, e⟩ := (show ∃ p, v = .ref p ∧ c.μ[_]? = some p from hx)
    rw [a1] at e; cases e
    exact ⟨p, vs, rfl, a2, a3⟩
  · cases h
theorem tupU_ok (r : SR K c) (hx : RU K c.F c.μ x v) (h : tupU x = some ws) : ∃ p vs, v = .ref p ∧ SqT K c.H p vs ∧ RUs K c.F c.μ ws vs := by
  unfold tupU at h
  split at h
  · cases h
    obtain ⟨a, vs, rfl, h1, h2⟩ := (show ∃ a vs, v = .ref a ∧ TpA K c.F a vs ∧ RDs K c.F _ vs from hx)
    exact ⟨a, vs, rfl, h1.sq r.sub, RDs.u h2⟩
  · cases h
theorem seqU_ok (r : SR K c) (hx : RU K c.F c.μ x v) (h : seqU c.S x = some ws) : ∃ p vs, v = .ref p ∧ (SqL K c.H p vs ∨ SqT K c.H p vs) ∧ RUs K c.F c.μ ws vs := by
  unfold seqU at h
  split at h
  · obtain ⟨p, vs, a, b, d⟩ := lstU_ok (ws := ws) r hx h
    exact ⟨p, vs, a, .inl (SqL.of b), d⟩
  · obtain ⟨p, vs, a, b, d⟩ := tupU_ok (ws := ws) r hx h
    exact ⟨p, vs, a, .inr b, d⟩
  · obtain ⟨p, vs, a, b, d⟩ := lstU_ok (ws := ws) r hx h
    exact ⟨p, vs, a, .inl (SqL.of b), d⟩
  · cases h
theorem lstD_ok {xs : List D} (r : SR K c) (hx : RU K c.F c.μ x v) (h : lstD c.S x = some xs) : ∃ p vs, v = .ref p ∧ c.H p = some (.lst vs) ∧ RDs K c.F xs vs := by
  unfold lstD at h
  cases q : lstU c.S x with
  | none => rw [q] at h; cases h
  | some ws =>
    rw [q] at h
    obtain ⟨p, vs, a, b, d⟩ := lstU_ok r hx q
    rw [allD_ok (show allD ws = some xs from h)] at d
    exact ⟨p, vs, a, b, RDs.of_u d⟩
theorem RDs.append : ∀ {xs ys : List D} {vs ws : List V}, RDs K F xs vs → RDs K F ys ws → RDs K F (xs ++ ys) (vs ++ ws)
  | [], _, _, _, rfl, h => h
  | _ :: _, _, _, _, ⟨v, r, rfl, h1, h2⟩, h => ⟨v, _, rfl, h1, RDs.append h2 h⟩
theorem RDs.length : ∀ {xs : List D} {vs : List V}, RDs K F xs vs → vs.length = xs.length
  | [], _, rfl => rfl
  | _ :: _, _, ⟨_, _, rfl, _, h2⟩ => congrArg Nat.succ (RDs.length h2)
theorem RDs.ints : ∀ {ns : List Int} {vs : List V}, RDs K F (ns.map D.int) vs → vs = ns.map V.int
  | [], _, h => h
  | n :: ns, _, ⟨v, r, e, h1, h2⟩ => by
    have e1 : v = V.int n := h1
    rw [e, e1, RDs.ints h2]; rfl
theorem RDs.of_ints : ∀ (ns : List Int), RDs K F (ns.map D.int) (ns.map V.int)
  | [] => rfl
  | n :: ns => ⟨_, _, rfl, rfl, RDs.of_ints ns⟩
theorem same_upd {p : Addr} {o : HO} (hp : F p = none) : Same F (upd F p o) := fun b u e => by rw [upd_ne (ne_of_none e hp)]; exact e
theorem SR.fnone {p : Addr} (r : SR K ⟨F, μ, S, H⟩) (hp : H p = none) : F p = none := by
  cases q : F p with
  | none => rfl
  | some o' => have z := r.sub _ _ q; rw [show (Cf.H ⟨F, μ, S, H⟩) p = none from hp] at z; cases z
/-- a new datum -/
theorem newD {p : Addr} {o : HO} {y : D} {σ : L2.St} {Wx : WX} {Q : VK} (h : PoE K ⟨F, μ, S, H⟩ σ Wx Q (.ok (.d y) S)) (r : SR K ⟨F, μ, S, H⟩) (hp : H p = none) (hx : Same F (upd F p o) → RD K (upd F p o) y (.ref p)) : Q (.ref p) (upd H p o) := by
  obtain ⟨r', g⟩ := r.data (o := o) hp
  exact h (.ref p) _ _ _ g r' (hx (same_upd (r.fnone hp)))
theorem newTup {p : Addr} {xs : List D} {vs : List V} {σ : L2.St} {Wx : WX} {Q : VK} (h : PoE K ⟨F, μ, S, H⟩ σ Wx Q (.ok (.d (.tup xs)) S)) (r : SR K ⟨F, μ, S, H⟩) (hp : H p = none) (hx : RDs K F xs vs) : Q (.ref p) (upd H p (.tup vs)) :=
  newD h r hp fun e => ⟨p, vs, rfl, .inl upd_same, hx.mono e⟩
theorem newLst {p : Addr} {xs : List D} {vs : List V} {σ : L2.St} {Wx : WX} {Q : VK} (h : PoE K ⟨F, μ, S, H⟩ σ Wx Q (.ok (.d (.lst xs)) S)) (r : SR K ⟨F, μ, S, H⟩) (hp : H p = none) (hx : RDs K F xs vs) : Q (.ref p) (upd H p (.lst vs)) :=
  newD h r hp fun e => ⟨p, vs, rfl, upd_same, hx.mono e⟩
/-- a new cell -/
theorem newCell {p : Addr} {ws : List U} {vs : List V} {σ : L2.St} {Wx : WX} {Q : VK} (h : PoE K ⟨F, μ, S, H⟩ σ Wx Q (.ok (.r S.length) (S ++ [.lst ws]))) (r : SR K ⟨F, μ, S, H⟩) (hp : H p = none) (hx : RUs K F μ ws vs) : Q (.ref p) (upd H p (.lst vs)) := by
  obtain ⟨r', g⟩ := r.cell (o := .lst vs) (c := .lst ws) hp ⟨vs, rfl, hx.mono ⟨Same.refl F, fun i q h => by rw [List.getElem?_append_left (List.getElem?_eq_some_iff.mp h).1]; exact h⟩⟩
  refine h (.ref p) _ _ _ g r' ⟨p, rfl, ?_⟩
  have rl : μ.length = S.length := r.len
  show (μ ++ [p])[S.length]? = some p
  rw [List.getElem?_append_right (by omega)]; simp [rl]
end

/-! ### names, constants -/
section
variable {X : Cx} {Wx : WX} {pos : Pos}
def eVar (i : Nat) : EvE := fun env S => match env[i]? with
  | some (some w) => .ok w S
  | _ => .no
theorem fe_var (i : Nat) {x : Str} (hN : X.N[i]? = some x := by rfl) (hv : Vis X.env.scope x := by first | exact Or.inl rfl | exact Or.inr (Or.inl rfl) | exact Or.inr (Or.inr rfl)) (hd : (x == ("__debug__" : Str)) = false := by decide)
    (hcd : (x == ("__classdict__" : Str)) = false := by decide) : FE X Wx (.Name x pos) (eVar i) :=
  ⟨tVar i, pe_var hN hv hd hcd, fun F μ S H σ env r er Q h => by
    unfold eVar at h
    split at h
    · rename_i w e
      obtain ⟨v, e1, e2⟩ := er.2 i w e
      exact ⟨v, e1, h.done r e2⟩
    · exact h.elim⟩
def eC (x : D) : EvE := fun _ S => .ok (.d x) S
theorem fe_int {i : Int} {j : Nat} : FE X Wx (.Constant (.int i) j pos) (eC (.int i)) := ⟨_, pe_int, fun F μ S H σ env r er Q h => h.done r rfl⟩
theorem fe_bl {b : Bool} {j : Nat} : FE X Wx (.Constant (.bool b) j pos) (eC (.bl b)) := ⟨_, pe_bl, fun F μ S H σ env r er Q h => h.done r rfl⟩
theorem fe_non {j : Nat} : FE X Wx (.Constant .none j pos) (eC .non) := ⟨_, pe_non, fun F μ S H σ env r er Q h => h.done r rfl⟩
theorem fe_str {x : Str} {j : Nat} : FE X Wx (.Constant (.str x) j pos) (eC (.str x)) := ⟨_, pe_str, fun F μ S H σ env r er Q h => h.done r rfl⟩
/-- a module's name: what K tells of it -/
theorem fe_glob {x : Str} {d : D} {v : V} {u : Value} (hg : Gl X x) (hm : X.mg x = some u) (rv : RelV v u) (rd : ∀ F, RD X.K F d v) (hd : (x == ("__debug__" : Str)) = false := by decide) : FE X Wx (.Name x pos) (eC d) :=
  ⟨_, pe_glob hg hm rv hd, fun F μ S H σ env r er Q h => h.done r (rd F)⟩

/-! ### operators by values -/
abbrev Ov := U → U → Sto → Rs U
structure FO (X : Cx) (g : Value → Value → Sem Value) (f : Ov) : Prop where
  ex : ∃ r, OpR X g r ∧ ∀ F μ S H σ Wx x y v w, SR X.K ⟨F, μ, S, H⟩ → RU X.K F μ x v → RU X.K F μ y w → ∀ Q, PoE X.K ⟨F, μ, S, H⟩ σ Wx Q (f x y S) → r v w H Q
def eBin (f : Ov) (a b : EvE) : EvE := fun env S => (a env S).bd fun x S1 => (b env S1).bd fun y S2 => f x y S2
section
variable {a b e : Expr} {fa fb fc : EvE} {f : Ov}
/-- two expressions in a row -/
theorem two {ta tb : TE} {F : Hp} {μ : List Addr} {S : Sto} {H : Hp} {σ : L2.St} {env : En} {γ δ : Type} {R2 : Cf → γ → δ → Prop} {Q2 : δ → Hp → Prop} {k : U → U → Sto → Rs γ} {G : V → V → Hp → Prop}
    (ha : ∀ F μ S H σ env, SR X.K ⟨F, μ, S, H⟩ → ER X.K ⟨F, μ, S, H⟩ env σ → ∀ Q, PoE X.K ⟨F, μ, S, H⟩ σ Wx Q (fa env S) → ta σ H Q)
    (hb : ∀ F μ S H σ env, SR X.K ⟨F, μ, S, H⟩ → ER X.K ⟨F, μ, S, H⟩ env σ → ∀ Q, PoE X.K ⟨F, μ, S, H⟩ σ Wx Q (fb env S) → tb σ H Q)
    (r : SR X.K ⟨F, μ, S, H⟩) (er : ER X.K ⟨F, μ, S, H⟩ env σ) (h : Po X.K ⟨F, μ, S, H⟩ σ Wx R2 Q2 ((fa env S).bd fun x S1 => (fb env S1).bd fun y S2 => k x y S2))
    (hk : ∀ x y v w F μ S H, SR X.K ⟨F, μ, S, H⟩ → ER X.K ⟨F, μ, S, H⟩ env σ → RU X.K F μ x v → RU X.K F μ y w → Po X.K ⟨F, μ, S, H⟩ σ Wx R2 Q2 (k x y S) → G v w H) : ta σ H fun v H1 => tb σ H1 fun w H2 => G v w H2 := by
  refine ha _ _ _ _ _ env r er _ (Po.bind h fun x v F1 m1 S1 H1 g1 r1 u1 h1 => ?_)
  refine hb _ _ _ _ _ env r1 (er.mono g1) _ (Po.bind h1 fun y w F2 m2 S2 H2 g2 r2 u2 h2 => ?_)
  exact hk x y v w _ _ _ _ r2 ((er.mono g1).mono g2) (u1.mono g2.m) u2 h2
theorem fe_bin {op : Operator} (ho : FO X (binaryOp op) f) (ha : FE X Wx a fa) (hb : FE X Wx b fb) : FE X Wx (.BinOp a op b pos) (eBin f fa fb) := by
  obtain ⟨r, o1, o2⟩ := ho
  obtain ⟨ta, a1, a2⟩ := ha
  obtain ⟨tb, b1, b2⟩ := hb
  exact ⟨_, pe_op o1 a1 b1, fun F μ S H σ env r er Q h => two a2 b2 r er h fun x y v w F μ S H r er ux uy h => o2 _ _ _ _ _ _ _ _ _ _ r ux uy _ h⟩
theorem fe_cmp {op : CmpOp} (ho : FO X (compareOp op) f) (ha : FE X Wx a fa) (hb : FE X Wx b fb) (hm : behindInMarks op b = false) : FE X Wx (.Compare a [op] [b] pos) (eBin f fa fb) := by
  obtain ⟨r, o1, o2⟩ := ho
  obtain ⟨ta, a1, a2⟩ := ha
  obtain ⟨tb, b1, b2⟩ := hb
  exact ⟨_, pe_cmpR o1 a1 b1 hm, fun F μ S H σ env r er Q h => two a2 b2 r er h fun x y v w F μ S H r er ux uy h => o2 _ _ _ _ _ _ _ _ _ _ r ux uy _ h⟩
/-- the truth of a value that is a bool -/
def toB : U → Sto → Rs Bool
  | .d (.bl b), S => .ok b S
  | _, _ => .no
def tB1 (a : EvE) : EvT := fun env S => (a env S).bd toB
theorem toB_ok {K : PySem.W.Frag} {c : Cf} {σ : L2.St} {Q : Bool → Hp → Prop} {x : U} {v : V} {F μ S H} (r : SR K ⟨F, μ, S, H⟩) (hx : RU K F μ x v) (h : PoT K ⟨F, μ, S, H⟩ σ Wx Q (toB x S)) : ∃ k, v = .bl k ∧ Q k H := by
  unfold toB at h
  split at h
  · exact ⟨_, hx, h.done r rfl⟩
  · exact h.elim
theorem ft_cmp {op : CmpOp} (ho : FO X (compareOp op) f) (ha : FE X Wx a fa) (hb : FE X Wx b fb) (hm : behindInMarks op b = false) : FT X Wx (.Compare a [op] [b] pos) (tB1 (eBin f fa fb)) := by
  obtain ⟨r, o1, o2⟩ := ho
  obtain ⟨ta, a1, a2⟩ := ha
  obtain ⟨tb, b1, b2⟩ := hb
  refine ⟨_, pt_cmpR o1 a1 b1 hm, fun F μ S H σ env r er Q h => ?_⟩
  have h' : PoT X.K ⟨F, μ, S, H⟩ σ Wx Q ((fa env S).bd fun x S1 => (fb env S1).bd fun y S2 => (f x y S2).bd toB) := by
    have e : tB1 (eBin f fa fb) env S = (fa env S).bd fun x S1 => (fb env S1).bd fun y S2 => (f x y S2).bd toB := by
      show ((fa env S).bd fun x S1 => (fb env S1).bd fun y S2 => f x y S2).bd toB = _
      cases fa env S with
      | ok x S1 => show ((fb env S1).bd fun y S2 => f x y S2).bd toB = (fb env S1).bd fun y S2 => (f x y S2).bd toB; cases fb env S1 <;> rfl
      | er _ _ => rfl
      | no => rfl
    rw [e] at h; exact h
  exact two a2 b2 r er h' fun x y v w F μ S H r er ux uy h => o2 _ _ _ _ _ _ _ _ _ _ r ux uy _ (Po.bind h fun z zv F μ S H g r uz h => toB_ok (c := ⟨F, μ, S, H⟩) r uz h)
/-- an expression whose value is a bool, as a test -/
theorem ft_val (ha : FE X Wx e fa) (he : ∀ whole, isTrue e X.env whole = (do let v ← whole; standAt e.pos; holding [v] (truthy v)) := by intro _; rfl) : FT X Wx e (tB1 fa) := by
  obtain ⟨ta, a1, a2⟩ := ha
  exact ⟨_, pt_val a1 he, fun F μ S H σ env r er Q h => a2 _ _ _ _ _ env r er _ (Po.bind h fun x v F μ S H g r u h => toB_ok (c := ⟨F, μ, S, H⟩) r u h)⟩
end

/-! ### arithmetic -/
def oAdd : Ov
  | .d (.int i), .d (.int j), S => .ok (.d (.int (i + j))) S
  | .d (.str a), .d (.str b), S => if a.length + b.length ≤ sizeLine then .ok (.d (.str (a ++ b))) S else .no
  | .d (.tup a), .d (.tup b), S => if a.length + b.length ≤ sizeLine then .ok (.d (.tup (a ++ b))) S else .no
  | x, y, S => match lstD S x, lstD S y with
    | some a, some b => if a.length + b.length ≤ sizeLine then .ok (.d (.lst (a ++ b))) S else .no
    | _, _ => .no
theorem o_add : FO X (binaryOp .Add) oAdd := by
  refine ⟨_, op_add.or (op_add_str.or (op_catA.or op_cat)), fun F μ S H σ Wx x y v w r ux uy Q h => ?_⟩
  unfold oAdd at h
  split at h
  · exact .inl ⟨_, _, ux, uy, h.done r rfl⟩
  · split at h
    · rename_i hl
      exact .inr (.inl ⟨_, _, ux, uy, hl, h.done r rfl⟩)
    · exact h.elim
  · rename_i a b
    split at h
    · rename_i hl
      refine .inr (.inr (.inl ?_))
      obtain ⟨p, vs, rfl, h1, h2⟩ := (show ∃ a' vs, v = .ref a' ∧ TpA X.K F a' vs ∧ RDs X.K F a vs from ux)
      obtain ⟨q, ws, rfl, k1, k2⟩ := (show ∃ a' vs, w = .ref a' ∧ TpA X.K F a' vs ∧ RDs X.K F b vs from uy)
      have l1 := h2.length
      have l2 := k2.length
      refine ⟨p, q, vs, ws, rfl, rfl, h1.sq r.sub, k1.sq r.sub, by omega, fun e => ?_, fun _ e => ?_, fun _ _ t ht => ?_⟩
      · subst e
        have : a = [] := List.length_eq_zero_iff.mp l1.symm
        subst this
        exact h.done r ⟨q, ws, rfl, k1, k2⟩
      · subst e
        have : b = [] := List.length_eq_zero_iff.mp l2.symm
        subst this
        rw [List.append_nil] at h
        exact h.done r ⟨p, vs, rfl, h1, h2⟩
      · exact newTup h r ht (h2.append k2)
    · exact h.elim
  · split at h
    · rename_i a b ea eb
      split at h
      · rename_i hl
        refine .inr (.inr (.inr ?_))
        obtain ⟨p, vs, rfl, h1, h2⟩ := lstD_ok (c := ⟨F, μ, S, H⟩) r ux ea
        obtain ⟨q, ws, rfl, k1, k2⟩ := lstD_ok (c := ⟨F, μ, S, H⟩) r uy eb
        have l1 := h2.length
        have l2 := k2.length
        exact ⟨p, q, vs, ws, rfl, rfl, h1, k1, by omega, fun t ht => newLst h r ht (h2.append k2)⟩
      · exact h.elim
    · exact h.elim
def oSub : Ov
  | .d (.int i), .d (.int j), S => .ok (.d (.int (i - j))) S
  | _, _, _ => .no
theorem o_sub : FO X (binaryOp .Sub) oSub := by
  refine ⟨_, op_sub, fun F μ S H σ Wx x y v w r ux uy Q h => ?_⟩
  unfold oSub at h
  split at h
  · exact ⟨_, _, ux, uy, h.done r rfl⟩
  · exact h.elim
def mulOk (i j : Int) : Prop := ((-(2 ^ 64) < i ∧ i < 2 ^ 64) ∨ (-(2 ^ 64) < j ∧ j < 2 ^ 64)) ∨ i.natAbs.log2 + j.natAbs.log2 < 1000000
instance (i j : Int) : Decidable (mulOk i j) := by unfold mulOk; exact inferInstance
def oMul : Ov
  | .d (.int i), .d (.int j), S => if mulOk i j then .ok (.d (.int (i * j))) S else .no
  | x, .d (.int k), S => match lstD S x with
    | some a => if -(2 ^ 63) ≤ k ∧ k < 2 ^ 63 ∧ a.length * k.toNat ≤ sizeLine then .ok (.d (.lst (List.replicate k.toNat a).flatten)) S else .no
    | none => .no
  | _, _, _ => .no
theorem RDs.rep {K : PySem.W.Frag} {F : Hp} {xs : List D} {vs : List V} (h : RDs K F xs vs) : ∀ n : Nat, RDs K F (List.replicate n xs).flatten (List.replicate n vs).flatten
  | 0 => rfl
  | n + 1 => by
    rw [List.replicate_succ, List.replicate_succ, List.flatten_cons, List.flatten_cons]
    exact h.append (RDs.rep h n)
theorem o_mul : FO X (binaryOp .Mult) oMul := by
  refine ⟨_, op_mul.or (op_mulW.or op_rep), fun F μ S H σ Wx x y v w r ux uy Q h => ?_⟩
  unfold oMul at h
  split at h
  · split at h
    · rename_i hl
      rcases hl with hl | hl
      · exact .inl ⟨_, _, ux, uy, hl, h.done r rfl⟩
      · exact .inr (.inl ⟨_, _, ux, uy, hl, h.done r rfl⟩)
    · exact h.elim
  · split at h
    · rename_i a ea
      split at h
      · rename_i hl
        obtain ⟨p, vs, rfl, h1, h2⟩ := lstD_ok (c := ⟨F, μ, S, H⟩) r ux ea
        have l1 := h2.length
        exact .inr (.inr ⟨p, _, vs, rfl, uy, h1, hl.1, hl.2.1, by rw [l1]; exact hl.2.2, fun t ht => newLst h r ht (h2.rep _)⟩)
      · exact h.elim
    · exact h.elim
  · exact h.elim
def fdivOk (j : Int) : Prop := 0 < j ∧ j.natAbs.log2 < 9000
instance (j : Int) : Decidable (fdivOk j) := by unfold fdivOk; exact inferInstance
def oFdv : Ov
  | .d (.int i), .d (.int j), S => if fdivOk j then .ok (.d (.int (i / j))) S else if j ≠ 0 ∧ j.natAbs < 1073741824 then .ok (.d (.int (i.fdiv j))) S else .no
  | _, _, _ => .no
theorem o_fdv : FO X (binaryOp .FloorDiv) oFdv := by
  refine ⟨_, op_fdivW.or op_fdivN, fun F μ S H σ Wx x y v w r ux uy Q h => ?_⟩
  unfold oFdv at h
  split at h
  · split at h
    · rename_i hl
      exact .inl ⟨_, _, ux, uy, hl, h.done r rfl⟩
    · split at h
      · rename_i hl
        exact .inr ⟨_, _, ux, uy, hl, h.done r rfl⟩
      · exact h.elim
  · exact h.elim
def oMod : Ov
  | .d (.int i), .d (.int j), S => if 0 < j then .ok (.d (.int (i % j))) S else if j ≠ 0 then .ok (.d (.int (i.fmod j))) S else .no
  | _, _, _ => .no
theorem o_mod : FO X (binaryOp .Mod) oMod := by
  refine ⟨_, op_mod.or op_modN, fun F μ S H σ Wx x y v w r ux uy Q h => ?_⟩
  unfold oMod at h
  split at h
  · split at h
    · rename_i hl
      exact .inl ⟨_, _, ux, uy, hl, h.done r rfl⟩
    · split at h
      · rename_i hl
        exact .inr ⟨_, _, ux, uy, hl, h.done r rfl⟩
      · exact h.elim
  · exact h.elim
def oPow : Ov
  | .d (.int i), .d (.int j), S => if 0 ≤ j ∧ j ≤ 1000000 ∧ i.natAbs < 2 ^ 64 then .ok (.d (.int (i ^ j.toNat))) S else .no
  | _, _, _ => .no
theorem o_pow : FO X (binaryOp .Pow) oPow := by
  refine ⟨_, op_pow, fun F μ S H σ Wx x y v w r ux uy Q h => ?_⟩
  unfold oPow at h
  split at h
  · split at h
    · rename_i hl
      exact ⟨_, _, ux, uy, hl, h.done r rfl⟩
    · exact h.elim
  · exact h.elim
def eNeg (a : EvE) : EvE := fun env S => (a env S).bd fun x S1 => match x with
  | .d (.int i) => .ok (.d (.int (-i))) S1
  | _ => .no
theorem fe_neg {a : Expr} {fa : EvE} (ha : FE X Wx a fa) : FE X Wx (.UnaryOp .USub a pos) (eNeg fa) := by
  obtain ⟨ta, a1, a2⟩ := ha
  refine ⟨_, pe_un un_neg a1, fun F μ S H σ env r er Q h => a2 _ _ _ _ _ env r er _ (Po.bind h fun x v F μ S H g r u h => ?_)⟩
  split at h
  · exact ⟨_, u, h.done r rfl⟩
  · exact h.elim

/-! ### comparisons -/
def oCmpI (p : Int → Int → Bool) : Ov
  | .d (.int i), .d (.int j), S => .ok (.d (.bl (p i j))) S
  | _, _, _ => .no
theorem o_cmpI {op : CmpOp} {p : Int → Int → Bool} (ho : OpR X (compareOp op) (rI0 fun i j => .bl (p i j))) : FO X (compareOp op) (oCmpI p) := by
  refine ⟨_, ho, fun F μ S H σ Wx x y v w r ux uy Q h => ?_⟩
  unfold oCmpI at h
  split at h
  · exact ⟨_, _, ux, uy, h.done r rfl⟩
  · exact h.elim
abbrev oLt : Ov := oCmpI fun i j => decide (i < j)
abbrev oLe : Ov := oCmpI fun i j => decide (i ≤ j)
abbrev oGt : Ov := oCmpI fun i j => decide (j < i)
abbrev oGe : Ov := oCmpI fun i j => decide (j ≤ i)
theorem o_lt : FO X (compareOp .Lt) oLt := o_cmpI op_lt
theorem o_le : FO X (compareOp .LtE) oLe := o_cmpI op_le
theorem o_gt : FO X (compareOp .Gt) oGt := o_cmpI op_gt
theorem o_ge : FO X (compareOp .GtE) oGe := o_cmpI op_ge
end
end Mi

namespace Mi
open PySem PySem.Spec PyProof.Rows L2

/-! ### data compared -/
mutual
def pd : D → PyData
  | .non => .none
  | .bl b => .bool b
  | .int i => .int i
  | .str x => .str x
  | .tup xs => .tuple (pds xs)
  | .lst xs => .list (pds xs)
  | .obj _ _ => .dict []
  | .ty _ => .dict []
  | .adr _ => .dict []
  | .scr _ => .dict []
def pds : List D → List PyData
  | [] => []
  | x :: xs => pd x :: pds xs
end
/-- no objects within, at most n deep -/
def shp : Nat → D → Bool
  | n + 1, .tup xs => xs.all (shp n)
  | n + 1, .lst xs => xs.all (shp n)
  | _, .non => true
  | _, .bl _ => true
  | _, .int _ => true
  | _, .str _ => true
  | _, _ => false
mutual
def eqD : D → D → Bool
  | .non, .non => true
  | .bl a, .bl b => a == b
  | .bl a, .int j => (if a then 1 else 0) == j
  | .int i, .bl b => i == (if b then 1 else 0)
  | .int i, .int j => i == j
  | .str x, .str y => x == y
  | .tup xs, .tup ys => eqDs xs ys
  | .lst xs, .lst ys => eqDs xs ys
  | _, _ => false
def eqDs : List D → List D → Bool
  | [], [] => true
  | x :: xs, y :: ys => eqD x y && eqDs xs ys
  | _, _ => false
end
mutual
theorem eqD_eqv : ∀ x y : D, eqD x y = PyData.eqv (pd x) (pd y)
  | .non, y => by cases y <;> simp [eqD, pd, PyData.eqv]
  | .bl a, y => by cases y <;> simp [eqD, pd, PyData.eqv]
  | .int a, y => by cases y <;> simp [eqD, pd, PyData.eqv]
  | .str a, y => by cases y <;> simp [eqD, pd, PyData.eqv]
  | .tup xs, .tup ys => by
    have h := eqDs_eqv xs ys
    simp only [eqD, pd, PyData.eqv]; exact h
  | .lst xs, .lst ys => by
    have h := eqDs_eqv xs ys
    simp only [eqD, pd, PyData.eqv]; exact h
  | .tup xs, .non => by simp [eqD, pd, PyData.eqv]
  | .tup xs, .bl _ => by simp [eqD, pd, PyData.eqv]
  | .tup xs, .int _ => by simp [eqD, pd, PyData.eqv]
  | .tup xs, .str _ => by simp [eqD, pd, PyData.eqv]
  | .tup xs, .lst _ => by simp [eqD, pd, PyData.eqv]
  | .tup xs, .obj _ _ => by simp [eqD, pd, PyData.eqv]
  | .tup xs, .ty _ => by simp [eqD, pd, PyData.eqv]
  | .tup xs, .adr _ => by simp [eqD, pd, PyData.eqv]
  | .tup xs, .scr _ => by simp [eqD, pd, PyData.eqv]
  | .lst xs, .non => by simp [eqD, pd, PyData.eqv]
  | .lst xs, .bl _ => by simp [eqD, pd, PyData.eqv]
  | .lst xs, .int _ => by simp [eqD, pd, PyData.eqv]
  | .lst xs, .str _ => by simp [eqD, pd, PyData.eqv]
  | .lst xs, .tup _ => by simp [eqD, pd, PyData.eqv]
  | .lst xs, .obj _ _ => by simp [eqD, pd, PyData.eqv]
  | .lst xs, .ty _ => by simp [eqD, pd, PyData.eqv]
  | .lst xs, .adr _ => by simp [eqD, pd, PyData.eqv]
  | .lst xs, .scr _ => by simp [eqD, pd, PyData.eqv]
  | .obj _ _, y => by cases y <;> simp [eqD, pd, PyData.eqv]
  | .ty _, y => by cases y <;> simp [eqD, pd, PyData.eqv]
  | .adr _, y => by cases y <;> simp [eqD, pd, PyData.eqv]
  | .scr _, y => by cases y <;> simp [eqD, pd, PyData.eqv]
theorem eqDs_eqv : ∀ xs ys : List D, eqDs xs ys = PyData.eqvAll (pds xs) (pds ys)
  | [], [] => by simp [eqDs, pds, PyData.eqvAll]
  | [], _ :: _ => by simp [eqDs, pds, PyData.eqvAll]
  | _ :: _, [] => by simp [eqDs, pds, PyData.eqvAll]
  | x :: xs, y :: ys => by simp only [eqDs, pds, PyData.eqvAll, eqD_eqv x y, eqDs_eqv xs ys]
end
theorem shp_ok : ∀ (n : Nat) (x : D), shp n x = true → (pd x).plain = true ∧ (pd x).depth ≤ n := by
  intro n
  induction n with
  | zero => intro x h; cases x <;> simp_all [shp, pd, PyData.plain, PyData.depth]
  | succ n ih =>
    have all : ∀ xs : List D, xs.all (shp n) = true → PyData.plainAll (pds xs) = true ∧ PyData.depthAll (pds xs) ≤ n := by
      intro xs
      induction xs with
      | nil => intro _; simp [pds, PyData.plainAll, PyData.depthAll]
      | cons x xs ihx =>
        intro h
        rw [List.all_cons, Bool.and_eq_true] at h
        obtain ⟨a, b⟩ := ih x h.1
        obtain ⟨c, d⟩ := ihx h.2
        refine ⟨by simp [pds, PyData.plainAll, a, c], ?_⟩
        simp only [pds, PyData.depthAll]; omega
    intro x h
    cases x with
    | tup xs =>
      obtain ⟨a, b⟩ := all xs (by simpa [shp] using h)
      exact ⟨by simpa [pd, PyData.plain] using a, by simp only [pd, PyData.depth]; omega⟩
    | lst xs =>
      obtain ⟨a, b⟩ := all xs (by simpa [shp] using h)
      exact ⟨by simpa [pd, PyData.plain] using a, by simp only [pd, PyData.depth]; omega⟩
    | _ => simp_all [shp, pd, PyData.plain, PyData.depth]
mutual
theorem RD.dp {K : PySem.W.Frag} {F H : Hp} (e : Same F H) : ∀ {x : D} {v : V}, RD K F x v → (pd x).plain = true → Dp K H v (pd x)
  | .non, v, h, _ => by cases (show v = .non from h); exact .non
  | .bl b, v, h, _ => by cases (show v = .bl b from h); exact .bl b
  | .int i, v, h, _ => by cases (show v = .int i from h); exact .int i
  | .str x, v, h, _ => by cases (show v = .str x from h); exact .str x
  | .tup xs, v, h, p => by
    obtain ⟨a, vs, rfl, h1, h2⟩ := h
    exact .tup (h1.sq e) (RDs.dp e h2 (by simpa [pd, PyData.plain] using p))
  | .lst xs, v, h, p => by
    obtain ⟨a, vs, rfl, h1, h2⟩ := h
    exact .lst (SqL.of (e _ _ h1)) (RDs.dp e h2 (by simpa [pd, PyData.plain] using p))
  | .obj _ _, v, h, p => by simp [pd, PyData.plain] at p
  | .ty _, v, h, p => by simp [pd, PyData.plain] at p
  | .adr _, v, h, p => by simp [pd, PyData.plain] at p
  | .scr _, v, h, p => by simp [pd, PyData.plain] at p
theorem RDs.dp {K : PySem.W.Frag} {F H : Hp} (e : Same F H) : ∀ {xs : List D} {vs : List V}, RDs K F xs vs → PyData.plainAll (pds xs) = true → DpAll K H vs (pds xs)
  | [], vs, h, _ => by cases (show vs = [] from h); exact .nil
  | x :: xs, vs, h, p => by
    obtain ⟨v, r, rfl, h1, h2⟩ := h
    simp only [pds, PyData.plainAll, Bool.and_eq_true] at p
    exact .cons (RD.dp e h1 p.1) (RDs.dp e h2 p.2)
end
/-- a value as data: lists of data in cells too -/
def valD (S : Sto) : U → Option D
  | .d x => some x
  | .r i => match cellL S i with
    | some ws => (allD ws).map D.lst
    | none => none
theorem valD_dp {K : PySem.W.Frag} {c : Cf} {x : U} {v : V} {y : D} (r : SR K c) (hx : RU K c.F c.μ x v) (h : valD c.S x = some y) (hp : (pd y).plain = true) : Dp K c.H v (pd y) := by
  unfold valD at h
  split at h
  · cases h
    exact RD.dp r.sub hx hp
  · split at h
    · rename_i ws e
      obtain ⟨p, vs, a1, a2, a3, _⟩ := cellL_ok r e
      obtain ⟨q, rfl, e2⟩ := (show ∃ p, v = .ref p ∧ c.μ[_]? = some p from hx)
      rw [a1] at e2; cases e2
      cases q : allD ws with
      | none => rw [q] at h; cases h
      | some ds =>
        rw [q] at h
        have e3 : D.lst ds = y := Option.some.inj h
        subst e3
        rw [allD_ok q] at a3
        exact .lst (SqL.of a2) (RDs.dp r.sub (RDs.of_u a3) (by simpa [pd, PyData.plain] using hp))
    · cases h
section
variable {X : Cx} {Wx : WX} {pos : Pos}
def rEqP (K : PySem.W.Frag) (f : PyData → PyData → Bool) : R2 := fun x y H Q => ∃ d e, Dp K H x d ∧ Dp K H y e ∧ d.plain = true ∧ e.plain = true ∧ d.depth ≤ 64 ∧ Q (.bl (f d e)) H
theorem op_eqP (hu : X.A.units + 64 < cLine) : OpR X (compareOp .Eq) (rEqP X.K PyData.eqv) := by
  intro pins s σ H x y v u Q I rx ry h
  obtain ⟨d, e, hd, he, sd, se, dd, q⟩ := h
  obtain ⟨as, r1⟩ := Dp.reads I d x v hd rx
  obtain ⟨bs, r2⟩ := Dp.reads I e y u he ry
  exact SeqAt.eq_plain r1 r2 sd se (by omega) ⟨.bl _, H, I, rfl, q⟩
theorem op_neP (hu : X.A.units + 64 < cLine) : OpR X (compareOp .NotEq) (rEqP X.K fun d e => !PyData.eqv d e) := by
  intro pins s σ H x y v u Q I rx ry h
  obtain ⟨d, e, hd, he, sd, se, dd, q⟩ := h
  obtain ⟨as, r1⟩ := Dp.reads I d x v hd rx
  obtain ⟨bs, r2⟩ := Dp.reads I e y u he ry
  exact SeqAt.ne_plain r1 r2 sd se (by omega) ⟨.bl _, H, I, rfl, q⟩
def oEqG (neg : Bool) : Ov := fun x y S => match valD S x, valD S y with
  | some a, some b => if shp 64 a = true ∧ shp 64 b = true then .ok (.d (.bl (neg != eqD a b))) S else .no
  | _, _ => .no
abbrev oEq : Ov := oEqG false
abbrev oNe : Ov := oEqG true
theorem oEqG_ok {K : PySem.W.Frag} {F μ S H σ Wx x y v w} {neg : Bool} {f : PyData → PyData → Bool} (hf : ∀ d e, f d e = (neg != PyData.eqv d e)) (r : SR K ⟨F, μ, S, H⟩) (ux : RU K F μ x v) (uy : RU K F μ y w) {Q : VK} (h : PoE K ⟨F, μ, S, H⟩ σ Wx Q (oEqG neg x y S)) :
    rEqP K f v w H Q := by
  unfold oEqG at h
  split at h
  · rename_i a b ea eb
    split at h
    · rename_i hs
      obtain ⟨p1, d1⟩ := shp_ok 64 a hs.1
      obtain ⟨p2, d2⟩ := shp_ok 64 b hs.2
      refine ⟨pd a, pd b, valD_dp (c := ⟨F, μ, S, H⟩) r ux ea p1, valD_dp (c := ⟨F, μ, S, H⟩) r uy eb p2, p1, p2, d1, ?_⟩
      rw [hf, ← eqD_eqv]
      exact h.done r rfl
    · exact h.elim
  · exact h.elim
theorem o_eq (hu : X.A.units + 64 < cLine) : FO X (compareOp .Eq) oEq := ⟨_, op_eqP hu, fun F μ S H σ Wx x y v w r ux uy Q h => oEqG_ok (fun _ _ => by simp) r ux uy h⟩
theorem o_ne (hu : X.A.units + 64 < cLine) : FO X (compareOp .NotEq) oNe := ⟨_, op_neP hu, fun F μ S H σ Wx x y v w r ux uy Q h => oEqG_ok (fun _ _ => by simp) r ux uy h⟩
/-! ### is -/
def oIsN (neg : Bool) : Ov := fun x y S => match y with
  | .d .non => match x with
    | .d .non => .ok (.d (.bl (!neg))) S
    | .d (.bl _) => .ok (.d (.bl neg)) S
    | .d (.int _) => .ok (.d (.bl neg)) S
    | .d (.str _) => .ok (.d (.bl neg)) S
    | .d (.tup _) => .ok (.d (.bl neg)) S
    | .d (.lst _) => .ok (.d (.bl neg)) S
    | .d (.obj _ _) => .ok (.d (.bl neg)) S
    | .d (.adr _) => .ok (.d (.bl neg)) S
    | .r _ => .ok (.d (.bl neg)) S
    | _ => .no
  | .d (.bl c) => match x with
    | .d (.bl b) => .ok (.d (.bl (neg != decide (b = c)))) S
    | _ => .no
  | _ => .no
theorem oIs_ok {K : PySem.W.Frag} {F μ S H σ Wx x y v w} {neg : Bool} (r : SR K ⟨F, μ, S, H⟩) (ux : RU K F μ x v) (uy : RU K F μ y w) {Q : VK} (h : PoE K ⟨F, μ, S, H⟩ σ Wx Q (oIsN neg x y S)) :
    (w = .non ∧ Q (.bl (neg != decide (v = .non))) H) ∨ (∃ a b : Bool, v = .bl a ∧ w = .bl b ∧ Q (.bl (neg != decide (a = b))) H) := by
  unfold oIsN at h
  have k : ∀ {v : V}, v ≠ .non → PoE K ⟨F, μ, S, H⟩ σ Wx Q (.ok (.d (.bl neg)) S) → Q (.bl (neg != decide (v = .non))) H := fun {v} hv h => by
    rw [decide_eq_false hv]
    have z : Q (.bl neg) H := h.done r rfl
    cases neg <;> exact z
  split at h
  · refine .inl ⟨uy, ?_⟩
    split at h
    · cases (show v = .non from ux)
      have z : Q (.bl !neg) H := h.done r rfl
      cases neg <;> exact z
    · cases (show v = .bl _ from ux); exact k (by intro z; cases z) h
    · cases (show v = .int _ from ux); exact k (by intro z; cases z) h
    · cases (show v = .str _ from ux); exact k (by intro z; cases z) h
    · obtain ⟨a, vs, rfl, _⟩ := ux; exact k (by intro z; cases z) h
    · obtain ⟨a, vs, rfl, _⟩ := ux; exact k (by intro z; cases z) h
    · obtain ⟨a, dx, vs, rfl, _⟩ := ux; exact k (by intro z; cases z) h
    · cases (show v = .ref _ from ux); exact k (by intro z; cases z) h
    · obtain ⟨p, rfl, _⟩ := ux; exact k (by intro z; cases z) h
    · exact h.elim
  · split at h
    · exact .inr ⟨_, _, ux, uy, h.done r rfl⟩
    · exact h.elim
  · exact h.elim
theorem o_is : FO X (compareOp .Is) (oIsN false) := ⟨_, op_isN.or op_isBl, fun F μ S H σ Wx x y v w r ux uy Q h => by
  rcases oIs_ok r ux uy h with ⟨a, b⟩ | ⟨a, b, c, d, e⟩
  · exact .inl ⟨a, by simpa using b⟩
  · exact .inr ⟨a, b, c, d, by simpa using e⟩⟩
theorem o_isnot : FO X (compareOp .IsNot) (oIsN true) := ⟨_, op_notN.or op_notBl, fun F μ S H σ Wx x y v w r ux uy Q h => by
  rcases oIs_ok r ux uy h with ⟨a, b⟩ | ⟨a, b, c, d, e⟩
  · exact .inl ⟨a, by simpa using b⟩
  · exact .inr ⟨a, b, c, d, by simpa using e⟩⟩
/-! ### in -/
def rInP (K : PySem.W.Frag) (neg : Bool) : R2 := fun x y H Q => ∃ p vs ds d, y = .ref p ∧ (SqL K H p vs ∨ SqT K H p vs) ∧ DpAll K H vs ds ∧ Dp K H x d ∧ PyData.plainAll ds = true ∧ d.plain = true ∧ d.depth ≤ 64 ∧ Q (.bl (neg != ds.any fun y => PyData.eqv y d)) H
theorem rInP_ok {pins : List (Addr × Obj)} {s : Shared} {σ : L2.St} {H : Hp} {x y : V} {v u : Value} {Q : VK} {neg : Bool} (hu : X.A.units + 65 < cLine) (I : Inv X pins σ H s) (rx : RelV x v) (ry : RelV y u) (h : rInP X.K neg x y H Q) :
    wpAny (model X.prog X.w) X.A (compareOp (if neg then .NotIn else .In) v u) (EP X pins σ Q) X.xe s := by
  obtain ⟨p, vs, ds, d, rfl, hq, hds, hd, pds, pd', dd, q⟩ := h
  cases ry
  obtain ⟨bs, r2⟩ := Dp.reads I d x v hd rx
  have room : X.A.units + 1 + min (PyData.depthAll ds) d.depth < cLine := by omega
  rcases hq with hq | hq
  · obtain ⟨as, r1⟩ := Dp.reads I (.list ds) (.ref p) (.ref p) (.lst hq hds) rfl
    cases neg
    · exact SeqAt.in_list_data r1 r2 pds pd' room ⟨.bl _, H, I, rfl, by simpa using q⟩
    · exact SeqAt.notIn_list_data r1 r2 pds pd' room ⟨.bl _, H, I, rfl, by simpa using q⟩
  · obtain ⟨as, r1⟩ := Dp.reads I (.tuple ds) (.ref p) (.ref p) (.tup hq hds) rfl
    cases neg
    · exact SeqAt.in_tuple_data r1 r2 pds pd' room ⟨.bl _, H, I, rfl, by simpa using q⟩
    · exact SeqAt.notIn_tuple_data r1 r2 pds pd' room ⟨.bl _, H, I, rfl, by simpa using q⟩
theorem op_inP (hu : X.A.units + 65 < cLine) : OpR X (compareOp .In) (rInP X.K false) := fun pins s σ H x y v u Q I rx ry h => rInP_ok hu I rx ry h
theorem op_notInP (hu : X.A.units + 65 < cLine) : OpR X (compareOp .NotIn) (rInP X.K true) := fun pins s σ H x y v u Q I rx ry h => rInP_ok hu I rx ry h
def seqD (S : Sto) (x : U) : Option (List D) := (seqU S x).bind allD
def oInG (neg : Bool) : Ov := fun x y S => match valD S x, seqD S y with
  | some a, some bs => if shp 64 a = true ∧ (bs.all (shp 64)) = true then .ok (.d (.bl (neg != bs.any fun b => eqD b a))) S else .no
  | _, _ => .no
theorem any_pds (a : D) : ∀ bs : List D, ((pds bs).any fun y => PyData.eqv y (pd a)) = bs.any fun b => eqD b a
  | [] => rfl
  | b :: bs => by simp only [pds, List.any_cons, any_pds a bs, eqD_eqv]
theorem plainAll_of : ∀ bs : List D, bs.all (shp 64) = true → PyData.plainAll (pds bs) = true
  | [], _ => rfl
  | b :: bs, h => by
    rw [List.all_cons, Bool.and_eq_true] at h
    simp only [pds, PyData.plainAll, (shp_ok 64 b h.1).1, plainAll_of bs h.2, Bool.and_self]
theorem oInG_ok {K : PySem.W.Frag} {F μ S H σ Wx x y v w} {neg : Bool} (r : SR K ⟨F, μ, S, H⟩) (ux : RU K F μ x v) (uy : RU K F μ y w) {Q : VK} (h : PoE K ⟨F, μ, S, H⟩ σ Wx Q (oInG neg x y S)) : rInP K neg v w H Q := by
  unfold oInG at h
  split at h
  · rename_i a bs ea eb
    split at h
    · rename_i hs
      obtain ⟨p1, d1⟩ := shp_ok 64 a hs.1
      unfold seqD at eb
      cases q : seqU S y with
      | none => rw [q] at eb; cases eb
      | some ws =>
        rw [q] at eb
        obtain ⟨p, vs, rfl, h1, h2⟩ := seqU_ok (c := ⟨F, μ, S, H⟩) r uy q
        rw [allD_ok (show allD ws = some bs from eb)] at h2
        have pl := plainAll_of bs hs.2
        refine ⟨p, vs, pds bs, pd a, rfl, h1, RDs.dp r.sub (RDs.of_u h2) pl, valD_dp (c := ⟨F, μ, S, H⟩) r ux ea p1, pl, p1, d1, ?_⟩
        rw [any_pds]
        exact h.done r rfl
    · exact h.elim
  · exact h.elim
theorem o_in (hu : X.A.units + 65 < cLine) : FO X (compareOp .In) (oInG false) := ⟨_, op_inP hu, fun F μ S H σ Wx x y v w r ux uy Q h => oInG_ok r ux uy h⟩
theorem o_notin (hu : X.A.units + 65 < cLine) : FO X (compareOp .NotIn) (oInG true) := ⟨_, op_notInP hu, fun F μ S H σ Wx x y v w r ux uy Q h => oInG_ok r ux uy h⟩

/-! ### and, or, not, if -/
section
variable {a b e : Expr} {ta tb : EvT} {fa fb fc : EvE} {rest : List Expr}
def bAnd (a b : EvT) : EvT := fun env S => (a env S).bd fun x S1 => match x with
  | true => b env S1
  | false => .ok false S1
def bOr (a b : EvT) : EvT := fun env S => (a env S).bd fun x S1 => match x with
  | true => .ok true S1
  | false => b env S1
def bNot (a : EvT) : EvT := fun env S => (a env S).bd fun x S1 => .ok (!x) S1
theorem fw_and1 (ha : FT X Wx a ta) : FW X Wx (.BoolOp .And [a] pos) ta := let ⟨t, h1, h2⟩ := ha; ⟨t, pw_and1 h1, h2⟩
theorem fw_or1 (ha : FT X Wx a ta) : FW X Wx (.BoolOp .Or [a] pos) ta := let ⟨t, h1, h2⟩ := ha; ⟨t, pw_or1 h1, h2⟩
theorem fw_and (ha : FT X Wx a ta) (hb : FW X Wx (.BoolOp .And (b :: rest) pos) tb) : FW X Wx (.BoolOp .And (a :: b :: rest) pos) (bAnd ta tb) := by
  obtain ⟨t, h1, h2⟩ := ha
  obtain ⟨u, k1, k2⟩ := hb
  refine ⟨_, pw_and h1 k1, fun F μ S H σ env r er Q h => h2 _ _ _ _ _ env r er _ (Po.bind h fun x v F μ S H g r e h => ?_)⟩
  subst e
  cases x with
  | true => exact k2 _ _ _ _ _ env r (er.mono g) _ h
  | false => exact h.done r rfl
theorem fw_or (ha : FT X Wx a ta) (hb : FW X Wx (.BoolOp .Or (b :: rest) pos) tb) : FW X Wx (.BoolOp .Or (a :: b :: rest) pos) (bOr ta tb) := by
  obtain ⟨t, h1, h2⟩ := ha
  obtain ⟨u, k1, k2⟩ := hb
  refine ⟨_, pw_or h1 k1, fun F μ S H σ env r er Q h => h2 _ _ _ _ _ env r er _ (Po.bind h fun x v F μ S H g r e h => ?_)⟩
  subst e
  cases x with
  | true => exact h.done r rfl
  | false => exact k2 _ _ _ _ _ env r (er.mono g) _ h
theorem FW.ft (h : FW X Wx e ta) : FT X Wx e ta := let ⟨t, a, b⟩ := h; ⟨t, a.pt, b⟩
theorem ft_not (ha : FT X Wx a ta) : FT X Wx (.UnaryOp .Not a pos) (bNot ta) := by
  obtain ⟨t, h1, h2⟩ := ha
  refine ⟨_, pt_not h1, fun F μ S H σ env r er Q h => h2 _ _ _ _ _ env r er _ (Po.bind h fun x v F μ S H g r e h => ?_)⟩
  subst e
  exact h.done r rfl
/-- .. as values -/
def eAnd (a b : EvE) : EvE := fun env S => (a env S).bd fun x S1 => match x with
  | .d (.bl true) => b env S1
  | .d (.bl false) => .ok (.d (.bl false)) S1
  | _ => .no
def eOr (a b : EvE) : EvE := fun env S => (a env S).bd fun x S1 => match x with
  | .d (.bl true) => .ok (.d (.bl true)) S1
  | .d (.bl false) => b env S1
  | _ => .no
def eNot (a : EvE) : EvE := fun env S => (a env S).bd fun x S1 => match x with
  | .d (.bl b) => .ok (.d (.bl (!b))) S1
  | _ => .no
theorem fe_one {op : BoolOp} (h : FE X Wx a fa) : FE X Wx (.BoolOp op [a] pos) fa := let ⟨t, h1, h2⟩ := h; ⟨t, pe_one h1, h2⟩
theorem fe_and (ha : FE X Wx a fa) (hb : FE X Wx (.BoolOp .And (b :: rest) pos) fb) : FE X Wx (.BoolOp .And (a :: b :: rest) pos) (eAnd fa fb) := by
  obtain ⟨t, h1, h2⟩ := ha
  obtain ⟨u, k1, k2⟩ := hb
  refine ⟨_, pe_and h1 k1, fun F μ S H σ env r er Q h => h2 _ _ _ _ _ env r er _ (Po.bind h fun x v F μ S H g r e h => ?_)⟩
  split at h
  · exact ⟨true, e, by rw [if_pos rfl]; exact k2 _ _ _ _ _ env r (er.mono g) _ h⟩
  · exact ⟨false, e, by rw [if_neg Bool.false_ne_true]; exact h.done r rfl⟩
  · exact h.elim
theorem fe_or (ha : FE X Wx a fa) (hb : FE X Wx (.BoolOp .Or (b :: rest) pos) fb) : FE X Wx (.BoolOp .Or (a :: b :: rest) pos) (eOr fa fb) := by
  obtain ⟨t, h1, h2⟩ := ha
  obtain ⟨u, k1, k2⟩ := hb
  refine ⟨_, pe_or h1 k1, fun F μ S H σ env r er Q h => h2 _ _ _ _ _ env r er _ (Po.bind h fun x v F μ S H g r e h => ?_)⟩
  split at h
  · exact ⟨true, e, by rw [if_pos rfl]; exact h.done r rfl⟩
  · exact ⟨false, e, by rw [if_neg Bool.false_ne_true]; exact k2 _ _ _ _ _ env r (er.mono g) _ h⟩
  · exact h.elim
theorem fe_not (ha : FE X Wx a fa) : FE X Wx (.UnaryOp .Not a pos) (eNot fa) := by
  obtain ⟨t, h1, h2⟩ := ha
  refine ⟨_, pe_not h1, fun F μ S H σ env r er Q h => h2 _ _ _ _ _ env r er _ (Po.bind h fun x v F μ S H g r e h => ?_)⟩
  split at h
  · exact ⟨_, e, h.done r rfl⟩
  · exact h.elim
def eIf (c : EvT) (a b : EvE) : EvE := fun env S => (c env S).bd fun x S1 => match x with
  | true => a env S1
  | false => b env S1
theorem fe_if {c : Expr} {tc : EvT} (hc : FT X Wx c tc) (ha : FE X Wx a fa) (hb : FE X Wx b fb) : FE X Wx (.IfExp c a b pos) (eIf tc fa fb) := by
  obtain ⟨t, h1, h2⟩ := hc
  obtain ⟨u, k1, k2⟩ := ha
  obtain ⟨w, l1, l2⟩ := hb
  refine ⟨_, pe_ifExp h1 k1 l1, fun F μ S H σ env r er Q h => h2 _ _ _ _ _ env r er _ (Po.bind h fun x v F μ S H g r e h => ?_)⟩
  subst e
  cases x with
  | true => rw [if_pos rfl]; exact k2 _ _ _ _ _ env r (er.mono g) _ h
  | false => rw [if_neg Bool.false_ne_true]; exact l2 _ _ _ _ _ env r (er.mono g) _ h
end
end
end Mi

namespace Mi
open PySem PySem.Spec PyProof.Rows L2

/-! ### subscripts -/
theorem ixN_lt {n : Nat} {i : Int} {j : Nat} (h : ixN n i = some j) : j < n := by
  unfold ixN at h
  split at h
  · split at h
    · cases h; omega
    · cases h
  · split at h
    · cases h; omega
    · cases h
theorem RUs.at {K : PySem.W.Frag} {F : Hp} {μ : List Addr} {ws : List U} {vs : List V} {i : Int} {w : U} (h : RUs K F μ ws vs) (e : atI ws i = some w) : ∃ v, atI vs i = some v ∧ RU K F μ w v := by
  unfold atI at e ⊢
  rw [h.length]
  cases q : ixN ws.length i with
  | none => rw [q] at e; cases e
  | some j =>
    rw [q] at e
    exact RUs.get h e
def oIx : Ov
  | .d (.str z), .d (.int i), S => if z.length ≤ sizeLine then (match atI z.cps.toList i with
    | some c => .ok (.d (.str ⟨#[c]⟩)) S
    | none => .no) else .no
  | x, .d (.int i), S => match seqU S x with
    | some ws => (match atI ws i with
      | some w => .ok w S
      | none => .no)
    | none => .no
  | _, _, _ => .no
section
variable {X : Cx} {Wx : WX} {pos : Pos} {a b e : Expr} {fa fb : EvE}
theorem fe_ix (ha : FE X Wx a fa) (hb : FE X Wx b fb) (hs : PlainIx b) : FE X Wx (.Subscript a b pos) (eBin oIx fa fb) := by
  obtain ⟨ta, a1, a2⟩ := ha
  obtain ⟨tb, b1, b2⟩ := hb
  refine ⟨_, pe_ix ix_seq a1 b1 hs, fun F μ S H σ env r er Q h => two a2 b2 r er h fun x y v w F μ S H r er ux uy h => ?_⟩
  unfold oIx at h
  split at h
  · split at h
    · rename_i hl
      split at h
      · rename_i c e
        exact .inr (.inr ⟨_, _, c, ux, uy, hl, e, h.done r rfl⟩)
      · exact h.elim
    · exact h.elim
  · split at h
    · rename_i ws e1
      split at h
      · rename_i z e2
        obtain ⟨p, vs, rfl, h1, h2⟩ := seqU_ok (c := ⟨F, μ, S, H⟩) r ux e1
        obtain ⟨u, h3, h4⟩ := h2.at e2
        rcases h1 with h1 | h1
        · exact .inl ⟨p, vs, _, u, rfl, uy, h1, h3, h.done r h4⟩
        · exact .inr (.inl ⟨p, vs, _, u, rfl, uy, h1, h3, h.done r h4⟩)
      · exact h.elim
    · exact h.elim
  · exact h.elim
/-! slices -/
def cutU {α : Type} (xs : List α) (lo hi : Option Int) : List α := (xs.drop (HT.sIx xs.length 0 lo)).take (HT.sIx xs.length xs.length hi - HT.sIx xs.length 0 lo)
theorem RDs.u' {K : PySem.W.Frag} {F : Hp} {μ : List Addr} {xs : List D} {vs : List V} (h : RDs K F xs vs) : RUs K F μ (xs.map U.d) vs := RDs.u h
theorem RDs.take {K : PySem.W.Frag} {F : Hp} {xs : List D} {vs : List V} (n : Nat) (h : RDs K F xs vs) : RDs K F (xs.take n) (vs.take n) := by
  have z := RUs.take (μ := []) n (RDs.u h)
  rw [← List.map_take] at z
  exact RDs.of_u z
theorem RDs.drop {K : PySem.W.Frag} {F : Hp} {xs : List D} {vs : List V} (n : Nat) (h : RDs K F xs vs) : RDs K F (xs.drop n) (vs.drop n) := by
  have z := RUs.drop (μ := []) n (RDs.u h)
  rw [← List.map_drop] at z
  exact RDs.of_u z
theorem RDs.cut {K : PySem.W.Frag} {F : Hp} {xs : List D} {vs : List V} (h : RDs K F xs vs) (lo hi : Option Int) : RDs K F (cutU xs lo hi) (cutV vs lo hi) := by
  unfold cutU cutV
  rw [h.length]
  exact (h.drop _).take _
/-- a slice's part -/
abbrev EvO := En → Sto → Rs (Option Int)
structure FPO (X : Cx) (Wx : WX) (e : Option Expr) (a : EvO) : Prop where
  ex : ∃ t, PO X e t ∧ ∀ F μ S H σ env, SR X.K ⟨F, μ, S, H⟩ → ER X.K ⟨F, μ, S, H⟩ env σ → ∀ Q, Po X.K ⟨F, μ, S, H⟩ σ Wx (fun _ x y => x = y) Q (a env S) → t σ H Q
def noP : EvO := fun _ S => .ok none S
def soP (a : EvE) : EvO := fun env S => (a env S).bd fun x S1 => match x with
  | .d (.int i) => .ok (some i) S1
  | _ => .no
theorem fpo_none : FPO X Wx none noP := ⟨_, po_none, fun F μ S H σ env r er Q h => h.done r rfl⟩
theorem fpo_some (ha : FE X Wx a fa) : FPO X Wx (some a) (soP fa) := by
  obtain ⟨t, h1, h2⟩ := ha
  refine ⟨_, po_some h1, fun F μ S H σ env r er Q h => h2 _ _ _ _ _ env r er _ (Po.bind h fun x v F μ S H g r e h => ?_)⟩
  split at h
  · exact ⟨_, e, h.done r rfl⟩
  · exact h.elim
def oSl (x : U) (lo hi : Option Int) (S : Sto) : Rs U := match x with
  | .d (.scr ns) => .ok (.d (.lst ((cutU ns lo hi).map D.int))) S
  | .d (.tup xs) => .ok (.d (.tup (cutU xs lo hi))) S
  | x => match lstD S x with
    | some xs => .ok (.d (.lst (cutU xs lo hi))) S
    | none => .no
def eSl (a : EvE) (lo hi : EvO) : EvE := fun env S => (a env S).bd fun x S1 => (lo env S1).bd fun l S2 => (hi env S2).bd fun h S3 => oSl x l h S3
theorem cutU_map {α β : Type} (f : α → β) (xs : List α) (lo hi : Option Int) : cutU (xs.map f) lo hi = (cutU xs lo hi).map f := by
  unfold cutU; simp [List.map_take, List.map_drop]
theorem cutU_whole {α : Type} {xs : List α} {lo hi : Option Int} (h : HT.sIx xs.length 0 lo = 0 ∧ HT.sIx xs.length xs.length hi = xs.length) : cutU xs lo hi = xs := by
  unfold cutU; rw [h.1, h.2]; simp
theorem fe_sl {lo hi : Option Expr} {fl fh : EvO} {p2 : Pos} (ha : FE X Wx a fa) (hl : FPO X Wx lo fl) (hh : FPO X Wx hi fh) : FE X Wx (.Subscript a (.Slice lo hi none p2) pos) (eSl fa fl fh) := by
  obtain ⟨ta, a1, a2⟩ := ha
  obtain ⟨tl, l1, l2⟩ := hl
  obtain ⟨th, h1, h2⟩ := hh
  refine ⟨_, pe_slice (sl_list.or sl_tupA) a1 l1 h1, fun F μ S H σ env r er Q h => a2 _ _ _ _ _ env r er _ (Po.bind h fun x v F μ S H g r ux h => ?_)⟩
  refine l2 _ _ _ _ _ env r (er.mono g) _ (Po.bind h fun lo lo' F1 μ1 S1 H1 g1 r1 e1 h => ?_)
  subst e1
  refine h2 _ _ _ _ _ env r1 ((er.mono g).mono g1) _ (Po.bind h fun hi hi' F2 μ2 S2 H2 g2 r2 e2 h => ?_)
  subst e2
  have ux : RU X.K F2 μ2 x v := (ux.mono g1.m).mono g2.m
  unfold oSl at h
  split at h
  · obtain ⟨a, rfl, h3⟩ := (show ∃ a, v = .ref a ∧ SqL X.K F2 a _ from ux)
    refine .inl ⟨a, _, rfl, r2.sub.seq h3, fun p hp => ?_⟩
    rw [show cutV (List.map V.int _) lo hi = (cutU _ lo hi).map V.int from cutU_map _ _ _ _]
    exact newLst h r2 hp (RDs.of_ints _)
  · obtain ⟨a, vs, rfl, h3, h4⟩ := (show ∃ a vs, v = .ref a ∧ TpA X.K F2 a vs ∧ RDs X.K F2 _ vs from ux)
    refine .inr ⟨a, vs, rfl, h3.sq r2.sub, fun hw => ?_, fun hw p hp => newTup h r2 hp (h4.cut lo hi)⟩
    rw [h4.length] at hw
    rw [cutU_whole hw] at h
    exact h.done r2 ⟨a, vs, rfl, h3, h4⟩
  · split at h
    · rename_i xs e
      obtain ⟨p, vs, rfl, h3, h4⟩ := lstD_ok (c := ⟨F2, μ2, S2, H2⟩) r2 ux e
      exact .inl ⟨p, vs, rfl, SqL.of h3, fun q hq => newLst h r2 hq (h4.cut lo hi)⟩
    · exact h.elim

/-! ### argument lists, displays -/
variable {es : List Expr} {ga : EvA}
def aNil : EvA := fun _ S => .ok [] S
def aCons (a : EvE) (t : EvA) : EvA := fun env S => (a env S).bd fun x S1 => (t env S1).bd fun xs S2 => .ok (x :: xs) S2
theorem fa_nil : FA X Wx [] aNil := ⟨_, pa_nil, fun F μ S H σ env r er Q h => h.done r rfl⟩
theorem fa_cons (ha : FE X Wx e fa) (ht : FA X Wx es ga) (hs : starEach (e :: es) X.env = (false, eval e X.env) :: starEach es X.env := by rfl) : FA X Wx (e :: es) (aCons fa ga) := by
  obtain ⟨t, h1, h2⟩ := ha
  obtain ⟨u, k1, k2⟩ := ht
  refine ⟨_, pa_cons h1 k1 hs, fun F μ S H σ env r er Q h => h2 _ _ _ _ _ env r er _ (Po.bind h fun x v F μ S H g r ux h => ?_)⟩
  refine k2 _ _ _ _ _ env r (er.mono g) _ (Po.bind h fun xs vs F1 μ1 S1 H1 g1 r1 uxs h => ?_)
  exact h.done r1 ⟨v, vs, rfl, ux.mono g1.m, uxs⟩
/-- a tuple of data -/
def eTup (t : EvA) : EvE := fun env S => (t env S).bd fun xs S1 => match allD xs with
  | some ds => if ds.length ≤ sizeLine then .ok (.d (.tup ds)) S1 else .no
  | none => .no
theorem fe_tup {k : Nat} (ht : FA X Wx es ga) : FE X Wx (.Tuple es k pos) (eTup ga) := by
  obtain ⟨t, h1, h2⟩ := ht
  refine ⟨_, pe_tup h1, fun F μ S H σ env r er Q h => h2 _ _ _ _ _ env r er _ (Po.bind h fun xs vs F μ S H g r ux h => ?_)⟩
  split at h
  · rename_i ds e
    split at h
    · rename_i hl
      rw [allD_ok e] at ux
      have hx := RDs.of_u ux
      exact ⟨by rw [hx.length]; exact hl, fun p hp => newTup h r hp hx⟩
    · exact h.elim
  · exact h.elim
/-- a list of data -/
def eLst (t : EvA) : EvE := fun env S => (t env S).bd fun xs S1 => match allD xs with
  | some ds => if ds.length ≤ sizeLine then .ok (.d (.lst ds)) S1 else .no
  | none => .no
theorem fe_lst (ht : FA X Wx es ga) : FE X Wx (.List es pos) (eLst ga) := by
  obtain ⟨t, h1, h2⟩ := ht
  refine ⟨_, pe_lst h1, fun F μ S H σ env r er Q h => h2 _ _ _ _ _ env r er _ (Po.bind h fun xs vs F μ S H g r ux h => ?_)⟩
  split at h
  · rename_i ds e
    split at h
    · rename_i hl
      rw [allD_ok e] at ux
      have hx := RDs.of_u ux
      exact ⟨by rw [hx.length]; exact hl, fun p hp => newLst h r hp hx⟩
    · exact h.elim
  · exact h.elim
/-- a list that will change: a cell -/
def eLstC (t : EvA) : EvE := fun env S => (t env S).bd fun xs S1 => if xs.length ≤ sizeLine then .ok (.r S1.length) (S1 ++ [.lst xs]) else .no
theorem fe_lstC (ht : FA X Wx es ga) : FE X Wx (.List es pos) (eLstC ga) := by
  obtain ⟨t, h1, h2⟩ := ht
  refine ⟨_, pe_lst h1, fun F μ S H σ env r er Q h => h2 _ _ _ _ _ env r er _ (Po.bind h fun xs vs F μ S H g r ux h => ?_)⟩
  split at h
  · rename_i hl
    exact ⟨by rw [ux.length]; exact hl, fun p hp => newCell h r hp ux⟩
  · exact h.elim

/-! ### built-ins called -/
abbrev Oa := List U → Sto → Rs U
structure FCa (X : Cx) (f : Value) (g : Oa) : Prop where
  ex : ∃ r, CallR X f r ∧ ∀ F μ S H σ Wx xs vs, SR X.K ⟨F, μ, S, H⟩ → RUs X.K F μ xs vs → ∀ Q, PoE X.K ⟨F, μ, S, H⟩ σ Wx Q (g xs S) → r vs H Q
def eCa (g : Oa) (t : EvA) : EvE := fun env S => (t env S).bd g
theorem fe_callB {id : String} {x : Str} {p : Pos} {g : Oa} (hc : FCa X (.builtin id) g) (hg : Gl X x) (hm : X.mg x = none) (hv : bootBuiltins x = some (.builtin id)) (ha : FA X Wx (e :: es) ga) (hn : x ≠ "__name__" := by decide) (hdb : (x == ("__debug__" : Str)) = false := by decide)
    (he : starEach (e :: es) X.env = (false, eval e X.env) :: starEach es X.env := by rfl) (hpl : (backTo pos (starEach es X.env)).any (·.1) = false := by rfl) : FE X Wx (.Call (.Name x p) (e :: es) [] pos) (eCa g ga) := by
  obtain ⟨r, c1, c2⟩ := hc
  obtain ⟨t, h1, h2⟩ := ha
  refine ⟨_, pe_callB c1 hg hm hv h1 hn hdb he hpl, fun F μ S H σ env r er Q h => h2 _ _ _ _ _ env r er _ (Po.bind h fun xs vs F μ S H g r ux h => c2 _ _ _ _ _ _ _ _ r ux _ h)⟩
theorem fe_callTy {T : String} {x : Str} {p : Pos} {g : Oa} (hc : FCa X (.type T) g) (hg : Gl X x) (hm : X.mg x = none) (hv : bootBuiltins x = some (.type T)) (ha : FA X Wx (e :: es) ga) (hn : x ≠ "__name__" := by decide) (hdb : (x == ("__debug__" : Str)) = false := by decide)
    (he : starEach (e :: es) X.env = (false, eval e X.env) :: starEach es X.env := by rfl) (hpl : (backTo pos (starEach es X.env)).any (·.1) = false := by rfl) : FE X Wx (.Call (.Name x p) (e :: es) [] pos) (eCa g ga) := by
  obtain ⟨r, c1, c2⟩ := hc
  obtain ⟨t, h1, h2⟩ := ha
  refine ⟨_, pe_callTy c1 hg hm hv h1 hn hdb he hpl, fun F μ S H σ env r er Q h => h2 _ _ _ _ _ env r er _ (Po.bind h fun xs vs F μ S H g r ux h => c2 _ _ _ _ _ _ _ _ r ux _ h)⟩
theorem RUs.one {K : PySem.W.Frag} {F : Hp} {μ : List Addr} {x : U} {vs : List V} (h : RUs K F μ [x] vs) : ∃ v, vs = [v] ∧ RU K F μ x v := by
  obtain ⟨v, r, rfl, h1, h2⟩ := h
  cases (show r = [] from h2)
  exact ⟨v, rfl, h1⟩
theorem RUs.two {K : PySem.W.Frag} {F : Hp} {μ : List Addr} {x y : U} {vs : List V} (h : RUs K F μ [x, y] vs) : ∃ v w, vs = [v, w] ∧ RU K F μ x v ∧ RU K F μ y w := by
  obtain ⟨v, r, rfl, h1, h2⟩ := h
  obtain ⟨w, rfl, h3⟩ := h2.one
  exact ⟨v, w, rfl, h1, h3⟩
def oAbs : Oa
  | [.d (.int i)], S => .ok (.d (.int (if i < 0 then -i else i))) S
  | _, _ => .no
theorem c_abs : FCa X (.builtin "abs") oAbs := ⟨_, call_abs, fun F μ S H σ Wx xs vs r ux Q h => by
  unfold oAbs at h
  split at h
  · obtain ⟨v, rfl, u⟩ := ux.one
    exact ⟨_, by rw [show v = .int _ from u], h.done r rfl⟩
  · exact h.elim⟩
def oInt : Oa
  | [.d (.int i)], S => .ok (.d (.int i)) S
  | [.d (.bl b)], S => .ok (.d (.int (if b then 1 else 0))) S
  | _, _ => .no
theorem c_int : FCa X (.type "int") oInt := ⟨_, call_int1, fun F μ S H σ Wx xs vs r ux Q h => by
  unfold oInt at h
  split at h
  · obtain ⟨v, rfl, u⟩ := ux.one
    exact .inl ⟨_, by rw [show v = .int _ from u], h.done r rfl⟩
  · obtain ⟨v, rfl, u⟩ := ux.one
    exact .inr ⟨_, by rw [show v = .bl _ from u], h.done r rfl⟩
  · exact h.elim⟩
def oBool : Oa
  | [.d (.int i)], S => .ok (.d (.bl (i != 0))) S
  | [.d (.bl b)], S => .ok (.d (.bl b)) S
  | _, _ => .no
theorem c_bool : FCa X (.type "bool") oBool := ⟨_, call_bool1, fun F μ S H σ Wx xs vs r ux Q h => by
  unfold oBool at h
  split at h
  · obtain ⟨v, rfl, u⟩ := ux.one
    exact .inl ⟨_, by rw [show v = .int _ from u], h.done r rfl⟩
  · obtain ⟨v, rfl, u⟩ := ux.one
    exact .inr ⟨_, by rw [show v = .bl _ from u], h.done r rfl⟩
  · exact h.elim⟩
def lenU (S : Sto) : U → Option Nat
  | .d (.str z) => if z.length ≤ sizeLine then some z.length else none
  | .d (.scr ns) => some ns.length
  | x => (seqU S x).map List.length
def oLen : Oa
  | [x], S => match lenU S x with
    | some n => .ok (.d (.int n)) S
    | none => .no
  | _, _ => .no
theorem lenU_ok {K : PySem.W.Frag} {F μ S H} {x : U} {v : V} {n : Nat} (r : SR K ⟨F, μ, S, H⟩) (u : RU K F μ x v) (e : lenU S x = some n) : LenV K v H n := by
  unfold lenU at e
  split at e
  · split at e
    · rename_i hl
      cases e
      cases (show v = .str _ from u)
      exact ⟨hl, rfl⟩
    · cases e
  · cases e
    obtain ⟨a, rfl, h3⟩ := (show ∃ a, v = .ref a ∧ SqL K F a _ from u)
    exact .inl ⟨_, r.sub.seq h3, by simp⟩
  · cases q : seqU S x with
    | none => rw [q] at e; cases e
    | some ws =>
      rw [q] at e
      have e2 : ws.length = n := Option.some.inj e
      obtain ⟨p, vs, rfl, h1, h2⟩ := seqU_ok (c := ⟨F, μ, S, H⟩) r u q
      rcases h1 with h1 | h1
      · exact .inl ⟨vs, h1, by rw [h2.length, e2]⟩
      · exact .inr ⟨vs, h1, by rw [h2.length, e2]⟩
theorem c_len : FCa X (.builtin "len") oLen := ⟨_, call_len, fun F μ S H σ Wx xs vs r ux Q h => match xs, ux, h with
  | [], _, h => h.elim
  | _ :: _ :: _, _, h => h.elim
  | [x], ux, h => by
    obtain ⟨v, rfl, u⟩ := ux.one
    have h : PoE X.K ⟨F, μ, S, H⟩ σ Wx Q (match lenU S x with
      | some n => .ok (.d (.int n)) S
      | none => .no) := h
    cases e : lenU S x with
    | none => rw [e] at h; exact h.elim
    | some n =>
      rw [e] at h
      exact ⟨v, n, rfl, lenU_ok r u e, h.done r rfl⟩⟩
/-- list(x) as data, as a cell; tuple(x) -/
def oList : Oa
  | [x], S => match seqD S x with
    | some ds => .ok (.d (.lst ds)) S
    | none => .no
  | _, _ => .no
def oListC : Oa
  | [x], S => match seqU S x with
    | some ws => .ok (.r S.length) (S ++ [.lst ws])
    | none => .no
  | _, _ => .no
def oTuple : Oa
  | [x], S => match seqD S x with
    | some ds => .ok (.d (.tup ds)) S
    | none => .no
  | _, _ => .no
theorem seqD_ok {K : PySem.W.Frag} {c : Cf} {x : U} {v : V} {ds : List D} (r : SR K c) (hx : RU K c.F c.μ x v) (h : seqD c.S x = some ds) : ∃ p vs, v = .ref p ∧ (SqL K c.H p vs ∨ SqT K c.H p vs) ∧ RDs K c.F ds vs := by
  unfold seqD at h
  cases q : seqU c.S x with
  | none => rw [q] at h; cases h
  | some ws =>
    rw [q] at h
    obtain ⟨p, vs, a, b, d⟩ := seqU_ok r hx q
    rw [allD_ok (show allD ws = some ds from h)] at d
    exact ⟨p, vs, a, b, RDs.of_u d⟩
theorem c_list : FCa X (.type "list") oList := ⟨_, call_list_of, fun F μ S H σ Wx xs vs r ux Q h => match xs, ux, h with
  | [], _, h => h.elim
  | _ :: _ :: _, _, h => h.elim
  | [x], ux, h => by
    obtain ⟨v, rfl, u⟩ := ux.one
    have h : PoE X.K ⟨F, μ, S, H⟩ σ Wx Q (match seqD S x with
      | some ds => .ok (.d (.lst ds)) S
      | none => .no) := h
    cases e : seqD S x with
    | none => rw [e] at h; exact h.elim
    | some ds =>
      rw [e] at h
      obtain ⟨p, vs, rfl, h1, h2⟩ := seqD_ok (c := ⟨F, μ, S, H⟩) r u e
      exact ⟨p, vs, rfl, h1, fun l hl => newLst h r hl h2⟩⟩
theorem c_listC : FCa X (.type "list") oListC := ⟨_, call_list_of, fun F μ S H σ Wx xs vs r ux Q h => match xs, ux, h with
  | [], _, h => h.elim
  | _ :: _ :: _, _, h => h.elim
  | [x], ux, h => by
    obtain ⟨v, rfl, u⟩ := ux.one
    have h : PoE X.K ⟨F, μ, S, H⟩ σ Wx Q (match seqU S x with
      | some ws => .ok (.r S.length) (S ++ [.lst ws])
      | none => .no) := h
    cases e : seqU S x with
    | none => rw [e] at h; exact h.elim
    | some ds =>
      rw [e] at h
      obtain ⟨p, vs, rfl, h1, h2⟩ := seqU_ok (c := ⟨F, μ, S, H⟩) r u e
      exact ⟨p, vs, rfl, h1, fun l hl => newCell h r hl h2⟩⟩
theorem map_d_inj {zs ds : List D} (h : zs.map U.d = ds.map U.d) : zs = ds := by
  have z2 := congrArg allD h
  simpa using z2
theorem c_tuple : FCa X (.type "tuple") oTuple := ⟨_, call_tuple_of, fun F μ S H σ Wx xs vs r ux Q h => match xs, ux, h with
  | [], _, h => h.elim
  | _ :: _ :: _, _, h => h.elim
  | [x], ux, h => by
    obtain ⟨v, rfl, u⟩ := ux.one
    have hh : PoE X.K ⟨F, μ, S, H⟩ σ Wx Q (match seqD S x with
      | some ds => .ok (.d (.tup ds)) S
      | none => .no) := h
    clear h
    cases e : seqD S x with
    | none => rw [e] at hh; exact hh.elim
    | some ds =>
      rw [e] at hh
      unfold seqD at e
      cases q : seqU S x with
      | none => rw [q] at e; cases e
      | some ws =>
        rw [q] at e
        have ea := allD_ok (show allD ws = some ds from e)
        subst ea
        -- a tuple is itself, a list is copied
        cases x with
        | r i =>
          obtain ⟨p, vs, a1, a2, a3, _⟩ := cellL_ok (c := ⟨F, μ, S, H⟩) r q
          obtain ⟨p', rfl, e2⟩ := (show ∃ p, v = .ref p ∧ μ[i]? = some p from u)
          rw [show (Cf.μ ⟨F, μ, S, H⟩)[i]? = some p' from e2] at a1
          cases a1
          exact ⟨p, vs, rfl, .inl ⟨SqL.of a2, fun l hl => newTup hh r hl (RDs.of_u a3)⟩⟩
        | d y =>
          cases y with
          | lst zs =>
            obtain ⟨p, vs, rfl, h1, h2⟩ := lstD_ok (c := ⟨F, μ, S, H⟩) (xs := zs) r u (by simp [lstD, lstU])
            have ez : zs = ds := map_d_inj (Option.some.inj q)
            subst ez
            exact ⟨p, vs, rfl, .inl ⟨SqL.of h1, fun l hl => newTup hh r hl h2⟩⟩
          | tup zs =>
            have ez : zs = ds := map_d_inj (Option.some.inj q)
            subst ez
            obtain ⟨p, vs, rfl, h1, h2⟩ := (show ∃ a vs, v = .ref a ∧ TpA X.K F a vs ∧ RDs X.K F zs vs from u)
            exact ⟨p, vs, rfl, .inr ⟨h1.sq r.sub, hh.done r ⟨p, vs, rfl, h1, h2⟩⟩⟩
          | _ => cases q⟩
/-- sums, the least, the greatest of whole numbers -/
def allI : List D → Option (List Int)
  | [] => some []
  | .int i :: r => (allI r).map (i :: ·)
  | _ :: _ => none
@[simp] theorem allI_map : ∀ xs : List Int, allI (xs.map D.int) = some xs
  | [] => rfl
  | x :: xs => by simp [allI, allI_map xs]
theorem allI_ok : ∀ {ds : List D} {ns : List Int}, allI ds = some ns → ds = ns.map D.int
  | [], xs, h => by
    have e : ([] : List Int) = xs := Option.some.inj h
    rw [← e]; rfl
  | d :: r, xs, h => by
    cases d with
    | int i =>
      unfold allI at h
      cases q : allI r with
      | none => rw [q] at h; cases h
      | some ys =>
        rw [q] at h
        have e : i :: ys = xs := Option.some.inj h
        rw [← e, allI_ok q]; rfl
    | _ => cases h
def lstI (S : Sto) (x : U) : Option (List Int) := (lstD S x).bind allI
theorem lstI_ok {K : PySem.W.Frag} {c : Cf} {x : U} {v : V} {ns : List Int} (r : SR K c) (hx : RU K c.F c.μ x v) (h : lstI c.S x = some ns) : ∃ p, v = .ref p ∧ c.H p = some (.lst (ns.map V.int)) := by
  unfold lstI at h
  cases q : lstD c.S x with
  | none => rw [q] at h; cases h
  | some ds =>
    rw [q] at h
    obtain ⟨p, vs, a, b, d⟩ := lstD_ok r hx q
    rw [allI_ok (show allI ds = some ns from h)] at d
    rw [RDs.ints d] at b
    exact ⟨p, a, b⟩
def oSum : Oa
  | [x], S => match lstI S x with
    | some ns => .ok (.d (.int ns.sum)) S
    | none => .no
  | _, _ => .no
theorem c_sum (hc : X.calm = true) : FCa X (.builtin "sum") oSum := ⟨_, cr_sum hc, fun F μ S H σ Wx xs vs r ux Q h => by
  unfold oSum at h
  split at h
  · split at h
    · rename_i x ns e
      obtain ⟨v, rfl, u⟩ := ux.one
      obtain ⟨p, rfl, h1⟩ := lstI_ok (c := ⟨F, μ, S, H⟩) r u e
      exact ⟨p, ns, rfl, SqL.of h1, h.done r rfl⟩
    · exact h.elim
  · exact h.elim⟩
def minL : Int → List Int → Int
  | a, [] => a
  | a, b :: r => minL (if b < a then b else a) r
def maxL : Int → List Int → Int
  | a, [] => a
  | a, b :: r => maxL (if a < b then b else a) r
theorem minL_le : ∀ (l : List Int) (a : Int), minL a l ≤ a ∧ (∀ y ∈ l, minL a l ≤ y) ∧ (minL a l = a ∨ minL a l ∈ l)
  | [], a => ⟨Int.le_refl _, (fun _ h => by cases h), Or.inl rfl⟩
  | b :: r, a => by
    obtain ⟨h1, h2, h3⟩ := minL_le r (if b < a then b else a)
    unfold minL
    generalize hz : minL (if b < a then b else a) r = z at h1 h2 h3 ⊢
    have k : z ≤ a ∧ z ≤ b := by split at h1 <;> omega
    refine ⟨k.1, fun y hy => ?_, ?_⟩
    · rcases List.mem_cons.mp hy with e | hy
      · rw [e]; exact k.2
      · exact h2 y hy
    · rcases h3 with h3 | h3
      · by_cases hb : b < a
        · rw [if_pos hb] at h3
          exact Or.inr (by rw [h3]; simp)
        · rw [if_neg hb] at h3
          exact Or.inl h3
      · exact Or.inr (List.mem_cons_of_mem _ h3)
theorem maxL_ge : ∀ (l : List Int) (a : Int), a ≤ maxL a l ∧ (∀ y ∈ l, y ≤ maxL a l) ∧ (maxL a l = a ∨ maxL a l ∈ l)
  | [], a => ⟨Int.le_refl _, (fun _ h => by cases h), Or.inl rfl⟩
  | b :: r, a => by
    obtain ⟨h1, h2, h3⟩ := maxL_ge r (if a < b then b else a)
    unfold maxL
    generalize hz : maxL (if a < b then b else a) r = z at h1 h2 h3 ⊢
    have k : a ≤ z ∧ b ≤ z := by split at h1 <;> omega
    refine ⟨k.1, fun y hy => ?_, ?_⟩
    · rcases List.mem_cons.mp hy with e | hy
      · rw [e]; exact k.2
      · exact h2 y hy
    · rcases h3 with h3 | h3
      · by_cases hb : a < b
        · rw [if_pos hb] at h3
          exact Or.inr (by rw [h3]; simp)
        · rw [if_neg hb] at h3
          exact Or.inl h3
      · exact Or.inr (List.mem_cons_of_mem _ h3)
def oMin : Oa
  | [x], S => match lstI S x with
    | some (n :: ns) => .ok (.d (.int (minL n ns))) S
    | _ => .no
  | [.d (.int i), .d (.int j)], S => .ok (.d (.int (if j < i then j else i))) S
  | _, _ => .no
def oMax : Oa
  | [x], S => match lstI S x with
    | some (n :: ns) => .ok (.d (.int (maxL n ns))) S
    | _ => .no
  | [.d (.int i), .d (.int j)], S => .ok (.d (.int (if j > i then j else i))) S
  | _, _ => .no
theorem CallR.or {f : Value} {r r' : List V → Hp → VK → Prop} (h : CallR X f r) (h' : CallR X f r') : CallR X f (fun xs H Q => r xs H Q ∨ r' xs H Q) := by
  intro pins s σ H xs us Q I rx q
  rcases q with q | q
  · exact h pins s σ H xs us Q I rx q
  · exact h' pins s σ H xs us Q I rx q
theorem c_min (hc : X.calm = true) : FCa X (.builtin "min") oMin := ⟨_, CallR.or (cr_min hc) (call_min2 hc), fun F μ S H σ Wx xs vs r ux Q h => by
  unfold oMin at h
  split at h
  · split at h
    · rename_i x n ns e
      obtain ⟨v, rfl, u⟩ := ux.one
      obtain ⟨p, rfl, h1⟩ := lstI_ok (c := ⟨F, μ, S, H⟩) r u e
      refine .inl ⟨p, n :: ns, rfl, SqL.of h1, by simp, fun m hm hle => ?_⟩
      obtain ⟨k1, k2, k3⟩ := minL_le ns n
      have a1 := hle n (by simp)
      have em : m = minL n ns := by
        have a2 : minL n ns ≤ m := by
          rcases List.mem_cons.mp hm with e | e
          · rw [e]; exact k1
          · exact k2 m e
        have a3 : m ≤ minL n ns := by
          rcases k3 with k3 | k3
          · rw [k3]; exact a1
          · exact hle _ (List.mem_cons_of_mem _ k3)
        omega
      rw [em]
      exact h.done r rfl
    · exact h.elim
  · obtain ⟨v, w, rfl, u1, u2⟩ := ux.two
    exact .inr ⟨_, _, by rw [show v = .int _ from u1, show w = .int _ from u2], h.done r rfl⟩
  · exact h.elim⟩
theorem c_max (hc : X.calm = true) : FCa X (.builtin "max") oMax := ⟨_, CallR.or (cr_max hc) (call_max2 hc), fun F μ S H σ Wx xs vs r ux Q h => by
  unfold oMax at h
  split at h
  · split at h
    · rename_i x n ns e
      obtain ⟨v, rfl, u⟩ := ux.one
      obtain ⟨p, rfl, h1⟩ := lstI_ok (c := ⟨F, μ, S, H⟩) r u e
      refine .inl ⟨p, n :: ns, rfl, SqL.of h1, by simp, fun m hm hle => ?_⟩
      obtain ⟨k1, k2, k3⟩ := maxL_ge ns n
      have a1 := hle n (by simp)
      have em : m = maxL n ns := by
        have a2 : m ≤ maxL n ns := by
          rcases List.mem_cons.mp hm with e | e
          · rw [e]; exact k1
          · exact k2 m e
        have a3 : maxL n ns ≤ m := by
          rcases k3 with k3 | k3
          · rw [k3]; exact a1
          · exact hle _ (List.mem_cons_of_mem _ k3)
        omega
      rw [em]
      exact h.done r rfl
    · exact h.elim
  · obtain ⟨v, w, rfl, u1, u2⟩ := ux.two
    exact .inr ⟨_, _, by rw [show v = .int _ from u1, show w = .int _ from u2], h.done r rfl⟩
  · exact h.elim⟩
def oDvm : Oa
  | [.d (.int i), .d (.int j)], S => if 0 < j ∧ j < 1073741824 then .ok (.d (.tup [.int (i / j), .int (i % j)])) S else .no
  | _, _ => .no
theorem c_divmod : FCa X (.builtin "divmod") oDvm := ⟨_, call_divmod, fun F μ S H σ Wx xs vs r ux Q h => by
  unfold oDvm at h
  split at h
  · split at h
    · rename_i hl
      obtain ⟨v, w, rfl, u1, u2⟩ := ux.two
      exact ⟨_, _, by rw [show v = .int _ from u1, show w = .int _ from u2], hl, fun p hp => newTup h r hp ⟨_, _, rfl, rfl, _, _, rfl, rfl, rfl⟩⟩
    · exact h.elim
  · exact h.elim⟩
end
end Mi

namespace Mi
open PySem PySem.Spec PyProof.Rows L2

section
variable {X : Cx} {Wx : WX} {pos : Pos} {a b e : Expr} {fa fb : EvE}
/-! ### blocks and small statements -/
def sNx : EvS := fun env S => .nx env S
def sSeq (a b : EvS) : EvS := fun env S => match a env S with
  | .nx e1 S1 => b e1 S1
  | r => r
theorem fss_nil : FSs X Wx [] sNx := ⟨_, pss_nil, fun F μ S H σ env r er D h => h σ F μ H (Gw.refl _) r er⟩
theorem fss_cons {st : Stmt} {rest : List Stmt} {t u : EvS} (h1 : FS X Wx st t) (h2 : FSs X Wx rest u) : FSs X Wx (st :: rest) (sSeq t u) := by
  obtain ⟨tt, a1, a2⟩ := h1
  obtain ⟨uu, b1, b2⟩ := h2
  refine ⟨_, pss_cons a1 b1, fun F μ S H σ env r er D h => a2 _ _ _ _ _ env r er _ ?_⟩
  unfold sSeq at h
  cases q : t env S with
  | nx e1 S1 =>
    rw [q] at h
    exact fun σ' F' μ' H' g r' er' => b2 _ _ _ _ _ e1 r' er' D (PoS.later g h)
  | rt x S1 => rw [q] at h; exact h
  | bk e1 S1 => rw [q] at h; exact h
  | ct e1 S1 => rw [q] at h; exact h
  | er x e1 S1 => rw [q] at h; exact h
  | no => rw [q] at h; exact h
theorem fss_one {st : Stmt} {t : EvS} (h1 : FS X Wx st t) : FSs X Wx [st] t := let ⟨tt, a1, a2⟩ := h1; ⟨tt, pss_one a1, a2⟩
theorem fs_pass : FS X Wx (.Pass pos) sNx := ⟨_, ps_pass, fun F μ S H σ env r er D h => h σ F μ H (Gw.refl _) r er⟩
def sBk : EvS := fun env S => .bk env S
def sCt : EvS := fun env S => .ct env S
theorem fs_break : FS X Wx (.Break pos) sBk := ⟨_, ps_break, fun F μ S H σ env r er D h => h σ F μ H (Gw.refl _) r er⟩
theorem fs_continue : FS X Wx (.Continue pos) sCt := ⟨_, ps_continue, fun F μ S H σ env r er D h => h σ F μ H (Gw.refl _) r er⟩
def sNo : EvS := fun _ _ => .no
theorem fs_no {st : Stmt} : FS X Wx st sNo := ⟨_, ps_never, fun F μ S H σ env r er D h => h⟩
theorem fss_no {st : List Stmt} : FSs X Wx st sNo := ⟨_, pss_never, fun F μ S H σ env r er D h => h⟩
def sEx (a : EvE) : EvS := fun env S => (a env S).st env fun _ S1 => .nx env S1
theorem fs_expr (ha : FE X Wx e fa) (hs : swapsWith e none pos.line X.env = pure false := by rfl) : FS X Wx (.Expr e pos) (sEx fa) := by
  obtain ⟨ta, a1, a2⟩ := ha
  exact ⟨_, ps_expr a1 hs, fun F μ S H σ env r er D h => a2 _ _ _ _ _ env r er _ (Po.bindS er h fun x v F μ S H g r u h => h σ F μ H (Gw.refl _) r (er.mono g))⟩
def sRt (a : EvE) : EvS := fun env S => (a env S).st env fun x S1 => .rt x S1
theorem fs_ret (ha : FE X Wx e fa) : FS X Wx (.Return (some e) pos) (sRt fa) := by
  obtain ⟨ta, a1, a2⟩ := ha
  exact ⟨_, ps_ret a1, fun F μ S H σ env r er D h => a2 _ _ _ _ _ env r er _ (Po.bindS er h fun x v F μ S H g r u h => h v F μ H (Gw.refl _) r u)⟩
def sRtN : EvS := fun _ S => .rt (.d .non) S
theorem fs_retN : FS X Wx (.Return none pos) sRtN := ⟨_, ps_retN, fun F μ S H σ env r er D h => h .non F μ H (Gw.refl _) r rfl⟩
def sIf (c : EvT) (t u : EvS) : EvS := fun env S => (c env S).st env fun x S1 => match x with
  | true => t env S1
  | false => u env S1
theorem fs_if {c : Expr} {xs ys : List Stmt} {tc : EvT} {t u : EvS} (hc : FT X Wx c tc) (ha : FSs X Wx xs t) (hb : FSs X Wx ys u) : FS X Wx (.If c xs ys pos) (sIf tc t u) := by
  obtain ⟨t1, h1, h2⟩ := hc
  obtain ⟨t2, k1, k2⟩ := ha
  obtain ⟨t3, l1, l2⟩ := hb
  refine ⟨_, ps_if h1 k1 l1, fun F μ S H σ env r er D h => h2 _ _ _ _ _ env r er _ (Po.bindS er h fun x v F μ S H g r e h => ?_)⟩
  subst e
  cases x with
  | true => rw [if_pos rfl]; exact k2 _ _ _ _ _ env r (er.mono g) _ h
  | false => rw [if_neg Bool.false_ne_true]; exact l2 _ _ _ _ _ env r (er.mono g) _ h

/-! ### targets -/
theorem wipe_set {σ : L2.St} {i : Nat} {x : Option V} : ∀ {vs : List Nat}, i ∈ vs → wipe (σ.set i x) vs = wipe σ vs
  | [], h => nomatch h
  | v :: vs, h => by
    by_cases hv : i ∈ vs
    · unfold wipe; rw [wipe_set hv]
    · have e : i = v := by
        rcases List.mem_cons.mp h with e | e
        · exact e
        · exact absurd e hv
      subst e
      have aux : ∀ ws : List Nat, (wipe (σ.set i x) ws).set i none = (wipe σ ws).set i none := by
        intro ws
        induction ws with
        | nil => show (σ.set i x).set i none = σ.set i none; rw [List.set_set]
        | cons w ws ih =>
          unfold wipe
          by_cases hw : w = i
          · subst hw; rw [List.set_set, List.set_set]; exact ih
          · rw [List.set_comm _ _ hw, ih, List.set_comm _ _ (Ne.symm hw)]
      unfold wipe
      exact aux vs
def gNm (i : Nat) : EvG := fun x env S => .ok (env.set i (some x)) S
theorem fg_name (i : Nat) {x : Str} (hN : X.N.Nodup) (hi : X.N[i]? = some x := by rfl) (hx : Loc X.env.scope x := by first | exact Or.inl rfl | exact Or.inr rfl) (hf : X.fn x = true ∨ X.env.scope.names.lookup x = some .local := by first | exact .inl rfl | exact .inr rfl | assumption) :
    FG X Wx (.Name x pos) [i] (gNm i) := ⟨_, pg_name hN hi hx hf, fun F μ S H σ env r er u v ru Q h => h _ F μ H (Gw.refl _) r ⟨ER.set (c := ⟨F, μ, S, H⟩) er ru i, fun vs hv => wipe_set (hv i (by simp))⟩⟩
/-- targets one after another -/
abbrev EvGs := List U → En → Sto → Rs En
structure FGs (X : Cx) (Wx : WX) (es : List Expr) (is : List Nat) (a : EvGs) : Prop where
  ex : ∃ t, PGs X es t ∧ ∀ F μ S H σ env, SR X.K ⟨F, μ, S, H⟩ → ER X.K ⟨F, μ, S, H⟩ env σ → ∀ us vs, RUs X.K F μ us vs → ∀ Q, Po X.K ⟨F, μ, S, H⟩ σ Wx (fun c e s => ER X.K c e s ∧ ∀ vs, (∀ i ∈ is, i ∈ vs) → wipe s vs = wipe σ vs) Q (a us env S) → t vs σ H Q
def gsNil : EvGs := fun xs env S => match xs with
  | [] => .ok env S
  | _ => .no
def gsCons (g : EvG) (gs : EvGs) : EvGs := fun xs env S => match xs with
  | x :: r => (g x env S).bd fun e S1 => gs r e S1
  | [] => .no
theorem fgs_nil : FGs X Wx [] [] gsNil := ⟨_, pgs_nil, fun F μ S H σ env r er us vs ru Q h => by
  unfold gsNil at h
  split at h
  · exact ⟨ru, h _ F μ H (Gw.refl _) r ⟨er, fun _ _ => rfl⟩⟩
  · exact h.elim⟩
theorem Po.noErr {α β : Type} {K : PySem.W.Frag} {c : Cf} {σ σ' : L2.St} {R : Cf → α → β → Prop} {Q : β → Hp → Prop} {x : Rs α} (hn : ∀ e S, x ≠ .er e S) (h : Po K c σ Wx R Q x) : Po K c σ' Wx R Q x := by
  cases x with
  | ok a S => exact h
  | er e S => exact absurd rfl (hn e S)
  | no => exact h
theorem fgs_cons {es : List Expr} {is js : List Nat} {g : EvG} {gs : EvGs} (h1 : FG X Wx e is g) (h2 : FGs X Wx es js gs) (hn : ∀ us env S x S', gs us env S ≠ .er x S' := by intros; first | (intro z; revert z; simp [gsNil, gsCons, gNm]; done) | skip)
    (hs : (assignEach (e :: es) X.env).map (·.2) = assign e X.env :: (assignEach es X.env).map (·.2) := by rfl) : FGs X Wx (e :: es) (is ++ js) (gsCons g gs) := by
  obtain ⟨t, a1, a2⟩ := h1
  obtain ⟨u, b1, b2⟩ := h2
  refine ⟨_, pgs_cons a1 b1 hs, fun F μ S H σ env r er us vs ru Q h => ?_⟩
  unfold gsCons at h
  split at h
  · rename_i x rest
    obtain ⟨v, vr, rfl, rx, rr⟩ := ru
    refine ⟨v, vr, rfl, a2 _ _ _ _ _ env r er x v rx _ (Po.bind h fun e1 σ1 F1 μ1 S1 H1 g1 r1 er1 h1 => ?_)⟩
    refine b2 _ _ _ _ _ e1 r1 er1.1 rest vr (rr.mono g1.m) _ (Po.noErr (σ := σ) (hn _ _ _) ?_)
    revert h1
    cases gs rest e1 S1 with
    | ok a S2 =>
      intro h1 b F' μ' H' g' r' er'
      refine h1 b F' μ' H' g' r' ⟨er'.1, fun vs hv => ?_⟩
      rw [er'.2 vs fun i hi => hv i (List.mem_append_right _ hi), er1.2 vs fun i hi => hv i (List.mem_append_left _ hi)]
    | er x S2 => exact id
    | no => exact id
  · exact h.elim
/-- a tuple of targets: of a tuple, of a list -/
def gTp (n : Nat) (gs : EvGs) : EvG := fun x env S => match seqU S x with
  | some ws => if ws.length = n then gs ws env S else .no
  | none => .no
theorem PG.or {e : Expr} {t t' : TG} (h : PG X e t) (h' : PG X e t') : PG X e (fun v σ H Q => t v σ H Q ∨ t' v σ H Q) :=
  ⟨fun pins s σ H v u Q I r q => q.elim (fun q => h.run pins s σ H v u Q I r q) (fun q => h'.run pins s σ H v u Q I r q)⟩
theorem fg_tup {es : List Expr} {is : List Nat} {k : Nat} {gs : EvGs} {n : Nat} (hc : X.calm = true) (h : FGs X Wx es is gs) (hn : (assignEach es X.env).length = n := by rfl) (hst : (assignEach es X.env).findIdx? (·.1) = none := by rfl) : FG X Wx (.Tuple es k pos) is (gTp n gs) := by
  obtain ⟨t, a1, a2⟩ := h
  refine ⟨_, PG.or (pg_tup hc a1 hn hst) (pg_lst hc a1 hn hst), fun F μ S H σ env r er u v ru Q h => ?_⟩
  unfold gTp at h
  split at h
  · rename_i ws e
    split at h
    · rename_i hl
      obtain ⟨p, vs, rfl, h1, h2⟩ := seqU_ok (c := ⟨F, μ, S, H⟩) r ru e
      have lv : vs.length = n := by rw [h2.length, hl]
      rcases h1 with h1 | h1
      · exact .inr ⟨p, vs, rfl, h1, lv, a2 _ _ _ _ _ env r er ws vs h2 Q h⟩
      · exact .inl ⟨p, vs, rfl, h1, lv, a2 _ _ _ _ _ env r er ws vs h2 Q h⟩
    · exact h.elim
  · exact h.elim
/-- o[i] = v -/
abbrev Oset := U → U → U → Sto → Rs Unit
structure FSt (X : Cx) (f : Oset) : Prop where
  ex : ∃ t, PSet X t ∧ ∀ F μ S H σ Wx x y z u v w, SR X.K ⟨F, μ, S, H⟩ → RU X.K F μ x u → RU X.K F μ y v → RU X.K F μ z w → ∀ Q : Hp → Prop, Po X.K ⟨F, μ, S, H⟩ σ Wx (fun _ (_ _ : Unit) => True) (fun _ H => Q H) (f x y z S) → t u v w H Q
def gSb (f : Oset) (o i : EvE) : EvG := fun v env S => (o env S).bd fun x S1 => (i env S1).bd fun y S2 => (f x y v S2).bd fun _ S3 => .ok env S3
theorem fg_sub {o i : Expr} {fo fi : EvE} {f : Oset} (ho : FE X Wx o fo) (hi : FE X Wx i fi) (hs : FSt X f)
    (ha : ∀ v, assign (.Subscript o i pos) X.env v = (do
      let ov ← holding [v] (eval o X.env)
      let iv ← holding [v, ov] (eval i X.env)
      standAt pos
      holding [v, ov, iv] (setItem ov iv v)
      release [v, ov, iv] []) := by intro _; rfl) : FG X Wx (.Subscript o i pos) [] (gSb f fo fi) := by
  obtain ⟨to, a1, a2⟩ := ho
  obtain ⟨ti, b1, b2⟩ := hi
  obtain ⟨ts, c1, c2⟩ := hs
  refine ⟨_, pg_sub a1 b1 c1 ha, fun F μ S H σ env r er u v ru Q h => ?_⟩
  refine a2 _ _ _ _ _ env r er _ (Po.bind h fun x xv F1 μ1 S1 H1 g1 r1 u1 h => ?_)
  refine b2 _ _ _ _ _ env r1 (er.mono g1) _ (Po.bind h fun y yv F2 μ2 S2 H2 g2 r2 u2 h => ?_)
  refine c2 _ _ _ _ _ _ _ _ _ _ _ _ r2 (u1.mono g2.m) u2 ((ru.mono g1.m).mono g2.m) _ (Po.bind h fun _ _ F3 μ3 S3 H3 g3 r3 _ h => ?_)
  exact h.done r3 ⟨((er.mono g1).mono g2).mono g3, fun _ _ => rfl⟩
def setLst : Oset
  | .r c, .d (.int i), z, S => match cellL S c with
    | some ws => (match ixN ws.length i with
      | some j => .ok () (S.set c (.lst (ws.set j z)))
      | none => .no)
    | none => .no
  | _, _, _, _ => .no
theorem st_lst : FSt X setLst := ⟨_, set_list, fun F μ S H σ Wx x y z u v w r ux uy uz Q h => by
  unfold setLst at h
  split at h
  · split at h
    · rename_i ws e
      split at h
      · rename_i j ej
        obtain ⟨p, vs, a1, a2, a3, a4⟩ := cellL_ok (c := ⟨F, μ, S, H⟩) r e
        obtain ⟨q, rfl, e2⟩ := ux
        rw [show (Cf.μ ⟨F, μ, S, H⟩)[_]? = some q from e2] at a1
        have eq : p = q := (Option.some.inj a1).symm
        subst eq
        obtain ⟨r', g⟩ := SR.write (c' := .lst (ws.set j z)) (o' := .lst (vs.set j w)) r a4 (by intro z; cases z) e2 ⟨_, rfl, a3.set uz j⟩
        exact ⟨p, vs, _, j, rfl, uy, a2, by rw [a3.length]; exact ej, h () _ _ _ g r' trivial⟩
      · exact h.elim
    · exact h.elim
  · exact h.elim⟩
/-- target = value -/
def sAs (a : EvE) (g : EvG) : EvS := fun env S => (a env S).st env fun x S1 => (g x env S1).st env fun e' S2 => .nx e' S2
theorem fs_asg {tg : Expr} {is : List Nat} {g : EvG} (ha : FE X Wx e fa) (hg : FG X Wx tg is g) (hs : swapsWithSole [tg] e pos.line X.env = pure false := by rfl) (hw : swappedStores [tg] e X.env = pure none := by rfl)
    (h1 : (assignEach [tg] X.env).map (·.2) = [assign tg X.env] := by rfl) : FS X Wx (.Assign [tg] e pos) (sAs fa g) := by
  obtain ⟨ta, a1, a2⟩ := ha
  obtain ⟨tg', b1, b2⟩ := hg
  refine ⟨_, ps_asg a1 b1 hs hw h1, fun F μ S H σ env r er D h => a2 _ _ _ _ _ env r er _ (Po.bindS er h fun x v F μ S H g r u h => ?_)⟩
  exact b2 _ _ _ _ _ env r (er.mono g) x v u _ (Po.bindS (er.mono g) h fun e' σ' F μ S H g r e' h => h σ' F μ H (Gw.refl _) r e'.1)
/-- name = value -/
def sSt (i : Nat) (a : EvE) : EvS := fun env S => (a env S).st env fun x S1 => .nx (env.set i (some x)) S1
theorem fs_set (i : Nat) {x : Str} {pos' : Pos} (hN : X.N.Nodup) (ha : FE X Wx e fa) (hi : X.N[i]? = some x := by rfl) (hx : Loc X.env.scope x := by first | exact Or.inl rfl | exact Or.inr rfl) (hs : swapsWith e (some (.Name x pos')) pos.line X.env = pure false := by rfl)
    (hf : X.fn x = true ∨ X.env.scope.names.lookup x = some .local := by first | exact .inl rfl | exact .inr rfl | assumption) : FS X Wx (.Assign [.Name x pos'] e pos) (sSt i fa) := by
  obtain ⟨ta, a1, a2⟩ := ha
  exact ⟨_, ps_set hN hi hx a1 hs hf, fun F μ S H σ env r er D h => a2 _ _ _ _ _ env r er _ (Po.bindS er h fun x v F μ S H g r u h => h _ F μ H (Gw.refl _) r (ER.set (er.mono g) u i))⟩
/-- a, b = x, y -/
def sPar (i j : Nat) (a : EvA) : EvS := fun env S => (a env S).st env fun xs S1 => match xs with
  | [x, y] => .nx ((env.set i (some x)).set j (some y)) S1
  | _ => .no
theorem fs_par (i j : Nat) {x y : Str} {ga : EvA} {px py pt : Pos} {kt k2 pt2} (hc : X.calm = true) (hN : X.N.Nodup) (ha : FA X Wx [a, b] ga) (hi : X.N[i]? = some x := by rfl) (hj : X.N[j]? = some y := by rfl) (hij : i ≠ j := by decide)
    (hx : X.env.scope.names.lookup x = some .local := by rfl) (hy : X.env.scope.names.lookup y = some .local := by rfl)
    (hw : swappedStores [.Tuple [.Name x px, .Name y py] kt pt] (.Tuple [a, b] k2 pt2) X.env = pure (some [x, y]) := by rfl)
    (hs : swapsWithSole [.Tuple [.Name x px, .Name y py] kt pt] (.Tuple [a, b] k2 pt2) pos.line X.env = pure false := by rfl) :
    FS X Wx (.Assign [.Tuple [.Name x px, .Name y py] kt pt] (.Tuple [a, b] k2 pt2) pos) (sPar i j ga) := by
  obtain ⟨ta, a1, a2⟩ := ha
  refine ⟨_, ps_par hc hN hi hj hij hx hy a1 hw hs, fun F μ S H σ env r er D h => a2 _ _ _ _ _ env r er _ (Po.bindS er h fun xs vs F μ S H g r u h => ?_)⟩
  split at h
  · obtain ⟨v, w, rfl, u1, u2⟩ := u.two
    exact ⟨v, w, rfl, h _ F μ H (Gw.refl _) r (ER.set (ER.set (er.mono g) u1 i) u2 j)⟩
  · exact h.elim
/-- a, b, c = x, y, z -/
def sPar3 (i j l : Nat) (a : EvA) : EvS := fun env S => (a env S).st env fun xs S1 => match xs with
  | [x, y, z] => .nx (((env.set i (some x)).set j (some y)).set l (some z)) S1
  | _ => .no
theorem fs_par3 (i j l : Nat) {x y z : Str} {c : Expr} {ga : EvA} {px py pz pt : Pos} {kt k2 pt2} (hc : X.calm = true) (hN : X.N.Nodup) (ha : FA X Wx [a, b, c] ga) (hi : X.N[i]? = some x := by rfl) (hj : X.N[j]? = some y := by rfl) (hl : X.N[l]? = some z := by rfl)
    (hij : i ≠ j := by decide) (hil : i ≠ l := by decide) (hjl : j ≠ l := by decide)
    (hx : X.env.scope.names.lookup x = some .local := by rfl) (hy : X.env.scope.names.lookup y = some .local := by rfl) (hz : X.env.scope.names.lookup z = some .local := by rfl)
    (hw : swappedStores [.Tuple [.Name x px, .Name y py, .Name z pz] kt pt] (.Tuple [a, b, c] k2 pt2) X.env = pure (some [x, y, z]) := by rfl)
    (hs : swapsWithSole [.Tuple [.Name x px, .Name y py, .Name z pz] kt pt] (.Tuple [a, b, c] k2 pt2) pos.line X.env = pure false := by rfl) :
    FS X Wx (.Assign [.Tuple [.Name x px, .Name y py, .Name z pz] kt pt] (.Tuple [a, b, c] k2 pt2) pos) (sPar3 i j l ga) := by
  obtain ⟨ta, a1, a2⟩ := ha
  refine ⟨_, ps_par3 hc hN hi hj hl hij hil hjl hx hy hz a1 hw hs, fun F μ S H σ env r er D h => a2 _ _ _ _ _ env r er _ (Po.bindS er h fun xs vs F μ S H g r u h => ?_)⟩
  split at h
  · obtain ⟨v, _, rfl, u1, u2⟩ := u
    obtain ⟨w, w2, rfl, u2, u3⟩ := u2.two
    exact ⟨v, w, w2, rfl, h _ F μ H (Gw.refl _) r (ER.set (ER.set (ER.set (er.mono g) u1 i) u2 j) u3 l)⟩
  · exact h.elim
/-- x += e -/
def sAug (i : Nat) (f : Ov) (a : EvE) : EvS := fun env S => match env[i]? with
  | some (some x) => (a env S).st env fun y S1 => (f x y S1).st env fun z S2 => .nx (env.set i (some z)) S2
  | _ => .no
theorem fs_aug (i : Nat) {x : Str} {op : Operator} {f : Ov} {pos' : Pos} (hN : X.N.Nodup) (ho : FO X (inplaceOp op) f) (ha : FE X Wx e fa) (hi : X.N[i]? = some x := by rfl) (hx : Loc X.env.scope x := by first | exact Or.inl rfl | exact Or.inr rfl)
    (hf : X.fn x = true ∨ X.env.scope.names.lookup x = some .local := by first | exact .inl rfl | exact .inr rfl | assumption) (hn : ∀ x y S z S', f x y S ≠ .er z S') : FS X Wx (.AugAssign (.Name x pos') op e pos) (sAug i f fa) := by
  obtain ⟨ta, a1, a2⟩ := ha
  obtain ⟨r, o1, o2⟩ := ho
  refine ⟨_, ps_aug hN hi hx a1 (ti := r) o1, fun F μ S H σ env r er D h => ?_⟩
  unfold sAug at h
  split at h
  · rename_i w e
    obtain ⟨v, e1, e2⟩ := er.2 i w e
    refine ⟨v, e1, a2 _ _ _ _ _ env r er _ (Po.bindS er h fun y yv F μ S H g r u h => ?_)⟩
    refine o2 _ _ _ _ σ Wx _ _ _ _ r (RU.mono g.m e2) u _ (Po.bindS (er.mono g) h fun z zv F1 μ1 S1 H1 g1 r1 u1 h => ?_)
    exact h _ F1 μ1 H1 (Gw.refl _) r1 (ER.set ((er.mono g).mono g1) u1 i)
  · exact h.elim
end
end Mi

namespace Mi
open PySem PySem.Spec PyProof.Rows L2

/-! ### while -/
def whileN (c : EvT) (b : EvS) : Nat → EvS
  | 0, _, _ => .no
  | n + 1, env, S => (c env S).st env fun x S1 => match x with
    | true => (match b env S1 with
      | .nx e S2 => whileN c b n e S2
      | .ct e S2 => whileN c b n e S2
      | .bk e S2 => .nx e S2
      | r => r)
    | false => .nx env S1
section
variable {X : Cx} {Wx : WX} {pos : Pos} {a b e : Expr} {fa fb : EvE}
theorem FT.can {e : Expr} {a : EvT} (h : FT X Wx e a) : PT X e (cT X.K Wx a) := by
  obtain ⟨t, h1, h2⟩ := h
  exact ⟨fun pins s σ H Q I ⟨F, μ, S, env, r, er, p⟩ => h1.run pins s σ H Q I (h2 _ _ _ _ _ _ r er Q p)⟩
theorem fs_while {c : Expr} {body : List Stmt} {tc : EvT} {tb : EvS} (fuel : Nat) (hp : PassesOwn (model X.prog X.w) X.A X.env X.xe) (hc : FT X Wx c tc) (hb : FSs X Wx body tb) : FS X Wx (.While c body [] pos) (whileN tc tb fuel) := by
  obtain ⟨t1, h1, h2⟩ := hc
  obtain ⟨t2, k1, k2⟩ := hb
  refine ⟨_, ps_while hp h1 k1, fun F μ S H σ env r er D h => ?_⟩
  refine ⟨fun m σ' H' => ∃ F' μ' S' env', SR X.K ⟨F', μ', S', H'⟩ ∧ ER X.K ⟨F', μ', S', H'⟩ env' σ' ∧ PoS X.K ⟨F', μ', S', H'⟩ Wx D (whileN tc tb m env' S'), ⟨fuel, F, μ, S, env, r, er, h⟩, ?_⟩
  rintro m σ1 H1 ⟨F1, μ1, S1, env1, r1, er1, h⟩
  cases m with
  | zero => exact h.elim
  | succ m =>
    refine h2 _ _ _ _ _ env1 r1 er1 _ (Po.bindS er1 h fun x v F μ S H g r e h => ?_)
    subst e
    cases x with
    | false =>
      rw [if_neg Bool.false_ne_true]
      exact h σ1 F μ H (Gw.refl _) r (er1.mono g)
    | true =>
      rw [if_pos rfl]
      refine ⟨fun σ' H' => ∃ F' μ' S' env', SR X.K ⟨F', μ', S', H'⟩ ∧ ER X.K ⟨F', μ', S', H'⟩ env' σ' ∧ PoS X.K ⟨F', μ', S', H'⟩ Wx D (whileN tc tb m env' S'), fun σ' H' q => ⟨m, Nat.lt_succ_self m, q⟩, ?_⟩
      refine k2 _ _ _ _ _ env1 r (er1.mono g) _ ?_
      cases q : tb env1 S with
      | nx e S2 =>
        simp only [q] at h
        exact fun σ' F' μ' H' g' r' er' => ⟨F', μ', S2, e, r', er', PoS.later g' h⟩
      | ct e S2 =>
        simp only [q] at h
        exact fun σ' F' μ' H' g' r' er' => ⟨F', μ', S2, e, r', er', PoS.later g' h⟩
      | bk e S2 => simp only [q] at h; exact h
      | rt x S2 => simp only [q] at h; exact h
      | er x e S2 => simp only [q] at h; exact h
      | no => simp only [q] at h; exact h

/-! ### what is walked -/
structure Itr where
  n : Nat
  get : Sto → Nat → Option (Option U)
abbrev EvI := En → Sto → Rs Itr
def ItOk (K : PySem.W.Frag) (c : Cf) (it : Itr) (J : L2.It) : Prop := ∀ F' μ' S' H', Gw c ⟨F', μ', S', H'⟩ → SR K ⟨F', μ', S', H'⟩ → ∀ i,
  (it.get S' i = some none → J.stop i H') ∧
  ∀ u, it.get S' i = some (some u) → J.go i H' ∧ ∀ x H'', J.yld i H' x H'' → ∃ F'', Gw ⟨F', μ', S', H'⟩ ⟨F'', μ', S', H''⟩ ∧ SR K ⟨F'', μ', S', H''⟩ ∧ RU K F'' μ' u x
theorem ItOk.later {K : PySem.W.Frag} {c c' : Cf} {it : Itr} {J : L2.It} (g : Gw c c') (h : ItOk K c it J) : ItOk K c' it J := fun F' μ' S' H' g' r' => h F' μ' S' H' (g.trans g') r'
structure FI (X : Cx) (Wx : WX) (tg iter : Expr) (it : EvI) : Prop where
  ex : ∃ wi, PI X tg iter wi ∧ ∀ F μ S H σ env, SR X.K ⟨F, μ, S, H⟩ → ER X.K ⟨F, μ, S, H⟩ env σ → ∀ R, Po X.K ⟨F, μ, S, H⟩ σ Wx (fun c it J => ItOk X.K c it J) R (it env S) → wi σ H R
theorem PI.or {tg iter : Expr} {t t' : TI} (h : PI X tg iter t) (h' : PI X tg iter t') : PI X tg iter (fun σ H R => t σ H R ∨ t' σ H R) :=
  ⟨fun pins s σ H R I q => q.elim (fun q => h.run pins s σ H R I q) (fun q => h'.run pins s σ H R I q)⟩
def valI (xs : List U) : Itr := ⟨xs.length + 1, fun _ i => some xs[i]?⟩
/-- a list or a tuple walked -/
def seqI (S : Sto) : U → Option Itr
  | .d (.lst xs) => some (valI (xs.map U.d))
  | .d (.tup xs) => some (valI (xs.map U.d))
  | .d (.scr ns) => some (valI (ns.map fun n => U.d (.int n)))
  | .r c => (cellL S c).map fun ws => ⟨ws.length + 1, fun S i => (cellL S c).map fun ws => ws[i]?⟩
  | _ => none
def iSeq (a : EvE) : EvI := fun env S => (a env S).bd fun x S1 => match seqI S1 x with
  | some it => .ok it S1
  | none => .no
theorem itl_ok {K : PySem.W.Frag} {c : Cf} {p : Addr} {it : Itr} (h : ∀ F' μ' S' H', Gw c ⟨F', μ', S', H'⟩ → SR K ⟨F', μ', S', H'⟩ → ∀ i o, it.get S' i = some o → ∃ ws vs, SqL K H' p vs ∧ RUs K F' μ' ws vs ∧ o = ws[i]?) :
    ItOk K c it (Itl K p) := fun F' μ' S' H' g r i => by
  refine ⟨fun e => ?_, fun u e => ?_⟩
  · obtain ⟨ws, vs, h1, h2, h3⟩ := h F' μ' S' H' g r i none e
    exact ⟨vs, h1, by rw [h2.length]; exact List.getElem?_eq_none_iff.mp h3.symm⟩
  · obtain ⟨ws, vs, h1, h2, h3⟩ := h F' μ' S' H' g r i (some u) e
    obtain ⟨v, h4, h5⟩ := h2.get h3.symm
    refine ⟨⟨vs, v, h1, h4⟩, fun x H'' ⟨e1, e2⟩ => ?_⟩
    subst e1
    have e3 := e2 vs h1
    rw [h4] at e3
    cases e3
    exact ⟨F', Gw.refl _, r, h5⟩
theorem itt_ok {K : PySem.W.Frag} {c : Cf} {p : Addr} {it : Itr} (h : ∀ F' μ' S' H', Gw c ⟨F', μ', S', H'⟩ → SR K ⟨F', μ', S', H'⟩ → ∀ i o, it.get S' i = some o → ∃ ws vs, SqT K H' p vs ∧ RUs K F' μ' ws vs ∧ o = ws[i]?) :
    ItOk K c it (Itt K p) := fun F' μ' S' H' g r i => by
  refine ⟨fun e => ?_, fun u e => ?_⟩
  · obtain ⟨ws, vs, h1, h2, h3⟩ := h F' μ' S' H' g r i none e
    exact ⟨vs, h1, by rw [h2.length]; exact List.getElem?_eq_none_iff.mp h3.symm⟩
  · obtain ⟨ws, vs, h1, h2, h3⟩ := h F' μ' S' H' g r i (some u) e
    obtain ⟨v, h4, h5⟩ := h2.get h3.symm
    refine ⟨⟨vs, v, h1, h4⟩, fun x H'' ⟨e1, e2⟩ => ?_⟩
    subst e1
    have e3 := e2 vs h1
    rw [h4] at e3
    cases e3
    exact ⟨F', Gw.refl _, r, h5⟩
theorem RDs.of_ints' {K : PySem.W.Frag} {F : Hp} {μ : List Addr} (ns : List Int) : RUs K F μ (ns.map fun n => U.d (.int n)) (ns.map V.int) := by
  have z := RDs.u (μ := μ) (RDs.of_ints (K := K) (F := F) ns)
  rw [List.map_map] at z
  exact z
theorem fi_seq {tg e : Expr} {fa : EvE} (ha : FE X Wx e fa) : FI X Wx tg e (iSeq fa) := by
  obtain ⟨t, a1, a2⟩ := ha
  refine ⟨_, PI.or (pi_list a1) (pi_tup a1), fun F μ S H σ env r er R h => ?_⟩
  -- which of both is known by the value
  unfold iSeq at h
  cases q : fa env S with
  | no => rw [q] at h; exact h.elim
  | er x S1 =>
    rw [q] at h
    exact .inl (a2 _ _ _ _ _ env r er _ (by rw [q]; exact h))
  | ok x S1 =>
    rw [q] at h
    have h : Po X.K ⟨F, μ, S, H⟩ σ Wx (fun c it J => ItOk X.K c it J) R (match seqI S1 x with
      | some it => .ok it S1
      | none => .no) := h
    cases e1 : seqI S1 x with
    | none => rw [e1] at h; exact h.elim
    | some it =>
      rw [e1] at h
      have lst : (∀ v F' μ' H', Gw ⟨F, μ, S, H⟩ ⟨F', μ', S1, H'⟩ → SR X.K ⟨F', μ', S1, H'⟩ → RU X.K F' μ' x v → ∃ p, v = .ref p ∧ (∃ vs, SqL X.K H' p vs) ∧ ItOk X.K ⟨F', μ', S1, H'⟩ it (Itl X.K p)) → iList X.K t σ H R := fun k => by
        refine a2 _ _ _ _ _ env r er _ ?_
        rw [q]
        intro v F' μ' H' g r' u
        obtain ⟨p, rfl, hs, hi⟩ := k v F' μ' H' g r' u
        exact ⟨p, rfl, hs, h _ F' μ' H' g r' hi⟩
      cases x with
      | r c =>
        refine .inl (lst fun v F' μ' H' g r' u => ?_)
        have e1 : (cellL S1 c).map (fun ws => (⟨ws.length + 1, fun S i => (cellL S c).map fun ws => ws[i]?⟩ : Itr)) = some it := e1
        cases ec : cellL S1 c with
        | none => rw [ec] at e1; cases e1
        | some ws =>
          rw [ec] at e1
          have e1 := Option.some.inj e1
          subst e1
          obtain ⟨p, vs, c1, c2, c3, _⟩ := cellL_ok (c := ⟨F', μ', S1, H'⟩) r' ec
          obtain ⟨p', rfl, e2⟩ := u
          have eq : p = p' := Option.some.inj (c1.symm.trans e2)
          subst eq
          refine ⟨p, rfl, ⟨vs, SqL.of c2⟩, itl_ok fun F2 μ2 S2 H2 g2 r2 i o eo => ?_⟩
          have eo : (cellL S2 c).map (fun ws => ws[i]?) = some o := eo
          cases ec2 : cellL S2 c with
          | none => rw [ec2] at eo; cases eo
          | some ws2 =>
            rw [ec2] at eo
            obtain ⟨p2, vs2, d1, d2, d3, _⟩ := cellL_ok (c := ⟨F2, μ2, S2, H2⟩) r2 ec2
            have eq : p = p2 := Option.some.inj ((g2.m.p _ _ c1).symm.trans d1)
            subst eq
            exact ⟨ws2, vs2, SqL.of d2, d3, (Option.some.inj eo).symm⟩
      | d y =>
        cases y with
        | lst zs =>
          refine .inl (lst fun v F' μ' H' g r' u => ?_)
          have e1 := Option.some.inj e1
          subst e1
          obtain ⟨p, vs, rfl, k1, k2⟩ := (show ∃ a vs, v = .ref a ∧ F' a = some (.lst vs) ∧ RDs X.K F' zs vs from u)
          exact ⟨p, rfl, ⟨vs, SqL.of (r'.sub _ _ k1)⟩, itl_ok fun F2 μ2 S2 H2 g2 r2 i o eo => ⟨zs.map U.d, vs, SqL.of (r2.sub _ _ (g2.m.s _ _ k1)), RDs.u (k2.mono g2.m.s), (Option.some.inj eo).symm⟩⟩
        | scr ns =>
          refine .inl (lst fun v F' μ' H' g r' u => ?_)
          have e1 := Option.some.inj e1
          subst e1
          obtain ⟨p, rfl, k1⟩ := (show ∃ a, v = .ref a ∧ SqL X.K F' a (ns.map V.int) from u)
          exact ⟨p, rfl, ⟨_, r'.sub.seq k1⟩, itl_ok fun F2 μ2 S2 H2 g2 r2 i o eo => ⟨_, _, r2.sub.seq (g2.m.s.seq k1), RDs.of_ints' ns, (Option.some.inj eo).symm⟩⟩
        | tup zs =>
          refine .inr (a2 _ _ _ _ _ env r er _ ?_)
          rw [q]
          intro v F' μ' H' g r' u
          have e1 := Option.some.inj e1
          subst e1
          obtain ⟨p, vs, rfl, k1, k2⟩ := (show ∃ a vs, v = .ref a ∧ TpA X.K F' a vs ∧ RDs X.K F' zs vs from u)
          exact ⟨p, rfl, ⟨vs, k1.sq r'.sub⟩, h _ F' μ' H' g r' (itt_ok fun F2 μ2 S2 H2 g2 r2 i o eo => ⟨zs.map U.d, vs, (k1.mono g2.m.s).sq r2.sub, RDs.u (k2.mono g2.m.s), (Option.some.inj eo).symm⟩)⟩
        | _ => cases e1
/-- range(n), range(a, b), range(a, b, c) -/
def rngI (lo : Int) (n : Nat) : Itr := ⟨n + 1, fun _ i => some (if i < n then some (.d (.int (lo + i))) else none)⟩
def iRg1 (t : EvA) : EvI := fun env S => (t env S).bd fun xs S1 => match xs with
  | [.d (.int j)] => if -(2 ^ 62) ≤ j ∧ j < 2 ^ 62 then .ok (rngI 0 j.toNat) S1 else .no
  | _ => .no
def iRg2 (t : EvA) : EvI := fun env S => (t env S).bd fun xs S1 => match xs with
  | [.d (.int i), .d (.int j)] => if -(2 ^ 62) ≤ i ∧ i < 2 ^ 62 ∧ -(2 ^ 62) ≤ j ∧ j < 2 ^ 62 then .ok (rngI i (j - i).toNat) S1 else .no
  | _ => .no
theorem itr_ok {K : PySem.W.Frag} {c : Cf} (lo : Int) (n : Nat) : ItOk K c (rngI lo n) (L2.Itr lo n) := fun F' μ' S' H' g r i => by
  refine ⟨fun e => ?_, fun u e => ?_⟩
  · have e : (if i < n then some (U.d (.int (lo + i))) else none) = none := Option.some.inj e
    by_cases hi : i < n
    · rw [if_pos hi] at e; cases e
    · show n ≤ i; omega
  · have e : (if i < n then some (U.d (.int (lo + i))) else none) = some u := Option.some.inj e
    by_cases hi : i < n
    · rw [if_pos hi] at e
      cases e
      refine ⟨hi, fun x H'' ⟨e1, e2⟩ => ?_⟩
      subst e1
      exact ⟨F', Gw.refl _, r, e2⟩
    · rw [if_neg hi] at e; cases e
theorem fi_range1 {tg : Expr} {p : Pos} {ga : EvA} (hg : Gl X "range") (hm : X.mg "range" = none) (ha : FA X Wx [a] ga) (hs : starEach [a] X.env = [(false, eval a X.env)] := by rfl) : FI X Wx tg (.Call (.Name "range" p) [a] [] pos) (iRg1 ga) := by
  obtain ⟨t, a1, a2⟩ := ha
  refine ⟨_, pi_range1 hg hm a1 hs, fun F μ S H σ env r er R h => a2 _ _ _ _ _ env r er _ (Po.bind h fun xs vs F μ S H g r u h => ?_)⟩
  split at h
  · split at h
    · rename_i hl
      obtain ⟨v, rfl, u1⟩ := u.one
      exact ⟨_, by rw [show v = .int _ from u1], hl.1, hl.2, h.done r (itr_ok _ _)⟩
    · exact h.elim
  · exact h.elim
theorem fi_range2 {tg : Expr} {p : Pos} {ga : EvA} (hg : Gl X "range") (hm : X.mg "range" = none) (ha : FA X Wx [a, b] ga) (hs : starEach [a, b] X.env = [(false, eval a X.env), (false, eval b X.env)] := by rfl) (hs2 : starEach [b] X.env = [(false, eval b X.env)] := by rfl) : FI X Wx tg (.Call (.Name "range" p) [a, b] [] pos) (iRg2 ga) := by
  obtain ⟨t, a1, a2⟩ := ha
  refine ⟨_, pi_range2 hg hm a1 hs hs2, fun F μ S H σ env r er R h => a2 _ _ _ _ _ env r er _ (Po.bind h fun xs vs F μ S H g r u h => ?_)⟩
  split at h
  · split at h
    · rename_i hl
      obtain ⟨v, w, rfl, u1, u2⟩ := u.two
      exact ⟨_, _, by rw [show v = .int _ from u1, show w = .int _ from u2], hl, h.done r (itr_ok _ _)⟩
    · exact h.elim
  · exact h.elim

/-! ### for -/
def forN (get : Sto → Nat → Option (Option U)) (g : EvG) (b : EvS) : Nat → Nat → EvS
  | 0, _, _, _ => .no
  | k + 1, i, env, S => match get S i with
    | none => .no
    | some none => .nx env S
    | some (some x) => (g x env S).st env fun e S1 => match b e S1 with
      | .nx e2 S2 => forN get g b k (i + 1) e2 S2
      | .ct e2 S2 => forN get g b k (i + 1) e2 S2
      | .bk e2 S2 => .nx e2 S2
      | r => r
def sFor (it : EvI) (g : EvG) (b : EvS) : EvS := fun env S => (it env S).st env fun J S1 => forN J.get g b J.n 0 env S1
theorem fs_for {tg iter : Expr} {is : List Nat} {body : List Stmt} {it : EvI} {g : EvG} {tb : EvS} (hp : PassesOwn (model X.prog X.w) X.A X.env X.xe) (hc : X.calm = true) (hi : FI X Wx tg iter it) (hg : FG X Wx tg is g) (hb : FSs X Wx body tb)
    (hs : ∀ x, foldedSetIterable iter X.env x = pure x := by intro _; rfl) : FS X Wx (.For tg iter body [] pos) (sFor it g tb) := by
  obtain ⟨wi, i1, i2⟩ := hi
  obtain ⟨t1, g1, g2⟩ := hg
  obtain ⟨t2, b1, b2⟩ := hb
  refine ⟨_, ps_for hp hc i1 g1 b1 hs, fun F μ S H σ env r er D h => i2 _ _ _ _ _ env r er _ (Po.bindS er h fun J JJ F μ S H gw r ok h => ?_)⟩
  have er := er.mono gw
  refine ⟨fun i m σ' H' => ∃ F' μ' S' env', Gw ⟨F, μ, S, H⟩ ⟨F', μ', S', H'⟩ ∧ SR X.K ⟨F', μ', S', H'⟩ ∧ ER X.K ⟨F', μ', S', H'⟩ env' σ' ∧ PoS X.K ⟨F', μ', S', H'⟩ Wx D (forN J.get g tb m i env' S'), ⟨J.n, F, μ, S, env, Gw.refl _, r, er, h⟩, ?_⟩
  rintro i m σ1 H1 ⟨F1, μ1, S1, env1, gw1, r1, er1, h⟩
  cases m with
  | zero => exact h.elim
  | succ m =>
    obtain ⟨st, go⟩ := ok F1 μ1 S1 H1 gw1 r1 i
    have h : PoS X.K ⟨F1, μ1, S1, H1⟩ Wx D (match J.get S1 i with
      | none => .no
      | some none => .nx env1 S1
      | some (some x) => (g x env1 S1).st env1 fun e S1 => match tb e S1 with
        | .nx e2 S2 => forN J.get g tb m (i + 1) e2 S2
        | .ct e2 S2 => forN J.get g tb m (i + 1) e2 S2
        | .bk e2 S2 => .nx e2 S2
        | r => r) := h
    cases q : J.get S1 i with
    | none => rw [q] at h; exact h.elim
    | some o =>
      rw [q] at h
      cases o with
      | none => exact .inl ⟨st q, h σ1 F1 μ1 H1 (Gw.refl _) r1 er1⟩
      | some x =>
        obtain ⟨go1, go2⟩ := go x q
        refine .inr ⟨go1, fun σ' H' => ∃ F' μ' S' env', Gw ⟨F, μ, S, H⟩ ⟨F', μ', S', H'⟩ ∧ SR X.K ⟨F', μ', S', H'⟩ ∧ ER X.K ⟨F', μ', S', H'⟩ env' σ' ∧ PoS X.K ⟨F', μ', S', H'⟩ Wx D (forN J.get g tb m (i + 1) env' S'), fun σ' H' z => ⟨m, Nat.lt_succ_self m, z⟩, fun v H2 y => ?_⟩
        obtain ⟨F2, gw2, r2, ux⟩ := go2 v H2 y
        have h := PoS.later gw2 h
        refine g2 _ _ _ _ _ env1 r2 (er1.mono gw2) x v ux _ (Po.bindS (er1.mono gw2) h fun e2 σ3 F3 μ3 S3 H3 gw3 r3 e3 h => ?_)
        refine b2 _ _ _ _ _ e2 r3 e3.1 _ ?_
        have gws := ((gw1.trans gw2).trans gw3)
        cases q2 : tb e2 S3 with
        | nx e S2 => simp only [q2] at h; exact fun σ' F' μ' H' g' r' er' => ⟨F', μ', S2, e, gws.trans g', r', er', PoS.later g' h⟩
        | ct e S2 => simp only [q2] at h; exact fun σ' F' μ' H' g' r' er' => ⟨F', μ', S2, e, gws.trans g', r', er', PoS.later g' h⟩
        | bk e S2 => simp only [q2] at h; exact h
        | rt x S2 => simp only [q2] at h; exact h
        | er x e S2 => simp only [q2] at h; exact h
        | no => simp only [q2] at h; exact h

/-! ### comprehensions -/
def wipeE (env : En) : List Nat → En
  | [] => env
  | v :: vs => (wipeE env vs).set v none
theorem ER.wipe {K : PySem.W.Frag} {c : Cf} {env : En} {σ : L2.St} (h : ER K c env σ) : ∀ vs : List Nat, ER K c (wipeE env vs) (wipe σ vs)
  | [] => h
  | v :: vs => ER.clear (ER.wipe h vs) v
abbrev W0 : WX := fun _ _ _ _ => False
/-- nothing is raised here -/
def Rs.ne {α : Type} : Rs α → Rs α
  | .ok a S => .ok a S
  | _ => .no
@[simp] theorem Rs.ne_ok {α : Type} (a : α) (S : Sto) : (Rs.ok a S).ne = .ok a S := rfl
theorem Rs.bd_bd {α β γ : Type} (r : Rs α) (f : α → Sto → Rs β) (k : β → Sto → Rs γ) : (r.bd f).bd k = r.bd fun a S => (f a S).bd k := by cases r <;> rfl
theorem Po.bind0 {α β γ δ : Type} {K : PySem.W.Frag} {c : Cf} {σ : L2.St} {Wx : WX} {R : Cf → α → β → Prop} {R2 : Cf → γ → δ → Prop} {Q2 : δ → Hp → Prop} {Q1 : β → Hp → Prop} {r : Rs α} {k : α → Sto → Rs γ} (h : Po K c σ Wx R2 Q2 (r.bd k))
    (hk : ∀ a b F μ S H, Gw c ⟨F, μ, S, H⟩ → SR K ⟨F, μ, S, H⟩ → R ⟨F, μ, S, H⟩ a b → Po K c σ Wx R2 Q2 (k a S) → Q1 b H) : Po K c σ Wx R Q1 r := by
  cases r with
  | ok a S => exact fun b F' μ' H' g s rr => hk a b F' μ' S H' g s rr h
  | er x S => exact h
  | no => exact h
theorem Po.bindK {α β γ δ : Type} {K : PySem.W.Frag} {c c1 : Cf} {σ σ' : L2.St} {Wx Wx' : WX} {R : Cf → α → β → Prop} {R2 : Cf → γ → δ → Prop} {Q2 : δ → Hp → Prop} {Q1 : β → Hp → Prop} {r : Rs α} {k : α → Sto → Rs γ} (h : Po K c1 σ Wx R2 Q2 (r.ne.bd k))
    (hk : ∀ a b F μ S H, Gw c ⟨F, μ, S, H⟩ → SR K ⟨F, μ, S, H⟩ → R ⟨F, μ, S, H⟩ a b → Po K c1 σ Wx R2 Q2 (k a S) → Q1 b H) : Po K c σ' Wx' R Q1 r := by
  cases r with
  | ok a S => exact fun b F' μ' H' g s rr => hk a b F' μ' S H' g s rr h
  | er x S => exact h.elim
  | no => exact h.elim
theorem wipe_set0 {σ : L2.St} {i : Nat} : ∀ vs : List Nat, wipe (σ.set i none) vs = (wipe σ vs).set i none
  | [] => rfl
  | v :: vs => by
    unfold wipe
    rw [wipe_set0 vs]
    by_cases h : i = v
    · subst h; rfl
    · rw [List.set_comm _ _ h]
theorem wipe_wipe (σ : L2.St) : ∀ vs : List Nat, wipe (wipe σ vs) vs = wipe σ vs
  | [] => rfl
  | v :: vs => by
    show (wipe ((wipe σ vs).set v none) vs).set v none = (wipe σ vs).set v none
    rw [wipe_set0, List.set_set, wipe_wipe σ vs]
def compN (get : Sto → Nat → Option (Option U)) (g : EvG) (tt : EvT) (te : EvE) (ew : En) : Nat → Nat → List U → Sto → Rs (List U)
  | 0, _, _, _ => .no
  | k + 1, i, acc, S => match get S i with
    | none => .no
    | some none => .ok acc S
    | some (some x) => (g x ew S).ne.bd fun e2 S2 => (tt e2 S2).ne.bd fun b S3 => match b with
      | true => (te e2 S3).ne.bd fun y S4 => if acc.length < sizeLine then compN get g tt te ew k (i + 1) (acc ++ [y]) S4 else .no
      | false => compN get g tt te ew k (i + 1) acc S3
def tYs : EvT := fun _ S => .ok true S
def FTs (X : Cx) (Wx : WX) (ifs : List Expr) (a : EvT) : Prop := PTs X ifs (cT X.K Wx a)
theorem fts_nil : FTs X Wx [] tYs := ⟨fun pins s σ H Q I ⟨F, μ, S, env, r, er, p⟩ => pts_nil.run pins s σ H Q I (p.done r rfl)⟩
theorem fts_one {c : Expr} {tc : EvT} (h : FT X Wx c tc) : FTs X Wx [c] tc := pts_one h.can
def eLc (it : EvI) (g : EvG) (tt : EvT) (te : EvE) (vs : List Nat) : EvA := fun env S => (it env S).bd fun J S1 => compN J.get g tt te (wipeE env vs) J.n 0 [] S1
def eComp (a : EvA) : EvE := fun env S => (a env S).bd fun xs S1 => match allD xs with
  | some ds => .ok (.d (.lst ds)) S1
  | none => .no
def eCompC (a : EvA) : EvE := fun env S => (a env S).bd fun xs S1 => .ok (.r S1.length) (S1 ++ [.lst xs])
theorem Gw.reExtra {c : Cf} {F : Hp} {μ : List Addr} {S : Sto} {H : Hp} {D : Addr} {o : HO} (g : Gw c ⟨F, μ, S, H⟩) (hD : c.H D = none) : Gw c ⟨F, μ, S, upd H D o⟩ :=
  ⟨g.m, g.n, fun b u e n => ⟨(upd_ne (ne_of_none e hD)).trans (g.f b u e n).1, (g.f b u e n).2⟩, g.k⟩
/-- the reading of a comprehension, up to its end: the new list D is no one's -/
theorem lc_run {is vs : List Nat} {wi : TI} {it : EvI} {g : EvG} {tt : EvT} {te : EvE} {F : Hp} {μ : List Addr} {S : Sto} {H : Hp} {σ : L2.St} {env : En} {γ δ : Type} {R2 : Cf → γ → δ → Prop} {Q2 : δ → Hp → Prop} {k : List U → Sto → Rs γ} {Q : VK}
    (i2 : ∀ F μ S H σ env, SR X.K ⟨F, μ, S, H⟩ → ER X.K ⟨F, μ, S, H⟩ env σ → ∀ R, Po X.K ⟨F, μ, S, H⟩ σ Wx (fun c it J => ItOk X.K c it J) R (it env S) → wi σ H R)
    (hv : ∀ i ∈ is, i ∈ vs) (r : SR X.K ⟨F, μ, S, H⟩) (er : ER X.K ⟨F, μ, S, H⟩ env σ)
    (h : Po X.K ⟨F, μ, S, H⟩ σ Wx R2 Q2 ((eLc it g tt te vs env S).bd k))
    (hd : ∀ D acc av F' μ' S' H', (∀ b o, H b = some o → ¬ Al μ S b → b ≠ D) → Gw ⟨F, μ, S, H⟩ ⟨F', μ', S', H'⟩ → SR X.K ⟨F', μ', S', H'⟩ → H' D = some (.lst av) → ¬ Al μ' S' D → F' D = none → RUs X.K F' μ' acc av → Po X.K ⟨F, μ, S, H⟩ σ Wx R2 Q2 (k acc S') → Q (.ref D) H') :
    tLc wi (cG X.K W0 is g) (cT X.K W0 tt) (cE X.K W0 te) vs σ H Q := by
  unfold eLc at h
  rw [Rs.bd_bd] at h
  refine i2 _ _ _ _ _ env r er _ (Po.bind0 h fun J JJ F1 μ1 S1 H1 g1 r1 ok h => ?_)
  have er := er.mono g1
  intro D hD
  obtain ⟨rx, gx, nal, fn⟩ := r1.extra (o := .lst []) hD
  have hne : ∀ b o, H b = some o → ¬ Al μ S b → b ≠ D := fun b o e ha z => by
    have z2 := (g1.f b o e ha).1
    rw [z, show (Cf.H ⟨F1, μ1, S1, H1⟩) D = none from hD] at z2
    cases z2
  refine ⟨fun i m H' => ∃ F' μ' S' acc av, Gw ⟨F1, μ1, S1, H1⟩ ⟨F', μ', S', H'⟩ ∧ SR X.K ⟨F', μ', S', H'⟩ ∧ H' D = some (.lst av) ∧ ¬ Al μ' S' D ∧ F' D = none ∧ RUs X.K F' μ' acc av ∧
    Po X.K ⟨F, μ, S, H⟩ σ Wx R2 Q2 ((compN J.get g tt te (wipeE env vs) m i acc S').bd k), ⟨J.n, F1, μ1, S1, [], [], gx, rx, upd_same, nal, fn, rfl, h⟩, ?_⟩
  rintro i m H2 ⟨F2, μ2, S2, acc, av, g2, r2, hD2, nal2, fn2, ua, h⟩
  cases m with
  | zero => exact h.elim
  | succ m =>
    obtain ⟨st, go⟩ := ok F2 μ2 S2 H2 g2 r2 i
    have h : Po X.K ⟨F, μ, S, H⟩ σ Wx R2 Q2 ((match J.get S2 i with
      | none => .no
      | some none => .ok acc S2
      | some (some x) => (g x (wipeE env vs) S2).ne.bd fun e2 S2 => (tt e2 S2).ne.bd fun b S3 => match b with
        | true => (te e2 S3).ne.bd fun y S4 => if acc.length < sizeLine then compN J.get g tt te (wipeE env vs) m (i + 1) (acc ++ [y]) S4 else .no
        | false => compN J.get g tt te (wipeE env vs) m (i + 1) acc S3 : Rs (List U)).bd k) := h
    cases q : J.get S2 i with
    | none => rw [q] at h; exact h.elim
    | some o =>
      rw [q] at h
      cases o with
      | none => exact .inl ⟨st q, hd D acc av F2 μ2 S2 H2 hne (g1.trans g2) r2 hD2 nal2 fn2 ua h⟩
      | some x =>
        obtain ⟨go1, go2⟩ := go x q
        refine .inr ⟨go1, _, fun H' z => ⟨m, Nat.lt_succ_self m, z⟩, fun v H3 y => ?_⟩
        obtain ⟨F3, gw3, r3, ux⟩ := go2 v H3 y
        dsimp only at h
        rw [Rs.bd_bd] at h
        refine ⟨F3, μ2, S2, wipeE env vs, x, r3, ((er.mono g2).mono gw3).wipe vs, ux, Po.bindK h fun e2 σ4 F4 μ4 S4 H4 gw4 r4 e4 h => ⟨(e4.2 vs hv).trans (wipe_wipe σ vs), ?_⟩⟩
        rw [Rs.bd_bd] at h
        have gA := (gw3.trans gw4)
        refine ⟨F4, μ4, S4, e2, r4, e4.1, Po.bindK h fun b b' F5 μ5 S5 H5 gw5 r5 e5 h => ?_⟩
        subst e5
        have gB := gA.trans gw5
        cases b with
        | false =>
          rw [if_neg Bool.false_ne_true]
          exact ⟨F5, μ5, S5, acc, av, g2.trans gB, r5, (gB.f D _ hD2 nal2).1, (gB.f D _ hD2 nal2).2, gB.k D _ hD2 nal2 fn2, ua.mono gB.m, h⟩
        | true =>
          rw [if_pos rfl]
          dsimp only at h
          rw [Rs.bd_bd] at h
          refine ⟨F5, μ5, S5, e2, r5, e4.1.mono gw5, Po.bindK h fun y yv F6 μ6 S6 H6 gw6 r6 uy h => ?_⟩
          have gC := gB.trans gw6
          by_cases hl : acc.length < sizeLine
          · rw [if_pos hl] at h
            have nD := (gC.f D _ hD2 nal2).2
            have fD := gC.k D _ hD2 nal2 fn2
            have rE := r6.reExtra (D := D) (o := .lst (av ++ [yv])) nD fD
            exact ⟨av, (gC.f D _ hD2 nal2).1, by rw [ua.length]; exact hl, F6, μ6, S6, acc ++ [y], av ++ [yv], (g2.trans gC).reExtra hD, rE, upd_same, nD, fD, (ua.mono gC.m).append ⟨yv, [], rfl, uy, rfl⟩, h⟩
          · rw [if_neg hl] at h; exact h.elim
/-- .. a list of data -/
theorem lc_data {F F' : Hp} {μ μ' : List Addr} {S S' : Sto} {H H' : Hp} {D : Addr} {ds : List Mi.D} {av : List V} {σ : L2.St} {Q : VK} (hne : ∀ b o, H b = some o → ¬ Al μ S b → b ≠ D) (g : Gw ⟨F, μ, S, H⟩ ⟨F', μ', S', H'⟩) (r : SR X.K ⟨F', μ', S', H'⟩) (hD : H' D = some (.lst av)) (nal : ¬ Al μ' S' D) (fn : F' D = none)
    (ua : RDs X.K F' ds av) (h : PoE X.K ⟨F, μ, S, H⟩ σ Wx Q (.ok (.d (.lst ds)) S')) : Q (.ref D) H' := by
  obtain ⟨r', m⟩ := r.adopt hD nal fn
  refine h (.ref D) _ _ _ ⟨g.m.trans m, g.n, g.f, fun b o e n z => (upd_ne (hne b o e n)).trans (g.k b o e n z)⟩ r' ⟨D, av, rfl, upd_same, ua.mono m.s⟩
theorem lc_cell {F F' : Hp} {μ μ' : List Addr} {S S' : Sto} {H H' : Hp} {D : Addr} {ws : List U} {av : List V} {σ : L2.St} {Q : VK} (hne : ∀ b o, H b = some o → ¬ Al μ S b → b ≠ D) (g : Gw ⟨F, μ, S, H⟩ ⟨F', μ', S', H'⟩) (r : SR X.K ⟨F', μ', S', H'⟩) (hD : H' D = some (.lst av)) (nal : ¬ Al μ' S' D) (fn : F' D = none)
    (ua : RUs X.K F' μ' ws av) (h : PoE X.K ⟨F, μ, S, H⟩ σ Wx Q (.ok (.r S'.length) (S' ++ [.lst ws]))) : Q (.ref D) H' := by
  have rl : μ'.length = S'.length := r.len
  have m0 : Mo F' F' μ' (μ' ++ [D]) := ⟨Same.refl _, fun i q h => by rw [List.getElem?_append_left (List.getElem?_eq_some_iff.mp h).1]; exact h⟩
  obtain ⟨r', m⟩ := r.adoptC (x := .lst ws) hD nal fn ⟨av, rfl, ua.mono m0⟩
  refine h (.ref D) _ _ _ ⟨g.m.trans m, Nat.le_trans g.n (by simp), fun b o e n => ⟨(g.f b o e n).1, fun z => (Al.push rl z).elim (g.f b o e n).2 (hne b o e n)⟩, g.k⟩ r' ⟨D, rfl, ?_⟩
  show (μ' ++ [D])[S'.length]? = some D
  rw [List.getElem?_append_right (by omega)]; simp [rl]
section
variable {elt tg iter : Expr} {ifs : List Expr} {scope : Scope} {own : List (Str × Nat)} {it : EvI} {g : EvG} {tt : EvT} {te : EvE} {is : List Nat}
theorem fe_comp (hc : X.calm = true) (hN : X.N.Nodup) (hi : FI X Wx tg iter it) (ok : BlkOk X.N X.env.scope scope own) (hv : ∀ i ∈ is, i ∈ own.map (·.2))
    (hg : ∀ (s : Shared) (H : Hp) (C : Addr) (cl : List (Str × Addr)) (fp : List Addr), FG (X.blk s H scope (compEnvC scope cl C X.env) fp) W0 tg is g) (ht : ∀ (s : Shared) (H : Hp) (C : Addr) (cl : List (Str × Addr)) (fp : List Addr), FTs (X.blk s H scope (compEnvC scope cl C X.env) fp) W0 ifs tt)
    (he : ∀ (s : Shared) (H : Hp) (C : Addr) (cl : List (Str × Addr)) (fp : List Addr), FE (X.blk s H scope (compEnvC scope cl C X.env) fp) W0 elt te) (hs : ∀ x, foldedSetIterable iter X.env x = pure x := by intro _; rfl) :
    FE X Wx (.ListComp elt [⟨tg, iter, ifs, 0⟩] scope pos) (eComp (eLc it g tt te (own.map (·.2)))) := by
  obtain ⟨wi, i1, i2⟩ := hi
  refine ⟨_, pe_lc (g := cG X.K W0 is g) (tt := cT X.K W0 tt) (te := cE X.K W0 te) hc hN i1 ok (fun s H C cl fp => (hg s H C cl fp).can) ht (fun s H C cl fp => (he s H C cl fp).can) hs, fun F μ S H σ env r er Q h => ?_⟩
  refine lc_run i2 hv r er h fun D acc av F' μ' S' H' hne g r' hD nal fn ua h => ?_
  split at h
  · rename_i ds e
    rw [allD_ok e] at ua
    exact lc_data hne g r' hD nal fn (RDs.of_u ua) h
  · exact h.elim
theorem fe_compC (hc : X.calm = true) (hN : X.N.Nodup) (hi : FI X Wx tg iter it) (ok : BlkOk X.N X.env.scope scope own) (hv : ∀ i ∈ is, i ∈ own.map (·.2))
    (hg : ∀ (s : Shared) (H : Hp) (C : Addr) (cl : List (Str × Addr)) (fp : List Addr), FG (X.blk s H scope (compEnvC scope cl C X.env) fp) W0 tg is g) (ht : ∀ (s : Shared) (H : Hp) (C : Addr) (cl : List (Str × Addr)) (fp : List Addr), FTs (X.blk s H scope (compEnvC scope cl C X.env) fp) W0 ifs tt)
    (he : ∀ (s : Shared) (H : Hp) (C : Addr) (cl : List (Str × Addr)) (fp : List Addr), FE (X.blk s H scope (compEnvC scope cl C X.env) fp) W0 elt te) (hs : ∀ x, foldedSetIterable iter X.env x = pure x := by intro _; rfl) :
    FE X Wx (.ListComp elt [⟨tg, iter, ifs, 0⟩] scope pos) (eCompC (eLc it g tt te (own.map (·.2)))) := by
  obtain ⟨wi, i1, i2⟩ := hi
  refine ⟨_, pe_lc (g := cG X.K W0 is g) (tt := cT X.K W0 tt) (te := cE X.K W0 te) hc hN i1 ok (fun s H C cl fp => (hg s H C cl fp).can) ht (fun s H C cl fp => (he s H C cl fp).can) hs, fun F μ S H σ env r er Q h => ?_⟩
  exact lc_run i2 hv r er h fun D acc av F' μ' S' H' hne g r' hD nal fn ua h => lc_cell hne g r' hD nal fn ua h
/-- name = [..] on one line -/
theorem fs_setComp (i : Nat) {y : Str} {py spos : Pos} (hc : X.calm = true) (hN : X.N.Nodup) (hy : X.N[i]? = some y) (hyl : X.env.scope.names.lookup y = some .local)
    (hsw : swapsWith (.ListComp elt [⟨tg, iter, ifs, 0⟩] scope pos) (some (.Name y py)) spos.line X.env = pure true) (hi : FI X Wx tg iter it) (ok : BlkOk X.N X.env.scope scope own) (hv : ∀ i ∈ is, i ∈ own.map (·.2))
    (hg : ∀ (s : Shared) (H : Hp) (C : Addr) (cl : List (Str × Addr)) (fp : List Addr), FG (X.blk s H scope (compEnvC scope cl C X.env) fp) W0 tg is g) (ht : ∀ (s : Shared) (H : Hp) (C : Addr) (cl : List (Str × Addr)) (fp : List Addr), FTs (X.blk s H scope (compEnvC scope cl C X.env) fp) W0 ifs tt)
    (he : ∀ (s : Shared) (H : Hp) (C : Addr) (cl : List (Str × Addr)) (fp : List Addr), FE (X.blk s H scope (compEnvC scope cl C X.env) fp) W0 elt te) (hs : ∀ x, foldedSetIterable iter X.env x = pure x := by intro _; rfl) :
    FS X Wx (.Assign [.Name y py] (.ListComp elt [⟨tg, iter, ifs, 0⟩] scope pos) spos) (sSt i (eComp (eLc it g tt te (own.map (·.2))))) := by
  obtain ⟨wi, i1, i2⟩ := hi
  refine ⟨_, ps_setLc (g := cG X.K W0 is g) (tt := cT X.K W0 tt) (te := cE X.K W0 te) hc hN hy hyl hsw i1 ok (fun s H C cl fp => (hg s H C cl fp).can) ht (fun s H C cl fp => (he s H C cl fp).can) hs, fun F μ S H σ env r er D h => ?_⟩
  have h2 : PoE X.K ⟨F, μ, S, H⟩ σ Wx (fun v H' => D.nx (σ.set i (some v)) H') (eComp (eLc it g tt te (own.map (·.2))) env S) := Po.bindS er h fun x v F μ S H g r u h => h _ F μ H (Gw.refl _) r (ER.set (er.mono g) u i)
  refine lc_run (Q := fun v H' => gName i v σ H' D.nx) i2 hv r er h2 fun D acc av F' μ' S' H' hne g r' hD nal fn ua h => ?_
  split at h
  · rename_i ds e
    rw [allD_ok e] at ua
    exact lc_data hne g r' hD nal fn (RDs.of_u ua) h
  · exact h.elim
theorem fs_setCompC (i : Nat) {y : Str} {py spos : Pos} (hc : X.calm = true) (hN : X.N.Nodup) (hy : X.N[i]? = some y) (hyl : X.env.scope.names.lookup y = some .local)
    (hsw : swapsWith (.ListComp elt [⟨tg, iter, ifs, 0⟩] scope pos) (some (.Name y py)) spos.line X.env = pure true) (hi : FI X Wx tg iter it) (ok : BlkOk X.N X.env.scope scope own) (hv : ∀ i ∈ is, i ∈ own.map (·.2))
    (hg : ∀ (s : Shared) (H : Hp) (C : Addr) (cl : List (Str × Addr)) (fp : List Addr), FG (X.blk s H scope (compEnvC scope cl C X.env) fp) W0 tg is g) (ht : ∀ (s : Shared) (H : Hp) (C : Addr) (cl : List (Str × Addr)) (fp : List Addr), FTs (X.blk s H scope (compEnvC scope cl C X.env) fp) W0 ifs tt)
    (he : ∀ (s : Shared) (H : Hp) (C : Addr) (cl : List (Str × Addr)) (fp : List Addr), FE (X.blk s H scope (compEnvC scope cl C X.env) fp) W0 elt te) (hs : ∀ x, foldedSetIterable iter X.env x = pure x := by intro _; rfl) :
    FS X Wx (.Assign [.Name y py] (.ListComp elt [⟨tg, iter, ifs, 0⟩] scope pos) spos) (sSt i (eCompC (eLc it g tt te (own.map (·.2))))) := by
  obtain ⟨wi, i1, i2⟩ := hi
  refine ⟨_, ps_setLc (g := cG X.K W0 is g) (tt := cT X.K W0 tt) (te := cE X.K W0 te) hc hN hy hyl hsw i1 ok (fun s H C cl fp => (hg s H C cl fp).can) ht (fun s H C cl fp => (he s H C cl fp).can) hs, fun F μ S H σ env r er D h => ?_⟩
  have h2 : PoE X.K ⟨F, μ, S, H⟩ σ Wx (fun v H' => D.nx (σ.set i (some v)) H') (eCompC (eLc it g tt te (own.map (·.2))) env S) := Po.bindS er h fun x v F μ S H g r u h => h _ F μ H (Gw.refl _) r (ER.set (er.mono g) u i)
  exact lc_run (Q := fun v H' => gName i v σ H' D.nx) i2 hv r er h2 fun D acc av F' μ' S' H' hne g r' hD nal fn ua h => lc_cell hne g r' hD nal fn ua h
end
end
end Mi

namespace Mi
open PySem PySem.Spec PyProof.Rows L2

/-! ### defs -/
def startE (N : Nat) (ws : List U) : En := ws.map some ++ List.replicate (N - ws.length) none
def cutR (n : Nat) (x : U) (S : Sto) : Rs U := if S.length ≤ n then .ok x S else if x.below n = true ∧ (S.take n).all (Cell.below n) = true then .ok x (S.take n) else .ok x S
def cutE (n : Nat) (x : Er) (S : Sto) : Rs U := if S.length ≤ n then .er x S else if (S.take n).all (Cell.below n) = true then .er x (S.take n) else .er x S
def fin (n : Nat) : RS → Rs U
  | .rt x S => cutR n x S
  | .nx _ S => cutR n (.d .non) S
  | .er x _ S => cutE n x S
  | _ => .no
/-- a def of m parameters and N names -/
def run (m N : Nat) (body : EvS) (ws : List U) (S : Sto) : Rs U := if ws.length = m then fin S.length (body (startE N ws) S) else .no
/-- what it promises -/
def spF (K : PySem.W.Frag) (n : Nat) (m : Oa) : Sp := fun vs H Q E => ∃ F μ S ws, SR K ⟨F, μ, S, H⟩ ∧ RUs K F μ ws vs ∧ ws.length = n ∧ PoE K ⟨F, μ, S, H⟩ [] (fun c d _ H => E c d H) Q (m ws S)
/-- a def as it is called: x its name, ps its parameters -/
structure FnF (P : Program) (w : World) (K : PySem.W.Frag) (mg : Str → Option Value) (base : Heap) (k : Nat) (f : Addr) (fd : FuncData) (ps : List Str) (m : Oa) : Prop where
  ok : FnOk P w K mg base (L2.CX P w) k f fd ps (spF K ps.length m)
  len : ∀ ws S, ws.length ≠ ps.length → m ws S = .no
theorem FnF.mono {P : Program} {w : World} {K : PySem.W.Frag} {mg : Str → Option Value} {base : Heap} {j k : Nat} {f : Addr} {fd : FuncData} {ps : List Str} {m : Oa} (F : FnF P w K mg base j f fd ps m) (h : j ≤ k) : FnF P w K mg base k f fd ps m := ⟨F.ok.mono h, F.len⟩
section
variable {K : PySem.W.Frag} {F : Hp} {μ : List Addr} {S : Sto} {H : Hp} {c : Cf}
theorem cutR_ok {σ : L2.St} {Wx : WX} {Q : VK} {n : Nat} {x : U} {v : V} (hn : c.μ.length = n) (h : PoE K c σ Wx Q (cutR n x S)) (g : Gw c ⟨F, μ, S, H⟩) (r : SR K ⟨F, μ, S, H⟩) (u : RU K F μ x v) : Q v H := by
  unfold cutR at h
  split at h
  · exact h v F μ H g r u
  · split at h
    · rename_i hc
      exact h v F (μ.take n) H (g.cut hn) (r.cut hc.2) (u.below hc.1)
    · exact h v F μ H g r u
theorem RE.cut {n : Nat} {x : Er} {cls : Value} {d : Option Addr} (h : RE K ⟨F, μ, S, H⟩ x cls d) : RE K ⟨F, μ.take n, S.take n, H⟩ x cls d := by
  obtain ⟨h1, h2⟩ := h
  refine ⟨h1, h2.imp id fun ⟨a, vs, e, h3, h4, h5⟩ => ⟨a, vs, e, h3, fun ⟨j, y, ey, hy, m⟩ => h4 ?_, h5⟩⟩
  have ey : (S.take n)[j]? = some y := ey
  have m : (μ.take n)[j]? = some a := m
  have hj := (List.getElem?_eq_some_iff.mp ey).1
  rw [List.length_take] at hj
  rw [List.getElem?_take_of_lt (by omega)] at ey m
  exact ⟨j, y, ey, hy, m⟩
theorem cutE_ok {σ σ' : L2.St} {E : XK} {Q : VK} {n : Nat} {x : Er} {cls : Value} {d : Option Addr} (hn : c.μ.length = n) (h : PoE K c σ (fun c d _ H => E c d H) Q (cutE n x S)) (g : Gw c ⟨F, μ, S, H⟩) (r : SR K ⟨F, μ, S, H⟩) (u : RE K ⟨F, μ, S, H⟩ x cls d) : E cls d H := by
  unfold cutE at h
  split at h
  · exact h cls d F μ H g r u
  · split at h
    · rename_i hc
      exact h cls d F (μ.take n) H (g.cut hn) (r.cut hc) u.cut
    · exact h cls d F μ H g r u
theorem fin_ok {r : RS} {n : Nat} {Q : VK} {E : XK} (hn : c.μ.length = n) (h : PoE K c [] (fun c d _ H => E c d H) Q (fin n r)) : PoS K c (fun c d _ H => E c d H) { nx := fun _ H' => Q .non H', rt := Q } r := by
  cases r with
  | rt x S => exact fun v F' μ' H' g r u => cutR_ok hn h g r u
  | nx e S => exact fun σ' F' μ' H' g r er => cutR_ok (x := .d .non) (v := .non) hn h g r rfl
  | er x e S => exact fun cls d σ' F' μ' H' g r er re => cutE_ok (σ' := []) hn h g r re
  | bk e S => exact h.elim
  | ct e S => exact h.elim
  | no => exact h.elim
theorem startE_ok {N : List Str} {ws : List U} {vs : List V} (h : RUs K c.F c.μ ws vs) : ER K c (startE N.length ws) (L2.start N vs) := by
  have hl := h.length
  refine ⟨by simp [startE, L2.start, hl], fun i x e => ?_⟩
  unfold startE at e
  by_cases hi : i < ws.length
  · rw [List.getElem?_append_left (by simpa using hi), List.getElem?_map] at e
    cases q : ws[i]? with
    | none => rw [q] at e; cases e
    | some y =>
      rw [q] at e
      cases e
      obtain ⟨v, e1, e2⟩ := h.get q
      refine ⟨v, ?_, e2⟩
      unfold L2.start
      rw [List.getElem?_append_left (by rw [List.length_map]; omega), List.getElem?_map, e1]; rfl
  · rw [List.getElem?_append_right (by simpa using hi), List.getElem?_replicate] at e
    split at e <;> cases e
end
section
variable {P : Program} {w : World} {K : PySem.W.Frag} {mg : Str → Option Value} {base : Heap} {x qual : Str} {params : Arguments} {body : List Stmt} {scope : Scope} {dvs : List V} {kws : List (Str × V)} {f : Addr} {fd : FuncData}
/-- THE RULE for a def: its body, computed by a -/
theorem fn_mk {N ps : List Str} {k : Nat} {a : EvS} (Fd : FunD K x qual params body scope dvs kws f fd) (Sc : FnScope N ps scope)
    (hb : ∀ (cdv : Value) (A : Around) (outer : List Env) (s : Shared) (H : Hp) (E : XK), Room k (A.deeper (envOfC qual scope s.heap.objs.size f cdv)) → Takes (cxOf (L2.CX P w) P w K mg base N qual scope f cdv A outer s H E) (fun c d _ H => E c d H) →
      FSs (cxOf (L2.CX P w) P w K mg base N qual scope f cdv A outer s H E) (fun c d _ H => E c d H) body a) : FnF P w K mg base (k + 1) f fd ps (run ps.length N.length a) := by
  refine ⟨Fd.ok Sc (fun vs H Q E h => ?_) (fun cdv A outer s H vs Q E hr h => ?_), fun ws S hw => by unfold run; rw [if_neg hw]⟩
  · obtain ⟨F, μ, S, ws, r, u, hl, _⟩ := h
    rw [u.length, hl]
  · obtain ⟨t, h1, h2⟩ := hb cdv A outer s H E hr (takes_of rfl rfl rfl rfl)
    obtain ⟨F, μ, S, ws, r, u, hl, p⟩ := h
    refine ⟨t, h1, h2 _ _ _ _ _ (startE N.length ws) r (startE_ok (c := ⟨F, μ, S, H⟩) u) _ (fin_ok (c := ⟨F, μ, S, H⟩) r.len ?_)⟩
    unfold run at p
    rw [if_pos hl] at p
    exact p
end
/-! ### calls -/
/-- a def of the module, called with all its parameters by place -/
structure Dn (P : Program) (w : World) (K : PySem.W.Frag) (mg : Str → Option Value) (base : Heap) (k : Nat) (x : Str) (ps : List Str) (m : Oa) : Prop where
  ex : ∃ f fd, FnF P w K mg base k f fd ps m ∧ mg x = some (.ref f) ∧ PySem.W.keepIn K (.ref f) = true ∧ Binds K fd ps []
theorem Dn.mono {P : Program} {w : World} {K : PySem.W.Frag} {mg : Str → Option Value} {base : Heap} {j k : Nat} {x : Str} {ps : List Str} {m : Oa} (d : Dn P w K mg base j x ps m) (h : j ≤ k) : Dn P w K mg base k x ps m := by
  obtain ⟨f, fd, a, b, c, e⟩ := d.ex
  exact ⟨f, fd, a.mono h, b, c, e⟩
section
variable {X : Cx} {Wx : WX} {pos p : Pos} {e : Expr} {es : List Expr} {ga gk : EvA} {k : Nat} {x : Str} {ps : List Str} {m : Oa}
theorem fe_call (D : Dn X.prog X.w X.K X.mg X.base k x ps m) (hr : Room k X.A) (tk : Takes X Wx) (hg : Gl X x) (ha : FA X Wx (e :: es) ga) (hdb : (x == ("__debug__" : Str)) = false := by decide)
    (he : starEach (e :: es) X.env = (false, eval e X.env) :: starEach es X.env := by rfl) (hpl : (backTo pos (starEach es X.env)).any (·.1) = false := by rfl) : FE X Wx (.Call (.Name x p) (e :: es) [] pos) (eCa m ga) := by
  obtain ⟨f, fd, Fn, hm, hk, hb⟩ := D.ex
  obtain ⟨t, h1, h2⟩ := ha
  refine ⟨_, pe_callSD Fn.ok hr hg hm hk hb .nil (fun σ => passAt tk σ) h1 hdb he hpl, fun F μ S H σ env r er Q h => h2 _ _ _ _ _ env r er _ (Po.bind h fun xs vs F μ S H g r u h => ?_)⟩
  rw [List.append_nil]
  by_cases hl : xs.length = ps.length
  · exact ⟨F, μ, S, xs, r, u, hl, h⟩
  · rw [Fn.len xs S hl] at h; exact h.elim
theorem fe_call0 (D : Dn X.prog X.w X.K X.mg X.base k x ps m) (hr : Room k X.A) (tk : Takes X Wx) (hw : ∀ cls d σ H σ', Wx cls d σ H → Wx cls d σ' H) (hg : Gl X x) (hdb : (x == ("__debug__" : Str)) = false := by decide) : FE X Wx (.Call (.Name x p) [] [] pos) (eCa m aNil) := by
  obtain ⟨f, fd, Fn, hm, hk, hb⟩ := D.ex
  refine ⟨_, pe_call0 (E := fun c d H => Wx c d [] H) Fn.ok hr hg hm hk hb .nil (passes_call tk fun c d σ H h => hw c d [] H σ h) hdb, fun F μ S H σ env r er Q h => ?_⟩
  by_cases hl : ([] : List U).length = ps.length
  · refine ⟨F, μ, S, [], r, rfl, hl, ?_⟩
    have h : PoE X.K ⟨F, μ, S, H⟩ σ Wx Q (m [] S) := h
    revert h
    cases m [] S with
    | ok a S' => exact id
    | er y S' => exact fun h cls d F' μ' H' g r re => hw _ _ _ _ _ (h cls d F' μ' H' g r re)
    | no => exact id
  · have h : PoE X.K ⟨F, μ, S, H⟩ σ Wx Q (m [] S) := h
    rw [Fn.len [] S hl] at h; exact h.elim
/-! keywords -/
def pick {α : Type} (perm : List Nat) (l : List α) : List α := perm.filterMap fun j => l[j]?
theorem pick_vals (perm : List Nat) {vs : List V} {us : List Value} (h : Vals vs us) : Vals (pick perm vs) (pick perm us) := by
  unfold pick
  induction perm with
  | nil => exact .nil
  | cons j r ih =>
    cases e : vs[j]? with
    | none =>
      rw [List.filterMap_cons, List.filterMap_cons, e, h.none_of e]
      exact ih
    | some v =>
      obtain ⟨u, e2, r2⟩ := h.get e
      rw [List.filterMap_cons, List.filterMap_cons, e, e2]
      exact .cons r2 ih
theorem pick_us {K : PySem.W.Frag} {F : Hp} {μ : List Addr} (perm : List Nat) {ws : List U} {vs : List V} (h : RUs K F μ ws vs) : RUs K F μ (pick perm ws) (pick perm vs) := by
  unfold pick
  induction perm with
  | nil => rfl
  | cons j r ih =>
    cases e : ws[j]? with
    | none =>
      have e2 : vs[j]? = none := by
        rw [List.getElem?_eq_none_iff] at e ⊢
        rw [h.length]; exact e
      rw [List.filterMap_cons, List.filterMap_cons, e, e2]
      exact ih
    | some x =>
      obtain ⟨v, e2, r2⟩ := h.get e
      rw [List.filterMap_cons, List.filterMap_cons, e, e2]
      exact ⟨v, _, rfl, r2, ih⟩
/-- a def of the module, called with n values by place and keywords ks -/
structure Kn (P : Program) (w : World) (K : PySem.W.Frag) (mg : Str → Option Value) (base : Heap) (k : Nat) (x : Str) (ps : List Str) (n : Nat) (ks : List Str) (perm : List Nat) (m : Oa) : Prop where
  ex : ∃ f fd, FnF P w K mg base k f fd ps m ∧ mg x = some (.ref f) ∧ PySem.W.keepIn K (.ref f) = true ∧ KBn K fd ps n ks (fun us ws => pick perm (us ++ ws)) (fun vs zs => pick perm (vs ++ zs))
theorem Kn.mono {P : Program} {w : World} {K : PySem.W.Frag} {mg : Str → Option Value} {base : Heap} {j k : Nat} {x : Str} {ps : List Str} {n : Nat} {ks : List Str} {perm : List Nat} {m : Oa} (d : Kn P w K mg base j x ps n ks perm m) (h : j ≤ k) : Kn P w K mg base k x ps n ks perm m := by
  obtain ⟨f, fd, a, b, c, e⟩ := d.ex
  exact ⟨f, fd, a.mono h, b, c, e⟩
def eCaK (n nk : Nat) (perm : List Nat) (m : Oa) (t tk : EvA) : EvE := fun env S => (t env S).bd fun xs S1 => (tk env S1).bd fun zs S2 => if xs.length = n ∧ zs.length = nk then m (pick perm (xs ++ zs)) S2 else .no
structure FK (X : Cx) (Wx : WX) (kws : List Keyword) (a : EvA) : Prop where
  ex : ∃ t, PK X kws t ∧ ∀ F μ S H σ env, SR X.K ⟨F, μ, S, H⟩ → ER X.K ⟨F, μ, S, H⟩ env σ → ∀ Q, PoA X.K ⟨F, μ, S, H⟩ σ Wx Q (a env S) → t σ H Q
theorem fk_nil : FK X Wx [] aNil := ⟨_, pk_nil, fun F μ S H σ env r er Q h => h.done r rfl⟩
theorem fk_cons {kws : List Keyword} {nm : Option Str} {kpos : Pos} {fa : EvE} (ha : FE X Wx e fa) (ht : FK X Wx kws ga) : FK X Wx (⟨nm, e, kpos⟩ :: kws) (aCons fa ga) := by
  obtain ⟨t, h1, h2⟩ := ha
  obtain ⟨u, k1, k2⟩ := ht
  refine ⟨_, pk_cons h1 k1, fun F μ S H σ env r er Q h => h2 _ _ _ _ _ env r er _ (Po.bind h fun x v F μ S H g r ux h => ?_)⟩
  refine k2 _ _ _ _ _ env r (er.mono g) _ (Po.bind h fun xs vs F1 μ1 S1 H1 g1 r1 uxs h => ?_)
  exact h.done r1 ⟨v, vs, rfl, ux.mono g1.m, uxs⟩
variable {n : Nat} {ks : List Str} {perm : List Nat} {kws : List Keyword}
/-- the callee runs, what it raises is wished for at the caller's slots -/
theorem run_fnNS {CX : CXT} {f : Addr} {fd : FuncData} {sp : Sp} {E : L2.St → XK} {g : List Value → List Value → List Value} {gV : List V → List V → List V} {pins : List (Addr × Obj)} {σ : L2.St} {H : Hp} {s : Shared} {Q : VK} {us ws : List Value} {vs zs : List V}
    (F : FnOk X.prog X.w X.K X.mg X.base CX k f fd ps sp) (hr : Room k X.A) (hb : KBn X.K fd ps n ks g gV) (hx : PassesAt CX X σ (E σ))
    (I : Inv X pins σ H s) (r : Vals vs us) (rz : Vals zs ws) (l1 : vs.length = n) (l2 : zs.length = ks.length) (h : sp (gV vs zs) H Q (E σ)) : wpAny (model X.prog X.w) X.A (call (.ref f) us (ks.zip ws)) (EP X pins σ Q) X.xe s := by
  have r2 := hb.rel r rz
  refine wpAny_call (codeAny_mono (F.run X.A X.stack s H ⟨us, ks.zip ws⟩ (g us ws) (gV vs zs) Q (E σ) hr I.env0 (hb.to s us ws I.kIn (r.length.symm.trans l1) (rz.length.symm.trans l2)) r2 h) fun r s' hq => ?_)
  cases r with
  | error e => exact hx pins H s e s' I hq
  | ok fl =>
    cases fl with
    | ret u => exact I.after hq
    | next => exact False.elim hq
    | brk => exact False.elim hq
    | cont => exact False.elim hq
def tCallNS (n m : Nat) (sp : Sp) (gV : List V → List V → List V) (E : L2.St → XK) (t tk : TA) : TE := fun σ H Q => t σ H fun vs H1 => tk σ H1 fun zs H2 => vs.length = n ∧ zs.length = m ∧ sp (gV vs zs) H2 Q (E σ)
theorem pe_callNS {CX : CXT} {f : Addr} {fd : FuncData} {sp : Sp} {E : L2.St → XK} {g : List Value → List Value → List Value} {gV : List V → List V → List V} {t tk : TA}
    (F : FnOk X.prog X.w X.K X.mg X.base CX k f fd ps sp) (hr : Room k X.A) (hg : Gl X x) (hm : X.mg x = some (.ref f)) (hk : PySem.W.keepIn X.K (.ref f) = true) (hb : KBn X.K fd ps n ks g gV) (hx : ∀ σ, PassesAt CX X σ (E σ))
    (ha : PA X (e :: es) t) (hkw : PK X kws tk) (hall : (backToKw pos (keywordEach kws X.env)).all (·.1.isSome) = true := by rfl) (hks : (backToKw pos (keywordEach kws X.env)).filterMap (·.1) = ks := by rfl)
    (hdb : (x == ("__debug__" : Str)) = false := by decide) (he : starEach (e :: es) X.env = (false, eval e X.env) :: starEach es X.env := by rfl)
    (hpl : ((backTo pos (starEach (e :: es) X.env)).any (·.1) || (backToKw pos (keywordEach kws X.env)).any (·.1.isNone)) = false := by rfl) :
    PE X (.Call (.Name x p) (e :: es) kws pos) (tCallNS n ks.length sp gV E t tk) := by
  refine ⟨fun pins s σ H Q I h => ?_⟩
  refine wpAny_Call_Name_kw (ld_glob I hg hm ?_ hdb)
  refine PySem.W.callWith_KW (h₀ := X.base) I.ok.mod.kin hk hall (thn (ha.run pos pins s σ H _ I h) fun us s1 ⟨vs, H1, I1, r, q⟩ => ?_) hpl he
  refine thn (hkw.run pos pins s1 σ H1 _ I1 q) fun ws s2 ⟨zs, H2, I2, rz, l1, l2, q2⟩ => ⟨I2.kIn, ?_⟩
  rw [hks]
  exact run_fnNS F hr hb (hx σ) I2 r rz l1 l2 q2
/-- .. keywords alone -/
theorem pe_callNS0 {CX : CXT} {f : Addr} {fd : FuncData} {sp : Sp} {E : L2.St → XK} {g : List Value → List Value → List Value} {gV : List V → List V → List V} {tk : TA}
    (F : FnOk X.prog X.w X.K X.mg X.base CX k f fd ps sp) (hr : Room k X.A) (hg : Gl X x) (hm : X.mg x = some (.ref f)) (hk : PySem.W.keepIn X.K (.ref f) = true) (hb : KBn X.K fd ps 0 ks g gV) (hx : ∀ σ, PassesAt CX X σ (E σ))
    (hkw : PK X kws tk) (hall : (backToKw pos (keywordEach kws X.env)).all (·.1.isSome) = true := by rfl) (hks : (backToKw pos (keywordEach kws X.env)).filterMap (·.1) = ks := by rfl)
    (hdb : (x == ("__debug__" : Str)) = false := by decide)
    (hpl : ((backTo pos (starEach [] X.env)).any (·.1) || (backToKw pos (keywordEach kws X.env)).any (·.1.isNone)) = false := by rfl) :
    PE X (.Call (.Name x p) [] kws pos) (tCallNS 0 ks.length sp gV E tNil tk) := by
  refine ⟨fun pins s σ H Q I h => ?_⟩
  refine wpAny_Call_Name_kw (ld_glob I hg hm ?_ hdb)
  refine PySem.W.callWith_KW0 (h₀ := X.base) I.ok.mod.kin hk hall ?_ hpl
  obtain h : tk σ H fun zs H2 => ([] : List V).length = 0 ∧ zs.length = ks.length ∧ sp (gV [] zs) H2 Q (E σ) := h
  refine thn (hkw.run pos pins s σ H _ I h) fun ws s2 ⟨zs, H2, I2, rz, l1, l2, q2⟩ => ⟨I2.kIn, ?_⟩
  rw [hks]
  exact run_fnNS (us := []) (vs := []) F hr hb (hx σ) I2 .nil rz l1 l2 q2
theorem fe_callK {nk : Nat} (D : Kn X.prog X.w X.K X.mg X.base k x ps n ks perm m) (hr : Room k X.A) (tk : Takes X Wx) (hg : Gl X x) (ha : FA X Wx (e :: es) ga) (hkw : FK X Wx kws gk)
    (hall : (backToKw pos (keywordEach kws X.env)).all (·.1.isSome) = true := by rfl) (hks : (backToKw pos (keywordEach kws X.env)).filterMap (·.1) = ks := by rfl)
    (hdb : (x == ("__debug__" : Str)) = false := by decide) (he : starEach (e :: es) X.env = (false, eval e X.env) :: starEach es X.env := by rfl)
    (hpl : ((backTo pos (starEach (e :: es) X.env)).any (·.1) || (backToKw pos (keywordEach kws X.env)).any (·.1.isNone)) = false := by rfl) (hn : ks.length = nk := by rfl) : FE X Wx (.Call (.Name x p) (e :: es) kws pos) (eCaK n nk perm m ga gk) := by
  subst hn
  obtain ⟨f, fd, Fn, hm, hk, hb⟩ := D.ex
  obtain ⟨t, h1, h2⟩ := ha
  obtain ⟨u, k1, k2⟩ := hkw
  refine ⟨_, pe_callNS Fn.ok hr hg hm hk hb (fun σ => passAt tk σ) h1 k1 hall hks hdb he hpl, fun F μ S H σ env r er Q h => h2 _ _ _ _ _ env r er _ (Po.bind h fun xs vs F μ S H g r u h => ?_)⟩
  refine k2 _ _ _ _ _ env r (er.mono g) _ (Po.bind h fun zs ws F1 μ1 S1 H1 g1 r1 u1 h => ?_)
  split at h
  · rename_i hl
    refine ⟨by rw [u.length]; exact hl.1, by rw [u1.length]; exact hl.2, ?_⟩
    have ur := pick_us perm ((RUs.mono g1.m u).append u1)
    by_cases hp : (pick perm (xs ++ zs)).length = ps.length
    · exact ⟨F1, μ1, S1, _, r1, ur, hp, h⟩
    · rw [Fn.len _ _ hp] at h; exact h.elim
  · exact h.elim
theorem fe_callK0 {nk : Nat} (D : Kn X.prog X.w X.K X.mg X.base k x ps 0 ks perm m) (hr : Room k X.A) (tk : Takes X Wx) (hg : Gl X x) (hkw : FK X Wx kws gk)
    (hall : (backToKw pos (keywordEach kws X.env)).all (·.1.isSome) = true := by rfl) (hks : (backToKw pos (keywordEach kws X.env)).filterMap (·.1) = ks := by rfl)
    (hdb : (x == ("__debug__" : Str)) = false := by decide)
    (hpl : ((backTo pos (starEach [] X.env)).any (·.1) || (backToKw pos (keywordEach kws X.env)).any (·.1.isNone)) = false := by rfl) (hn : ks.length = nk := by rfl) : FE X Wx (.Call (.Name x p) [] kws pos) (eCaK 0 nk perm m aNil gk) := by
  subst hn
  obtain ⟨f, fd, Fn, hm, hk, hb⟩ := D.ex
  obtain ⟨u, k1, k2⟩ := hkw
  refine ⟨_, pe_callNS0 Fn.ok hr hg hm hk hb (fun σ => passAt tk σ) k1 hall hks hdb hpl, fun F μ S H σ env r er Q h => ?_⟩
  show u σ H _
  have h : PoE X.K ⟨F, μ, S, H⟩ σ Wx Q ((gk env S).bd fun zs S2 => if ([] : List U).length = 0 ∧ zs.length = ks.length then m (pick perm ([] ++ zs)) S2 else .no) := h
  refine k2 _ _ _ _ _ env r er _ (Po.bind h fun zs ws F1 μ1 S1 H1 g1 r1 u1 h => ?_)
  split at h
  · rename_i hl
    refine ⟨rfl, by rw [u1.length]; exact hl.2, ?_⟩
    have ur := pick_us perm u1
    by_cases hp : (pick perm ([] ++ zs)).length = ps.length
    · exact ⟨F1, μ1, S1, _, r1, ur, hp, h⟩
    · rw [Fn.len _ _ hp] at h; exact h.elim
  · exact h.elim
end
/-- how keywords bind, of a def without defaults -/
theorem kbn_of {K : PySem.W.Frag} {x qual : Str} {params : Arguments} {body : List Stmt} {scope : Scope} {f : Addr} {fd : FuncData} {ps : List Str} (F : FunD K x qual params body scope [] [] f fd) (n : Nat) (ks : List Str) (perm : List Nat)
    (h : ∀ (kV doc pm : Value) (an : Option Addr) (cdv ct : Value) (us ws : List Value), us.length = n → ws.length = ks.length → bindArgs (PySem.W.fnOf x qual params body scope .none kV doc pm an cdv ct) ⟨us, ks.zip ws⟩ = pure (ps.zip (pick perm (us ++ ws)))) :
    KBn K fd ps n ks (fun us ws => pick perm (us ++ ws)) (fun vs zs => pick perm (vs ++ zs)) := by
  obtain ⟨oc, od, dV, kV, doc, pm, an, cdv, ct, osl, rfl, lk, hcd, hD, hK⟩ := F.ex
  rcases hD with ⟨_, rfl⟩ | ⟨e, _⟩
  · exact ⟨fun s us ws X l1 l2 => .of_eq (h kV doc pm an cdv ct us ws l1 l2), fun r1 r2 => pick_vals perm (r1.append r2)⟩
  · exact absurd rfl e
end Mi

namespace Mi
open PySem PySem.Spec PyProof.Rows L2

/-! ### isinstance -/
inductive Tg where
  | non | bl | int | str | lst | tup | dct
  deriving DecidableEq
def Tg.nm : Tg → String
  | .non => "NoneType" | .bl => "bool" | .int => "int" | .str => "str" | .lst => "list" | .tup => "tuple" | .dct => "dict"
def tgOf (n : String) : Option Tg := if n = "int" then some .int else if n = "list" then some .lst else if n = "tuple" then some .tup else if n = "str" then some .str else if n = "bool" then some .bl else if n = "dict" then some .dct else none
theorem tgOf_ok {n : String} {t : Tg} (h : tgOf n = some t) : n = t.nm := by
  unfold tgOf at h
  split at h
  · rename_i e; cases h; exact e
  split at h
  · rename_i e; cases h; exact e
  split at h
  · rename_i e; cases h; exact e
  split at h
  · rename_i e; cases h; exact e
  split at h
  · rename_i e; cases h; exact e
  split at h
  · rename_i e; cases h; exact e
  cases h
def isT : Tg → Tg → Bool
  | .bl, .int => true
  | a, b => decide (a = b)
theorem isT_ok (a b : Tg) (hb : b ≠ .non) : kitB a.nm b.nm = some (isT a b) := by
  cases a <;> cases b <;> first | exact absurd rfl hb | decide +kernel
def tagU (S : Sto) : U → Option Tg
  | .d .non => some .non
  | .d (.bl _) => some .bl
  | .d (.int _) => some .int
  | .d (.str _) => some .str
  | .d (.tup _) => some .tup
  | .d (.lst _) => some .lst
  | .d (.scr _) => some .lst
  | .r i => match S[i]? with
    | some (.lst _) => some .lst
    | some (.dK _) => some .dct
    | _ => none
  | _ => none
theorem SqL.ty {K : PySem.W.Frag} {H : Hp} {a : Addr} {xs : List V} (h : SqL K H a xs) : TyX K H (.ref a) (.type "list") := by
  rcases h with (h | ⟨o, h⟩) | ⟨o, its, n, h1, h2, _⟩
  · exact .base (.lst h)
  · exact .base (.frz h)
  · exact .kList h1 h2
theorem SqT.ty {K : PySem.W.Frag} {H : Hp} {a : Addr} {xs : List V} (h : SqT K H a xs) : TyX K H (.ref a) (.type "tuple") := by
  rcases h with (h | ⟨o, h⟩) | ⟨o, its, n, h1, h2, _⟩
  · exact .base (.tup h)
  · exact .fTuple h
  · exact .kTuple h1 h2
theorem tagU_ok {K : PySem.W.Frag} {c : Cf} {x : U} {v : V} {t : Tg} (r : SR K c) (u : RU K c.F c.μ x v) (h : tagU c.S x = some t) : TyX K c.H v (.type t.nm) := by
  unfold tagU at h
  split at h
  · cases h; cases (show v = .non from u); exact .base .non
  · cases h; cases (show v = .bl _ from u); exact .base (.bl _)
  · cases h; cases (show v = .int _ from u); exact .base (.int _)
  · cases h; cases (show v = .str _ from u); exact .base (.str _)
  · cases h
    obtain ⟨a, vs, rfl, h1, _⟩ := (show ∃ a vs, v = .ref a ∧ TpA K c.F a vs ∧ RDs K c.F _ vs from u)
    exact SqT.ty (h1.sq r.sub)
  · cases h
    obtain ⟨a, vs, rfl, h1, _⟩ := (show ∃ a vs, v = .ref a ∧ c.F a = some (.lst vs) ∧ RDs K c.F _ vs from u)
    exact .base (.lst (r.sub _ _ h1))
  · cases h
    obtain ⟨a, rfl, h1⟩ := (show ∃ a, v = .ref a ∧ SqL K c.F a _ from u)
    exact SqL.ty (r.sub.seq h1)
  · split at h
    · rename_i ws e
      cases h
      obtain ⟨p, o, a1, a2, a3, a4⟩ := r.cel _ _ e (by intro z; cases z)
      obtain ⟨q, rfl, e2⟩ := u
      rw [a1] at e2; cases e2
      obtain ⟨vs, rfl, _⟩ := a4
      exact .base (.lst a3)
    · rename_i ws e
      cases h
      obtain ⟨p, o, a1, a2, a3, a4⟩ := r.cel _ _ e (by intro z; cases z)
      obtain ⟨q, rfl, e2⟩ := u
      rw [a1] at e2; cases e2
      obtain ⟨vs, rfl, _⟩ := a4
      exact .base (.dK a3)
    · cases h
  · cases h
def tysOf : List D → Option (List Tg)
  | [] => some []
  | .ty n :: r => match tgOf n, tysOf r with
    | some t, some ts => some (t :: ts)
    | _, _ => none
  | _ :: _ => none
def oIsi : Oa
  | [x, .d (.ty n)], S => match tagU S x, tgOf n with
    | some a, some b => .ok (.d (.bl (isT a b))) S
    | _, _ => .no
  | [x, .d (.tup ts)], S => match tagU S x, tysOf ts with
    | some a, some bs => .ok (.d (.bl (bs.any (isT a)))) S
    | _, _ => .no
  | _, _ => .no
theorem tgOf_non {n : String} {t : Tg} (h : tgOf n = some t) : t ≠ .non := by
  unfold tgOf at h
  intro e
  subst e
  repeat (split at h; cases h)
  cases h
theorem tysOf_ok {K : PySem.W.Frag} {F : Hp} (a : Tg) : ∀ {ds : List D} {ts : List Tg} {vs : List V}, tysOf ds = some ts → RDs K F ds vs → ∃ us, Paired ClsV vs us ∧ PySem.W.kitAny K (.type a.nm) us = some (ts.any (isT a))
  | [], ts, vs, h, u => by
    cases (show vs = [] from u)
    have e : ([] : List Tg) = ts := Option.some.inj h
    subst e
    exact ⟨[], .nil, kitAny_nil⟩
  | d :: ds, ts, vs, h, u => by
    obtain ⟨v, r, rfl, u1, u2⟩ := u
    cases d with
    | ty n =>
      unfold tysOf at h
      split at h
      · rename_i t ts' e1 e2
        cases h
        obtain ⟨us, p1, p2⟩ := tysOf_ok a e2 u2
        cases (show v = .ty n from u1)
        have en := tgOf_ok e1
        refine ⟨.type n :: us, .cons (.ty n) p1, kitAny_cons (b := isT a t) (by rw [en]; exact kit_ty (isT_ok a t (tgOf_non e1))) (fun hb => ?_) (fun hb => by rw [List.any_cons, hb]; rfl)⟩
        rw [p2, List.any_cons, hb]; rfl
      · cases h
    | _ => cases h
section
variable {X : Cx} {Wx : WX} {pos : Pos}
theorem c_isi : FCa X (.builtin "isinstance") oIsi := ⟨_, CallR.or call_isi (CallR.or call_isiT call_isiK), fun F μ S H σ Wx xs vs r ux Q h => by
  unfold oIsi at h
  split at h
  · rename_i x n
    obtain ⟨v, w, rfl, u1, u2⟩ := ux.two
    cases e1 : tagU S x with
    | none => simp only [e1] at h; exact h.elim
    | some a =>
      cases e2 : tgOf n with
      | none => simp only [e1, e2] at h; exact h.elim
      | some b =>
        simp only [e1, e2] at h
        have en := tgOf_ok e2
        refine .inl ⟨v, w, _, .type n, isT a b, rfl, ?_, tagU_ok (c := ⟨F, μ, S, H⟩) r u1 e1, ?_, h.done r rfl⟩
        · cases (show w = .ty n from u2); exact .ty n
        · rw [en]; exact kit_ty (isT_ok a b (tgOf_non e2))
  · rename_i x ts
    obtain ⟨v, w, rfl, u1, u2⟩ := ux.two
    cases e1 : tagU S x with
    | none => simp only [e1] at h; exact h.elim
    | some a =>
      cases e2 : tysOf ts with
      | none => simp only [e1, e2] at h; exact h.elim
      | some bs =>
        simp only [e1, e2] at h
        obtain ⟨p, vs, rfl, k1, k2⟩ := (show ∃ a vs, w = .ref a ∧ TpA X.K F a vs ∧ RDs X.K F ts vs from u2)
        obtain ⟨us, p1, p2⟩ := tysOf_ok a e2 k2
        have ty := tagU_ok (c := ⟨F, μ, S, H⟩) r u1 e1
        rcases k1 with k1 | ⟨o, its, n, q1, q2, q3, q4, q5⟩
        · exact .inr (.inl ⟨v, p, vs, _, us, _, rfl, r.sub _ _ k1, p1, ty, p2, h.done r rfl⟩)
        · have ev := ClsV.all p1 q5
          refine .inr (.inr ⟨v, p, o.dict, us, n, o.slots, _, _, rfl, ?_, ty, p2, h.done r rfl⟩)
          rw [q1, ← ev]
          obtain ⟨oc, od, dt, sl⟩ := o
          simp only at q2 q3
          subst q2 q3
          simp
  · exact h.elim⟩
/-- a built-in's name as a value -/
theorem fe_bltn {x : Str} {n : String} (hg : Gl X x) (hm : X.mg x = none) (hv : bootBuiltins x = some (.type n)) (hn : x ≠ "__name__" := by decide) (hd : (x == ("__debug__" : Str)) = false := by decide) : FE X Wx (.Name x pos) (eC (.ty n)) :=
  ⟨_, pe_bltn (v := .ty n) hg hm hv rfl hn hd, fun F μ S H σ env r er Q h => h.done r rfl⟩

/-! ### chains, truth -/
def eChn (f g : Ov) (a b c : EvE) : EvE := fun env S => (a env S).bd fun x S1 => (b env S1).bd fun y S2 => (f x y S2).bd fun z S3 => match z with
  | .d (.bl true) => (c env S3).bd fun w S4 => g y w S4
  | .d (.bl false) => .ok (.d (.bl false)) S3
  | _ => .no
section
variable {a b c : Expr} {fa fb fc : EvE} {f g : Ov} {op op' : CmpOp}
theorem fe_chain (ho : FO X (compareOp op) f) (ho' : FO X (compareOp op') g) (ha : FE X Wx a fa) (hb : FE X Wx b fb) (hc : FE X Wx c fc) (hm : lastMarks [op, op'] [b, c] = false := by with_unfolding_all rfl) : FE X Wx (.Compare a [op, op'] [b, c] pos) (eChn f g fa fb fc) := by
  obtain ⟨r, o1, o2⟩ := ho
  obtain ⟨r', o1', o2'⟩ := ho'
  obtain ⟨ta, a1, a2⟩ := ha
  obtain ⟨tb, b1, b2⟩ := hb
  obtain ⟨tc, c1, c2⟩ := hc
  refine ⟨_, pe_chain o1 o1' a1 b1 c1 hm, fun F μ S H σ env r er Q h => two a2 b2 r er h fun x y v w F μ S H r er ux uy h => ?_⟩
  refine o2 _ _ _ _ _ _ _ _ _ _ r ux uy _ (Po.bind h fun z zv F1 μ1 S1 H1 g1 r1 uz h => ?_)
  split at h
  · refine ⟨true, uz, ?_⟩
    rw [if_pos rfl]
    exact c2 _ _ _ _ _ env r1 (er.mono g1) _ (Po.bind h fun w' wv F2 μ2 S2 H2 g2 r2 uw h => o2' _ _ _ _ _ _ _ _ _ _ r2 ((uy.mono g1.m).mono g2.m) uw _ h)
  · refine ⟨false, uz, ?_⟩
    rw [if_neg Bool.false_ne_true]
    exact h.done r1 rfl
  · exact h.elim
theorem ft_chain (ho : FO X (compareOp op) f) (ho' : FO X (compareOp op') g) (ha : FE X Wx a fa) (hb : FE X Wx b fb) (hc : FE X Wx c fc) (hm : lastMarks [op, op'] [b, c] = false := by with_unfolding_all rfl) : FT X Wx (.Compare a [op, op'] [b, c] pos) (tB1 (eChn f g fa fb fc)) := by
  obtain ⟨r, o1, o2⟩ := ho
  obtain ⟨r', o1', o2'⟩ := ho'
  obtain ⟨ta, a1, a2⟩ := ha
  obtain ⟨tb, b1, b2⟩ := hb
  obtain ⟨tc, c1, c2⟩ := hc
  refine ⟨_, pt_chain o1 o1' a1 b1 c1 hm, fun F μ S H σ env r er Q h => ?_⟩
  have h' : PoT X.K ⟨F, μ, S, H⟩ σ Wx Q ((fa env S).bd fun x S1 => (fb env S1).bd fun y S2 => ((f x y S2).bd fun z S3 => match z with
      | .d (.bl true) => (fc env S3).bd fun w S4 => g y w S4
      | .d (.bl false) => .ok (.d (.bl false)) S3
      | _ => .no).bd toB) := by
    have e : tB1 (eChn f g fa fb fc) env S = (fa env S).bd fun x S1 => (fb env S1).bd fun y S2 => ((f x y S2).bd fun z S3 => match z with
      | .d (.bl true) => (fc env S3).bd fun w S4 => g y w S4
      | .d (.bl false) => .ok (.d (.bl false)) S3
      | _ => .no).bd toB := by
      unfold tB1 eChn
      rw [Rs.bd_bd]
      congr 1
      funext x S1
      rw [Rs.bd_bd]
    rw [e] at h; exact h
  refine two a2 b2 r er h' fun x y v w F μ S H r er ux uy h => ?_
  rw [Rs.bd_bd] at h
  refine o2 _ _ _ _ _ _ _ _ _ _ r ux uy _ (Po.bind h fun z zv F1 μ1 S1 H1 g1 r1 uz h => ?_)
  split at h
  · refine ⟨true, uz, ?_⟩
    rw [if_pos rfl]
    rw [Rs.bd_bd] at h
    exact c2 _ _ _ _ _ env r1 (er.mono g1) _ (Po.bind h fun w' wv F2 μ2 S2 H2 g2 r2 uw h => o2' _ _ _ _ _ _ _ _ _ _ r2 ((uy.mono g1.m).mono g2.m) uw _ (Po.bind h fun z zv F μ S H g r uz h => toB_ok (c := ⟨F, μ, S, H⟩) r uz h))
  · refine ⟨false, uz, ?_⟩
    rw [if_neg Bool.false_ne_true]
    exact ⟨false, rfl, h.done r1 rfl⟩
  · exact h.elim
end
/-- a value's truth -/
def truU (S : Sto) : U → Option Bool
  | .d .non => some false
  | .d (.bl b) => some b
  | .d (.int i) => some (i != 0)
  | .d (.str y) => if y.length ≤ sizeLine then some ((y.length : Int) != 0) else none
  | x => (seqU S x).map fun ws => !ws.isEmpty
def tTru (a : EvE) : EvT := fun env S => (a env S).bd fun x S1 => match truU S1 x with
  | some b => .ok b S1
  | none => .no
theorem RUs.empty {K : PySem.W.Frag} {F : Hp} {μ : List Addr} {xs : List U} {vs : List V} (h : RUs K F μ xs vs) : vs.isEmpty = xs.isEmpty := by
  have := h.length
  cases xs <;> cases vs <;> simp_all
theorem ft_truth {e : Expr} {fa : EvE} (ha : FE X Wx e fa) (he : ∀ whole, isTrue e X.env whole = (do let v ← whole; standAt e.pos; holding [v] (truthy v)) := by intro _; rfl) : FT X Wx e (tTru fa) := by
  obtain ⟨ta, a1, a2⟩ := ha
  refine ⟨_, pt_truth a1 he, fun F μ S H σ env r er Q h => a2 _ _ _ _ _ env r er _ (Po.bind h fun x v F μ S H g r u h => ?_)⟩
  cases q : truU S x with
  | none => rw [q] at h; exact h.elim
  | some b =>
    rw [q] at h
    refine ⟨b, ?_, h.done r rfl⟩
    unfold truU at q
    split at q
    · cases q; cases (show v = .non from u); rfl
    · cases q; cases (show v = .bl _ from u); rfl
    · cases q; cases (show v = .int _ from u); rfl
    · split at q
      · rename_i hl
        cases q; cases (show v = .str _ from u); exact ⟨hl, rfl⟩
      · cases q
    · cases e : seqU S x with
      | none => rw [e] at q; cases q
      | some ws =>
        rw [e] at q
        have q := Option.some.inj q
        subst q
        obtain ⟨p, vs, rfl, h1, h2⟩ := seqU_ok (c := ⟨F, μ, S, H⟩) r u e
        rcases h1 with h1 | h1
        · exact .inl ⟨vs, h1, by rw [h2.empty]⟩
        · exact .inr (.inl ⟨vs, h1, by rw [h2.empty]⟩)
end
end Mi

namespace Mi
open PySem PySem.Spec PyProof.Rows L2

/-! ### ranges as arguments -/
section
variable {X : Cx} {Wx : WX} {pos p : Pos} {a b c e : Expr} {fa fb fc : EvE}
abbrev EvR := En → Sto → Rs (Int × Int × Int)
def PRc (X : Cx) (e : Expr) (t : L2.St → Hp → (Int × Int × Int → Hp → Prop) → Prop) : Prop :=
  ∀ (pins : List (Addr × Obj)) (s : Shared) (σ : L2.St) (H : Hp) (Q : Int × Int × Int → Hp → Prop), Inv X pins σ H s → t σ H Q →
    wpAny (model X.prog X.w) X.A (eval e X.env) (fun x s' => ∃ r a b c t u v H', x = .ref r ∧ IsRange s'.heap r a b c t u v ∧ Inv X pins σ H' s' ∧ Q (a, b, c) H') X.xe s
structure FRg (X : Cx) (Wx : WX) (e : Expr) (r : EvR) : Prop where
  ex : ∃ t, PRc X e t ∧ ∀ F μ S H σ env, SR X.K ⟨F, μ, S, H⟩ → ER X.K ⟨F, μ, S, H⟩ env σ → ∀ Q, Po X.K ⟨F, μ, S, H⟩ σ Wx (fun _ x y => x = y) Q (r env S) → t σ H Q
def rg1 (ga : EvA) : EvR := fun env S => (ga env S).bd fun xs S1 => match xs with
  | [.d (.int j)] => .ok (0, j, 1) S1
  | _ => .no
def rg2 (ga : EvA) : EvR := fun env S => (ga env S).bd fun xs S1 => match xs with
  | [.d (.int i), .d (.int j)] => .ok (i, j, 1) S1
  | _ => .no
def rg3 (ga : EvA) : EvR := fun env S => (ga env S).bd fun xs S1 => match xs with
  | [.d (.int i), .d (.int j), .d (.int k)] => if k ≠ 0 ∧ k.natAbs < 1073741824 then .ok (i, j, k) S1 else .no
  | _ => .no
variable {ga : EvA}
theorem frg_1 (hg : Gl X "range") (hm : X.mg "range" = none) (ha : FA X Wx [a] ga) (hs : starEach [a] X.env = [(false, eval a X.env)] := by rfl) : FRg X Wx (.Call (.Name "range" p) [a] [] pos) (rg1 ga) := by
  obtain ⟨t, a1, a2⟩ := ha
  refine ⟨fun σ H Q => t σ H fun vs H1 => ∃ j : Int, vs = [.int j] ∧ Q (0, j, 1) H1, fun pins s σ H Q I h => ?_, fun F μ S H σ env r er Q h => a2 _ _ _ _ _ env r er _ (Po.bind h fun xs vs F μ S H g r u h => ?_)⟩
  · refine Call_ (ld_blt I hg hm boot_range (PyProof.Rows.callWith_type1 (thn (a1.run pos pins s σ H _ I h) fun us s1 ⟨vs, H1, I1, r1, j, e, q⟩ => ?_) hs rfl))
    subst e
    obtain ⟨u1, rfl, tk, rfl⟩ := vals1 r1
    exact call_range_1 ⟨_, 0, j, 1, _, _, _, H1, rfl, IsRange.new _ _ _ _ _ _ _, I1.kept fun b u e => Heap.get?_push_of_some _ e, q⟩
  · split at h
    · obtain ⟨v, rfl, u1⟩ := u.one
      exact ⟨_, by rw [show v = .int _ from u1], h.done r rfl⟩
    · exact h.elim
theorem frg_2 (hg : Gl X "range") (hm : X.mg "range" = none) (ha : FA X Wx [a, b] ga) (hs : starEach [a, b] X.env = [(false, eval a X.env), (false, eval b X.env)] := by rfl) (hs2 : starEach [b] X.env = [(false, eval b X.env)] := by rfl) : FRg X Wx (.Call (.Name "range" p) [a, b] [] pos) (rg2 ga) := by
  obtain ⟨t, a1, a2⟩ := ha
  refine ⟨fun σ H Q => t σ H fun vs H1 => ∃ i j : Int, vs = [.int i, .int j] ∧ Q (i, j, 1) H1, fun pins s σ H Q I h => ?_, fun F μ S H σ env r er Q h => a2 _ _ _ _ _ env r er _ (Po.bind h fun xs vs F μ S H g r u h => ?_)⟩
  · refine Call_ (ld_blt I hg hm boot_range (PyProof.Rows.callWith_type1 (thn (a1.run pos pins s σ H _ I h) fun us s1 ⟨vs, H1, I1, r1, i, j, e, q⟩ => ?_) (by rw [hs, hs2]) (by rw [hs2]; rfl)))
    subst e
    obtain ⟨u1, u2, rfl, ⟨t1, rfl⟩, ⟨t2, rfl⟩⟩ := vals2 r1
    exact call_range_2 ⟨_, i, j, 1, _, _, _, H1, rfl, IsRange.new _ _ _ _ _ _ _, I1.kept fun b u e => Heap.get?_push_of_some _ e, q⟩
  · split at h
    · obtain ⟨v, w, rfl, u1, u2⟩ := u.two
      exact ⟨_, _, by rw [show v = .int _ from u1, show w = .int _ from u2], h.done r rfl⟩
    · exact h.elim
theorem frg_3 (hg : Gl X "range") (hm : X.mg "range" = none) (ha : FA X Wx [a, b, c] ga) (hs : starEach [a, b, c] X.env = (false, eval a X.env) :: starEach [b, c] X.env := by rfl) (hpl : (backTo pos (starEach [b, c] X.env)).any (·.1) = false := by rfl) : FRg X Wx (.Call (.Name "range" p) [a, b, c] [] pos) (rg3 ga) := by
  obtain ⟨t, a1, a2⟩ := ha
  refine ⟨fun σ H Q => t σ H fun vs H1 => ∃ i j k : Int, vs = [.int i, .int j, .int k] ∧ (k ≠ 0 ∧ k.natAbs < 1073741824) ∧ Q (i, j, k) H1, fun pins s σ H Q I h => ?_, fun F μ S H σ env r er Q h => a2 _ _ _ _ _ env r er _ (Po.bind h fun xs vs F μ S H g r u h => ?_)⟩
  · refine Call_ (ld_blt I hg hm boot_range (PyProof.Rows.callWith_type1 (thn (a1.run pos pins s σ H _ I h) fun us s1 ⟨vs, H1, I1, r1, i, j, k, e, ⟨c0, c1⟩, q⟩ => ?_) hs hpl))
    subst e
    cases r1 with
    | cons r rr =>
      cases rr with
      | cons r' rr =>
        cases rr with
        | cons r'' rr =>
          cases rr
          obtain ⟨t, rfl⟩ := r
          obtain ⟨t', rfl⟩ := r'
          obtain ⟨t'', rfl⟩ := r''
          exact call_range_3 c0 ⟨_, i, j, k, _, _, _, H1, rfl, IsRange.new _ _ _ _ _ _ _, I1.kept fun b u e => Heap.get?_push_of_some _ e, q⟩ (.inl (PyProof.noPylong_small c1))
  · split at h
    · split at h
      · rename_i hk
        obtain ⟨v, _, rfl, u1, u2⟩ := u
        obtain ⟨w, z, rfl, u2, u3⟩ := u2.two
        exact ⟨_, _, _, by rw [show v = .int _ from u1, show w = .int _ from u2, show z = .int _ from u3], hk, h.done r rfl⟩
      · exact h.elim
    · exact h.elim
/-- its numbers -/
def rgN (a b c : Int) : Nat := (Builtin.Range.rangeSize a b c).toNat
def rgL (a b c : Int) : List D := (List.range (rgN a b c)).map fun i => D.int (a + (i : Nat) * c)
def rgOk (a b c : Int) : Prop := Builtin.Range.small a b c = true ∧ 0 ≤ Builtin.Range.rangeSize a b c ∧ rgN a b c ≤ 2 ^ 24
instance (a b c : Int) : Decidable (rgOk a b c) := by unfold rgOk; exact inferInstance
def eTupR (r : EvR) : EvE := fun env S => (r env S).bd fun x S1 => if rgOk x.1 x.2.1 x.2.2 then .ok (.d (.tup (rgL x.1 x.2.1 x.2.2))) S1 else .no
def eLstR (r : EvR) : EvE := fun env S => (r env S).bd fun x S1 => if rgOk x.1 x.2.1 x.2.2 then .ok (.d (.lst (rgL x.1 x.2.1 x.2.2))) S1 else .no
def eLstRC (r : EvR) : EvE := fun env S => (r env S).bd fun x S1 => if rgOk x.1 x.2.1 x.2.2 then .ok (.r S1.length) (S1 ++ [.lst ((rgL x.1 x.2.1 x.2.2).map U.d)]) else .no
def rgW (a b c : Int) : List V := (List.range (rgN a b c)).map fun i => V.int (a + (i : Nat) * c)
theorem rgW_rd {K : PySem.W.Frag} {F : Hp} (a b c : Int) : RDs K F (rgL a b c) (rgW a b c) := by
  unfold rgL rgW
  induction List.range (rgN a b c) with
  | nil => rfl
  | cons i r ih => exact ⟨_, _, rfl, rfl, ih⟩
theorem vals_rgc {a b c : Int} {acc : Array Value} (h : ItemsOf (fun i v => ∃ t, v = .int (a + i * c) t) acc (rgN a b c)) : Vals (rgW a b c) acc.toList := by
  have e : acc.toList.length = rgN a b c := by rw [Array.length_toList]; exact h.1
  unfold rgW
  rw [← e]
  refine vals_of_get acc.toList _ fun j u hj => ?_
  obtain ⟨t, rfl⟩ := h.2 j u (by rw [← hj, Array.getElem?_toList])
  exact ⟨t, rfl⟩
theorem rgW_length (a b c : Int) : (rgW a b c).length = rgN a b c := by unfold rgW; rw [List.length_map, List.length_range]
def tRgT (te : L2.St → Hp → (Int × Int × Int → Hp → Prop) → Prop) : TE := fun σ H Q => te σ H fun x H1 => rgOk x.1 x.2.1 x.2.2 ∧ ∀ q, H1 q = none → Q (.ref q) (upd H1 q (.tup (rgW x.1 x.2.1 x.2.2)))
def tRgL (te : L2.St → Hp → (Int × Int × Int → Hp → Prop) → Prop) : TE := fun σ H Q => te σ H fun x H1 => rgOk x.1 x.2.1 x.2.2 ∧ ∀ q, H1 q = none → Q (.ref q) (upd H1 q (.lst (rgW x.1 x.2.1 x.2.2)))
theorem pe_tupR {te : L2.St → Hp → (Int × Int × Int → Hp → Prop) → Prop} (hc : X.calm = true) (hg : Gl X "tuple") (hm : X.mg "tuple" = none) (he : PRc X e te) (na : starEach [e] X.env = (false, eval e X.env) :: starEach [] X.env := by rfl) : PE X (.Call (.Name "tuple" p) [e] [] pos) (tRgT te) := by
  refine ⟨fun pins s σ H Q I h => ?_⟩
  refine Call_ (ld_blt I hg hm boot_tuple (PyProof.Rows.callWith_type1 (args_cons (thn (he pins s σ H _ I h) fun x s1 ⟨r, a, b, c, t, u, v, H1, ex, hr, I1, ok, q⟩ => args_nil ?_) na) na))
  subst ex
  obtain ⟨b1, b2, b3⟩ := ok
  refine call_tuple_range (n := rgN a b c) (I1.ok.hd hc) hr b1 (Int.toNat_of_nonneg b2).symm b3 fun h' tk acc hk hi => ?_
  have I2 : Inv X pins σ H1 { s1 with heap := h', toks := tk } := I1.kept hk
  refine ⟨.ref h'.objs.size, upd H1 h'.objs.size (.tup (rgW a b c)), I2.laid (t' := tk) (fun c o e => Heap.get?_push_of_some _ e) (Nat.le_refl _) (show ObjOk X.prog X.w _ _ _ (.tup (rgW a b c)) from ⟨?_, acc.toList, vals_rgc hi, ?_⟩), rfl, q _ (I2.hok.fresh (Nat.le_refl _))⟩
  · rw [rgW_length, sizeLine_eq]; omega
  · rw [Array.toArray_toList]; exact IsTup.new _ _
theorem pe_lstR {te : L2.St → Hp → (Int × Int × Int → Hp → Prop) → Prop} (hc : X.calm = true) (hg : Gl X "list") (hm : X.mg "list" = none) (he : PRc X e te) (na : starEach [e] X.env = (false, eval e X.env) :: starEach [] X.env := by rfl) : PE X (.Call (.Name "list" p) [e] [] pos) (tRgL te) := by
  refine ⟨fun pins s σ H Q I h => ?_⟩
  refine Call_ (ld_blt I hg hm boot_list (PyProof.Rows.callWith_type1 (args_cons (thn (he pins s σ H _ I h) fun x s1 ⟨r, a, b, c, t, u, v, H1, ex, hr, I1, ok, q⟩ => args_nil ?_) na) na))
  subst ex
  obtain ⟨b1, b2, b3⟩ := ok
  refine call_list_range (n := rgN a b c) (I1.ok.hd hc) hr b1 (Int.toNat_of_nonneg b2).symm b3 fun h' tk acc c' hk e' hi => ?_
  refine ⟨.ref s1.heap.objs.size, upd H1 s1.heap.objs.size (.lst (rgW a b c)), I1.laid hk (Nat.le_refl _) (show ObjOk X.prog X.w _ _ _ (.lst (rgW a b c)) from ⟨?_, acc.toList, c', vals_rgc hi, ?_⟩), rfl, q _ (I1.hok.fresh (Nat.le_refl _))⟩
  · rw [rgW_length, sizeLine_eq]; omega
  · rw [Array.toArray_toList]; exact e'
variable {fr : EvR}
theorem fe_tupR (hc : X.calm = true) (hg : Gl X "tuple") (hm : X.mg "tuple" = none) (he : FRg X Wx e fr) (na : starEach [e] X.env = (false, eval e X.env) :: starEach [] X.env := by rfl) : FE X Wx (.Call (.Name "tuple" p) [e] [] pos) (eTupR fr) := by
  obtain ⟨t, a1, a2⟩ := he
  refine ⟨_, pe_tupR hc hg hm a1 na, fun F μ S H σ env r er Q h => a2 _ _ _ _ _ env r er _ (Po.bind h fun x y F μ S H g r u h => ?_)⟩
  subst u
  split at h
  · rename_i hk
    exact ⟨hk, fun q hq => newTup h r hq (rgW_rd _ _ _)⟩
  · exact h.elim
theorem fe_lstR (hc : X.calm = true) (hg : Gl X "list") (hm : X.mg "list" = none) (he : FRg X Wx e fr) (na : starEach [e] X.env = (false, eval e X.env) :: starEach [] X.env := by rfl) : FE X Wx (.Call (.Name "list" p) [e] [] pos) (eLstR fr) := by
  obtain ⟨t, a1, a2⟩ := he
  refine ⟨_, pe_lstR hc hg hm a1 na, fun F μ S H σ env r er Q h => a2 _ _ _ _ _ env r er _ (Po.bind h fun x y F μ S H g r u h => ?_)⟩
  subst u
  split at h
  · rename_i hk
    exact ⟨hk, fun q hq => newLst h r hq (rgW_rd _ _ _)⟩
  · exact h.elim
theorem fe_lstRC (hc : X.calm = true) (hg : Gl X "list") (hm : X.mg "list" = none) (he : FRg X Wx e fr) (na : starEach [e] X.env = (false, eval e X.env) :: starEach [] X.env := by rfl) : FE X Wx (.Call (.Name "list" p) [e] [] pos) (eLstRC fr) := by
  obtain ⟨t, a1, a2⟩ := he
  refine ⟨_, pe_lstR hc hg hm a1 na, fun F μ S H σ env r er Q h => a2 _ _ _ _ _ env r er _ (Po.bind h fun x y F μ S H g r u h => ?_)⟩
  subst u
  split at h
  · rename_i hk
    exact ⟨hk, fun q hq => newCell h r hq (RDs.u (rgW_rd _ _ _))⟩
  · exact h.elim
end

/-! ### targets raise nothing -/
abbrev NeG (g : EvG) : Prop := ∀ u env S x S', g u env S ≠ .er x S'
abbrev NeS (g : EvGs) : Prop := ∀ us env S x S', g us env S ≠ .er x S'
theorem ne_nil : NeS gsNil := fun us env S x S' => by unfold gsNil; split <;> (intro z; cases z)
theorem ne_nm (i : Nat) : NeG (gNm i) := fun us env S x S' z => by cases z
theorem ne_cons {g : EvG} {gs : EvGs} (h1 : NeG g) (h2 : NeS gs) : NeS (gsCons g gs) := fun us env S x S' => by
  unfold gsCons
  split
  · rename_i y r
    cases q : g y env S with
    | ok e S1 => exact h2 r e S1 x S'
    | er z S1 => exact absurd q (h1 y env S z S1)
    | no => intro z; cases z
  · intro z; cases z
theorem ne_tp (n : Nat) {gs : EvGs} (h : NeS gs) : NeG (gTp n gs) := fun us env S x S' => by
  unfold gTp
  split
  · split
    · exact h _ _ _ _ _
    · intro z; cases z
  · intro z; cases z

/-! ### constants of the module -/
mutual
def chk (K : PySem.W.Frag) : D → Value → Bool
  | .non, .none => true
  | .bl b, .bool c => b == c
  | .int i, .int j _ => decide (i = j)
  | .str x, .str y _ => decide (x = y)
  | .tup ds, .ref a => match K.lookup a with
    | some ⟨.type c, _, .seq its _, _⟩ => decide (c = "tuple") && (decide (its.size ≤ sizeLine) && chks K ds its.toList)
    | _ => false
  | _, _ => false
def chks (K : PySem.W.Frag) : List D → List Value → Bool
  | [], [] => true
  | d :: ds, u :: us => chk K d u && chks K ds us
  | _, _ => false
end
mutual
theorem chk_ok {K : PySem.W.Frag} : ∀ {d : D} {u : Value}, chk K d u = true → ∃ v, RelV v u ∧ ∀ F, RD K F d v
  | .non, u, h => by
    cases u <;> first | exact ⟨.non, rfl, fun _ => rfl⟩ | (simp [chk] at h)
  | .bl b, u, h => by
    cases u <;> first | (simp [chk] at h; done) | skip
    rename_i c
    have e : b = c := by simpa [chk] using h
    exact ⟨.bl b, by rw [e]; rfl, fun _ => rfl⟩
  | .int i, u, h => by
    cases u <;> first | (simp [chk] at h; done) | skip
    rename_i j t
    have e : i = j := by simpa [chk] using h
    exact ⟨.int i, ⟨t, by rw [e]⟩, fun _ => rfl⟩
  | .str x, u, h => by
    cases u <;> first | (simp [chk] at h; done) | skip
    rename_i y t
    have e : x = y := by simpa [chk] using h
    exact ⟨.str x, ⟨t, by rw [e]⟩, fun _ => rfl⟩
  | .tup ds, u, h => by
    cases u <;> first | (simp [chk] at h; done) | skip
    rename_i a
    unfold chk at h
    split at h
    · rename_i c dd its n sl q
      rw [Bool.and_eq_true, Bool.and_eq_true] at h
      obtain ⟨vs, r1, r2⟩ := chks_ok h.2.2
      exact ⟨.ref a, rfl, fun F => ⟨a, vs, rfl, .inr ⟨_, its, n, q, congrArg Value.type (of_decide_eq_true h.1), rfl, of_decide_eq_true h.2.1, r1⟩, r2 F⟩⟩
    · cases h
  | .lst _, u, h => by cases u <;> (simp [chk] at h)
  | .obj _ _, u, h => by cases u <;> (simp [chk] at h)
  | .ty _, u, h => by cases u <;> (simp [chk] at h)
  | .adr _, u, h => by cases u <;> (simp [chk] at h)
  | .scr _, u, h => by cases u <;> (simp [chk] at h)
theorem chks_ok {K : PySem.W.Frag} : ∀ {ds : List D} {us : List Value}, chks K ds us = true → ∃ vs, Vals vs us ∧ ∀ F, RDs K F ds vs
  | [], us, h => by
    cases us with
    | nil => exact ⟨[], .nil, fun _ => rfl⟩
    | cons _ _ => simp [chks] at h
  | d :: ds, us, h => by
    cases us with
    | nil => simp [chks] at h
    | cons u us =>
      unfold chks at h
      rw [Bool.and_eq_true] at h
      obtain ⟨v, r1, r2⟩ := chk_ok h.1
      obtain ⟨vs, s1, s2⟩ := chks_ok h.2
      exact ⟨v :: vs, .cons r1 s1, fun F => ⟨v, vs, rfl, r2 F, s2 F⟩⟩
end
def conB (K : PySem.W.Frag) (cs : List (Str × D)) : Bool := cs.all fun p => match PySem.W.nsIn K mainGlobals p.1 with
  | some (some u) => chk K p.2 u
  | _ => false
/-- the module's name x stands for d -/
def GCon (K : PySem.W.Frag) (mg : Str → Option Value) (x : Str) (d : D) : Prop := ∃ u v, mg x = some u ∧ RelV v u ∧ ∀ F, RD K F d v
theorem conB_ok {K : PySem.W.Frag} {h : Heap} {mg : Str → Option Value} (X : K.In h) (G : h.Ns mainGlobals mg) {cs : List (Str × D)} (c : conB K cs = true) (i : Nat) {x : Str} {d : D} (e : cs[i]? = some (x, d) := by rfl) : GCon K mg x d := by
  have c1 := List.all_eq_true.mp c (x, d) (List.mem_of_getElem? e)
  cases q : PySem.W.nsIn K mainGlobals x with
  | none => simp only [q] at c1; cases c1
  | some o =>
    cases o with
    | none => simp only [q] at c1; cases c1
    | some u =>
      simp only [q] at c1
      obtain ⟨v, r1, r2⟩ := chk_ok c1
      exact ⟨u, v, PySem.W.mg_of X G q, r1, r2⟩
theorem fe_gcon {X : Cx} {Wx : WX} {pos : Pos} {x : Str} {d : D} (h : GCon X.K X.mg x d) (hg : Gl X x) (hd : (x == ("__debug__" : Str)) = false := by decide) : FE X Wx (.Name x pos) (eC d) := by
  obtain ⟨u, v, h1, h2, h3⟩ := h
  exact fe_glob hg h1 h2 h3 hd
theorem u64_of {k : Nat} {A : Around} (r : Room k A) : A.units + 64 < cLine := r.units
theorem u65_of {k : Nat} {A : Around} (r : Room k A) : A.units + 65 < cLine := by have := r.un; omega

/-! ### the head -/
/-- a Hook: the defs, the facts, and a test of one's own -/
abbrev AlM : Type := He.AlD × Bool
def obsM (n : Nat) (fa : List He.Fa) (fn : List He.DefD) (ex : PySem.W.Frag → Bool) (g : Addr → Option Obj) : AlM := (He.obsD fa fn (He.frG g (He.asD g n)), ex (He.frG g (He.asD g n)))
def hookM (n : Nat) (fa : List He.Fa) (fn : List He.DefD) (ex : PySem.W.Frag → Bool) : PySem.W.Hook where
  α := AlM
  obs := fun s => obsM n fa fn ex s.heap.get?
  val := fun _ => (He.valD fn, true)
  says := fun _ h => ∃ K : PySem.W.Frag, K.In h ∧ He.SaysD fa fn K ∧ ex K = true
  of := fun _ _ e => ⟨_, He.frG_in, congrArg (fun z : AlM => z.1) e, congrArg (fun z : AlM => z.2) e⟩
  keeps := fun _ _ _ ⟨K, hK, c⟩ k => ⟨K, PySem.W.Frag.In.keeps hK k, c⟩
theorem obsM_eq {n : Nat} {fa : List He.Fa} {fn : List He.DefD} {ex : PySem.W.Frag → Bool} {g : Addr → Option Obj} {s : Shared} (h : ∀ a, g a = s.heap.get? a) : obsM n fa fn ex g = (hookM n fa fn ex).obs s := by
  have e : g = s.heap.get? := funext h
  rw [e] <;> rfl
/-- a law: its end -/
theorem law_sp {K : PySem.W.Frag} {m : Oa} (hm : ∀ ns : List Int, ns.length ≤ 63 → ∃ S', m [.d (.scr ns)] [] = .ok (.d (.bl true)) S') (H : Hp) (a : Addr) (ns : List Int) (hl : ns.length ≤ 63) (hs : SqL K H a (ns.map V.int)) :
    spF K 1 m [.ref a] H (fun v _ => v = .bl true) fun _ _ _ => False := by
  obtain ⟨S', e⟩ := hm ns hl
  refine ⟨H, [], [], [.d (.scr ns)], ⟨Same.refl H, rfl, fun i x e => by simp at e, fun i j ci cj p e => by simp at e⟩, ⟨_, _, rfl, ⟨a, rfl, hs⟩, rfl⟩, rfl, ?_⟩
  rw [e]
  exact fun b F' μ' H' g r u => u
/-- what a def lets out, at any world -/
def CXany (P : Program) : CXT := fun o H s E u s' => ∃ w, L2.CX P w o H s E u s'
theorem FnOk.anyW {P : Program} {w : World} {K : PySem.W.Frag} {mg : Str → Option Value} {base : Heap} {k : Nat} {f : Addr} {fd : FuncData} {ps : List Str} {sp : Sp} (F : FnOk P w K mg base (L2.CX P w) k f fd ps sp) : FnOk P w K mg base (CXany P) k f fd ps sp :=
  ⟨F.len, fun A outer s H args us vs Q E hr he hb hv hs => codeAny_mono (F.run A outer s H args us vs Q E hr he hb hv hs) fun r s' h => by
    cases r with
    | error e => exact ⟨w, h⟩
    | ok fl => cases fl <;> exact h⟩
theorem law_noX {P : Program} (H : Hp) (s : Shared) (e : Value) (s' : Shared) (h : CXany P [] H s (fun _ _ _ => False) e s') : False := by
  obtain ⟨_, _, _, _, _, _, _, _, _, _, _, _, _, z⟩ := h
  exact z
end Mi

namespace Mi
open PySem PySem.Spec PyProof.Rows L2

/-! ### what a computation ends in -/
/-- a token: it keeps what stands behind it as it is -/
structure Tk {α : Type} (q : α) where
def Es {α : Type} (r : Rs α) (Q : α → Sto → Prop) (X : Er → Sto → Prop) (t : Tk (Q, X)) : Prop := match r with
  | .ok a S => Q a S
  | .er x S => X x S
  | .no => False
def Ws (r : RS) (N : En → Sto → Prop) (Z : RS → Prop) (t : Tk (N, Z)) : Prop := match r with
  | .nx e S => N e S
  | .no => False
  | r => Z r
abbrev NoX : Er → Sto → Prop := fun _ _ => False
theorem Es.eq {α : Type} {r : Rs α} {v : α} {S : Sto} (h : Es r (fun a S' => a = v ∧ S' = S) NoX ⟨⟩) : r = .ok v S := by
  cases r with
  | ok a S1 => obtain ⟨rfl, rfl⟩ := h; rfl
  | er => exact h.elim
  | no => exact h.elim
theorem Es.ex {α : Type} {r : Rs α} {v : α} (h : Es r (fun a S' => a = v) NoX ⟨⟩) : ∃ S, r = .ok v S := by
  cases r with
  | ok a S1 => exact ⟨S1, congrArg (Rs.ok · S1) h⟩
  | er => exact h.elim
  | no => exact h.elim
theorem Es.of {α : Type} {r : Rs α} {v : α} {S : Sto} {Q : α → Sto → Prop} {X : Er → Sto → Prop} {t : Tk (Q, X)} (e : r = .ok v S) (h : Q v S) : Es r Q X t := by
  rw [e]; exact h
theorem Es.mono {α : Type} {r : Rs α} {Q Q' : α → Sto → Prop} {X : Er → Sto → Prop} {t : Tk (Q, X)} {t' : Tk (Q', X)} (h : Es r Q X t) (k : ∀ a S, Q a S → Q' a S) : Es r Q' X t' := by
  cases r with
  | ok a S1 => exact k _ _ h
  | er => exact h
  | no => exact h
theorem Es_ext {α : Type} {r : Rs α} {Q Q' : α → Sto → Prop} {X : Er → Sto → Prop} {t : Tk (Q, X)} {t' : Tk (Q', X)} (k : ∀ a S, Q a S = Q' a S) : Es r Q X t = Es r Q' X t' := by
  cases r with
  | ok a S => exact k a S
  | _ => rfl
theorem Ws.mono {r : RS} {N N' : En → Sto → Prop} {Z Z' : RS → Prop} {t : Tk (N, Z)} {t' : Tk (N', Z')} (h : Ws r N Z t) (k : ∀ a S, N a S → N' a S) (k2 : ∀ r, Z r → Z' r) : Ws r N' Z' t' := by
  cases r with
  | nx e S1 => exact k _ _ h
  | no => exact h
  | _ => exact k2 _ h
section
variable {α β : Type} {Q : α → Sto → Prop} {QU : U → Sto → Prop} {QB : Bool → Sto → Prop} {QA : List U → Sto → Prop} {X : Er → Sto → Prop} {N : En → Sto → Prop} {Z : RS → Prop}
@[simp] theorem Es_ok {t : Tk (Q, X)} (a : α) (S : Sto) : Es (.ok a S) Q X t = Q a S := by
  exact (rfl)
@[simp] theorem Es_er {t : Tk (Q, X)} (x : Er) (S : Sto) : Es (.er x S : Rs α) Q X t = X x S := by
  exact (rfl)
@[simp] theorem Es_no {t : Tk (Q, X)}  : Es (.no : Rs α) Q X t = False := by
  exact (rfl)
@[simp ↓] theorem Es_bd {t : Tk (Q, X)} (r : Rs β) (k : β → Sto → Rs α) : Es (r.bd k) Q X t = Es r (fun a S => Es (k a S) Q X ⟨⟩) X ⟨⟩ := by
  cases r <;> rfl
@[simp ↓] theorem Es_ite {t : Tk (Q, X)} (p : Prop) [Decidable p] (a b : Rs α) : Es (if p then a else b) Q X t = if p then Es a Q X ⟨⟩ else Es b Q X ⟨⟩ := by
  repeat' split
  all_goals first | rfl | simp_all [Es, Ws]
@[simp] theorem Ws_nx {t : Tk (N, Z)} (e : En) (S : Sto) : Ws (.nx e S) N Z t = N e S := by
  exact (rfl)
@[simp] theorem Ws_no {t : Tk (N, Z)}  : Ws .no N Z t = False := by
  exact (rfl)
@[simp] theorem Ws_rt {t : Tk (N, Z)} (x : U) (S : Sto) : Ws (.rt x S) N Z t = Z (.rt x S) := by
  exact (rfl)
@[simp] theorem Ws_bk {t : Tk (N, Z)} (x : En) (S : Sto) : Ws (.bk x S) N Z t = Z (.bk x S) := by
  exact (rfl)
@[simp] theorem Ws_ct {t : Tk (N, Z)} (x : En) (S : Sto) : Ws (.ct x S) N Z t = Z (.ct x S) := by
  exact (rfl)
@[simp] theorem Ws_er {t : Tk (N, Z)} (x : Er) (e : En) (S : Sto) : Ws (.er x e S) N Z t = Z (.er x e S) := by
  exact (rfl)
@[simp ↓] theorem Ws_st {t : Tk (N, Z)} (r : Rs α) (e : En) (k : α → Sto → RS) : Ws (r.st e k) N Z t = Es r (fun a S => Ws (k a S) N Z ⟨⟩) (fun x S => Z (.er x e S)) ⟨⟩ := by
  cases r <;> rfl
@[simp ↓] theorem Ws_ite {t : Tk (N, Z)} (p : Prop) [Decidable p] (a b : RS) : Ws (if p then a else b) N Z t = if p then Ws a N Z ⟨⟩ else Ws b N Z ⟨⟩ := by
  repeat' split
  all_goals first | rfl | simp_all [Es, Ws]
@[simp ↓] theorem Ws_seq {t : Tk (N, Z)} (a b : EvS) (env : En) (S : Sto) : Ws (sSeq a b env S) N Z t = Ws (a env S) (fun e S1 => Ws (b e S1) N Z ⟨⟩) Z ⟨⟩ := by
  unfold sSeq; cases a env S <;> rfl
@[simp ↓] theorem Ws_sNx {t : Tk (N, Z)} (env : En) (S : Sto) : Ws (sNx env S) N Z t = Ws (.nx env S) N Z ⟨⟩ := by
  rfl
@[simp ↓] theorem Ws_sBk {t : Tk (N, Z)} (env : En) (S : Sto) : Ws (sBk env S) N Z t = Ws (.bk env S) N Z ⟨⟩ := by
  rfl
@[simp ↓] theorem Ws_sCt {t : Tk (N, Z)} (env : En) (S : Sto) : Ws (sCt env S) N Z t = Ws (.ct env S) N Z ⟨⟩ := by
  rfl
@[simp ↓] theorem Ws_sEx {t : Tk (N, Z)} (a : EvE) (env : En) (S : Sto) : Ws (sEx a env S) N Z t = Es (a env S) (fun _ S1 => Ws (.nx env S1) N Z ⟨⟩) (fun x S => Z (.er x env S)) ⟨⟩ := by
  unfold sEx; rw [Ws_st]
@[simp ↓] theorem Ws_sRt {t : Tk (N, Z)} (a : EvE) (env : En) (S : Sto) : Ws (sRt a env S) N Z t = Es (a env S) (fun x S1 => Ws (.rt x S1) N Z ⟨⟩) (fun x S => Z (.er x env S)) ⟨⟩ := by
  unfold sRt; rw [Ws_st]
@[simp ↓] theorem Ws_sRtN {t : Tk (N, Z)} (env : En) (S : Sto) : Ws (sRtN env S) N Z t = Ws (.rt (.d .non) S) N Z ⟨⟩ := by
  rfl
@[simp ↓] theorem Ws_sIf {t : Tk (N, Z)} (c : EvT) (a b : EvS) (env : En) (S : Sto) : Ws (sIf c a b env S) N Z t = Es (c env S) (fun x S1 => if x = true then Ws (a env S1) N Z ⟨⟩ else Ws (b env S1) N Z ⟨⟩) (fun x S => Z (.er x env S)) ⟨⟩ := by
  unfold sIf; rw [Ws_st]; refine Es_ext fun x S1 => ?_; cases x <;> rfl
@[simp ↓] theorem Ws_sSt {t : Tk (N, Z)} (i : Nat) (a : EvE) (env : En) (S : Sto) : Ws (sSt i a env S) N Z t = Es (a env S) (fun x S1 => Ws (.nx (env.set i (some x)) S1) N Z ⟨⟩) (fun x S => Z (.er x env S)) ⟨⟩ := by
  unfold sSt; rw [Ws_st]
@[simp ↓] theorem Ws_sAs {t : Tk (N, Z)} (a : EvE) (g : EvG) (env : En) (S : Sto) : Ws (sAs a g env S) N Z t = Es (a env S) (fun x S1 => Es (g x env S1) (fun e S2 => Ws (.nx e S2) N Z ⟨⟩) (fun x S => Z (.er x env S)) ⟨⟩) (fun x S => Z (.er x env S)) ⟨⟩ := by
  unfold sAs; rw [Ws_st]; refine Es_ext fun x S1 => ?_; rw [Ws_st]
@[simp ↓] theorem Ws_sPar {t : Tk (N, Z)} (i j : Nat) (a b : EvE) (env : En) (S : Sto) : Ws (sPar i j (aCons a (aCons b aNil)) env S) N Z t = Es (a env S) (fun x S1 => Es (b env S1) (fun y S2 => Ws (.nx ((env.set i (some x)).set j (some y)) S2) N Z ⟨⟩) (fun x S => Z (.er x env S)) ⟨⟩) (fun x S => Z (.er x env S)) ⟨⟩ := by
  unfold sPar aCons aNil; cases a env S with
  | ok x S1 => simp only [Rs.bd]; cases h : b env S1 <;> simp [Rs.st, Es, h]
  | _ => rfl
@[simp ↓] theorem Ws_sAug {t : Tk (N, Z)} (i : Nat) (f : Ov) (a : EvE) (env : En) (S : Sto) : Ws (sAug i f a env S) N Z t = match env[i]? with
  | some (some x) => Es (a env S) (fun y S1 => Es (f x y S1) (fun z S2 => Ws (.nx (env.set i (some z)) S2) N Z ⟨⟩) (fun x S => Z (.er x env S)) ⟨⟩) (fun x S => Z (.er x env S)) ⟨⟩
  | _ => False := by
  unfold sAug; cases env[i]? with
  | none => rfl
  | some o => cases o with
    | none => rfl
    | some x => simp only; rw [Ws_st]; refine Es_ext fun x S1 => ?_; rw [Ws_st]
@[simp ↓] theorem Ws_sFor {t : Tk (N, Z)} (it : EvI) (g : EvG) (b : EvS) (env : En) (S : Sto) : Ws (sFor it g b env S) N Z t = Es (it env S) (fun J S1 => Ws (forN J.get g b J.n 0 env S1) N Z ⟨⟩) (fun x S => Z (.er x env S)) ⟨⟩ := by
  unfold sFor; rw [Ws_st]
@[simp ↓] theorem Es_gNm {QE : En → Sto → Prop} {t : Tk (QE, X)} (i : Nat) (x : U) (env : En) (S : Sto) : Es (gNm i x env S) QE X t = Es (.ok (env.set i (some x)) S) QE X ⟨⟩ := by
  rfl
@[simp ↓] theorem Es_gTp {QE : En → Sto → Prop} {t : Tk (QE, X)} (n : Nat) (gs : EvGs) (x : U) (env : En) (S : Sto) : Es (gTp n gs x env S) QE X t = match seqU S x with
  | some ws => if ws.length = n then Es (gs ws env S) QE X ⟨⟩ else False
  | none => False := by
  unfold gTp; repeat' split
  all_goals first | rfl | simp_all [Es]
@[simp ↓] theorem Es_gsNil {QE : En → Sto → Prop} {t : Tk (QE, X)} (env : En) (S : Sto) : Es (gsNil [] env S) QE X t = Es (.ok env S) QE X ⟨⟩ := by
  rfl
@[simp ↓] theorem Es_gsCons {QE : En → Sto → Prop} {t : Tk (QE, X)} (g : EvG) (gs : EvGs) (x : U) (r : List U) (env : En) (S : Sto) : Es (gsCons g gs (x :: r) env S) QE X t = Es (g x env S) (fun e S1 => Es (gs r e S1) QE X ⟨⟩) X ⟨⟩ := by
  unfold gsCons; rw [Es_bd]
@[simp ↓] theorem Es_gSb {QE : En → Sto → Prop} {t : Tk (QE, X)} (f : Oset) (o i : EvE) (v : U) (env : En) (S : Sto) : Es (gSb f o i v env S) QE X t = Es (o env S) (fun x S1 => Es (i env S1) (fun y S2 => Es (f x y v S2) (fun _ S3 => Es (.ok env S3) QE X ⟨⟩) X ⟨⟩) X ⟨⟩) X ⟨⟩ := by
  unfold gSb; rw [Es_bd]; refine Es_ext fun x S1 => ?_; rw [Es_bd]; refine Es_ext fun x S1 => ?_; rw [Es_bd]
@[simp ↓] theorem Es_eVar {t : Tk (QU, X)} (i : Nat) (env : En) (S : Sto) : Es (eVar i env S) QU X t = match env[i]? with
  | some (some w) => QU w S
  | _ => False := by
  unfold eVar; repeat' split
  all_goals first | rfl | simp_all [Es]
@[simp ↓] theorem Es_eC {t : Tk (QU, X)} (x : D) (env : En) (S : Sto) : Es (eC x env S) QU X t = QU (.d x) S := by
  rfl
@[simp ↓] theorem Es_eBin {t : Tk (QU, X)} (f : Ov) (a b : EvE) (env : En) (S : Sto) : Es (eBin f a b env S) QU X t = Es (a env S) (fun x S1 => Es (b env S1) (fun y S2 => Es (f x y S2) QU X ⟨⟩) X ⟨⟩) X ⟨⟩ := by
  unfold eBin; rw [Es_bd]; refine Es_ext fun x S1 => ?_; rw [Es_bd]
def unB : U → Option Bool
  | .d (.bl b) => some b
  | _ => none
@[simp] theorem unB_bl (b : Bool) : unB (.d (.bl b)) = some b := rfl
def unI : U → Option Int
  | .d (.int b) => some b
  | _ => none
@[simp] theorem unI_int (b : Int) : unI (.d (.int b)) = some b := rfl
@[simp] theorem toB_bl (b : Bool) (S : Sto) : toB (.d (.bl b)) S = .ok b S := rfl
@[simp ↓] theorem Es_tB1 {t : Tk (QB, X)} (a : EvE) (env : En) (S : Sto) : Es (tB1 a env S) QB X t = Es (a env S) (fun x S1 => Es (toB x S1) QB X ⟨⟩) X ⟨⟩ := by
  unfold tB1; rw [Es_bd]
@[simp ↓] theorem Es_tTru {t : Tk (QB, X)} (a : EvE) (env : En) (S : Sto) : Es (tTru a env S) QB X t = Es (a env S) (fun x S1 => match truU S1 x with
  | some b => Es (.ok b S1) QB X ⟨⟩
  | none => False) X ⟨⟩ := by
  unfold tTru; rw [Es_bd]; refine Es_ext fun x S1 => ?_; repeat' split
  all_goals first | rfl | simp_all [Es, Ws]
@[simp ↓] theorem Es_eNeg {t : Tk (QU, X)} (a : EvE) (env : En) (S : Sto) : Es (eNeg a env S) QU X t = Es (a env S) (fun x S1 => match unI x with
  | some i => Es (.ok (.d (.int (-i))) S1) QU X ⟨⟩
  | none => False) X ⟨⟩ := by
  unfold eNeg; rw [Es_bd]; refine Es_ext fun x S1 => ?_; unfold unI; split <;> simp_all
@[simp ↓] theorem Es_bAnd {t : Tk (QB, X)} (a b : EvT) (env : En) (S : Sto) : Es (bAnd a b env S) QB X t = Es (a env S) (fun x S1 => if x = true then Es (b env S1) QB X ⟨⟩ else Es (.ok false S1) QB X ⟨⟩) X ⟨⟩ := by
  unfold bAnd; rw [Es_bd]; refine Es_ext fun x S1 => ?_; cases x <;> rfl
@[simp ↓] theorem Es_bOr {t : Tk (QB, X)} (a b : EvT) (env : En) (S : Sto) : Es (bOr a b env S) QB X t = Es (a env S) (fun x S1 => if x = true then Es (.ok true S1) QB X ⟨⟩ else Es (b env S1) QB X ⟨⟩) X ⟨⟩ := by
  unfold bOr; rw [Es_bd]; refine Es_ext fun x S1 => ?_; cases x <;> rfl
@[simp ↓] theorem Es_bNot {t : Tk (QB, X)} (a : EvT) (env : En) (S : Sto) : Es (bNot a env S) QB X t = Es (a env S) (fun x S1 => Es (.ok (!x) S1) QB X ⟨⟩) X ⟨⟩ := by
  unfold bNot; rw [Es_bd]
@[simp ↓] theorem Es_eAnd {t : Tk (QU, X)} (a b : EvE) (env : En) (S : Sto) : Es (eAnd a b env S) QU X t = Es (a env S) (fun x S1 => match unB x with
  | some c => if c = true then Es (b env S1) QU X ⟨⟩ else Es (.ok (.d (.bl false)) S1) QU X ⟨⟩
  | none => False) X ⟨⟩ := by
  unfold eAnd; rw [Es_bd]; refine Es_ext fun x S1 => ?_; unfold unB; split <;> simp_all
@[simp ↓] theorem Es_eOr {t : Tk (QU, X)} (a b : EvE) (env : En) (S : Sto) : Es (eOr a b env S) QU X t = Es (a env S) (fun x S1 => match unB x with
  | some c => if c = true then Es (.ok (.d (.bl true)) S1) QU X ⟨⟩ else Es (b env S1) QU X ⟨⟩
  | none => False) X ⟨⟩ := by
  unfold eOr; rw [Es_bd]; refine Es_ext fun x S1 => ?_; unfold unB; split <;> simp_all
@[simp ↓] theorem Es_eNot {t : Tk (QU, X)} (a : EvE) (env : En) (S : Sto) : Es (eNot a env S) QU X t = Es (a env S) (fun x S1 => match unB x with
  | some c => Es (.ok (.d (.bl (!c))) S1) QU X ⟨⟩
  | none => False) X ⟨⟩ := by
  unfold eNot; rw [Es_bd]; refine Es_ext fun x S1 => ?_; unfold unB; split <;> simp_all
@[simp ↓] theorem Es_eIf {t : Tk (QU, X)} (c : EvT) (a b : EvE) (env : En) (S : Sto) : Es (eIf c a b env S) QU X t = Es (c env S) (fun x S1 => if x = true then Es (a env S1) QU X ⟨⟩ else Es (b env S1) QU X ⟨⟩) X ⟨⟩ := by
  unfold eIf; rw [Es_bd]; refine Es_ext fun x S1 => ?_; cases x <;> rfl
@[simp ↓] theorem Es_eChn {t : Tk (QU, X)} (f g : Ov) (a b c : EvE) (env : En) (S : Sto) : Es (eChn f g a b c env S) QU X t = Es (a env S) (fun x S1 => Es (b env S1) (fun y S2 => Es (f x y S2) (fun z S3 => match unB z with
  | some d => if d = true then Es (c env S3) (fun w S4 => Es (g y w S4) QU X ⟨⟩) X ⟨⟩ else Es (.ok (.d (.bl false)) S3) QU X ⟨⟩
  | none => False) X ⟨⟩) X ⟨⟩) X ⟨⟩ := by
  unfold eChn; rw [Es_bd]; refine Es_ext fun x S1 => ?_; rw [Es_bd]; refine Es_ext fun y S2 => ?_; rw [Es_bd]; refine Es_ext fun z S3 => ?_; unfold unB; split <;> simp_all
@[simp ↓] theorem Es_aNil {t : Tk (QA, X)} (env : En) (S : Sto) : Es (aNil env S) QA X t = QA [] S := by
  rfl
@[simp ↓] theorem Es_aCons {t : Tk (QA, X)} (a : EvE) (b : EvA) (env : En) (S : Sto) : Es (aCons a b env S) QA X t = Es (a env S) (fun x S1 => Es (b env S1) (fun xs S2 => QA (x :: xs) S2) X ⟨⟩) X ⟨⟩ := by
  unfold aCons; rw [Es_bd]; refine Es_ext fun x S1 => ?_; rw [Es_bd]; refine Es_ext fun x S1 => ?_; rw [Es_ok]
@[simp ↓] theorem Es_eTup {t : Tk (QU, X)} (b : EvA) (env : En) (S : Sto) : Es (eTup b env S) QU X t = Es (b env S) (fun xs S1 => match allD xs with
  | some ds => if ds.length ≤ sizeLine then Es (.ok (.d (.tup ds)) S1) QU X ⟨⟩ else False
  | none => False) X ⟨⟩ := by
  unfold eTup; rw [Es_bd]; refine Es_ext fun x S1 => ?_; cases allD x with
  | none => rfl
  | some ds => (show Es (if _ then _ else _) _ _ _ = if _ then _ else _); rw [Es_ite]; rfl
@[simp ↓] theorem Es_eLst {t : Tk (QU, X)} (b : EvA) (env : En) (S : Sto) : Es (eLst b env S) QU X t = Es (b env S) (fun xs S1 => match allD xs with
  | some ds => if ds.length ≤ sizeLine then Es (.ok (.d (.lst ds)) S1) QU X ⟨⟩ else False
  | none => False) X ⟨⟩ := by
  unfold eLst; rw [Es_bd]; refine Es_ext fun x S1 => ?_; cases allD x with
  | none => rfl
  | some ds => (show Es (if _ then _ else _) _ _ _ = if _ then _ else _); rw [Es_ite]; rfl
@[simp ↓] theorem Es_eLstC {t : Tk (QU, X)} (b : EvA) (env : En) (S : Sto) : Es (eLstC b env S) QU X t = Es (b env S) (fun xs S1 => if xs.length ≤ sizeLine then Es (.ok (.r S1.length) (S1 ++ [.lst xs])) QU X ⟨⟩ else False) X ⟨⟩ := by
  unfold eLstC; rw [Es_bd]; refine Es_ext fun x S1 => ?_; repeat' split
  all_goals first | rfl | simp_all [Es, Ws]
@[simp ↓] theorem Es_eCa {t : Tk (QU, X)} (g : Oa) (b : EvA) (env : En) (S : Sto) : Es (eCa g b env S) QU X t = Es (b env S) (fun xs S1 => Es (g xs S1) QU X ⟨⟩) X ⟨⟩ := by
  unfold eCa; rw [Es_bd]
@[simp ↓] theorem Es_eCaK {t : Tk (QU, X)} (n nk : Nat) (perm : List Nat) (m : Oa) (b bk : EvA) (env : En) (S : Sto) : Es (eCaK n nk perm m b bk env S) QU X t = Es (b env S) (fun xs S1 => Es (bk env S1) (fun zs S2 => if xs.length = n ∧ zs.length = nk then Es (m (pick perm (xs ++ zs)) S2) QU X ⟨⟩ else False) X ⟨⟩) X ⟨⟩ := by
  unfold eCaK; rw [Es_bd]; refine Es_ext fun x S1 => ?_; rw [Es_bd]; refine Es_ext fun x S1 => ?_; repeat' split
  all_goals first | rfl | simp_all [Es, Ws]
@[simp ↓] theorem Es_eComp {t : Tk (QU, X)} (b : EvA) (env : En) (S : Sto) : Es (eComp b env S) QU X t = Es (b env S) (fun xs S1 => match allD xs with
  | some ds => Es (.ok (.d (.lst ds)) S1) QU X ⟨⟩
  | none => False) X ⟨⟩ := by
  unfold eComp; rw [Es_bd]; refine Es_ext fun x S1 => ?_; repeat' split
  all_goals first | rfl | simp_all [Es, Ws]
@[simp ↓] theorem Es_eCompC {t : Tk (QU, X)} (b : EvA) (env : En) (S : Sto) : Es (eCompC b env S) QU X t = Es (b env S) (fun xs S1 => Es (.ok (.r S1.length) (S1 ++ [.lst xs])) QU X ⟨⟩) X ⟨⟩ := by
  unfold eCompC; rw [Es_bd]
@[simp ↓] theorem Es_eLc {t : Tk (QA, X)} (it : EvI) (g : EvG) (tt : EvT) (te : EvE) (vs : List Nat) (env : En) (S : Sto) : Es (eLc it g tt te vs env S) QA X t = Es (it env S) (fun J S1 => Es (compN J.get g tt te (wipeE env vs) J.n 0 [] S1) QA X ⟨⟩) X ⟨⟩ := by
  unfold eLc; rw [Es_bd]
@[simp ↓] theorem Es_tYs {t : Tk (QB, X)} (env : En) (S : Sto) : Es (tYs env S) QB X t = QB true S := by
  rfl
@[simp ↓] theorem Es_iSeq {QI : Itr → Sto → Prop} {t : Tk (QI, X)} (a : EvE) (env : En) (S : Sto) : Es (iSeq a env S) QI X t = Es (a env S) (fun x S1 => match seqI S1 x with
  | some it => Es (.ok it S1) QI X ⟨⟩
  | none => False) X ⟨⟩ := by
  unfold iSeq; rw [Es_bd]; refine Es_ext fun x S1 => ?_; repeat' split
  all_goals first | rfl | simp_all [Es, Ws]
@[simp ↓] theorem Es_iRg1 {QI : Itr → Sto → Prop} {t : Tk (QI, X)} (a : EvE) (env : En) (S : Sto) : Es (iRg1 (aCons a aNil) env S) QI X t = Es (a env S) (fun x S1 => match unI x with
  | some j => if -(2 ^ 62) ≤ j ∧ j < 2 ^ 62 then Es (.ok (rngI 0 j.toNat) S1) QI X ⟨⟩ else False
  | none => False) X ⟨⟩ := by
  unfold iRg1; rw [Es_bd, Es_aCons]; refine Es_ext fun x S1 => ?_; rw [Es_aNil]; cases x with
  | r i => rfl
  | d x => cases x <;> first | rfl | (show Es (if _ then _ else _) _ _ _ = _; rw [Es_ite]; rfl)
@[simp ↓] theorem Es_iRg2 {QI : Itr → Sto → Prop} {t : Tk (QI, X)} (a b : EvE) (env : En) (S : Sto) : Es (iRg2 (aCons a (aCons b aNil)) env S) QI X t = Es (a env S) (fun x S1 => Es (b env S1) (fun y S2 => match unI x, unI y with
  | some i, some j => if -(2 ^ 62) ≤ i ∧ i < 2 ^ 62 ∧ -(2 ^ 62) ≤ j ∧ j < 2 ^ 62 then Es (.ok (rngI i (j - i).toNat) S2) QI X ⟨⟩ else False
  | _, _ => False) X ⟨⟩) X ⟨⟩ := by
  unfold iRg2; rw [Es_bd, Es_aCons]; refine Es_ext fun x S1 => ?_; rw [Es_aCons]; refine Es_ext fun y S2 => ?_; rw [Es_aNil]; cases x with
  | r i => rfl
  | d x => cases x with
    | int i => cases y with
      | r i => rfl
      | d y => cases y <;> first | rfl | (show Es (if _ then _ else _) _ _ _ = _; rw [Es_ite]; rfl)
    | _ => rfl
@[simp ↓] theorem Es_eSl {t : Tk (QU, X)} (a : EvE) (lo hi : EvO) (env : En) (S : Sto) : Es (eSl a lo hi env S) QU X t = Es (a env S) (fun x S1 => Es (lo env S1) (fun l S2 => Es (hi env S2) (fun h S3 => Es (oSl x l h S3) QU X ⟨⟩) X ⟨⟩) X ⟨⟩) X ⟨⟩ := by
  unfold eSl; rw [Es_bd]; refine Es_ext fun x S1 => ?_; rw [Es_bd]; refine Es_ext fun x S1 => ?_; rw [Es_bd]
@[simp ↓] theorem Es_noP {QO : Option Int → Sto → Prop} {t : Tk (QO, X)} (env : En) (S : Sto) : Es (noP env S) QO X t = QO none S := by
  rfl
@[simp ↓] theorem Es_soP {QO : Option Int → Sto → Prop} {t : Tk (QO, X)} (a : EvE) (env : En) (S : Sto) : Es (soP a env S) QO X t = Es (a env S) (fun x S1 => match unI x with
  | some i => Es (.ok (some i) S1) QO X ⟨⟩
  | none => False) X ⟨⟩ := by
  unfold soP; rw [Es_bd]; refine Es_ext fun x S1 => ?_; unfold unI; split <;> simp_all
def rgF1 : List U → Sto → Rs (Int × Int × Int)
  | [.d (.int j)], S1 => .ok (0, j, 1) S1
  | _, _ => .no
def rgF2 : List U → Sto → Rs (Int × Int × Int)
  | [.d (.int i), .d (.int j)], S1 => .ok (i, j, 1) S1
  | _, _ => .no
def rgF3 : List U → Sto → Rs (Int × Int × Int)
  | [.d (.int i), .d (.int j), .d (.int k)], S1 => if k ≠ 0 ∧ k.natAbs < 1073741824 then .ok (i, j, k) S1 else .no
  | _, _ => .no
@[simp] theorem rgF1_eq (j : Int) (S : Sto) : rgF1 [.d (.int j)] S = .ok (0, j, 1) S := rfl
@[simp] theorem rgF2_eq (i j : Int) (S : Sto) : rgF2 [.d (.int i), .d (.int j)] S = .ok (i, j, 1) S := rfl
@[simp] theorem rgF3_eq (i j k : Int) (S : Sto) : rgF3 [.d (.int i), .d (.int j), .d (.int k)] S = if k ≠ 0 ∧ k.natAbs < 1073741824 then .ok (i, j, k) S else .no := rfl
@[simp ↓] theorem Es_rg1 {QR : Int × Int × Int → Sto → Prop} {t : Tk (QR, X)} (ga : EvA) (env : En) (S : Sto) : Es (rg1 ga env S) QR X t = Es (ga env S) (fun xs S1 => Es (rgF1 xs S1) QR X ⟨⟩) X ⟨⟩ := by
  have e : rg1 ga env S = (ga env S).bd rgF1 := by
    unfold rg1; congr 1; funext xs S1; unfold rgF1; split <;> simp_all
  rw [e, Es_bd]
@[simp ↓] theorem Es_rg2 {QR : Int × Int × Int → Sto → Prop} {t : Tk (QR, X)} (ga : EvA) (env : En) (S : Sto) : Es (rg2 ga env S) QR X t = Es (ga env S) (fun xs S1 => Es (rgF2 xs S1) QR X ⟨⟩) X ⟨⟩ := by
  have e : rg2 ga env S = (ga env S).bd rgF2 := by
    unfold rg2; congr 1; funext xs S1; unfold rgF2; split <;> simp_all
  rw [e, Es_bd]
@[simp ↓] theorem Es_rg3 {QR : Int × Int × Int → Sto → Prop} {t : Tk (QR, X)} (ga : EvA) (env : En) (S : Sto) : Es (rg3 ga env S) QR X t = Es (ga env S) (fun xs S1 => Es (rgF3 xs S1) QR X ⟨⟩) X ⟨⟩ := by
  have e : rg3 ga env S = (ga env S).bd rgF3 := by
    unfold rg3; congr 1; funext xs S1; unfold rgF3; split <;> simp_all
  rw [e, Es_bd]
@[simp ↓] theorem Es_eTupR {t : Tk (QU, X)} (r : EvR) (env : En) (S : Sto) : Es (eTupR r env S) QU X t = Es (r env S) (fun x S1 => if rgOk x.1 x.2.1 x.2.2 then Es (.ok (.d (.tup (rgL x.1 x.2.1 x.2.2))) S1) QU X ⟨⟩ else False) X ⟨⟩ := by
  unfold eTupR; rw [Es_bd]; refine Es_ext fun x S1 => ?_; repeat' split
  all_goals first | rfl | simp_all [Es, Ws]
@[simp ↓] theorem Es_eLstR {t : Tk (QU, X)} (r : EvR) (env : En) (S : Sto) : Es (eLstR r env S) QU X t = Es (r env S) (fun x S1 => if rgOk x.1 x.2.1 x.2.2 then Es (.ok (.d (.lst (rgL x.1 x.2.1 x.2.2))) S1) QU X ⟨⟩ else False) X ⟨⟩ := by
  unfold eLstR; rw [Es_bd]; refine Es_ext fun x S1 => ?_; repeat' split
  all_goals first | rfl | simp_all [Es, Ws]
@[simp ↓] theorem Es_eLstRC {t : Tk (QU, X)} (r : EvR) (env : En) (S : Sto) : Es (eLstRC r env S) QU X t = Es (r env S) (fun x S1 => if rgOk x.1 x.2.1 x.2.2 then Es (.ok (.r S1.length) (S1 ++ [.lst ((rgL x.1 x.2.1 x.2.2).map U.d)])) QU X ⟨⟩ else False) X ⟨⟩ := by
  unfold eLstRC; rw [Es_bd]; refine Es_ext fun x S1 => ?_; repeat' split
  all_goals first | rfl | simp_all [Es, Ws]
@[simp] theorem wipeE_nil (env : En) : wipeE env [] = env := rfl
@[simp] theorem wipeE_cons (env : En) (v : Nat) (vs : List Nat) : wipeE env (v :: vs) = (wipeE env vs).set v none := rfl
@[simp] theorem bd_ok' (a : α) (S : Sto) (k : α → Sto → Rs β) : (Rs.ok a S).bd k = k a S := rfl
@[simp] theorem bd_no' (k : α → Sto → Rs β) : (Rs.no : Rs α).bd k = .no := rfl
/-! ### operations -/
theorem strInj {a b : String} (h : Str.ofString a = Str.ofString b) : a = b := by
  rw [Str.ofString_eq_toList, Str.ofString_eq_toList] at h
  have h1 : a.toList.map Char.toNat = b.toList.map Char.toNat := by
    have := congrArg (fun s : Str => s.cps.toList) h
    simpa using this
  have h2 : a.toList = b.toList := by
    have inj : ∀ (xs ys : List Char), xs.map Char.toNat = ys.map Char.toNat → xs = ys := by
      intro xs
      induction xs with
      | nil => intro ys h; cases ys with
        | nil => rfl
        | cons y ys => simp at h
      | cons x xs ih => intro ys h; cases ys with
        | nil => simp at h
        | cons y ys =>
          simp only [List.map_cons, List.cons.injEq] at h
          rw [ih ys h.2, Char.toNat_inj.1 h.1]
    exact inj _ _ h1
  exact String.toList_inj.1 h2
@[simp] theorem strEq (a b : String) : (Str.ofString a = Str.ofString b) = (a = b) := propext ⟨strInj, fun h => by rw [h]⟩
@[simp] theorem strBEq (a b : String) : (Str.ofString a == Str.ofString b) = decide (a = b) := by
  by_cases h : a = b
  · subst h; simp
  · simp [h]
@[simp] theorem sizeLine_eq : sizeLine = 16777216 := rfl
@[simp] theorem pick_eq {α : Type} (perm : List Nat) (l : List α) : pick perm l = perm.filterMap fun j => l[j]? := rfl
@[simp] theorem allD_nil : allD [] = some [] := rfl
@[simp] theorem allD_cons (x : D) (r : List U) : allD (.d x :: r) = (allD r).map (x :: ·) := rfl
@[simp] theorem allD_r (x : Nat) (r : List U) : allD (.r x :: r) = none := rfl
@[simp] theorem oAdd_int (i j : Int) (S : Sto) : oAdd (.d (.int i)) (.d (.int j)) S = .ok (.d (.int (i + j))) S := rfl
@[simp] theorem oSub_int (i j : Int) (S : Sto) : oSub (.d (.int i)) (.d (.int j)) S = .ok (.d (.int (i - j))) S := rfl
@[simp] theorem oMul_int (i j : Int) (S : Sto) : oMul (.d (.int i)) (.d (.int j)) S = if mulOk i j then .ok (.d (.int (i * j))) S else .no := rfl
theorem oFdv_int (i j : Int) (S : Sto) : oFdv (.d (.int i)) (.d (.int j)) S = if fdivOk j then .ok (.d (.int (i / j))) S else if j ≠ 0 ∧ j.natAbs < 1073741824 then .ok (.d (.int (i.fdiv j))) S else .no := rfl
@[simp] theorem Es_fdv {Q : U → Sto → Prop} {t : Tk (Q, X)} {i j : Int} (S : Sto) (h : 0 < j) : Es (oFdv (.d (.int i)) (.d (.int j)) S) Q X t = (fdivOk j ∧ Q (.d (.int (i / j))) S) := by
  rw [oFdv_int]
  by_cases e : fdivOk j
  · rw [if_pos e]; simp [e]
  · rw [if_neg e]
    have : ¬ j.natAbs.log2 < 9000 := fun k => e ⟨h, k⟩
    have n : ¬ (j ≠ 0 ∧ j.natAbs < 1073741824) := fun k => this (by
      have : j.natAbs.log2 < 30 := (Nat.log2_lt (by omega)).2 (by omega)
      omega)
    rw [if_neg n]; simp [e]
@[simp] theorem oMod_int (i j : Int) (S : Sto) (h : 0 < j) : oMod (.d (.int i)) (.d (.int j)) S = .ok (.d (.int (i % j))) S := by
  show (if 0 < j then _ else _) = _
  rw [if_pos h]
@[simp] theorem oPow_int (i j : Int) (S : Sto) : oPow (.d (.int i)) (.d (.int j)) S = if 0 ≤ j ∧ j ≤ 1000000 ∧ i.natAbs < 2 ^ 64 then .ok (.d (.int (i ^ j.toNat))) S else .no := rfl
@[simp] theorem oLt_int (p : Int → Int → Bool) (i j : Int) (S : Sto) : oCmpI p (.d (.int i)) (.d (.int j)) S = .ok (.d (.bl (p i j))) S := rfl
@[simp] theorem valD_d (S : Sto) (x : D) : valD S (.d x) = some x := rfl
@[simp] theorem seqU_lst (S : Sto) (xs : List D) : seqU S (.d (.lst xs)) = some (xs.map U.d) := rfl
@[simp] theorem seqU_tup (S : Sto) (xs : List D) : seqU S (.d (.tup xs)) = some (xs.map U.d) := rfl
@[simp] theorem seqU_r (S : Sto) (i : Nat) : seqU S (.r i) = cellL S i := rfl
@[simp] theorem lstU_lst (S : Sto) (xs : List D) : lstU S (.d (.lst xs)) = some (xs.map U.d) := rfl
@[simp] theorem lstU_r (S : Sto) (i : Nat) : lstU S (.r i) = cellL S i := rfl
@[simp] theorem lstD_lst (S : Sto) (xs : List D) : lstD S (.d (.lst xs)) = some xs := by simp [lstD]
@[simp] theorem lstD_r (S : Sto) (i : Nat) : lstD S (.r i) = (cellL S i).bind allD := rfl
@[simp] theorem seqD_lst (S : Sto) (xs : List D) : seqD S (.d (.lst xs)) = some xs := by simp [seqD]
@[simp] theorem seqD_tup (S : Sto) (xs : List D) : seqD S (.d (.tup xs)) = some xs := by simp [seqD]
@[simp] theorem seqD_r (S : Sto) (i : Nat) : seqD S (.r i) = (cellL S i).bind allD := rfl
theorem cellL_some {S : Sto} {i : Nat} {ws : List U} (h : S[i]? = some (.lst ws)) : cellL S i = some ws := by unfold cellL; rw [h]
@[simp] theorem shp_int (n : Nat) (i : Int) : shp n (.int i) = true := by cases n <;> rfl
@[simp] theorem shp_bl (n : Nat) (i : Bool) : shp n (.bl i) = true := by cases n <;> rfl
@[simp] theorem shp_str (n : Nat) (i : Str) : shp n (.str i) = true := by cases n <;> rfl
@[simp] theorem shp_non (n : Nat) : shp n .non = true := by cases n <;> rfl
theorem shp_tup (n : Nat) (xs : List D) : shp (n + 1) (.tup xs) = xs.all (shp n) := rfl
theorem shp_lst (n : Nat) (xs : List D) : shp (n + 1) (.lst xs) = xs.all (shp n) := rfl
@[simp] theorem shp64_tup (xs : List D) : shp 64 (.tup xs) = xs.all (shp 63) := rfl
@[simp] theorem shp64_lst (xs : List D) : shp 64 (.lst xs) = xs.all (shp 63) := rfl
@[simp] theorem shp63_tup (xs : List D) : shp 63 (.tup xs) = xs.all (shp 62) := rfl
@[simp] theorem shp63_lst (xs : List D) : shp 63 (.lst xs) = xs.all (shp 62) := rfl
@[simp] theorem shp62_tup (xs : List D) : shp 62 (.tup xs) = xs.all (shp 61) := rfl
@[simp] theorem shp62_lst (xs : List D) : shp 62 (.lst xs) = xs.all (shp 61) := rfl
@[simp] theorem shpI (n : Nat) (xs : List Int) : (xs.map D.int).all (shp n) = true := by
  induction xs with
  | nil => rfl
  | cons x xs ih => simp
@[simp] theorem eqD_int (i j : Int) : eqD (.int i) (.int j) = decide (i = j) := by simp [eqD]; rfl
@[simp] theorem eqD_str (i j : Str) : eqD (.str i) (.str j) = decide (i = j) := by simp [eqD]; rfl
@[simp] theorem eqD_bl (i j : Bool) : eqD (.bl i) (.bl j) = decide (i = j) := by cases i <;> cases j <;> simp [eqD]
@[simp] theorem eqD_bi (i : Bool) (j : Int) : eqD (.bl i) (.int j) = ((if i then 1 else 0) == j) := by simp [eqD]
@[simp] theorem eqD_ib (i : Int) (j : Bool) : eqD (.int i) (.bl j) = (i == (if j then 1 else 0)) := by simp [eqD]
@[simp] theorem eqD_non : eqD .non .non = true := by simp [eqD]
@[simp] theorem eqD_tup (xs ys : List D) : eqD (.tup xs) (.tup ys) = eqDs xs ys := by simp [eqD]
@[simp] theorem eqD_lst (xs ys : List D) : eqD (.lst xs) (.lst ys) = eqDs xs ys := by simp [eqD]
@[simp] theorem eqDs_nil : eqDs [] [] = true := by simp [eqDs]
@[simp] theorem eqDs_cons (x y : D) (xs ys : List D) : eqDs (x :: xs) (y :: ys) = (eqD x y && eqDs xs ys) := by simp [eqDs]
@[simp] theorem eqDs_nc (y : D) (ys : List D) : eqDs [] (y :: ys) = false := by simp [eqDs]
@[simp] theorem eqDs_cn (y : D) (ys : List D) : eqDs (y :: ys) [] = false := by simp [eqDs]
@[simp] theorem eqDs_I (xs ys : List Int) : eqDs (xs.map D.int) (ys.map D.int) = (xs == ys) := by
  induction xs generalizing ys with
  | nil => cases ys <;> simp
  | cons x xs ih => cases ys with
    | nil => simp
    | cons y ys => simp [ih]; rfl
@[simp] theorem oEqG_eq (neg : Bool) (x y : U) (S : Sto) : oEqG neg x y S = match valD S x, valD S y with
  | some a, some b => if shp 64 a = true ∧ shp 64 b = true then .ok (.d (.bl (neg != eqD a b))) S else .no
  | _, _ => .no := rfl
@[simp] theorem oInG_eq (neg : Bool) (x y : U) (S : Sto) : oInG neg x y S = match valD S x, seqD S y with
  | some a, some bs => if shp 64 a = true ∧ (bs.all (shp 64)) = true then .ok (.d (.bl (neg != bs.any fun b => eqD b a))) S else .no
  | _, _ => .no := rfl
@[simp] theorem oIsN_non (neg : Bool) (S : Sto) : oIsN neg (.d .non) (.d .non) S = .ok (.d (.bl (!neg))) S := rfl
@[simp] theorem oIsN_int (neg : Bool) (i : Int) (S : Sto) : oIsN neg (.d (.int i)) (.d .non) S = .ok (.d (.bl neg)) S := rfl
@[simp] theorem oIsN_str (neg : Bool) (i : Str) (S : Sto) : oIsN neg (.d (.str i)) (.d .non) S = .ok (.d (.bl neg)) S := rfl
@[simp] theorem oIsN_tup (neg : Bool) (i : List D) (S : Sto) : oIsN neg (.d (.tup i)) (.d .non) S = .ok (.d (.bl neg)) S := rfl
@[simp] theorem oIsN_lst (neg : Bool) (i : List D) (S : Sto) : oIsN neg (.d (.lst i)) (.d .non) S = .ok (.d (.bl neg)) S := rfl
@[simp] theorem oIsN_r (neg : Bool) (i : Nat) (S : Sto) : oIsN neg (.r i) (.d .non) S = .ok (.d (.bl neg)) S := rfl
@[simp] theorem oIsN_bl (neg : Bool) (b c : Bool) (S : Sto) : oIsN neg (.d (.bl b)) (.d (.bl c)) S = .ok (.d (.bl (neg != decide (b = c)))) S := rfl
@[simp] theorem oIsN_bn (neg : Bool) (b : Bool) (S : Sto) : oIsN neg (.d (.bl b)) (.d .non) S = .ok (.d (.bl neg)) S := rfl
@[simp] theorem oIx_lst (xs : List D) (i : Int) (S : Sto) : oIx (.d (.lst xs)) (.d (.int i)) S = match atI xs i with
  | some w => .ok (.d w) S
  | none => .no := by
  show (match atI (xs.map U.d) i with | some w => _ | none => _) = _
  unfold atI
  rw [List.length_map]
  cases ixN xs.length i with
  | none => rfl
  | some j => simp only [Option.bind_some, List.getElem?_map]; cases xs[j]? <;> rfl
@[simp] theorem oIx_tup (xs : List D) (i : Int) (S : Sto) : oIx (.d (.tup xs)) (.d (.int i)) S = match atI xs i with
  | some w => .ok (.d w) S
  | none => .no := by
  show (match atI (xs.map U.d) i with | some w => _ | none => _) = _
  unfold atI
  rw [List.length_map]
  cases ixN xs.length i with
  | none => rfl
  | some j => simp only [Option.bind_some, List.getElem?_map]; cases xs[j]? <;> rfl
@[simp] theorem oIx_r (c : Nat) (i : Int) (S : Sto) : oIx (.r c) (.d (.int i)) S = match cellL S c with
  | some ws => (match atI ws i with
    | some w => .ok w S
    | none => .no)
  | none => .no := rfl
theorem atI_nat {α : Type} (xs : List α) (i : Nat) (h : i < xs.length) : atI xs (i : Int) = xs[i]? := by
  unfold atI ixN
  rw [if_pos (by omega), if_pos (by omega)]
  simp
@[simp] theorem atI_0 {α : Type} (x : α) (xs : List α) : atI (x :: xs) 0 = some x := by
  have := atI_nat (x :: xs) 0 (by simp)
  simpa using this
@[simp] theorem atI_1 {α : Type} (x y : α) (xs : List α) : atI (x :: y :: xs) 1 = some y := by
  have := atI_nat (x :: y :: xs) 1 (by simp)
  simpa using this
@[simp] theorem atI_2 {α : Type} (x y z : α) (xs : List α) : atI (x :: y :: z :: xs) 2 = some z := by
  have := atI_nat (x :: y :: z :: xs) 2 (by simp)
  simpa using this
@[simp] theorem atI_3 {α : Type} (x y z u : α) (xs : List α) : atI (x :: y :: z :: u :: xs) 3 = some u := by
  have := atI_nat (x :: y :: z :: u :: xs) 3 (by simp)
  simpa using this
theorem atI_m1 {α : Type} (xs : List α) (h : xs ≠ []) : atI xs (-1) = xs.getLast? := by
  unfold atI ixN
  have : 0 < xs.length := List.length_pos_iff.2 h
  rw [if_neg (by omega), if_pos (by omega)]
  rw [List.getLast?_eq_getElem?]
  simp only [Option.bind_some]
  congr 1
  omega
@[simp] theorem atI_m1a {α : Type} (x : α) : atI [x] (-1) = some x := atI_m1 _ (by simp)
@[simp] theorem atI_m1b {α : Type} (x y : α) : atI [x, y] (-1) = some y := atI_m1 _ (by simp)
@[simp] theorem atI_m1c {α : Type} (x y z : α) : atI [x, y, z] (-1) = some z := atI_m1 _ (by simp)
theorem atI_in {α : Type} (xs : List α) (i : Int) (h0 : 0 ≤ i) (h : i < xs.length) : ∃ x, atI xs i = some x ∧ x ∈ xs ∧ xs[i.toNat]? = some x := by
  obtain ⟨n, rfl⟩ : ∃ n : Nat, i = n := ⟨i.toNat, by omega⟩
  rw [atI_nat _ _ (by omega)]
  have : n < xs.length := by omega
  exact ⟨xs[n], by simp [this], by simp, by simp [this]⟩
@[simp] theorem oAbs_int (i : Int) (S : Sto) : oAbs [.d (.int i)] S = .ok (.d (.int (if i < 0 then -i else i))) S := rfl
@[simp] theorem oInt_int (i : Int) (S : Sto) : oInt [.d (.int i)] S = .ok (.d (.int i)) S := rfl
@[simp] theorem oInt_bl (b : Bool) (S : Sto) : oInt [.d (.bl b)] S = .ok (.d (.int (if b then 1 else 0))) S := rfl
@[simp] theorem oBool_int (i : Int) (S : Sto) : oBool [.d (.int i)] S = .ok (.d (.bl (i != 0))) S := rfl
@[simp] theorem oBool_bl (b : Bool) (S : Sto) : oBool [.d (.bl b)] S = .ok (.d (.bl b)) S := rfl
@[simp] theorem oLen_lst (xs : List D) (S : Sto) : oLen [.d (.lst xs)] S = .ok (.d (.int xs.length)) S := by simp [oLen, lenU]
@[simp] theorem oLen_tup (xs : List D) (S : Sto) : oLen [.d (.tup xs)] S = .ok (.d (.int xs.length)) S := by simp [oLen, lenU]
@[simp] theorem oLen_scr (xs : List Int) (S : Sto) : oLen [.d (.scr xs)] S = .ok (.d (.int xs.length)) S := by simp [oLen, lenU]
@[simp] theorem oLen_r (c : Nat) (S : Sto) : oLen [.r c] S = match (cellL S c).map List.length with
  | some n => .ok (.d (.int n)) S
  | none => .no := rfl
@[simp] theorem oList_eq (x : U) (S : Sto) : oList [x] S = match seqD S x with
  | some ds => .ok (.d (.lst ds)) S
  | none => .no := rfl
@[simp] theorem oTuple_eq (x : U) (S : Sto) : oTuple [x] S = match seqD S x with
  | some ds => .ok (.d (.tup ds)) S
  | none => .no := rfl
@[simp] theorem oListC_eq (x : U) (S : Sto) : oListC [x] S = match seqU S x with
  | some ws => .ok (.r S.length) (S ++ [.lst ws])
  | none => .no := rfl
@[simp] theorem allI_nil : allI [] = some [] := rfl
@[simp] theorem allI_cons (x : Int) (xs : List D) : allI (.int x :: xs) = (allI xs).map (x :: ·) := rfl
@[simp] theorem minL_nil (x : Int) : minL x [] = x := rfl
@[simp] theorem minL_cons (x y : Int) (xs : List Int) : minL x (y :: xs) = minL (if y < x then y else x) xs := rfl
@[simp] theorem maxL_nil (x : Int) : maxL x [] = x := rfl
@[simp] theorem maxL_cons (x y : Int) (xs : List Int) : maxL x (y :: xs) = maxL (if x < y then y else x) xs := rfl
@[simp] theorem lstI_lst (S : Sto) (xs : List Int) : lstI S (.d (.lst (xs.map D.int))) = some xs := by simp [lstI]
@[simp] theorem lstI_cons (S : Sto) (x : Int) (xs : List D) : lstI S (.d (.lst (.int x :: xs))) = (allI xs).map (x :: ·) := by simp [lstI, allI]
@[simp] theorem oSum_eq (x : U) (S : Sto) : oSum [x] S = match lstI S x with
  | some ns => .ok (.d (.int ns.sum)) S
  | none => .no := rfl
@[simp] theorem oMin_1 (x : U) (S : Sto) : oMin [x] S = match lstI S x with
  | some (n :: ns) => .ok (.d (.int (minL n ns))) S
  | _ => .no := rfl
@[simp] theorem oMax_1 (x : U) (S : Sto) : oMax [x] S = match lstI S x with
  | some (n :: ns) => .ok (.d (.int (maxL n ns))) S
  | _ => .no := rfl
@[simp] theorem oMin_2 (i j : Int) (S : Sto) : oMin [.d (.int i), .d (.int j)] S = .ok (.d (.int (if j < i then j else i))) S := rfl
@[simp] theorem oMax_2 (i j : Int) (S : Sto) : oMax [.d (.int i), .d (.int j)] S = .ok (.d (.int (if j > i then j else i))) S := rfl
@[simp] theorem oDvm_int (i j : Int) (S : Sto) : oDvm [.d (.int i), .d (.int j)] S = if 0 < j ∧ j < 1073741824 then .ok (.d (.tup [.int (i / j), .int (i % j)])) S else .no := rfl
@[simp] theorem oIsi_1 (x : U) (n : String) (S : Sto) : oIsi [x, .d (.ty n)] S = match tagU S x, tgOf n with
  | some a, some b => .ok (.d (.bl (isT a b))) S
  | _, _ => .no := rfl
@[simp] theorem oIsi_n (x : U) (ts : List D) (S : Sto) : oIsi [x, .d (.tup ts)] S = match tagU S x, tysOf ts with
  | some a, some bs => .ok (.d (.bl (bs.any (isT a)))) S
  | _, _ => .no := rfl
@[simp] theorem tagU_non (S : Sto) : tagU S (.d .non) = some .non := rfl
@[simp] theorem tagU_bl (S : Sto) (b : Bool) : tagU S (.d (.bl b)) = some .bl := rfl
@[simp] theorem tagU_int (S : Sto) (b : Int) : tagU S (.d (.int b)) = some .int := rfl
@[simp] theorem tagU_str (S : Sto) (b : Str) : tagU S (.d (.str b)) = some .str := rfl
@[simp] theorem tagU_tup (S : Sto) (b : List D) : tagU S (.d (.tup b)) = some .tup := rfl
@[simp] theorem tagU_lst (S : Sto) (b : List D) : tagU S (.d (.lst b)) = some .lst := rfl
@[simp] theorem tagU_scr (S : Sto) (b : List Int) : tagU S (.d (.scr b)) = some .lst := rfl
@[simp] theorem tagU_r (S : Sto) (i : Nat) : tagU S (.r i) = match S[i]? with
  | some (.lst _) => some .lst
  | some (.dK _) => some .dct
  | _ => none := rfl
@[simp] theorem tgOf_int : tgOf "int" = some .int := by decide +kernel
@[simp] theorem tgOf_list : tgOf "list" = some .lst := by decide +kernel
@[simp] theorem tgOf_tuple : tgOf "tuple" = some .tup := by decide +kernel
@[simp] theorem tgOf_str : tgOf "str" = some .str := by decide +kernel
@[simp] theorem tgOf_bool : tgOf "bool" = some .bl := by decide +kernel
@[simp] theorem tgOf_dict : tgOf "dict" = some .dct := by decide +kernel
@[simp] theorem tysOf_nil : tysOf [] = some [] := rfl
@[simp] theorem tysOf_cons (n : String) (r : List D) : tysOf (.ty n :: r) = match tgOf n, tysOf r with
  | some t, some ts => some (t :: ts)
  | _, _ => none := rfl
@[simp] theorem isT_eq (a b : Tg) : isT a b = ((decide (a = .bl) && decide (b = .int)) || decide (a = b)) := by cases a <;> cases b <;> rfl
@[simp] theorem seqI_lst (S : Sto) (xs : List D) : seqI S (.d (.lst xs)) = some (valI (xs.map U.d)) := rfl
@[simp] theorem seqI_tup (S : Sto) (xs : List D) : seqI S (.d (.tup xs)) = some (valI (xs.map U.d)) := rfl
@[simp] theorem seqI_scr (S : Sto) (xs : List Int) : seqI S (.d (.scr xs)) = some (valI (xs.map fun n => U.d (.int n))) := rfl
@[simp] theorem setLst_r (c : Nat) (i : Int) (z : U) (S : Sto) : setLst (.r c) (.d (.int i)) z S = match cellL S c with
  | some ws => (match ixN ws.length i with
    | some j => .ok () (S.set c (.lst (ws.set j z)))
    | none => .no)
  | none => .no := rfl
@[simp] theorem oSl_scr (ns : List Int) (lo hi : Option Int) (S : Sto) : oSl (.d (.scr ns)) lo hi S = .ok (.d (.lst ((cutU ns lo hi).map D.int))) S := rfl
@[simp] theorem oSl_tup (ns : List D) (lo hi : Option Int) (S : Sto) : oSl (.d (.tup ns)) lo hi S = .ok (.d (.tup (cutU ns lo hi))) S := rfl
@[simp] theorem oSl_lst (ns : List D) (lo hi : Option Int) (S : Sto) : oSl (.d (.lst ns)) lo hi S = .ok (.d (.lst (cutU ns lo hi))) S := by
  show (match lstD S (.d (.lst ns)) with | some xs => _ | none => _) = _
  rw [lstD_lst]
theorem rgS_up {a b c : Int} (hc : 0 < c) : Builtin.Range.rangeSize a b c = if a < b then (b - a - 1) / c + 1 else 0 := by
  unfold Builtin.Range.rangeSize
  rw [if_pos hc]
theorem rgOk_up {a b c : Int} (hc : 0 < c) (hc' : c < 2 ^ 31) (ha : -(2 ^ 61) ≤ a) (ha' : a < 2 ^ 61) (hb : -(2 ^ 61) ≤ b) (hb' : b < 2 ^ 61) (hn : b - a ≤ 2 ^ 24) : rgOk a b c := by
  unfold rgOk rgN
  rw [rgS_up hc]
  by_cases h : a < b
  · rw [if_pos h]
    have q0 : 0 ≤ (b - a - 1) / c := Int.ediv_nonneg (by omega) (by omega)
    have q1 : (b - a - 1) / c ≤ b - a - 1 := Int.ediv_le_self _ (by omega)
    refine ⟨?_, by omega, by omega⟩
    unfold Builtin.Range.small
    rw [rgS_up hc, if_pos h]
    generalize (b - a - 1) / c = q at *
    simp only [Builtin.Range.rangeFitsLong, Bool.and_eq_true, Bool.or_eq_true, decide_eq_true_eq, beq_iff_eq]
    refine ⟨by omega, .inr ?_⟩
    rw [if_pos hc]
    simp only [Bool.and_eq_true, decide_eq_true_eq]
    omega
  · rw [if_neg h]
    refine ⟨?_, by omega, by omega⟩
    unfold Builtin.Range.small
    rw [rgS_up hc, if_neg h]
    simp only [Builtin.Range.rangeFitsLong, Bool.and_eq_true, Bool.or_eq_true, decide_eq_true_eq, beq_iff_eq]
    exact ⟨by omega, .inl trivial⟩
theorem mulOk_l {i j : Int} (h : -(2 ^ 64) < i) (k : i < 2 ^ 64) : mulOk i j := .inl (.inl ⟨h, k⟩)
theorem mulOk_r {i j : Int} (h : -(2 ^ 64) < j) (k : j < 2 ^ 64) : mulOk i j := .inl (.inr ⟨h, k⟩)
theorem fdivOk_of {j : Int} (h : 0 < j) (k : j < 2 ^ 8000) : fdivOk j := by
  refine ⟨h, ?_⟩
  have : j.natAbs.log2 < 8000 := (Nat.log2_lt (by omega)).2 (by omega)
  omega
theorem cellL_set {S : Sto} {p : Nat} (ws : List U) (hp : p < S.length) : cellL (S.set p (.lst ws)) p = some ws := by
  unfold cellL
  rw [List.getElem?_set]
  simp [hp]
theorem lt_of_some {S : Sto} {p : Nat} {c : Cell} (hS : S[p]? = some c) : p < S.length := by
  rcases Nat.lt_or_ge p S.length with h | h
  · exact h
  · rw [List.getElem?_eq_none h] at hS; cases hS
theorem set_self {S : Sto} {p : Nat} {c : Cell} (hS : S[p]? = some c) : S.set p c = S := by
  have hp := lt_of_some hS
  apply List.ext_getElem?; intro i
  rw [List.getElem?_set]
  split
  · rename_i h; subst h; rw [hS]
  · rfl
theorem atI_ints (ns : List Int) (i : Int) (h0 : 0 ≤ i) (h : i < ns.length) : ∃ c, atI (ns.map D.int) i = some (.int c) := by
  obtain ⟨x, e, m, _⟩ := atI_in (ns.map D.int) i h0 (by simpa using h)
  obtain ⟨c, _, rfl⟩ := List.mem_map.1 m
  exact ⟨c, e⟩
/-! ### the pen -/
abbrev pnC (ns : List Int) (t r : Int) : Cell := .lst [.d (.lst (ns.map D.int)), .d (.int t), .d (.int r)]
theorem cutU_all (xs : List Int) (n : Nat) (h : xs.length ≤ n) : cutU xs none (some (n : Int)) = xs.take n := by
  unfold cutU
  rw [HT.sIx_none, HT.sIx_nat]
  simp
/-! ### functions -/
def finZ (n : Nat) (Q : U → Sto → Prop) (X : Er → Sto → Prop) : RS → Prop
  | .rt x S => Es (cutR n x S) Q X ⟨⟩
  | .er x _ S => Es (cutE n x S) Q X ⟨⟩
  | _ => False
@[simp] theorem finZ_rt (n : Nat) (Q : U → Sto → Prop) (X : Er → Sto → Prop) (x : U) (S : Sto) : finZ n Q X (.rt x S) = Es (cutR n x S) Q X ⟨⟩ := rfl
@[simp] theorem finZ_er (n : Nat) (Q : U → Sto → Prop) (X : Er → Sto → Prop) (x : Er) (e : En) (S : Sto) : finZ n Q X (.er x e S) = Es (cutE n x S) Q X ⟨⟩ := rfl
theorem Es_run {m n : Nat} {body : EvS} {ws : List U} {S : Sto} {t : Tk (QU, X)} (h : ws.length = m) : Es (run m n body ws S) QU X t = Ws (body (startE n ws) S) (fun _ S' => Es (cutR S.length (.d .non) S') QU X ⟨⟩) (finZ S.length QU X) ⟨⟩ := by
  unfold run
  rw [if_pos h]
  cases body (startE n ws) S <;> rfl
theorem Es.run {m n : Nat} {body : EvS} {ws : List U} {S : Sto} {t : Tk (QU, X)} (h : ws.length = m) (k : Ws (body (startE n ws) S) (fun _ S' => Es (cutR S.length (.d .non) S') QU X ⟨⟩) (finZ S.length QU X) ⟨⟩) : Es (Mi.run m n body ws S) QU X t := by
  rw [Es_run h]; exact k
@[simp] theorem cutR_le {n : Nat} {x : U} {S : Sto} (h : S.length ≤ n) : cutR n x S = .ok x S := by unfold cutR; rw [if_pos h]
@[simp] theorem cutE_le {n : Nat} {x : Er} {S : Sto} (h : S.length ≤ n) : cutE n x S = .er x S := by unfold cutE; rw [if_pos h]
/-! ### loops -/
/-- the endings of a loop's body -/
def lpZ (I N : En → Sto → Prop) (Z : RS → Prop) : RS → Prop
  | .ct e S => I e S
  | .bk e S => N e S
  | r => Z r
@[simp] theorem lpZ_ct (I N : En → Sto → Prop) (Z : RS → Prop) (e : En) (S : Sto) : lpZ I N Z (.ct e S) = I e S := rfl
@[simp] theorem lpZ_bk (I N : En → Sto → Prop) (Z : RS → Prop) (e : En) (S : Sto) : lpZ I N Z (.bk e S) = N e S := rfl
@[simp] theorem lpZ_rt (I N : En → Sto → Prop) (Z : RS → Prop) (e : U) (S : Sto) : lpZ I N Z (.rt e S) = Z (.rt e S) := rfl
@[simp] theorem lpZ_er (I N : En → Sto → Prop) (Z : RS → Prop) (x : Er) (e : En) (S : Sto) : lpZ I N Z (.er x e S) = Z (.er x e S) := rfl
theorem Ws_forN {get : Sto → Nat → Option (Option U)} {g : EvG} {b : EvS} (I : Nat → En → Sto → Prop) (n : Nat) (at_ : Nat → U) (hg : ∀ S i, i < n → get S i = some (some (at_ i))) (he : ∀ S, get S n = some none)
    (hs : ∀ i e S, i < n → I i e S → Es (g (at_ i) e S) (fun e1 S1 => Ws (b e1 S1) (I (i + 1)) (lpZ (I (i + 1)) N Z) ⟨⟩) (fun x S' => Z (.er x e S')) ⟨⟩)
    (hn : ∀ e S, I n e S → N e S) : ∀ (k i : Nat) (e : En) (S : Sto) (t : Tk (N, Z)), i + k = n + 1 → i ≤ n → I i e S → Ws (forN get g b k i e S) N Z t := by
  intro k
  induction k with
  | zero => intro i e S t h1 h2; omega
  | succ k ih =>
    intro i e S t h1 h2 hI
    unfold forN
    by_cases h : i < n
    · rw [hg S i h]
      have := hs i e S h hI
      simp only [Ws_st]
      cases hgg : g (at_ i) e S with
      | no => rw [hgg] at this; exact this.elim
      | er x S' => rw [hgg] at this; exact this
      | ok e1 S1 =>
        rw [hgg] at this
        simp only [Es_ok] at this ⊢
        cases hb : b e1 S1 with
        | nx e2 S2 => rw [hb] at this; exact ih (i + 1) e2 S2 _ (by omega) (by omega) this
        | ct e2 S2 => rw [hb] at this; exact ih (i + 1) e2 S2 _ (by omega) (by omega) this
        | bk e2 S2 => rw [hb] at this; exact this
        | rt x S2 => rw [hb] at this; exact this
        | er x e2 S2 => rw [hb] at this; exact this
        | no => rw [hb] at this; exact this.elim
    · have : i = n := by omega
      subst this
      rw [he S]
      exact hn _ _ hI
theorem Ws_rng {lo : Int} {n : Nat} {g : EvG} {b : EvS} {env : En} {S : Sto} {t : Tk (N, Z)} (I : Nat → En → Sto → Prop) (h0 : I 0 env S)
    (hs : ∀ i e S, i < n → I i e S → Es (g (.d (.int (lo + (i : Nat)))) e S) (fun e1 S1 => Ws (b e1 S1) (I (i + 1)) (lpZ (I (i + 1)) N Z) ⟨⟩) (fun x S' => Z (.er x e S')) ⟨⟩)
    (hn : ∀ e S, I n e S → N e S) : Ws (forN (rngI lo n).get g b (rngI lo n).n 0 env S) N Z t :=
  Ws_forN I n (fun i => .d (.int (lo + (i : Nat)))) (fun S i h => by simp [rngI, h]) (fun S => by simp [rngI]) hs hn _ _ _ _ _ (by simp [rngI]) (by omega) h0
theorem Ws_val {us : List U} {g : EvG} {b : EvS} {env : En} {S : Sto} {t : Tk (N, Z)} (I : Nat → En → Sto → Prop) (h0 : I 0 env S)
    (hs : ∀ i e S (h : i < us.length), I i e S → Es (g us[i] e S) (fun e1 S1 => Ws (b e1 S1) (I (i + 1)) (lpZ (I (i + 1)) N Z) ⟨⟩) (fun x S' => Z (.er x e S')) ⟨⟩)
    (hn : ∀ e S, I us.length e S → N e S) : Ws (forN (valI us).get g b (valI us).n 0 env S) N Z t :=
  Ws_forN I us.length (fun i => if h : i < us.length then us[i] else .d .non) (fun S i h => by simp [valI, h]) (fun S => by simp [valI]) (fun i e S h hI => by simpa [h] using hs i e S h hI) hn _ _ _ _ _ (by simp [valI]) (by omega) h0
/-! ### comprehensions whose parts leave the store -/
theorem compN_at {get : Sto → Nat → Option (Option U)} {g : EvG} {tt : EvT} {te : EvE} {ew : En} {S : Sto} (us : List U) (p : U → Bool) (f : U → U)
    (hg : ∀ i, (hh : i < us.length) → get S i = some (some us[i])) (he : get S us.length = some none) (hl : us.length ≤ sizeLine)
    (h : ∀ u ∈ us, ∃ e, g u ew S = .ok e S ∧ tt e S = .ok (p u) S ∧ (p u = true → te e S = .ok (f u) S)) : ∀ (k i : Nat) (acc : List U), i + k = us.length + 1 → i ≤ us.length → acc.length ≤ i → compN get g tt te ew k i acc S = .ok (acc ++ ((us.drop i).filter p).map f) S := by
  intro k
  induction k with
  | zero =>
    intro i acc h1 h2 h3
    omega
  | succ k ih =>
    intro i acc h1 h0 h2
    unfold compN
    by_cases hi : i < us.length
    · rw [hg i hi]
      obtain ⟨e, a, b, c⟩ := h us[i] (List.getElem_mem hi)
      rw [List.drop_eq_getElem_cons hi]
      simp only [a, b, Rs.ne_ok, bd_ok']
      cases hp : p us[i] with
      | true =>
        simp only [c hp, Rs.ne_ok, bd_ok', hp, List.filter_cons_of_pos, List.map_cons]
        rw [if_pos (by omega), ih (i + 1) _ (by omega) (by omega) (by simp; omega)]
        simp
      | false =>
        simp only [hp]
        rw [ih (i + 1) _ (by omega) (by omega) (by omega)]
        rw [List.filter_cons_of_neg (by simp [hp])]
    · have : i = us.length := by omega
      subst this
      rw [he]
      simp
def cmpL (g : EvG) (tt : EvT) (te : EvE) (ew : En) : List U → List U → Sto → Rs (List U)
  | [], acc, S => .ok acc S
  | x :: r, acc, S => (g x ew S).ne.bd fun e2 S2 => (tt e2 S2).ne.bd fun b S3 => match b with
      | true => (te e2 S3).ne.bd fun y S4 => if acc.length < sizeLine then cmpL g tt te ew r (acc ++ [y]) S4 else .no
      | false => cmpL g tt te ew r acc S3
theorem compN_cmpL {g : EvG} {tt : EvT} {te : EvE} {ew : En} (us : List U) : ∀ (k i : Nat) (acc : List U) (S : Sto), i + k = us.length + 1 → i ≤ us.length → compN (valI us).get g tt te ew k i acc S = cmpL g tt te ew (us.drop i) acc S := by
  intro k
  induction k with
  | zero => intro i acc S h1 h2; omega
  | succ k ih =>
    intro i acc S h1 h2
    unfold compN
    by_cases hi : i < us.length
    · have e : (valI us).get S i = some (some us[i]) := by simp [valI, hi]
      rw [e, List.drop_eq_getElem_cons hi]
      simp only [cmpL]
      congr 1; funext e2 S2; congr 1; funext b S3
      cases b with
      | true =>
        simp only
        congr 1; funext y S4
        split
        · exact ih (i + 1) _ _ (by omega) (by omega)
        · rfl
      | false => exact ih (i + 1) _ _ (by omega) (by omega)
    · have e : i = us.length := by omega
      subst e
      have e : (valI us).get S us.length = some none := by simp [valI]
      rw [e]
      simp [cmpL]
theorem Es_ne (r : Rs β) {QB : β → Sto → Prop} {t : Tk (QB, X)} : Es r.ne QB X t = Es r QB NoX ⟨⟩ := by cases r <;> rfl
@[simp ↓] theorem Es_cmp {t : Tk (QA, X)} (g : EvG) (tt : EvT) (te : EvE) (ew : En) (us : List U) (S : Sto) : Es (compN (valI us).get g tt te ew (valI us).n 0 [] S) QA X t = Es (cmpL g tt te ew us [] S) QA X ⟨⟩ := by
  rw [compN_cmpL us _ _ _ _ (by simp [valI]) (by omega)]; rfl
@[simp ↓] theorem Es_cmp0 {t : Tk (QA, X)} (g : EvG) (tt : EvT) (te : EvE) (ew : En) (acc : List U) (S : Sto) : Es (cmpL g tt te ew [] acc S) QA X t = Es (.ok acc S) QA X ⟨⟩ := rfl
@[simp ↓] theorem Es_cmp1 {t : Tk (QA, X)} (g : EvG) (tt : EvT) (te : EvE) (ew : En) (u : U) (us acc : List U) (S : Sto) : Es (cmpL g tt te ew (u :: us) acc S) QA X t = Es (g u ew S) (fun e2 S2 => Es (tt e2 S2) (fun b S3 => if b = true then Es (te e2 S3) (fun y S4 => if acc.length < sizeLine then Es (cmpL g tt te ew us (acc ++ [y]) S4) QA X ⟨⟩ else False) NoX ⟨⟩ else Es (cmpL g tt te ew us acc S3) QA X ⟨⟩) NoX ⟨⟩) NoX ⟨⟩ := by
  simp only [cmpL]
  rw [Es_bd]
  cases g u ew S with
  | no => rfl
  | er => rfl
  | ok e2 S2 =>
    simp only [Rs.ne, Es_ok]
    rw [Es_bd]
    cases tt e2 S2 with
    | no => rfl
    | er => rfl
    | ok b S3 =>
      cases b with
      | false => simp [Rs.ne]
      | true =>
        simp only [Rs.ne, Es_ok, if_true]
        rw [Es_bd]
        cases te e2 S3 with
        | no => rfl
        | er => rfl
        | ok y S4 => simp only [Rs.ne, Es_ok]; rw [Es_ite]; rfl
theorem comp_val {g : EvG} {tt : EvT} {te : EvE} {ew : En} {S : Sto} {us : List U} (p : U → Bool) (f : U → U) (hl : us.length ≤ sizeLine)
    (h : ∀ u ∈ us, ∃ e, g u ew S = .ok e S ∧ tt e S = .ok (p u) S ∧ (p u = true → te e S = .ok (f u) S)) : compN (valI us).get g tt te ew (valI us).n 0 [] S = .ok ((us.filter p).map f) S := by
  have := compN_at (get := (valI us).get) us p f (fun i hh => by simp [valI, hh]) (by simp [valI]) hl h (us.length + 1) 0 [] (by omega) (by omega) (by simp)
  simp only [List.drop_zero, List.nil_append] at this
  exact this
theorem cmpL_val {g : EvG} {tt : EvT} {te : EvE} {ew : En} {S : Sto} {us : List U} (p : U → Bool) (f : U → U) (hl : us.length ≤ sizeLine)
    (h : ∀ u ∈ us, ∃ e, g u ew S = .ok e S ∧ tt e S = .ok (p u) S ∧ (p u = true → te e S = .ok (f u) S)) : cmpL g tt te ew us [] S = .ok ((us.filter p).map f) S := by
  have := comp_val p f hl h
  rw [compN_cmpL us _ _ _ _ (by simp [valI]) (by omega)] at this
  exact this
theorem comp_rng {lo : Int} {n : Nat} {g : EvG} {tt : EvT} {te : EvE} {ew : En} {S : Sto} (p : U → Bool) (f : U → U) (hl : n ≤ sizeLine)
    (h : ∀ i, i < n → ∃ e, g (.d (.int (lo + (i : Nat)))) ew S = .ok e S ∧ tt e S = .ok (p (.d (.int (lo + (i : Nat))))) S ∧ (p (.d (.int (lo + (i : Nat)))) = true → te e S = .ok (f (.d (.int (lo + (i : Nat))))) S)) : compN (rngI lo n).get g tt te ew (rngI lo n).n 0 [] S = .ok ((((List.range n).map fun i => U.d (.int (lo + (i : Nat)))).filter p).map f) S := by
  have := compN_at (get := (rngI lo n).get) ((List.range n).map fun i => U.d (.int (lo + (i : Nat)))) p f (fun i hh => by
      have : i < n := by simpa using hh
      simp [rngI, this]) (by simp [rngI]) (by simpa using hl) (by
      intro u hu
      obtain ⟨i, hi, rfl⟩ := List.mem_map.1 hu
      exact h i (by simpa using hi)) (n + 1) 0 [] (by simp) (by omega) (by simp)
  simp only [List.drop_zero, List.nil_append] at this
  exact this
end
end Mi

namespace K06
open PySem PySem.Spec PyProof.Rows L2 Mi
def top (i : Nat) : Stmt := PySem.Challenge.pw_saveagain_k06_whole_rounding_by_the_near.main.body.getD i (.Pass ⟨0, 0, 0, 0⟩)
abbrev s_is_integer : Stmt := top 5
abbrev s_is_within : Stmt := top 6
abbrev s_is_row : Stmt := top 7
abbrev s_is_rule : Stmt := top 11
abbrev s_is_grid : Stmt := top 12
abbrev s_need_grid : Stmt := top 13
abbrev s_need_number : Stmt := top 14
abbrev s_mark_in : Stmt := top 15
abbrev s_point_in : Stmt := top 16
abbrev s_mark : Stmt := top 17
abbrev s_point : Stmt := top 18
abbrev s_nearest : Stmt := top 19
abbrev s_span : Stmt := top 20
abbrev s_ties : Stmt := top 21
abbrev s_is_point : Stmt := top 22
abbrev s__law_pen : Stmt := top 24
abbrev s__law_draw : Stmt := top 25
abbrev s__law_pick : Stmt := top 26
abbrev s__law_between : Stmt := top 27
abbrev s__law_v_great : Stmt := top 28
abbrev s_law : Stmt := top 29
theorem bb_abs : bootBuiltins "abs" = some (.builtin "abs") := by decide +kernel
theorem bb_bool : bootBuiltins "bool" = some (.type "bool") := by decide +kernel
theorem bb_divmod : bootBuiltins "divmod" = some (.builtin "divmod") := by decide +kernel
theorem bb_int : bootBuiltins "int" = some (.type "int") := by decide +kernel
theorem bb_isinstance : bootBuiltins "isinstance" = some (.builtin "isinstance") := by decide +kernel
theorem bb_len : bootBuiltins "len" = some (.builtin "len") := by decide +kernel
theorem bb_list : bootBuiltins "list" = some (.type "list") := by decide +kernel
theorem bb_min : bootBuiltins "min" = some (.builtin "min") := by decide +kernel
theorem bb_range : bootBuiltins "range" = some (.type "range") := by decide +kernel
theorem bb_str : bootBuiltins "str" = some (.type "str") := by decide +kernel
theorem bb_tuple : bootBuiltins "tuple" = some (.type "tuple") := by decide +kernel
def k_MOST_STEP : D := (.int 999)
def k_RULES : D := (.tup [(.str "floor"), (.str "ceil"), (.str "up"), (.str "down"), (.str "even"), (.str "odd")])
structure Txt (K : PySem.W.Frag) (mg : Str → Option Value) : Prop where
  n_abs : mg "abs" = none
  n_bool : mg "bool" = none
  n_divmod : mg "divmod" = none
  n_int : mg "int" = none
  n_isinstance : mg "isinstance" = none
  n_len : mg "len" = none
  n_list : mg "list" = none
  n_min : mg "min" = none
  n_range : mg "range" = none
  n_str : mg "str" = none
  n_tuple : mg "tuple" = none
  k_MOST_STEP : GCon K mg "MOST_STEP" k_MOST_STEP
  k_RULES : GCon K mg "RULES" k_RULES
  g_is_integer : mg "is_integer" = some (.ref (He.ga K "is_integer"))
  u_is_integer : ∃ fd, FunD K "is_integer" "is_integer" (defArgs s_is_integer) (defBody s_is_integer) (defScope s_is_integer) [] [] (He.ga K "is_integer") fd
  g_is_within : mg "is_within" = some (.ref (He.ga K "is_within"))
  u_is_within : ∃ fd, FunD K "is_within" "is_within" (defArgs s_is_within) (defBody s_is_within) (defScope s_is_within) [] [] (He.ga K "is_within") fd
  g_is_row : mg "is_row" = some (.ref (He.ga K "is_row"))
  u_is_row : ∃ fd, FunD K "is_row" "is_row" (defArgs s_is_row) (defBody s_is_row) (defScope s_is_row) [] [] (He.ga K "is_row") fd
  g_is_rule : mg "is_rule" = some (.ref (He.ga K "is_rule"))
  u_is_rule : ∃ fd, FunD K "is_rule" "is_rule" (defArgs s_is_rule) (defBody s_is_rule) (defScope s_is_rule) [] [] (He.ga K "is_rule") fd
  g_is_grid : mg "is_grid" = some (.ref (He.ga K "is_grid"))
  u_is_grid : ∃ fd, FunD K "is_grid" "is_grid" (defArgs s_is_grid) (defBody s_is_grid) (defScope s_is_grid) [] [] (He.ga K "is_grid") fd
  g_need_grid : mg "need_grid" = some (.ref (He.ga K "need_grid"))
  u_need_grid : ∃ fd, FunD K "need_grid" "need_grid" (defArgs s_need_grid) (defBody s_need_grid) (defScope s_need_grid) [] [] (He.ga K "need_grid") fd
  g_need_number : mg "need_number" = some (.ref (He.ga K "need_number"))
  u_need_number : ∃ fd, FunD K "need_number" "need_number" (defArgs s_need_number) (defBody s_need_number) (defScope s_need_number) [] [] (He.ga K "need_number") fd
  g_mark_in : mg "mark_in" = some (.ref (He.ga K "mark_in"))
  u_mark_in : ∃ fd, FunD K "mark_in" "mark_in" (defArgs s_mark_in) (defBody s_mark_in) (defScope s_mark_in) [] [] (He.ga K "mark_in") fd
  g_point_in : mg "point_in" = some (.ref (He.ga K "point_in"))
  u_point_in : ∃ fd, FunD K "point_in" "point_in" (defArgs s_point_in) (defBody s_point_in) (defScope s_point_in) [] [] (He.ga K "point_in") fd
  g_mark : mg "mark" = some (.ref (He.ga K "mark"))
  u_mark : ∃ fd, FunD K "mark" "mark" (defArgs s_mark) (defBody s_mark) (defScope s_mark) [] [] (He.ga K "mark") fd
  g_point : mg "point" = some (.ref (He.ga K "point"))
  u_point : ∃ fd, FunD K "point" "point" (defArgs s_point) (defBody s_point) (defScope s_point) [] [] (He.ga K "point") fd
  g_nearest : mg "nearest" = some (.ref (He.ga K "nearest"))
  u_nearest : ∃ fd, FunD K "nearest" "nearest" (defArgs s_nearest) (defBody s_nearest) (defScope s_nearest) [] [] (He.ga K "nearest") fd
  g_span : mg "span" = some (.ref (He.ga K "span"))
  u_span : ∃ fd, FunD K "span" "span" (defArgs s_span) (defBody s_span) (defScope s_span) [] [] (He.ga K "span") fd
  g_ties : mg "ties" = some (.ref (He.ga K "ties"))
  u_ties : ∃ fd, FunD K "ties" "ties" (defArgs s_ties) (defBody s_ties) (defScope s_ties) [] [] (He.ga K "ties") fd
  g_is_point : mg "is_point" = some (.ref (He.ga K "is_point"))
  u_is_point : ∃ fd, FunD K "is_point" "is_point" (defArgs s_is_point) (defBody s_is_point) (defScope s_is_point) [] [] (He.ga K "is_point") fd
  g__law_pen : mg "_law_pen" = some (.ref (He.ga K "_law_pen"))
  u__law_pen : ∃ fd, FunD K "_law_pen" "_law_pen" (defArgs s__law_pen) (defBody s__law_pen) (defScope s__law_pen) [] [] (He.ga K "_law_pen") fd
  g__law_draw : mg "_law_draw" = some (.ref (He.ga K "_law_draw"))
  u__law_draw : ∃ fd, FunD K "_law_draw" "_law_draw" (defArgs s__law_draw) (defBody s__law_draw) (defScope s__law_draw) [] [] (He.ga K "_law_draw") fd
  g__law_pick : mg "_law_pick" = some (.ref (He.ga K "_law_pick"))
  u__law_pick : ∃ fd, FunD K "_law_pick" "_law_pick" (defArgs s__law_pick) (defBody s__law_pick) (defScope s__law_pick) [] [] (He.ga K "_law_pick") fd
  g__law_between : mg "_law_between" = some (.ref (He.ga K "_law_between"))
  u__law_between : ∃ fd, FunD K "_law_between" "_law_between" (defArgs s__law_between) (defBody s__law_between) (defScope s__law_between) [] [] (He.ga K "_law_between") fd
  g__law_v_great : mg "_law_v_great" = some (.ref (He.ga K "_law_v_great"))
  u__law_v_great : ∃ fd, FunD K "_law_v_great" "_law_v_great" (defArgs s__law_v_great) (defBody s__law_v_great) (defScope s__law_v_great) [] [] (He.ga K "_law_v_great") fd
  g_law : mg "law" = some (.ref (He.ga K "law"))
  u_law : ∃ fd, FunD K "law" "law" (defArgs s_law) (defBody s_law) (defScope s_law) [] [] (He.ga K "law") fd
section
variable {P : Program} {w : World} {K : PySem.W.Frag} {mg : Str → Option Value} {base : Heap}
/-! is_integer -/
abbrev N_is_integer : List Str := ["value"]
theorem sc_is_integer : FnScope N_is_integer ["value"] (defScope s_is_integer) := ⟨rfl, rfl, rfl, by decide +kernel, rfl, by decide +kernel, by decide +kernel⟩
def b_is_integer : EvS :=
  (sRt (eAnd (eCa oIsi (aCons (eVar 0) (aCons (eC (.ty "int")) aNil))) (eNot (eCa oIsi (aCons (eVar 0) (aCons (eC (.ty "bool")) aNil))))))
def m_is_integer : Oa := run 1 1 b_is_integer
theorem c_is_integer (T : Txt K mg) {fd : FuncData} (Fd : FunD K "is_integer" "is_integer" (defArgs s_is_integer) (defBody s_is_integer) (defScope s_is_integer) [] [] (He.ga K "is_integer") fd) : FnF P w K mg base 1 (He.ga K "is_integer") fd ["value"] m_is_integer :=
  fn_mk (N := N_is_integer) (k := 0) (a := b_is_integer) Fd sc_is_integer fun cdv A outer s H E hr tk =>
  (fss_one (fs_ret (fe_and (fe_callB c_isi rfl T.n_isinstance bb_isinstance (fa_cons (fe_var 0) (fa_cons (fe_bltn rfl T.n_int bb_int) fa_nil))) (fe_one (fe_not (fe_callB c_isi rfl T.n_isinstance bb_isinstance (fa_cons (fe_var 0) (fa_cons (fe_bltn rfl T.n_bool bb_bool) fa_nil))))))))
theorem d_is_integer (T : Txt K mg) : Dn P w K mg base 1 "is_integer" ["value"] m_is_integer := by
  obtain ⟨fd, Fd⟩ := T.u_is_integer
  exact ⟨_, fd, c_is_integer T Fd, T.g_is_integer, Fd.kp, Fd.bindsN fun _ _ _ _ _ _ us hl => match us, hl with | [_], _ => rfl⟩
/-! is_within -/
abbrev N_is_within : List Str := ["value", "least", "most"]
theorem sc_is_within : FnScope N_is_within ["value", "least", "most"] (defScope s_is_within) := ⟨rfl, rfl, rfl, by decide +kernel, rfl, by decide +kernel, by decide +kernel⟩
def b_is_within : EvS :=
  (sSeq (sIf (bNot (tB1 (eCa m_is_integer (aCons (eVar 0) aNil)))) (sRt (eC (.bl false))) sNx)
  (sRt (eAnd (eOr (eBin (oIsN false) (eVar 1) (eC .non)) (eBin oGe (eVar 0) (eVar 1))) (eOr (eBin (oIsN false) (eVar 2) (eC .non)) (eBin oLe (eVar 0) (eVar 2))))))
def m_is_within : Oa := run 3 3 b_is_within
theorem c_is_within (T : Txt K mg) {fd : FuncData} (Fd : FunD K "is_within" "is_within" (defArgs s_is_within) (defBody s_is_within) (defScope s_is_within) [] [] (He.ga K "is_within") fd) : FnF P w K mg base 2 (He.ga K "is_within") fd ["value", "least", "most"] m_is_within :=
  fn_mk (N := N_is_within) (k := 1) (a := b_is_within) Fd sc_is_within fun cdv A outer s H E hr tk =>
  (fss_cons (fs_if (ft_not (ft_val (fe_call ((d_is_integer T).mono (by decide)) hr tk rfl (fa_cons (fe_var 0) fa_nil)))) (fss_one (fs_ret fe_bl)) fss_nil)
  (fss_one (fs_ret (fe_and (fe_or (fe_cmp o_is (fe_var 1) fe_non (nomark _)) (fe_one (fe_cmp o_ge (fe_var 0) (fe_var 1) (nomark _)))) (fe_one (fe_or (fe_cmp o_is (fe_var 2) fe_non (nomark _)) (fe_one (fe_cmp o_le (fe_var 0) (fe_var 2) (nomark _)))))))))
theorem d_is_within (T : Txt K mg) : Dn P w K mg base 2 "is_within" ["value", "least", "most"] m_is_within := by
  obtain ⟨fd, Fd⟩ := T.u_is_within
  exact ⟨_, fd, c_is_within T Fd, T.g_is_within, Fd.kp, Fd.bindsN fun _ _ _ _ _ _ us hl => match us, hl with | [_, _, _], _ => rfl⟩
/-! is_row -/
abbrev N_is_row : List Str := ["value", "most"]
theorem sc_is_row : FnScope N_is_row ["value", "most"] (defScope s_is_row) := ⟨rfl, rfl, rfl, by decide +kernel, rfl, by decide +kernel, by decide +kernel⟩
def b_is_row : EvS :=
  (sRt (eAnd (eCa oIsi (aCons (eVar 0) (aCons (eTup (aCons (eC (.ty "list")) (aCons (eC (.ty "tuple")) aNil))) aNil))) (eBin oLe (eCa oLen (aCons (eVar 0) aNil)) (eVar 1))))
def m_is_row : Oa := run 2 2 b_is_row
theorem c_is_row (T : Txt K mg) {fd : FuncData} (Fd : FunD K "is_row" "is_row" (defArgs s_is_row) (defBody s_is_row) (defScope s_is_row) [] [] (He.ga K "is_row") fd) : FnF P w K mg base 1 (He.ga K "is_row") fd ["value", "most"] m_is_row :=
  fn_mk (N := N_is_row) (k := 0) (a := b_is_row) Fd sc_is_row fun cdv A outer s H E hr tk =>
  (fss_one (fs_ret (fe_and (fe_callB c_isi rfl T.n_isinstance bb_isinstance (fa_cons (fe_var 0) (fa_cons (fe_tup (fa_cons (fe_bltn rfl T.n_list bb_list) (fa_cons (fe_bltn rfl T.n_tuple bb_tuple) fa_nil))) fa_nil))) (fe_one (fe_cmp o_le (fe_callB c_len rfl T.n_len bb_len (fa_cons (fe_var 0) fa_nil)) (fe_var 1) (nomark _))))))
theorem d_is_row (T : Txt K mg) : Dn P w K mg base 1 "is_row" ["value", "most"] m_is_row := by
  obtain ⟨fd, Fd⟩ := T.u_is_row
  exact ⟨_, fd, c_is_row T Fd, T.g_is_row, Fd.kp, Fd.bindsN fun _ _ _ _ _ _ us hl => match us, hl with | [_, _], _ => rfl⟩
/-! is_rule -/
abbrev N_is_rule : List Str := ["value"]
theorem sc_is_rule : FnScope N_is_rule ["value"] (defScope s_is_rule) := ⟨rfl, rfl, rfl, by decide +kernel, rfl, by decide +kernel, by decide +kernel⟩
def b_is_rule : EvS :=
  (sRt (eAnd (eCa oIsi (aCons (eVar 0) (aCons (eC (.ty "str")) aNil))) (eBin (oInG false) (eVar 0) (eC k_RULES))))
def m_is_rule : Oa := run 1 1 b_is_rule
theorem c_is_rule (T : Txt K mg) {fd : FuncData} (Fd : FunD K "is_rule" "is_rule" (defArgs s_is_rule) (defBody s_is_rule) (defScope s_is_rule) [] [] (He.ga K "is_rule") fd) : FnF P w K mg base 1 (He.ga K "is_rule") fd ["value"] m_is_rule :=
  fn_mk (N := N_is_rule) (k := 0) (a := b_is_rule) Fd sc_is_rule fun cdv A outer s H E hr tk =>
  (fss_one (fs_ret (fe_and (fe_callB c_isi rfl T.n_isinstance bb_isinstance (fa_cons (fe_var 0) (fa_cons (fe_bltn rfl T.n_str bb_str) fa_nil))) (fe_one (fe_cmp (o_in (u65_of hr)) (fe_var 0) (fe_gcon T.k_RULES rfl) (by rfl))))))
theorem d_is_rule (T : Txt K mg) : Dn P w K mg base 1 "is_rule" ["value"] m_is_rule := by
  obtain ⟨fd, Fd⟩ := T.u_is_rule
  exact ⟨_, fd, c_is_rule T Fd, T.g_is_rule, Fd.kp, Fd.bindsN fun _ _ _ _ _ _ us hl => match us, hl with | [_], _ => rfl⟩
/-! is_grid -/
abbrev N_is_grid : List Str := ["value"]
theorem sc_is_grid : FnScope N_is_grid ["value"] (defScope s_is_grid) := ⟨rfl, rfl, rfl, by decide +kernel, rfl, by decide +kernel, by decide +kernel⟩
def b_is_grid : EvS :=
  (sSeq (sIf (bOr (bNot (tB1 (eCa m_is_row (aCons (eVar 0) (aCons (eC (.int 3)) aNil))))) (bOr (tB1 (eBin oNe (eCa oLen (aCons (eVar 0) aNil)) (eC (.int 3)))) (bNot (tB1 (eCa m_is_within (aCons (eBin oIx (eVar 0) (eC (.int 0))) (aCons (eC (.int 1)) (aCons (eC k_MOST_STEP) aNil)))))))) (sRt (eC (.bl false))) sNx)
  (sRt (eAnd (eCa m_is_within (aCons (eBin oIx (eVar 0) (eC (.int 1))) (aCons (eC (.int 0)) (aCons (eBin oSub (eBin oIx (eVar 0) (eC (.int 0))) (eC (.int 1))) aNil)))) (eCa m_is_rule (aCons (eBin oIx (eVar 0) (eC (.int 2))) aNil)))))
def m_is_grid : Oa := run 1 1 b_is_grid
theorem c_is_grid (T : Txt K mg) {fd : FuncData} (Fd : FunD K "is_grid" "is_grid" (defArgs s_is_grid) (defBody s_is_grid) (defScope s_is_grid) [] [] (He.ga K "is_grid") fd) : FnF P w K mg base 3 (He.ga K "is_grid") fd ["value"] m_is_grid :=
  fn_mk (N := N_is_grid) (k := 2) (a := b_is_grid) Fd sc_is_grid fun cdv A outer s H E hr tk =>
  (fss_cons (fs_if (FW.ft (fw_or (ft_not (ft_val (fe_call ((d_is_row T).mono (by decide)) hr tk rfl (fa_cons (fe_var 0) (fa_cons fe_int fa_nil))))) (fw_or (ft_cmp (o_ne (u64_of hr)) (fe_callB c_len rfl T.n_len bb_len (fa_cons (fe_var 0) fa_nil)) fe_int (nomark _)) (fw_or1 (ft_not (ft_val (fe_call ((d_is_within T).mono (by decide)) hr tk rfl (fa_cons (fe_ix (fe_var 0) fe_int (fun _ _ => rfl)) (fa_cons fe_int (fa_cons (fe_gcon T.k_MOST_STEP rfl) fa_nil)))))))))) (fss_one (fs_ret fe_bl)) fss_nil)
  (fss_one (fs_ret (fe_and (fe_call ((d_is_within T).mono (by decide)) hr tk rfl (fa_cons (fe_ix (fe_var 0) fe_int (fun _ _ => rfl)) (fa_cons fe_int (fa_cons (fe_bin o_sub (fe_ix (fe_var 0) fe_int (fun _ _ => rfl)) fe_int) fa_nil)))) (fe_one (fe_call ((d_is_rule T).mono (by decide)) hr tk rfl (fa_cons (fe_ix (fe_var 0) fe_int (fun _ _ => rfl)) fa_nil)))))))
theorem d_is_grid (T : Txt K mg) : Dn P w K mg base 3 "is_grid" ["value"] m_is_grid := by
  obtain ⟨fd, Fd⟩ := T.u_is_grid
  exact ⟨_, fd, c_is_grid T Fd, T.g_is_grid, Fd.kp, Fd.bindsN fun _ _ _ _ _ _ us hl => match us, hl with | [_], _ => rfl⟩
/-! need_grid -/
abbrev N_need_grid : List Str := ["value"]
theorem sc_need_grid : FnScope N_need_grid ["value"] (defScope s_need_grid) := ⟨rfl, rfl, rfl, by decide +kernel, rfl, by decide +kernel, by decide +kernel⟩
def b_need_grid : EvS :=
  (sSeq (sIf (bNot (tB1 (eCa m_is_grid (aCons (eVar 0) aNil)))) sNo sNx)
  (sRt (eCa oTuple (aCons (eVar 0) aNil))))
def m_need_grid : Oa := run 1 1 b_need_grid
theorem c_need_grid (T : Txt K mg) {fd : FuncData} (Fd : FunD K "need_grid" "need_grid" (defArgs s_need_grid) (defBody s_need_grid) (defScope s_need_grid) [] [] (He.ga K "need_grid") fd) : FnF P w K mg base 4 (He.ga K "need_grid") fd ["value"] m_need_grid :=
  fn_mk (N := N_need_grid) (k := 3) (a := b_need_grid) Fd sc_need_grid fun cdv A outer s H E hr tk =>
  (fss_cons (fs_if (ft_not (ft_val (fe_call ((d_is_grid T).mono (by decide)) hr tk rfl (fa_cons (fe_var 0) fa_nil)))) (fss_one fs_no) fss_nil)
  (fss_one (fs_ret (fe_callTy c_tuple rfl T.n_tuple bb_tuple (fa_cons (fe_var 0) fa_nil)))))
theorem d_need_grid (T : Txt K mg) : Dn P w K mg base 4 "need_grid" ["value"] m_need_grid := by
  obtain ⟨fd, Fd⟩ := T.u_need_grid
  exact ⟨_, fd, c_need_grid T Fd, T.g_need_grid, Fd.kp, Fd.bindsN fun _ _ _ _ _ _ us hl => match us, hl with | [_], _ => rfl⟩
/-! need_number -/
abbrev N_need_number : List Str := ["value", "part"]
theorem sc_need_number : FnScope N_need_number ["value", "part"] (defScope s_need_number) := ⟨rfl, rfl, rfl, by decide +kernel, rfl, by decide +kernel, by decide +kernel⟩
def b_need_number : EvS :=
  (sIf (bNot (tB1 (eCa m_is_integer (aCons (eVar 0) aNil)))) sNo sNx)
def m_need_number : Oa := run 2 2 b_need_number
theorem c_need_number (T : Txt K mg) {fd : FuncData} (Fd : FunD K "need_number" "need_number" (defArgs s_need_number) (defBody s_need_number) (defScope s_need_number) [] [] (He.ga K "need_number") fd) : FnF P w K mg base 2 (He.ga K "need_number") fd ["value", "part"] m_need_number :=
  fn_mk (N := N_need_number) (k := 1) (a := b_need_number) Fd sc_need_number fun cdv A outer s H E hr tk =>
  (fss_one (fs_if (ft_not (ft_val (fe_call ((d_is_integer T).mono (by decide)) hr tk rfl (fa_cons (fe_var 0) fa_nil)))) (fss_one fs_no) fss_nil))
theorem d_need_number (T : Txt K mg) : Dn P w K mg base 2 "need_number" ["value", "part"] m_need_number := by
  obtain ⟨fd, Fd⟩ := T.u_need_number
  exact ⟨_, fd, c_need_number T Fd, T.g_need_number, Fd.kp, Fd.bindsN fun _ _ _ _ _ _ us hl => match us, hl with | [_, _], _ => rfl⟩
/-! mark_in -/
abbrev N_mark_in : List Str := ["grid", "number", "step", "offset", "rule", "low", "over"]
theorem sc_mark_in : FnScope N_mark_in ["grid", "number"] (defScope s_mark_in) := ⟨rfl, rfl, rfl, by decide +kernel, rfl, by decide +kernel, by decide +kernel⟩
def b_mark_in : EvS :=
  (sSeq (sAs (eVar 0) (gTp 3 (gsCons (gNm 2) (gsCons (gNm 3) (gsCons (gNm 4) gsNil)))))
  (sSeq (sAs (eCa oDvm (aCons (eBin oSub (eVar 1) (eVar 3)) (aCons (eVar 2) aNil))) (gTp 2 (gsCons (gNm 5) (gsCons (gNm 6) gsNil))))
  (sSeq (sIf (bOr (tB1 (eBin oEq (eVar 6) (eC (.int 0)))) (tB1 (eBin oEq (eVar 4) (eC (.str "floor"))))) (sRt (eVar 5)) sNx)
  (sSeq (sIf (tB1 (eBin oEq (eVar 4) (eC (.str "ceil")))) (sRt (eBin oAdd (eVar 5) (eC (.int 1)))) sNx)
  (sSeq (sIf (tB1 (eBin oNe (eBin oMul (eC (.int 2)) (eVar 6)) (eVar 2))) (sRt (eBin oAdd (eVar 5) (eCa oInt (aCons (eBin oGt (eBin oMul (eC (.int 2)) (eVar 6)) (eVar 2)) aNil)))) sNx)
  (sSeq (sIf (tB1 (eBin oEq (eVar 4) (eC (.str "up")))) (sRt (eBin oAdd (eVar 5) (eC (.int 1)))) sNx)
  (sSeq (sIf (tB1 (eBin oEq (eVar 4) (eC (.str "down")))) (sRt (eVar 5)) sNx)
  (sRt (eIf (tB1 (eBin oEq (eVar 4) (eC (.str "even")))) (eBin oAdd (eVar 5) (eBin oMod (eVar 5) (eC (.int 2)))) (eBin oSub (eBin oAdd (eVar 5) (eC (.int 1))) (eBin oMod (eVar 5) (eC (.int 2)))))))))))))
def m_mark_in : Oa := run 2 7 b_mark_in
theorem c_mark_in (T : Txt K mg) {fd : FuncData} (Fd : FunD K "mark_in" "mark_in" (defArgs s_mark_in) (defBody s_mark_in) (defScope s_mark_in) [] [] (He.ga K "mark_in") fd) : FnF P w K mg base 1 (He.ga K "mark_in") fd ["grid", "number"] m_mark_in :=
  fn_mk (N := N_mark_in) (k := 0) (a := b_mark_in) Fd sc_mark_in fun cdv A outer s H E hr tk =>
  (fss_cons (fs_asg (fe_var 0) (fg_tup rfl (fgs_cons (fg_name 2 sc_mark_in.nd) (fgs_cons (fg_name 3 sc_mark_in.nd) (fgs_cons (fg_name 4 sc_mark_in.nd) fgs_nil ne_nil) (ne_cons (ne_nm 4) ne_nil)) (ne_cons (ne_nm 3) (ne_cons (ne_nm 4) ne_nil)))))
  (fss_cons (fs_asg (fe_callB c_divmod rfl T.n_divmod bb_divmod (fa_cons (fe_bin o_sub (fe_var 1) (fe_var 3)) (fa_cons (fe_var 2) fa_nil))) (fg_tup rfl (fgs_cons (fg_name 5 sc_mark_in.nd) (fgs_cons (fg_name 6 sc_mark_in.nd) fgs_nil ne_nil) (ne_cons (ne_nm 6) ne_nil))))
  (fss_cons (fs_if (FW.ft (fw_or (ft_cmp (o_eq (u64_of hr)) (fe_var 6) fe_int (nomark _)) (fw_or1 (ft_cmp (o_eq (u64_of hr)) (fe_var 4) fe_str (nomark _))))) (fss_one (fs_ret (fe_var 5))) fss_nil)
  (fss_cons (fs_if (ft_cmp (o_eq (u64_of hr)) (fe_var 4) fe_str (nomark _)) (fss_one (fs_ret (fe_bin o_add (fe_var 5) fe_int))) fss_nil)
  (fss_cons (fs_if (ft_cmp (o_ne (u64_of hr)) (fe_bin o_mul fe_int (fe_var 6)) (fe_var 2) (nomark _)) (fss_one (fs_ret (fe_bin o_add (fe_var 5) (fe_callTy c_int rfl T.n_int bb_int (fa_cons (fe_cmp o_gt (fe_bin o_mul fe_int (fe_var 6)) (fe_var 2) (nomark _)) fa_nil))))) fss_nil)
  (fss_cons (fs_if (ft_cmp (o_eq (u64_of hr)) (fe_var 4) fe_str (nomark _)) (fss_one (fs_ret (fe_bin o_add (fe_var 5) fe_int))) fss_nil)
  (fss_cons (fs_if (ft_cmp (o_eq (u64_of hr)) (fe_var 4) fe_str (nomark _)) (fss_one (fs_ret (fe_var 5))) fss_nil)
  (fss_one (fs_ret (fe_if (ft_cmp (o_eq (u64_of hr)) (fe_var 4) fe_str (nomark _)) (fe_bin o_add (fe_var 5) (fe_bin o_mod (fe_var 5) fe_int)) (fe_bin o_sub (fe_bin o_add (fe_var 5) fe_int) (fe_bin o_mod (fe_var 5) fe_int))))))))))))
theorem d_mark_in (T : Txt K mg) : Dn P w K mg base 1 "mark_in" ["grid", "number"] m_mark_in := by
  obtain ⟨fd, Fd⟩ := T.u_mark_in
  exact ⟨_, fd, c_mark_in T Fd, T.g_mark_in, Fd.kp, Fd.bindsN fun _ _ _ _ _ _ us hl => match us, hl with | [_, _], _ => rfl⟩
/-! point_in -/
abbrev N_point_in : List Str := ["grid", "place"]
theorem sc_point_in : FnScope N_point_in ["grid", "place"] (defScope s_point_in) := ⟨rfl, rfl, rfl, by decide +kernel, rfl, by decide +kernel, by decide +kernel⟩
def b_point_in : EvS :=
  (sRt (eBin oAdd (eBin oIx (eVar 0) (eC (.int 1))) (eBin oMul (eBin oIx (eVar 0) (eC (.int 0))) (eVar 1))))
def m_point_in : Oa := run 2 2 b_point_in
theorem c_point_in (T : Txt K mg) {fd : FuncData} (Fd : FunD K "point_in" "point_in" (defArgs s_point_in) (defBody s_point_in) (defScope s_point_in) [] [] (He.ga K "point_in") fd) : FnF P w K mg base 1 (He.ga K "point_in") fd ["grid", "place"] m_point_in :=
  fn_mk (N := N_point_in) (k := 0) (a := b_point_in) Fd sc_point_in fun cdv A outer s H E hr tk =>
  (fss_one (fs_ret (fe_bin o_add (fe_ix (fe_var 0) fe_int (fun _ _ => rfl)) (fe_bin o_mul (fe_ix (fe_var 0) fe_int (fun _ _ => rfl)) (fe_var 1)))))
theorem d_point_in (T : Txt K mg) : Dn P w K mg base 1 "point_in" ["grid", "place"] m_point_in := by
  obtain ⟨fd, Fd⟩ := T.u_point_in
  exact ⟨_, fd, c_point_in T Fd, T.g_point_in, Fd.kp, Fd.bindsN fun _ _ _ _ _ _ us hl => match us, hl with | [_, _], _ => rfl⟩
/-! mark -/
abbrev N_mark : List Str := ["grid", "number", "told"]
theorem sc_mark : FnScope N_mark ["grid", "number"] (defScope s_mark) := ⟨rfl, rfl, rfl, by decide +kernel, rfl, by decide +kernel, by decide +kernel⟩
def b_mark : EvS :=
  (sSeq (sSt 2 (eCa m_need_grid (aCons (eVar 0) aNil)))
  (sSeq (sEx (eCa m_need_number (aCons (eVar 1) (aCons (eC (.str "number")) aNil))))
  (sRt (eCa m_mark_in (aCons (eVar 2) (aCons (eVar 1) aNil))))))
def m_mark : Oa := run 2 3 b_mark
theorem c_mark (T : Txt K mg) {fd : FuncData} (Fd : FunD K "mark" "mark" (defArgs s_mark) (defBody s_mark) (defScope s_mark) [] [] (He.ga K "mark") fd) : FnF P w K mg base 5 (He.ga K "mark") fd ["grid", "number"] m_mark :=
  fn_mk (N := N_mark) (k := 4) (a := b_mark) Fd sc_mark fun cdv A outer s H E hr tk =>
  (fss_cons (fs_set 2 sc_mark.nd (fe_call ((d_need_grid T).mono (by decide)) hr tk rfl (fa_cons (fe_var 0) fa_nil)))
  (fss_cons (fs_expr (fe_call ((d_need_number T).mono (by decide)) hr tk rfl (fa_cons (fe_var 1) (fa_cons fe_str fa_nil))))
  (fss_one (fs_ret (fe_call ((d_mark_in T).mono (by decide)) hr tk rfl (fa_cons (fe_var 2) (fa_cons (fe_var 1) fa_nil)))))))
theorem d_mark (T : Txt K mg) : Dn P w K mg base 5 "mark" ["grid", "number"] m_mark := by
  obtain ⟨fd, Fd⟩ := T.u_mark
  exact ⟨_, fd, c_mark T Fd, T.g_mark, Fd.kp, Fd.bindsN fun _ _ _ _ _ _ us hl => match us, hl with | [_, _], _ => rfl⟩
theorem kn_mark_0_number_grid (T : Txt K mg) : Kn P w K mg base 5 "mark" ["grid", "number"] 0 ["number", "grid"] [1, 0] m_mark := by
  obtain ⟨fd, Fd⟩ := T.u_mark
  exact ⟨_, fd, c_mark T Fd, T.g_mark, Fd.kp, kbn_of Fd 0 ["number", "grid"] [1, 0] fun _ _ _ _ _ _ us ws h1 h2 => match us, ws, h1, h2 with | [], [_, _], _, _ => rfl⟩
/-! point -/
abbrev N_point : List Str := ["grid", "place", "told"]
theorem sc_point : FnScope N_point ["grid", "place"] (defScope s_point) := ⟨rfl, rfl, rfl, by decide +kernel, rfl, by decide +kernel, by decide +kernel⟩
def b_point : EvS :=
  (sSeq (sSt 2 (eCa m_need_grid (aCons (eVar 0) aNil)))
  (sSeq (sEx (eCa m_need_number (aCons (eVar 1) (aCons (eC (.str "place")) aNil))))
  (sRt (eCa m_point_in (aCons (eVar 2) (aCons (eVar 1) aNil))))))
def m_point : Oa := run 2 3 b_point
theorem c_point (T : Txt K mg) {fd : FuncData} (Fd : FunD K "point" "point" (defArgs s_point) (defBody s_point) (defScope s_point) [] [] (He.ga K "point") fd) : FnF P w K mg base 5 (He.ga K "point") fd ["grid", "place"] m_point :=
  fn_mk (N := N_point) (k := 4) (a := b_point) Fd sc_point fun cdv A outer s H E hr tk =>
  (fss_cons (fs_set 2 sc_point.nd (fe_call ((d_need_grid T).mono (by decide)) hr tk rfl (fa_cons (fe_var 0) fa_nil)))
  (fss_cons (fs_expr (fe_call ((d_need_number T).mono (by decide)) hr tk rfl (fa_cons (fe_var 1) (fa_cons fe_str fa_nil))))
  (fss_one (fs_ret (fe_call ((d_point_in T).mono (by decide)) hr tk rfl (fa_cons (fe_var 2) (fa_cons (fe_var 1) fa_nil)))))))
theorem d_point (T : Txt K mg) : Dn P w K mg base 5 "point" ["grid", "place"] m_point := by
  obtain ⟨fd, Fd⟩ := T.u_point
  exact ⟨_, fd, c_point T Fd, T.g_point, Fd.kp, Fd.bindsN fun _ _ _ _ _ _ us hl => match us, hl with | [_, _], _ => rfl⟩
theorem kn_point_0_place_grid (T : Txt K mg) : Kn P w K mg base 5 "point" ["grid", "place"] 0 ["place", "grid"] [1, 0] m_point := by
  obtain ⟨fd, Fd⟩ := T.u_point
  exact ⟨_, fd, c_point T Fd, T.g_point, Fd.kp, kbn_of Fd 0 ["place", "grid"] [1, 0] fun _ _ _ _ _ _ us ws h1 h2 => match us, ws, h1, h2 with | [], [_, _], _, _ => rfl⟩
/-! nearest -/
abbrev N_nearest : List Str := ["grid", "number", "told"]
theorem sc_nearest : FnScope N_nearest ["grid", "number"] (defScope s_nearest) := ⟨rfl, rfl, rfl, by decide +kernel, rfl, by decide +kernel, by decide +kernel⟩
def b_nearest : EvS :=
  (sSeq (sSt 2 (eCa m_need_grid (aCons (eVar 0) aNil)))
  (sSeq (sEx (eCa m_need_number (aCons (eVar 1) (aCons (eC (.str "number")) aNil))))
  (sRt (eCa m_point_in (aCons (eVar 2) (aCons (eCa m_mark_in (aCons (eVar 2) (aCons (eVar 1) aNil))) aNil))))))
def m_nearest : Oa := run 2 3 b_nearest
theorem c_nearest (T : Txt K mg) {fd : FuncData} (Fd : FunD K "nearest" "nearest" (defArgs s_nearest) (defBody s_nearest) (defScope s_nearest) [] [] (He.ga K "nearest") fd) : FnF P w K mg base 5 (He.ga K "nearest") fd ["grid", "number"] m_nearest :=
  fn_mk (N := N_nearest) (k := 4) (a := b_nearest) Fd sc_nearest fun cdv A outer s H E hr tk =>
  (fss_cons (fs_set 2 sc_nearest.nd (fe_call ((d_need_grid T).mono (by decide)) hr tk rfl (fa_cons (fe_var 0) fa_nil)))
  (fss_cons (fs_expr (fe_call ((d_need_number T).mono (by decide)) hr tk rfl (fa_cons (fe_var 1) (fa_cons fe_str fa_nil))))
  (fss_one (fs_ret (fe_call ((d_point_in T).mono (by decide)) hr tk rfl (fa_cons (fe_var 2) (fa_cons (fe_call ((d_mark_in T).mono (by decide)) hr tk rfl (fa_cons (fe_var 2) (fa_cons (fe_var 1) fa_nil))) fa_nil)))))))
theorem d_nearest (T : Txt K mg) : Dn P w K mg base 5 "nearest" ["grid", "number"] m_nearest := by
  obtain ⟨fd, Fd⟩ := T.u_nearest
  exact ⟨_, fd, c_nearest T Fd, T.g_nearest, Fd.kp, Fd.bindsN fun _ _ _ _ _ _ us hl => match us, hl with | [_, _], _ => rfl⟩
theorem kn_nearest_0_number_grid (T : Txt K mg) : Kn P w K mg base 5 "nearest" ["grid", "number"] 0 ["number", "grid"] [1, 0] m_nearest := by
  obtain ⟨fd, Fd⟩ := T.u_nearest
  exact ⟨_, fd, c_nearest T Fd, T.g_nearest, Fd.kp, kbn_of Fd 0 ["number", "grid"] [1, 0] fun _ _ _ _ _ _ us ws h1 h2 => match us, ws, h1, h2 with | [], [_, _], _, _ => rfl⟩
/-! span -/
abbrev N_span : List Str := ["grid", "step", "offset", "rule"]
theorem sc_span : FnScope N_span ["grid"] (defScope s_span) := ⟨rfl, rfl, rfl, by decide +kernel, rfl, by decide +kernel, by decide +kernel⟩
def b_span : EvS :=
  (sSeq (sAs (eCa m_need_grid (aCons (eVar 0) aNil)) (gTp 3 (gsCons (gNm 1) (gsCons (gNm 2) (gsCons (gNm 3) gsNil)))))
  (sRt (eIf (tB1 (eBin (oInG false) (eVar 3) (eTup (aCons (eC (.str "even")) (aCons (eC (.str "odd")) aNil))))) (eBin oMul (eC (.int 2)) (eVar 1)) (eVar 1))))
def m_span : Oa := run 1 4 b_span
theorem c_span (T : Txt K mg) {fd : FuncData} (Fd : FunD K "span" "span" (defArgs s_span) (defBody s_span) (defScope s_span) [] [] (He.ga K "span") fd) : FnF P w K mg base 5 (He.ga K "span") fd ["grid"] m_span :=
  fn_mk (N := N_span) (k := 4) (a := b_span) Fd sc_span fun cdv A outer s H E hr tk =>
  (fss_cons (fs_asg (fe_call ((d_need_grid T).mono (by decide)) hr tk rfl (fa_cons (fe_var 0) fa_nil)) (fg_tup rfl (fgs_cons (fg_name 1 sc_span.nd) (fgs_cons (fg_name 2 sc_span.nd) (fgs_cons (fg_name 3 sc_span.nd) fgs_nil ne_nil) (ne_cons (ne_nm 3) ne_nil)) (ne_cons (ne_nm 2) (ne_cons (ne_nm 3) ne_nil)))))
  (fss_one (fs_ret (fe_if (ft_cmp (o_in (u65_of hr)) (fe_var 3) (fe_tup (fa_cons fe_str (fa_cons fe_str fa_nil))) (by rfl)) (fe_bin o_mul fe_int (fe_var 1)) (fe_var 1)))))
theorem d_span (T : Txt K mg) : Dn P w K mg base 5 "span" ["grid"] m_span := by
  obtain ⟨fd, Fd⟩ := T.u_span
  exact ⟨_, fd, c_span T Fd, T.g_span, Fd.kp, Fd.bindsN fun _ _ _ _ _ _ us hl => match us, hl with | [_], _ => rfl⟩
theorem kn_span_0_grid (T : Txt K mg) : Kn P w K mg base 5 "span" ["grid"] 0 ["grid"] [0] m_span := by
  obtain ⟨fd, Fd⟩ := T.u_span
  exact ⟨_, fd, c_span T Fd, T.g_span, Fd.kp, kbn_of Fd 0 ["grid"] [0] fun _ _ _ _ _ _ us ws h1 h2 => match us, ws, h1, h2 with | [], [_], _, _ => rfl⟩
/-! ties -/
abbrev N_ties : List Str := ["grid", "told", "step", "offset", "rule"]
theorem sc_ties : FnScope N_ties ["grid"] (defScope s_ties) := ⟨rfl, rfl, rfl, by decide +kernel, rfl, by decide +kernel, by decide +kernel⟩
def b_ties : EvS :=
  (sSeq (sSt 1 (eCa m_need_grid (aCons (eVar 0) aNil)))
  (sSeq (sAs (eVar 1) (gTp 3 (gsCons (gNm 2) (gsCons (gNm 3) (gsCons (gNm 4) gsNil)))))
  (sSeq (sIf (bOr (tB1 (eBin (oInG false) (eVar 4) (eTup (aCons (eC (.str "floor")) (aCons (eC (.str "ceil")) aNil))))) (tB1 (eBin oEq (eBin oMod (eVar 2) (eC (.int 2))) (eC (.int 1))))) (sRt (eTup aNil)) sNx)
  (sRt (eTupR (rg3 (aCons (eBin oAdd (eVar 3) (eBin oFdv (eVar 2) (eC (.int 2)))) (aCons (eBin oAdd (eVar 3) (eCa m_span (aCons (eVar 1) aNil))) (aCons (eVar 2) aNil)))))))))
def m_ties : Oa := run 1 5 b_ties
theorem c_ties (T : Txt K mg) {fd : FuncData} (Fd : FunD K "ties" "ties" (defArgs s_ties) (defBody s_ties) (defScope s_ties) [] [] (He.ga K "ties") fd) : FnF P w K mg base 6 (He.ga K "ties") fd ["grid"] m_ties :=
  fn_mk (N := N_ties) (k := 5) (a := b_ties) Fd sc_ties fun cdv A outer s H E hr tk =>
  (fss_cons (fs_set 1 sc_ties.nd (fe_call ((d_need_grid T).mono (by decide)) hr tk rfl (fa_cons (fe_var 0) fa_nil)))
  (fss_cons (fs_asg (fe_var 1) (fg_tup rfl (fgs_cons (fg_name 2 sc_ties.nd) (fgs_cons (fg_name 3 sc_ties.nd) (fgs_cons (fg_name 4 sc_ties.nd) fgs_nil ne_nil) (ne_cons (ne_nm 4) ne_nil)) (ne_cons (ne_nm 3) (ne_cons (ne_nm 4) ne_nil)))))
  (fss_cons (fs_if (FW.ft (fw_or (ft_cmp (o_in (u65_of hr)) (fe_var 4) (fe_tup (fa_cons fe_str (fa_cons fe_str fa_nil))) (by rfl)) (fw_or1 (ft_cmp (o_eq (u64_of hr)) (fe_bin o_mod (fe_var 2) fe_int) fe_int (nomark _))))) (fss_one (fs_ret (fe_tup fa_nil))) fss_nil)
  (fss_one (fs_ret (fe_tupR rfl rfl T.n_tuple (frg_3 rfl T.n_range (fa_cons (fe_bin o_add (fe_var 3) (fe_bin o_fdv (fe_var 2) fe_int)) (fa_cons (fe_bin o_add (fe_var 3) (fe_call ((d_span T).mono (by decide)) hr tk rfl (fa_cons (fe_var 1) fa_nil))) (fa_cons (fe_var 2) fa_nil))))))))))
theorem d_ties (T : Txt K mg) : Dn P w K mg base 6 "ties" ["grid"] m_ties := by
  obtain ⟨fd, Fd⟩ := T.u_ties
  exact ⟨_, fd, c_ties T Fd, T.g_ties, Fd.kp, Fd.bindsN fun _ _ _ _ _ _ us hl => match us, hl with | [_], _ => rfl⟩
theorem kn_ties_0_grid (T : Txt K mg) : Kn P w K mg base 6 "ties" ["grid"] 0 ["grid"] [0] m_ties := by
  obtain ⟨fd, Fd⟩ := T.u_ties
  exact ⟨_, fd, c_ties T Fd, T.g_ties, Fd.kp, kbn_of Fd 0 ["grid"] [0] fun _ _ _ _ _ _ us ws h1 h2 => match us, ws, h1, h2 with | [], [_], _, _ => rfl⟩
/-! is_point -/
abbrev N_is_point : List Str := ["grid", "number", "told"]
theorem sc_is_point : FnScope N_is_point ["grid", "number"] (defScope s_is_point) := ⟨rfl, rfl, rfl, by decide +kernel, rfl, by decide +kernel, by decide +kernel⟩
def b_is_point : EvS :=
  (sSeq (sSt 2 (eCa m_need_grid (aCons (eVar 0) aNil)))
  (sSeq (sEx (eCa m_need_number (aCons (eVar 1) (aCons (eC (.str "number")) aNil))))
  (sRt (eBin oEq (eBin oMod (eBin oSub (eVar 1) (eBin oIx (eVar 2) (eC (.int 1)))) (eBin oIx (eVar 2) (eC (.int 0)))) (eC (.int 0))))))
def m_is_point : Oa := run 2 3 b_is_point
theorem c_is_point (T : Txt K mg) {fd : FuncData} (Fd : FunD K "is_point" "is_point" (defArgs s_is_point) (defBody s_is_point) (defScope s_is_point) [] [] (He.ga K "is_point") fd) : FnF P w K mg base 5 (He.ga K "is_point") fd ["grid", "number"] m_is_point :=
  fn_mk (N := N_is_point) (k := 4) (a := b_is_point) Fd sc_is_point fun cdv A outer s H E hr tk =>
  (fss_cons (fs_set 2 sc_is_point.nd (fe_call ((d_need_grid T).mono (by decide)) hr tk rfl (fa_cons (fe_var 0) fa_nil)))
  (fss_cons (fs_expr (fe_call ((d_need_number T).mono (by decide)) hr tk rfl (fa_cons (fe_var 1) (fa_cons fe_str fa_nil))))
  (fss_one (fs_ret (fe_cmp (o_eq (u64_of hr)) (fe_bin o_mod (fe_bin o_sub (fe_var 1) (fe_ix (fe_var 2) fe_int (fun _ _ => rfl))) (fe_ix (fe_var 2) fe_int (fun _ _ => rfl))) fe_int (nomark _))))))
theorem d_is_point (T : Txt K mg) : Dn P w K mg base 5 "is_point" ["grid", "number"] m_is_point := by
  obtain ⟨fd, Fd⟩ := T.u_is_point
  exact ⟨_, fd, c_is_point T Fd, T.g_is_point, Fd.kp, Fd.bindsN fun _ _ _ _ _ _ us hl => match us, hl with | [_, _], _ => rfl⟩
theorem kn_is_point_0_number_grid (T : Txt K mg) : Kn P w K mg base 5 "is_point" ["grid", "number"] 0 ["number", "grid"] [1, 0] m_is_point := by
  obtain ⟨fd, Fd⟩ := T.u_is_point
  exact ⟨_, fd, c_is_point T Fd, T.g_is_point, Fd.kp, kbn_of Fd 0 ["number", "grid"] [1, 0] fun _ _ _ _ _ _ us ws h1 h2 => match us, ws, h1, h2 with | [], [_, _], _, _ => rfl⟩
/-! _law_pen -/
abbrev N__law_pen : List Str := ["script", "cell"]
theorem sc__law_pen : FnScope N__law_pen ["script"] (defScope s__law_pen) := ⟨rfl, rfl, rfl, by decide +kernel, rfl, by decide +kernel, by decide +kernel⟩
def lc__law_pen_1 : EvA :=
  (eLc (iSeq (eSl (eVar 0) noP (soP (eC (.int 61))))) (gNm 1) tYs (eCa oInt (aCons (eVar 1) aNil)) [1])
def b__law_pen : EvS :=
  (sRt (eLstC (aCons (eComp lc__law_pen_1) (aCons (eC (.int 0)) (aCons (eC (.int 0)) aNil)))))
def m__law_pen : Oa := run 1 2 b__law_pen
theorem c__law_pen (T : Txt K mg) {fd : FuncData} (Fd : FunD K "_law_pen" "_law_pen" (defArgs s__law_pen) (defBody s__law_pen) (defScope s__law_pen) [] [] (He.ga K "_law_pen") fd) : FnF P w K mg base 1 (He.ga K "_law_pen") fd ["script"] m__law_pen :=
  fn_mk (N := N__law_pen) (k := 0) (a := b__law_pen) Fd sc__law_pen fun cdv A outer s H E hr tk =>
  (fss_one (fs_ret (fe_lstC (fa_cons (fe_comp (is := [1]) (own := [("cell", 1)]) rfl sc__law_pen.nd (fi_seq (fe_sl (fe_var 0) fpo_none (fpo_some fe_int))) (blkOk_by (N := N__law_pen) (sc := defScope s__law_pen) (by decide +kernel)) (by decide) (fun _ _ _ _ _ => (fg_name 1 sc__law_pen.nd)) (fun _ _ _ _ _ => fts_nil) (fun _ _ _ _ _ => (fe_callTy c_int rfl T.n_int bb_int (fa_cons (fe_var 1) fa_nil)))) (fa_cons fe_int (fa_cons fe_int fa_nil))))))
theorem d__law_pen (T : Txt K mg) : Dn P w K mg base 1 "_law_pen" ["script"] m__law_pen := by
  obtain ⟨fd, Fd⟩ := T.u__law_pen
  exact ⟨_, fd, c__law_pen T Fd, T.g__law_pen, Fd.kp, Fd.bindsN fun _ _ _ _ _ _ us hl => match us, hl with | [_], _ => rfl⟩
/-! _law_draw -/
abbrev N__law_draw : List Str := ["pen", "many", "rest", "turn", "cell", "stirred"]
theorem sc__law_draw : FnScope N__law_draw ["pen", "many"] (defScope s__law_draw) := ⟨rfl, rfl, rfl, by decide +kernel, rfl, by decide +kernel, by decide +kernel⟩
def b__law_draw : EvS :=
  (sSeq (sIf (tB1 (eBin oLt (eVar 1) (eC (.int 2)))) (sRt (eC (.int 0))) sNx)
  (sSeq (sIf (tB1 (eBin oGt (eBin oIx (eVar 0) (eC (.int 2))) (eC (.int 0)))) (sSeq (sSt 2 (eCa oInt (aCons (eBin oIx (eVar 0) (eC (.int 2))) aNil)))
  (sSeq (sAs (eBin oFdv (eVar 2) (eVar 1)) (gSb setLst (eVar 0) (eC (.int 2))))
  (sRt (eBin oMod (eCa oInt (aCons (eVar 2) aNil)) (eVar 1))))) sNx)
  (sSeq (sSt 3 (eBin oIx (eVar 0) (eC (.int 1))))
  (sSeq (sAs (eBin oAdd (eVar 3) (eC (.int 1))) (gSb setLst (eVar 0) (eC (.int 1))))
  (sSeq (sSt 4 (eBin oAdd (eBin oMul (eC (.int 72499)) (eVar 3)) (eC (.int 9395))))
  (sSeq (sIf (tB1 (eBin oNe (eBin oIx (eVar 0) (eC (.int 0))) (eLst aNil))) (sSt 4 (eBin oIx (eBin oIx (eVar 0) (eC (.int 0))) (eBin oMod (eCa oInt (aCons (eVar 3) aNil)) (eCa oLen (aCons (eBin oIx (eVar 0) (eC (.int 0))) aNil))))) sNx)
  (sSeq (sIf (bAnd (tB1 (eBin oLt (eVar 3) (eCa oLen (aCons (eBin oIx (eVar 0) (eC (.int 0))) aNil)))) (tB1 (eBin oGe (eCa oAbs (aCons (eVar 4) aNil)) (eBin oPow (eC (.int 10)) (eC (.int 18)))))) (sSeq (sSt 2 (eBin oAdd (eBin oMul (eC (.int 2)) (eBin oSub (eCa oAbs (aCons (eVar 4) aNil)) (eBin oPow (eC (.int 10)) (eC (.int 18))))) (eCa oInt (aCons (eBin oLt (eVar 4) (eC (.int 0))) aNil))))
  (sSeq (sAs (eBin oFdv (eCa oInt (aCons (eVar 2) aNil)) (eVar 1)) (gSb setLst (eVar 0) (eC (.int 2))))
  (sRt (eBin oMod (eCa oInt (aCons (eVar 2) aNil)) (eVar 1))))) sNx)
  (sSeq (sSt 5 (eBin oMod (eCa oInt (aCons (eBin oPow (eBin oAdd (eBin oAdd (eBin oMod (eCa oInt (aCons (eVar 4) aNil)) (eC (.int 2147483549))) (eBin oMul (eC (.int 72499)) (eVar 3))) (eC (.int 9395))) (eC (.int 3))) aNil)) (eC (.int 2147483587))))
  (sSeq (sSt 5 (eBin oMod (eCa oInt (aCons (eBin oPow (eBin oAdd (eBin oAdd (eBin oMul (eVar 5) (eBin oAdd (eBin oMul (eC (.int 2)) (eVar 3)) (eC (.int 4357)))) (eBin oMul (eBin oMul (eC (.int 90247)) (eVar 3)) (eVar 3))) (eC (.int 72499))) (eC (.int 5))) aNil)) (eC (.int 2147483563))))
  (sRt (eBin oMod (eCa oInt (aCons (eBin oFdv (eVar 5) (eC (.int 32))) aNil)) (eVar 1))))))))))))
def m__law_draw : Oa := run 2 6 b__law_draw
theorem c__law_draw (T : Txt K mg) {fd : FuncData} (Fd : FunD K "_law_draw" "_law_draw" (defArgs s__law_draw) (defBody s__law_draw) (defScope s__law_draw) [] [] (He.ga K "_law_draw") fd) : FnF P w K mg base 1 (He.ga K "_law_draw") fd ["pen", "many"] m__law_draw :=
  fn_mk (N := N__law_draw) (k := 0) (a := b__law_draw) Fd sc__law_draw fun cdv A outer s H E hr tk =>
  (fss_cons (fs_if (ft_cmp o_lt (fe_var 1) fe_int (nomark _)) (fss_one (fs_ret fe_int)) fss_nil)
  (fss_cons (fs_if (ft_cmp o_gt (fe_ix (fe_var 0) fe_int (fun _ _ => rfl)) fe_int (nomark _)) (fss_cons (fs_set 2 sc__law_draw.nd (fe_callTy c_int rfl T.n_int bb_int (fa_cons (fe_ix (fe_var 0) fe_int (fun _ _ => rfl)) fa_nil)))
  (fss_cons (fs_asg (fe_bin o_fdv (fe_var 2) (fe_var 1)) (fg_sub (fe_var 0) fe_int st_lst))
  (fss_one (fs_ret (fe_bin o_mod (fe_callTy c_int rfl T.n_int bb_int (fa_cons (fe_var 2) fa_nil)) (fe_var 1)))))) fss_nil)
  (fss_cons (fs_set 3 sc__law_draw.nd (fe_ix (fe_var 0) fe_int (fun _ _ => rfl)))
  (fss_cons (fs_asg (fe_bin o_add (fe_var 3) fe_int) (fg_sub (fe_var 0) fe_int st_lst))
  (fss_cons (fs_set 4 sc__law_draw.nd (fe_bin o_add (fe_bin o_mul fe_int (fe_var 3)) fe_int))
  (fss_cons (fs_if (ft_cmp (o_ne (u64_of hr)) (fe_ix (fe_var 0) fe_int (fun _ _ => rfl)) (fe_lst fa_nil) (nomark _)) (fss_one (fs_set 4 sc__law_draw.nd (fe_ix (fe_ix (fe_var 0) fe_int (fun _ _ => rfl)) (fe_bin o_mod (fe_callTy c_int rfl T.n_int bb_int (fa_cons (fe_var 3) fa_nil)) (fe_callB c_len rfl T.n_len bb_len (fa_cons (fe_ix (fe_var 0) fe_int (fun _ _ => rfl)) fa_nil))) (fun _ _ => rfl)))) fss_nil)
  (fss_cons (fs_if (FW.ft (fw_and (ft_cmp o_lt (fe_var 3) (fe_callB c_len rfl T.n_len bb_len (fa_cons (fe_ix (fe_var 0) fe_int (fun _ _ => rfl)) fa_nil)) (nomark _)) (fw_and1 (ft_cmp o_ge (fe_callB c_abs rfl T.n_abs bb_abs (fa_cons (fe_var 4) fa_nil)) (fe_bin o_pow fe_int fe_int) (nomark _))))) (fss_cons (fs_set 2 sc__law_draw.nd (fe_bin o_add (fe_bin o_mul fe_int (fe_bin o_sub (fe_callB c_abs rfl T.n_abs bb_abs (fa_cons (fe_var 4) fa_nil)) (fe_bin o_pow fe_int fe_int))) (fe_callTy c_int rfl T.n_int bb_int (fa_cons (fe_cmp o_lt (fe_var 4) fe_int (nomark _)) fa_nil))))
  (fss_cons (fs_asg (fe_bin o_fdv (fe_callTy c_int rfl T.n_int bb_int (fa_cons (fe_var 2) fa_nil)) (fe_var 1)) (fg_sub (fe_var 0) fe_int st_lst))
  (fss_one (fs_ret (fe_bin o_mod (fe_callTy c_int rfl T.n_int bb_int (fa_cons (fe_var 2) fa_nil)) (fe_var 1)))))) fss_nil)
  (fss_cons (fs_set 5 sc__law_draw.nd (fe_bin o_mod (fe_callTy c_int rfl T.n_int bb_int (fa_cons (fe_bin o_pow (fe_bin o_add (fe_bin o_add (fe_bin o_mod (fe_callTy c_int rfl T.n_int bb_int (fa_cons (fe_var 4) fa_nil)) fe_int) (fe_bin o_mul fe_int (fe_var 3))) fe_int) fe_int) fa_nil)) fe_int))
  (fss_cons (fs_set 5 sc__law_draw.nd (fe_bin o_mod (fe_callTy c_int rfl T.n_int bb_int (fa_cons (fe_bin o_pow (fe_bin o_add (fe_bin o_add (fe_bin o_mul (fe_var 5) (fe_bin o_add (fe_bin o_mul fe_int (fe_var 3)) fe_int)) (fe_bin o_mul (fe_bin o_mul fe_int (fe_var 3)) (fe_var 3))) fe_int) fe_int) fa_nil)) fe_int))
  (fss_one (fs_ret (fe_bin o_mod (fe_callTy c_int rfl T.n_int bb_int (fa_cons (fe_bin o_fdv (fe_var 5) fe_int) fa_nil)) (fe_var 1)))))))))))))
theorem d__law_draw (T : Txt K mg) : Dn P w K mg base 1 "_law_draw" ["pen", "many"] m__law_draw := by
  obtain ⟨fd, Fd⟩ := T.u__law_draw
  exact ⟨_, fd, c__law_draw T Fd, T.g__law_draw, Fd.kp, Fd.bindsN fun _ _ _ _ _ _ us hl => match us, hl with | [_, _], _ => rfl⟩
/-! _law_pick -/
abbrev N__law_pick : List Str := ["pen", "some"]
theorem sc__law_pick : FnScope N__law_pick ["pen", "some"] (defScope s__law_pick) := ⟨rfl, rfl, rfl, by decide +kernel, rfl, by decide +kernel, by decide +kernel⟩
def b__law_pick : EvS :=
  (sRt (eBin oIx (eVar 1) (eCa m__law_draw (aCons (eVar 0) (aCons (eCa oLen (aCons (eVar 1) aNil)) aNil)))))
def m__law_pick : Oa := run 2 2 b__law_pick
theorem c__law_pick (T : Txt K mg) {fd : FuncData} (Fd : FunD K "_law_pick" "_law_pick" (defArgs s__law_pick) (defBody s__law_pick) (defScope s__law_pick) [] [] (He.ga K "_law_pick") fd) : FnF P w K mg base 2 (He.ga K "_law_pick") fd ["pen", "some"] m__law_pick :=
  fn_mk (N := N__law_pick) (k := 1) (a := b__law_pick) Fd sc__law_pick fun cdv A outer s H E hr tk =>
  (fss_one (fs_ret (fe_ix (fe_var 1) (fe_call ((d__law_draw T).mono (by decide)) hr tk rfl (fa_cons (fe_var 0) (fa_cons (fe_callB c_len rfl T.n_len bb_len (fa_cons (fe_var 1) fa_nil)) fa_nil))) (fun _ _ => rfl))))
theorem d__law_pick (T : Txt K mg) : Dn P w K mg base 2 "_law_pick" ["pen", "some"] m__law_pick := by
  obtain ⟨fd, Fd⟩ := T.u__law_pick
  exact ⟨_, fd, c__law_pick T Fd, T.g__law_pick, Fd.kp, Fd.bindsN fun _ _ _ _ _ _ us hl => match us, hl with | [_, _], _ => rfl⟩
/-! _law_between -/
abbrev N__law_between : List Str := ["pen", "low", "high"]
theorem sc__law_between : FnScope N__law_between ["pen", "low", "high"] (defScope s__law_between) := ⟨rfl, rfl, rfl, by decide +kernel, rfl, by decide +kernel, by decide +kernel⟩
def b__law_between : EvS :=
  (sRt (eBin oAdd (eVar 1) (eCa m__law_draw (aCons (eVar 0) (aCons (eBin oAdd (eBin oSub (eVar 2) (eVar 1)) (eC (.int 1))) aNil)))))
def m__law_between : Oa := run 3 3 b__law_between
theorem c__law_between (T : Txt K mg) {fd : FuncData} (Fd : FunD K "_law_between" "_law_between" (defArgs s__law_between) (defBody s__law_between) (defScope s__law_between) [] [] (He.ga K "_law_between") fd) : FnF P w K mg base 2 (He.ga K "_law_between") fd ["pen", "low", "high"] m__law_between :=
  fn_mk (N := N__law_between) (k := 1) (a := b__law_between) Fd sc__law_between fun cdv A outer s H E hr tk =>
  (fss_one (fs_ret (fe_bin o_add (fe_var 1) (fe_call ((d__law_draw T).mono (by decide)) hr tk rfl (fa_cons (fe_var 0) (fa_cons (fe_bin o_add (fe_bin o_sub (fe_var 2) (fe_var 1)) fe_int) fa_nil))))))
theorem d__law_between (T : Txt K mg) : Dn P w K mg base 2 "_law_between" ["pen", "low", "high"] m__law_between := by
  obtain ⟨fd, Fd⟩ := T.u__law_between
  exact ⟨_, fd, c__law_between T Fd, T.g__law_between, Fd.kp, Fd.bindsN fun _ _ _ _ _ _ us hl => match us, hl with | [_, _, _], _ => rfl⟩
/-! _law_v_great -/
abbrev N__law_v_great : List Str := ["pen"]
theorem sc__law_v_great : FnScope N__law_v_great ["pen"] (defScope s__law_v_great) := ⟨rfl, rfl, rfl, by decide +kernel, rfl, by decide +kernel, by decide +kernel⟩
def b__law_v_great : EvS :=
  (sRt (eCa m__law_pick (aCons (eVar 0) (aCons (eLst (aCons (eC (.int 0)) (aCons (eC (.int 1)) (aCons (eNeg (eC (.int 1))) (aCons (eBin oAdd (eBin oPow (eC (.int 10)) (eC (.int 39))) (eC (.int 7))) (aCons (eBin oSub (eBin oSub (eC (.int 0)) (eBin oPow (eC (.int 10)) (eC (.int 39)))) (eC (.int 3))) (aCons (eCa m__law_between (aCons (eVar 0) (aCons (eNeg (eBin oPow (eC (.int 10)) (eC (.int 12)))) (aCons (eBin oPow (eC (.int 10)) (eC (.int 12))) aNil)))) (aCons (eCa m__law_between (aCons (eVar 0) (aCons (eNeg (eC (.int 99))) (aCons (eC (.int 99)) aNil)))) aNil)))))))) aNil))))
def m__law_v_great : Oa := run 1 1 b__law_v_great
theorem c__law_v_great (T : Txt K mg) {fd : FuncData} (Fd : FunD K "_law_v_great" "_law_v_great" (defArgs s__law_v_great) (defBody s__law_v_great) (defScope s__law_v_great) [] [] (He.ga K "_law_v_great") fd) : FnF P w K mg base 3 (He.ga K "_law_v_great") fd ["pen"] m__law_v_great :=
  fn_mk (N := N__law_v_great) (k := 2) (a := b__law_v_great) Fd sc__law_v_great fun cdv A outer s H E hr tk =>
  (fss_one (fs_ret (fe_call ((d__law_pick T).mono (by decide)) hr tk rfl (fa_cons (fe_var 0) (fa_cons (fe_lst (fa_cons fe_int (fa_cons fe_int (fa_cons (fe_neg fe_int) (fa_cons (fe_bin o_add (fe_bin o_pow fe_int fe_int) fe_int) (fa_cons (fe_bin o_sub (fe_bin o_sub fe_int (fe_bin o_pow fe_int fe_int)) fe_int) (fa_cons (fe_call ((d__law_between T).mono (by decide)) hr tk rfl (fa_cons (fe_var 0) (fa_cons (fe_neg (fe_bin o_pow fe_int fe_int)) (fa_cons (fe_bin o_pow fe_int fe_int) fa_nil)))) (fa_cons (fe_call ((d__law_between T).mono (by decide)) hr tk rfl (fa_cons (fe_var 0) (fa_cons (fe_neg fe_int) (fa_cons fe_int fa_nil)))) fa_nil)))))))) fa_nil)))))
theorem d__law_v_great (T : Txt K mg) : Dn P w K mg base 3 "_law_v_great" ["pen"] m__law_v_great := by
  obtain ⟨fd, Fd⟩ := T.u__law_v_great
  exact ⟨_, fd, c__law_v_great T Fd, T.g__law_v_great, Fd.kp, Fd.bindsN fun _ _ _ _ _ _ us hl => match us, hl with | [_], _ => rfl⟩
/-! law -/
abbrev N_law : List Str := ["script", "pen", "turn", "step", "rule", "grid", "lap", "place", "middle_of", "number", "low", "points", "due", "near", "some", "at", "wide", "even_ones", "one"]
theorem sc_law : FnScope N_law ["script"] (defScope s_law) := ⟨rfl, rfl, rfl, by decide +kernel, rfl, by decide +kernel, by decide +kernel⟩
def lc_law_1 : EvA :=
  (eLc (iSeq (eVar 11)) (gNm 18) tYs (eCa oAbs (aCons (eBin oSub (eVar 9) (eVar 18)) aNil)) [18])
def lc_law_2 : EvA :=
  (eLc (iSeq (eVar 11)) (gNm 18) (tB1 (eBin oEq (eCa oAbs (aCons (eBin oSub (eVar 9) (eVar 18)) aNil)) (eVar 13))) (eVar 18) [18])
def lc_law_3 : EvA :=
  (eLc (iSeq (eVar 14)) (gNm 18) (tB1 (eBin oEq (eBin oMod (eCa oInt (aCons (eBin oFdv (eBin oSub (eVar 18) (eBin oIx (eVar 5) (eC (.int 1)))) (eVar 3)) aNil)) (eC (.int 2))) (eCa oInt (aCons (eBin oEq (eVar 4) (eC (.str "odd"))) aNil)))) (eVar 18) [18])
def l_law_4 : EvS :=
  (sSt 13 (eCa oMin (aCons (eComp lc_law_1) aNil)))
def l_law_5 : EvS :=
  (sSt 12 (eIf (bOr (tB1 (eBin oEq (eCa oLen (aCons (eVar 14) aNil)) (eC (.int 1)))) (tB1 (eBin oEq (eVar 4) (eC (.str "down"))))) (eBin oIx (eVar 14) (eC (.int 0))) (eIf (tB1 (eBin oEq (eVar 4) (eC (.str "up")))) (eBin oIx (eVar 14) (eC (.int 1))) (eBin oIx (eComp lc_law_3) (eC (.int 0))))))
def l_law_6 : EvS :=
  (sSt 7 (eBin oFdv (eCa m__law_v_great (aCons (eVar 1) aNil)) (eBin oPow (eC (.int 10)) (eC (.int 5)))))
def l_law_7 : EvS :=
  (sSt 8 (eBin oAdd (eBin oIx (eVar 5) (eC (.int 1))) (eBin oMul (eVar 3) (eVar 7))))
def l_law_8 : EvS :=
  (sSt 9 (eBin oAdd (eVar 8) (eCa m__law_pick (aCons (eVar 1) (aCons (eLst (aCons (eC (.int 0)) (aCons (eBin oFdv (eVar 3) (eC (.int 2))) (aCons (eBin oFdv (eBin oAdd (eVar 3) (eC (.int 1))) (eC (.int 2))) (aCons (eC (.int 1)) (aCons (eNeg (eC (.int 1))) (aCons (eBin oSub (eVar 3) (eC (.int 1))) (aCons (eCa m__law_draw (aCons (eVar 1) (aCons (eVar 3) aNil))) aNil)))))))) aNil)))))
def l_law_9 : EvS :=
  (sSt 10 (eBin oSub (eVar 9) (eBin oMod (eBin oSub (eVar 9) (eBin oIx (eVar 5) (eC (.int 1)))) (eVar 3))))
def l_law_10 : EvS :=
  (sSt 11 (eIf (tB1 (eBin oEq (eVar 10) (eVar 9))) (eLst (aCons (eVar 10) aNil)) (eLst (aCons (eVar 10) (aCons (eBin oAdd (eVar 10) (eVar 3)) aNil)))))
def l_law_11 : EvS :=
  (sIf (tB1 (eBin oEq (eVar 4) (eC (.str "floor")))) (sSt 12 (eBin oIx (eVar 11) (eC (.int 0)))) (sIf (tB1 (eBin oEq (eVar 4) (eC (.str "ceil")))) (sSt 12 (eBin oIx (eVar 11) (eNeg (eC (.int 1))))) (sSeq l_law_4
  (sSeq (sSt 14 (eComp lc_law_2))
  l_law_5))))
def l_law_12 : EvS :=
  (sSt 15 (eBin oFdv (eBin oSub (eVar 12) (eBin oIx (eVar 5) (eC (.int 1)))) (eVar 3)))
def l_law_13 : EvS :=
  (sIf (bOr (tB1 (eBin oNe (eCa m_nearest (aCons (eCa oList (aCons (eVar 5) aNil)) (aCons (eVar 9) aNil))) (eVar 12))) (bOr (tB1 (eBin oNe (eCa m_mark (aCons (eVar 5) (aCons (eVar 9) aNil))) (eVar 15))) (bOr (tB1 (eBin oNe (eCa m_point (aCons (eVar 5) (aCons (eVar 15) aNil))) (eVar 12))) (bOr (tB1 (eBin oNe (eCaK 0 2 [1, 0] m_nearest aNil (aCons (eVar 9) (aCons (eVar 5) aNil))) (eVar 12))) (bOr (tB1 (eBin oNe (eCaK 0 2 [1, 0] m_mark aNil (aCons (eVar 9) (aCons (eVar 5) aNil))) (eVar 15))) (tB1 (eBin oNe (eCaK 0 2 [1, 0] m_point aNil (aCons (eVar 15) (aCons (eVar 5) aNil))) (eVar 12)))))))) (sRt (eC (.bl false))) sNx)
def l_law_14 : EvS :=
  (sIf (bOr (tB1 (eBin (oIsN true) (eCa m_is_point (aCons (eVar 5) (aCons (eVar 12) aNil))) (eC (.bl true)))) (bOr (tB1 (eBin oNe (eCaK 0 2 [1, 0] m_is_point aNil (aCons (eVar 9) (aCons (eVar 5) aNil))) (eBin oEq (eBin oMod (eBin oSub (eVar 9) (eBin oIx (eVar 5) (eC (.int 1)))) (eVar 3)) (eC (.int 0))))) (tB1 (eBin oNe (eCa m_nearest (aCons (eVar 5) (aCons (eVar 12) aNil))) (eVar 12))))) (sRt (eC (.bl false))) sNx)
def l_law_15 : EvS :=
  (sIf (tB1 (eBin oNe (eCa m_mark (aCons (eVar 5) (aCons (eCa m_point (aCons (eVar 5) (aCons (eVar 7) aNil))) aNil))) (eVar 7))) (sRt (eC (.bl false))) sNx)
def l_law_16 : EvS :=
  (sIf (tB1 (eBin oNe (eCa m_nearest (aCons (eVar 5) (aCons (eBin oAdd (eVar 9) (eBin oMul (eCa m_span (aCons (eVar 5) aNil)) (eVar 7))) aNil))) (eBin oAdd (eVar 12) (eBin oMul (eCa m_span (aCons (eVar 5) aNil)) (eVar 7))))) (sRt (eC (.bl false))) sNx)
def l_law_17 : EvS :=
  (sSeq l_law_6
  (sSeq l_law_7
  (sSeq l_law_8
  (sSeq l_law_9
  (sSeq l_law_10
  (sSeq l_law_11
  (sSeq l_law_12
  (sSeq l_law_13
  (sSeq l_law_14
  (sSeq l_law_15
  l_law_16))))))))))
def lc_law_18 : EvA :=
  (eLc (iRg2 (aCons (eBin oIx (eVar 5) (eC (.int 1))) (aCons (eBin oAdd (eBin oIx (eVar 5) (eC (.int 1))) (eVar 16)) aNil))) (gNm 9) (bAnd (tB1 (eBin (oInG true) (eVar 4) (eTup (aCons (eC (.str "floor")) (aCons (eC (.str "ceil")) aNil))))) (tB1 (eBin oEq (eBin oMul (eC (.int 2)) (eCa oInt (aCons (eBin oMod (eBin oSub (eVar 9) (eBin oIx (eVar 5) (eC (.int 1)))) (eVar 3)) aNil))) (eVar 3)))) (eVar 9) [9])
def l_law_19 : EvS :=
  (sSt 3 (eCa m__law_pick (aCons (eVar 1) (aCons (eLst (aCons (eC (.int 1)) (aCons (eC (.int 2)) (aCons (eC (.int 3)) (aCons (eC (.int 4)) (aCons (eC (.int 10)) (aCons (eC (.int 998)) (aCons (eC (.int 999)) (aCons (eBin oAdd (eC (.int 1)) (eCa m__law_draw (aCons (eVar 1) (aCons (eC (.int 40)) aNil)))) aNil))))))))) aNil))))
def l_law_20 : EvS :=
  (sSt 4 (eCa m__law_pick (aCons (eVar 1) (aCons (eLst (aCons (eC (.str "floor")) (aCons (eC (.str "ceil")) (aCons (eC (.str "up")) (aCons (eC (.str "down")) (aCons (eC (.str "even")) (aCons (eC (.str "odd")) aNil))))))) aNil))))
def l_law_21 : EvS :=
  (sSt 5 (eTup (aCons (eVar 3) (aCons (eCa m__law_pick (aCons (eVar 1) (aCons (eLst (aCons (eC (.int 0)) (aCons (eBin oSub (eVar 3) (eC (.int 1))) (aCons (eCa m__law_draw (aCons (eVar 1) (aCons (eVar 3) aNil))) aNil)))) aNil))) (aCons (eVar 4) aNil)))))
def l_law_22 : EvS :=
  (sFor (iRg1 (aCons (eC (.int 8)) aNil)) (gNm 6) l_law_17)
def l_law_23 : EvS :=
  (sSt 16 (eBin oMul (eVar 3) (eIf (tB1 (eBin (oInG false) (eVar 4) (eTup (aCons (eC (.str "even")) (aCons (eC (.str "odd")) aNil))))) (eC (.int 2)) (eC (.int 1)))))
def l_law_24 : EvS :=
  (sIf (bOr (tB1 (eBin oNe (eCa m_span (aCons (eVar 5) aNil)) (eVar 16))) (bOr (tB1 (eBin oNe (eCaK 0 1 [0] m_span aNil (aCons (eCa oList (aCons (eVar 5) aNil)) aNil)) (eVar 16))) (bOr (tB1 (eBin oNe (eCa m_ties (aCons (eVar 5) aNil)) (eCa oTuple (aCons (eVar 17) aNil)))) (tB1 (eBin oNe (eCaK 0 1 [0] m_ties aNil (aCons (eVar 5) aNil)) (eCa oTuple (aCons (eVar 17) aNil))))))) (sRt (eC (.bl false))) sNx)
def l_law_25 : EvS :=
  (sIf (tB1 (eBin oNe (eC k_RULES) (eTup (aCons (eC (.str "floor")) (aCons (eC (.str "ceil")) (aCons (eC (.str "up")) (aCons (eC (.str "down")) (aCons (eC (.str "even")) (aCons (eC (.str "odd")) aNil))))))))) (sRt (eC (.bl false))) sNx)
def l_law_26 : EvS :=
  (sIf (bAnd (tB1 (eBin oGt (eVar 3) (eC (.int 1)))) (bAnd (tB1 (eBin (oInG false) (eVar 4) (eTup (aCons (eC (.str "even")) (aCons (eC (.str "odd")) aNil))))) (bAnd (tB1 (eBin oEq (eBin oMod (eCa oInt (aCons (eVar 3) aNil)) (eC (.int 2))) (eC (.int 0)))) (tB1 (eBin oEq (eBin oAdd (eCa m_nearest (aCons (eVar 5) (aCons (eBin oAdd (eBin oIx (eVar 5) (eC (.int 1))) (eBin oFdv (eVar 3) (eC (.int 2)))) aNil))) (eVar 3)) (eCa m_nearest (aCons (eVar 5) (aCons (eBin oAdd (eBin oAdd (eBin oIx (eVar 5) (eC (.int 1))) (eBin oFdv (eVar 3) (eC (.int 2)))) (eVar 3)) aNil)))))))) (sRt (eC (.bl false))) sNx)
def l_law_27 : EvS :=
  (sSeq l_law_19
  (sSeq l_law_20
  (sSeq l_law_21
  (sSeq l_law_22
  (sSeq l_law_23
  (sSeq (sSt 17 (eComp lc_law_18))
  (sSeq l_law_24
  (sSeq l_law_25
  l_law_26))))))))
def l_law_28 : EvS :=
  (sSt 1 (eCa m__law_pen (aCons (eVar 0) aNil)))
def l_law_29 : EvS :=
  (sFor (iRg1 (aCons (eC (.int 6)) aNil)) (gNm 2) l_law_27)
def b_law : EvS :=
  (sSeq l_law_28
  (sSeq l_law_29
  (sRt (eC (.bl true)))))
def m_law : Oa := run 1 19 b_law
theorem c_law (T : Txt K mg) {fd : FuncData} (Fd : FunD K "law" "law" (defArgs s_law) (defBody s_law) (defScope s_law) [] [] (He.ga K "law") fd) : FnF P w K mg base 7 (He.ga K "law") fd ["script"] m_law :=
  fn_mk (N := N_law) (k := 6) (a := b_law) Fd sc_law fun cdv A outer s H E hr tk =>
  (fss_cons (fs_set 1 sc_law.nd (fe_call ((d__law_pen T).mono (by decide)) hr tk rfl (fa_cons (fe_var 0) fa_nil)))
  (fss_cons (fs_for (is := [2]) (passes_of rfl) rfl (fi_range1 rfl T.n_range (fa_cons fe_int fa_nil)) (fg_name 2 sc_law.nd) (fss_cons (fs_set 3 sc_law.nd (fe_call ((d__law_pick T).mono (by decide)) hr tk rfl (fa_cons (fe_var 1) (fa_cons (fe_lst (fa_cons fe_int (fa_cons fe_int (fa_cons fe_int (fa_cons fe_int (fa_cons fe_int (fa_cons fe_int (fa_cons fe_int (fa_cons (fe_bin o_add fe_int (fe_call ((d__law_draw T).mono (by decide)) hr tk rfl (fa_cons (fe_var 1) (fa_cons fe_int fa_nil)))) fa_nil))))))))) fa_nil))))
  (fss_cons (fs_set 4 sc_law.nd (fe_call ((d__law_pick T).mono (by decide)) hr tk rfl (fa_cons (fe_var 1) (fa_cons (fe_lst (fa_cons fe_str (fa_cons fe_str (fa_cons fe_str (fa_cons fe_str (fa_cons fe_str (fa_cons fe_str fa_nil))))))) fa_nil))))
  (fss_cons (fs_set 5 sc_law.nd (fe_tup (fa_cons (fe_var 3) (fa_cons (fe_call ((d__law_pick T).mono (by decide)) hr tk rfl (fa_cons (fe_var 1) (fa_cons (fe_lst (fa_cons fe_int (fa_cons (fe_bin o_sub (fe_var 3) fe_int) (fa_cons (fe_call ((d__law_draw T).mono (by decide)) hr tk rfl (fa_cons (fe_var 1) (fa_cons (fe_var 3) fa_nil))) fa_nil)))) fa_nil))) (fa_cons (fe_var 4) fa_nil)))))
  (fss_cons (fs_for (is := [6]) (passes_of rfl) rfl (fi_range1 rfl T.n_range (fa_cons fe_int fa_nil)) (fg_name 6 sc_law.nd) (fss_cons (fs_set 7 sc_law.nd (fe_bin o_fdv (fe_call ((d__law_v_great T).mono (by decide)) hr tk rfl (fa_cons (fe_var 1) fa_nil)) (fe_bin o_pow fe_int fe_int)))
  (fss_cons (fs_set 8 sc_law.nd (fe_bin o_add (fe_ix (fe_var 5) fe_int (fun _ _ => rfl)) (fe_bin o_mul (fe_var 3) (fe_var 7))))
  (fss_cons (fs_set 9 sc_law.nd (fe_bin o_add (fe_var 8) (fe_call ((d__law_pick T).mono (by decide)) hr tk rfl (fa_cons (fe_var 1) (fa_cons (fe_lst (fa_cons fe_int (fa_cons (fe_bin o_fdv (fe_var 3) fe_int) (fa_cons (fe_bin o_fdv (fe_bin o_add (fe_var 3) fe_int) fe_int) (fa_cons fe_int (fa_cons (fe_neg fe_int) (fa_cons (fe_bin o_sub (fe_var 3) fe_int) (fa_cons (fe_call ((d__law_draw T).mono (by decide)) hr tk rfl (fa_cons (fe_var 1) (fa_cons (fe_var 3) fa_nil))) fa_nil)))))))) fa_nil)))))
  (fss_cons (fs_set 10 sc_law.nd (fe_bin o_sub (fe_var 9) (fe_bin o_mod (fe_bin o_sub (fe_var 9) (fe_ix (fe_var 5) fe_int (fun _ _ => rfl))) (fe_var 3))))
  (fss_cons (fs_set 11 sc_law.nd (fe_if (ft_cmp (o_eq (u64_of hr)) (fe_var 10) (fe_var 9) (nomark _)) (fe_lst (fa_cons (fe_var 10) fa_nil)) (fe_lst (fa_cons (fe_var 10) (fa_cons (fe_bin o_add (fe_var 10) (fe_var 3)) fa_nil)))))
  (fss_cons (fs_if (ft_cmp (o_eq (u64_of hr)) (fe_var 4) fe_str (nomark _)) (fss_one (fs_set 12 sc_law.nd (fe_ix (fe_var 11) fe_int (fun _ _ => rfl)))) (fss_one (fs_if (ft_cmp (o_eq (u64_of hr)) (fe_var 4) fe_str (nomark _)) (fss_one (fs_set 12 sc_law.nd (fe_ix (fe_var 11) (fe_neg fe_int) (fun _ _ => rfl)))) (fss_cons (fs_set 13 sc_law.nd (fe_callB (c_min rfl) rfl T.n_min bb_min (fa_cons (fe_comp (is := [18]) (own := [("one", 18)]) rfl sc_law.nd (fi_seq (fe_var 11)) (blkOk_by (N := N_law) (sc := defScope s_law) (by decide +kernel)) (by decide) (fun _ _ _ _ _ => (fg_name 18 sc_law.nd)) (fun _ _ _ _ _ => fts_nil) (fun _ _ _ _ _ => (fe_callB c_abs rfl T.n_abs bb_abs (fa_cons (fe_bin o_sub (fe_var 9) (fe_var 18)) fa_nil)))) fa_nil)))
  (fss_cons (fs_setComp 14 (is := [18]) (own := [("one", 18)]) rfl sc_law.nd rfl rfl (sw_true rfl rfl rfl (by decide +kernel)) (fi_seq (fe_var 11)) (blkOk_by (N := N_law) (sc := defScope s_law) (by decide +kernel)) (by decide) (fun _ _ _ _ _ => (fg_name 18 sc_law.nd)) (fun _ _ _ _ _ => (fts_one (ft_cmp (o_eq (u64_of hr)) (fe_callB c_abs rfl T.n_abs bb_abs (fa_cons (fe_bin o_sub (fe_var 9) (fe_var 18)) fa_nil)) (fe_var 13) (nomark _)))) (fun _ _ _ _ _ => (fe_var 18)))
  (fss_one (fs_set 12 sc_law.nd (fe_if (FW.ft (fw_or (ft_cmp (o_eq (u64_of hr)) (fe_callB c_len rfl T.n_len bb_len (fa_cons (fe_var 14) fa_nil)) fe_int (nomark _)) (fw_or1 (ft_cmp (o_eq (u64_of hr)) (fe_var 4) fe_str (nomark _))))) (fe_ix (fe_var 14) fe_int (fun _ _ => rfl)) (fe_if (ft_cmp (o_eq (u64_of hr)) (fe_var 4) fe_str (nomark _)) (fe_ix (fe_var 14) fe_int (fun _ _ => rfl)) (fe_ix (fe_comp (is := [18]) (own := [("one", 18)]) rfl sc_law.nd (fi_seq (fe_var 14)) (blkOk_by (N := N_law) (sc := defScope s_law) (by decide +kernel)) (by decide) (fun _ _ _ _ _ => (fg_name 18 sc_law.nd)) (fun _ _ _ _ _ => (fts_one (ft_cmp (o_eq (u64_of hr)) (fe_bin o_mod (fe_callTy c_int rfl T.n_int bb_int (fa_cons (fe_bin o_fdv (fe_bin o_sub (fe_var 18) (fe_ix (fe_var 5) fe_int (fun _ _ => rfl))) (fe_var 3)) fa_nil)) fe_int) (fe_callTy c_int rfl T.n_int bb_int (fa_cons (fe_cmp (o_eq (u64_of hr)) (fe_var 4) fe_str (nomark _)) fa_nil)) (nomark _)))) (fun _ _ _ _ _ => (fe_var 18))) fe_int (fun _ _ => rfl)))))))))))
  (fss_cons (fs_set 15 sc_law.nd (fe_bin o_fdv (fe_bin o_sub (fe_var 12) (fe_ix (fe_var 5) fe_int (fun _ _ => rfl))) (fe_var 3)))
  (fss_cons (fs_if (FW.ft (fw_or (ft_cmp (o_ne (u64_of hr)) (fe_call ((d_nearest T).mono (by decide)) hr tk rfl (fa_cons (fe_callTy c_list rfl T.n_list bb_list (fa_cons (fe_var 5) fa_nil)) (fa_cons (fe_var 9) fa_nil))) (fe_var 12) (nomark _)) (fw_or (ft_cmp (o_ne (u64_of hr)) (fe_call ((d_mark T).mono (by decide)) hr tk rfl (fa_cons (fe_var 5) (fa_cons (fe_var 9) fa_nil))) (fe_var 15) (nomark _)) (fw_or (ft_cmp (o_ne (u64_of hr)) (fe_call ((d_point T).mono (by decide)) hr tk rfl (fa_cons (fe_var 5) (fa_cons (fe_var 15) fa_nil))) (fe_var 12) (nomark _)) (fw_or (ft_cmp (o_ne (u64_of hr)) (fe_callK0 ((kn_nearest_0_number_grid T).mono (by decide)) hr tk rfl (fk_cons (fe_var 9) (fk_cons (fe_var 5) fk_nil))) (fe_var 12) (nomark _)) (fw_or (ft_cmp (o_ne (u64_of hr)) (fe_callK0 ((kn_mark_0_number_grid T).mono (by decide)) hr tk rfl (fk_cons (fe_var 9) (fk_cons (fe_var 5) fk_nil))) (fe_var 15) (nomark _)) (fw_or1 (ft_cmp (o_ne (u64_of hr)) (fe_callK0 ((kn_point_0_place_grid T).mono (by decide)) hr tk rfl (fk_cons (fe_var 15) (fk_cons (fe_var 5) fk_nil))) (fe_var 12) (nomark _))))))))) (fss_one (fs_ret fe_bl)) fss_nil)
  (fss_cons (fs_if (FW.ft (fw_or (ft_cmp o_isnot (fe_call ((d_is_point T).mono (by decide)) hr tk rfl (fa_cons (fe_var 5) (fa_cons (fe_var 12) fa_nil))) fe_bl (nomark _)) (fw_or (ft_cmp (o_ne (u64_of hr)) (fe_callK0 ((kn_is_point_0_number_grid T).mono (by decide)) hr tk rfl (fk_cons (fe_var 9) (fk_cons (fe_var 5) fk_nil))) (fe_cmp (o_eq (u64_of hr)) (fe_bin o_mod (fe_bin o_sub (fe_var 9) (fe_ix (fe_var 5) fe_int (fun _ _ => rfl))) (fe_var 3)) fe_int (nomark _)) (nomark _)) (fw_or1 (ft_cmp (o_ne (u64_of hr)) (fe_call ((d_nearest T).mono (by decide)) hr tk rfl (fa_cons (fe_var 5) (fa_cons (fe_var 12) fa_nil))) (fe_var 12) (nomark _)))))) (fss_one (fs_ret fe_bl)) fss_nil)
  (fss_cons (fs_if (ft_cmp (o_ne (u64_of hr)) (fe_call ((d_mark T).mono (by decide)) hr tk rfl (fa_cons (fe_var 5) (fa_cons (fe_call ((d_point T).mono (by decide)) hr tk rfl (fa_cons (fe_var 5) (fa_cons (fe_var 7) fa_nil))) fa_nil))) (fe_var 7) (nomark _)) (fss_one (fs_ret fe_bl)) fss_nil)
  (fss_one (fs_if (ft_cmp (o_ne (u64_of hr)) (fe_call ((d_nearest T).mono (by decide)) hr tk rfl (fa_cons (fe_var 5) (fa_cons (fe_bin o_add (fe_var 9) (fe_bin o_mul (fe_call ((d_span T).mono (by decide)) hr tk rfl (fa_cons (fe_var 5) fa_nil)) (fe_var 7))) fa_nil))) (fe_bin o_add (fe_var 12) (fe_bin o_mul (fe_call ((d_span T).mono (by decide)) hr tk rfl (fa_cons (fe_var 5) fa_nil)) (fe_var 7))) (nomark _)) (fss_one (fs_ret fe_bl)) fss_nil)))))))))))))
  (fss_cons (fs_set 16 sc_law.nd (fe_bin o_mul (fe_var 3) (fe_if (ft_cmp (o_in (u65_of hr)) (fe_var 4) (fe_tup (fa_cons fe_str (fa_cons fe_str fa_nil))) (by rfl)) fe_int fe_int)))
  (fss_cons (fs_setComp 17 (is := [9]) (own := [("number", 9)]) rfl sc_law.nd rfl rfl (sw_true rfl rfl rfl (by decide +kernel)) (fi_range2 rfl T.n_range (fa_cons (fe_ix (fe_var 5) fe_int (fun _ _ => rfl)) (fa_cons (fe_bin o_add (fe_ix (fe_var 5) fe_int (fun _ _ => rfl)) (fe_var 16)) fa_nil))) (blkOk_by (N := N_law) (sc := defScope s_law) (by decide +kernel)) (by decide) (fun _ _ _ _ _ => (fg_name 9 sc_law.nd)) (fun _ _ _ _ _ => (fts_one (FW.ft (fw_and (ft_cmp (o_notin (u65_of hr)) (fe_var 4) (fe_tup (fa_cons fe_str (fa_cons fe_str fa_nil))) (by rfl)) (fw_and1 (ft_cmp (o_eq (u64_of hr)) (fe_bin o_mul fe_int (fe_callTy c_int rfl T.n_int bb_int (fa_cons (fe_bin o_mod (fe_bin o_sub (fe_var 9) (fe_ix (fe_var 5) fe_int (fun _ _ => rfl))) (fe_var 3)) fa_nil))) (fe_var 3) (nomark _))))))) (fun _ _ _ _ _ => (fe_var 9)))
  (fss_cons (fs_if (FW.ft (fw_or (ft_cmp (o_ne (u64_of hr)) (fe_call ((d_span T).mono (by decide)) hr tk rfl (fa_cons (fe_var 5) fa_nil)) (fe_var 16) (nomark _)) (fw_or (ft_cmp (o_ne (u64_of hr)) (fe_callK0 ((kn_span_0_grid T).mono (by decide)) hr tk rfl (fk_cons (fe_callTy c_list rfl T.n_list bb_list (fa_cons (fe_var 5) fa_nil)) fk_nil)) (fe_var 16) (nomark _)) (fw_or (ft_cmp (o_ne (u64_of hr)) (fe_call ((d_ties T).mono (by decide)) hr tk rfl (fa_cons (fe_var 5) fa_nil)) (fe_callTy c_tuple rfl T.n_tuple bb_tuple (fa_cons (fe_var 17) fa_nil)) (nomark _)) (fw_or1 (ft_cmp (o_ne (u64_of hr)) (fe_callK0 ((kn_ties_0_grid T).mono (by decide)) hr tk rfl (fk_cons (fe_var 5) fk_nil)) (fe_callTy c_tuple rfl T.n_tuple bb_tuple (fa_cons (fe_var 17) fa_nil)) (nomark _))))))) (fss_one (fs_ret fe_bl)) fss_nil)
  (fss_cons (fs_if (ft_cmp (o_ne (u64_of hr)) (fe_gcon T.k_RULES rfl) (fe_tup (fa_cons fe_str (fa_cons fe_str (fa_cons fe_str (fa_cons fe_str (fa_cons fe_str (fa_cons fe_str fa_nil))))))) (nomark _)) (fss_one (fs_ret fe_bl)) fss_nil)
  (fss_one (fs_if (FW.ft (fw_and (ft_cmp o_gt (fe_var 3) fe_int (nomark _)) (fw_and (ft_cmp (o_in (u65_of hr)) (fe_var 4) (fe_tup (fa_cons fe_str (fa_cons fe_str fa_nil))) (by rfl)) (fw_and (ft_cmp (o_eq (u64_of hr)) (fe_bin o_mod (fe_callTy c_int rfl T.n_int bb_int (fa_cons (fe_var 3) fa_nil)) fe_int) fe_int (nomark _)) (fw_and1 (ft_cmp (o_eq (u64_of hr)) (fe_bin o_add (fe_call ((d_nearest T).mono (by decide)) hr tk rfl (fa_cons (fe_var 5) (fa_cons (fe_bin o_add (fe_ix (fe_var 5) fe_int (fun _ _ => rfl)) (fe_bin o_fdv (fe_var 3) fe_int)) fa_nil))) (fe_var 3)) (fe_call ((d_nearest T).mono (by decide)) hr tk rfl (fa_cons (fe_var 5) (fa_cons (fe_bin o_add (fe_bin o_add (fe_ix (fe_var 5) fe_int (fun _ _ => rfl)) (fe_bin o_fdv (fe_var 3) fe_int)) (fe_var 3)) fa_nil))) (nomark _))))))) (fss_one (fs_ret fe_bl)) fss_nil)))))))))))
  (fss_one (fs_ret fe_bl))))
theorem d_law (T : Txt K mg) : Dn P w K mg base 7 "law" ["script"] m_law := by
  obtain ⟨fd, Fd⟩ := T.u_law
  exact ⟨_, fd, c_law T Fd, T.g_law, Fd.kp, Fd.bindsN fun _ _ _ _ _ _ us hl => match us, hl with | [_], _ => rfl⟩
end
end K06

namespace K06
open PySem PySem.Spec PyProof.Rows L2 Mi
section
theorem e_is_integer (i : Int) (S : Sto) : m_is_integer [.d (.int i)] S = .ok (.d (.bl true)) S := by
  refine Es.eq (Es.run rfl ?_)
  unfold b_is_integer
  simp [startE]
theorem e_is_within (i a b : Int) (S : Sto) : m_is_within [.d (.int i), .d (.int a), .d (.int b)] S = .ok (.d (.bl (decide (a ≤ i) && decide (i ≤ b)))) S := by
  refine Es.eq (Es.run rfl ?_)
  unfold b_is_within
  simp [startE, e_is_integer]
  split <;> omega
theorem e_is_row (xs : List D) (b : Int) (S : Sto) : m_is_row [.d (.tup xs), .d (.int b)] S = .ok (.d (.bl (decide (xs.length ≤ b)))) S := by
  refine Es.eq (Es.run rfl ?_)
  unfold b_is_row
  simp [startE, e_is_integer]
theorem e_is_row' (xs : List D) (b : Int) (S : Sto) : m_is_row [.d (.lst xs), .d (.int b)] S = .ok (.d (.bl (decide (xs.length ≤ b)))) S := by
  refine Es.eq (Es.run rfl ?_)
  unfold b_is_row
  simp [startE, e_is_integer]
abbrev Rl (r : Str) : Prop := r = "floor" ∨ r = "ceil" ∨ r = "up" ∨ r = "down" ∨ r = "even" ∨ r = "odd"
structure Go (s o : Int) (r : Str) : Prop where
  h1 : 1 ≤ s
  h2 : s ≤ 999
  h3 : 0 ≤ o
  h4 : o < s
  rl : Rl r
theorem e_is_rule (r : Str) (S : Sto) (h : Rl r) : m_is_rule [.d (.str r)] S = .ok (.d (.bl true)) S := by
  refine Es.eq (Es.run rfl ?_)
  unfold b_is_rule
  simp [startE, k_RULES]
  rcases h with rfl | rfl | rfl | rfl | rfl | rfl <;> simp
theorem e_is_grid {s o : Int} {r : Str} (g : Go s o r) (S : Sto) : m_is_grid [.d (.tup [.int s, .int o, .str r])] S = .ok (.d (.bl true)) S := by
  obtain ⟨h1, h2, h3, h4, h⟩ := g
  refine Es.eq (Es.run rfl ?_)
  unfold b_is_grid
  simp [startE, k_MOST_STEP, e_is_row, e_is_within, e_is_rule, h, h1, h2, h3]
  omega
theorem e_is_grid' {s o : Int} {r : Str} (g : Go s o r) (S : Sto) : m_is_grid [.d (.lst [.int s, .int o, .str r])] S = .ok (.d (.bl true)) S := by
  obtain ⟨h1, h2, h3, h4, h⟩ := g
  refine Es.eq (Es.run rfl ?_)
  unfold b_is_grid
  simp [startE, k_MOST_STEP, e_is_row', e_is_within, e_is_rule, h, h1, h2, h3]
  omega
theorem e_need_grid {s o : Int} {r : Str} (g : Go s o r) (S : Sto) : m_need_grid [.d (.tup [.int s, .int o, .str r])] S = .ok (.d (.tup [.int s, .int o, .str r])) S := by
  refine Es.eq (Es.run rfl ?_)
  unfold b_need_grid
  simp [startE, e_is_grid g]
theorem e_need_grid' {s o : Int} {r : Str} (g : Go s o r) (S : Sto) : m_need_grid [.d (.lst [.int s, .int o, .str r])] S = .ok (.d (.tup [.int s, .int o, .str r])) S := by
  refine Es.eq (Es.run rfl ?_)
  unfold b_need_grid
  simp [startE, e_is_grid' g]
theorem e_need_number (i : Int) (x : D) (S : Sto) : m_need_number [.d (.int i), .d x] S = .ok (.d .non) S := by
  refine Es.eq (Es.run rfl ?_)
  unfold b_need_number
  simp [startE, e_is_integer]
def markP (s o : Int) (r : Str) (n : Int) : Int :=
  if (n - o) % s = 0 ∨ r = "floor" then (n - o) / s else if r = "ceil" then (n - o) / s + 1 else
  if 2 * ((n - o) % s) ≠ s then (n - o) / s + (if s < 2 * ((n - o) % s) then 1 else 0) else
  if r = "up" then (n - o) / s + 1 else if r = "down" then (n - o) / s else if r = "even" then (n - o) / s + (n - o) / s % 2 else (n - o) / s + 1 - (n - o) / s % 2
theorem e_mark_in {s o : Int} {r : Str} (g : Go s o r) (n : Int) (S : Sto) : m_mark_in [.d (.tup [.int s, .int o, .str r]), .d (.int n)] S = .ok (.d (.int (markP s o r n))) S := by
  obtain ⟨h1, h2, h3, h4, h⟩ := g
  have hs : 0 < s := by omega
  have hs2 : s < 1073741824 := by omega
  have m2 : ∀ j, mulOk 2 j := fun j => mulOk_l (by omega) (by omega)
  refine Es.eq (Es.run rfl ?_)
  unfold b_mark_in
  simp [startE, hs, hs2, m2, markP]
  repeat' split
  all_goals first | simp_all | omega

abbrev gT (s o : Int) (r : Str) : D := .tup [.int s, .int o, .str r]
abbrev gL (s o : Int) (r : Str) : D := .lst [.int s, .int o, .str r]
/-- a told grid -/
structure Gd (G : D) (s o : Int) (r : Str) : Prop where
  ok : Go s o r
  ng : ∀ S, m_need_grid [.d G] S = .ok (.d (gT s o r)) S
theorem Gd.t {s o : Int} {r : Str} (g : Go s o r) : Gd (gT s o r) s o r := ⟨g, e_need_grid g⟩
theorem Gd.l {s o : Int} {r : Str} (g : Go s o r) : Gd (gL s o r) s o r := ⟨g, e_need_grid' g⟩
theorem e_point_in {s o : Int} {r : Str} (g : Go s o r) (n : Int) (S : Sto) : m_point_in [.d (gT s o r), .d (.int n)] S = .ok (.d (.int (o + s * n))) S := by
  obtain ⟨h1, h2, h3, h4, h⟩ := g
  have m : ∀ j, mulOk s j := fun j => mulOk_l (by omega) (by omega)
  refine Es.eq (Es.run rfl ?_)
  unfold b_point_in
  simp [startE, m]
theorem e_mark {G : D} {s o : Int} {r : Str} (g : Gd G s o r) (n : Int) (S : Sto) : m_mark [.d G, .d (.int n)] S = .ok (.d (.int (markP s o r n))) S := by
  refine Es.eq (Es.run rfl ?_)
  unfold b_mark
  simp [startE, g.ng, e_need_number, e_mark_in g.ok]
theorem e_point {G : D} {s o : Int} {r : Str} (g : Gd G s o r) (n : Int) (S : Sto) : m_point [.d G, .d (.int n)] S = .ok (.d (.int (o + s * n))) S := by
  refine Es.eq (Es.run rfl ?_)
  unfold b_point
  simp [startE, g.ng, e_need_number, e_point_in g.ok]
theorem e_nearest {G : D} {s o : Int} {r : Str} (g : Gd G s o r) (n : Int) (S : Sto) : m_nearest [.d G, .d (.int n)] S = .ok (.d (.int (o + s * markP s o r n))) S := by
  refine Es.eq (Es.run rfl ?_)
  unfold b_nearest
  simp [startE, g.ng, e_need_number, e_mark_in g.ok, e_point_in g.ok]
def spanP (s : Int) (r : Str) : Int := if r = "even" ∨ r = "odd" then 2 * s else s
theorem e_span {G : D} {s o : Int} {r : Str} (g : Gd G s o r) (S : Sto) : m_span [.d G] S = .ok (.d (.int (spanP s r))) S := by
  have m : ∀ j, mulOk 2 j := fun j => mulOk_l (by omega) (by omega)
  refine Es.eq (Es.run rfl ?_)
  unfold b_span
  simp [startE, g.ng, m, spanP]
  grind
theorem e_is_point {G : D} {s o : Int} {r : Str} (g : Gd G s o r) (n : Int) (S : Sto) : m_is_point [.d G, .d (.int n)] S = .ok (.d (.bl (decide ((n - o) % s = 0)))) S := by
  obtain ⟨⟨h1, h2, h3, h4, h⟩, ng⟩ := g
  have hs : 0 < s := by omega
  refine Es.eq (Es.run rfl ?_)
  unfold b_is_point
  simp [startE, ng, e_need_number, hs]
def tiesP (s o : Int) (r : Str) : List D := if r = "floor" ∨ r = "ceil" ∨ s % 2 = 1 then [] else rgL (o + s / 2) (o + spanP s r) s
theorem e_ties {G : D} {s o : Int} {r : Str} (g : Gd G s o r) (S : Sto) : m_ties [.d G] S = .ok (.d (.tup (tiesP s o r))) S := by
  have h1 := g.ok.h1
  have h2 := g.ok.h2
  have h3 := g.ok.h3
  have h4 := g.ok.h4
  have hs : 0 < s := by omega
  have f2 : fdivOk 2 := fdivOk_of (by omega) (by omega)
  have k : rgOk (o + s / 2) (o + spanP s r) s := by
    have : 0 ≤ spanP s r ∧ spanP s r ≤ 2 * s := by unfold spanP; split <;> omega
    exact rgOk_up (by omega) (by omega) (by omega) (by omega) (by omega) (by omega) (by omega)
  refine Es.eq (Es.run rfl ?_)
  unfold b_ties
  simp [startE, g.ng, hs, f2, e_span (Gd.t g.ok), k, tiesP]
  grind
end
end K06

namespace K06
open PySem PySem.Spec PyProof.Rows L2 Mi
section
variable {Q : U → Sto → Prop} {X : Er → Sto → Prop} {tk : Tk (Q, X)}
theorem wp_draw {ns : List Int} {t r many : Int} {p : Nat} {S : Sto} (hS : S[p]? = some (pnC ns t r)) (ht : 0 ≤ t) (hT : t < 2 ^ 20) (hr : 0 ≤ r) (hm : many < 2 ^ 1000)
    (k : ∀ d t' r', 0 ≤ d → (2 ≤ many → d < many) → (many < 2 → d = 0) → t ≤ t' → t' ≤ t + 1 → 0 ≤ r' → Q (.d (.int d)) (S.set p (pnC ns t' r'))) : Es (m__law_draw [.r p, .d (.int many)] S) Q X tk := by
  have hp := lt_of_some hS
  have hset := set_self hS
  refine Es.run rfl ?_
  unfold b__law_draw
  by_cases h2 : many < 2
  · simp [startE, h2]
    have := k 0 t r (by omega) (by omega) (by omega) (by omega) (by omega) hr
    rwa [hset] at this
  have hc := cellL_some hS
  have hm0 : 0 < many := by omega
  have hf : fdivOk many := fdivOk_of hm0 (by omega)
  have hx2 : ∀ n : Nat, n = 3 → ixN n 2 = some 2 := fun n h => by subst h; rfl
  by_cases h3 : 0 < r
  · have m0 := Int.emod_nonneg r (show many ≠ 0 by omega)
    have m1 := Int.emod_lt_of_pos r hm0
    have m2 : 0 ≤ r / many := Int.ediv_nonneg (by omega) (by omega)
    simp [startE, h2, hc, h3, hm0, hf, ixN]
    exact k _ _ _ m0 (fun _ => m1) (by omega) (by omega) (by omega) m2
  have hcs := fun ws => cellL_set (S := S) (p := p) ws hp
  have hm1 : mulOk 72499 t := mulOk_l (by omega) (by omega)
  have hm2 : mulOk 2 t := mulOk_l (by omega) (by omega)
  have hm3 : mulOk 90247 t := mulOk_l (by omega) (by omega)
  have hm4 : mulOk (90247 * t) t := mulOk_r (by omega) (by omega)
  have hm5 : ∀ x, mulOk 2 x := fun x => mulOk_l (by omega) (by omega)
  have hm6 : ∀ x, mulOk x (2 * t + 4357) := fun x => mulOk_r (by omega) (by omega)
  have hf32 : fdivOk 32 := fdivOk_of (by omega) (by omega)
  have tt : t * t ≤ 2 ^ 20 * 2 ^ 20 := Int.mul_le_mul (by omega) (by omega) ht (by omega)
  have tt0 : 0 ≤ t * t := Int.mul_nonneg ht ht
  have p3 : ∀ c : Int, (c % 2147483549 + 72499 * t + 9395).natAbs < 2 ^ 64 := fun c => by omega
  have p5 : ∀ c : Int, (c % 2147483587 * (2 * t + 4357) + 90247 * t * t + 72499).natAbs < 2 ^ 64 := fun c => by
    have a0 : 0 ≤ c % 2147483587 := by omega
    have a1 : c % 2147483587 ≤ 2 ^ 31 := by omega
    have b0 : 0 ≤ c % 2147483587 * (2 * t + 4357) := Int.mul_nonneg a0 (by omega)
    have b1 : c % 2147483587 * (2 * t + 4357) ≤ 2 ^ 31 * 2 ^ 22 := Int.mul_le_mul a1 (by omega) (by omega) (by omega)
    have : 90247 * t * t = 90247 * (t * t) := Int.mul_assoc _ _ _
    omega
  have md : ∀ x : Int, 0 ≤ x % many ∧ x % many < many := fun x => ⟨Int.emod_nonneg x (by omega), Int.emod_lt_of_pos x hm0⟩
  rcases ns with _ | ⟨n0, ns⟩
  · simp [startE, h2, hc, h3, hm0, hf, ixN, hcs, hm1, hm2, hm3, hm4, hm5, hm6, hf32, p3, p5, show ¬ t < 0 by omega]
    exact k _ _ _ (md _).1 (fun _ => (md _).2) (by omega) (by omega) (by omega) hr
  · obtain ⟨c, hcc⟩ := atI_ints (n0 :: ns) (t % ((n0 :: ns).length : Int)) (Int.emod_nonneg _ (by simp only [List.length_cons]; omega)) (Int.emod_lt_of_pos _ (by simp only [List.length_cons]; omega))
    have hl : (0 : Int) < (ns.length : Int) + 1 := by omega
    simp only [List.map_cons, List.length_cons, Int.natCast_add, Int.cast_ofNat_Int] at hcc
    simp [startE, h2, hc, h3, hm0, hf, ixN, hcs, hm1, hm2, hm3, hm4, hm5, hm6, hf32, p3, p5, hcc, hl]
    repeat' split
    all_goals first
      | exact k _ _ _ (md _).1 (fun _ => (md _).2) (by omega) (by omega) (by omega) hr
      | exact k _ _ _ (md _).1 (fun _ => (md _).2) (by omega) (by omega) (by omega) (Int.ediv_nonneg (by omega) (by omega))
theorem wp_pick {ns : List Int} {t r : Int} {p : Nat} {S : Sto} {x : D} {xs : List D} (hS : S[p]? = some (pnC ns t r)) (ht : 0 ≤ t) (hT : t < 2 ^ 20) (hr : 0 ≤ r) (hl : xs.length < 2 ^ 24)
    (k : ∀ y ∈ x :: xs, ∀ t' r', t ≤ t' → t' ≤ t + 1 → 0 ≤ r' → Q (.d y) (S.set p (pnC ns t' r'))) : Es (m__law_pick [.r p, .d (.lst (x :: xs))] S) Q X tk := by
  refine Es.run rfl ?_
  unfold b__law_pick
  simp [startE]
  refine wp_draw hS ht hT hr (by omega) fun d t' r' h0 h1 h2 h3 h4 h5 => ?_
  obtain ⟨y, e, hm, _⟩ := atI_in (x :: xs) d h0 (by
    simp only [List.length_cons]
    rcases Nat.eq_zero_or_pos xs.length with h | h
    · rw [h2 (by omega)]; omega
    · have := h1 (by omega); omega)
  simp [e]
  exact k y hm t' r' h3 h4 h5
theorem wp_between {ns : List Int} {t r a b : Int} {p : Nat} {S : Sto} (hS : S[p]? = some (pnC ns t r)) (ht : 0 ≤ t) (hT : t < 2 ^ 20) (hr : 0 ≤ r) (hl : b - a < 2 ^ 999) (hab : a ≤ b)
    (k : ∀ y, a ≤ y → y ≤ b → ∀ t' r', t ≤ t' → t' ≤ t + 1 → 0 ≤ r' → Q (.d (.int y)) (S.set p (pnC ns t' r'))) : Es (m__law_between [.r p, .d (.int a), .d (.int b)] S) Q X tk := by
  refine Es.run rfl ?_
  unfold b__law_between
  simp [startE]
  refine wp_draw hS ht hT hr (by omega) fun d t' r' h0 h1 h2 h3 h4 h5 => ?_
  simp
  refine k _ (by omega) ?_ t' r' h3 h4 h5
  rcases Int.lt_or_le (b - a + 1) 2 with h | h
  · have := h2 h; omega
  · have := h1 h; omega
theorem wp_great {ns : List Int} {t r : Int} {p : Nat} {S : Sto} (hS : S[p]? = some (pnC ns t r)) (ht : 0 ≤ t) (hT : t < 2 ^ 20 - 4) (hr : 0 ≤ r)
    (k : ∀ y, -(10 ^ 40) ≤ y → y ≤ 10 ^ 40 → ∀ t' r', t ≤ t' → t' ≤ t + 3 → 0 ≤ r' → Q (.d (.int y)) (S.set p (pnC ns t' r'))) : Es (m__law_v_great [.r p] S) Q X tk := by
  have hp := lt_of_some hS
  refine Es.run rfl ?_
  unfold b__law_v_great
  simp [startE]
  refine wp_between hS ht (by omega) hr (by omega) (by omega) fun y1 a1 a2 t1 r1 b1 b2 b3 => ?_
  simp
  refine wp_between (ns := ns) (t := t1) (r := r1) (by simp [hp]) (by omega) (by omega) b3 (by omega) (by omega) fun y2 c1 c2 t2 r2 d1 d2 d3 => ?_
  simp
  refine wp_pick (ns := ns) (t := t2) (r := r2) (by simp [hp]) (by omega) (by omega) d3 (by simp) fun y hy t3 r3 e1 e2 e3 => ?_
  simp at hy
  simp
  rcases hy with rfl | rfl | rfl | rfl | rfl | rfl | rfl <;> exact k _ (by omega) (by omega) _ _ (by omega) (by omega) e3
theorem wp_pen {ns : List Int} {S : Sto} (hn : ns.length ≤ 63) (hS : S.length = 0) (k : ∀ cs : List Int, Q (.r 0) [pnC cs 0 0]) : Es (m__law_pen [.d (.scr ns)] S) Q X tk := by
  have : S = [] := List.length_eq_zero_iff.1 hS
  subst this
  refine Es.run rfl ?_
  unfold b__law_pen lc__law_pen_1
  simp [startE]
  rw [cmpL_val (p := fun _ => true) (f := id)]
  · have e : allD ((List.map (U.d ∘ D.int) (cutU ns none (some 61))).filter fun _ => true) = some ((cutU ns none (some 61)).map D.int) := by
      rw [List.filter_eq_self.2 (fun _ _ => rfl), ← List.map_map, allD_map]
    simp [e, cutR, U.below]
    exact k _
  · simp [cutU]; omega
  · intro u hu
    obtain ⟨x, hx, rfl⟩ := List.mem_map.1 hu
    exact ⟨_, rfl, rfl, fun _ => rfl⟩
end
end K06

namespace K06
open PySem PySem.Spec PyProof.Rows L2 Mi
section
variable {N : En → Sto → Prop} {Z : RS → Prop} {tk : Tk (N, Z)}
def mkP (s : Int) (r : Str) (q v : Int) : Int :=
  if v = 0 ∨ r = "floor" then q else if r = "ceil" then q + 1 else
  if 2 * v ≠ s then q + (if s < 2 * v then 1 else 0) else
  if r = "up" then q + 1 else if r = "down" then q else if r = "even" then q + q % 2 else q + 1 - q % 2
theorem markP_mk (s o : Int) (r : Str) (n : Int) : markP s o r n = mkP s r ((n - o) / s) ((n - o) % s) := rfl
theorem w_due {s o n q v lo : Int} {r : Str} (g : Go s o r) (hv : (n - o) % s = v) (hq : (n - o) / s = q) (hlo : lo = n - v) {S : Sto} {x0 x1 x2 x6 x7 x8 x11 x12 x13 x14 x15 x16 x17 x18 : Option U}
    (k : ∀ d y11 y13 y14, d = o + s * mkP s r q v → N [x0, x1, x2, some (.d (.int s)), some (.d (.str r)), some (.d (gT s o r)), x6, x7, x8, some (.d (.int n)), some (.d (.int lo)), y11, some (.d (.int d)), y13, y14, x15, x16, x17, x18] S) :
    Ws (l_law_10 [x0, x1, x2, some (.d (.int s)), some (.d (.str r)), some (.d (gT s o r)), x6, x7, x8, some (.d (.int n)), some (.d (.int lo)), x11, x12, x13, x14, x15, x16, x17, x18] S) (fun e S1 => Ws (l_law_11 e S1) N Z ⟨⟩) Z ⟨⟩ := by
  obtain ⟨h1, h2, h3, h4, h⟩ := g
  have hs : 0 < s := by omega
  have v0 : 0 ≤ v := by rw [← hv]; exact Int.emod_nonneg _ (by omega)
  have v1 : v < s := by rw [← hv]; exact Int.emod_lt_of_pos _ hs
  have hn : s * q = lo - o := by rw [hlo, ← hv, ← hq]; have := Int.mul_ediv_add_emod (n - o) s; omega
  have hn1 : s * (q + 1) = lo - o + s := by rw [Int.mul_add, hn]; omega
  have k1 : (lo - o) / s = q := by rw [← hn]; exact Int.mul_ediv_cancel_left _ (by omega)
  have k2 : (lo + s - o) / s = q + 1 := by rw [show lo + s - o = s * (q + 1) by omega]; exact Int.mul_ediv_cancel_left _ (by omega)
  have en : n = lo + v := by omega
  clear hlo hv hq
  subst en
  have f2 : fdivOk s := fdivOk_of (by omega) (by omega)
  unfold l_law_10 l_law_11
  have c : v = 0 ∨ (v ≠ 0 ∧ 2 * v < s) ∨ (v ≠ 0 ∧ s < 2 * v) ∨ (v ≠ 0 ∧ 2 * v = s) := by omega
  have e1 : (if v < 0 then -v else v) = v := by rw [if_neg (by omega)]
  have e2 : (if v - s < 0 then -(v - s) else v - s) = s - v := by rw [if_pos (by omega)]; omega
  have e3 : lo + v - (lo + s) = v - s := by omega
  have e0 : lo + v - lo = v := by omega
  have p2 : (q % 2 = 0 ∧ (q + 1) % 2 = 1) ∨ (q % 2 = 1 ∧ (q + 1) % 2 = 0) := by omega
  have d1 : ¬ (v = 0) → ¬ (lo = lo + v) := by omega
  rcases c with c | ⟨c1, c2⟩ | ⟨c1, c2⟩ | ⟨c1, c2⟩
  · subst c
    simp only [Int.add_zero] at k
    rcases h with rfl | rfl | rfl | rfl | rfl | rfl
    all_goals
      rcases p2 with p2 | p2
      all_goals
        simp [l_law_4, l_law_5, lc_law_1, lc_law_2, lc_law_3, hs, f2, k1, p2]
        refine k _ _ _ _ ?_; simp [mkP, p2]; (repeat' split) <;> first | omega | (simp only [Int.add_zero]; omega)
  · rcases h with rfl | rfl | rfl | rfl | rfl | rfl
    all_goals
      rcases p2 with p2 | p2
      all_goals
        simp [l_law_4, l_law_5, lc_law_1, lc_law_2, lc_law_3, hs, f2, k1, k2, e0, e1, e2, e3, c1, d1 c1, p2, show ¬ s - v < v by omega, show ¬ s - v = v by omega]
        refine k _ _ _ _ ?_; simp [mkP, c1, p2]; (repeat' split) <;> first | omega | (simp only [Int.add_zero]; omega)
  · rcases h with rfl | rfl | rfl | rfl | rfl | rfl
    all_goals
      rcases p2 with p2 | p2
      all_goals
        simp [l_law_4, l_law_5, lc_law_1, lc_law_2, lc_law_3, hs, f2, k1, k2, e0, e1, e2, e3, c1, d1 c1, p2, show s - v < v by omega, show ¬ v = s - v by omega]
        refine k _ _ _ _ ?_; simp [mkP, c1, p2]; (repeat' split) <;> first | omega | (simp only [Int.add_zero]; omega)
  · rcases h with rfl | rfl | rfl | rfl | rfl | rfl
    all_goals
      rcases p2 with p2 | p2
      all_goals
        simp [l_law_4, l_law_5, lc_law_1, lc_law_2, lc_law_3, hs, f2, k1, k2, e0, e1, e2, e3, c1, d1 c1, p2, show s - v = v by omega]
        refine k _ _ _ _ ?_; simp [mkP, c1, p2]; (repeat' split) <;> first | omega | (simp only [Int.add_zero]; omega)
theorem w_due2 {B : EvS} {s o n q v lo : Int} {r : Str} (g : Go s o r) (hv : (n - o) % s = v) (hq : (n - o) / s = q) (hlo : lo = n - v) {S : Sto} {x0 x1 x2 x6 x7 x8 x11 x12 x13 x14 x15 x16 x17 x18 : Option U}
    (k : ∀ d y11 y13 y14, d = o + s * mkP s r q v → Ws (B [x0, x1, x2, some (.d (.int s)), some (.d (.str r)), some (.d (gT s o r)), x6, x7, x8, some (.d (.int n)), some (.d (.int lo)), y11, some (.d (.int d)), y13, y14, x15, x16, x17, x18] S) N Z ⟨⟩) :
    Ws (l_law_10 [x0, x1, x2, some (.d (.int s)), some (.d (.str r)), some (.d (gT s o r)), x6, x7, x8, some (.d (.int n)), some (.d (.int lo)), x11, x12, x13, x14, x15, x16, x17, x18] S) (fun e S1 => Ws (sSeq l_law_11 B e S1) N Z ⟨⟩) Z ⟨⟩ :=
  (w_due (N := fun e S => Ws (B e S) N Z ⟨⟩) g hv hq hlo k).mono (fun e S h => by rw [Ws_seq]; exact h) (fun _ h => h)
theorem markP_pt {s o : Int} {r : Str} (g : Go s o r) (m : Int) : markP s o r (o + s * m) = m := by
  have h1 := g.h1
  rw [markP_mk, show o + s * m - o = s * m by omega, Int.mul_emod_right, Int.mul_ediv_cancel_left _ (by omega)]
  simp [mkP]
theorem markP_sh {s o : Int} {r : Str} (g : Go s o r) (n p : Int) : o + s * markP s o r (n + spanP s r * p) = o + s * markP s o r n + spanP s r * p := by
  obtain ⟨h1, h2, h3, h4, h⟩ := g
  by_cases e : r = "even" ∨ r = "odd"
  · have e2 : spanP s r * p = s * (2 * p) := by rw [spanP, if_pos e, ← Int.mul_assoc, Int.mul_comm s 2]
    rw [e2, markP_mk, markP_mk, show n + s * (2 * p) - o = n - o + s * (2 * p) by omega, Int.add_mul_emod_self_left, Int.add_mul_ediv_left _ _ (by omega)]
    generalize (n - o) / s = q
    generalize (n - o) % s = v
    have : mkP s r (q + 2 * p) v = mkP s r q v + 2 * p := by unfold mkP; (repeat' split) <;> omega
    rw [this, Int.mul_add]; omega
  · have e2 : spanP s r * p = s * p := by rw [spanP, if_neg e]
    rw [e2, markP_mk, markP_mk, show n + s * p - o = n - o + s * p by omega, Int.add_mul_emod_self_left, Int.add_mul_ediv_left _ _ (by omega)]
    generalize (n - o) / s = q
    generalize (n - o) % s = v
    have : mkP s r (q + p) v = mkP s r q v + p := by
      rcases h with rfl | rfl | rfl | rfl | rfl | rfl
      all_goals first | (exfalso; simp at e; done) | (simp [mkP]; done) | (simp [mkP]; (repeat' split) <;> omega)
    rw [this, Int.mul_add]; omega
theorem w_lap {s o t rr : Int} {r : Str} {ns : List Int} (g : Go s o r) (ht : 0 ≤ t) (hT : t < 2 ^ 19) (hr : 0 ≤ rr) {x0 x2 x6 x7 x8 x9 x10 x11 x12 x13 x14 x15 x16 x17 x18 : Option U}
    (k : ∀ t' r' y7 y8 y9 y10 y11 y12 y13 y14 y15, t ≤ t' → t' ≤ t + 5 → 0 ≤ r' → N [x0, some (.r 0), x2, some (.d (.int s)), some (.d (.str r)), some (.d (gT s o r)), x6, y7, y8, y9, y10, y11, y12, y13, y14, y15, x16, x17, x18] [pnC ns t' r']) :
    Ws (l_law_17 [x0, some (.r 0), x2, some (.d (.int s)), some (.d (.str r)), some (.d (gT s o r)), x6, x7, x8, x9, x10, x11, x12, x13, x14, x15, x16, x17, x18] [pnC ns t rr]) N Z ⟨⟩ := by
  have h1 := g.h1
  have h2 := g.h2
  have hs : 0 < s := by omega
  have f1 : fdivOk 100000 := fdivOk_of (by omega) (by omega)
  have f2 : fdivOk 2 := fdivOk_of (by omega) (by omega)
  have fs : fdivOk s := fdivOk_of (by omega) (by omega)
  have ms : ∀ x, mulOk s x := fun x => mulOk_l (by omega) (by omega)
  have sp0 : 0 ≤ spanP s r ∧ spanP s r ≤ 2 * s := by unfold spanP; split <;> omega
  have ms2 : ∀ x, mulOk (spanP s r) x := fun x => mulOk_l (by omega) (by omega)
  unfold l_law_17
  simp [l_law_6]
  refine wp_great (ns := ns) (t := t) (r := rr) rfl ht (by omega) hr fun y _ _ t1 r1 a1 a2 a3 => ?_
  simp [f1]
  generalize y / 100000 = place
  simp [l_law_7, ms]
  simp [l_law_8, f2]
  refine wp_draw (ns := ns) (t := t1) (r := r1) rfl (by omega) (by omega) (by omega) (by omega) fun d t2 r2 _ _ _ b1 b2 b3 => ?_
  simp
  refine wp_pick (ns := ns) (t := t2) (r := r2) rfl (by omega) (by omega) (by omega) (by simp) fun y hy t3 r3 c1 c2 c3 => ?_
  obtain ⟨w, rfl⟩ : ∃ w, y = .int w := by
    simp at hy
    rcases hy with rfl | rfl | rfl | rfl | rfl | rfl | rfl <;> exact ⟨_, rfl⟩
  simp
  generalize hn : o + s * place + w = n
  simp [l_law_9, hs]
  generalize hv : (n - o) % s = v
  generalize hq : (n - o) / s = q
  refine w_due2 g hv hq rfl fun due y11 y13 y14 hd => ?_
  have hm : markP s o r n = mkP s r q v := by rw [markP_mk, hv, hq]
  have hsh := markP_sh g n place
  have hp := markP_pt g place
  have hp2 := markP_pt g (mkP s r q v)
  rw [hm] at hsh
  generalize mkP s r q v = m at *
  subst hd
  have gl := Gd.l g
  have gt := Gd.t g
  have j1 : o + s * m - o = s * m := by omega
  have j2 : s * m / s = m := Int.mul_ediv_cancel_left _ (by omega)
  have j3 : (o + s * m - o) % s = 0 := by rw [j1]; exact Int.mul_emod_right _ _
  simp [l_law_12, hs, fs, j1, j2]
  simp [l_law_13, e_nearest gl, e_nearest gt, e_mark gt, e_point gt, hm]
  simp [l_law_14, e_is_point gt, j3, e_nearest gt, hp2, hv, hs]
  simp [l_law_15, e_mark gt, e_point gt, hp]
  simp [l_law_16, e_nearest gt, e_span gt, ms2, hsh]
  exact k _ _ _ _ _ _ _ _ _ _ _ (by omega) (by omega) c3
theorem filter_one (n k : Nat) (p : Nat → Bool) (hk : k < n) (h : ∀ i, i < n → p i = decide (i = k)) : (List.range n).filter p = [k] := by
  induction n with
  | zero => omega
  | succ n ih =>
    rw [List.range_succ, List.filter_append]
    by_cases e : k = n
    · subst e
      have : (List.range k).filter p = [] := List.filter_eq_nil_iff.2 fun i hi => by
        have := List.mem_range.1 hi
        rw [h i (by omega)]; simp; omega
      rw [this]
      simp [h k (by omega)]
    · rw [ih (by omega) (fun i hi => h i (by omega))]
      have : p n = false := by rw [h n (by omega)]; simp; omega
      simp [this]
end
end K06

namespace K06
open PySem PySem.Spec PyProof.Rows L2 Mi
section
variable {N : En → Sto → Prop} {Z : RS → Prop} {tk : Tk (N, Z)}
def evP (s o : Int) (r : Str) : U → Bool
  | .d (.int x) => (!decide (r = "floor" ∨ r = "ceil")) && decide (2 * ((x - o) % s) = s)
  | _ => false
theorem rgL_1 (o : Int) (h : Nat) (hh : 0 < h) : rgL (o + h) (o + 2 * h) (2 * h) = [.int (o + h)] := by
  have e : rgN (o + h) (o + 2 * h) (2 * h) = 1 := by
    unfold rgN
    rw [rgS_up (by omega), if_pos (by omega), show o + 2 * (h : Int) - (o + h) - 1 = h - 1 by omega, Int.ediv_eq_zero_of_lt (by omega) (by omega)]
    rfl
  unfold rgL
  rw [e]
  simp [List.range_succ]
theorem rgL_2 (o : Int) (h : Nat) (hh : 0 < h) : rgL (o + h) (o + 2 * (2 * h)) (2 * h) = [.int (o + h), .int (o + h + 2 * h)] := by
  have e : rgN (o + h) (o + 2 * (2 * h)) (2 * h) = 2 := by
    unfold rgN
    rw [rgS_up (by omega), if_pos (by omega), show o + 2 * (2 * (h : Int)) - (o + h) - 1 = h - 1 + 2 * h * 1 by omega, Int.add_mul_ediv_left _ _ (by omega), Int.ediv_eq_zero_of_lt (by omega) (by omega)]
    rfl
  unfold rgL
  rw [e]
  simp [List.range_succ]
theorem ev_ties {s o : Int} {r : Str} (g : Go s o r) : ((((List.range (spanP s r).toNat).map fun i => U.d (.int (o + (i : Nat)))).filter (evP s o r)).map id) = (tiesP s o r).map U.d := by
  obtain ⟨h1, h2, h3, h4, h⟩ := g
  rw [List.map_id]
  by_cases hf : r = "floor" ∨ r = "ceil"
  · have : tiesP s o r = [] := by unfold tiesP; rw [if_pos (by rcases hf with h | h <;> simp [h])]
    rw [this]
    apply List.filter_eq_nil_iff.2
    intro u hu
    obtain ⟨i, _, rfl⟩ := List.mem_map.1 hu
    simp [evP, hf]
  · by_cases ho : s % 2 = 1
    · have : tiesP s o r = [] := by unfold tiesP; rw [if_pos (by simp [ho])]
      rw [this]
      apply List.filter_eq_nil_iff.2
      intro u hu
      obtain ⟨i, _, rfl⟩ := List.mem_map.1 hu
      simp [evP, hf]
      omega
    · obtain ⟨a, rfl⟩ : ∃ a : Nat, s = 2 * a := ⟨(s / 2).toNat, by omega⟩
      have ha : 0 < a := by omega
      have ht : tiesP (2 * a) o r = rgL (o + a) (o + spanP (2 * a) r) (2 * a) := by
        unfold tiesP
        rw [if_neg (by simp only [not_or] at hf ⊢; exact ⟨hf.1, hf.2, ho⟩)]
        rw [show (2 * (a : Int)) / 2 = a by omega]
      rw [ht, List.filter_map]
      have one : (List.range (2 * a)).filter (evP (2 * a) o r ∘ fun i => U.d (.int (o + (i : Nat)))) = [a] := by
        apply filter_one _ _ _ (by omega)
        intro i hi
        simp [evP, hf]
        rw [show o + (i : Int) - o = i by omega, Int.emod_eq_of_lt (by omega) (by omega)]
        omega
      by_cases e : r = "even" ∨ r = "odd"
      · have e2 : spanP (2 * a) r = 2 * (2 * a) := by unfold spanP; rw [if_pos e]
        rw [e2, rgL_2 o a ha, show (2 * (2 * (a : Int))).toNat = 2 * a + 2 * a by omega, List.range_add, List.filter_append, one, List.filter_map]
        have two : (List.range (2 * a)).filter ((evP (2 * a) o r ∘ fun i => U.d (.int (o + (i : Nat)))) ∘ fun i => 2 * a + i) = [a] := by
          apply filter_one _ _ _ (by omega)
          intro i hi
          simp [evP, hf]
          rw [show o + (2 * (a : Int) + i) - o = i + 2 * a by omega, Int.add_emod_right, Int.emod_eq_of_lt (by omega) (by omega)]
          omega
        rw [two]
        simp
        omega
      · have e2 : spanP (2 * a) r = 2 * a := by unfold spanP; rw [if_neg e]
        rw [e2, rgL_1 o a ha, show (2 * (a : Int)).toNat = 2 * a by omega, one]
        rfl
end
end K06

namespace K06
open PySem PySem.Spec PyProof.Rows L2 Mi
section
variable {N : En → Sto → Prop} {Z : RS → Prop} {tk : Tk (N, Z)}
theorem mk_half {s o : Int} (g1 : 1 ≤ s) (he : s % 2 = 0) : (markP s o "even" (o + s / 2) = 0 ∧ markP s o "even" (o + s / 2 + s) = 2) ∧ markP s o "odd" (o + s / 2) = 1 ∧ markP s o "odd" (o + s / 2 + s) = 1 := by
  obtain ⟨a, rfl⟩ : ∃ a : Nat, s = 2 * a := ⟨(s / 2).toNat, by omega⟩
  have e0 : (2 * (a : Int)) / 2 = a := by omega
  have q0 : (o + (a : Int) - o) / (2 * a) = 0 := by rw [show o + (a : Int) - o = a by omega]; exact Int.ediv_eq_zero_of_lt (by omega) (by omega)
  have v0 : (o + (a : Int) - o) % (2 * a) = a := by rw [show o + (a : Int) - o = a by omega]; exact Int.emod_eq_of_lt (by omega) (by omega)
  have q1 : (o + (a : Int) + 2 * a - o) / (2 * a) = 1 := by
    rw [show o + (a : Int) + 2 * a - o = a + 2 * a * 1 by omega, Int.add_mul_ediv_left _ _ (by omega), Int.ediv_eq_zero_of_lt (by omega) (by omega)]; rfl
  have v1 : (o + (a : Int) + 2 * a - o) % (2 * a) = a := by rw [show o + (a : Int) + 2 * a - o = a + 2 * a by omega, Int.add_emod_right]; exact Int.emod_eq_of_lt (by omega) (by omega)
  have na : ¬ a = 0 := by omega
  rw [e0]
  simp only [markP_mk, q0, v0, q1, v1]
  simp [mkP, na]
theorem w_23 {s o : Int} {r : Str} (g : Go s o r) {S : Sto} {x0 x1 x2 x5 x6 x7 x8 x9 x10 x11 x12 x13 x14 x15 x16 x17 x18 : Option U}
    (k : N [x0, x1, x2, some (.d (.int s)), some (.d (.str r)), x5, x6, x7, x8, x9, x10, x11, x12, x13, x14, x15, some (.d (.int (spanP s r))), x17, x18] S) :
    Ws (l_law_23 [x0, x1, x2, some (.d (.int s)), some (.d (.str r)), x5, x6, x7, x8, x9, x10, x11, x12, x13, x14, x15, x16, x17, x18] S) N Z ⟨⟩ := by
  obtain ⟨h1, h2, h3, h4, h⟩ := g
  have ms : ∀ x, mulOk s x := fun x => mulOk_l (by omega) (by omega)
  have e : s * 2 = 2 * s := by omega
  rcases h with rfl | rfl | rfl | rfl | rfl | rfl
  all_goals
    simp [spanP] at k
    simp [l_law_23, ms, e]
    exact k
theorem w_17 {s o : Int} {r : Str} (g : Go s o r) {S : Sto} {x0 x1 x2 x6 x7 x8 x9 x10 x11 x12 x13 x14 x15 x17 x18 : Option U}
    (k : N [x0, x1, x2, some (.d (.int s)), some (.d (.str r)), some (.d (gT s o r)), x6, x7, x8, x9, x10, x11, x12, x13, x14, x15, some (.d (.int (spanP s r))), some (.d (.lst (tiesP s o r))), x18] S) :
    Ws (sSt 17 (eComp lc_law_18) [x0, x1, x2, some (.d (.int s)), some (.d (.str r)), some (.d (gT s o r)), x6, x7, x8, x9, x10, x11, x12, x13, x14, x15, some (.d (.int (spanP s r))), x17, x18] S) N Z ⟨⟩ := by
  have h1 := g.h1
  have h2 := g.h2
  have h3 := g.h3
  have h4 := g.h4
  have hs : 0 < s := by omega
  have sp0 : 0 ≤ spanP s r ∧ spanP s r ≤ 2 * s := by unfold spanP; split <;> omega
  have m2 : ∀ x, mulOk 2 x := fun x => mulOk_l (by omega) (by omega)
  simp [lc_law_18]
  refine ⟨by omega, ?_⟩
  rw [show o + spanP s r - o = spanP s r by omega]
  refine Es.of (comp_rng (evP s o r) id (by simp; omega) ?_) ?_
  · intro i hi
    refine ⟨_, rfl, ?_, fun _ => rfl⟩
    refine Es.eq ?_
    simp [m2, hs, evP]
    rcases g.rl with rfl | rfl | rfl | rfl | rfl | rfl <;> simp
  · rw [ev_ties g, allD_map]
    simp
    exact k
theorem ties_int (s o : Int) (r : Str) : ∃ L : List Int, tiesP s o r = L.map D.int := by
  unfold tiesP rgL
  split
  · exact ⟨[], rfl⟩
  · exact ⟨(List.range (rgN (o + s / 2) (o + spanP s r) s)).map fun i => o + s / 2 + (i : Nat) * s, by rw [List.map_map]; rfl⟩
theorem w_turn {t rr : Int} {ns : List Int} (ht : 0 ≤ t) (hT : t < 2 ^ 18) (hr : 0 ≤ rr) {x0 x2 x3 x4 x5 x6 x7 x8 x9 x10 x11 x12 x13 x14 x15 x16 x17 x18 : Option U}
    (k : ∀ t' r' y3 y4 y5 y6 y7 y8 y9 y10 y11 y12 y13 y14 y15 y16 y17, t ≤ t' → t' ≤ t + 50 → 0 ≤ r' → N [x0, some (.r 0), x2, y3, y4, y5, y6, y7, y8, y9, y10, y11, y12, y13, y14, y15, y16, y17, x18] [pnC ns t' r']) :
    Ws (l_law_27 [x0, some (.r 0), x2, x3, x4, x5, x6, x7, x8, x9, x10, x11, x12, x13, x14, x15, x16, x17, x18] [pnC ns t rr]) N Z ⟨⟩ := by
  unfold l_law_27
  simp [l_law_19]
  refine wp_draw (ns := ns) (t := t) (r := rr) rfl (by omega) (by omega) (by omega) (by omega) fun d t1 r1 hd0 hd1 _ a1 a2 a3 => ?_
  simp
  refine wp_pick (ns := ns) (t := t1) (r := r1) rfl (by omega) (by omega) (by omega) (by simp) fun y hy t2 r2 b1 b2 b3 => ?_
  obtain ⟨s, rfl, hs1, hs2⟩ : ∃ s, y = .int s ∧ 1 ≤ s ∧ s ≤ 999 := by
    have := hd1 (by omega)
    simp at hy
    rcases hy with rfl | rfl | rfl | rfl | rfl | rfl | rfl | rfl <;> exact ⟨_, rfl, by omega, by omega⟩
  simp [l_law_20]
  refine wp_pick (ns := ns) (t := t2) (r := r2) rfl (by omega) (by omega) (by omega) (by simp) fun y hy t3 r3 c1 c2 c3 => ?_
  obtain ⟨r, rfl, hrl⟩ : ∃ r, y = .str r ∧ Rl r := by
    simp at hy
    rcases hy with rfl | rfl | rfl | rfl | rfl | rfl <;> exact ⟨_, rfl, by simp [Rl]⟩
  simp [l_law_21]
  refine wp_draw (ns := ns) (t := t3) (r := r3) rfl (by omega) (by omega) (by omega) (by omega) fun d2 t4 r4 he0 he1 he2 d1 d2 d3 => ?_
  simp
  refine wp_pick (ns := ns) (t := t4) (r := r4) rfl (by omega) (by omega) (by omega) (by simp) fun y hy t5 r5 e1 e2 e3 => ?_
  obtain ⟨o, rfl, ho1, ho2⟩ : ∃ o, y = .int o ∧ 0 ≤ o ∧ o < s := by
    simp at hy
    rcases hy with rfl | rfl | rfl
    · exact ⟨_, rfl, by omega, by omega⟩
    · exact ⟨_, rfl, by omega, by omega⟩
    · refine ⟨_, rfl, by omega, ?_⟩
      rcases Int.lt_or_le s 2 with h | h
      · have := he2 h; omega
      · exact he1 h
  have g : Go s o r := ⟨hs1, hs2, ho1, ho2, hrl⟩
  simp [l_law_22]
  refine Ws_rng (fun i e S => ∃ t' r' y6 y7 y8 y9 y10 y11 y12 y13 y14 y15, t5 ≤ t' ∧ t' ≤ t5 + 5 * i ∧ 0 ≤ r' ∧ e = [x0, some (.r 0), x2, some (.d (.int s)), some (.d (.str r)), some (.d (gT s o r)), y6, y7, y8, y9, y10, y11, y12, y13, y14, y15, x16, x17, x18] ∧ S = [pnC ns t' r'])
    ⟨t5, r5, _, _, _, _, _, _, _, _, _, _, by omega, by omega, e3, rfl, rfl⟩ ?_ ?_
  · rintro i e S hi ⟨t6, r6, y6, y7, y8, y9, y10, y11, y12, y13, y14, y15, f1, f2, f3, rfl, rfl⟩
    simp
    refine w_lap g (by omega) (by omega) f3 ?_
    intro t7 r7 z7 z8 z9 z10 z11 z12 z13 z14 z15 g1 g2 g3
    exact ⟨t7, r7, _, _, _, _, _, _, _, _, _, _, by omega, by omega, g3, rfl, rfl⟩
  · rintro e S ⟨t6, r6, y6, y7, y8, y9, y10, y11, y12, y13, y14, y15, f1, f2, f3, rfl, rfl⟩
    have gl := Gd.l g
    have gt := Gd.t g
    have fs : fdivOk 2 := fdivOk_of (by omega) (by omega)
    rw [Ws_seq]
    refine w_23 g ?_
    rw [Ws_seq]
    refine w_17 g ?_
    obtain ⟨L, hL⟩ := ties_int s o r
    simp [l_law_24, e_span gt, e_span gl, e_ties gt, e_ties gl, hL]
    simp [l_law_25, k_RULES]
    have hk := k t6 r6 (some (.d (.int s))) (some (.d (.str r))) (some (.d (gT s o r))) y6 y7 y8 y9 y10 y11 y12 y13 y14 y15 (some (.d (.int (spanP s r)))) (some (.d (.lst (L.map D.int)))) (by omega) (by omega) f3
    by_cases he : s % 2 = 0
    · have hh := mk_half (o := o) hs1 he
      rcases hrl with rfl | rfl | rfl | rfl | rfl | rfl
      all_goals
        simp [l_law_26, e_nearest gt, fs, he, hh]
        repeat' split
        all_goals first | exact hk | (exfalso; omega)
    · rcases hrl with rfl | rfl | rfl | rfl | rfl | rfl
      all_goals
        simp [l_law_26, e_nearest gt, fs, he]
        repeat' split
        all_goals first | exact hk | (exfalso; omega)
theorem law_true (ns : List Int) (hn : ns.length ≤ 63) : ∃ S', m_law [.d (.scr ns)] [] = .ok (.d (.bl true)) S' := by
  refine Es.ex (Es.run rfl ?_)
  unfold b_law
  simp [startE, l_law_28]
  refine wp_pen hn rfl fun cs => ?_
  simp [l_law_29]
  refine Ws_rng (fun i e S => ∃ (t' r' : Int) (y2 y3 y4 y5 y6 y7 y8 y9 y10 y11 y12 y13 y14 y15 y16 y17 y18 : Option U), 0 ≤ t' ∧ t' ≤ 50 * i ∧ 0 ≤ r' ∧ e = [some (.d (.scr ns)), some (.r 0), y2, y3, y4, y5, y6, y7, y8, y9, y10, y11, y12, y13, y14, y15, y16, y17, y18] ∧ S = [pnC cs t' r'])
    ⟨0, 0, _, _, _, _, _, _, _, _, _, _, _, _, _, _, _, _, _, by omega, by omega, by omega, rfl, rfl⟩ ?_ ?_
  · rintro i e S hi ⟨t1, r1, y2, y3, y4, y5, y6, y7, y8, y9, y10, y11, y12, y13, y14, y15, y16, y17, y18, f1, f2, f3, rfl, rfl⟩
    simp
    refine w_turn f1 (by omega) f3 ?_
    intro t2 r2 z3 z4 z5 z6 z7 z8 z9 z10 z11 z12 z13 z14 z15 z16 z17 g1 g2 g3
    exact ⟨t2, r2, _, _, _, _, _, _, _, _, _, _, _, _, _, _, _, _, _, by omega, by omega, g3, rfl, rfl⟩
  · rintro e S ⟨t1, r1, y2, y3, y4, y5, y6, y7, y8, y9, y10, y11, y12, y13, y14, y15, y16, y17, y18, f1, f2, f3, rfl, rfl⟩
    simp [cutR, U.below, Cell.below]
end
end K06

namespace K06
open PySem PySem.Spec PyProof.Rows L2 Mi
/-! the head -/
def fa : List He.Fa := [.free "abs", .free "bool", .free "divmod", .free "int", .free "isinstance", .free "len", .free "list", .free "min", .free "range", .free "str", .free "tuple", .glo "is_integer", .glo "is_within", .glo "is_row", .glo "is_rule", .glo "is_grid", .glo "need_grid", .glo "need_number", .glo "mark_in", .glo "point_in", .glo "mark", .glo "point", .glo "nearest", .glo "span", .glo "ties", .glo "is_point", .glo "_law_pen", .glo "_law_draw", .glo "_law_pick", .glo "_law_between", .glo "_law_v_great", .glo "law"]
def fn : List He.DefD := [⟨("is_integer", none), "is_integer", "is_integer", defArgs s_is_integer, defBody s_is_integer, defScope s_is_integer, [], []⟩,
  ⟨("is_within", none), "is_within", "is_within", defArgs s_is_within, defBody s_is_within, defScope s_is_within, [], []⟩,
  ⟨("is_row", none), "is_row", "is_row", defArgs s_is_row, defBody s_is_row, defScope s_is_row, [], []⟩,
  ⟨("is_rule", none), "is_rule", "is_rule", defArgs s_is_rule, defBody s_is_rule, defScope s_is_rule, [], []⟩,
  ⟨("is_grid", none), "is_grid", "is_grid", defArgs s_is_grid, defBody s_is_grid, defScope s_is_grid, [], []⟩,
  ⟨("need_grid", none), "need_grid", "need_grid", defArgs s_need_grid, defBody s_need_grid, defScope s_need_grid, [], []⟩,
  ⟨("need_number", none), "need_number", "need_number", defArgs s_need_number, defBody s_need_number, defScope s_need_number, [], []⟩,
  ⟨("mark_in", none), "mark_in", "mark_in", defArgs s_mark_in, defBody s_mark_in, defScope s_mark_in, [], []⟩,
  ⟨("point_in", none), "point_in", "point_in", defArgs s_point_in, defBody s_point_in, defScope s_point_in, [], []⟩,
  ⟨("mark", none), "mark", "mark", defArgs s_mark, defBody s_mark, defScope s_mark, [], []⟩,
  ⟨("point", none), "point", "point", defArgs s_point, defBody s_point, defScope s_point, [], []⟩,
  ⟨("nearest", none), "nearest", "nearest", defArgs s_nearest, defBody s_nearest, defScope s_nearest, [], []⟩,
  ⟨("span", none), "span", "span", defArgs s_span, defBody s_span, defScope s_span, [], []⟩,
  ⟨("ties", none), "ties", "ties", defArgs s_ties, defBody s_ties, defScope s_ties, [], []⟩,
  ⟨("is_point", none), "is_point", "is_point", defArgs s_is_point, defBody s_is_point, defScope s_is_point, [], []⟩,
  ⟨("_law_pen", none), "_law_pen", "_law_pen", defArgs s__law_pen, defBody s__law_pen, defScope s__law_pen, [], []⟩,
  ⟨("_law_draw", none), "_law_draw", "_law_draw", defArgs s__law_draw, defBody s__law_draw, defScope s__law_draw, [], []⟩,
  ⟨("_law_pick", none), "_law_pick", "_law_pick", defArgs s__law_pick, defBody s__law_pick, defScope s__law_pick, [], []⟩,
  ⟨("_law_between", none), "_law_between", "_law_between", defArgs s__law_between, defBody s__law_between, defScope s__law_between, [], []⟩,
  ⟨("_law_v_great", none), "_law_v_great", "_law_v_great", defArgs s__law_v_great, defBody s__law_v_great, defScope s__law_v_great, [], []⟩,
  ⟨("law", none), "law", "law", defArgs s_law, defBody s_law, defScope s_law, [], []⟩]
def cs : List (Str × D) := [("MOST_STEP", k_MOST_STEP), ("RULES", k_RULES)]
abbrev ex : PySem.W.Frag → Bool := fun K => conB K cs
abbrev R : PySem.W.OpenRow := PySem.W.OpenLaw.row PySem.Challenge.rw_saveagain_k06_whole_rounding_by_the_near
abbrev hk : PySem.W.Hook := hookM 5 fa fn ex
def ob (s : PySem.W.SharedT) : AlM := obsM 5 fa fn ex (HandSHeadRun.getT s)
theorem ob_eq (s : PySem.W.SharedT) : ob s = hk.obs s.abs := obsM_eq (HandSHeadRun.getT_eq s)
def names0 : List PySem.Str := ["SaveError", "BadNumber", "BadGrid", "RULES", "MOST_STEP", "is_integer", "is_within", "is_row", "is_rule", "is_grid", "need_grid", "need_number", "mark_in", "point_in", "mark", "point", "nearest", "span", "ties", "is_point", "_law_pen", "_law_draw", "_law_pick", "_law_between", "_law_v_great"]
def names : List PySem.Str := names0
theorem run_top (w : World) : HandSHeadRun.RunEq R (PySem.W.view R.prog [29]) hk ob 4000 names w := by
  intro os
  kernel_rfl
theorem txt {K : PySem.W.Frag} {h : Heap} {mg : Str → Option Value} (X : K.In h) (G : h.Ns mainGlobals mg) (c : He.SaysD fa fn K) (e : ex K = true) : Txt K mg where
  n_abs := He.free_ok X G (c.fact 0 (f := .free "abs") rfl)
  n_bool := He.free_ok X G (c.fact 1 (f := .free "bool") rfl)
  n_divmod := He.free_ok X G (c.fact 2 (f := .free "divmod") rfl)
  n_int := He.free_ok X G (c.fact 3 (f := .free "int") rfl)
  n_isinstance := He.free_ok X G (c.fact 4 (f := .free "isinstance") rfl)
  n_len := He.free_ok X G (c.fact 5 (f := .free "len") rfl)
  n_list := He.free_ok X G (c.fact 6 (f := .free "list") rfl)
  n_min := He.free_ok X G (c.fact 7 (f := .free "min") rfl)
  n_range := He.free_ok X G (c.fact 8 (f := .free "range") rfl)
  n_str := He.free_ok X G (c.fact 9 (f := .free "str") rfl)
  n_tuple := He.free_ok X G (c.fact 10 (f := .free "tuple") rfl)
  k_MOST_STEP := conB_ok X G e 0
  k_RULES := conB_ok X G e 1
  g_is_integer := He.glo_ok X G (c.fact 11 (f := .glo "is_integer") rfl)
  u_is_integer := c.def_ 0 (d := ⟨("is_integer", none), "is_integer", "is_integer", defArgs s_is_integer, defBody s_is_integer, defScope s_is_integer, [], []⟩) rfl
  g_is_within := He.glo_ok X G (c.fact 12 (f := .glo "is_within") rfl)
  u_is_within := c.def_ 1 (d := ⟨("is_within", none), "is_within", "is_within", defArgs s_is_within, defBody s_is_within, defScope s_is_within, [], []⟩) rfl
  g_is_row := He.glo_ok X G (c.fact 13 (f := .glo "is_row") rfl)
  u_is_row := c.def_ 2 (d := ⟨("is_row", none), "is_row", "is_row", defArgs s_is_row, defBody s_is_row, defScope s_is_row, [], []⟩) rfl
  g_is_rule := He.glo_ok X G (c.fact 14 (f := .glo "is_rule") rfl)
  u_is_rule := c.def_ 3 (d := ⟨("is_rule", none), "is_rule", "is_rule", defArgs s_is_rule, defBody s_is_rule, defScope s_is_rule, [], []⟩) rfl
  g_is_grid := He.glo_ok X G (c.fact 15 (f := .glo "is_grid") rfl)
  u_is_grid := c.def_ 4 (d := ⟨("is_grid", none), "is_grid", "is_grid", defArgs s_is_grid, defBody s_is_grid, defScope s_is_grid, [], []⟩) rfl
  g_need_grid := He.glo_ok X G (c.fact 16 (f := .glo "need_grid") rfl)
  u_need_grid := c.def_ 5 (d := ⟨("need_grid", none), "need_grid", "need_grid", defArgs s_need_grid, defBody s_need_grid, defScope s_need_grid, [], []⟩) rfl
  g_need_number := He.glo_ok X G (c.fact 17 (f := .glo "need_number") rfl)
  u_need_number := c.def_ 6 (d := ⟨("need_number", none), "need_number", "need_number", defArgs s_need_number, defBody s_need_number, defScope s_need_number, [], []⟩) rfl
  g_mark_in := He.glo_ok X G (c.fact 18 (f := .glo "mark_in") rfl)
  u_mark_in := c.def_ 7 (d := ⟨("mark_in", none), "mark_in", "mark_in", defArgs s_mark_in, defBody s_mark_in, defScope s_mark_in, [], []⟩) rfl
  g_point_in := He.glo_ok X G (c.fact 19 (f := .glo "point_in") rfl)
  u_point_in := c.def_ 8 (d := ⟨("point_in", none), "point_in", "point_in", defArgs s_point_in, defBody s_point_in, defScope s_point_in, [], []⟩) rfl
  g_mark := He.glo_ok X G (c.fact 20 (f := .glo "mark") rfl)
  u_mark := c.def_ 9 (d := ⟨("mark", none), "mark", "mark", defArgs s_mark, defBody s_mark, defScope s_mark, [], []⟩) rfl
  g_point := He.glo_ok X G (c.fact 21 (f := .glo "point") rfl)
  u_point := c.def_ 10 (d := ⟨("point", none), "point", "point", defArgs s_point, defBody s_point, defScope s_point, [], []⟩) rfl
  g_nearest := He.glo_ok X G (c.fact 22 (f := .glo "nearest") rfl)
  u_nearest := c.def_ 11 (d := ⟨("nearest", none), "nearest", "nearest", defArgs s_nearest, defBody s_nearest, defScope s_nearest, [], []⟩) rfl
  g_span := He.glo_ok X G (c.fact 23 (f := .glo "span") rfl)
  u_span := c.def_ 12 (d := ⟨("span", none), "span", "span", defArgs s_span, defBody s_span, defScope s_span, [], []⟩) rfl
  g_ties := He.glo_ok X G (c.fact 24 (f := .glo "ties") rfl)
  u_ties := c.def_ 13 (d := ⟨("ties", none), "ties", "ties", defArgs s_ties, defBody s_ties, defScope s_ties, [], []⟩) rfl
  g_is_point := He.glo_ok X G (c.fact 25 (f := .glo "is_point") rfl)
  u_is_point := c.def_ 14 (d := ⟨("is_point", none), "is_point", "is_point", defArgs s_is_point, defBody s_is_point, defScope s_is_point, [], []⟩) rfl
  g__law_pen := He.glo_ok X G (c.fact 26 (f := .glo "_law_pen") rfl)
  u__law_pen := c.def_ 15 (d := ⟨("_law_pen", none), "_law_pen", "_law_pen", defArgs s__law_pen, defBody s__law_pen, defScope s__law_pen, [], []⟩) rfl
  g__law_draw := He.glo_ok X G (c.fact 27 (f := .glo "_law_draw") rfl)
  u__law_draw := c.def_ 16 (d := ⟨("_law_draw", none), "_law_draw", "_law_draw", defArgs s__law_draw, defBody s__law_draw, defScope s__law_draw, [], []⟩) rfl
  g__law_pick := He.glo_ok X G (c.fact 28 (f := .glo "_law_pick") rfl)
  u__law_pick := c.def_ 17 (d := ⟨("_law_pick", none), "_law_pick", "_law_pick", defArgs s__law_pick, defBody s__law_pick, defScope s__law_pick, [], []⟩) rfl
  g__law_between := He.glo_ok X G (c.fact 29 (f := .glo "_law_between") rfl)
  u__law_between := c.def_ 18 (d := ⟨("_law_between", none), "_law_between", "_law_between", defArgs s__law_between, defBody s__law_between, defScope s__law_between, [], []⟩) rfl
  g__law_v_great := He.glo_ok X G (c.fact 30 (f := .glo "_law_v_great") rfl)
  u__law_v_great := c.def_ 19 (d := ⟨("_law_v_great", none), "_law_v_great", "_law_v_great", defArgs s__law_v_great, defBody s__law_v_great, defScope s__law_v_great, [], []⟩) rfl
  g_law := He.glo_ok X G (c.fact 31 (f := .glo "law") rfl)
  u_law := c.def_ 20 (d := ⟨("law", none), "law", "law", defArgs s_law, defBody s_law, defScope s_law, [], []⟩) rfl

end K06

open PySem PySem.W PySem.Calls PyProof.Rows
set_option maxRecDepth 100000 in
set_option maxHeartbeats 0 in
theorem PySem.Challenge.cw_saveagain_k06_whole_rounding_by_the_near_holds : PySem.Challenge.rw_saveagain_k06_whole_rounding_by_the_near.Holds := by
  w_on; o_law
  refine HandSHeadRun.head_any (r := OpenLaw.row PySem.Challenge.rw_saveagain_k06_whole_rounding_by_the_near) (q := view (OpenLaw.row PySem.Challenge.rw_saveagain_k06_whole_rounding_by_the_near).prog [29]) (H := K06.hk) (ob := K06.ob) (M := 4000) (loose := K06.names) (d := HandSHeadRun.topDef (OpenLaw.row PySem.Challenge.rw_saveagain_k06_whole_rounding_by_the_near).prog 29) (kwd := []) K06.ob_eq
    (by kernel_rfl) (fun s => by kernel_rfl) K06.run_top (by kernel_rfl) (by kernel_rfl) (by kernel_rfl) (by rfl) (by first | assumption | decide +kernel) (by decide +kernel) ⟨rfl, rfl, rfl, rfl, rfl, by decide +kernel⟩ ?hw ?hc
  case hw => w_witness2
  case hc =>
    refine L2.walk_ofE (l := PySem.Challenge.rw_saveagain_k06_whole_rounding_by_the_near) (n := 63) (k := 7) (x := "script") (CX := Mi.CXany (PySem.Challenge.rw_saveagain_k06_whole_rounding_by_the_near).prog) rfl (by decide) (by kernel_rfl) ⟨rfl, by decide, by decide⟩ ?F (fun H s e s' z => Mi.law_noX H s e s' z)
    intro w mg fa h Y G hmg0
    obtain ⟨K, KX, c, e⟩ := Y
    have T := K06.txt KX G c e
    have hmg : mg ("law" : PySem.Str) = some (.ref fa) := by
      have e : (HandSHeadRun.topDef (OpenLaw.row PySem.Challenge.rw_saveagain_k06_whole_rounding_by_the_near).prog 29).name = ("law" : PySem.Str) := by kernel_rfl
      rw [← e]
      exact hmg0
    have ef := hmg.symm.trans T.g_law
    cases ef
    obtain ⟨fd, Fd⟩ := T.u_law
    exact ⟨K, fd, Mi.spF K 1 K06.m_law, KX, fun s u => L2.FunD.bindsA Fd (ps := ["script"]) (fun _ _ _ _ _ _ us hl => match us, hl with | [_], _ => rfl) s [u] rfl, fun H a ns hl _ hS => Mi.law_sp K06.law_true H a ns hl hS, fun base _ _ => Mi.FnOk.anyW (K06.c_law T Fd).ok⟩
