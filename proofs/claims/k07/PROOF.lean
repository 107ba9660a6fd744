import PyProof.Rows.All
import Wide.All
import OpenK.AllK
import Wide.FinOn
import HandS.ForMost
import KE.SortData
import KE.KDictKeyed
import KE.DataEq
import HandS.TupAny
import HandS.TupMul
import HandS.Style
import HandS.Conv
import HandS.IsInst
import HandS.RevRange
import KE.DataMinMax
import HandS.SetFor
import HandS.Strs
import KE.KRevSl
import PySem.Challenge.RW_bottlesback_k07_whole_known_vans_round_t
set_option Elab.async false
set_option linter.all false
set_option maxRecDepth 100000
set_option maxHeartbeats 4000000
set_option autoImplicit false
section
set_option Elab.async false
set_option linter.all false
set_option maxRecDepth 100000
set_option autoImplicit false
namespace DL
open PySem PySem.Spec PyProof.Rows L2

/-! ### plain data -/
inductive D where
  | non
  | bl (b : Bool)
  | int (i : Int)
  | str (x : Str)
  | tup (l : List D)
  | lst (l : List D)
  | wd

abbrev Sub (G H : Hp) : Prop := ∀ b o, G b = some o → H b = some o
theorem Sub.rfl' (G : Hp) : Sub G G := fun _ _ h => h
theorem Sub.tr {G H I : Hp} (a : Sub G H) (b : Sub H I) : Sub G I := fun c o h => b c o (a c o h)
theorem Sub.sqL {K : PySem.W.Frag} {G H : Hp} {a : Addr} {xs : List V} (e : Sub G H) (h : SqL K G a xs) : SqL K H a xs := Same.seq e h
theorem Sub.sqT {K : PySem.W.Frag} {G H : Hp} {a : Addr} {xs : List V} (e : Sub G H) (h : SqT K G a xs) : SqT K H a xs := by
  rcases h with (h | ⟨o, h⟩) | h
  · exact .inl (.inl (e _ _ h))
  · exact .inl (.inr ⟨o, e _ _ h⟩)
  · exact .inr h

/-! ### what represents what -/
mutual
inductive Rep (K : PySem.W.Frag) (R : Option Addr) (G : Hp) : V → D → Prop
  | non : Rep K R G .non .non
  | bl (b : Bool) : Rep K R G (.bl b) (.bl b)
  | int (i : Int) : Rep K R G (.int i) (.int i)
  | str (x : Str) : Rep K R G (.str x) (.str x)
  | tup {a : Addr} {xs : List V} {ds : List D} : G a = some (.tup xs) → Reps K R G xs ds → Rep K R G (.ref a) (.tup ds)
  | lst {a : Addr} {xs : List V} {ds : List D} : G a = some (.lst xs) → Reps K R G xs ds → Rep K R G (.ref a) (.lst ds)
  | wd {a : Addr} : R = some a → Rep K R G (.ref a) .wd
inductive Reps (K : PySem.W.Frag) (R : Option Addr) (G : Hp) : List V → List D → Prop
  | nil : Reps K R G [] []
  | cons {v : V} {vs : List V} {d : D} {ds : List D} : Rep K R G v d → Reps K R G vs ds → Reps K R G (v :: vs) (d :: ds)
end
section
variable {K : PySem.W.Frag} {R : Option Addr} {G G' H : Hp}
mutual
theorem Rep.mono (e : Sub G G') : ∀ {d : D} {v : V}, Rep K R G v d → Rep K R G' v d
  | .non, _, h => by cases h; exact .non
  | .bl _, _, h => by cases h; exact .bl _
  | .int _, _, h => by cases h; exact .int _
  | .str _, _, h => by cases h; exact .str _
  | .tup ds, _, h => by
    cases h with
    | tup a b => exact .tup (e _ _ a) (Reps.mono e b)
  | .lst ds, _, h => by
    cases h with
    | lst a b => exact .lst (e _ _ a) (Reps.mono e b)
  | .wd, _, h => by
    cases h with
    | wd a => exact .wd a
theorem Reps.mono (e : Sub G G') : ∀ {ds : List D} {vs : List V}, Reps K R G vs ds → Reps K R G' vs ds
  | [], _, h => by cases h; exact .nil
  | d :: ds, _, h => by
    cases h with
    | cons a b => exact .cons (Rep.mono e a) (Reps.mono e b)
end
theorem Reps.length : ∀ {ds : List D} {vs : List V}, Reps K R G vs ds → vs.length = ds.length
  | _, _, .nil => rfl
  | _, _, .cons _ r => by rw [List.length_cons, List.length_cons, Reps.length r]
theorem Reps.get : ∀ {ds : List D} {vs : List V} {i : Nat} {d : D}, Reps K R G vs ds → ds[i]? = some d → ∃ v, vs[i]? = some v ∧ Rep K R G v d
  | _, _, _, _, .nil, h => by simp at h
  | _, _, 0, _, .cons a r, h => by simp at h; subst h; exact ⟨_, rfl, a⟩
  | _, _, i + 1, _, .cons a r, h => by
    obtain ⟨v, h1, h2⟩ := Reps.get (i := i) r (by simpa using h)
    exact ⟨v, by simpa using h1, h2⟩
theorem Reps.getV : ∀ {ds : List D} {vs : List V} {i : Nat} {v : V}, Reps K R G vs ds → vs[i]? = some v → ∃ d, ds[i]? = some d ∧ Rep K R G v d
  | _, _, _, _, .nil, h => by simp at h
  | _, _, 0, _, .cons a r, h => by simp at h; subst h; exact ⟨_, rfl, a⟩
  | _, _, i + 1, _, .cons a r, h => by
    obtain ⟨v, h1, h2⟩ := Reps.getV (i := i) r (by simpa using h)
    exact ⟨v, by simpa using h1, h2⟩
theorem Reps.append : ∀ {ds es : List D} {vs us : List V}, Reps K R G vs ds → Reps K R G us es → Reps K R G (vs ++ us) (ds ++ es)
  | _, _, _, _, .nil, r => r
  | _, _, _, _, .cons a r, s => .cons a (Reps.append r s)
theorem Reps.take : ∀ {ds : List D} {vs : List V} (n : Nat), Reps K R G vs ds → Reps K R G (vs.take n) (ds.take n)
  | _, _, 0, _ => .nil
  | _, _, _ + 1, .nil => .nil
  | _, _, n + 1, .cons a r => .cons a (Reps.take n r)
theorem Reps.drop : ∀ {ds : List D} {vs : List V} (n : Nat), Reps K R G vs ds → Reps K R G (vs.drop n) (ds.drop n)
  | _, _, 0, r => r
  | _, _, _ + 1, .nil => .nil
  | _, _, n + 1, .cons a r => Reps.drop n r
theorem Reps.set {d : D} {v : V} (r : Rep K R G v d) : ∀ {ds : List D} {vs : List V} (i : Nat), Reps K R G vs ds → Reps K R G (vs.set i v) (ds.set i d)
  | _, _, _, .nil => .nil
  | _, _, 0, .cons _ t => .cons r t
  | _, _, i + 1, .cons q t => .cons q (Reps.set r i t)
theorem Reps.eraseIdx : ∀ {ds : List D} {vs : List V} (i : Nat), Reps K R G vs ds → Reps K R G (vs.eraseIdx i) (ds.eraseIdx i)
  | _, _, _, .nil => .nil
  | _, _, 0, .cons _ t => t
  | _, _, i + 1, .cons q t => .cons q (Reps.eraseIdx i t)
theorem Reps.rep {ds : List D} {vs : List V} (h : Reps K R G vs ds) : ∀ k : Nat, Reps K R G (List.replicate k vs).flatten (List.replicate k ds).flatten
  | 0 => .nil
  | k + 1 => by
    rw [List.replicate_succ, List.replicate_succ, List.flatten_cons, List.flatten_cons]
    exact h.append (Reps.rep h k)
end

/-! ### the state that is carried: for pure defs Unit, for the law's defs the draws that are left -/
/-- the law's own dict at a, the draws that are left -/
def WRel (K : PySem.W.Frag) (R W : Option Addr) (G H : Hp) (S : List Int) : Prop := ∃ (a l : Addr) (ns : List Int) (k : Nat), R = some a ∧ W = some a ∧ G a = none ∧
  H a = some (.dK [(Sum.inr (Str.ofString "draws"), .ref l), (Sum.inr (Str.ofString "at"), .int (k : Int))]) ∧ G l = some (.lst (ns.map V.int)) ∧ S = ns.drop k
structure Fm (K : PySem.W.Frag) (T : Type) where
  R : Option Addr
  W : Option Addr
  G0 : Hp
  H0 : Hp
  rel : Hp → Hp → T → Prop
  keep : ∀ {G G' H H' : Hp} {s : T}, rel G H s → Sub G G' → (∀ b, W = some b → G' b = none ∧ ∀ o, H b = some o → H' b = some o) → rel G' H' s
  off : ∀ {G H : Hp} {s : T}, rel G H s → ∀ b, W = some b → G b = none ∧ H b ≠ none
  law : ∀ (e : T = List Int) (G H : Hp) (s : T), rel G H s ↔ WRel K R W G H (e ▸ s)
theorem unit_ne : Unit ≠ List Int := fun e => by
  have h : ∀ (A : Type), Unit = A → ∀ x y : A, x = y := fun A q => by subst q; intro x y; rfl
  have := h _ e [0] [1]
  simp at this
def Fm.unit (K : PySem.W.Frag) (R : Option Addr) (G0 H0 : Hp) : Fm K Unit where
  R := R
  W := none
  G0 := G0
  H0 := H0
  rel := fun _ _ _ => True
  keep := fun _ _ _ => trivial
  off := fun _ _ h => nomatch h
  law := fun e => absurd e unit_ne
theorem WRel.keep {K : PySem.W.Frag} {R W : Option Addr} {G G' H H' : Hp} {s : List Int} (h : WRel K R W G H s) (e : Sub G G') (k : ∀ b, W = some b → G' b = none ∧ ∀ o, H b = some o → H' b = some o) : WRel K R W G' H' s := by
  obtain ⟨a, l, ns, n, h1, h2, h3, h4, h5, h6⟩ := h
  exact ⟨a, l, ns, n, h1, h2, (k a h2).1, (k a h2).2 _ h4, e _ _ h5, h6⟩
def Fm.draws (K : PySem.W.Frag) (a : Addr) (G0 H0 : Hp) : Fm K (List Int) where
  R := some a
  W := some a
  G0 := G0
  H0 := H0
  rel := WRel K (some a) (some a)
  keep := fun h e k => h.keep e k
  off := fun ⟨a, l, ns, n, h1, h2, h3, h4, h5, h6⟩ b hb => by
    rw [h2] at hb; cases hb
    exact ⟨h3, by rw [h4]; exact fun z => nomatch z⟩
  law := fun e G H s => Iff.rfl

/-- what an evaluation may do: G grows by new places, all that was tracked (but W) stays -/
structure After {K : PySem.W.Frag} {T : Type} (F : Fm K T) (G H : Hp) (G' H' : Hp) (s : T) : Prop where
  sub : Sub G G'
  kp : ∀ b o, H b = some o → F.W ≠ some b → H' b = some o
  fr : ∀ b, G' b ≠ none → G b ≠ none ∨ H b = none
  sub' : Sub G' H'
  rel : F.rel G' H' s
section
variable {K : PySem.W.Frag} {T : Type} {F : Fm K T} {G H G1 H1 G2 H2 : Hp} {s s1 s2 : T}
theorem After.refl (h : F.rel G H s) (e : Sub G H) : After F G H G H s := ⟨fun _ _ h => h, fun _ _ h _ => h, fun _ h => .inl h, e, h⟩
theorem After.trans (a : After F G H G1 H1 s1) (b : After F G1 H1 G2 H2 s2) : After F G H G2 H2 s2 := by
  refine ⟨a.sub.tr b.sub, fun c o e n => b.kp c o (a.kp c o e n) n, fun c n => ?_, b.sub', b.rel⟩
  rcases b.fr c n with q | q
  · exact a.fr c q
  · cases e : H c with
    | none => exact .inr rfl
    | some o =>
      by_cases w : F.W = some c
      · exact absurd (F.off b.rel c w).1 n
      · rw [a.kp c o e w] at q; cases q
end

inductive Cell where
  | no
  | sh (d : D)
  | ow (d : D)
abbrev Env := List Cell

/-- a list of one's own at a -/
def Own (K : PySem.W.Frag) (R : Option Addr) (G H : Hp) (a : Addr) : D → Prop
  | .lst ds => ∃ vs, H a = some (.lst vs) ∧ Reps K R G vs ds
  | _ => False
structure OwnAt {K : PySem.W.Frag} {T : Type} (F : Fm K T) (G H : Hp) (a : Addr) (d : D) : Prop where
  g : G a = none
  h0 : F.H0 a = none
  w : F.W ≠ some a
  own : Own K F.R G H a d

structure StOk {K : PySem.W.Frag} {T : Type} (F : Fm K T) (G H : Hp) (s : T) (σ : L2.St) (env : Env) : Prop where
  sub : Sub G H
  len : σ.length = env.length
  g0 : Sub F.G0 G
  h0 : ∀ b o, F.H0 b = some o → F.W ≠ some b → H b = some o
  fr : ∀ b, G b ≠ none → F.G0 b ≠ none ∨ F.H0 b = none
  rel : F.rel G H s
  sh : ∀ (i : Nat) d, env[i]? = some (.sh d) → ∃ v, σ[i]? = some (some v) ∧ Rep K F.R G v d
  ow : ∀ (i : Nat) d, env[i]? = some (.ow d) → ∃ a, σ[i]? = some (some (.ref a)) ∧ OwnAt F G H a d
  dj : ∀ (i j : Nat) d e a, env[i]? = some (.ow d) → env[j]? = some (.ow e) → σ[i]? = some (some (.ref a)) → σ[j]? = some (some (.ref a)) → i = j
section
variable {K : PySem.W.Frag} {T : Type} {F : Fm K T} {G H G1 H1 G2 H2 : Hp} {s s1 s2 : T} {σ : L2.St} {env : Env}
theorem Own.keep {R : Option Addr} {a : Addr} {d : D} (e : Sub G G1) (k : ∀ o, H a = some o → H1 a = some o) (h : Own K R G H a d) : Own K R G1 H1 a d := by
  cases d with
  | lst ds =>
    obtain ⟨vs, h1, h2⟩ := h
    exact ⟨vs, k _ h1, h2.mono e⟩
  | _ => exact h.elim
theorem Own.there {R : Option Addr} {a : Addr} {d : D} (h : Own K R G H a d) : H a ≠ none := by
  cases d with
  | lst ds =>
    obtain ⟨vs, h1, h2⟩ := h
    rw [h1]; exact fun z => nomatch z
  | _ => exact h.elim
theorem OwnAt.after {a : Addr} {d : D} (h : OwnAt F G H a d) (A : After F G H G1 H1 s1) : OwnAt F G1 H1 a d := by
  refine ⟨?_, h.h0, h.w, h.own.keep A.sub fun o e => A.kp a o e h.w⟩
  cases e : G1 a with
  | none => rfl
  | some o =>
    rcases A.fr a (by rw [e]; exact fun z => nomatch z) with q | q
    · exact absurd h.g q
    · exact absurd q h.own.there
theorem StOk.after (I : StOk F G H s σ env) (A : After F G H G1 H1 s1) : StOk F G1 H1 s1 σ env where
  sub := A.sub'
  len := I.len
  g0 := I.g0.tr A.sub
  h0 := fun b o e n => A.kp b o (I.h0 b o e n) n
  fr := fun b n => by
    rcases A.fr b n with q | q
    · exact I.fr b q
    · refine .inr ?_
      cases e : F.H0 b with
      | none => rfl
      | some o =>
        by_cases w : F.W = some b
        · exact absurd (F.off A.rel b w).1 n
        · rw [I.h0 b o e w] at q; cases q
  rel := A.rel
  sh := fun i d e => by
    obtain ⟨v, h1, h2⟩ := I.sh i d e
    exact ⟨v, h1, h2.mono A.sub⟩
  ow := fun i d e => by
    obtain ⟨a, h1, h2⟩ := I.ow i d e
    exact ⟨a, h1, h2.after A⟩
  dj := I.dj
theorem StOk.refl (I : StOk F G H s σ env) : After F G H G H s := .refl I.rel I.sub
end

/-! ### readings -/
abbrev RE (T : Type) := Env → T → Option (D × T)
abbrev RC (T : Type) := Env → T → Option (Cell × T)
abbrev RB (T : Type) := Env → T → Option (Bool × T)
abbrev RA (T : Type) := Env → T → Option (List D × T)

def tD (K : PySem.W.Frag) {T : Type} (r : RE T) : TE := fun σ H Q => ∃ (F : Fm K T) (G : Hp) (s : T) (env : Env) (d : D) (s' : T), StOk F G H s σ env ∧ r env s = some (d, s') ∧
  ∀ v G' H', After F G H G' H' s' → Rep K F.R G' v d → Q v H'
/-- borrowed: a shared value, or an own list of a slot -/
def RepB {K : PySem.W.Frag} {T : Type} (F : Fm K T) (G : Hp) (σ : L2.St) (env : Env) (v : V) (d : D) : Prop :=
  Rep K F.R G v d ∨ ∃ i : Nat, env[i]? = some (.ow d) ∧ σ[i]? = some (some v)
def tB' (K : PySem.W.Frag) {T : Type} (r : RE T) : TE := fun σ H Q => ∃ (F : Fm K T) (G : Hp) (s : T) (env : Env) (d : D) (s' : T), StOk F G H s σ env ∧ r env s = some (d, s') ∧
  ∀ v G' H', After F G H G' H' s' → RepB F G' σ env v d → Q v H'
/-- a value: shared, or one's own: a new list (not there at Hs), that nobody knows yet -/
def CellV {K : PySem.W.Frag} {T : Type} (F : Fm K T) (Hs G H : Hp) (v : V) : Cell → Prop
  | .no => False
  | .sh d => Rep K F.R G v d
  | .ow d => ∃ p, v = .ref p ∧ OwnAt F G H p d ∧ Hs p = none
def tV (K : PySem.W.Frag) {T : Type} (r : RC T) : TE := fun σ H Q => ∃ (F : Fm K T) (G : Hp) (s : T) (env : Env) (c : Cell) (s' : T), StOk F G H s σ env ∧ r env s = some (c, s') ∧
  ∀ v G' H', After F G H G' H' s' → CellV F H G' H' v c → Q v H'
def tT (K : PySem.W.Frag) {T : Type} (r : RB T) : TT := fun σ H Q => ∃ (F : Fm K T) (G : Hp) (s : T) (env : Env) (b : Bool) (s' : T), StOk F G H s σ env ∧ r env s = some (b, s') ∧
  ∀ G' H', After F G H G' H' s' → Q b H'
def tAs (K : PySem.W.Frag) {T : Type} (r : RA T) : TA := fun σ H Q => ∃ (F : Fm K T) (G : Hp) (s : T) (env : Env) (ds : List D) (s' : T), StOk F G H s σ env ∧ r env s = some (ds, s') ∧
  ∀ vs G' H', After F G H G' H' s' → Reps K F.R G' vs ds → Q vs H'
inductive RepBs {K : PySem.W.Frag} {T : Type} (F : Fm K T) (G : Hp) (σ : L2.St) (env : Env) : List V → List D → Prop
  | nil : RepBs F G σ env [] []
  | cons {v vs d ds} : RepB F G σ env v d → RepBs F G σ env vs ds → RepBs F G σ env (v :: vs) (d :: ds)
/-- arguments, borrowed (of built-ins, which keep nothing) -/
def tAb (K : PySem.W.Frag) {T : Type} (r : RA T) : TA := fun σ H Q => ∃ (F : Fm K T) (G : Hp) (s : T) (env : Env) (ds : List D) (s' : T), StOk F G H s σ env ∧ r env s = some (ds, s') ∧
  ∀ vs G' H', After F G H G' H' s' → RepBs F G' σ env vs ds → Q vs H'

def DE (X : Cx) {T : Type} (e : Expr) (r : RE T) : Prop := PE X e (tD X.K r)
def DB (X : Cx) {T : Type} (e : Expr) (r : RE T) : Prop := PE X e (tB' X.K r)
def DV (X : Cx) {T : Type} (e : Expr) (r : RC T) : Prop := PE X e (tV X.K r)
def DT (X : Cx) {T : Type} (e : Expr) (r : RB T) : Prop := PT X e (tT X.K r)
def DA (X : Cx) {T : Type} (es : List Expr) (r : RA T) : Prop := PA X es (tAs X.K r)
def DAb (X : Cx) {T : Type} (es : List Expr) (r : RA T) : Prop := PA X es (tAb X.K r)

theorem PE.weak {X : Cx} {e : Expr} {t t' : TE} (h : PE X e t) (w : ∀ σ H Q, t' σ H Q → t σ H Q) : PE X e t' := ⟨fun pins s σ H Q I hw => h.run pins s σ H Q I (w _ _ _ hw)⟩
theorem PT.weak {X : Cx} {e : Expr} {t t' : TT} (h : PT X e t) (w : ∀ σ H Q, t' σ H Q → t σ H Q) : PT X e t' := ⟨fun pins s σ H Q I hw => h.run pins s σ H Q I (w _ _ _ hw)⟩
theorem PW.weak {X : Cx} {e : Expr} {t t' : TT} (h : PW X e t) (w : ∀ σ H Q, t' σ H Q → t σ H Q) : PW X e t' := ⟨fun wh pins s σ H Q I hw => h.run wh pins s σ H Q I (w _ _ _ hw)⟩
theorem PA.weak {X : Cx} {e : List Expr} {t t' : TA} (h : PA X e t) (w : ∀ σ H Q, t' σ H Q → t σ H Q) : PA X e t' := ⟨fun po pins s σ H Q I hw => h.run po pins s σ H Q I (w _ _ _ hw)⟩
theorem PS.weak {X : Cx} {e : Stmt} {t t' : TS} (h : PS X e t) (w : ∀ D σ H, t' D σ H → t D σ H) : PS X e t' := ⟨fun pins s σ H D I hw => h.run pins s σ H D I (w _ _ _ hw)⟩
theorem PSs.weak {X : Cx} {e : List Stmt} {t t' : TS} (h : PSs X e t) (w : ∀ D σ H, t' D σ H → t D σ H) : PSs X e t' := ⟨fun pins s σ H D I hw => h.run pins s σ H D I (w _ _ _ hw)⟩

section
variable {X : Cx} {T : Type} {e : Expr} {r : RE T}
theorem DE.b (h : DE X e r) : DB X e r := PE.weak h fun σ H Q ⟨F, G, s, env, d, s', I, hr, q⟩ => ⟨F, G, s, env, d, s', I, hr, fun v G' H' A rp => q v G' H' A (.inl rp)⟩
def rSh (r : RE T) : RC T := fun env s => match r env s with
  | some (d, s') => some (.sh d, s')
  | none => none
theorem DE.v (h : DE X e r) : DV X e (rSh r) := PE.weak h fun σ H Q ⟨F, G, s, env, c, s', I, hr, q⟩ => by
  unfold rSh at hr
  split at hr
  · next d s1 e1 => cases hr; exact ⟨F, G, s, env, d, _, I, e1, fun v G' H' A rp => q v G' H' A rp⟩
  · cases hr
/-- an own value is given to all -/
def rDe (r : RC T) : RE T := fun env s => match r env s with
  | some (.sh d, s') => some (d, s')
  | some (.ow d, s') => some (d, s')
  | _ => none
theorem Own.rep {K : PySem.W.Frag} {R : Option Addr} {G G' H : Hp} {p : Addr} {d : D} (h : Own K R G H p d) (e : Sub G G') (k : ∀ o, H p = some o → G' p = some o) : Rep K R G' (.ref p) d := by
  cases d with
  | lst ds =>
    obtain ⟨vs, h1, h2⟩ := h
    exact .lst (k _ h1) (h2.mono e)
  | _ => exact h.elim
/-- p given to all -/
def give (G H : Hp) (p : Addr) : Hp := fun b => if b = p then H p else G b
theorem give_sub {G H : Hp} {p : Addr} (g : G p = none) : Sub G (give G H p) := fun b o e => by
  by_cases hb : b = p
  · subst hb; rw [g] at e; cases e
  · show (if b = p then H p else G b) = some o
    rw [if_neg hb]; exact e
theorem give_sub' {G H : Hp} {p : Addr} (sub : Sub G H) : Sub (give G H p) H := fun b o e => by
  by_cases hb : b = p
  · subst hb
    simpa [give] using e
  · have e' : (if b = p then H p else G b) = some o := e
    rw [if_neg hb] at e'; exact sub b o e'
theorem give_at {G H : Hp} {p : Addr} : give G H p p = H p := if_pos rfl
theorem give_ne {G H : Hp} {p b : Addr} (h : b ≠ p) : give G H p b = G b := if_neg h
theorem give_rel {K : PySem.W.Frag} {F : Fm K T} {G H : Hp} {s : T} {p : Addr} (rel : F.rel G H s) (g : G p = none) (w : F.W ≠ some p) : F.rel (give G H p) H s :=
  F.keep rel (give_sub g) fun b hb => ⟨by rw [give_ne (fun z : b = p => w (by rw [← z]; exact hb))]; exact (F.off rel b hb).1, fun o e => e⟩
theorem After.give {K : PySem.W.Frag} {F : Fm K T} {G H G' H' : Hp} {s : T} {p : Addr} {d : D} (A : After F G H G' H' s) (h : OwnAt F G' H' p d) (n : H p = none) :
    After F G H (DL.give G' H' p) H' s where
  sub := A.sub.tr (give_sub h.g)
  kp := A.kp
  fr := fun b q => by
    by_cases hb : b = p
    · exact .inr (hb ▸ n)
    · rw [give_ne hb] at q; exact A.fr b q
  sub' := give_sub' A.sub'
  rel := give_rel A.rel h.g h.w
theorem OwnAt.rep {K : PySem.W.Frag} {F : Fm K T} {G H : Hp} {p : Addr} {d : D} (h : OwnAt F G H p d) : Rep K F.R (give G H p) (.ref p) d :=
  h.own.rep (give_sub h.g) fun o e => by rw [give_at]; exact e
theorem DV.de {r : RC T} (h : DV X e r) : DE X e (rDe r) := PE.weak h fun σ H Q ⟨F, G, s, env, c, s', I, hr, q⟩ => by
  unfold rDe at hr
  split at hr
  · next d s1 e1 => cases hr; exact ⟨F, G, s, env, _, _, I, e1, fun v G' H' A rp => q v G' H' A rp⟩
  · next d s1 e1 =>
    cases hr
    refine ⟨F, G, s, env, _, _, I, e1, fun v G' H' A ⟨p, e2, h2, h3⟩ => ?_⟩
    subst e2
    exact q _ _ _ (A.give h2 h3) h2.rep
  · cases hr
end
end DL

end
section
set_option Elab.async false
set_option linter.all false
set_option maxRecDepth 100000
set_option autoImplicit false
namespace DL
open PySem PySem.Spec PyProof.Rows L2
section
variable {K : PySem.W.Frag} {T : Type} {F : Fm K T} {G H G1 H1 G2 H2 : Hp} {s s1 s2 : T} {σ : L2.St} {env : Env}
theorem After.none (A : After F G H G1 H1 s1) {p : Addr} (h : H1 p = none) (w : F.W ≠ some p) : H p = none := by
  cases e : H p with
  | none => rfl
  | some o => rw [A.kp p o e w] at h; cases h
theorem CellV.back (A : After F G H G1 H1 s1) {v : V} {c : Cell} (h : CellV F H1 G2 H2 v c) : CellV F H G2 H2 v c := by
  cases c with
  | no => exact h
  | sh d => exact h
  | ow d =>
    obtain ⟨p, e, h1, h2⟩ := h
    exact ⟨p, e, h1, A.none h2 h1.w⟩
theorem RepB.after {x : V} {d : D} (A : After F G H G1 H1 s1) (h : RepB F G σ env x d) : RepB F G1 σ env x d := h.elim (fun h => .inl (h.mono A.sub)) .inr
theorem RepB.cs {x : V} {d : D} (I : StOk F G H s σ env) (h : RepB F G σ env x d) : Rep K F.R G x d ∨ ∃ a ds vs, d = .lst ds ∧ x = .ref a ∧ H a = some (.lst vs) ∧ Reps K F.R G vs ds := by
  rcases h with h | ⟨i, e1, e2⟩
  · exact .inl h
  · obtain ⟨a, h1, h2⟩ := I.ow i d e1
    rw [e2] at h1
    cases h1
    cases d with
    | lst ds =>
      obtain ⟨vs, q1, q2⟩ := h2.own
      exact .inr ⟨a, ds, vs, rfl, rfl, q1, q2⟩
    | _ => exact h2.own.elim
theorem RepB.int {x : V} {i : Int} (I : StOk F G H s σ env) (h : RepB F G σ env x (.int i)) : x = .int i := by
  rcases h.cs I with h | ⟨_, _, _, e, _⟩
  · cases h; rfl
  · cases e
theorem RepB.str {x : V} {i : Str} (I : StOk F G H s σ env) (h : RepB F G σ env x (.str i)) : x = .str i := by
  rcases h.cs I with h | ⟨_, _, _, e, _⟩
  · cases h; rfl
  · cases e
theorem RepB.bl {x : V} {i : Bool} (I : StOk F G H s σ env) (h : RepB F G σ env x (.bl i)) : x = .bl i := by
  rcases h.cs I with h | ⟨_, _, _, e, _⟩
  · cases h; rfl
  · cases e
theorem RepB.non {x : V} (I : StOk F G H s σ env) (h : RepB F G σ env x .non) : x = .non := by
  rcases h.cs I with h | ⟨_, _, _, e, _⟩
  · cases h; rfl
  · cases e
theorem RepB.tup {x : V} {ds : List D} (I : StOk F G H s σ env) (h : RepB F G σ env x (.tup ds)) : ∃ a vs, x = .ref a ∧ G a = some (.tup vs) ∧ Reps K F.R G vs ds := by
  rcases h.cs I with h | ⟨_, _, _, e, _⟩
  · cases h with
    | tup a b => exact ⟨_, _, rfl, a, b⟩
  · cases e
theorem RepB.lst {x : V} {ds : List D} (I : StOk F G H s σ env) (h : RepB F G σ env x (.lst ds)) : ∃ a vs, x = .ref a ∧ H a = some (.lst vs) ∧ Reps K F.R G vs ds := by
  rcases h.cs I with h | ⟨a, ds', vs, e, e2, e3, e4⟩
  · cases h with
    | lst a b => exact ⟨_, _, rfl, I.sub _ _ a, b⟩
  · cases e; exact ⟨a, vs, e2, e3, e4⟩
/-- a new object at p, given to all -/
theorem new_sh {o : HO} {p : Addr} (I : StOk F G H s σ env) (n : H p = Option.none) : After F G H (upd G p o) (upd H p o) s where
  sub := fun b u e => by
    by_cases hb : b = p
    · subst hb; rw [I.sub _ _ e] at n; cases n
    · rw [upd_ne hb]; exact e
  kp := fun b u e _ => by rw [upd_ne (ne_of_none e n)]; exact e
  fr := fun b q => by
    by_cases hb : b = p
    · exact .inr (hb ▸ n)
    · rw [upd_ne hb] at q; exact .inl q
  sub' := fun b u e => by
    by_cases hb : b = p
    · subst hb; rw [upd_same] at e ⊢; exact e
    · rw [upd_ne hb] at e ⊢; exact I.sub b u e
  rel := F.keep I.rel (fun b u e => by
    by_cases hb : b = p
    · subst hb; rw [I.sub _ _ e] at n; cases n
    · rw [upd_ne hb]; exact e) fun b hb => by
      obtain ⟨h1, h2⟩ := F.off I.rel b hb
      have hbp : b ≠ p := fun z => h2 (z ▸ n)
      exact ⟨by rw [upd_ne hbp]; exact h1, fun u e => by rw [upd_ne hbp]; exact e⟩
/-- a new object at p, kept -/
theorem new_ow {o : HO} {p : Addr} (I : StOk F G H s σ env) (n : H p = Option.none) : After F G H G (upd H p o) s where
  sub := fun _ _ e => e
  kp := fun b u e _ => by rw [upd_ne (ne_of_none e n)]; exact e
  fr := fun b q => .inl q
  sub' := fun b u e => by rw [upd_ne (ne_of_none (I.sub _ _ e) n)]; exact I.sub b u e
  rel := F.keep I.rel (fun _ _ e => e) fun b hb => by
      obtain ⟨h1, h2⟩ := F.off I.rel b hb
      have hbp : b ≠ p := fun z => h2 (z ▸ n)
      exact ⟨h1, fun u e => by rw [upd_ne hbp]; exact e⟩
theorem none_of_sub {G H : Hp} {p : Addr} (e : Sub G H) (n : H p = Option.none) : G p = Option.none := by
  cases q : G p with
  | none => rfl
  | some o => rw [e _ _ q] at n; cases n
theorem StOk.w_ne (I : StOk F G H s σ env) {p : Addr} (n : H p = Option.none) : F.W ≠ some p := fun e => (F.off I.rel p e).2 n
theorem StOk.h0_none (I : StOk F G H s σ env) {p : Addr} (n : H p = Option.none) : F.H0 p = Option.none := by
  cases q : F.H0 p with
  | none => rfl
  | some o => rw [I.h0 p o q (I.w_ne n)] at n; cases n
theorem new_own {vs : List V} {ds : List D} {p : Addr} (I : StOk F G H s σ env) (n : H p = Option.none) (r : Reps K F.R G vs ds) : CellV F H G (upd H p (.lst vs)) (.ref p) (.ow (.lst ds)) :=
  ⟨p, rfl, ⟨none_of_sub I.sub n, I.h0_none n, I.w_ne n, vs, upd_same, r⟩, n⟩
end

/-! ### names, constants -/
section
variable {X : Cx} {T : Type} {pos : Pos}
def rVar (T : Type) (i : Nat) : RE T := fun env s => match env[i]? with
  | some (.sh d) => some (d, s)
  | _ => none
def rVarB (T : Type) (i : Nat) : RE T := fun env s => match env[i]? with
  | some (.sh d) => some (d, s)
  | some (.ow d) => some (d, s)
  | _ => none
theorem de_var {e : Expr} {i : Nat} (h : PE X e (tVar i)) : DE X e (rVar T i) := PE.weak h fun σ H Q ⟨F, G, s, env, d, s', I, hr, q⟩ => by
  unfold rVar at hr
  split at hr
  · next d' e1 =>
    cases hr
    obtain ⟨v, h1, h2⟩ := I.sh i d e1
    exact ⟨v, h1, q v G H I.refl h2⟩
  · cases hr
theorem db_var {e : Expr} {i : Nat} (h : PE X e (tVar i)) : DB X e (rVarB T i) := PE.weak h fun σ H Q ⟨F, G, s, env, d, s', I, hr, q⟩ => by
  unfold rVarB at hr
  split at hr
  · next d' e1 =>
    cases hr
    obtain ⟨v, h1, h2⟩ := I.sh i d e1
    exact ⟨v, h1, q v G H I.refl (.inl h2)⟩
  · next d' e1 =>
    cases hr
    obtain ⟨a, h1, h2⟩ := I.ow i d e1
    exact ⟨_, h1, q _ G H I.refl (.inr ⟨i, e1, h1⟩)⟩
  · cases hr
def rC (T : Type) (d : D) : RE T := fun _ s => some (d, s)
theorem de_c {e : Expr} {v : V} {d : D} (h : PE X e (tC v)) (r : ∀ K R G, Rep K R G v d) : DE X e (rC T d) := PE.weak h fun σ H Q ⟨F, G, s, env, d', s', I, hr, q⟩ => by
  cases hr
  exact q v G H I.refl (r _ _ _)
theorem de_int {i j} : DE X (.Constant (.int i) j pos) (rC T (.int i)) := de_c pe_int fun _ _ _ => .int _
theorem de_bl {b j} : DE X (.Constant (.bool b) j pos) (rC T (.bl b)) := de_c pe_bl fun _ _ _ => .bl _
theorem de_non {j} : DE X (.Constant .none j pos) (rC T .non) := de_c pe_non fun _ _ _ => .non
theorem de_str {x j} : DE X (.Constant (.str x) j pos) (rC T (.str x)) := de_c pe_str fun _ _ _ => .str _

/-! ### operations on two values -/
def OpD (X : Cx) (f : Value → Value → Sem Value) (g : D → D → Option Cell) : Prop := ∃ r : R2, OpR X f r ∧
  ∀ {T : Type} (F : Fm X.K T) (G H : Hp) (s : T) (σ : L2.St) (env : Env) (x y : V) (d e : D) (c : Cell), StOk F G H s σ env → RepB F G σ env x d → RepB F G σ env y e → g d e = some c →
    ∀ Q : VK, (∀ v G' H', After F G H G' H' s → CellV F H G' H' v c → Q v H') → r x y H Q
theorem OpD.or {f : Value → Value → Sem Value} {g g' : D → D → Option Cell} (h : OpD X f g) (h' : OpD X f g') : OpD X f (fun d e => (g d e).or (g' d e)) := by
  obtain ⟨r, h1, h2⟩ := h
  obtain ⟨r', h1', h2'⟩ := h'
  refine ⟨_, h1.or h1', fun F G H s σ env x y d e c I rx ry hg Q q => ?_⟩
  have hg : (g d e).or (g' d e) = some c := hg
  cases hd : g d e with
  | some c' =>
    rw [hd] at hg
    cases hg
    exact .inl (h2 F G H s σ env x y d e _ I rx ry hd Q q)
  | none =>
    rw [hd] at hg
    exact .inr (h2' F G H s σ env x y d e _ I rx ry hg Q q)
theorem OpD.eq {f : Value → Value → Sem Value} {g g' : D → D → Option Cell} (h : OpD X f g) (e : ∀ a b, g' a b = g a b) : OpD X f g' := by
  have : g' = g := funext fun a => funext fun b => e a b
  rw [this]; exact h
def gI (p : Int → Int → Option D) : D → D → Option Cell
  | .int i, .int j => (p i j).map Cell.sh
  | _, _ => none
theorem opd_i {f : Value → Value → Sem Value} {C : Int → Int → Prop} {g : Int → Int → V} {p : Int → Int → Option D} (h : OpR X f (rI C g)) (hp : ∀ i j d, p i j = some d → C i j ∧ ∀ K R G, Rep K R G (g i j) d) : OpD X f (gI p) := by
  refine ⟨_, h, fun F G H s σ env x y d e c I rx ry hg Q q => ?_⟩
  unfold gI at hg
  split at hg
  · next i j =>
    cases hx : p i j with
    | none => rw [hx] at hg; cases hg
    | some d =>
      rw [hx] at hg
      cases hg
      obtain ⟨h1, h2⟩ := hp i j d hx
      exact ⟨i, j, rx.int I, ry.int I, h1, q _ G H I.refl (h2 _ _ _)⟩
  · cases hg
theorem opd_i0 {f : Value → Value → Sem Value} {g : Int → Int → V} {p : Int → Int → D} (h : OpR X f (rI0 g)) (hp : ∀ i j K R G, Rep K R G (g i j) (p i j)) : OpD X f (gI fun i j => some (p i j)) := by
  refine ⟨_, h, fun F G H s σ env x y d e c I rx ry hg Q q => ?_⟩
  unfold gI at hg
  split at hg
  · next i j =>
    cases hg
    exact ⟨i, j, rx.int I, ry.int I, q _ G H I.refl (hp _ _ _ _ _)⟩
  · cases hg
def ltI (i j : Int) : Bool := decide (i < j)
def leI (i j : Int) : Bool := decide (i ≤ j)
def smallI (i : Int) : Bool := decide (-(2 ^ 64) < i) && decide (i < 2 ^ 64)
def pAdd : Int → Int → Option D := fun i j => some (.int (i + j))
def pSub : Int → Int → Option D := fun i j => some (.int (i - j))
def pMul : Int → Int → Option D := fun i j => if smallI i || smallI j then some (.int (i * j)) else none
def pFdiv : Int → Int → Option D := fun i j => if j == 0 || !decide (j.natAbs < 1073741824) then none else some (.int (i.fdiv j))
def pMod : Int → Int → Option D := fun i j => if j == 0 then none else some (.int (i.fmod j))
def okPow (i j : Int) : Bool := leI 0 j && leI j 1000000 && decide (i.natAbs < 2 ^ 64)
def pPow : Int → Int → Option D := fun i j => if okPow i j then some (.int (i ^ j.toNat)) else none
def pShl : Int → Int → Option D := fun i j => if okPow i j then some (.int (i * 2 ^ j.toNat)) else none
def pShr : Int → Int → Option D := fun i j => if leI 0 j then some (.int (i / 2 ^ j.toNat)) else none
theorem od_sub : OpD X (binaryOp .Sub) (gI pSub) := opd_i0 op_sub fun _ _ _ _ _ => .int _
theorem od_mulI : OpD X (binaryOp .Mult) (gI pMul) := opd_i op_mul fun i j d h => by
  unfold pMul at h
  split at h
  · next hc =>
    cases h
    refine ⟨?_, fun _ _ _ => .int _⟩
    simp only [smallI, Bool.or_eq_true, Bool.and_eq_true, decide_eq_true_eq] at hc
    exact hc
  · cases h
theorem od_fdiv : OpD X (binaryOp .FloorDiv) (gI pFdiv) := opd_i op_fdivN fun i j d h => by
  unfold pFdiv at h
  split at h
  · cases h
  · next hc =>
    cases h
    refine ⟨?_, fun _ _ _ => .int _⟩
    simp at hc
    exact hc
theorem od_mod : OpD X (binaryOp .Mod) (gI pMod) := opd_i op_modN fun i j d h => by
  unfold pMod at h
  split at h
  · cases h
  · next hc =>
    cases h
    refine ⟨?_, fun _ _ _ => .int _⟩
    simpa using hc
theorem okPow_ok {i j : Int} (h : okPow i j = true) : CPow i j := by
  simp only [okPow, leI, Bool.and_eq_true, decide_eq_true_eq] at h
  exact ⟨h.1.1, h.1.2, h.2⟩
theorem od_pow : OpD X (binaryOp .Pow) (gI pPow) := opd_i op_pow fun i j d h => by
  unfold pPow at h
  split at h
  · next hc => cases h; exact ⟨okPow_ok hc, fun _ _ _ => .int _⟩
  · cases h
theorem od_shl : OpD X (binaryOp .LShift) (gI pShl) := opd_i op_shl fun i j d h => by
  unfold pShl at h
  split at h
  · next hc => cases h; exact ⟨okPow_ok hc, fun _ _ _ => .int _⟩
  · cases h
theorem od_shr : OpD X (binaryOp .RShift) (gI pShr) := opd_i op_shr fun i j d h => by
  unfold pShr at h
  split at h
  · next hc => cases h; exact ⟨by simpa [leI] using hc, fun _ _ _ => .int _⟩
  · cases h
theorem od_and : OpD X (binaryOp .BitAnd) (gI fun i j => some (.int (Builtin.bitAnd i j))) := opd_i0 op_and fun _ _ _ _ _ => .int _
theorem od_or : OpD X (binaryOp .BitOr) (gI fun i j => some (.int (Builtin.bitOr i j))) := opd_i0 op_or fun _ _ _ _ _ => .int _
theorem od_xor : OpD X (binaryOp .BitXor) (gI fun i j => some (.int (Builtin.bitXor i j))) := opd_i0 op_xor fun _ _ _ _ _ => .int _
theorem od_lt : OpD X (compareOp .Lt) (gI fun i j => some (.bl (ltI i j))) := opd_i0 op_lt fun _ _ _ _ _ => .bl _
theorem od_le : OpD X (compareOp .LtE) (gI fun i j => some (.bl (leI i j))) := opd_i0 op_le fun _ _ _ _ _ => .bl _
theorem od_gt : OpD X (compareOp .Gt) (gI fun i j => some (.bl (ltI j i))) := opd_i0 op_gt fun _ _ _ _ _ => .bl _
theorem od_ge : OpD X (compareOp .GtE) (gI fun i j => some (.bl (leI j i))) := opd_i0 op_ge fun _ _ _ _ _ => .bl _

/-- the size that a list or a tuple may have -/
def most : Nat := 1000000
theorem most_le {n : Nat} (h : n ≤ most) : n ≤ sizeLine := by rw [sizeLine_eq]; unfold most at h; omega
theorem most_lt {n : Nat} (h : n < most) : n < sizeLine := by rw [sizeLine_eq]; unfold most at h; omega
def gCatL : D → D → Option Cell
  | .lst a, .lst b => if a.length + b.length ≤ most then some (.ow (.lst (a ++ b))) else none
  | _, _ => none
theorem od_catL : OpD X (binaryOp .Add) gCatL := by
  refine ⟨_, op_cat, fun F G H s σ env x y d e c I rx ry hg Q q => ?_⟩
  unfold gCatL at hg
  split at hg
  · next a b =>
    split at hg
    · next hc =>
      cases hg
      obtain ⟨p, vs, rfl, hp, rp⟩ := rx.lst I
      obtain ⟨p', us, rfl, hp', rp'⟩ := ry.lst I
      refine ⟨p, p', vs, us, rfl, rfl, hp, hp', by rw [rp.length, rp'.length]; exact most_le hc, fun z nz => ?_⟩
      exact q _ _ _ (new_ow I nz) (new_own I nz (rp.append rp'))
    · cases hg
  · cases hg
def gCatT : D → D → Option Cell
  | .tup a, .tup b => if a.length + b.length ≤ most then some (.sh (.tup (a ++ b))) else none
  | _, _ => none
def gRepL : D → D → Option Cell
  | .lst a, .int k => if leI (-1000000) k && leI k 1000000 && decide (a.length * k.toNat ≤ most) then some (.ow (.lst (List.replicate k.toNat a).flatten)) else none
  | _, _ => none
theorem od_repL : OpD X (binaryOp .Mult) gRepL := by
  refine ⟨_, op_rep, fun F G H s σ env x y d e c I rx ry hg Q q => ?_⟩
  unfold gRepL at hg
  split at hg
  · next a k =>
    split at hg
    · next hc =>
      cases hg
      simp only [leI, Bool.and_eq_true, decide_eq_true_eq] at hc
      obtain ⟨p, vs, rfl, hp, rp⟩ := rx.lst I
      obtain rfl := ry.int I
      refine ⟨p, k, vs, rfl, rfl, hp, by omega, by omega, by rw [rp.length]; exact most_le hc.2, fun z nz => ?_⟩
      exact q _ _ _ (new_ow I nz) (new_own I nz (rp.rep _))
    · cases hg
  · cases hg
def gAddS : D → D → Option Cell
  | .str a, .str b => if a.length + b.length ≤ most then some (.sh (.str (a ++ b))) else none
  | _, _ => none
theorem od_addS : OpD X (binaryOp .Add) gAddS := by
  refine ⟨_, op_add_str, fun F G H s σ env x y d e c I rx ry hg Q q => ?_⟩
  unfold gAddS at hg
  split at hg
  · next a b =>
    split at hg
    · next hc =>
      cases hg
      exact ⟨a, b, rx.str I, ry.str I, most_le hc, q _ _ _ I.refl (.str _)⟩
    · cases hg
  · cases hg

/-- BinOp -/
def rBin {T : Type} (g : D → D → Option Cell) (ra rb : RE T) : RC T := fun env s => match ra env s with
  | some (d, s1) => match rb env s1 with
    | some (e, s2) => match g d e with
      | some c => some (c, s2)
      | none => none
    | none => none
  | none => none
theorem rBin_inv {g : D → D → Option Cell} {ra rb : RE T} {env : Env} {s s' : T} {c : Cell} (h : rBin g ra rb env s = some (c, s')) : ∃ d s1 e, ra env s = some (d, s1) ∧ rb env s1 = some (e, s') ∧ g d e = some c := by
  unfold rBin at h
  split at h
  · next d s1 e1 =>
    split at h
    · next e s2 e2 =>
      split at h
      · next c' e3 => cases h; exact ⟨d, s1, e, e1, e2, e3⟩
      · cases h
    · cases h
  · cases h
/-- what the two sides of an operation come to -/
theorem two_ok {K : PySem.W.Frag} {f : Value → Value → Sem Value} {r : R2} {g : D → D → Option Cell} {ra rb : RE T} {F : Fm K T} {G H : Hp} {s s' : T} {σ : L2.St} {env : Env} {c : Cell} {Q : VK}
    (hg : ∀ (G H : Hp) (s : T) (x y : V) (d e : D) (c : Cell), StOk F G H s σ env → RepB F G σ env x d → RepB F G σ env y e → g d e = some c →
      ∀ Q : VK, (∀ v G' H', After F G H G' H' s → CellV F H G' H' v c → Q v H') → r x y H Q)
    (I : StOk F G H s σ env) (hr : rBin g ra rb env s = some (c, s')) (q : ∀ v G' H', After F G H G' H' s' → CellV F H G' H' v c → Q v H') :
    tB' K ra σ H fun x H1 => tB' K rb σ H1 fun y H2 => r x y H2 Q := by
  obtain ⟨d, s1, e, e1, e2, e3⟩ := rBin_inv hr
  refine ⟨F, G, s, env, d, s1, I, e1, fun x G1 H1 A1 x1 => ?_⟩
  have I1 := I.after A1
  refine ⟨F, G1, s1, env, e, s', I1, e2, fun y G2 H2 A2 y2 => ?_⟩
  have I2 := I1.after A2
  exact hg G2 H2 s' x y d e c I2 (x1.after A2) y2 e3 Q fun v G3 H3 A3 h3 => q v G3 H3 ((A1.trans A2).trans A3) (CellV.back (A1.trans A2) h3)
theorem dv_bin {op : Operator} {a b : Expr} {g : D → D → Option Cell} {ra rb : RE T} (ho : OpD X (binaryOp op) g) (ha : DB X a ra) (hb : DB X b rb) : DV X (.BinOp a op b pos) (rBin g ra rb) := by
  obtain ⟨r, ho, hg⟩ := ho
  exact PE.weak (pe_op ho ha hb) fun σ H Q ⟨F, G, s, env, c, s', I, hr, q⟩ => two_ok (f := binaryOp op) (fun G H s x y d e c => hg F G H s σ env x y d e c) I hr q
theorem dv_cmp {op : CmpOp} {a b : Expr} {g : D → D → Option Cell} {ra rb : RE T} (ho : OpD X (compareOp op) g) (ha : DB X a ra) (hb : DB X b rb) (hm : behindInMarks op b = false) : DV X (.Compare a [op] [b] pos) (rBin g ra rb) := by
  obtain ⟨r, ho, hg⟩ := ho
  exact PE.weak (pe_cmpR ho ha hb hm) fun σ H Q ⟨F, G, s, env, c, s', I, hr, q⟩ => two_ok (f := compareOp op) (fun G H s x y d e c => hg F G H s σ env x y d e c) I hr q
/-- a truth value -/
def rTruth {T : Type} (r : RC T) : RB T := fun env s => match r env s with
  | some (.sh (.bl b), s') => some (b, s')
  | _ => none
theorem rTruth_inv {r : RC T} {env : Env} {s s' : T} {b : Bool} (h : rTruth r env s = some (b, s')) : r env s = some (.sh (.bl b), s') := by
  unfold rTruth at h
  split at h
  · next b' s1 e1 => cases h; exact e1
  · cases h
theorem dt_cmp {op : CmpOp} {a b : Expr} {g : D → D → Option Cell} {ra rb : RE T} (ho : OpD X (compareOp op) g) (ha : DB X a ra) (hb : DB X b rb) (hm : behindInMarks op b = false) : DT X (.Compare a [op] [b] pos) (rTruth (rBin g ra rb)) := by
  obtain ⟨r, ho, hg⟩ := ho
  refine PT.weak (pt_cmpR ho ha hb hm) fun σ H Q ⟨F, G, s, env, c, s', I, hr, q⟩ => two_ok (f := compareOp op) (fun G H s x y d e c => hg F G H s σ env x y d e c) I (rTruth_inv hr) fun v G' H' A h => ?_
  have h' : Rep X.K F.R G' v (.bl c) := h
  cases h'
  exact ⟨c, rfl, q G' H' A⟩
theorem dt_val {e : Expr} {r : RE T} (h : DE X e r) (he : ∀ whole, isTrue e X.env whole = (do let v ← whole; standAt e.pos; holding [v] (truthy v)) := by intro _; rfl) : DT X e (rTruth (rSh r)) :=
  PT.weak (pt_val h.v he) fun σ H Q ⟨F, G, s, env, c, s', I, hr, q⟩ => ⟨F, G, s, env, _, s', I, rTruth_inv hr, fun v G' H' A h => by
    have h' : Rep X.K F.R G' v (.bl c) := h
    cases h'
    exact ⟨c, rfl, q G' H' A⟩⟩
end
end DL

end
section
set_option Elab.async false
set_option linter.all false
set_option maxRecDepth 100000
set_option autoImplicit false
namespace DL
open PySem PySem.Spec PyProof.Rows L2

/-! ### equality of data -/
mutual
def D.py : D → PyData
  | .non => .none
  | .bl b => .bool b
  | .int i => .int i
  | .str x => .str x
  | .tup l => .tuple (D.pys l)
  | .lst l => .list (D.pys l)
  | .wd => .dict []
def D.pys : List D → List PyData
  | [] => []
  | d :: r => D.py d :: D.pys r
end
/-- no deeper than n, no wd -/
def D.ok : Nat → D → Bool
  | _, .non => true
  | _, .bl _ => true
  | _, .int _ => true
  | _, .str _ => true
  | 0, _ => false
  | n + 1, .tup l => l.all (D.ok n)
  | n + 1, .lst l => l.all (D.ok n)
  | _, .wd => false
def all2 (f : D → D → Bool) : List D → List D → Bool
  | [], [] => true
  | x :: r, y :: s => f x y && all2 f r s
  | _, _ => false
def D.eq : Nat → D → D → Bool
  | _, .non, .non => true
  | _, .bl a, .bl b => a == b
  | _, .bl a, .int j => (if a then 1 else 0) == j
  | _, .int i, .bl b => i == (if b then 1 else 0)
  | _, .int i, .int j => i == j
  | _, .str x, .str y => x == y
  | n + 1, .tup a, .tup b => all2 (D.eq n) a b
  | n + 1, .lst a, .lst b => all2 (D.eq n) a b
  | _, _, _ => false
/-- how deep data may be that are compared -/
def deep : Nat := 20
theorem ok_plain : ∀ (n : Nat) (d : D), d.ok n = true → d.py.plain = true ∧ d.py.depth ≤ n := by
  intro n
  induction n with
  | zero =>
    intro d h
    cases d <;> first | exact ⟨rfl, Nat.le_refl _⟩ | cases h
  | succ n ih =>
    have all : ∀ l : List D, l.all (D.ok n) = true → PyData.plainAll (D.pys l) = true ∧ PyData.depthAll (D.pys l) ≤ n := by
      intro l
      induction l with
      | nil => intro _; exact ⟨rfl, Nat.zero_le _⟩
      | cons d r ihr =>
        intro h
        rw [List.all_cons, Bool.and_eq_true] at h
        obtain ⟨h1, h2⟩ := ih d h.1
        obtain ⟨h3, h4⟩ := ihr h.2
        refine ⟨?_, ?_⟩
        · show (PyData.plain (D.py d) && PyData.plainAll (D.pys r)) = true
          rw [h1, h3]; rfl
        · show max (PyData.depth (D.py d)) (PyData.depthAll (D.pys r)) ≤ n
          omega
    intro d h
    cases d with
    | tup l =>
      obtain ⟨h1, h2⟩ := all l h
      exact ⟨h1, by show PyData.depthAll (D.pys l) + 1 ≤ n + 1; omega⟩
    | lst l =>
      obtain ⟨h1, h2⟩ := all l h
      exact ⟨h1, by show PyData.depthAll (D.pys l) + 1 ≤ n + 1; omega⟩
    | wd => cases h
    | _ => exact ⟨rfl, Nat.zero_le _⟩
theorem eq_py : ∀ (n : Nat) (d e : D), d.ok n = true → e.ok n = true → PyData.eqv d.py e.py = D.eq n d e := by
  intro n
  induction n with
  | zero =>
    intro d e h h'
    cases d <;> cases e <;> first | rfl | cases h | cases h'
  | succ n ih =>
    have all : ∀ l m : List D, l.all (D.ok n) = true → m.all (D.ok n) = true → PyData.eqvAll (D.pys l) (D.pys m) = all2 (D.eq n) l m := by
      intro l
      induction l with
      | nil => intro m _ _; cases m <;> rfl
      | cons d r ihr =>
        intro m h h'
        cases m with
        | nil => rfl
        | cons e s =>
          rw [List.all_cons, Bool.and_eq_true] at h h'
          show (PyData.eqv (D.py d) (D.py e) && PyData.eqvAll (D.pys r) (D.pys s)) = (D.eq n d e && all2 (D.eq n) r s)
          rw [ih d e h.1 h'.1, ihr s h.2 h'.2]
    intro d e h h'
    cases d with
    | tup l =>
      cases e with
      | tup m => exact all l m h h'
      | wd => cases h'
      | _ => rfl
    | lst l =>
      cases e with
      | lst m => exact all l m h h'
      | wd => cases h'
      | _ => rfl
    | wd => cases h
    | _ => cases e <;> first | rfl | cases h'
section
variable {K : PySem.W.Frag} {R : Option Addr} {G H : Hp}
mutual
theorem Rep.dp (e : Sub G H) : ∀ (d : D) (n : Nat) (v : V), d.ok n = true → Rep K R G v d → Dp K H v d.py
  | .non, _, _, _, h => by cases h; exact .non
  | .bl _, _, _, _, h => by cases h; exact .bl _
  | .int _, _, _, _, h => by cases h; exact .int _
  | .str _, _, _, _, h => by cases h; exact .str _
  | .tup l, n, _, ho, h => by
    cases n with
    | zero => cases ho
    | succ n =>
      cases h with
      | tup a b => exact .tup (.inl (.inl (e _ _ a))) (Reps.dp e l n _ ho b)
  | .lst l, n, _, ho, h => by
    cases n with
    | zero => cases ho
    | succ n =>
      cases h with
      | lst a b => exact .lst (.inl (.inl (e _ _ a))) (Reps.dp e l n _ ho b)
  | .wd, n, _, ho, _ => by cases n <;> cases ho
theorem Reps.dp (e : Sub G H) : ∀ (l : List D) (n : Nat) (vs : List V), l.all (D.ok n) = true → Reps K R G vs l → DpAll K H vs (D.pys l)
  | [], _, _, _, h => by cases h; exact .nil
  | d :: l, n, _, ho, h => by
    rw [List.all_cons, Bool.and_eq_true] at ho
    cases h with
    | cons a b => exact .cons (Rep.dp e d n _ ho.1 a) (Reps.dp e l n _ ho.2 b)
end
end
section
variable {K : PySem.W.Frag} {T : Type} {F : Fm K T} {G H : Hp} {s : T} {σ : L2.St} {env : Env}
theorem RepB.dp {x : V} {d : D} {n : Nat} (I : StOk F G H s σ env) (h : RepB F G σ env x d) (ho : d.ok n = true) : Dp K H x d.py := by
  rcases h.cs I with h | ⟨a, ds, vs, rfl, rfl, h1, h2⟩
  · exact h.dp I.sub d n x ho
  · cases n with
    | zero => cases ho
    | succ n => exact .lst (.inl (.inl h1)) (h2.dp I.sub ds n _ ho)
end
section
variable {X : Cx} {T : Type} {pos : Pos}
def rEqP (K : PySem.W.Frag) : R2 := fun x y H Q => ∃ d e, Dp K H x d ∧ Dp K H y e ∧ d.plain = true ∧ e.plain = true ∧ d.depth ≤ 20 ∧ Q (.bl (PyData.eqv d e)) H
def rNeP (K : PySem.W.Frag) : R2 := fun x y H Q => ∃ d e, Dp K H x d ∧ Dp K H y e ∧ d.plain = true ∧ e.plain = true ∧ d.depth ≤ 20 ∧ Q (.bl (!PyData.eqv d e)) H
theorem op_eqP (hu : X.A.units + 64 < cLine) : OpR X (compareOp .Eq) (rEqP X.K) := by
  intro pins s σ H x y v u Q I rx ry h
  obtain ⟨d, e, hd, he, sd, se, hz, q⟩ := h
  obtain ⟨as, r1⟩ := Dp.reads I d x v hd rx
  obtain ⟨bs, r2⟩ := Dp.reads I e y u he ry
  exact SeqAt.eq_plain r1 r2 sd se (by omega) ⟨.bl _, H, I, rfl, q⟩
theorem op_neP (hu : X.A.units + 64 < cLine) : OpR X (compareOp .NotEq) (rNeP X.K) := by
  intro pins s σ H x y v u Q I rx ry h
  obtain ⟨d, e, hd, he, sd, se, hz, q⟩ := h
  obtain ⟨as, r1⟩ := Dp.reads I d x v hd rx
  obtain ⟨bs, r2⟩ := Dp.reads I e y u he ry
  exact SeqAt.ne_plain r1 r2 sd se (by omega) ⟨.bl _, H, I, rfl, q⟩
def gEq : D → D → Option Cell := fun d e => if d.ok deep && e.ok deep then some (.sh (.bl (D.eq deep d e))) else none
def gNe : D → D → Option Cell := fun d e => if d.ok deep && e.ok deep then some (.sh (.bl (!D.eq deep d e))) else none
theorem od_eq (hu : X.A.units + 64 < cLine) : OpD X (compareOp .Eq) gEq := by
  refine ⟨_, op_eqP hu, fun F G H s σ env x y d e c I rx ry hg Q q => ?_⟩
  unfold gEq at hg
  split at hg
  · next hc =>
    rw [Bool.and_eq_true] at hc
    cases hg
    obtain ⟨h1, h2⟩ := ok_plain _ d hc.1
    refine ⟨d.py, e.py, rx.dp I hc.1, ry.dp I hc.2, h1, (ok_plain _ e hc.2).1, h2, ?_⟩
    rw [eq_py deep d e hc.1 hc.2]
    exact q _ G H I.refl (.bl _)
  · cases hg
theorem od_ne (hu : X.A.units + 64 < cLine) : OpD X (compareOp .NotEq) gNe := by
  refine ⟨_, op_neP hu, fun F G H s σ env x y d e c I rx ry hg Q q => ?_⟩
  unfold gNe at hg
  split at hg
  · next hc =>
    rw [Bool.and_eq_true] at hc
    cases hg
    obtain ⟨h1, h2⟩ := ok_plain _ d hc.1
    refine ⟨d.py, e.py, rx.dp I hc.1, ry.dp I hc.2, h1, (ok_plain _ e hc.2).1, h2, ?_⟩
    rw [eq_py deep d e hc.1 hc.2]
    exact q _ G H I.refl (.bl _)
  · cases hg

/-! ### x in c, for lists and tuples -/
def rInP (K : PySem.W.Frag) (neg : Bool) : R2 := fun x y H Q => ∃ d ds, Dp K H x d ∧ (Dp K H y (.list ds) ∨ Dp K H y (.tuple ds)) ∧ d.plain = true ∧ PyData.plainAll ds = true ∧ d.depth ≤ 20 ∧
  Q (.bl (if neg then !(ds.any fun z => PyData.eqv z d) else ds.any fun z => PyData.eqv z d)) H
theorem op_inP (hu : X.A.units + 64 < cLine) : OpR X (compareOp .In) (rInP X.K false) := by
  intro pins s σ H x y v u Q I rx ry h
  obtain ⟨d, ds, hd, he, sd, se, hz, q⟩ := h
  obtain ⟨as, r1⟩ := Dp.reads I d x v hd rx
  rcases he with he | he
  · obtain ⟨bs, r2⟩ := Dp.reads I _ y u he ry
    exact SeqAt.in_list_data r2 r1 se sd (by omega) ⟨.bl _, H, I, rfl, q⟩
  · obtain ⟨bs, r2⟩ := Dp.reads I _ y u he ry
    exact SeqAt.in_tuple_data r2 r1 se sd (by omega) ⟨.bl _, H, I, rfl, q⟩
theorem op_notInP (hu : X.A.units + 64 < cLine) : OpR X (compareOp .NotIn) (rInP X.K true) := by
  intro pins s σ H x y v u Q I rx ry h
  obtain ⟨d, ds, hd, he, sd, se, hz, q⟩ := h
  obtain ⟨as, r1⟩ := Dp.reads I d x v hd rx
  rcases he with he | he
  · obtain ⟨bs, r2⟩ := Dp.reads I _ y u he ry
    exact SeqAt.notIn_list_data r2 r1 se sd (by omega) ⟨.bl _, H, I, rfl, q⟩
  · obtain ⟨bs, r2⟩ := Dp.reads I _ y u he ry
    exact SeqAt.notIn_tuple_data r2 r1 se sd (by omega) ⟨.bl _, H, I, rfl, q⟩
def inD (d : D) : List D → Bool
  | [] => false
  | e :: r => D.eq deep e d || inD d r
theorem any_py (d : D) (hd : d.ok deep = true) : ∀ l : List D, l.all (D.ok deep) = true → ((D.pys l).any fun z => PyData.eqv z d.py) = inD d l
  | [], _ => rfl
  | e :: l, h => by
    rw [List.all_cons, Bool.and_eq_true] at h
    show (PyData.eqv e.py d.py || (D.pys l).any fun z => PyData.eqv z d.py) = (D.eq deep e d || inD d l)
    rw [eq_py deep e d h.1 hd, any_py d hd l h.2]
def D.items : D → Option (List D)
  | .lst l => some l
  | .tup l => some l
  | _ => none
def gIn (neg : Bool) : D → D → Option Cell := fun d e => match e.items with
  | some l => if d.ok deep && l.all (D.ok deep) then some (.sh (.bl (if neg then !inD d l else inD d l))) else none
  | none => none
theorem od_inG {op : CmpOp} {neg : Bool} (ho : OpR X (compareOp op) (rInP X.K neg)) : OpD X (compareOp op) (gIn neg) := by
  refine ⟨_, ho, fun F G H s σ env x y d e c I rx ry hg Q q => ?_⟩
  unfold gIn at hg
  split at hg
  · next l el =>
    split at hg
    · next hc =>
      rw [Bool.and_eq_true] at hc
      cases hg
      obtain ⟨h1, h2⟩ := ok_plain _ d hc.1
      have hl : D.ok (deep + 1) (.lst l) = true := hc.2
      refine ⟨d.py, D.pys l, rx.dp I hc.1, ?_, h1, (ok_plain _ _ hl).1, h2, ?_⟩
      · cases e with
        | lst m => cases el; exact .inl (ry.dp (n := deep + 1) I hc.2)
        | tup m => cases el; exact .inr (ry.dp (n := deep + 1) I hc.2)
        | _ => cases el
      · rw [any_py d hc.1 l hc.2]
        exact q _ G H I.refl (.bl _)
    · cases hg
  · cases hg
theorem od_in (hu : X.A.units + 64 < cLine) : OpD X (compareOp .In) (gIn false) := od_inG (op_inP hu)
theorem od_notIn (hu : X.A.units + 64 < cLine) : OpD X (compareOp .NotIn) (gIn true) := od_inG (op_notInP hu)

/-! ### is None, is True -/
def isNon : D → Bool
  | .non => true
  | _ => false
def gIsN (neg : Bool) : D → D → Option Cell
  | d, .non => some (.sh (.bl (if neg then !isNon d else isNon d)))
  | _, _ => none
theorem RepB.isNon {K : PySem.W.Frag} {F : Fm K T} {G H : Hp} {s : T} {σ : L2.St} {env : Env} {x : V} {d : D} (I : StOk F G H s σ env) (h : RepB F G σ env x d) : decide (x = .non) = DL.isNon d := by
  rcases h.cs I with h | ⟨a, ds, vs, rfl, rfl, h1, h2⟩
  · cases h <;> simp [DL.isNon]
  · simp [DL.isNon]
theorem od_isN : OpD X (compareOp .Is) (gIsN false) := by
  refine ⟨_, op_isN, fun F G H s σ env x y d e c I rx ry hg Q q => ?_⟩
  unfold gIsN at hg
  split at hg
  · cases hg
    obtain rfl := ry.non I
    exact ⟨rfl, by rw [rx.isNon I]; exact q _ G H I.refl (.bl _)⟩
  · cases hg
theorem od_notN : OpD X (compareOp .IsNot) (gIsN true) := by
  refine ⟨_, op_notN, fun F G H s σ env x y d e c I rx ry hg Q q => ?_⟩
  unfold gIsN at hg
  split at hg
  · cases hg
    obtain rfl := ry.non I
    exact ⟨rfl, by rw [rx.isNon I]; exact q _ G H I.refl (.bl _)⟩
  · cases hg
def gIsB (neg : Bool) : D → D → Option Cell
  | .bl a, .bl b => some (.sh (.bl (if neg then !(a == b) else a == b)))
  | _, _ => none
theorem od_isB : OpD X (compareOp .Is) (gIsB false) := by
  refine ⟨_, op_isBl, fun F G H s σ env x y d e c I rx ry hg Q q => ?_⟩
  unfold gIsB at hg
  split at hg
  · next a b =>
    cases hg
    exact ⟨a, b, rx.bl I, ry.bl I, by rw [show decide (a = b) = (a == b) from (Bool.beq_eq_decide_eq _ _).symm]; exact q _ G H I.refl (.bl _)⟩
  · cases hg
theorem od_notB : OpD X (compareOp .IsNot) (gIsB true) := by
  refine ⟨_, op_notBl, fun F G H s σ env x y d e c I rx ry hg Q q => ?_⟩
  unfold gIsB at hg
  split at hg
  · next a b =>
    cases hg
    exact ⟨a, b, rx.bl I, ry.bl I, by rw [show decide (a = b) = (a == b) from (Bool.beq_eq_decide_eq _ _).symm]; exact q _ G H I.refl (.bl _)⟩
  · cases hg

/-! ### tuples: + -/
theorem od_catT : OpD X (binaryOp .Add) gCatT := by
  refine ⟨_, op_catA, fun F G H s σ env x y d e c I rx ry hg Q q => ?_⟩
  unfold gCatT at hg
  split at hg
  · next a b =>
    split at hg
    · next hc =>
      cases hg
      obtain ⟨p, vs, rfl, hp, rp⟩ := rx.tup I
      obtain ⟨p', us, rfl, hp', rp'⟩ := ry.tup I
      refine ⟨p, p', vs, us, rfl, rfl, .inl (.inl (I.sub _ _ hp)), .inl (.inl (I.sub _ _ hp')), by rw [rp.length, rp'.length]; exact most_le hc, fun hz => ?_, fun _ hz => ?_, fun _ _ z nz => ?_⟩
      · subst hz
        cases rp
        exact q _ G H I.refl (.tup hp' rp')
      · subst hz
        cases rp'
        rw [List.append_nil] at q
        exact q _ G H I.refl (.tup hp rp)
      · have A := new_sh (o := .tup (vs ++ us)) I nz
        exact q _ _ _ A (.tup upd_same ((rp.append rp').mono A.sub))
    · cases hg
  · cases hg
/-- a + b, whatever they are -/
def gAdd : D → D → Option Cell
  | .int i, .int j => some (.sh (.int (i + j)))
  | .lst a, .lst b => gCatL (.lst a) (.lst b)
  | .tup a, .tup b => gCatT (.tup a) (.tup b)
  | .str a, .str b => gAddS (.str a) (.str b)
  | _, _ => none
theorem od_add : OpD X (binaryOp .Add) gAdd :=
  (((opd_i0 (p := fun i j => .int (i + j)) op_add fun _ _ _ _ _ => .int _).or od_catL).or (od_catT.or od_addS)).eq fun a b => by
    cases a <;> cases b <;> simp [gAdd, gI, gCatL, gCatT, gAddS]

/-! ### a op b op c -/
def rChain {T : Type} (g g' : D → D → Option Cell) (ra rb rc : RE T) : RC T := fun env s => match ra env s with
  | some (d, s1) => match rb env s1 with
    | some (e, s2) => match g d e with
      | some (.sh (.bl true)) => match rc env s2 with
        | some (f, s3) => match g' e f with
          | some c => some (c, s3)
          | none => none
        | none => none
      | some (.sh (.bl false)) => some (.sh (.bl false), s2)
      | _ => none
    | none => none
  | none => none
theorem dv_chain {op op' : CmpOp} {a b c : Expr} {g g' : D → D → Option Cell} {ra rb rc : RE T} (ho : OpD X (compareOp op) g) (ho' : OpD X (compareOp op') g') (ha : DB X a ra) (hb : DB X b rb) (hc : DB X c rc)
    (hm : lastMarks [op, op'] [b, c] = false := by with_unfolding_all rfl) : DV X (.Compare a [op, op'] [b, c] pos) (rChain g g' ra rb rc) := by
  obtain ⟨r, ho, hg⟩ := ho
  obtain ⟨r', ho', hg'⟩ := ho'
  refine PE.weak (pe_chain ho ho' ha hb hc hm) fun σ H Q ⟨F, G, s, env, c, s', I, hr, q⟩ => ?_
  unfold rChain at hr
  split at hr
  · next d s1 e1 =>
    split at hr
    · next e s2 e2 =>
      refine ⟨F, G, s, env, d, s1, I, e1, fun x G1 H1 A1 x1 => ?_⟩
      have I1 := I.after A1
      refine ⟨F, G1, s1, env, e, s2, I1, e2, fun y G2 H2 A2 y2 => ?_⟩
      have I2 := I1.after A2
      split at hr
      · next e3 =>
        split at hr
        · next f s3 e4 =>
          split at hr
          · next c' e5 =>
            cases hr
            refine hg F G2 H2 s2 σ env x y d e _ I2 (x1.after A2) y2 e3 _ fun v G3 H3 A3 h3 => ?_
            have h3' : Rep X.K F.R G3 v (.bl true) := h3
            cases h3'
            have I3 := I2.after A3
            refine ⟨true, rfl, ?_⟩
            rw [if_pos rfl]
            refine ⟨F, G3, s2, env, f, s', I3, e4, fun z G4 H4 A4 z4 => ?_⟩
            have I4 := I3.after A4
            exact hg' F G4 H4 s' σ env y z e f c I4 ((y2.after A3).after A4) z4 e5 Q fun v G5 H5 A5 h5 => q v G5 H5 ((((A1.trans A2).trans A3).trans A4).trans A5) (CellV.back (((A1.trans A2).trans A3).trans A4) h5)
          · cases hr
        · cases hr
      · next e3 =>
        cases hr
        refine hg F G2 H2 s' σ env x y d e _ I2 (x1.after A2) y2 e3 _ fun v G3 H3 A3 h3 => ?_
        have h3' : Rep X.K F.R G3 v (.bl false) := h3
        cases h3'
        refine ⟨false, rfl, ?_⟩
        rw [if_neg (by decide)]
        exact q _ G3 H3 ((A1.trans A2).trans A3) (.bl _)
      · cases hr
    · cases hr
  · cases hr

/-! ### tests -/
def DW (X : Cx) {T : Type} (e : Expr) (r : RB T) : Prop := PW X e (tT X.K r)
theorem DW.t {e : Expr} {r : RB T} (h : DW X e r) : DT X e r := PW.pt h
def rAnd {T : Type} (a b : RB T) : RB T := fun env s => match a env s with
  | some (true, s1) => b env s1
  | some (false, s1) => some (false, s1)
  | none => none
def rOr {T : Type} (a b : RB T) : RB T := fun env s => match a env s with
  | some (true, s1) => some (true, s1)
  | some (false, s1) => b env s1
  | none => none
def rNot {T : Type} (a : RB T) : RB T := fun env s => match a env s with
  | some (b, s1) => some (!b, s1)
  | none => none
variable {a b : Expr} {rest : List Expr} {ra rb : RB T}
theorem dw_and1 (h : DT X a ra) : DW X (.BoolOp .And [a] pos) ra := pw_and1 h
theorem dw_or1 (h : DT X a ra) : DW X (.BoolOp .Or [a] pos) ra := pw_or1 h
theorem dw_and (h : DT X a ra) (h' : DW X (.BoolOp .And (b :: rest) pos) rb) : DW X (.BoolOp .And (a :: b :: rest) pos) (rAnd ra rb) :=
  PW.weak (pw_and h h') fun σ H Q ⟨F, G, s, env, c, s', I, hr, q⟩ => by
    unfold rAnd at hr
    split at hr
    · next s1 e1 => exact ⟨F, G, s, env, true, s1, I, e1, fun G1 H1 A1 => by
        refine iteT ?_; exact ⟨F, G1, s1, env, c, s', I.after A1, hr, fun G2 H2 A2 => q G2 H2 (A1.trans A2)⟩⟩
    · next s1 e1 => cases hr; exact ⟨F, G, s, env, false, _, I, e1, fun G1 H1 A1 => by refine iteF ?_; exact q G1 H1 A1⟩
    · cases hr
theorem dw_or (h : DT X a ra) (h' : DW X (.BoolOp .Or (b :: rest) pos) rb) : DW X (.BoolOp .Or (a :: b :: rest) pos) (rOr ra rb) :=
  PW.weak (pw_or h h') fun σ H Q ⟨F, G, s, env, c, s', I, hr, q⟩ => by
    unfold rOr at hr
    split at hr
    · next s1 e1 => cases hr; exact ⟨F, G, s, env, true, _, I, e1, fun G1 H1 A1 => by refine iteT ?_; exact q G1 H1 A1⟩
    · next s1 e1 => exact ⟨F, G, s, env, false, s1, I, e1, fun G1 H1 A1 => by
        refine iteF ?_; exact ⟨F, G1, s1, env, c, s', I.after A1, hr, fun G2 H2 A2 => q G2 H2 (A1.trans A2)⟩⟩
    · cases hr
theorem dt_not (h : DT X a ra) : DT X (.UnaryOp .Not a pos) (rNot ra) :=
  PT.weak (pt_not h) fun σ H Q ⟨F, G, s, env, c, s', I, hr, q⟩ => by
    unfold rNot at hr
    split at hr
    · next b s1 e1 => cases hr; exact ⟨F, G, s, env, b, _, I, e1, fun G1 H1 A1 => q G1 H1 A1⟩
    · cases hr
/-- .. as values -/
def rOfB {T : Type} (r : RB T) : RE T := fun env s => match r env s with
  | some (b, s1) => some (.bl b, s1)
  | none => none
def rAndV {T : Type} (a b : RE T) : RE T := fun env s => match a env s with
  | some (.bl true, s1) => b env s1
  | some (.bl false, s1) => some (.bl false, s1)
  | _ => none
def rOrV {T : Type} (a b : RE T) : RE T := fun env s => match a env s with
  | some (.bl true, s1) => some (.bl true, s1)
  | some (.bl false, s1) => b env s1
  | _ => none
def rNotV {T : Type} (a : RE T) : RE T := fun env s => match a env s with
  | some (.bl b, s1) => some (.bl !b, s1)
  | _ => none
variable {va vb : RE T}
theorem de_one {op} (h : DE X a va) : DE X (.BoolOp op [a] pos) va := pe_one h
theorem de_and (h : DE X a va) (h' : DE X (.BoolOp .And (b :: rest) pos) vb) : DE X (.BoolOp .And (a :: b :: rest) pos) (rAndV va vb) :=
  PE.weak (pe_and h h') fun σ H Q ⟨F, G, s, env, c, s', I, hr, q⟩ => by
    unfold rAndV at hr
    split at hr
    · next s1 e1 => exact ⟨F, G, s, env, _, s1, I, e1, fun v G1 H1 A1 rv => by
        cases rv
        refine ⟨true, rfl, ?_⟩
        refine iteT ?_; exact ⟨F, G1, s1, env, c, s', I.after A1, hr, fun v G2 H2 A2 rv => q v G2 H2 (A1.trans A2) rv⟩⟩
    · next s1 e1 => cases hr; exact ⟨F, G, s, env, _, _, I, e1, fun v G1 H1 A1 rv => by cases rv; exact ⟨false, rfl, by refine iteF ?_; exact q _ G1 H1 A1 (.bl _)⟩⟩
    · cases hr
theorem de_or (h : DE X a va) (h' : DE X (.BoolOp .Or (b :: rest) pos) vb) : DE X (.BoolOp .Or (a :: b :: rest) pos) (rOrV va vb) :=
  PE.weak (pe_or h h') fun σ H Q ⟨F, G, s, env, c, s', I, hr, q⟩ => by
    unfold rOrV at hr
    split at hr
    · next s1 e1 => cases hr; exact ⟨F, G, s, env, _, _, I, e1, fun v G1 H1 A1 rv => by cases rv; exact ⟨true, rfl, by refine iteT ?_; exact q _ G1 H1 A1 (.bl _)⟩⟩
    · next s1 e1 => exact ⟨F, G, s, env, _, s1, I, e1, fun v G1 H1 A1 rv => by
        cases rv
        refine ⟨false, rfl, ?_⟩
        refine iteF ?_; exact ⟨F, G1, s1, env, c, s', I.after A1, hr, fun v G2 H2 A2 rv => q v G2 H2 (A1.trans A2) rv⟩⟩
    · cases hr
theorem de_not (h : DE X a va) : DE X (.UnaryOp .Not a pos) (rNotV va) :=
  PE.weak (pe_not h) fun σ H Q ⟨F, G, s, env, c, s', I, hr, q⟩ => by
    unfold rNotV at hr
    split at hr
    · next b s1 e1 => cases hr; exact ⟨F, G, s, env, _, _, I, e1, fun v G1 H1 A1 rv => by cases rv; exact ⟨b, rfl, q _ G1 H1 A1 (.bl _)⟩⟩
    · cases hr
def rIf {T : Type} (c : RB T) (a b : RE T) : RE T := fun env s => match c env s with
  | some (true, s1) => a env s1
  | some (false, s1) => b env s1
  | none => none
theorem de_ifExp {c : Expr} {rc : RB T} (hc : DT X c rc) (h : DE X a va) (h' : DE X b vb) : DE X (.IfExp c a b pos) (rIf rc va vb) :=
  PE.weak (pe_ifExp hc h h') fun σ H Q ⟨F, G, s, env, d, s', I, hr, q⟩ => by
    unfold rIf at hr
    split at hr
    · next s1 e1 => exact ⟨F, G, s, env, true, s1, I, e1, fun G1 H1 A1 => by
        refine iteT ?_; exact ⟨F, G1, s1, env, d, s', I.after A1, hr, fun v G2 H2 A2 rv => q v G2 H2 (A1.trans A2) rv⟩⟩
    · next s1 e1 => exact ⟨F, G, s, env, false, s1, I, e1, fun G1 H1 A1 => by
        refine iteF ?_; exact ⟨F, G1, s1, env, d, s', I.after A1, hr, fun v G2 H2 A2 rv => q v G2 H2 (A1.trans A2) rv⟩⟩
    · cases hr
/-- -a, ~a -/
def rUn {T : Type} (f : Int → Int) (a : RE T) : RE T := fun env s => match a env s with
  | some (.int i, s1) => some (.int (f i), s1)
  | _ => none
theorem de_un {op : UnaryOp} {f : Int → Int} (ho : UnR X (unaryOp op) (rU fun i => .int (f i))) (h : DE X a va) : DE X (.UnaryOp op a pos) (rUn f va) :=
  PE.weak (pe_un ho h) fun σ H Q ⟨F, G, s, env, d, s', I, hr, q⟩ => by
    unfold rUn at hr
    split at hr
    · next i s1 e1 => cases hr; exact ⟨F, G, s, env, _, _, I, e1, fun v G1 H1 A1 rv => by cases rv; exact ⟨i, rfl, q _ G1 H1 A1 (.int _)⟩⟩
    · cases hr
end
end DL

end
section
set_option Elab.async false
set_option linter.all false
set_option maxRecDepth 100000
set_option autoImplicit false
namespace DL
open PySem PySem.Spec PyProof.Rows L2

section
variable {X : Cx} {T : Type} {pos : Pos}
/-! ### arguments, displays -/
def rNil (T : Type) : RA T := fun _ s => some ([], s)
def rCons {T : Type} (a : RE T) (r : RA T) : RA T := fun env s => match a env s with
  | some (d, s1) => match r env s1 with
    | some (ds, s2) => some (d :: ds, s2)
    | none => none
  | none => none
theorem rCons_inv {a : RE T} {r : RA T} {env : Env} {s s' : T} {ds : List D} (h : rCons a r env s = some (ds, s')) : ∃ d s1 es, a env s = some (d, s1) ∧ r env s1 = some (es, s') ∧ ds = d :: es := by
  unfold rCons at h
  split at h
  · next d s1 e1 =>
    split at h
    · next es s2 e2 => cases h; exact ⟨d, s1, es, e1, e2, rfl⟩
    · cases h
  · cases h
theorem da_nil : DA X [] (rNil T) := PA.weak pa_nil fun σ H Q ⟨F, G, s, env, ds, s', I, hr, q⟩ => by
  cases hr; exact q [] G H I.refl .nil
theorem da_cons {e : Expr} {es : List Expr} {a : RE T} {r : RA T} (ha : DE X e a) (hr : DA X es r) (hs : starEach (e :: es) X.env = (false, eval e X.env) :: starEach es X.env := by rfl) : DA X (e :: es) (rCons a r) :=
  PA.weak (pa_cons ha hr hs) fun σ H Q ⟨F, G, s, env, ds, s', I, hr, q⟩ => by
    obtain ⟨d, s1, es, e1, e2, rfl⟩ := rCons_inv hr
    refine ⟨F, G, s, env, d, s1, I, e1, fun v G1 H1 A1 rv => ?_⟩
    exact ⟨F, G1, s1, env, es, s', I.after A1, e2, fun vs G2 H2 A2 rvs => q _ G2 H2 (A1.trans A2) (.cons (rv.mono A2.sub) rvs)⟩
theorem dab_nil : DAb X [] (rNil T) := PA.weak pa_nil fun σ H Q ⟨F, G, s, env, ds, s', I, hr, q⟩ => by
  cases hr; exact q [] G H I.refl .nil
theorem dab_cons {e : Expr} {es : List Expr} {a : RE T} {r : RA T} (ha : DB X e a) (hr : DAb X es r) (hs : starEach (e :: es) X.env = (false, eval e X.env) :: starEach es X.env := by rfl) : DAb X (e :: es) (rCons a r) :=
  PA.weak (pa_cons ha hr hs) fun σ H Q ⟨F, G, s, env, ds, s', I, hr, q⟩ => by
    obtain ⟨d, s1, es, e1, e2, rfl⟩ := rCons_inv hr
    refine ⟨F, G, s, env, d, s1, I, e1, fun v G1 H1 A1 rv => ?_⟩
    exact ⟨F, G1, s1, env, es, s', I.after A1, e2, fun vs G2 H2 A2 rvs => q _ G2 H2 (A1.trans A2) (.cons (rv.after A2) rvs)⟩
def rTup {T : Type} (r : RA T) : RE T := fun env s => match r env s with
  | some (ds, s1) => if ds.length ≤ most then some (.tup ds, s1) else none
  | none => none
theorem de_tup {es : List Expr} {x1} {r : RA T} (h : DA X es r) : DE X (.Tuple es x1 pos) (rTup r) := PE.weak (pe_tup h) fun σ H Q ⟨F, G, s, env, d, s', I, hr, q⟩ => by
  unfold rTup at hr
  split at hr
  · next ds s1 e1 =>
    split at hr
    · next hc =>
      cases hr
      refine ⟨F, G, s, env, ds, _, I, e1, fun vs G1 H1 A1 rvs => ⟨by rw [rvs.length]; exact most_le hc, fun p n => ?_⟩⟩
      have A2 := new_sh (o := .tup vs) (I.after A1) n
      exact q _ _ _ (A1.trans A2) (.tup upd_same (rvs.mono A2.sub))
    · cases hr
  · cases hr
def rLst {T : Type} (r : RA T) : RC T := fun env s => match r env s with
  | some (ds, s1) => if ds.length ≤ most then some (.ow (.lst ds), s1) else none
  | none => none
theorem dv_lst {es : List Expr} {r : RA T} (h : DA X es r) : DV X (.List es pos) (rLst r) := PE.weak (pe_lst h) fun σ H Q ⟨F, G, s, env, d, s', I, hr, q⟩ => by
  unfold rLst at hr
  split at hr
  · next ds s1 e1 =>
    split at hr
    · next hc =>
      cases hr
      refine ⟨F, G, s, env, ds, _, I, e1, fun vs G1 H1 A1 rvs => ⟨by rw [rvs.length]; exact most_le hc, fun p n => ?_⟩⟩
      have I1 := I.after A1
      exact q _ _ _ (A1.trans (new_ow I1 n)) (CellV.back A1 (new_own I1 n rvs))
    · cases hr
  · cases hr

/-! ### x[i] -/
def getI {α : Type} (l : List α) : Int → Option α
  | .ofNat n => l[n]?
  | .negSucc n => if n < l.length then l[l.length - 1 - n]? else none
theorem getI_at {α : Type} (l : List α) (i : Int) : atI l i = getI l i := by
  unfold atI ixN
  cases i with
  | ofNat n =>
    show ((if 0 ≤ (n : Int) then (if (n : Int) < l.length then some (n : Int).toNat else none) else _).bind fun j => l[j]?) = l[n]?
    rw [if_pos (Int.natCast_nonneg n)]
    by_cases h : (n : Int) < l.length
    · rw [if_pos h]; rfl
    · rw [if_neg h]
      exact (List.getElem?_eq_none (by omega)).symm
  | negSucc n =>
    rw [if_neg (by omega)]
    show _ = if n < l.length then l[l.length - 1 - n]? else none
    by_cases h : n < l.length
    · rw [if_pos (by omega), if_pos h]
      show l[(Int.negSucc n + l.length).toNat]? = _
      congr 1
      omega
    · rw [if_neg (by omega), if_neg h]; rfl
def gIx : D → D → Option D
  | .lst l, .int i => getI l i
  | .tup l, .int i => getI l i
  | .str x, .int i => if x.length ≤ most then (getI x.cps.toList i).map fun c => D.str ⟨#[c]⟩ else none
  | _, _ => none
def rIx' {T : Type} (ra rb : RE T) : RE T := fun env s => match ra env s with
  | some (d, s1) => match rb env s1 with
    | some (e, s2) => match gIx d e with
      | some c => some (c, s2)
      | none => none
    | none => none
  | none => none
theorem Reps.getI {K : PySem.W.Frag} {R : Option Addr} {G : Hp} {ds : List D} {vs : List V} {i : Int} {d : D} (r : Reps K R G vs ds) (h : DL.getI ds i = some d) : ∃ v, atI vs i = some v ∧ Rep K R G v d := by
  have e := r.length
  rw [getI_at]
  cases i with
  | ofNat n => exact r.get h
  | negSucc n =>
    have h' : (if n < ds.length then ds[ds.length - 1 - n]? else none) = some d := h
    show ∃ v, (if n < vs.length then vs[vs.length - 1 - n]? else none) = some v ∧ _
    rw [e]
    split at h'
    · next hn => rw [if_pos hn]; exact r.get h'
    · cases h'
theorem de_ix {a b : Expr} {ra rb : RE T} (ha : DB X a ra) (hb : DE X b rb) (hs : PlainIx b := by exact fun _ _ => rfl) : DE X (.Subscript a b pos) (rIx' ra rb) :=
  PE.weak (pe_ix ix_seq ha hb hs) fun σ H Q ⟨F, G, s, env, d, s', I, hr, q⟩ => by
    unfold rIx' at hr
    split at hr
    · next d1 s1 e1 =>
      split at hr
      · next d2 s2 e2 =>
        split at hr
        · next c e3 =>
          cases hr
          refine ⟨F, G, s, env, d1, s1, I, e1, fun x G1 H1 A1 x1 => ?_⟩
          have I1 := I.after A1
          refine ⟨F, G1, s1, env, d2, s', I1, e2, fun y G2 H2 A2 y2 => ?_⟩
          have I2 := I1.after A2
          have x2 := x1.after A2
          have A := A1.trans A2
          unfold gIx at e3
          split at e3
          · next l i =>
            cases y2
            obtain ⟨a, vs, rfl, h1, h2⟩ := x2.lst I2
            obtain ⟨v, h3, h4⟩ := h2.getI e3
            exact .inl ⟨a, vs, i, v, rfl, rfl, .inl (.inl h1), h3, q v G2 H2 A h4⟩
          · next l i =>
            cases y2
            obtain ⟨a, vs, rfl, h1, h2⟩ := x2.tup I2
            obtain ⟨v, h3, h4⟩ := h2.getI e3
            exact .inr (.inl ⟨a, vs, i, v, rfl, rfl, .inl (.inl (I2.sub _ _ h1)), h3, q v G2 H2 A h4⟩)
          · next z i =>
            cases y2
            split at e3
            · next hz =>
              obtain rfl := x2.str I2
              cases hc : DL.getI z.cps.toList i with
              | none => rw [hc] at e3; cases e3
              | some c =>
                rw [hc] at e3
                cases e3
                exact .inr (.inr ⟨z, i, c, rfl, rfl, most_le hz, by rw [getI_at]; exact hc, q _ G2 H2 A (.str _)⟩)
            · cases e3
          · cases e3
        · cases hr
      · cases hr
    · cases hr

/-! ### x[a:b] -/
abbrev RO (T : Type) := Env → T → Option (Option Int × T)
def tO (K : PySem.W.Frag) {T : Type} (r : RO T) : TO := fun σ H Q => ∃ (F : Fm K T) (G : Hp) (s : T) (env : Env) (d : Option Int) (s' : T), StOk F G H s σ env ∧ r env s = some (d, s') ∧
  ∀ G' H', After F G H G' H' s' → Q d H'
def DO (X : Cx) {T : Type} (e : Option Expr) (r : RO T) : Prop := PO X e (tO X.K r)
theorem PO.weak {e : Option Expr} {t t' : TO} (h : PO X e t) (w : ∀ σ H Q, t' σ H Q → t σ H Q) : PO X e t' := ⟨fun pins s σ H Q I hw => h.run pins s σ H Q I (w _ _ _ hw)⟩
def rONone (T : Type) : RO T := fun _ s => some (none, s)
def rOSome {T : Type} (a : RE T) : RO T := fun env s => match a env s with
  | some (.int i, s1) => some (some i, s1)
  | _ => none
theorem do_none : DO X none (rONone T) := PO.weak po_none fun σ H Q ⟨F, G, s, env, d, s', I, hr, q⟩ => by cases hr; exact q G H I.refl
theorem do_some {e : Expr} {a : RE T} (h : DE X e a) : DO X (some e) (rOSome a) := PO.weak (po_some h) fun σ H Q ⟨F, G, s, env, d, s', I, hr, q⟩ => by
  unfold rOSome at hr
  split at hr
  · next i s1 e1 => cases hr; exact ⟨F, G, s, env, _, _, I, e1, fun v G1 H1 A1 rv => by cases rv; exact ⟨i, rfl, q G1 H1 A1⟩⟩
  · cases hr
def cutD (l : List D) (lo hi : Option Int) : List D := (l.drop (HT.sIx l.length 0 lo)).take (HT.sIx l.length l.length hi - HT.sIx l.length 0 lo)
theorem Reps.cut {K : PySem.W.Frag} {R : Option Addr} {G : Hp} {ds : List D} {vs : List V} (r : Reps K R G vs ds) (lo hi : Option Int) : Reps K R G (cutV vs lo hi) (cutD ds lo hi) := by
  unfold cutV cutD
  rw [r.length]
  exact (r.drop _).take _
def gSl (lo hi : Option Int) : D → Option Cell
  | .lst l => some (.ow (.lst (cutD l lo hi)))
  | .tup l => some (.sh (.tup (cutD l lo hi)))
  | _ => none
def rSl {T : Type} (ra : RE T) (ro rh : RO T) : RC T := fun env s => match ra env s with
  | some (d, s1) => match ro env s1 with
    | some (lo, s2) => match rh env s2 with
      | some (hi, s3) => match gSl lo hi d with
        | some c => some (c, s3)
        | none => none
      | none => none
    | none => none
  | none => none
theorem dv_sl {a : Expr} {lo hi : Option Expr} {p2 : Pos} {ra : RE T} {ro rh : RO T} (ha : DB X a ra) (ho : DO X lo ro) (hh : DO X hi rh) : DV X (.Subscript a (.Slice lo hi none p2) pos) (rSl ra ro rh) :=
  PE.weak (pe_slice (sl_list.or sl_tupA) ha ho hh) fun σ H Q ⟨F, G, s, env, d, s', I, hr, q⟩ => by
    unfold rSl at hr
    split at hr
    · next d1 s1 e1 =>
      split at hr
      · next lo s2 e2 =>
        split at hr
        · next hi s3 e3 =>
          split at hr
          · next c e4 =>
            cases hr
            refine ⟨F, G, s, env, d1, s1, I, e1, fun x G1 H1 A1 x1 => ?_⟩
            have I1 := I.after A1
            refine ⟨F, G1, s1, env, lo, s2, I1, e2, fun G2 H2 A2 => ?_⟩
            have I2 := I1.after A2
            refine ⟨F, G2, s2, env, hi, s', I2, e3, fun G3 H3 A3 => ?_⟩
            have I3 := I2.after A3
            have x3 := (x1.after A2).after A3
            have A := (A1.trans A2).trans A3
            unfold gSl at e4
            split at e4
            · next l =>
              cases e4
              obtain ⟨p, vs, rfl, h1, h2⟩ := x3.lst I3
              refine .inl ⟨p, vs, rfl, .inl (.inl h1), fun z nz => ?_⟩
              exact q _ _ _ (A.trans (new_ow I3 nz)) (CellV.back A (new_own I3 nz (h2.cut lo hi)))
            · next l =>
              cases e4
              obtain ⟨p, vs, rfl, h1, h2⟩ := x3.tup I3
              refine .inr ⟨p, vs, rfl, .inl (.inl (I3.sub _ _ h1)), fun hw => ?_, fun _ z nz => ?_⟩
              · refine q _ _ _ A (.tup h1 ?_)
                have e : cutD l lo hi = l := by
                  unfold cutD
                  rw [← h2.length, hw.1, hw.2, List.drop_zero, Nat.sub_zero, h2.length]
                  exact List.take_length
                rw [e]; exact h2
              · have A4 := new_sh (o := .tup (cutV vs lo hi)) I3 nz
                exact q _ _ _ (A.trans A4) (.tup upd_same ((h2.cut lo hi).mono A4.sub))
            · cases e4
          · cases hr
        · cases hr
      · cases hr
    · cases hr

/-! ### calls of built-ins, by values -/
def CallD (X : Cx) (f : Value) (g : List D → Option Cell) : Prop := ∃ r : List V → Hp → VK → Prop, CallR X f r ∧
  ∀ {T : Type} (F : Fm X.K T) (G H : Hp) (s : T) (σ : L2.St) (env : Env) (xs : List V) (ds : List D) (c : Cell), StOk F G H s σ env → RepBs F G σ env xs ds → g ds = some c →
    ∀ Q : VK, (∀ v G' H', After F G H G' H' s → CellV F H G' H' v c → Q v H') → r xs H Q
theorem CallD.or {f : Value} {g g' : List D → Option Cell} (h : CallD X f g) (h' : CallD X f g') : CallD X f (fun d => (g d).or (g' d)) := by
  obtain ⟨r, h1, h2⟩ := h
  obtain ⟨r', h1', h2'⟩ := h'
  refine ⟨_, h1.or h1', fun F G H s σ env xs ds c I rx hg Q q => ?_⟩
  have hg : (g ds).or (g' ds) = some c := hg
  cases hd : g ds with
  | some c' =>
    rw [hd] at hg
    cases hg
    exact .inl (h2 F G H s σ env xs ds _ I rx hd Q q)
  | none =>
    rw [hd] at hg
    exact .inr (h2' F G H s σ env xs ds _ I rx hg Q q)
theorem CallD.eq {f : Value} {g g' : List D → Option Cell} (h : CallD X f g) (e : ∀ a, g' a = g a) : CallD X f g' := by
  have : g' = g := funext e
  rw [this]; exact h
def rCB {T : Type} (g : List D → Option Cell) (r : RA T) : RC T := fun env s => match r env s with
  | some (ds, s1) => match g ds with
    | some c => some (c, s1)
    | none => none
  | none => none
theorem cb_ok {f : Value} {g : List D → Option Cell} {r : List V → Hp → VK → Prop} {ra : RA T} {F : Fm X.K T} {G H : Hp} {s s' : T} {σ : L2.St} {env : Env} {c : Cell} {Q : VK}
    (hg : ∀ (G H : Hp) (s : T) (xs : List V) (ds : List D) (c : Cell), StOk F G H s σ env → RepBs F G σ env xs ds → g ds = some c → ∀ Q : VK, (∀ v G' H', After F G H G' H' s → CellV F H G' H' v c → Q v H') → r xs H Q)
    (I : StOk F G H s σ env) (hr : rCB g ra env s = some (c, s')) (q : ∀ v G' H', After F G H G' H' s' → CellV F H G' H' v c → Q v H') : tAb X.K ra σ H fun vs H1 => r vs H1 Q := by
  unfold rCB at hr
  split at hr
  · next ds s1 e1 =>
    split at hr
    · next c' e2 =>
      cases hr
      refine ⟨F, G, s, env, ds, _, I, e1, fun vs G1 H1 A1 rvs => ?_⟩
      exact hg G1 H1 _ vs ds c (I.after A1) rvs e2 Q fun v G2 H2 A2 h2 => q v G2 H2 (A1.trans A2) (CellV.back A1 h2)
    · cases hr
  · cases hr
theorem dv_callB {x : Str} {p : Pos} {e : Expr} {es : List Expr} {id : String} {g : List D → Option Cell} {ra : RA T} (hc : CallD X (.builtin id) g) (hg : Gl X x) (hm : X.mg x = none) (hv : bootBuiltins x = some (.builtin id)) (ha : DAb X (e :: es) ra)
    (hn : x ≠ "__name__" := by decide) (hdb : (x == ("__debug__" : Str)) = false := by decide)
    (he : starEach (e :: es) X.env = (false, eval e X.env) :: starEach es X.env := by rfl) (hpl : (backTo pos (starEach es X.env)).any (·.1) = false := by rfl) : DV X (.Call (.Name x p) (e :: es) [] pos) (rCB g ra) := by
  obtain ⟨r, hc, hq⟩ := hc
  exact PE.weak (pe_callB hc hg hm hv ha hn hdb he hpl) fun σ H Q ⟨F, G, s, env, c, s', I, hr, q⟩ => cb_ok (f := .builtin id) (fun G H s xs ds c => hq F G H s σ env xs ds c) I hr q
theorem dv_callTy {x : Str} {p : Pos} {e : Expr} {es : List Expr} {id : String} {g : List D → Option Cell} {ra : RA T} (hc : CallD X (.type id) g) (hg : Gl X x) (hm : X.mg x = none) (hv : bootBuiltins x = some (.type id)) (ha : DAb X (e :: es) ra)
    (hn : x ≠ "__name__" := by decide) (hdb : (x == ("__debug__" : Str)) = false := by decide)
    (he : starEach (e :: es) X.env = (false, eval e X.env) :: starEach es X.env := by rfl) (hpl : (backTo pos (starEach es X.env)).any (·.1) = false := by rfl) : DV X (.Call (.Name x p) (e :: es) [] pos) (rCB g ra) := by
  obtain ⟨r, hc, hq⟩ := hc
  exact PE.weak (pe_callTy hc hg hm hv ha hn hdb he hpl) fun σ H Q ⟨F, G, s, env, c, s', I, hr, q⟩ => cb_ok (f := .type id) (fun G H s xs ds c => hq F G H s σ env xs ds c) I hr q

theorem RepBs.one {K : PySem.W.Frag} {F : Fm K T} {G : Hp} {σ : L2.St} {env : Env} {xs : List V} {d : D} (h : RepBs F G σ env xs [d]) : ∃ v, xs = [v] ∧ RepB F G σ env v d := by
  cases h with
  | cons a b => cases b; exact ⟨_, rfl, a⟩
theorem RepBs.two {K : PySem.W.Frag} {F : Fm K T} {G : Hp} {σ : L2.St} {env : Env} {xs : List V} {d e : D} (h : RepBs F G σ env xs [d, e]) : ∃ v u, xs = [v, u] ∧ RepB F G σ env v d ∧ RepB F G σ env u e := by
  cases h with
  | cons a b =>
    cases b with
    | cons b c => cases c; exact ⟨_, _, rfl, a, b⟩
/-- len -/
def gLen : List D → Option Cell
  | [.lst l] => some (.sh (.int l.length))
  | [.tup l] => some (.sh (.int l.length))
  | _ => none
theorem cd_len : CallD X (.builtin "len") gLen := by
  refine ⟨_, call_len_seq, fun F G H s σ env xs ds c I rx hg Q q => ?_⟩
  unfold gLen at hg
  split at hg
  · next l =>
    cases hg
    obtain ⟨v, rfl, rv⟩ := rx.one
    obtain ⟨a, vs, rfl, h1, h2⟩ := rv.lst I
    exact ⟨a, vs, rfl, .inl (.inl (.inl h1)), by rw [h2.length]; exact q _ G H I.refl (.int _)⟩
  · next l =>
    cases hg
    obtain ⟨v, rfl, rv⟩ := rx.one
    obtain ⟨a, vs, rfl, h1, h2⟩ := rv.tup I
    exact ⟨a, vs, rfl, .inr (.inl (.inl (I.sub _ _ h1))), by rw [h2.length]; exact q _ G H I.refl (.int _)⟩
  · cases hg
def absI (i : Int) : Int := i.natAbs
def gAbs : List D → Option Cell
  | [.int i] => some (.sh (.int (absI i)))
  | _ => none
theorem cd_abs : CallD X (.builtin "abs") gAbs := by
  refine ⟨_, call_abs, fun F G H s σ env xs ds c I rx hg Q q => ?_⟩
  unfold gAbs at hg
  split at hg
  · next i =>
    cases hg
    obtain ⟨v, rfl, rv⟩ := rx.one
    obtain rfl := rv.int I
    refine ⟨i, rfl, ?_⟩
    have e : (if i < 0 then -i else i) = absI i := by unfold absI; split <;> omega
    rw [e]; exact q _ G H I.refl (.int _)
  · cases hg
def gInt : List D → Option Cell
  | [.int i] => some (.sh (.int i))
  | [.bl b] => some (.sh (.int (if b then 1 else 0)))
  | _ => none
theorem cd_int : CallD X (.type "int") gInt := by
  refine ⟨_, call_int1, fun F G H s σ env xs ds c I rx hg Q q => ?_⟩
  unfold gInt at hg
  split at hg
  · next i =>
    cases hg
    obtain ⟨v, rfl, rv⟩ := rx.one
    obtain rfl := rv.int I
    exact .inl ⟨i, rfl, q _ G H I.refl (.int _)⟩
  · next b =>
    cases hg
    obtain ⟨v, rfl, rv⟩ := rx.one
    obtain rfl := rv.bl I
    exact .inr ⟨b, rfl, q _ G H I.refl (.int _)⟩
  · cases hg
def gMax2 : List D → Option Cell
  | [.int i, .int j] => some (.sh (.int (if ltI i j then j else i)))
  | _ => none
def gMin2 : List D → Option Cell
  | [.int i, .int j] => some (.sh (.int (if ltI j i then j else i)))
  | _ => none
theorem cd_max2 (hc : X.calm = true) : CallD X (.builtin "max") gMax2 := by
  refine ⟨_, call_max2 hc, fun F G H s σ env xs ds c I rx hg Q q => ?_⟩
  unfold gMax2 at hg
  split at hg
  · next i j =>
    cases hg
    obtain ⟨v, u, rfl, rv, ru⟩ := rx.two
    obtain rfl := rv.int I
    obtain rfl := ru.int I
    refine ⟨i, j, rfl, ?_⟩
    have e : (if j > i then j else i) = (if ltI i j then j else i) := by unfold ltI; simp
    rw [e]; exact q _ G H I.refl (.int _)
  · cases hg
theorem cd_min2 (hc : X.calm = true) : CallD X (.builtin "min") gMin2 := by
  refine ⟨_, call_min2 hc, fun F G H s σ env xs ds c I rx hg Q q => ?_⟩
  unfold gMin2 at hg
  split at hg
  · next i j =>
    cases hg
    obtain ⟨v, u, rfl, rv, ru⟩ := rx.two
    obtain rfl := rv.int I
    obtain rfl := ru.int I
    refine ⟨i, j, rfl, ?_⟩
    have e : (if j < i then j else i) = (if ltI j i then j else i) := by unfold ltI; simp
    rw [e]; exact q _ G H I.refl (.int _)
  · cases hg
/-- list(x), tuple(x) -/
def gList : List D → Option Cell
  | [.lst l] => some (.ow (.lst l))
  | [.tup l] => some (.ow (.lst l))
  | _ => none
theorem cd_list : CallD X (.type "list") gList := by
  refine ⟨_, call_list_of, fun F G H s σ env xs ds c I rx hg Q q => ?_⟩
  unfold gList at hg
  split at hg
  · next l =>
    cases hg
    obtain ⟨v, rfl, rv⟩ := rx.one
    obtain ⟨a, vs, rfl, h1, h2⟩ := rv.lst I
    exact ⟨a, vs, rfl, .inl (.inl (.inl h1)), fun z nz => q _ _ _ (new_ow I nz) (new_own I nz h2)⟩
  · next l =>
    cases hg
    obtain ⟨v, rfl, rv⟩ := rx.one
    obtain ⟨a, vs, rfl, h1, h2⟩ := rv.tup I
    exact ⟨a, vs, rfl, .inr (.inl (.inl (I.sub _ _ h1))), fun z nz => q _ _ _ (new_ow I nz) (new_own I nz h2)⟩
  · cases hg
def gTuple : List D → Option Cell
  | [.lst l] => some (.sh (.tup l))
  | [.tup l] => some (.sh (.tup l))
  | _ => none
theorem cd_tuple : CallD X (.type "tuple") gTuple := by
  refine ⟨_, call_tuple_of, fun F G H s σ env xs ds c I rx hg Q q => ?_⟩
  unfold gTuple at hg
  split at hg
  · next l =>
    cases hg
    obtain ⟨v, rfl, rv⟩ := rx.one
    obtain ⟨a, vs, rfl, h1, h2⟩ := rv.lst I
    refine ⟨a, vs, rfl, .inl ⟨.inl (.inl h1), fun z nz => ?_⟩⟩
    have A := new_sh (o := .tup vs) I nz
    exact q _ _ _ A (.tup upd_same (h2.mono A.sub))
  · next l =>
    cases hg
    obtain ⟨v, rfl, rv⟩ := rx.one
    obtain ⟨a, vs, rfl, h1, h2⟩ := rv.tup I
    exact ⟨a, vs, rfl, .inr ⟨.inl (.inl (I.sub _ _ h1)), q _ G H I.refl (.tup h1 h2)⟩⟩
  · cases hg
/-- lists of intsOf, of truth values -/
def intsOf : List D → Option (List Int)
  | [] => some []
  | .int i :: r => (intsOf r).map (i :: ·)
  | _ :: _ => none
def boolsOf : List D → Option (List Bool)
  | [] => some []
  | .bl b :: r => (boolsOf r).map (b :: ·)
  | _ :: _ => none
theorem Reps.intsOf {K : PySem.W.Frag} {R : Option Addr} {G : Hp} : ∀ {ds : List D} {vs : List V} {ns : List Int}, Reps K R G vs ds → DL.intsOf ds = some ns → vs = ns.map V.int
  | [], _, _, .nil, h => by cases h; rfl
  | d :: ds, _, ns, .cons a r, h => by
    unfold DL.intsOf at h
    split at h
    · next e => cases e
    · next i r' e =>
      cases e
      cases hr : DL.intsOf ds with
      | none => rw [hr] at h; cases h
      | some ms =>
        rw [hr] at h
        cases h
        cases a
        rw [Reps.intsOf r hr]; rfl
    · cases h
theorem Reps.boolsOf {K : PySem.W.Frag} {R : Option Addr} {G : Hp} : ∀ {ds : List D} {vs : List V} {ns : List Bool}, Reps K R G vs ds → DL.boolsOf ds = some ns → vs = ns.map V.bl
  | [], _, _, .nil, h => by cases h; rfl
  | d :: ds, _, ns, .cons a r, h => by
    unfold DL.boolsOf at h
    split at h
    · next e => cases e
    · next i r' e =>
      cases e
      cases hr : DL.boolsOf ds with
      | none => rw [hr] at h; cases h
      | some ms =>
        rw [hr] at h
        cases h
        cases a
        rw [Reps.boolsOf r hr]; rfl
    · cases h
def sumI : List Int → Int
  | [] => 0
  | i :: r => i + sumI r
theorem sumI_eq : ∀ l : List Int, sumI l = l.sum
  | [] => rfl
  | i :: r => by rw [List.sum_cons, sumI, sumI_eq r]
def gSum : List D → Option Cell
  | [.lst l] => (intsOf l).map fun ns => .sh (.int (sumI ns))
  | [.tup l] => (intsOf l).map fun ns => .sh (.int (sumI ns))
  | _ => none
def maxI : Int → List Int → Int
  | m, [] => m
  | m, i :: r => maxI (if ltI m i then i else m) r
def minI : Int → List Int → Int
  | m, [] => m
  | m, i :: r => minI (if ltI i m then i else m) r
theorem maxI_spec : ∀ (l : List Int) (m : Int), (maxI m l = m ∨ maxI m l ∈ l) ∧ m ≤ maxI m l ∧ ∀ y ∈ l, y ≤ maxI m l
  | [], m => ⟨.inl rfl, Int.le_refl _, fun _ h => by cases h⟩
  | i :: r, m => by
    obtain ⟨h1, h2, h3⟩ := maxI_spec r (if ltI m i then i else m)
    unfold maxI
    by_cases hm : m < i
    · have e : ltI m i = true := decide_eq_true hm
      simp only [e, if_true] at *
      refine ⟨.inr ?_, by omega, fun y hy => ?_⟩
      · rcases h1 with h1 | h1
        · rw [h1]; exact List.mem_cons_self
        · exact List.mem_cons_of_mem _ h1
      · rcases List.mem_cons.mp hy with rfl | hy
        · exact h2
        · exact h3 y hy
    · have e : ltI m i = false := decide_eq_false hm
      simp only [e, Bool.false_eq_true, if_false] at *
      refine ⟨?_, h2, fun y hy => ?_⟩
      · rcases h1 with h1 | h1
        · exact .inl h1
        · exact .inr (List.mem_cons_of_mem _ h1)
      · rcases List.mem_cons.mp hy with rfl | hy
        · omega
        · exact h3 y hy
theorem minI_spec : ∀ (l : List Int) (m : Int), (minI m l = m ∨ minI m l ∈ l) ∧ minI m l ≤ m ∧ ∀ y ∈ l, minI m l ≤ y
  | [], m => ⟨.inl rfl, Int.le_refl _, fun _ h => by cases h⟩
  | i :: r, m => by
    obtain ⟨h1, h2, h3⟩ := minI_spec r (if ltI i m then i else m)
    unfold minI
    by_cases hm : i < m
    · have e : ltI i m = true := decide_eq_true hm
      simp only [e, if_true] at *
      refine ⟨.inr ?_, by omega, fun y hy => ?_⟩
      · rcases h1 with h1 | h1
        · rw [h1]; exact List.mem_cons_self
        · exact List.mem_cons_of_mem _ h1
      · rcases List.mem_cons.mp hy with rfl | hy
        · exact h2
        · exact h3 y hy
    · have e : ltI i m = false := decide_eq_false hm
      simp only [e, Bool.false_eq_true, if_false] at *
      refine ⟨?_, h2, fun y hy => ?_⟩
      · rcases h1 with h1 | h1
        · exact .inl h1
        · exact .inr (List.mem_cons_of_mem _ h1)
      · rcases List.mem_cons.mp hy with rfl | hy
        · omega
        · exact h3 y hy
def rMaxG (K : PySem.W.Frag) : List V → Hp → VK → Prop := fun vs H Q => ∃ (a : Addr) (i : Int) (ns : List Int), vs = [V.ref a] ∧ SqL K H a ((i :: ns).map V.int) ∧ Q (.int (maxI i ns)) H
def rMinG (K : PySem.W.Frag) : List V → Hp → VK → Prop := fun vs H Q => ∃ (a : Addr) (i : Int) (ns : List Int), vs = [V.ref a] ∧ SqL K H a ((i :: ns).map V.int) ∧ Q (.int (minI i ns)) H
theorem cr_maxG (hc : X.calm = true) : CallR X (.builtin "max") (rMaxG X.K) := fun pins s σ H xs us Q I r ⟨a, i, ns, h1, h2, q⟩ =>
  cr_max hc pins s σ H xs us Q I r ⟨a, i :: ns, h1, h2, Nat.succ_pos _, fun m hm hy => by
    obtain ⟨q1, q2, q3⟩ := maxI_spec ns i
    have e1 : m ≤ maxI i ns := by
      rcases List.mem_cons.mp hm with rfl | hm
      · exact q2
      · exact q3 m hm
    have e2 : maxI i ns ≤ m := hy _ (by
      rcases q1 with q1 | q1
      · rw [q1]; exact List.mem_cons_self
      · exact List.mem_cons_of_mem _ q1)
    rw [show m = maxI i ns by omega]; exact q⟩
theorem cr_minG (hc : X.calm = true) : CallR X (.builtin "min") (rMinG X.K) := fun pins s σ H xs us Q I r ⟨a, i, ns, h1, h2, q⟩ =>
  cr_min hc pins s σ H xs us Q I r ⟨a, i :: ns, h1, h2, Nat.succ_pos _, fun m hm hy => by
    obtain ⟨q1, q2, q3⟩ := minI_spec ns i
    have e1 : minI i ns ≤ m := by
      rcases List.mem_cons.mp hm with rfl | hm
      · exact q2
      · exact q3 m hm
    have e2 : m ≤ minI i ns := hy _ (by
      rcases q1 with q1 | q1
      · rw [q1]; exact List.mem_cons_self
      · exact List.mem_cons_of_mem _ q1)
    rw [show m = minI i ns by omega]; exact q⟩
def gMax : List D → Option Cell
  | [.lst (.int i :: l)] => (intsOf l).map fun ns => .sh (.int (maxI i ns))
  | _ => none
def gMin : List D → Option Cell
  | [.lst (.int i :: l)] => (intsOf l).map fun ns => .sh (.int (minI i ns))
  | _ => none
theorem cd_max (hc : X.calm = true) : CallD X (.builtin "max") gMax := by
  refine ⟨_, cr_maxG hc, fun F G H s σ env xs ds c I rx hg Q q => ?_⟩
  unfold gMax at hg
  split at hg
  · next i l =>
    cases hn : intsOf l with
    | none => rw [hn] at hg; cases hg
    | some ns =>
      rw [hn] at hg
      cases hg
      obtain ⟨v, rfl, rv⟩ := rx.one
      obtain ⟨a, vs, rfl, h1, h2⟩ := rv.lst I
      rw [h2.intsOf (ns := i :: ns) (by simp [intsOf, hn])] at h1
      exact ⟨a, i, ns, rfl, .inl (.inl h1), q _ G H I.refl (.int _)⟩
  · cases hg
theorem cd_min (hc : X.calm = true) : CallD X (.builtin "min") gMin := by
  refine ⟨_, cr_minG hc, fun F G H s σ env xs ds c I rx hg Q q => ?_⟩
  unfold gMin at hg
  split at hg
  · next i l =>
    cases hn : intsOf l with
    | none => rw [hn] at hg; cases hg
    | some ns =>
      rw [hn] at hg
      cases hg
      obtain ⟨v, rfl, rv⟩ := rx.one
      obtain ⟨a, vs, rfl, h1, h2⟩ := rv.lst I
      rw [h2.intsOf (ns := i :: ns) (by simp [intsOf, hn])] at h1
      exact ⟨a, i, ns, rfl, .inl (.inl h1), q _ G H I.refl (.int _)⟩
  · cases hg
def gSumL : List D → Option Cell
  | [.lst l] => (intsOf l).map fun ns => .sh (.int (sumI ns))
  | _ => none
theorem cd_sumL (hc : X.calm = true) : CallD X (.builtin "sum") gSumL := by
  refine ⟨_, cr_sum hc, fun F G H s σ env xs ds c I rx hg Q q => ?_⟩
  unfold gSumL at hg
  split at hg
  · next l =>
    cases hn : intsOf l with
    | none => rw [hn] at hg; cases hg
    | some ns =>
      rw [hn] at hg
      cases hg
      obtain ⟨v, rfl, rv⟩ := rx.one
      obtain ⟨a, vs, rfl, h1, h2⟩ := rv.lst I
      rw [h2.intsOf hn] at h1
      exact ⟨a, ns, rfl, .inl (.inl h1), by rw [← sumI_eq]; exact q _ G H I.refl (.int _)⟩
  · cases hg
def allB : List Bool → Bool
  | [] => true
  | b :: r => b && allB r
def anyB : List Bool → Bool
  | [] => false
  | b :: r => b || anyB r
theorem allB_eq : ∀ l : List Bool, l.all id = allB l
  | [] => rfl
  | b :: r => by rw [List.all_cons, allB, allB_eq r]; rfl
theorem anyB_eq : ∀ l : List Bool, l.any id = anyB l
  | [] => rfl
  | b :: r => by rw [List.any_cons, anyB, anyB_eq r]; rfl
def gAll : List D → Option Cell
  | [.lst l] => (boolsOf l).map fun ns => .sh (.bl (allB ns))
  | _ => none
def gAny : List D → Option Cell
  | [.lst l] => (boolsOf l).map fun ns => .sh (.bl (anyB ns))
  | _ => none
theorem cd_all (hc : X.calm = true) : CallD X (.builtin "all") gAll := by
  refine ⟨_, cr_all hc, fun F G H s σ env xs ds c I rx hg Q q => ?_⟩
  unfold gAll at hg
  split at hg
  · next l =>
    cases hn : boolsOf l with
    | none => rw [hn] at hg; cases hg
    | some ns =>
      rw [hn] at hg
      cases hg
      obtain ⟨v, rfl, rv⟩ := rx.one
      obtain ⟨a, vs, rfl, h1, h2⟩ := rv.lst I
      rw [h2.boolsOf hn] at h1
      exact ⟨a, ns, rfl, .inl (.inl h1), by rw [allB_eq]; exact q _ G H I.refl (.bl _)⟩
  · cases hg
theorem cd_any (hc : X.calm = true) : CallD X (.builtin "any") gAny := by
  refine ⟨_, cr_any hc, fun F G H s σ env xs ds c I rx hg Q q => ?_⟩
  unfold gAny at hg
  split at hg
  · next l =>
    cases hn : boolsOf l with
    | none => rw [hn] at hg; cases hg
    | some ns =>
      rw [hn] at hg
      cases hg
      obtain ⟨v, rfl, rv⟩ := rx.one
      obtain ⟨a, vs, rfl, h1, h2⟩ := rv.lst I
      rw [h2.boolsOf hn] at h1
      exact ⟨a, ns, rfl, .inl (.inl h1), by rw [anyB_eq]; exact q _ G H I.refl (.bl _)⟩
  · cases hg
end
end DL

end
section
set_option Elab.async false
set_option linter.all false
set_option maxRecDepth 100000
set_option autoImplicit false
namespace DL
open PySem PySem.Spec PyProof.Rows L2

/-! ### what is walked -/
structure ItOk {K : PySem.W.Frag} {T : Type} (F : Fm K T) (P : Hp → Hp → Prop) (J : It) (ds : List D) : Prop where
  stop : ∀ G1 H, P G1 H → J.stop ds.length H
  go : ∀ (i : Nat) G1 H, i < ds.length → P G1 H → J.go i H
  yld : ∀ (i : Nat) (d : D) (G1 H : Hp) (s : T) (σ : L2.St) (env : Env) (x : V) (H' : Hp), ds[i]? = some d → P G1 H → StOk F G1 H s σ env → J.yld i H x H' → ∃ G2, After F G1 H G2 H' s ∧ Rep K F.R G2 x d
/-- for loops: the given things stay; comprehensions: all that was tracked stays -/
def Stays {K : PySem.W.Frag} {T : Type} (F : Fm K T) (bor : Bool) (G H : Hp) : Hp → Hp → Prop :=
  if bor then fun G1 H1 => Sub G G1 ∧ ∀ b o, H b = some o → F.W ≠ some b → H1 b = some o else fun G1 H1 => Sub G G1 ∧ Sub G1 H1
def tI (K : PySem.W.Frag) {T : Type} (bor : Bool) (r : RA T) : TI := fun σ H R => ∃ (F : Fm K T) (G : Hp) (s : T) (env : Env) (ds : List D) (s' : T), StOk F G H s σ env ∧ r env s = some (ds, s') ∧
  ∀ J G' H', After F G H G' H' s' → ItOk F (Stays F bor G' H') J ds → R J H'
def DI (X : Cx) {T : Type} (bor : Bool) (tg e : Expr) (r : RA T) : Prop := PI X tg e (tI X.K bor r)
theorem PI.weak {X : Cx} {tg e : Expr} {t t' : TI} (h : PI X tg e t) (w : ∀ σ H R, t' σ H R → t σ H R) : PI X tg e t' := ⟨fun pins s σ H R I hw => h.run pins s σ H R I (w _ _ _ hw)⟩
section
variable {X : Cx} {T : Type} {pos : Pos} {tg : Expr}
/-- a list or a tuple -/
def iSeq (K : PySem.W.Frag) (tl : TE) : TI := fun σ H R => tl σ H fun x H1 => ∃ a, x = .ref a ∧ (((∃ xs, SqL K H1 a xs) ∧ R (Itl K a) H1) ∨ ((∃ xs, SqT K H1 a xs) ∧ R (Itt K a) H1))
theorem pi_seq {l : Expr} {tl : TE} (hl : PE X l tl) : PI X tg l (iSeq X.K tl) := by
  refine ⟨fun pins s σ H R I h => ?_⟩
  refine thn (hl.run pins s σ H _ I h) fun v s1 ⟨x, H1, I1, r1, q1⟩ => ?_
  obtain ⟨a, e, q⟩ := q1
  subst e
  cases r1
  rcases q with ⟨⟨xs, hq⟩, q⟩ | ⟨⟨xs, hq⟩, q⟩
  · obtain ⟨its, rv, p, hz⟩ := I1.list hq
    refine wpAny_pyIter_list p.isList ?_
    refine ⟨s1.heap.objs.size, [s1.heap.objs.size], _, _, H1, rfl, I1.kept (t' := s1.toks) fun b o e => Heap.get?_push_of_some _ e, turn_list a _, ⟨_, Heap.get?_push_size _ rfl, rfl, rfl⟩, fun b hb => ?_, q⟩
    have e : b = s1.heap.objs.size := by simpa using hb
    subst e
    exact I1.fpOk (Nat.le_refl _) (I1.hok.fresh (Nat.le_refl _))
  · obtain ⟨its, rv, p, hz⟩ := I1.tuple hq
    refine wpAny_pyIter_tuple (show s1.heap.IsTuple a its.toArray from p) ?_
    refine ⟨s1.heap.objs.size, [s1.heap.objs.size], _, _, H1, rfl, I1.kept (t' := s1.toks) fun b o e => Heap.get?_push_of_some _ e, turn_tuple a _, ⟨_, Heap.get?_push_size _ rfl, rfl, rfl⟩, fun b hb => ?_, q⟩
    have e : b = s1.heap.objs.size := by simpa using hb
    subst e
    exact I1.fpOk (Nat.le_refl _) (I1.hok.fresh (Nat.le_refl _))
def rItems {T : Type} (r : RE T) : RA T := fun env s => match r env s with
  | some (.lst l, s1) => some (l, s1)
  | some (.tup l, s1) => some (l, s1)
  | _ => none
theorem itl_ok {K : PySem.W.Frag} {F : Fm K T} {P : Hp → Hp → Prop} {G : Hp} {a : Addr} {vs : List V} {ds : List D} (h : ∀ G1 H, P G1 H → H a = some (.lst vs) ∧ (∀ s σ env, StOk F G1 H s σ env → Reps K F.R G1 vs ds)) (hl : vs.length = ds.length) : ItOk F P (Itl K a) ds where
  stop := fun G1 H p => ⟨vs, .inl (.inl (h G1 H p).1), Nat.le_of_eq hl⟩
  go := fun i G1 H hi p => ⟨vs, vs[i]'(by omega), .inl (.inl (h G1 H p).1), by simp⟩
  yld := fun i d G1 H s σ env x H' hd p I ⟨e1, e2⟩ => by
    subst e1
    obtain ⟨h1, h2⟩ := h G1 H' p
    obtain ⟨v, h3, h4⟩ := (h2 s σ env I).get hd
    have e := e2 vs (.inl (.inl h1))
    rw [h3] at e
    cases e
    exact ⟨G1, I.refl, h4⟩
theorem itt_ok {K : PySem.W.Frag} {F : Fm K T} {P : Hp → Hp → Prop} {G : Hp} {a : Addr} {vs : List V} {ds : List D} (h : ∀ G1 H, P G1 H → H a = some (.tup vs) ∧ (∀ s σ env, StOk F G1 H s σ env → Reps K F.R G1 vs ds)) (hl : vs.length = ds.length) : ItOk F P (Itt K a) ds where
  stop := fun G1 H p => ⟨vs, .inl (.inl (h G1 H p).1), Nat.le_of_eq hl⟩
  go := fun i G1 H hi p => ⟨vs, vs[i]'(by omega), .inl (.inl (h G1 H p).1), by simp⟩
  yld := fun i d G1 H s σ env x H' hd p I ⟨e1, e2⟩ => by
    subst e1
    obtain ⟨h1, h2⟩ := h G1 H' p
    obtain ⟨v, h3, h4⟩ := (h2 s σ env I).get hd
    have e := e2 vs (.inl (.inl h1))
    rw [h3] at e
    cases e
    exact ⟨G1, I.refl, h4⟩
/-- for x in e, e given to all -/
theorem di_seq {e : Expr} {r : RE T} (h : DE X e r) : DI X false tg e (rItems r) := PI.weak (pi_seq h) fun σ H R ⟨F, G, s, env, ds, s', I, hr, q⟩ => by
  unfold rItems at hr
  split at hr
  · next l s1 e1 =>
    cases hr
    refine ⟨F, G, s, env, _, _, I, e1, fun v G1 H1 A1 rv => ?_⟩
    cases rv with
    | lst a b =>
      refine ⟨_, rfl, .inl ⟨⟨_, .inl (.inl (A1.sub' _ _ a))⟩, q _ G1 H1 A1 (itl_ok (G := G1) (fun G2 H2 p => ?_) b.length)⟩⟩
      exact ⟨p.2 _ _ (p.1 _ _ a), fun _ _ _ _ => b.mono p.1⟩
  · next l s1 e1 =>
    cases hr
    refine ⟨F, G, s, env, _, _, I, e1, fun v G1 H1 A1 rv => ?_⟩
    cases rv with
    | tup a b =>
      refine ⟨_, rfl, .inr ⟨⟨_, .inl (.inl (A1.sub' _ _ a))⟩, q _ G1 H1 A1 (itt_ok (G := G1) (fun G2 H2 p => ?_) b.length)⟩⟩
      exact ⟨p.2 _ _ (p.1 _ _ a), fun _ _ _ _ => b.mono p.1⟩
  · cases hr
def rangeI : Nat → Int → List D
  | 0, _ => []
  | n + 1, lo => .int lo :: rangeI n (lo + 1)
theorem rangeI_length : ∀ (n : Nat) (lo : Int), (rangeI n lo).length = n
  | 0, _ => rfl
  | n + 1, lo => by rw [rangeI, List.length_cons, rangeI_length n]
theorem rangeI_get : ∀ (n : Nat) (lo : Int) (i : Nat) (d : D), (rangeI n lo)[i]? = some d → d = .int (lo + i)
  | 0, _, _, _, h => by simp [rangeI] at h
  | n + 1, lo, 0, d, h => by simp [rangeI] at h; subst h; simp
  | n + 1, lo, i + 1, d, h => by
    have h' : (rangeI n (lo + 1))[i]? = some d := by simpa [rangeI] using h
    rw [rangeI_get n (lo + 1) i d h']
    congr 1
    omega
def okR (i : Int) : Bool := decide (-(2 ^ 62) ≤ i) && decide (i < 2 ^ 62)
def rRange1 {T : Type} (r : RA T) : RA T := fun env s => match r env s with
  | some ([.int j], s1) => if okR j then some (rangeI j.toNat 0, s1) else none
  | _ => none
def rRange2 {T : Type} (r : RA T) : RA T := fun env s => match r env s with
  | some ([.int i, .int j], s1) => if okR i && okR j then some (rangeI (j - i).toNat i, s1) else none
  | _ => none
theorem itr_ok {K : PySem.W.Frag} {F : Fm K T} {P : Hp → Hp → Prop} {lo : Int} {n : Nat} : ItOk F P (Itr lo n) (rangeI n lo) where
  stop := fun G1 H p => by rw [rangeI_length]; exact Nat.le_refl _
  go := fun i G1 H hi p => by rw [rangeI_length] at hi; exact hi
  yld := fun i d G1 H s σ env x H' hd p I ⟨e1, e2⟩ => by
    subst e1 e2
    rw [rangeI_get n lo i d hd]
    exact ⟨G1, I.refl, .int _⟩
theorem di_range1 {a : Expr} {r : RA T} {p : Pos} {bor : Bool} (hg : Gl X "range") (hm : X.mg "range" = none) (ha : DA X [a] r) (hs : starEach [a] X.env = [(false, eval a X.env)] := by rfl) : DI X bor tg (.Call (.Name "range" p) [a] [] pos) (rRange1 r) :=
  PI.weak (pi_range1 hg hm ha hs) fun σ H R ⟨F, G, s, env, ds, s', I, hr, q⟩ => by
    unfold rRange1 at hr
    split at hr
    · next j s1 e1 =>
      split at hr
      · next hc =>
        cases hr
        simp only [okR, Bool.and_eq_true, decide_eq_true_eq] at hc
        refine ⟨F, G, s, env, _, _, I, e1, fun vs G1 H1 A1 rvs => ?_⟩
        cases rvs with
        | cons a b =>
          cases a; cases b
          exact ⟨j, rfl, hc.1, hc.2, q _ G1 H1 A1 itr_ok⟩
      · cases hr
    · cases hr
theorem di_range2 {a b : Expr} {r : RA T} {p : Pos} {bor : Bool} (hg : Gl X "range") (hm : X.mg "range" = none) (ha : DA X [a, b] r) (hs : starEach [a, b] X.env = [(false, eval a X.env), (false, eval b X.env)] := by rfl) (hs2 : starEach [b] X.env = [(false, eval b X.env)] := by rfl) :
    DI X bor tg (.Call (.Name "range" p) [a, b] [] pos) (rRange2 r) :=
  PI.weak (pi_range2 hg hm ha hs hs2) fun σ H R ⟨F, G, s, env, ds, s', I, hr, q⟩ => by
    unfold rRange2 at hr
    split at hr
    · next i j s1 e1 =>
      split at hr
      · next hc =>
        cases hr
        simp only [okR, Bool.and_eq_true, decide_eq_true_eq] at hc
        refine ⟨F, G, s, env, _, _, I, e1, fun vs G1 H1 A1 rvs => ?_⟩
        cases rvs with
        | cons a b =>
          cases b with
          | cons b c =>
            cases a; cases b; cases c
            exact ⟨i, j, rfl, ⟨hc.1.1, hc.1.2, hc.2.1, hc.2.2⟩, q _ G1 H1 A1 itr_ok⟩
      · cases hr
    · cases hr
/-- [.. for x in e ..], e borrowed -/
theorem dib_seq {e : Expr} {r : RE T} (h : DB X e r) : DI X true tg e (rItems r) := PI.weak (pi_seq h) fun σ H R ⟨F, G, s, env, ds, s', I, hr, q⟩ => by
  unfold rItems at hr
  split at hr
  · next l s1 e1 =>
    cases hr
    refine ⟨F, G, s, env, _, _, I, e1, fun v G1 H1 A1 rv => ?_⟩
    have I1 := I.after A1
    rcases rv with rv | ⟨i, h1, h2⟩
    · cases rv with
      | @lst a vs _ x y =>
        refine ⟨_, rfl, .inl ⟨⟨_, .inl (.inl (A1.sub' _ _ x))⟩, q _ G1 H1 A1 (itl_ok (G := G1) (fun G2 H2 p => ?_) y.length)⟩⟩
        refine ⟨p.2 _ _ (A1.sub' _ _ x) fun w => ?_, fun _ _ _ _ => y.mono p.1⟩
        rw [(F.off A1.rel _ w).1] at x; cases x
    · obtain ⟨a, h3, h4⟩ := I1.ow i _ h1
      rw [h2] at h3
      cases h3
      obtain ⟨vs, h5, h6⟩ := h4.own
      refine ⟨_, rfl, .inl ⟨⟨_, .inl (.inl h5)⟩, q _ G1 H1 A1 (itl_ok (G := G1) (fun G2 H2 p => ?_) h6.length)⟩⟩
      exact ⟨p.2 _ _ h5 h4.w, fun _ _ _ _ => h6.mono p.1⟩
  · next l s1 e1 =>
    cases hr
    refine ⟨F, G, s, env, _, _, I, e1, fun v G1 H1 A1 rv => ?_⟩
    have I1 := I.after A1
    obtain ⟨a, vs, rfl, x, y⟩ := rv.tup I1
    refine ⟨_, rfl, .inr ⟨⟨_, .inl (.inl (A1.sub' _ _ x))⟩, q _ G1 H1 A1 (itt_ok (G := G1) (fun G2 H2 p => ?_) y.length)⟩⟩
    refine ⟨p.2 _ _ (A1.sub' _ _ x) fun w => ?_, fun _ _ _ _ => y.mono p.1⟩
    rw [(F.off A1.rel _ w).1] at x; cases x
  · cases hr

/-! ### targets -/
abbrev RG := D → Env → Option Env
def tGd (K : PySem.W.Frag) (T : Type) (g : RG) (is : List Nat) : TG := fun v σ H Q => ∃ (F : Fm K T) (G : Hp) (s : T) (env : Env) (d : D) (env' : Env), StOk F G H s σ env ∧ Rep K F.R G v d ∧ g d env = some env' ∧
  ∀ σ', StOk F G H s σ' env' → σ'.length = σ.length → (∀ k, k ∉ is → σ'[k]? = σ[k]?) → Q σ' H
def DG (X : Cx) (T : Type) (tg : Expr) (g : RG) (is : List Nat) : Prop := PG X tg (tGd X.K T g is)
theorem PG.weak {X : Cx} {tg : Expr} {t t' : TG} (h : PG X tg t) (w : ∀ v σ H Q, t' v σ H Q → t v σ H Q) : PG X tg t' := ⟨fun pins s σ H v u Q I r hw => h.run pins s σ H v u Q I r (w _ _ _ _ hw)⟩
/-- the value of a cell -/
def CellW {K : PySem.W.Frag} (F : Fm K T) (G H : Hp) (v : V) : Cell → Prop
  | .no => False
  | .sh d => Rep K F.R G v d
  | .ow d => ∃ p, v = .ref p ∧ OwnAt F G H p d
theorem CellV.w {K : PySem.W.Frag} {F : Fm K T} {Hs G H : Hp} {v : V} {c : Cell} (h : CellV F Hs G H v c) : CellW F G H v c := by
  cases c with
  | no => exact h
  | sh d => exact h
  | ow d =>
    obtain ⟨p, e, h1, _⟩ := h
    exact ⟨p, e, h1⟩
theorem StOk.set {K : PySem.W.Frag} {F : Fm K T} {G H : Hp} {s : T} {σ : L2.St} {env : Env} {v : V} {c : Cell} (I : StOk F G H s σ env) (i : Nat) (h : CellW F G H v c)
    (nd : ∀ (j : Nat) d e a, c = .ow e → v = .ref a → env[j]? = some (.ow d) → σ[j]? ≠ some (some (.ref a))) : StOk F G H s (σ.set i (some v)) (env.set i c) where
  sub := I.sub
  len := by rw [List.length_set, List.length_set]; exact I.len
  g0 := I.g0
  h0 := I.h0
  fr := I.fr
  rel := I.rel
  sh := fun j d e => by
    by_cases hj : i = j
    · subst hj
      by_cases hi : i < env.length
      · rw [List.getElem?_set_self hi] at e
        cases e
        exact ⟨v, List.getElem?_set_self (by rw [I.len]; exact hi), h⟩
      · rw [List.getElem?_eq_none (by rw [List.length_set]; omega)] at e; cases e
    · rw [List.getElem?_set_ne hj] at e
      rw [List.getElem?_set_ne hj]
      exact I.sh j d e
  ow := fun j d e => by
    by_cases hj : i = j
    · subst hj
      by_cases hi : i < env.length
      · rw [List.getElem?_set_self hi] at e
        cases e
        obtain ⟨p, rfl, h1⟩ := h
        exact ⟨p, List.getElem?_set_self (by rw [I.len]; exact hi), h1⟩
      · rw [List.getElem?_eq_none (by rw [List.length_set]; omega)] at e; cases e
    · rw [List.getElem?_set_ne hj] at e
      rw [List.getElem?_set_ne hj]
      exact I.ow j d e
  dj := fun j k d e a e1 e2 e3 e4 => by
    have key : ∀ (j k : Nat) (d e : D), (env.set i c)[j]? = some (.ow d) → (env.set i c)[k]? = some (.ow e) → (σ.set i (some v))[j]? = some (some (.ref a)) → (σ.set i (some v))[k]? = some (some (.ref a)) → i = j → j = k := by
      intro j k d e e1 e2 e3 e4 hj
      subst hj
      by_cases hk : i = k
      · exact hk
      · exfalso
        by_cases hi : i < env.length
        · rw [List.getElem?_set_self hi] at e1
          rw [List.getElem?_set_self (by rw [I.len]; exact hi)] at e3
          cases e1
          cases e3
          rw [List.getElem?_set_ne hk] at e2 e4
          exact nd k _ _ a rfl rfl e2 e4
        · rw [List.getElem?_eq_none (by rw [List.length_set]; omega)] at e1; cases e1
    by_cases hj : i = j
    · exact key j k d e e1 e2 e3 e4 hj
    · by_cases hk : i = k
      · exact (key k j e d e2 e1 e4 e3 hk).symm
      · rw [List.getElem?_set_ne hj] at e1 e3
        rw [List.getElem?_set_ne hk] at e2 e4
        exact I.dj j k d e a e1 e2 e3 e4
theorem StOk.set_sh {K : PySem.W.Frag} {F : Fm K T} {G H : Hp} {s : T} {σ : L2.St} {env : Env} {v : V} {d : D} (I : StOk F G H s σ env) (i : Nat) (h : Rep K F.R G v d) : StOk F G H s (σ.set i (some v)) (env.set i (.sh d)) :=
  I.set i (c := .sh d) h fun j d e a e1 => nomatch e1
def gdName (i : Nat) : RG := fun d env => some (env.set i (.sh d))
theorem dg_name {e : Expr} {i : Nat} (h : PG X e (gName i)) : DG X T e (gdName i) [i] := PG.weak h fun v σ H Q ⟨F, G, s, env, d, env', I, r, hg, q⟩ => by
  cases hg
  exact q _ (I.set_sh i r) (by rw [List.length_set]) fun k hk => List.getElem?_set_ne fun e => hk (by rw [e]; exact List.mem_cons_self)
abbrev RGs := List D → Env → Option Env
def tGs (K : PySem.W.Frag) (T : Type) (g : RGs) (is : List Nat) : TGs := fun vs σ H Q => ∃ (F : Fm K T) (G : Hp) (s : T) (env : Env) (ds : List D) (env' : Env), StOk F G H s σ env ∧ Reps K F.R G vs ds ∧ g ds env = some env' ∧
  ∀ σ', StOk F G H s σ' env' → σ'.length = σ.length → (∀ k, k ∉ is → σ'[k]? = σ[k]?) → Q σ' H
def DGs (X : Cx) (T : Type) (tg : List Expr) (g : RGs) (is : List Nat) : Prop := PGs X tg (tGs X.K T g is)
theorem PGs.weak {X : Cx} {tg : List Expr} {t t' : TGs} (h : PGs X tg t) (w : ∀ v σ H Q, t' v σ H Q → t v σ H Q) : PGs X tg t' := ⟨fun pins s σ H v u Q I r hw => h.run pins s σ H v u Q I r (w _ _ _ _ hw)⟩
def gdNil : RGs
  | [], env => some env
  | _ :: _, _ => none
def gdCons (g : RG) (gs : RGs) : RGs
  | [], _ => none
  | d :: ds, env => match g d env with
    | some env1 => gs ds env1
    | none => none
theorem dgs_nil : DGs X T [] gdNil [] := PGs.weak pgs_nil fun v σ H Q ⟨F, G, s, env, d, env', I, r, hg, q⟩ => by
  cases r with
  | nil => cases hg; exact ⟨rfl, q σ I rfl fun _ _ => rfl⟩
  | cons => cases hg
theorem dgs_cons {e : Expr} {es : List Expr} {g : RG} {gs : RGs} {i : List Nat} {is : List Nat} (h1 : DG X T e g i) (h2 : DGs X T es gs is) (hs : (assignEach (e :: es) X.env).map (·.2) = assign e X.env :: (assignEach es X.env).map (·.2) := by rfl) : DGs X T (e :: es) (gdCons g gs) (i ++ is) :=
  PGs.weak (pgs_cons h1 h2 hs) fun v σ H Q ⟨F, G, s, env, d, env', I, r, hg, q⟩ => by
    cases r with
    | nil => cases hg
    | cons a b =>
      unfold gdCons at hg
      dsimp only at hg
      split at hg
      · next env1 e1 =>
        refine ⟨_, _, rfl, F, G, s, env, _, env1, I, a, e1, fun σ1 I1 l1 k1 => ?_⟩
        refine ⟨F, G, s, env1, _, env', I1, b, hg, fun σ2 I2 l2 k2 => q σ2 I2 (l2.trans l1) fun k hk => ?_⟩
        rw [k2 k fun z => hk (List.mem_append_right _ z), k1 k fun z => hk (List.mem_append_left _ z)]
      · cases hg
def gdTup (n : Nat) (gs : RGs) : RG
  | .tup ds, env => if ds.length = n then gs ds env else none
  | _, _ => none
theorem dg_tup {es : List Expr} {k : Nat} {gs : RGs} {is : List Nat} {n : Nat} (hc : X.calm = true) (h : DGs X T es gs is)
    (hn : (assignEach es X.env).length = n := by rfl) (hst : (assignEach es X.env).findIdx? (·.1) = none := by rfl) : DG X T (.Tuple es k pos) (gdTup n gs) is :=
  PG.weak (pg_tup hc h hn hst) fun v σ H Q ⟨F, G, s, env, d, env', I, r, hg, q⟩ => by
    unfold gdTup at hg
    split at hg
    · next ds =>
      split at hg
      · next hl =>
        cases r with
        | tup a b => exact ⟨_, _, rfl, .inl (.inl (I.sub _ _ a)), by rw [b.length]; exact hl, F, G, s, env, ds, env', I, b, hg, q⟩
      · cases hg
    · cases hg
end

/-! ### comprehensions -/
def wipeE (env : Env) : List Nat → Env
  | [] => env
  | v :: vs => (wipeE env vs).set v .no
section
variable {K : PySem.W.Frag} {T : Type} {F : Fm K T} {G H G1 H1 G2 H2 : Hp} {s s1 s2 : T} {σ : L2.St} {env : Env}
theorem StOk.no (I : StOk F G H s σ env) (i : Nat) (o : Option V) : StOk F G H s (σ.set i o) (env.set i .no) where
  sub := I.sub
  len := by rw [List.length_set, List.length_set]; exact I.len
  g0 := I.g0
  h0 := I.h0
  fr := I.fr
  rel := I.rel
  sh := fun j d e => by
    by_cases hj : i = j
    · subst hj
      by_cases hi : i < env.length
      · rw [List.getElem?_set_self hi] at e; cases e
      · rw [List.getElem?_eq_none (by rw [List.length_set]; omega)] at e; cases e
    · rw [List.getElem?_set_ne hj] at e ⊢
      exact I.sh j d e
  ow := fun j d e => by
    by_cases hj : i = j
    · subst hj
      by_cases hi : i < env.length
      · rw [List.getElem?_set_self hi] at e; cases e
      · rw [List.getElem?_eq_none (by rw [List.length_set]; omega)] at e; cases e
    · rw [List.getElem?_set_ne hj] at e ⊢
      exact I.ow j d e
  dj := fun j k d e a e1 e2 e3 e4 => by
    have no : ∀ {j : Nat} {d : D}, i = j → (env.set i .no)[j]? ≠ some (.ow d) := fun {j d} hj e => by
      subst hj
      by_cases hi : i < env.length
      · rw [List.getElem?_set_self hi] at e; cases e
      · rw [List.getElem?_eq_none (by rw [List.length_set]; omega)] at e; cases e
    by_cases hj : i = j
    · exact absurd e1 (no hj)
    · by_cases hk : i = k
      · exact absurd e2 (no hk)
      · rw [List.getElem?_set_ne hj] at e1 e3
        rw [List.getElem?_set_ne hk] at e2 e4
        exact I.dj j k d e a e1 e2 e3 e4
theorem StOk.wipe (I : StOk F G H s σ env) : ∀ vs : List Nat, StOk F G H s (L2.wipe σ vs) (wipeE env vs)
  | [] => I
  | v :: vs => (StOk.wipe I vs).no v none
/-- an object that nobody but me knows is written -/
theorem StOk.put {D' : Addr} {o : HO} (I : StOk F G H s σ env) (g : G D' = none) (h0 : F.H0 D' = none) (w : F.W ≠ some D') (off : ∀ (i : Nat) d, env[i]? = some (.ow d) → σ[i]? ≠ some (some (.ref D'))) : StOk F G (upd H D' o) s σ env where
  sub := fun b u e => by rw [upd_ne (ne_of_none e g)]; exact I.sub b u e
  len := I.len
  g0 := I.g0
  h0 := fun b u e n => by rw [upd_ne (ne_of_none e h0)]; exact I.h0 b u e n
  fr := I.fr
  rel := F.keep I.rel (fun _ _ e => e) fun b hb => ⟨(F.off I.rel b hb).1, fun u e => by rw [upd_ne (fun z : b = D' => w (by rw [← z]; exact hb))]; exact e⟩
  sh := I.sh
  ow := fun i d e => by
    obtain ⟨a, h1, h2⟩ := I.ow i d e
    refine ⟨a, h1, h2.g, h2.h0, h2.w, h2.own.keep (fun _ _ e => e) fun u e2 => ?_⟩
    rw [upd_ne]; exact e2
    intro z; subst z; exact off i d e h1
  dj := I.dj
end
def lcL {T : Type} (g : RG) (tt : RB T) (te : RE T) (env : Env) : List D → T → Option (List D × T)
  | [], s => some ([], s)
  | d :: ds, s => match g d env with
    | none => none
    | some env1 => match tt env1 s with
      | none => none
      | some (false, s1) => lcL g tt te env ds s1
      | some (true, s1) => match te env1 s1 with
        | none => none
        | some (y, s2) => match lcL g tt te env ds s2 with
          | none => none
          | some (ys, s3) => some (y :: ys, s3)
def rLc {T : Type} (ri : RA T) (g : RG) (tt : RB T) (te : RE T) (vs : List Nat) : RC T := fun env s => match ri env s with
  | none => none
  | some (ds, s1) => if ds.length ≤ most then match lcL g tt te (wipeE env vs) ds s1 with
      | none => none
      | some (ys, s2) => some (.ow (.lst ys), s2)
    else none
theorem wipe_get {σ : L2.St} {i : Nat} : ∀ {vs : List Nat}, i ∈ vs → i < σ.length → (wipe σ vs)[i]? = some none
  | [], h, _ => by cases h
  | v :: vs, h, hl => by
    unfold wipe
    by_cases hv : v = i
    · subst hv; exact List.getElem?_set_self (by rw [wipe_length]; exact hl)
    · rw [List.getElem?_set_ne hv]
      rcases List.mem_cons.mp h with e | h
      · exact absurd e.symm hv
      · exact wipe_get h hl
theorem wipe_same {σ σ' : L2.St} {vs : List Nat} (hl : σ'.length = σ.length) (h : ∀ k, k ∉ vs → σ'[k]? = σ[k]?) : wipe σ' vs = wipe σ vs := by
  apply List.ext_getElem?
  intro k
  by_cases hk : k ∈ vs
  · by_cases hb : k < σ.length
    · rw [wipe_get hk hb, wipe_get hk (by omega)]
    · rw [List.getElem?_eq_none (by rw [wipe_length]; omega), List.getElem?_eq_none (by rw [wipe_length]; omega)]
  · rw [wipe_out hk, wipe_out hk]; exact h k hk
theorem wipe_wipe {σ σ' : L2.St} {vs : List Nat} (hl : σ'.length = (wipe σ vs).length) (h : ∀ k, k ∉ vs → σ'[k]? = (wipe σ vs)[k]?) : wipe σ' vs = wipe σ vs := by
  rw [wipe_length] at hl
  exact wipe_same hl fun k hk => by rw [h k hk, wipe_out hk]
def DTs (X : Cx) {T : Type} (ifs : List Expr) (r : RB T) : Prop := PTs X ifs (tT X.K r)
theorem PTs.weak {X : Cx} {e : List Expr} {t t' : TT} (h : PTs X e t) (w : ∀ σ H Q, t' σ H Q → t σ H Q) : PTs X e t' := ⟨fun pins s σ H Q I hw => h.run pins s σ H Q I (w _ _ _ hw)⟩
def rYes (T : Type) : RB T := fun _ s => some (true, s)
theorem dts_nil {X : Cx} {T : Type} : DTs X [] (rYes T) := PTs.weak pts_nil fun σ H Q ⟨F, G, s, env, c, s', I, hr, q⟩ => by cases hr; exact q G H I.refl
theorem dts_one {X : Cx} {T : Type} {c : Expr} {r : RB T} (h : DT X c r) : DTs X [c] r := pts_one h
section
variable {X : Cx} {T : Type} {pos : Pos}
theorem lc_ok {K : PySem.W.Frag} {ri : RA T} {g : RG} {tt : RB T} {te : RE T} {vs is : List Nat} {σ : L2.St} {H : Hp} {Q : VK} (hv : ∀ i ∈ is, i ∈ vs) (h : tV K (rLc ri g tt te vs) σ H Q) : tLc (tI K true ri) (tGd K T g is) (tT K tt) (tD K te) vs σ H Q := by
  obtain ⟨F, G, s, env, c, s', I, hr, q⟩ := h
  unfold rLc at hr
  split at hr
  · cases hr
  next ds s1 e1 =>
  split at hr
  · next hz =>
    split at hr
    · cases hr
    next ys s2 e2 =>
    cases hr
    refine ⟨F, G, s, env, ds, s1, I, e1, fun J G1 H1 A1 it D' nD => ?_⟩
    have I1 := I.after A1
    have off : ∀ (i : Nat) d, (wipeE env vs)[i]? = some (.ow d) → (wipe σ vs)[i]? ≠ some (some (.ref D')) := fun i d e1 e2 => by
      obtain ⟨a, h1, h2⟩ := (I1.wipe vs).ow i d e1
      rw [e2] at h1
      cases h1
      exact h2.own.there nD
    refine ⟨fun i m H => m = ds.length - i ∧ i ≤ ds.length ∧ ∃ (G : Hp) (s : T) (acc : List D) (rest : List D), StOk F G H s (wipe σ vs) (wipeE env vs) ∧ After F G1 H1 G H s ∧ OwnAt F G H D' (.lst acc) ∧ acc.length ≤ i ∧
        lcL g tt te (wipeE env vs) (ds.drop i) s = some (rest, s') ∧ acc ++ rest = ys, ⟨ds.length, by simp, Nat.zero_le _, G1, s1, [], ys, ?_, ?_, ?_, Nat.le_refl _, by simpa using e2, rfl⟩, ?_⟩
    · exact (I1.wipe vs).after (new_ow I1 nD)
    · exact new_ow I1 nD
    · obtain ⟨p, e, h1, _⟩ := new_own (ds := []) I1 nD .nil
      cases e; exact h1
    · rintro i m H2 ⟨rfl, hi, G2, s2, acc, rest, I2, A2, o2, la, e3, e4⟩
      have st : Stays F true G1 H1 G2 H2 := ⟨A2.sub, A2.kp⟩
      by_cases hlt : i < ds.length
      · refine .inr ⟨it.go i G2 H2 hlt st, fun H' => ∃ (G : Hp) (s : T) (acc : List D) (rest : List D), StOk F G H' s (wipe σ vs) (wipeE env vs) ∧ After F G1 H1 G H' s ∧ OwnAt F G H' D' (.lst acc) ∧ acc.length ≤ i + 1 ∧
            lcL g tt te (wipeE env vs) (ds.drop (i + 1)) s = some (rest, s') ∧ acc ++ rest = ys, fun H' nx => ⟨ds.length - (i + 1), by omega, rfl, hlt, nx⟩, fun x H' y => ?_⟩
        obtain ⟨G3, A3, r3⟩ := it.yld i ds[i] G2 H2 s2 _ _ x H' (List.getElem?_eq_getElem hlt) st I2 y
        have I3 := I2.after A3
        rw [List.drop_eq_getElem_cons hlt] at e3
        unfold lcL at e3
        split at e3
        · cases e3
        next env1 g1 =>
        refine ⟨F, G3, s2, wipeE env vs, ds[i], env1, I3, r3, g1, fun σ2 J2 l2 k2 => ⟨?_, ?_⟩⟩
        · exact wipe_wipe l2 fun k hk => k2 k fun z => hk (hv k z)
        · have o3 := o2.after A3
          split at e3
          · cases e3
          · next s4 t4 =>
            refine ⟨F, G3, s2, env1, false, s4, J2, t4, fun G4 H4 A4 => ?_⟩
            refine iteF ?_
            have A34 := A3.trans A4
            exact ⟨G4, s4, acc, rest, I2.after A34, A2.trans A34, o2.after A34, by omega, e3, e4⟩
          · next s4 t4 =>
            split at e3
            · cases e3
            next y' s5 t5 =>
            split at e3
            · cases e3
            next ys' s6 t6 =>
            cases e3
            refine ⟨F, G3, s2, env1, true, s4, J2, t4, fun G4 H4 A4 => ?_⟩
            refine iteT ?_
            refine ⟨F, G4, s4, env1, y', s5, J2.after A4, t5, fun v G5 H5 A5 r5 => ?_⟩
            have A35 := (A3.trans A4).trans A5
            have o5 := o2.after A35
            obtain ⟨us, h1, h2⟩ := o5.own
            have I5 := I2.after A35
            have h2l := h2.length
            refine ⟨us, h1, by rw [h2l]; exact most_lt (by omega), G5, s5, acc ++ [y'], ys', ?_, ?_, ?_, by rw [List.length_append]; simp; omega, t6, by rw [List.append_assoc]; exact e4⟩
            · exact I5.put o5.g o5.h0 o5.w off
            · have A6 := A2.trans A35
              refine ⟨A6.sub, fun b o e n => ?_, A6.fr, fun b o e => ?_, ?_⟩
              · rw [upd_ne (ne_of_none e nD)]; exact A6.kp b o e n
              · rw [upd_ne (ne_of_none e o5.g)]; exact A6.sub' b o e
              · exact (I5.put (o := .lst (us ++ [v])) o5.g o5.h0 o5.w off).rel
            · exact ⟨o5.g, o5.h0, o5.w, us ++ [v], upd_same, h2.append (.cons r5 .nil)⟩
      · have e : i = ds.length := by omega
        subst e
        rw [List.drop_length] at e3
        cases e3
        rw [List.append_nil] at e4
        subst e4
        exact .inl ⟨it.stop G2 H2 st, q _ G2 H2 (A1.trans A2) ⟨D', rfl, o2, A1.none nD o2.w⟩⟩
  · cases hr
theorem dv_lc {elt tg iter : Expr} {ifs : List Expr} {scope : Scope} {own : List (Str × Nat)} {ri : RA T} {g : RG} {tt : RB T} {te : RE T} {is : List Nat} (hc : X.calm = true) (hN : X.N.Nodup) (hi : DI X true tg iter ri) (ok : BlkOk X.N X.env.scope scope own)
    (hv : ∀ i ∈ is, i ∈ own.map (·.2))
    (hg : ∀ (s : Shared) (H : Hp) (C : Addr) (cl : List (Str × Addr)) (fp : List Addr), DG (X.blk s H scope (compEnvC scope cl C X.env) fp) T tg g is) (ht : ∀ (s : Shared) (H : Hp) (C : Addr) (cl : List (Str × Addr)) (fp : List Addr), DTs (X.blk s H scope (compEnvC scope cl C X.env) fp) ifs tt)
    (he : ∀ (s : Shared) (H : Hp) (C : Addr) (cl : List (Str × Addr)) (fp : List Addr), DE (X.blk s H scope (compEnvC scope cl C X.env) fp) elt te) (hs : ∀ x, foldedSetIterable iter X.env x = pure x := by intro _; rfl) :
    DV X (.ListComp elt [⟨tg, iter, ifs, 0⟩] scope pos) (rLc ri g tt te (own.map (·.2))) :=
  PE.weak (pe_lc (wi := tI X.K true ri) (g := tGd X.K T g is) (tt := tT X.K tt) (te := tD X.K te) hc hN hi ok hg ht he hs) fun σ H Q h => lc_ok hv h
end
end DL

end
section
set_option Elab.async false
set_option linter.all false
set_option maxRecDepth 100000
set_option autoImplicit false
namespace DL
open PySem PySem.Spec PyProof.Rows L2

/-! ### statements -/
inductive Out (T : Type) where
  | nx (env : Env) (s : T)
  | rt (d : D) (s : T)
  | bk (env : Env) (s : T)
  | ct (env : Env) (s : T)
abbrev RS (T : Type) := Env → T → Option (Out T)
def OutOk {K : PySem.W.Frag} {T : Type} (F : Fm K T) (G : Hp) (D' : Ends) : Out T → Prop
  | .nx env s => ∀ σ G' H', Sub G G' → StOk F G' H' s σ env → D'.nx σ H'
  | .bk env s => ∀ σ G' H', Sub G G' → StOk F G' H' s σ env → D'.bk σ H'
  | .ct env s => ∀ σ G' H', Sub G G' → StOk F G' H' s σ env → D'.ct σ H'
  | .rt d s => ∀ v G' H' σ env, Sub G G' → StOk F G' H' s σ env → Rep K F.R G' v d → D'.rt v H'
theorem OutOk.mono {K : PySem.W.Frag} {T : Type} {F : Fm K T} {G G1 : Hp} {D' : Ends} (e : Sub G G1) : ∀ {o : Out T}, OutOk F G D' o → OutOk F G1 D' o
  | .nx _ _, h => fun σ G' H' e' I => h σ G' H' (e.tr e') I
  | .bk _ _, h => fun σ G' H' e' I => h σ G' H' (e.tr e') I
  | .ct _ _, h => fun σ G' H' e' I => h σ G' H' (e.tr e') I
  | .rt _ _, h => fun v G' H' σ env e' I r => h v G' H' σ env (e.tr e') I r
def tS (K : PySem.W.Frag) {T : Type} (r : RS T) : TS := fun D' σ H => ∃ (F : Fm K T) (G : Hp) (s : T) (env : Env) (o : Out T), StOk F G H s σ env ∧ r env s = some o ∧ OutOk F G D' o
def DS (X : Cx) {T : Type} (st : Stmt) (r : RS T) : Prop := PS X st (tS X.K r)
def DSs (X : Cx) {T : Type} (st : List Stmt) (r : RS T) : Prop := PSs X st (tS X.K r)
section
variable {X : Cx} {T : Type} {pos : Pos}
def rSkip (T : Type) : RS T := fun env s => some (.nx env s)
def rSeq {T : Type} (a b : RS T) : RS T := fun env s => match a env s with
  | some (.nx env1 s1) => b env1 s1
  | o => o
theorem dss_nil : DSs X [] (rSkip T) := PSs.weak pss_nil fun D' σ H ⟨F, G, s, env, o, I, hr, q⟩ => by cases hr; exact q σ G H (Sub.rfl' G) I
theorem dss_cons {st : Stmt} {rest : List Stmt} {a b : RS T} (h1 : DS X st a) (h2 : DSs X rest b) : DSs X (st :: rest) (rSeq a b) := PSs.weak (pss_cons h1 h2) fun D' σ H ⟨F, G, s, env, o, I, hr, q⟩ => by
  unfold rSeq at hr
  split at hr
  · next env1 s1 e1 => exact ⟨F, G, s, env, _, I, e1, fun σ1 G1 H1 e I1 => ⟨F, G1, s1, env1, o, I1, hr, q.mono e⟩⟩
  · next hn =>
    refine ⟨F, G, s, env, o, I, hr, ?_⟩
    cases o with
    | nx env1 s1 => exact absurd hr (hn env1 s1)
    | _ => exact q
theorem dss_one {st : Stmt} {a : RS T} (h : DS X st a) : DSs X [st] a := pss_one h
theorem ds_pass : DS X (.Pass pos) (rSkip T) := PS.weak ps_pass fun D' σ H ⟨F, G, s, env, o, I, hr, q⟩ => by cases hr; exact q σ G H (Sub.rfl' G) I
def rBreak (T : Type) : RS T := fun env s => some (.bk env s)
def rCont (T : Type) : RS T := fun env s => some (.ct env s)
theorem ds_break : DS X (.Break pos) (rBreak T) := PS.weak ps_break fun D' σ H ⟨F, G, s, env, o, I, hr, q⟩ => by cases hr; exact q σ G H (Sub.rfl' G) I
theorem ds_cont : DS X (.Continue pos) (rCont T) := PS.weak ps_continue fun D' σ H ⟨F, G, s, env, o, I, hr, q⟩ => by cases hr; exact q σ G H (Sub.rfl' G) I
def rRet {T : Type} (r : RE T) : RS T := fun env s => match r env s with
  | some (d, s1) => some (.rt d s1)
  | none => none
theorem ds_ret {e : Expr} {r : RE T} (h : DE X e r) : DS X (.Return (some e) pos) (rRet r) := PS.weak (ps_ret h) fun D' σ H ⟨F, G, s, env, o, I, hr, q⟩ => by
  unfold rRet at hr
  split at hr
  · next d s1 e1 => cases hr; exact ⟨F, G, s, env, d, s1, I, e1, fun v G1 H1 A1 rv => q v G1 H1 σ env A1.sub (I.after A1) rv⟩
  · cases hr
def rDrop {T : Type} (r : RE T) : RS T := fun env s => match r env s with
  | some (_, s1) => some (.nx env s1)
  | none => none
theorem ds_expr {e : Expr} {r : RE T} (h : DE X e r) (hs : swapsWith e none pos.line X.env = pure false := by rfl) : DS X (.Expr e pos) (rDrop r) := PS.weak (ps_expr h hs) fun D' σ H ⟨F, G, s, env, o, I, hr, q⟩ => by
  unfold rDrop at hr
  split at hr
  · next d s1 e1 => cases hr; exact ⟨F, G, s, env, d, s1, I, e1, fun v G1 H1 A1 rv => q σ G1 H1 A1.sub (I.after A1)⟩
  · cases hr
def rIfS {T : Type} (c : RB T) (a b : RS T) : RS T := fun env s => match c env s with
  | some (true, s1) => a env s1
  | some (false, s1) => b env s1
  | none => none
theorem ds_if {c : Expr} {sa sb : List Stmt} {rc : RB T} {a b : RS T} (hc : DT X c rc) (ha : DSs X sa a) (hb : DSs X sb b) : DS X (.If c sa sb pos) (rIfS rc a b) := PS.weak (ps_if hc ha hb) fun D' σ H ⟨F, G, s, env, o, I, hr, q⟩ => by
  unfold rIfS at hr
  split at hr
  · next s1 e1 => exact ⟨F, G, s, env, true, s1, I, e1, fun G1 H1 A1 => iteT ⟨F, G1, s1, env, o, I.after A1, hr, q.mono A1.sub⟩⟩
  · next s1 e1 => exact ⟨F, G, s, env, false, s1, I, e1, fun G1 H1 A1 => iteF ⟨F, G1, s1, env, o, I.after A1, hr, q.mono A1.sub⟩⟩
  · cases hr

/-! ### sharing -/
def shareE (env : Env) : List Nat → Env
  | [] => env
  | i :: is => match env[i]? with
    | some (.ow d) => shareE (env.set i (.sh d)) is
    | _ => shareE env is
theorem StOk.share {K : PySem.W.Frag} {F : Fm K T} {G H : Hp} {s : T} {σ : L2.St} {env : Env} {i : Nat} {d : D} (I : StOk F G H s σ env) (e : env[i]? = some (.ow d)) : ∃ G', Sub G G' ∧ StOk F G' H s σ (env.set i (.sh d)) := by
  obtain ⟨a, h1, h2⟩ := I.ow i d e
  have hi : i < env.length := (List.getElem?_eq_some_iff.mp e).1
  have sg : Sub G (give G H a) := give_sub h2.g
  have other : ∀ (j : Nat) d', i ≠ j → env[j]? = some (.ow d') → ∃ b, σ[j]? = some (some (.ref b)) ∧ b ≠ a := fun j d' hj e' => by
    obtain ⟨b, q1, q2⟩ := I.ow j d' e'
    exact ⟨b, q1, fun z => hj (I.dj i j d d' a e e' h1 (z ▸ q1))⟩
  refine ⟨give G H a, sg, give_sub' I.sub, by rw [List.length_set]; exact I.len, I.g0.tr sg, I.h0, fun b n => ?_, give_rel I.rel h2.g h2.w, fun j d' e' => ?_, fun j d' e' => ?_, fun j k d1 d2 b e1 e2 e3 e4 => ?_⟩
  · by_cases hb : b = a
    · subst hb; exact .inr h2.h0
    · rw [give_ne hb] at n; exact I.fr b n
  · by_cases hj : i = j
    · subst hj
      rw [List.getElem?_set_self hi] at e'
      cases e'
      exact ⟨_, h1, h2.rep⟩
    · rw [List.getElem?_set_ne hj] at e'
      obtain ⟨v, q1, q2⟩ := I.sh j d' e'
      exact ⟨v, q1, q2.mono sg⟩
  · by_cases hj : i = j
    · subst hj
      rw [List.getElem?_set_self hi] at e'
      cases e'
    · rw [List.getElem?_set_ne hj] at e'
      obtain ⟨b, q1, q2⟩ := I.ow j d' e'
      obtain ⟨b', q3, q4⟩ := other j d' hj e'
      rw [q1] at q3
      cases q3
      exact ⟨b, q1, by rw [give_ne q4]; exact q2.g, q2.h0, q2.w, q2.own.keep sg fun _ z => z⟩
  · by_cases hj : i = j
    · subst hj; rw [List.getElem?_set_self hi] at e1; cases e1
    · by_cases hk : i = k
      · subst hk; rw [List.getElem?_set_self hi] at e2; cases e2
      · rw [List.getElem?_set_ne hj] at e1
        rw [List.getElem?_set_ne hk] at e2
        exact I.dj j k d1 d2 b e1 e2 e3 e4
theorem StOk.shares {K : PySem.W.Frag} {F : Fm K T} {H : Hp} {s : T} {σ : L2.St} : ∀ (is : List Nat) {G : Hp} {env : Env}, StOk F G H s σ env → ∃ G', Sub G G' ∧ StOk F G' H s σ (shareE env is)
  | [], G, env, I => ⟨G, Sub.rfl' G, I⟩
  | i :: is, G, env, I => by
    unfold shareE
    split
    · next d e =>
      obtain ⟨G1, s1, I1⟩ := I.share e
      obtain ⟨G2, s2, I2⟩ := StOk.shares is I1
      exact ⟨G2, s1.tr s2, I2⟩
    · exact StOk.shares is I
def rShare {T : Type} (is : List Nat) (r : RS T) : RS T := fun env s => r (shareE env is) s
theorem ds_share {st : Stmt} {r : RS T} (is : List Nat) (h : DS X st r) : DS X st (rShare is r) := PS.weak h fun D' σ H ⟨F, G, s, env, o, I, hr, q⟩ => by
  obtain ⟨G1, s1, I1⟩ := I.shares is
  exact ⟨F, G1, s, _, o, I1, hr, q.mono s1⟩

/-! ### stores -/
def rSet {T : Type} (i : Nat) (r : RC T) : RS T := fun env s => match r env s with
  | some (c, s1) => some (.nx (env.set i c) s1)
  | none => none
theorem set_ok {K : PySem.W.Frag} {i : Nat} {r : RC T} {D' : Ends} {σ : L2.St} {H : Hp} (h : tS K (rSet i r) D' σ H) : tV K r σ H fun x H1 => gName i x σ H1 D'.nx := by
  obtain ⟨F, G, s, env, o, I, hr, q⟩ := h
  unfold rSet at hr
  split at hr
  · next c s1 e1 =>
    cases hr
    refine ⟨F, G, s, env, c, s1, I, e1, fun v G1 H1 A1 h => ?_⟩
    have I1 := I.after A1
    refine q _ G1 H1 A1.sub (I1.set i h.w fun j d e a hc hv e2 e3 => ?_)
    subst hc hv
    obtain ⟨p, hp, _, hn⟩ := h
    cases hp
    obtain ⟨b, q1, q2⟩ := I.ow j d e2
    rw [e3] at q1
    cases q1
    exact q2.own.there hn
  · cases hr
theorem ds_set {i : Nat} {x : Str} {e : Expr} {r : RC T} {pos' : Pos} (hN : X.N.Nodup) (hi : X.N[i]? = some x) (hx : Loc X.env.scope x) (he : DV X e r) (hs : swapsWith e (some (.Name x pos')) pos.line X.env = pure false := by rfl) (hf : X.fn x = true ∨ X.env.scope.names.lookup x = some .local := by first | exact .inl rfl | exact .inr rfl | assumption) :
    DS X (.Assign [.Name x pos'] e pos) (rSet i r) := PS.weak (ps_set hN hi hx he hs hf) fun D' σ H h => set_ok h
theorem ds_setLc {i : Nat} {y : Str} {py : Pos} {elt tg iter : Expr} {ifs : List Expr} {scope : Scope} {own : List (Str × Nat)} {spos : Pos} {ri : RA T} {g : RG} {tt : RB T} {te : RE T} {is : List Nat} (hc : X.calm = true) (hN : X.N.Nodup) (hy : X.N[i]? = some y) (hyl : X.env.scope.names.lookup y = some .local)
    (hsw : swapsWith (.ListComp elt [⟨tg, iter, ifs, 0⟩] scope pos) (some (.Name y py)) spos.line X.env = pure true) (hi : DI X true tg iter ri) (ok : BlkOk X.N X.env.scope scope own)
    (hv : ∀ i ∈ is, i ∈ own.map (·.2))
    (hg : ∀ (s : Shared) (H : Hp) (C : Addr) (cl : List (Str × Addr)) (fp : List Addr), DG (X.blk s H scope (compEnvC scope cl C X.env) fp) T tg g is) (ht : ∀ (s : Shared) (H : Hp) (C : Addr) (cl : List (Str × Addr)) (fp : List Addr), DTs (X.blk s H scope (compEnvC scope cl C X.env) fp) ifs tt)
    (he : ∀ (s : Shared) (H : Hp) (C : Addr) (cl : List (Str × Addr)) (fp : List Addr), DE (X.blk s H scope (compEnvC scope cl C X.env) fp) elt te) (hs : ∀ x, foldedSetIterable iter X.env x = pure x := by intro _; rfl) :
    DS X (.Assign [.Name y py] (.ListComp elt [⟨tg, iter, ifs, 0⟩] scope pos) spos) (rSet i (rLc ri g tt te (own.map (·.2)))) :=
  PS.weak (ps_setLc (wi := tI X.K true ri) (g := tGd X.K T g is) (tt := tT X.K tt) (te := tD X.K te) hc hN hy hyl hsw hi ok hg ht he hs) fun D' σ H h => lc_ok hv (set_ok h)
/-- a, b = e -/
def rAsg {T : Type} (r : RE T) (g : RG) : RS T := fun env s => match r env s with
  | some (d, s1) => match g d env with
    | some env1 => some (.nx env1 s1)
    | none => none
  | none => none
theorem ds_asg {tg e : Expr} {r : RE T} {g : RG} {is : List Nat} (he : DE X e r) (hg : DG X T tg g is) (hs : swapsWithSole [tg] e pos.line X.env = pure false := by rfl) (hw : swappedStores [tg] e X.env = pure none := by rfl)
    (h1 : (assignEach [tg] X.env).map (·.2) = [assign tg X.env] := by rfl) : DS X (.Assign [tg] e pos) (rAsg r g) := PS.weak (ps_asg he hg hs hw h1) fun D' σ H ⟨F, G, s, env, o, I, hr, q⟩ => by
  unfold rAsg at hr
  split at hr
  · next d s1 e1 =>
    split at hr
    · next env1 e2 =>
      cases hr
      refine ⟨F, G, s, env, d, s1, I, e1, fun v G1 H1 A1 rv => ?_⟩
      exact ⟨F, G1, s1, env, d, env1, I.after A1, rv, e2, fun σ' I' _ _ => q σ' G1 H1 A1.sub I'⟩
    · cases hr
  · cases hr

/-! ### a, b, .. = x, y, .. -/
abbrev RCs (T : Type) := Env → T → Option (List Cell × T)
inductive CellVs {K : PySem.W.Frag} {T : Type} (F : Fm K T) (Hs G H : Hp) : List V → List Cell → Prop
  | nil : CellVs F Hs G H [] []
  | cons {v : V} {vs : List V} {c : Cell} {cs : List Cell} : CellV F Hs G H v c → CellVs F Hs G H vs cs → (∀ (a : Addr) d, c = .ow d → v = .ref a → ∀ (k : Nat) e, cs[k]? = some (.ow e) → vs[k]? ≠ some (.ref a)) → CellVs F Hs G H (v :: vs) (c :: cs)
def tCs (K : PySem.W.Frag) {T : Type} (r : RCs T) : TA := fun σ H Q => ∃ (F : Fm K T) (G : Hp) (s : T) (env : Env) (cs : List Cell) (s' : T), StOk F G H s σ env ∧ r env s = some (cs, s') ∧
  ∀ vs G' H', After F G H G' H' s' → CellVs F H G' H' vs cs → Q vs H'
def DC (X : Cx) {T : Type} (es : List Expr) (r : RCs T) : Prop := PA X es (tCs X.K r)
def rCNil (T : Type) : RCs T := fun _ s => some ([], s)
def rCCons {T : Type} (a : RC T) (r : RCs T) : RCs T := fun env s => match a env s with
  | some (c, s1) => match r env s1 with
    | some (cs, s2) => some (c :: cs, s2)
    | none => none
  | none => none
theorem dc_nil : DC X [] (rCNil T) := PA.weak pa_nil fun σ H Q ⟨F, G, s, env, ds, s', I, hr, q⟩ => by
  cases hr; exact q [] G H I.refl .nil
theorem CellV.after {K : PySem.W.Frag} {F : Fm K T} {Hs G H G1 H1 : Hp} {s1 : T} {v : V} {c : Cell} (A : After F G H G1 H1 s1) (h : CellV F Hs G H v c) : CellV F Hs G1 H1 v c := by
  cases c with
  | no => exact h
  | sh d => exact Rep.mono A.sub h
  | ow d =>
    obtain ⟨p, e, h1, h2⟩ := h
    exact ⟨p, e, h1.after A, h2⟩
theorem CellVs.back {K : PySem.W.Frag} {F : Fm K T} {G H G1 H1 G2 H2 : Hp} {s1 : T} (A : After F G H G1 H1 s1) : ∀ {vs : List V} {cs : List Cell}, CellVs F H1 G2 H2 vs cs → CellVs F H G2 H2 vs cs
  | _, _, .nil => .nil
  | _, _, .cons a b c => .cons (a.back A) (CellVs.back A b) c
theorem CellVs.length {K : PySem.W.Frag} {F : Fm K T} {Hs G H : Hp} : ∀ {vs : List V} {cs : List Cell}, CellVs F Hs G H vs cs → vs.length = cs.length
  | _, _, .nil => rfl
  | _, _, .cons _ b _ => by rw [List.length_cons, List.length_cons, CellVs.length b]
theorem CellVs.get {K : PySem.W.Frag} {F : Fm K T} {Hs G H : Hp} : ∀ {vs : List V} {cs : List Cell} {k : Nat} {e : D}, CellVs F Hs G H vs cs → cs[k]? = some (.ow e) → ∃ p, vs[k]? = some (.ref p) ∧ Hs p = none
  | _, _, _, _, .nil, h => by simp at h
  | _, _, 0, _, .cons a b c, h => by
    simp at h; subst h
    obtain ⟨p, e, _, h2⟩ := a
    exact ⟨p, by simp [e], h2⟩
  | _, _, k + 1, _, .cons a b c, h => by
    obtain ⟨p, h1, h2⟩ := CellVs.get (k := k) b (by simpa using h)
    exact ⟨p, by simpa using h1, h2⟩
theorem dc_cons {e : Expr} {es : List Expr} {a : RC T} {r : RCs T} (ha : DV X e a) (hr : DC X es r) (hs : starEach (e :: es) X.env = (false, eval e X.env) :: starEach es X.env := by rfl) : DC X (e :: es) (rCCons a r) :=
  PA.weak (pa_cons ha hr hs) fun σ H Q ⟨F, G, s, env, ds, s', I, hr, q⟩ => by
    unfold rCCons at hr
    split at hr
    · next c s1 e1 =>
      split at hr
      · next cs s2 e2 =>
        cases hr
        refine ⟨F, G, s, env, c, s1, I, e1, fun v G1 H1 A1 rv => ?_⟩
        refine ⟨F, G1, s1, env, cs, _, I.after A1, e2, fun vs G2 H2 A2 rvs => q _ G2 H2 (A1.trans A2) (.cons (rv.after A2) (rvs.back A1) ?_)⟩
        intro p d hc hv k e hk hvk
        subst hc hv
        obtain ⟨p', hp, h1, _⟩ := rv
        cases hp
        obtain ⟨p2, h3, h4⟩ := rvs.get hk
        rw [hvk] at h3
        cases h3
        exact h1.own.there h4
      · cases hr
    · cases hr
def setAll {α : Type} (l : List α) : List Nat → List α → List α
  | i :: is, c :: cs => setAll (l.set i c) is cs
  | _, _ => l
theorem StOk.setAll {K : PySem.W.Frag} {F : Fm K T} {Hs G H : Hp} {s : T} : ∀ (is : List Nat) {σ : L2.St} {env : Env} {vs : List V} {cs : List Cell}, StOk F G H s σ env → CellVs F Hs G H vs cs →
    (∀ (j : Nat) d a, env[j]? = some (.ow d) → σ[j]? = some (some (.ref a)) → ∀ (k : Nat) e, cs[k]? = some (.ow e) → vs[k]? ≠ some (.ref a)) → StOk F G H s (DL.setAll σ is (vs.map some)) (DL.setAll env is cs)
  | [], σ, env, vs, cs, I, h, _ => by cases h <;> exact I
  | i :: is, σ, env, _, _, I, .nil, _ => I
  | i :: is, σ, env, _, _, I, .cons (v := v) (vs := vs) (c := c) (cs := cs) a b x, old => by
    have I1 := I.set i a.w fun j d e p hc hv e2 e3 => old j d p e2 e3 0 e (by rw [hc]; rfl) (by rw [hv]; rfl)
    refine StOk.setAll is I1 b fun j d p e1 e2 k e hk => ?_
    by_cases hj : i = j
    · subst hj
      by_cases hi : i < env.length
      · rw [List.getElem?_set_self hi] at e1
        rw [List.getElem?_set_self (by rw [I.len]; exact hi)] at e2
        cases e1; cases e2
        exact x p d rfl rfl k e hk
      · rw [List.getElem?_eq_none (by rw [List.length_set]; omega)] at e1; cases e1
    · rw [List.getElem?_set_ne hj] at e1 e2
      exact old j d p e1 e2 (k + 1) e (by simpa using hk)
def rPar {T : Type} (is : List Nat) (r : RCs T) : RS T := fun env s => match r env s with
  | some (cs, s1) => if cs.length = is.length then some (.nx (setAll env is cs) s1) else none
  | none => none
theorem par_ok {K : PySem.W.Frag} {is : List Nat} {r : RCs T} {D' : Ends} {σ : L2.St} {H : Hp} {R : List V → Hp → Prop} (h : tS K (rPar is r) D' σ H)
    (hR : ∀ (F : Fm K T) (s : T) (env : Env) (vs : List V) (G1 H1 : Hp), vs.length = is.length → StOk F G1 H1 s (setAll σ is (vs.map some)) env → (∀ σ' G' H', Sub G1 G' → StOk F G' H' s σ' env → D'.nx σ' H') → R vs H1) : tCs K r σ H R := by
  obtain ⟨F, G, s, env, o, I, hr, q⟩ := h
  unfold rPar at hr
  split at hr
  · next cs s1 e1 =>
    split at hr
    · next hl =>
      cases hr
      refine ⟨F, G, s, env, cs, s1, I, e1, fun vs G1 H1 A1 h => ?_⟩
      have lv : vs.length = cs.length := h.length
      have I1 := I.after A1
      refine hR F s1 _ vs G1 H1 (lv.trans hl) (I1.setAll is h fun j d a e2 e3 k e hk hv => ?_) fun σ' G' H' e I' => q σ' G' H' (A1.sub.tr e) I'
      obtain ⟨p, h3, h4⟩ := h.get hk
      rw [hv] at h3
      cases h3
      obtain ⟨b, q1, q2⟩ := I.ow j d e2
      rw [e3] at q1
      cases q1
      exact q2.own.there h4
    · cases hr
  · cases hr
theorem ds_par2 {i j : Nat} {x y : Str} {a b : Expr} {r : RCs T} {px py pt : Pos} {kt k2 pt2} (hc : X.calm = true) (hN : X.N.Nodup) (hi : X.N[i]? = some x) (hj : X.N[j]? = some y) (hij : i ≠ j)
    (hx : X.env.scope.names.lookup x = some .local) (hy : X.env.scope.names.lookup y = some .local) (ha : DC X [a, b] r)
    (hw : swappedStores [.Tuple [.Name x px, .Name y py] kt pt] (.Tuple [a, b] k2 pt2) X.env = pure (some [x, y]))
    (hs : swapsWithSole [.Tuple [.Name x px, .Name y py] kt pt] (.Tuple [a, b] k2 pt2) pos.line X.env = pure false := by rfl) :
    DS X (.Assign [.Tuple [.Name x px, .Name y py] kt pt] (.Tuple [a, b] k2 pt2) pos) (rPar [i, j] r) :=
  PS.weak (ps_par hc hN hi hj hij hx hy ha hw hs) fun D' σ H h => par_ok h fun F s env vs G1 H1 hl I q => by
    match vs, hl with
    | [v, w], _ => exact ⟨v, w, rfl, q _ G1 H1 (Sub.rfl' G1) I⟩

/-! ### x += e -/
def rAug {T : Type} (i : Nat) (g : D → D → Option D) (r : RE T) : RS T := fun env s => match env[i]? with
  | some (.sh d) => match r env s with
    | some (e, s1) => match g d e with
      | some f => some (.nx (env.set i (.sh f)) s1)
      | none => none
    | none => none
  | _ => none
def gP (p : Int → Int → Option D) : D → D → Option D
  | .int i, .int j => p i j
  | _, _ => none
def IpD (X : Cx) (op : Operator) (g : D → D → Option D) : Prop := ∃ r : TIp, PIp X op r ∧ ∀ (x y : V) (d e f : D), g d e = some f → (∀ K R G, Rep K R G x d → Rep K R G y e → ∀ H Q, (∀ v, Rep K R G v f → Q v H) → r x y H Q)
theorem ipd_i {op : Operator} {f : Int → Int → Int} (h : PIp X op (ipI f)) : IpD X op (gP fun i j => some (.int (f i j))) := ⟨_, h, fun x y d e c hg K R G rx ry H Q q => by
  unfold gP at hg
  split at hg
  · cases hg
    cases rx; cases ry
    exact ⟨_, _, rfl, rfl, q _ (.int _)⟩
  · cases hg⟩
theorem ds_aug {i : Nat} {x : Str} {e : Expr} {r : RE T} {op : Operator} {g : D → D → Option D} {pos' : Pos} (hN : X.N.Nodup) (hi : X.N[i]? = some x) (hx : Loc X.env.scope x) (he : DE X e r) (ho : IpD X op g) (hf : X.fn x = true ∨ X.env.scope.names.lookup x = some .local := by first | exact .inl rfl | exact .inr rfl | assumption) :
    DS X (.AugAssign (.Name x pos') op e pos) (rAug i g r) := by
  obtain ⟨ri, ho, hq⟩ := ho
  refine PS.weak (ps_aug hN hi hx he ho hf) fun D' σ H ⟨F, G, s, env, o, I, hr, q⟩ => ?_
  unfold rAug at hr
  split at hr
  · next d e0 =>
    split at hr
    · next e' s1 e1 =>
      split at hr
      · next f e2 =>
        cases hr
        obtain ⟨v, h1, h2⟩ := I.sh i d e0
        refine ⟨v, h1, F, G, s, env, e', s1, I, e1, fun w G1 H1 A1 rw' => ?_⟩
        exact hq v w d e' f e2 X.K F.R G1 (h2.mono A1.sub) rw' H1 _ fun z rz => q _ G1 H1 A1.sub ((I.after A1).set_sh i rz)
      · cases hr
    · cases hr
  · cases hr

/-! ### loops -/
def loopL {T : Type} (g : RG) (b : RS T) : List D → Env → T → Option (Out T)
  | [], env, s => some (.nx env s)
  | d :: ds, env, s => match g d env with
    | none => none
    | some env1 => match b env1 s with
      | some (.nx env2 s2) => loopL g b ds env2 s2
      | some (.ct env2 s2) => loopL g b ds env2 s2
      | some (.bk env2 s2) => some (.nx env2 s2)
      | some (.rt d s2) => some (.rt d s2)
      | none => none
def rFor {T : Type} (ri : RA T) (g : RG) (b : RS T) : RS T := fun env s => match ri env s with
  | some (ds, s1) => loopL g b ds env s1
  | none => none
theorem ds_for {tg iter : Expr} {body : List Stmt} {ri : RA T} {g : RG} {b : RS T} {is : List Nat} (hp : PassesOwn (model X.prog X.w) X.A X.env X.xe) (hc : X.calm = true) (hi : DI X false tg iter ri) (hg : DG X T tg g is) (hb : DSs X body b)
    (hs : ∀ x, foldedSetIterable iter X.env x = pure x := by intro _; rfl) : DS X (.For tg iter body [] pos) (rFor ri g b) :=
  PS.weak (ps_for hp hc hi hg hb hs) fun D' σ H ⟨F, G, s, env, o, I, hr, q⟩ => by
    unfold rFor at hr
    split at hr
    · next ds s1 e1 =>
      refine ⟨F, G, s, env, ds, s1, I, e1, fun J G1 H1 A1 it => ?_⟩
      refine ⟨fun i m σ H => m = ds.length - i ∧ i ≤ ds.length ∧ ∃ (G2 : Hp) (s : T) (env : Env), StOk F G2 H s σ env ∧ Sub G1 G2 ∧ loopL g b (ds.drop i) env s = some o, ⟨ds.length, by simp, Nat.zero_le _, G1, s1, env, I.after A1, Sub.rfl' G1, by simpa using hr⟩, ?_⟩
      rintro i m σ2 H2 ⟨rfl, hi', G2, s2, env2, I2, sb, e2⟩
      have st : Stays F false G1 H1 G2 H2 := ⟨sb, I2.sub⟩
      by_cases hlt : i < ds.length
      · refine .inr ⟨it.go i G2 H2 hlt st, fun σ' H' => ∃ (G2 : Hp) (s : T) (env : Env), StOk F G2 H' s σ' env ∧ Sub G1 G2 ∧ loopL g b (ds.drop (i + 1)) env s = some o, fun σ' H' nx => ⟨ds.length - (i + 1), by omega, rfl, hlt, nx⟩, fun x H' y => ?_⟩
        obtain ⟨G3, A3, r3⟩ := it.yld i ds[i] G2 H2 s2 _ _ x H' (List.getElem?_eq_getElem hlt) st I2 y
        have I3 := I2.after A3
        rw [List.drop_eq_getElem_cons hlt] at e2
        unfold loopL at e2
        split at e2
        · cases e2
        next env3 g3 =>
        refine ⟨F, G3, s2, env2, ds[i], env3, I3, r3, g3, fun σ3 I4 _ _ => ?_⟩
        have sb3 : Sub G1 G3 := sb.tr A3.sub
        split at e2
        · next env4 s4 e4 => exact ⟨F, G3, s2, env3, _, I4, e4, fun σ5 G5 H5 s5 I5 => ⟨G5, _, _, I5, sb3.tr s5, e2⟩⟩
        · next env4 s4 e4 => exact ⟨F, G3, s2, env3, _, I4, e4, fun σ5 G5 H5 s5 I5 => ⟨G5, _, _, I5, sb3.tr s5, e2⟩⟩
        · next env4 s4 e4 => cases e2; exact ⟨F, G3, s2, env3, _, I4, e4, fun σ5 G5 H5 s5 I5 => q σ5 G5 H5 (A1.sub.tr (sb3.tr s5)) I5⟩
        · next d4 s4 e4 => cases e2; exact ⟨F, G3, s2, env3, _, I4, e4, fun v G5 H5 σ5 env5 s5 I5 r5 => q v G5 H5 σ5 env5 (A1.sub.tr (sb3.tr s5)) I5 r5⟩
        · cases e2
      · have e : i = ds.length := by omega
        subst e
        rw [List.drop_length] at e2
        cases e2
        exact .inl ⟨it.stop G2 H2 st, q σ2 G2 H2 (A1.sub.tr sb) I2⟩
    · cases hr
/-- while, at most n turns -/
def rWhile {T : Type} (c : RB T) (b : RS T) : Nat → Env → T → Option (Out T)
  | 0, _, _ => none
  | n + 1, env, s => match c env s with
    | none => none
    | some (false, s1) => some (.nx env s1)
    | some (true, s1) => match b env s1 with
      | some (.nx env2 s2) => rWhile c b n env2 s2
      | some (.ct env2 s2) => rWhile c b n env2 s2
      | some (.bk env2 s2) => some (.nx env2 s2)
      | some (.rt d s2) => some (.rt d s2)
      | none => none
theorem ds_while {c : Expr} {body : List Stmt} {rc : RB T} {b : RS T} (n : Nat) (hp : PassesOwn (model X.prog X.w) X.A X.env X.xe) (hc : DT X c rc) (hb : DSs X body b) : DS X (.While c body [] pos) (rWhile rc b n) :=
  PS.weak (ps_while hp hc hb) fun D' σ H ⟨F, G, s, env, o, I, hr, q⟩ => by
    refine ⟨fun m σ H => ∃ (G2 : Hp) (s : T) (env : Env), StOk F G2 H s σ env ∧ Sub G G2 ∧ rWhile rc b m env s = some o, ⟨n, G, s, env, I, Sub.rfl' G, hr⟩, ?_⟩
    rintro m σ2 H2 ⟨G2, s2, env2, I2, sb, e2⟩
    cases m with
    | zero => cases e2
    | succ m =>
      unfold rWhile at e2
      split at e2
      · cases e2
      · next s3 e3 =>
        cases e2
        exact ⟨F, G2, s2, env2, false, s3, I2, e3, fun G3 H3 A3 => iteF (q σ2 G3 H3 (sb.tr A3.sub) (I2.after A3))⟩
      · next s3 e3 =>
        refine ⟨F, G2, s2, env2, true, s3, I2, e3, fun G3 H3 A3 => iteT ?_⟩
        refine ⟨fun σ' H' => ∃ (G2 : Hp) (s : T) (env : Env), StOk F G2 H' s σ' env ∧ Sub G G2 ∧ rWhile rc b m env s = some o, fun σ' H' nx => ⟨m, Nat.lt_succ_self m, nx⟩, ?_⟩
        have sb3 : Sub G G3 := sb.tr A3.sub
        have I3 := I2.after A3
        split at e2
        · next env4 s4 e4 => exact ⟨F, G3, s3, env2, _, I3, e4, fun σ5 G5 H5 s5 I5 => ⟨G5, _, _, I5, sb3.tr s5, e2⟩⟩
        · next env4 s4 e4 => exact ⟨F, G3, s3, env2, _, I3, e4, fun σ5 G5 H5 s5 I5 => ⟨G5, _, _, I5, sb3.tr s5, e2⟩⟩
        · next env4 s4 e4 => cases e2; exact ⟨F, G3, s3, env2, _, I3, e4, fun σ5 G5 H5 s5 I5 => q σ5 G5 H5 (sb3.tr s5) I5⟩
        · next d4 s4 e4 => cases e2; exact ⟨F, G3, s3, env2, _, I3, e4, fun v G5 H5 σ5 env5 s5 I5 r5 => q v G5 H5 σ5 env5 (sb3.tr s5) I5 r5⟩
        · cases e2

/-! ### lists of one's own, changed -/
theorem StOk.own_set {K : PySem.W.Frag} {F : Fm K T} {G H : Hp} {s : T} {σ : L2.St} {env : Env} {i : Nat} {ds ds' : List D} {a : Addr} {vs' : List V} (I : StOk F G H s σ env) (e : env[i]? = some (.ow (.lst ds))) (ha : σ[i]? = some (some (.ref a))) (r : Reps K F.R G vs' ds') :
    StOk F G (upd H a (.lst vs')) s σ (env.set i (.ow (.lst ds'))) := by
  have hi : i < env.length := (List.getElem?_eq_some_iff.mp e).1
  obtain ⟨a', h1, h2⟩ := I.ow i _ e
  rw [ha] at h1
  cases h1
  have ne : ∀ {b : Addr} {o : HO}, G b = some o → b ≠ a := fun {b o} q => ne_of_none q h2.g
  refine ⟨fun b o q => by rw [upd_ne (ne q)]; exact I.sub b o q, by rw [List.length_set]; exact I.len, I.g0, fun b o q n => by rw [upd_ne (ne_of_none q h2.h0)]; exact I.h0 b o q n, I.fr, ?_, fun j d q => ?_, fun j d q => ?_, fun j k d1 d2 b e1 e2 e3 e4 => ?_⟩
  · exact F.keep I.rel (fun _ _ q => q) fun b hb => ⟨(F.off I.rel b hb).1, fun o q => by rw [upd_ne (fun z : b = a => h2.w (by rw [← z]; exact hb))]; exact q⟩
  · by_cases hj : i = j
    · subst hj; rw [List.getElem?_set_self hi] at q; cases q
    · rw [List.getElem?_set_ne hj] at q; exact I.sh j d q
  · by_cases hj : i = j
    · subst hj
      rw [List.getElem?_set_self hi] at q
      cases q
      exact ⟨a, ha, h2.g, h2.h0, h2.w, vs', upd_same, r⟩
    · rw [List.getElem?_set_ne hj] at q
      obtain ⟨b, q1, q2⟩ := I.ow j d q
      refine ⟨b, q1, q2.g, q2.h0, q2.w, q2.own.keep (fun _ _ z => z) fun o z => ?_⟩
      rw [upd_ne]; exact z
      intro hb; subst hb
      exact hj (I.dj i j _ _ b e q ha q1)
  · have back : ∀ {j : Nat} {d : D}, (env.set i (.ow (.lst ds')))[j]? = some (.ow d) → ∃ d', env[j]? = some (.ow d') := fun {j d} q => by
      by_cases hj : i = j
      · subst hj; exact ⟨_, e⟩
      · rw [List.getElem?_set_ne hj] at q; exact ⟨_, q⟩
    obtain ⟨d1', f1⟩ := back e1
    obtain ⟨d2', f2⟩ := back e2
    exact I.dj j k d1' d2' b f1 f2 e3 e4
theorem own_slot {K : PySem.W.Frag} {F : Fm K T} {G H : Hp} {s : T} {σ : L2.St} {env : Env} {i : Nat} {ds : List D} (I : StOk F G H s σ env) (e : env[i]? = some (.ow (.lst ds))) : ∃ a vs, σ[i]? = some (some (.ref a)) ∧ H a = some (.lst vs) ∧ Reps K F.R G vs ds := by
  obtain ⟨a, h1, h2⟩ := I.ow i _ e
  obtain ⟨vs, h3, h4⟩ := h2.own
  exact ⟨a, vs, h1, h3, h4⟩
/-- x.append(e) -/
def rAppend' {T : Type} (i : Nat) (r : RE T) : RS T := fun env s => match r env s with
  | some (d, s1) => match env[i]? with
    | some (.ow (.lst l)) => if l.length < most then some (.nx (env.set i (.ow (.lst (l ++ [d])))) s1) else none
    | _ => none
  | none => none
theorem ds_append {i : Nat} {o e : Expr} {r : RE T} {cpos apos : Pos} (ho : PE X o (tVar i)) (he : DE X e r)
    (hbase : attributeBase o (Str.ofString "append") X.env (eval o X.env) = eval o X.env := by rfl)
    (hfew : ((backTo cpos (starEach (e :: []) X.env)).all (fun x => !x.1) && (backToKw cpos (keywordEach [] X.env)).all (fun x => x.1.isSome)
      && decide ((e :: ([] : List Expr)).length + ([] : List Keyword).length + (if ([] : List Keyword).isEmpty then 0 else 1) < 30)) = true := by rfl)
    (hline : (apos.endLine == cpos.line) = true := by rfl) (hs : starEach (e :: []) X.env = (false, eval e X.env) :: starEach [] X.env := by rfl) (hplain : (backTo cpos (starEach [] X.env)).any (·.1) = false := by rfl)
    (hsw : swapsWith (.Call (.Attribute o (Str.ofString "append") apos) [e] [] cpos) none pos.line X.env = pure false := by rfl) : DS X (.Expr (.Call (.Attribute o (Str.ofString "append") apos) [e] [] cpos) pos) (rAppend' i r) :=
  PS.weak (ps_expr (pe_bm PySem.F.plainAttrs_list PySem.F.slot_list_append PySem.F.type_list_append mt_append ho (pa_cons he pa_nil hs) hbase hfew hline hs hplain) hsw) fun D' σ H ⟨F, G, s, env, o', I, hr, q⟩ => by
    unfold rAppend' at hr
    split at hr
    · next d s1 e1 =>
      split at hr
      · next l e2 =>
        split at hr
        · next hz =>
          cases hr
          obtain ⟨a, vs, h1, h2, h3⟩ := own_slot I e2
          refine ⟨.ref a, h1, .inl ⟨rfl, vs, .inl (.inl h2)⟩, F, G, s, env, d, s1, I, e1, fun v G1 H1 A1 rv => ?_⟩
          have I1 := I.after A1
          obtain ⟨a', vs', h1', h2', h3'⟩ := own_slot I1 e2
          rw [h1] at h1'
          cases h1'
          refine ⟨a, vs', v, rfl, rfl, h2', by rw [h3'.length]; exact most_lt hz, ?_⟩
          exact q σ G1 _ A1.sub (I1.own_set e2 h1 (h3'.append (.cons rv .nil)))
        · cases hr
      · cases hr
    · cases hr
/-- x.extend(e), e a list -/
def rExtend' {T : Type} (i : Nat) (r : RE T) : RS T := fun env s => match r env s with
  | some (.lst m, s1) => match env[i]? with
    | some (.ow (.lst l)) => if l.length + m.length ≤ most then some (.nx (env.set i (.ow (.lst (l ++ m)))) s1) else none
    | _ => none
  | _ => none
theorem ds_extend {i : Nat} {o e : Expr} {r : RE T} {cpos apos : Pos} (ho : PE X o (tVar i)) (he : DE X e r)
    (hbase : attributeBase o (Str.ofString "extend") X.env (eval o X.env) = eval o X.env := by rfl)
    (hfew : ((backTo cpos (starEach (e :: []) X.env)).all (fun x => !x.1) && (backToKw cpos (keywordEach [] X.env)).all (fun x => x.1.isSome)
      && decide ((e :: ([] : List Expr)).length + ([] : List Keyword).length + (if ([] : List Keyword).isEmpty then 0 else 1) < 30)) = true := by rfl)
    (hline : (apos.endLine == cpos.line) = true := by rfl) (hs : starEach (e :: []) X.env = (false, eval e X.env) :: starEach [] X.env := by rfl) (hplain : (backTo cpos (starEach [] X.env)).any (·.1) = false := by rfl)
    (hsw : swapsWith (.Call (.Attribute o (Str.ofString "extend") apos) [e] [] cpos) none pos.line X.env = pure false := by rfl) : DS X (.Expr (.Call (.Attribute o (Str.ofString "extend") apos) [e] [] cpos) pos) (rExtend' i r) :=
  PS.weak (ps_expr (pe_bm PySem.F.plainAttrs_list PySem.F.slot_list_extend PySem.F.type_list_extend mt_extend ho (pa_cons he pa_nil hs) hbase hfew hline hs hplain) hsw) fun D' σ H ⟨F, G, s, env, o', I, hr, q⟩ => by
    unfold rExtend' at hr
    split at hr
    · next m s1 e1 =>
      split at hr
      · next l e2 =>
        split at hr
        · next hz =>
          cases hr
          obtain ⟨a, vs, h1, h2, h3⟩ := own_slot I e2
          refine ⟨.ref a, h1, .inl ⟨rfl, vs, .inl (.inl h2)⟩, F, G, s, env, _, s1, I, e1, fun v G1 H1 A1 rv => ?_⟩
          have I1 := I.after A1
          obtain ⟨a', vs', h1', h2', h3'⟩ := own_slot I1 e2
          rw [h1] at h1'
          cases h1'
          cases rv with
          | lst x y =>
            refine ⟨a, _, vs', _, rfl, rfl, h2', I1.sub _ _ x, by rw [h3'.length, y.length]; exact most_le hz, ?_⟩
            exact q σ G1 _ A1.sub (I1.own_set e2 h1 (h3'.append y))
        · cases hr
      · cases hr
    · cases hr
/-- x[k] = e, x a list of one's own -/
def setI {α : Type} (l : List α) (i : Int) (d : α) : Option (List α) := match i with
  | .ofNat n => if n < l.length then some (l.set n d) else none
  | .negSucc n => if n < l.length then some (l.set (l.length - 1 - n) d) else none
theorem setI_ok {α : Type} {l l' : List α} {i : Int} {d : α} (h : setI l i d = some l') : ∃ j, ixN l.length i = some j ∧ l' = l.set j d := by
  unfold setI at h
  unfold ixN
  split at h
  · next n =>
    split at h
    · next hn =>
      cases h
      have e : (Int.ofNat n) = (n : Int) := rfl
      rw [e, if_pos (Int.natCast_nonneg n), if_pos (by omega)]
      exact ⟨n, rfl, rfl⟩
    · cases h
  · next n =>
    split at h
    · next hn =>
      cases h
      rw [if_neg (by omega), if_pos (by omega)]
      refine ⟨_, rfl, ?_⟩
      congr 1
      omega
    · cases h
def rSetIx {T : Type} (i : Nat) (rk rv : RE T) : RS T := fun env s => match rv env s with
  | some (d, s1) => match rk env s1 with
    | some (.int k, s2) => match env[i]? with
      | some (.ow (.lst l)) => match setI l k d with
        | some l' => some (.nx (env.set i (.ow (.lst l'))) s2)
        | none => none
      | _ => none
    | _ => none
  | none => none
theorem ds_setIx {i : Nat} {o k e : Expr} {rk rv : RE T} {tpos : Pos} (ho : PE X o (tVar i)) (hk : DE X k rk) (he : DE X e rv)
    (ha : ∀ v, assign (.Subscript o k tpos) X.env v = (do
      let ov ← holding [v] (eval o X.env)
      let iv ← holding [v, ov] (eval k X.env)
      standAt tpos
      holding [v, ov, iv] (setItem ov iv v)
      release [v, ov, iv] []) := by intro _; rfl)
    (hs : swapsWithSole [.Subscript o k tpos] e pos.line X.env = pure false := by rfl) (hw : swappedStores [.Subscript o k tpos] e X.env = pure none := by rfl)
    (h1 : (assignEach [.Subscript o k tpos] X.env).map (·.2) = [assign (.Subscript o k tpos) X.env] := by rfl) : DS X (.Assign [.Subscript o k tpos] e pos) (rSetIx i rk rv) :=
  PS.weak (ps_asg he (pg_sub ho hk set_list ha) hs hw h1) fun D' σ H ⟨F, G, s, env, o', I, hr, q⟩ => by
    unfold rSetIx at hr
    split at hr
    · next d s1 e1 =>
      split at hr
      · next z s2 e2 =>
        split at hr
        · next l e3 =>
          split at hr
          · next l' e4 =>
            cases hr
            refine ⟨F, G, s, env, d, s1, I, e1, fun v G1 H1 A1 rv => ?_⟩
            have I1 := I.after A1
            obtain ⟨a, vs, h1, h2, h3⟩ := own_slot I1 e3
            refine ⟨.ref a, h1, F, G1, s1, env, _, s2, I1, e2, fun w G2 H2 A2 rk => ?_⟩
            cases rk
            have I2 := I1.after A2
            obtain ⟨a', vs', h1', h2', h3'⟩ := own_slot I2 e3
            rw [h1] at h1'
            cases h1'
            obtain ⟨j, hj, rfl⟩ := setI_ok e4
            refine ⟨a, vs', z, j, rfl, rfl, h2', by rw [h3'.length]; exact hj, ?_⟩
            exact q σ G2 _ (A1.sub.tr A2.sub) (I2.own_set e3 h1 (Reps.set (rv.mono A2.sub) j h3'))
          · cases hr
        · cases hr
      · cases hr
    · cases hr
end
end DL

end
section
set_option Elab.async false
set_option linter.all false
set_option maxRecDepth 100000
set_option autoImplicit false
namespace DL
open PySem PySem.Spec PyProof.Rows L2

/-! ### the promise of a def -/
/-- of a pure def: r is what it comes to -/
def spD (K : PySem.W.Frag) (r : List D → Option D) : Sp := fun vs H Q _ => ∃ (R : Option Addr) (G : Hp) (ds : List D) (d : D), Sub G H ∧ Reps K R G vs ds ∧ r ds = some d ∧
  ∀ v G' H', Sub G G' → Sub G' H' → Sub H H' → (∀ b, G' b ≠ none → G b ≠ none ∨ H b = none) → Rep K R G' v d → Q v H'
/-- of a def of the law's, which takes from the draws -/
def spW (K : PySem.W.Frag) (r : List D → List Int → Option (D × List Int)) : Sp := fun vs H Q _ => ∃ (a : Addr) (G : Hp) (ds : List D) (S : List Int) (d : D) (S' : List Int), Sub G H ∧ Reps K (some a) G vs ds ∧ WRel K (some a) (some a) G H S ∧ r ds S = some (d, S') ∧
  ∀ v G' H', Sub G G' → Sub G' H' → (∀ b o, H b = some o → some a ≠ some b → H' b = some o) → (∀ b, G' b ≠ none → G b ≠ none ∨ H b = none) → WRel K (some a) (some a) G' H' S' → Rep K (some a) G' v d → Q v H'
/-- a def as it stands, with its promise -/
def Cal (P : Program) (w : World) (K : PySem.W.Frag) (mg : Str → Option Value) (base : Heap) (x : Str) (k : Nat) (sp : Sp) : Prop :=
  ∃ (f : Addr) (fd : FuncData) (ps : List Str), mg x = some (.ref f) ∧ PySem.W.keepIn K (.ref f) = true ∧ Binds K fd ps [] ∧ FnOk P w K mg base CX0 k f fd ps sp
section
variable {X : Cx} {T : Type} {pos : Pos}
def rCall {T : Type} (f : List D → Option D) (r : RA T) : RE T := fun env s => match r env s with
  | some (ds, s1) => match f ds with
    | some d => some (d, s1)
    | none => none
  | none => none
theorem de_call {x : Str} {p : Pos} {e : Expr} {es : List Expr} {k : Nat} {f : List D → Option D} {r : RA T} (c : Cal X.prog X.w X.K X.mg X.base x k (spD X.K f)) (hr : Room k X.A) (hg : Gl X x) (ha : DA X (e :: es) r)
    (hdb : (x == ("__debug__" : Str)) = false := by decide) (he : starEach (e :: es) X.env = (false, eval e X.env) :: starEach es X.env := by rfl) (hpl : (backTo pos (starEach es X.env)).any (·.1) = false := by rfl) : DE X (.Call (.Name x p) (e :: es) [] pos) (rCall f r) := by
  obtain ⟨fa, fd, ps, h1, h2, h3, h4⟩ := c
  exact PE.weak (pe_call h4 hr hg h1 h2 h3 .nil pass0 ha hdb he hpl) fun σ H Q ⟨F, G, s, env, d, s', I, hr, q⟩ => by
    unfold rCall at hr
    split at hr
    · next ds s1 e1 =>
      split at hr
      · next d' e2 =>
        cases hr
        refine ⟨F, G, s, env, ds, _, I, e1, fun vs G1 H1 A1 rvs => ?_⟩
        show spD X.K f (vs ++ []) H1 Q E0
        rw [List.append_nil]
        have I1 := I.after A1
        refine ⟨F.R, G1, ds, d, A1.sub', rvs, e2, fun v G2 H2 a b c d' rv => q v G2 H2 (A1.trans ⟨a, fun x o e _ => c x o e, d', b, ?_⟩) rv⟩
        refine F.keep I1.rel a fun x hx => ⟨?_, fun o e => c x o e⟩
        cases hq : G2 x with
        | none => rfl
        | some o =>
          obtain ⟨q1, q2⟩ := F.off I1.rel x hx
          rcases d' x (by rw [hq]; exact fun z => nomatch z) with z | z
          · exact absurd q1 z
          · exact absurd z q2
      · cases hr
    · cases hr
def rCallW (f : List D → List Int → Option (D × List Int)) (r : RA (List Int)) : RE (List Int) := fun env s => match r env s with
  | some (ds, s1) => f ds s1
  | none => none
theorem de_callW {x : Str} {p : Pos} {e : Expr} {es : List Expr} {k : Nat} {f : List D → List Int → Option (D × List Int)} {r : RA (List Int)} (c : Cal X.prog X.w X.K X.mg X.base x k (spW X.K f)) (hr : Room k X.A) (hg : Gl X x) (ha : DA X (e :: es) r)
    (hdb : (x == ("__debug__" : Str)) = false := by decide) (he : starEach (e :: es) X.env = (false, eval e X.env) :: starEach es X.env := by rfl) (hpl : (backTo pos (starEach es X.env)).any (·.1) = false := by rfl) : DE X (.Call (.Name x p) (e :: es) [] pos) (rCallW f r) := by
  obtain ⟨fa, fd, ps, h1, h2, h3, h4⟩ := c
  exact PE.weak (pe_call h4 hr hg h1 h2 h3 .nil pass0 ha hdb he hpl) fun σ H Q ⟨F, G, s, env, d, s', I, hr, q⟩ => by
    unfold rCallW at hr
    split at hr
    · next ds s1 e1 =>
      refine ⟨F, G, s, env, ds, _, I, e1, fun vs G1 H1 A1 rvs => ?_⟩
      show spW X.K f (vs ++ []) H1 Q E0
      rw [List.append_nil]
      have I1 := I.after A1
      have W1 : WRel X.K F.R F.W G1 H1 s1 := (F.law rfl G1 H1 s1).mp I1.rel
      obtain ⟨a, l, ns, n, w1, w2, w3, w4, w5, w6⟩ := id W1
      refine ⟨a, G1, ds, s1, d, s', A1.sub', by rw [← w1]; exact rvs, by rw [w1, w2] at W1; exact W1, hr, fun v G2 H2 p1 p2 p3 p4 p5 rv => ?_⟩
      refine q v G2 H2 (A1.trans ⟨p1, fun x o e n => p3 x o e (by rw [← w2]; exact n), p4, p2, ?_⟩) (by rw [w1]; exact rv)
      exact (F.law rfl G2 H2 s').mpr (by rw [w1, w2]; exact p5)
    · cases hr

/-! ### a def by its body -/
def envOf (m : Nat) (ds : List D) : Env := ds.map Cell.sh ++ List.replicate (m - ds.length) .no
/-- n parameters, m names -/
def runFn (n m : Nat) (b : RS Unit) : List D → Option D := fun ds => if ds.length = n then match b (envOf m ds) () with
    | some (.rt d _) => some d
    | some (.nx _ _) => some .non
    | _ => none
  else none
def runFnW (n m : Nat) (b : RS (List Int)) : List D → List Int → Option (D × List Int) := fun ds S => if ds.length = n then match b (envOf m ds) S with
    | some (.rt d S') => some (d, S')
    | some (.nx _ S') => some (.non, S')
    | _ => none
  else none
theorem start_get {N : List Str} {vs : List V} {i : Nat} {v : V} (h : vs[i]? = some v) : (L2.start N vs)[i]? = some (some v) := by
  have hi := (List.getElem?_eq_some_iff.mp h).1
  unfold L2.start
  rw [List.getElem?_append_left (by rw [List.length_map]; exact hi), List.getElem?_map, h]; rfl
theorem envOf_get {m : Nat} {ds : List D} {i : Nat} {c : Cell} (h : (envOf m ds)[i]? = some c) : (∃ d, ds[i]? = some d ∧ c = .sh d) ∨ c = .no := by
  unfold envOf at h
  by_cases hi : i < ds.length
  · rw [List.getElem?_append_left (by rw [List.length_map]; exact hi), List.getElem?_map, List.getElem?_eq_getElem hi] at h
    cases h
    exact .inl ⟨_, List.getElem?_eq_getElem hi, rfl⟩
  · rw [List.getElem?_append_right (by rw [List.length_map]; omega), List.getElem?_replicate] at h
    split at h
    · cases h; exact .inr rfl
    · cases h
theorem StOk.start {K : PySem.W.Frag} {F : Fm K T} {G H : Hp} {s : T} {vs : List V} {ds : List D} {N : List Str} (sub : Sub G H) (g0 : F.G0 = G) (h0 : F.H0 = H) (rel : F.rel G H s) (r : Reps K F.R G vs ds) (hl : ds.length ≤ N.length) : StOk F G H s (L2.start N vs) (envOf N.length ds) where
  sub := sub
  len := by
    unfold L2.start envOf
    rw [List.length_append, List.length_append, List.length_map, List.length_map, List.length_replicate, List.length_replicate, r.length]
  g0 := by rw [g0]; exact fun _ _ e => e
  h0 := by rw [h0]; exact fun _ _ e _ => e
  fr := by rw [g0]; exact fun _ n => .inl n
  rel := rel
  sh := fun i d e => by
    rcases envOf_get e with ⟨d', h1, h2⟩ | h
    · cases h2
      obtain ⟨v, h3, h4⟩ := r.get h1
      exact ⟨v, start_get h3, h4⟩
    · cases h
  ow := fun i d e => by
    rcases envOf_get e with ⟨d', h1, h2⟩ | h
    · cases h2
    · cases h
  dj := fun i j d e a e1 => by
    rcases envOf_get e1 with ⟨d', h1, h2⟩ | h
    · cases h2
    · cases h
theorem fn_ok {P : Program} {w : World} {K : PySem.W.Frag} {mg : Str → Option Value} {base : Heap} {x qual : Str} {st : Stmt} {f : Addr} {fd : FuncData} {N ps : List Str} {k n m : Nat} {b : RS Unit} (F : Fun K x qual st f fd) (S : FnScope N ps (defScope st)) (hn : n = ps.length) (hm : m = N.length)
    (hb : ∀ (cdv : Value) (A : Around) (outer : List PySem.Env) (s : Shared) (H : Hp) (E : XK), Room k (A.deeper (envOfC qual (defScope st) s.heap.objs.size f cdv)) → DSs (cxOf CX0 P w K mg base N qual (defScope st) f cdv A outer s H E).nox (defBody st) b) :
    FnOk P w K mg base CX0 (k + 1) f fd ps (spD K (runFn n m b)) := by
  subst hn hm
  refine F.ok S (fun vs H Q E ⟨R, G, ds, d, _, r, h, _⟩ => ?_) (fun cdv A outer s H vs Q E hr ⟨R, G, ds, d, sub, r, h, q⟩ => ?_)
  · unfold runFn at h
    split at h
    · next hl => rw [r.length]; exact hl
    · cases h
  · refine ⟨_, hb cdv A outer s H E hr, ?_⟩
    unfold runFn at h
    split at h
    · next hl =>
      have hps : ps.length ≤ N.length := by
        have := congrArg List.length S.pre
        rw [List.length_take] at this
        omega
      have I : StOk (Fm.unit K R G H) G H () (L2.start N vs) (envOf N.length ds) := .start sub rfl rfl trivial r (by omega)
      have fin : ∀ {v : V} {G' H' : Hp} {σ : L2.St} {env : Env} {d : D}, StOk (Fm.unit K R G H) G' H' () σ env → Rep K R G' v d → (∀ v G' H', Sub G G' → Sub G' H' → Sub H H' → (∀ b, G' b ≠ none → G b ≠ none ∨ H b = none) → Rep K R G' v d → Q v H') → Q v H' := fun {v G' H' σ env d} I' rv q =>
        q v G' H' I'.g0 I'.sub (fun b o e => I'.h0 b o e (fun z => nomatch z)) I'.fr rv
      split at h
      · next d' _ e1 =>
        cases h
        exact ⟨Fm.unit K R G H, G, (), _, _, I, e1, fun v G' H' σ env _ I' rv => fin I' rv q⟩
      · next env' _ e1 =>
        cases h
        exact ⟨Fm.unit K R G H, G, (), _, _, I, e1, fun σ G' H' _ I' => fin I' .non q⟩
      · cases h
    · cases h
theorem fn_okW {P : Program} {w : World} {K : PySem.W.Frag} {mg : Str → Option Value} {base : Heap} {x qual : Str} {st : Stmt} {f : Addr} {fd : FuncData} {N ps : List Str} {k n m : Nat} {b : RS (List Int)} (F : Fun K x qual st f fd) (S : FnScope N ps (defScope st)) (hn : n = ps.length) (hm : m = N.length)
    (hb : ∀ (cdv : Value) (A : Around) (outer : List PySem.Env) (s : Shared) (H : Hp) (E : XK), Room k (A.deeper (envOfC qual (defScope st) s.heap.objs.size f cdv)) → DSs (cxOf CX0 P w K mg base N qual (defScope st) f cdv A outer s H E).nox (defBody st) b) :
    FnOk P w K mg base CX0 (k + 1) f fd ps (spW K (runFnW n m b)) := by
  subst hn hm
  refine F.ok S (fun vs H Q E ⟨a, G, ds, S, d, S', _, r, _, h, _⟩ => ?_) (fun cdv A outer s H vs Q E hr ⟨a, G, ds, S1, d, S', sub, r, W, h, q⟩ => ?_)
  · unfold runFnW at h
    split at h
    · next hl => rw [r.length]; exact hl
    · cases h
  · refine ⟨_, hb cdv A outer s H E hr, ?_⟩
    unfold runFnW at h
    split at h
    · next hl =>
      have hps : ps.length ≤ N.length := by
        have := congrArg List.length S.pre
        rw [List.length_take] at this
        omega
      have I : StOk (Fm.draws K a G H) G H S1 (L2.start N vs) (envOf N.length ds) := .start sub rfl rfl W r (by omega)
      have fin : ∀ {v : V} {G' H' : Hp} {σ : L2.St} {env : Env} {d : D} {S' : List Int}, StOk (Fm.draws K a G H) G' H' S' σ env → Rep K (some a) G' v d → (∀ v G' H', Sub G G' → Sub G' H' → (∀ b o, H b = some o → some a ≠ some b → H' b = some o) → (∀ b, G' b ≠ none → G b ≠ none ∨ H b = none) → WRel K (some a) (some a) G' H' S' → Rep K (some a) G' v d → Q v H') → Q v H' := fun {v G' H' σ env d S'} I' rv q =>
        q v G' H' I'.g0 I'.sub I'.h0 I'.fr I'.rel rv
      split at h
      · next d' _ e1 =>
        cases h
        exact ⟨Fm.draws K a G H, G, S1, _, _, I, e1, fun v G' H' σ env _ I' rv => fin I' rv q⟩
      · next env' _ e1 =>
        cases h
        exact ⟨Fm.draws K a G H, G, S1, _, _, I, e1, fun σ G' H' _ I' => fin I' .non q⟩
      · cases h
    · cases h
end
end DL

end
section
set_option Elab.async false
set_option linter.all false
set_option maxRecDepth 100000
set_option autoImplicit false
namespace DL
open PySem PySem.Spec PyProof.Rows L2

theorem boot'_len : bootBuiltins "len" = some (.builtin "len") := by decide +kernel
theorem boot'_abs : bootBuiltins "abs" = some (.builtin "abs") := by decide +kernel
theorem boot'_int : bootBuiltins "int" = some (.type "int") := by decide +kernel
theorem boot'_bool : bootBuiltins "bool" = some (.type "bool") := by decide +kernel
theorem boot'_str : bootBuiltins "str" = some (.type "str") := by decide +kernel
theorem boot'_dict : bootBuiltins "dict" = some (.type "dict") := by decide +kernel
theorem boot'_max : bootBuiltins "max" = some (.builtin "max") := by decide +kernel
theorem boot'_min : bootBuiltins "min" = some (.builtin "min") := by decide +kernel
theorem boot'_list : bootBuiltins "list" = some (.type "list") := by decide +kernel
theorem boot'_tuple : bootBuiltins "tuple" = some (.type "tuple") := by decide +kernel
theorem boot'_set : bootBuiltins "set" = some (.type "set") := by decide +kernel
theorem boot'_sum : bootBuiltins "sum" = some (.builtin "sum") := by decide +kernel
theorem boot'_all : bootBuiltins "all" = some (.builtin "all") := by decide +kernel
theorem boot'_any : bootBuiltins "any" = some (.builtin "any") := by decide +kernel
theorem boot'_sorted : bootBuiltins "sorted" = some (.builtin "sorted") := by decide +kernel
theorem boot'_isinstance : bootBuiltins "isinstance" = some (.builtin "isinstance") := by decide +kernel
section
variable {X : Cx} {T : Type} {pos : Pos}
def gMul : D → D → Option Cell
  | .int i, .int j => (pMul i j).map Cell.sh
  | .lst a, .int k => gRepL (.lst a) (.int k)
  | _, _ => none
theorem od_mul : OpD X (binaryOp .Mult) gMul := (od_mulI.or od_repL).eq fun a b => by
  cases a <;> cases b <;> simp [gMul, gI, gRepL]
abbrev gLt : D → D → Option Cell := gI fun i j => some (.bl (ltI i j))
abbrev gLe : D → D → Option Cell := gI fun i j => some (.bl (leI i j))
abbrev gGt : D → D → Option Cell := gI fun i j => some (.bl (ltI j i))
abbrev gGe : D → D → Option Cell := gI fun i j => some (.bl (leI j i))
theorem od_lt' (hu : X.A.units + 64 < cLine) : OpD X (compareOp .Lt) gLt := od_lt
abbrev pAnd : Int → Int → Option D := fun i j => some (.int (Builtin.bitAnd i j))
abbrev pOr : Int → Int → Option D := fun i j => some (.int (Builtin.bitOr i j))
abbrev pXor : Int → Int → Option D := fun i j => some (.int (Builtin.bitXor i j))
def negI (i : Int) : Int := -i
def invI (i : Int) : Int := Builtin.bitNot i
theorem un_neg' : UnR X (unaryOp .USub) (rU fun i => .int (negI i)) := un_neg
theorem un_inv' : UnR X (unaryOp .Invert) (rU fun i => .int (invI i)) := un_inv
abbrev gAugAdd : D → D → Option D := gP fun i j => some (.int (i + j))
abbrev gAugSub : D → D → Option D := gP fun i j => some (.int (i - j))
abbrev gAugXor : D → D → Option D := gP fun i j => some (.int (Builtin.bitXor i j))
theorem ipd_add : IpD X .Add gAugAdd := ipd_i ip_add
theorem ipd_sub : IpD X .Sub gAugSub := ipd_i ip_sub
theorem ip_xor : PIp X .BitXor (ipI fun i j => Builtin.bitXor i j) := by
  intro pins s σ H x y v u Q I r1 r2 h
  obtain ⟨i, j, e1, e2, q⟩ := h
  subst e1; subst e2
  obtain ⟨t, rfl⟩ := r1
  obtain ⟨t', rfl⟩ := r2
  exact ixor_int ⟨.int _, H, I.tok _, ⟨_, rfl⟩, q⟩
theorem ipd_xor : IpD X .BitXor gAugXor := ipd_i ip_xor

/-! ### three names at once, any number of names -/
theorem ds_par3 {i j l : Nat} {x y z : Str} {a b c : Expr} {r : RCs T} {px py pz pt : Pos} {kt k2 pt2} (hc : X.calm = true) (hN : X.N.Nodup) (hi : X.N[i]? = some x) (hj : X.N[j]? = some y) (hl : X.N[l]? = some z) (hij : i ≠ j) (hil : i ≠ l) (hjl : j ≠ l)
    (hx : X.env.scope.names.lookup x = some .local) (hy : X.env.scope.names.lookup y = some .local) (hz : X.env.scope.names.lookup z = some .local) (ha : DC X [a, b, c] r)
    (hw : swappedStores [.Tuple [.Name x px, .Name y py, .Name z pz] kt pt] (.Tuple [a, b, c] k2 pt2) X.env = pure (some [x, y, z]))
    (hs : swapsWithSole [.Tuple [.Name x px, .Name y py, .Name z pz] kt pt] (.Tuple [a, b, c] k2 pt2) pos.line X.env = pure false := by rfl) :
    DS X (.Assign [.Tuple [.Name x px, .Name y py, .Name z pz] kt pt] (.Tuple [a, b, c] k2 pt2) pos) (rPar [i, j, l] r) :=
  PS.weak (ps_par3 hc hN hi hj hl hij hil hjl hx hy hz ha hw hs) fun D' σ H h => par_ok h fun F s env vs G1 H1 hl I q => by
    match vs, hl with
    | [u, v, w], _ => exact ⟨u, v, w, rfl, q _ G1 H1 (Sub.rfl' G1) I⟩
theorem CellVs.after {K : PySem.W.Frag} {F : Fm K T} {Hs G H G1 H1 : Hp} {s1 : T} (A : After F G H G1 H1 s1) : ∀ {vs : List V} {cs : List Cell}, CellVs F Hs G H vs cs → CellVs F Hs G1 H1 vs cs
  | _, _, .nil => .nil
  | _, _, .cons a b c => .cons (a.after A) (CellVs.after A b) c
/-- names as targets, from the left -/
def tNs (is : List Nat) : TGs := fun vs σ H Q => vs.length = is.length ∧ Q (setAll σ is (vs.map some)) H
def DNs (X : Cx) (ts : List Expr) (is : List Nat) : Prop := PGs X ts (tNs is)
theorem dns_nil : DNs X [] [] := PGs.weak pgs_nil fun vs σ H Q ⟨h, q⟩ => by
  match vs, h with
  | [], _ => exact ⟨rfl, q⟩
theorem dns_cons {e : Expr} {es : List Expr} {i : Nat} {is : List Nat} (h1 : PG X e (gName i)) (h2 : DNs X es is) (hs : (assignEach (e :: es) X.env).map (·.2) = assign e X.env :: (assignEach es X.env).map (·.2) := by rfl) : DNs X (e :: es) (i :: is) :=
  PGs.weak (pgs_cons h1 h2 hs) fun vs σ H Q ⟨h, q⟩ => by
    match vs, h with
    | v :: r, h => exact ⟨v, r, rfl, by simpa using h, q⟩
theorem ds_parN {tg es : List Expr} {is : List Nat} {r : RCs T} {kt k2 pt pt2} (hc : X.calm = true) (hg : DNs X tg is) (he : DC X es r)
    (hsz : is.length ≤ most := by decide) (hn : (assignEach tg X.env).length = is.length := by rfl) (hst : (assignEach tg X.env).findIdx? (·.1) = none := by rfl)
    (hs : swapsWithSole [.Tuple tg kt pt] (.Tuple es k2 pt2) pos.line X.env = pure false := by rfl) (hw : swappedStores [.Tuple tg kt pt] (.Tuple es k2 pt2) X.env = pure none := by rfl)
    (h1 : (assignEach [.Tuple tg kt pt] X.env).map (·.2) = [assign (.Tuple tg kt pt) X.env] := by rfl) : DS X (.Assign [.Tuple tg kt pt] (.Tuple es k2 pt2) pos) (rPar is r) :=
  PS.weak (ps_asg (pe_tup he) (pg_tup hc hg hn hst) hs hw h1) fun D' σ H ⟨F, G, s, env, o, I, hr, q⟩ => by
    unfold rPar at hr
    split at hr
    · next cs s1 e1 =>
      split at hr
      · next hl =>
        cases hr
        refine ⟨F, G, s, env, cs, s1, I, e1, fun vs G1 H1 A1 h => ?_⟩
        have I1 := I.after A1
        have lv : vs.length = is.length := h.length.trans hl
        refine ⟨by rw [lv]; exact most_le hsz, fun p n => ⟨p, vs, rfl, .inl (.inl upd_same), lv, lv, ?_⟩⟩
        have A2 := new_ow (o := .tup vs) I1 n
        refine q _ G1 _ A1.sub ((I1.after A2).setAll is (h.after A2) fun j d a e2 e3 k e hk hv => ?_)
        obtain ⟨p, h3, h4⟩ := h.get hk
        rw [hv] at h3
        cases h3
        obtain ⟨b, q1, q2⟩ := I.ow j d e2
        rw [e3] at q1
        cases q1
        exact q2.own.there h4
      · cases hr
    · cases hr

/-! ### isinstance -/
def D.ty : D → String
  | .non => "NoneType"
  | .bl _ => "bool"
  | .int _ => "int"
  | .str _ => "str"
  | .tup _ => "tuple"
  | .lst _ => "list"
  | .wd => "dict"
structure KdOk (t : String) (f : D → Option Bool) : Prop where
  ok : ∀ d b, f d = some b → L2.kitB d.ty t = some b ∧ d ≠ .wd
def kd_int : D → Option Bool
  | .int _ => some true
  | .bl _ => some true
  | .wd => none
  | _ => some false
def kd_bool : D → Option Bool
  | .bl _ => some true
  | .wd => none
  | _ => some false
def kd_tuple : D → Option Bool
  | .tup _ => some true
  | .wd => none
  | _ => some false
def kd_str : D → Option Bool
  | .str _ => some true
  | .wd => none
  | _ => some false
theorem kdo_int : KdOk "int" kd_int := ⟨fun d b h => by cases d <;> cases h <;> exact ⟨by dsimp only [D.ty]; decide +kernel, nofun⟩⟩
theorem kdo_bool : KdOk "bool" kd_bool := ⟨fun d b h => by cases d <;> cases h <;> exact ⟨by dsimp only [D.ty]; decide +kernel, nofun⟩⟩
theorem kdo_tuple : KdOk "tuple" kd_tuple := ⟨fun d b h => by cases d <;> cases h <;> exact ⟨by dsimp only [D.ty]; decide +kernel, nofun⟩⟩
theorem kdo_str : KdOk "str" kd_str := ⟨fun d b h => by cases d <;> cases h <;> exact ⟨by dsimp only [D.ty]; decide +kernel, nofun⟩⟩
def rIsi {T : Type} (f : D → Option Bool) (a : RE T) : RE T := fun env s => match a env s with
  | some (d, s1) => match f d with
    | some b => some (.bl b, s1)
    | none => none
  | none => none
theorem RepB.ty {K : PySem.W.Frag} {F : Fm K T} {G H : Hp} {s : T} {σ : L2.St} {env : Env} {x : V} {d : D} (I : StOk F G H s σ env) (h : RepB F G σ env x d) (hd : d ≠ .wd) : TyX K H x (.type d.ty) := by
  rcases h.cs I with h | ⟨a, ds, vs, rfl, rfl, h1, h2⟩
  · cases h with
    | non => exact .base .non
    | bl b => exact .base (.bl b)
    | int i => exact .base (.int i)
    | str x => exact .base (.str x)
    | tup a b => exact .base (.tup (I.sub _ _ a))
    | lst a b => exact .base (.lst (I.sub _ _ a))
    | wd => exact absurd rfl hd
  · exact .base (.lst h1)
theorem de_isi {t : String} {f : D → Option Bool} {a : RE T} {e : Expr} {tn : Str} {p p2 : Pos} (hk : KdOk t f) (hg : Gl X "isinstance") (hm : X.mg "isinstance" = none) (hg2 : Gl X tn) (hm2 : X.mg tn = none) (ha : DB X e a)
    (hv2 : bootBuiltins tn = some (.type t) := by decide +kernel) (hn2 : tn ≠ "__name__" := by decide) (hd2 : (tn == ("__debug__" : Str)) = false := by decide)
    (he : starEach [e, .Name tn p2] X.env = (false, eval e X.env) :: starEach [.Name tn p2] X.env := by rfl) (he2 : starEach [.Name tn p2] X.env = (false, eval (.Name tn p2) X.env) :: starEach [] X.env := by rfl) (hpl : (backTo pos (starEach [.Name tn p2] X.env)).any (·.1) = false := by rfl) :
    DE X (.Call (.Name "isinstance" p) [e, .Name tn p2] [] pos) (rIsi f a) :=
  PE.weak (pe_callB call_isi hg hm boot'_isinstance (pa_cons ha (pa_cons (pe_bltn (v := .ty t) hg2 hm2 hv2 rfl hn2 hd2) pa_nil he2) he) (by decide) (by decide) he hpl) fun σ H Q ⟨F, G, s, env, d, s', I, hr, q⟩ => by
    unfold rIsi at hr
    split at hr
    · next d1 s1 e1 =>
      split at hr
      · next b e2 =>
        cases hr
        obtain ⟨h1, h2⟩ := hk.ok d1 b e2
        refine ⟨F, G, s, env, d1, _, I, e1, fun v G1 H1 A1 rv => ?_⟩
        exact ⟨v, .ty t, _, _, b, rfl, .ty t, rv.ty (I.after A1) h2, kit_ty h1, q _ G1 H1 A1 (.bl _)⟩
      · cases hr
    · cases hr
end
end DL

end
section
set_option Elab.async false
set_option linter.all false
set_option maxRecDepth 100000
set_option autoImplicit false
namespace DL
open PySem PySem.Spec PyProof.Rows L2

/-! ### what draws nothing, among what draws -/
def uFm {K : PySem.W.Frag} {T : Type} (F : Fm K T) (H : Hp) : Fm K Unit where
  R := F.R
  W := none
  G0 := F.G0
  H0 := fun b => if F.W = some b then H b else F.H0 b
  rel := fun _ _ _ => True
  keep := fun _ _ _ => trivial
  off := fun _ _ h => nomatch h
  law := fun e => absurd e unit_ne
section
variable {K : PySem.W.Frag} {T : Type} {F : Fm K T} {G H G' H' : Hp} {s : T} {σ σ' : L2.St} {env env' : Env}
theorem StOk.u (I : StOk F G H s σ env) : StOk (uFm F H) G H () σ env where
  sub := I.sub
  len := I.len
  g0 := I.g0
  h0 := fun b o e _ => by
    by_cases hb : F.W = some b
    · have e' : (if F.W = some b then H b else F.H0 b) = some o := e
      rw [if_pos hb] at e'; exact e'
    · have e' : (if F.W = some b then H b else F.H0 b) = some o := e
      rw [if_neg hb] at e'; exact I.h0 b o e' hb
  fr := fun b n => by
    by_cases hb : F.W = some b
    · exact absurd (F.off I.rel b hb).1 n
    · rcases I.fr b n with q | q
      · exact .inl q
      · refine .inr ?_
        show (if F.W = some b then H b else F.H0 b) = none
        rw [if_neg hb]; exact q
  rel := trivial
  sh := I.sh
  ow := fun i d e => by
    obtain ⟨a, h1, h2⟩ := I.ow i d e
    refine ⟨a, h1, h2.g, ?_, (fun z => nomatch z), h2.own⟩
    show (if F.W = some a then H a else F.H0 a) = none
    rw [if_neg h2.w]; exact h2.h0
  dj := I.dj
theorem uH0_W (I : StOk F G H s σ env) {b : Addr} (hb : F.W = some b) : (uFm F H).H0 b ≠ none := by
  show (if F.W = some b then H b else F.H0 b) ≠ none
  rw [if_pos hb]; exact (F.off I.rel b hb).2
theorem After.u (I : StOk F G H s σ env) (A : After (uFm F H) G H G' H' ()) : After F G H G' H' s where
  sub := A.sub
  kp := fun b o e _ => A.kp b o e (fun z => nomatch z)
  fr := A.fr
  sub' := A.sub'
  rel := F.keep I.rel A.sub fun b hb => ⟨by
    cases q : G' b with
    | none => rfl
    | some o =>
      obtain ⟨h1, h2⟩ := F.off I.rel b hb
      rcases A.fr b (by rw [q]; exact fun z => nomatch z) with z | z
      · exact absurd h1 z
      · exact absurd z h2, fun o e => A.kp b o e (fun z => nomatch z)⟩
theorem StOk.un (I : StOk F G H s σ env) (sb : Sub G G') (J : StOk (uFm F H) G' H' () σ' env') : StOk F G' H' s σ' env' := by
  have gw : ∀ b, F.W = some b → G' b = none := fun b hb => by
    cases q : G' b with
    | none => rfl
    | some o =>
      rcases J.fr b (by rw [q]; exact fun z => nomatch z) with z | z
      · cases hg : F.G0 b with
        | none => exact absurd hg z
        | some x =>
          have := I.g0 _ _ hg
          rw [(F.off I.rel b hb).1] at this; cases this
      · exact absurd z (uH0_W I hb)
  have hne : ∀ {b : Addr}, ¬ F.W = some b → (uFm F H).H0 b = F.H0 b := fun {b} h => if_neg h
  refine ⟨J.sub, J.len, J.g0, fun b o e n => J.h0 b o (by rw [hne n]; exact e) (fun z => nomatch z), fun b n => ?_, F.keep I.rel sb fun b hb => ⟨gw b hb, fun o e => J.h0 b o ((if_pos hb).trans e) (fun z => nomatch z)⟩, J.sh, fun i d e => ?_, J.dj⟩
  · by_cases hb : F.W = some b
    · exact absurd (gw b hb) n
    · rcases J.fr b n with q | q
      · exact .inl q
      · rw [hne hb] at q; exact .inr q
  · obtain ⟨a, h1, h2⟩ := J.ow i d e
    have hw : F.W ≠ some a := fun z => uH0_W I z h2.h0
    exact ⟨a, h1, h2.g, by rw [← hne hw]; exact h2.h0, hw, h2.own⟩
end
section
variable {X : Cx} {T : Type} {pos : Pos}
def rLift {α T : Type} (r : Env → Unit → Option (α × Unit)) : Env → T → Option (α × T) := fun env s => match r env () with
  | some (a, _) => some (a, s)
  | none => none
theorem rLift_inv {α : Type} {r : Env → Unit → Option (α × Unit)} {env : Env} {s s' : T} {a : α} (h : rLift r env s = some (a, s')) : r env () = some (a, ()) ∧ s' = s := by
  unfold rLift at h
  split at h
  · next a' _ e => cases h; exact ⟨e, rfl⟩
  · cases h
theorem de_lift {e : Expr} {r : RE Unit} (h : DE X e r) : DE X e (rLift (T := T) r) := PE.weak h fun σ H Q ⟨F, G, s, env, d, s', I, hr, q⟩ => by
  obtain ⟨e1, rfl⟩ := rLift_inv hr
  exact ⟨uFm F H, G, (), env, d, (), I.u, e1, fun v G' H' A rv => q v G' H' (After.u I A) rv⟩
theorem db_lift {e : Expr} {r : RE Unit} (h : DB X e r) : DB X e (rLift (T := T) r) := PE.weak h fun σ H Q ⟨F, G, s, env, d, s', I, hr, q⟩ => by
  obtain ⟨e1, rfl⟩ := rLift_inv hr
  exact ⟨uFm F H, G, (), env, d, (), I.u, e1, fun v G' H' A rv => q v G' H' (After.u I A) rv⟩
theorem CellV.un {K : PySem.W.Frag} {F : Fm K T} {Hs G H G' H' : Hp} {s : T} {σ : L2.St} {env : Env} {v : V} {c : Cell} (I : StOk F G H s σ env) (h : CellV (uFm F H) Hs G' H' v c) : CellV F Hs G' H' v c := by
  cases c with
  | no => exact h
  | sh d => exact h
  | ow d =>
    obtain ⟨p, e, h1, h2⟩ := h
    have hw : F.W ≠ some p := fun z => uH0_W I z h1.h0
    exact ⟨p, e, ⟨h1.g, by rw [← h1.h0]; exact (if_neg hw).symm, hw, h1.own⟩, h2⟩
theorem dv_lift {e : Expr} {r : RC Unit} (h : DV X e r) : DV X e (rLift (T := T) r) := PE.weak h fun σ H Q ⟨F, G, s, env, d, s', I, hr, q⟩ => by
  obtain ⟨e1, rfl⟩ := rLift_inv hr
  exact ⟨uFm F H, G, (), env, d, (), I.u, e1, fun v G' H' A rv => q v G' H' (After.u I A) (CellV.un I rv)⟩
theorem dt_lift {e : Expr} {r : RB Unit} (h : DT X e r) : DT X e (rLift (T := T) r) := PT.weak h fun σ H Q ⟨F, G, s, env, d, s', I, hr, q⟩ => by
  obtain ⟨e1, rfl⟩ := rLift_inv hr
  exact ⟨uFm F H, G, (), env, d, (), I.u, e1, fun G' H' A => q G' H' (After.u I A)⟩
theorem dts_lift {e : List Expr} {r : RB Unit} (h : DTs X e r) : DTs X e (rLift (T := T) r) := PTs.weak h fun σ H Q ⟨F, G, s, env, d, s', I, hr, q⟩ => by
  obtain ⟨e1, rfl⟩ := rLift_inv hr
  exact ⟨uFm F H, G, (), env, d, (), I.u, e1, fun G' H' A => q G' H' (After.u I A)⟩
def liftO {T : Type} (s : T) : Out Unit → Out T
  | .nx env _ => .nx env s
  | .rt d _ => .rt d s
  | .bk env _ => .bk env s
  | .ct env _ => .ct env s
def rLiftS {T : Type} (r : RS Unit) : RS T := fun env s => match r env () with
  | some o => some (liftO s o)
  | none => none
theorem ds_lift {st : Stmt} {r : RS Unit} (h : DS X st r) : DS X st (rLiftS (T := T) r) := PS.weak h fun D' σ H ⟨F, G, s, env, o, I, hr, q⟩ => by
  unfold rLiftS at hr
  split at hr
  · next o' e1 =>
    cases hr
    refine ⟨uFm F H, G, (), env, o', I.u, e1, ?_⟩
    cases o' with
    | nx env' _ => exact fun σ' G' H' sb J => q σ' G' H' sb (I.un sb J)
    | bk env' _ => exact fun σ' G' H' sb J => q σ' G' H' sb (I.un sb J)
    | ct env' _ => exact fun σ' G' H' sb J => q σ' G' H' sb (I.un sb J)
    | rt d _ => exact fun v G' H' σ' env' sb J rv => q v G' H' σ' env' sb (I.un sb J) rv
  · cases hr
theorem dss_lift {st : List Stmt} {r : RS Unit} (h : DSs X st r) : DSs X st (rLiftS (T := T) r) := PSs.weak h fun D' σ H ⟨F, G, s, env, o, I, hr, q⟩ => by
  unfold rLiftS at hr
  split at hr
  · next o' e1 =>
    cases hr
    refine ⟨uFm F H, G, (), env, o', I.u, e1, ?_⟩
    cases o' with
    | nx env' _ => exact fun σ' G' H' sb J => q σ' G' H' sb (I.un sb J)
    | bk env' _ => exact fun σ' G' H' sb J => q σ' G' H' sb (I.un sb J)
    | ct env' _ => exact fun σ' G' H' sb J => q σ' G' H' sb (I.un sb J)
    | rt d _ => exact fun v G' H' σ' env' sb J rv => q v G' H' σ' env' sb (I.un sb J) rv
  · cases hr
end
end DL

end
section
set_option Elab.async false
set_option linter.all false
set_option maxRecDepth 100000
set_option autoImplicit false
namespace DL
open PySem PySem.Spec PyProof.Rows L2

/-! ### what draws, as a tree of questions -/
inductive Tr (α : Type) where
  | ret (a : α)
  | fail
  | ask (m : Int) (k : Int → Tr α)
def Tr.run {α : Type} : Tr α → List Int → Option (α × List Int)
  | .ret a, S => some (a, S)
  | .fail, _ => none
  | .ask m k, S => if ltI 0 m then (match S with
    | [] => Tr.run (k 0) []
    | z :: r => Tr.run (k (z % m)) r) else none
def Tr.bind {α β : Type} : Tr α → (α → Tr β) → Tr β
  | .ret a, f => f a
  | .fail, _ => .fail
  | .ask m k, f => .ask m fun c => Tr.bind (k c) f
/-- Q of all ends, whatever is drawn -/
def Tr.all {α : Type} : Tr α → (α → Prop) → Prop
  | .ret a, Q => Q a
  | .fail, _ => False
  | .ask m k, Q => 0 < m ∧ ∀ c, 0 ≤ c → c < m → Tr.all (k c) Q
theorem Tr.run_bind {α β : Type} (f : α → Tr β) : ∀ (t : Tr α) (S : List Int), (t.bind f).run S = (match t.run S with
    | some (a, S1) => (f a).run S1
    | none => none)
  | .ret a, S => rfl
  | .fail, S => rfl
  | .ask m k, [] => by
    have ih := Tr.run_bind f (k 0) []
    simp only [Tr.bind, Tr.run]
    cases ltI 0 m with
    | false => rfl
    | true => exact ih
  | .ask m k, z :: r => by
    have ih := Tr.run_bind f (k (z % m)) r
    simp only [Tr.bind, Tr.run]
    cases ltI 0 m with
    | false => rfl
    | true => exact ih
theorem Tr.all_bind {α β : Type} (f : α → Tr β) (Q : β → Prop) : ∀ t : Tr α, (t.bind f).all Q ↔ t.all fun a => (f a).all Q
  | .ret a => Iff.rfl
  | .fail => Iff.rfl
  | .ask m k => by
    unfold Tr.bind Tr.all
    exact ⟨fun ⟨h, q⟩ => ⟨h, fun c h0 h1 => (Tr.all_bind f Q (k c)).mp (q c h0 h1)⟩, fun ⟨h, q⟩ => ⟨h, fun c h0 h1 => (Tr.all_bind f Q (k c)).mpr (q c h0 h1)⟩⟩
theorem Tr.all_mono {α : Type} {P Q : α → Prop} (h : ∀ a, P a → Q a) : ∀ t : Tr α, t.all P → t.all Q
  | .ret a, p => h a p
  | .fail, p => p
  | .ask m k, ⟨p, q⟩ => ⟨p, fun c h0 h1 => Tr.all_mono h (k c) (q c h0 h1)⟩
theorem Tr.all_run {α : Type} {Q : α → Prop} : ∀ (t : Tr α), t.all Q → ∀ S, ∃ a S', t.run S = some (a, S') ∧ Q a
  | .ret a, p, S => ⟨a, S, rfl, p⟩
  | .fail, p, _ => p.elim
  | .ask m k, ⟨p, q⟩, S => by
    unfold Tr.run
    rw [show ltI 0 m = true from decide_eq_true p, if_pos rfl]
    cases S with
    | nil => exact Tr.all_run (k 0) (q 0 (Int.le_refl 0) p) []
    | cons z r => exact Tr.all_run (k (z % m)) (q _ (Int.emod_nonneg z (by omega)) (Int.emod_lt_of_pos z p)) r
/-- the questions asked one by one, by the kernel -/
def below (n : Nat) (f : Int → Bool) : Bool := match n with
  | 0 => true
  | n + 1 => below n f && f (Int.ofNat n)
def Tr.chk {α : Type} (q : α → Bool) : Tr α → Bool
  | .ret a => q a
  | .fail => false
  | .ask m k => match m with
    | .ofNat n => (match n with | 0 => false | _ => below n fun c => Tr.chk q (k c))
    | .negSucc _ => false
theorem below_ok {f : Int → Bool} : ∀ {n : Nat}, below n f = true → ∀ c : Int, 0 ≤ c → c < n → f c = true
  | 0, _, c, h0, h1 => by omega
  | n + 1, h, c, h0, h1 => by
    unfold below at h
    rw [Bool.and_eq_true] at h
    by_cases hc : c = (n : Int)
    · subst hc; exact h.2
    · exact below_ok h.1 c h0 (by omega)
theorem Tr.chk_all {α : Type} {q : α → Bool} : ∀ t : Tr α, t.chk q = true → t.all fun a => q a = true
  | .ret a, h => h
  | .fail, h => by cases h
  | .ask m k, h => by
    unfold Tr.chk at h
    split at h
    · next n =>
      split at h
      · cases h
      · next hn =>
        refine ⟨by have : n ≠ 0 := fun z => hn z; show (0 : Int) < (n : Int); omega, fun c h0 h1 => Tr.chk_all (k c) (below_ok h c h0 h1)⟩
    · cases h

/-! ### readings that are trees -/
abbrev XE := Env → Tr D
abbrev XC := Env → Tr Cell
abbrev XB := Env → Tr Bool
abbrev XA := Env → Tr (List D)
abbrev XS := Env → Tr (Out Unit)
def ev {α : Type} (r : Env → Tr α) : Env → List Int → Option (α × List Int) := fun env S => (r env).run S
theorem ev_at {α : Type} (r : Env → Tr α) (env : Env) (S : List Int) : ev r env S = (r env).run S := rfl
def evS (r : XS) : RS (List Int) := fun env S => match (r env).run S with
  | some (o, S1) => some (liftO S1 o)
  | none => none
theorem evS_at (r : XS) (env : Env) (S : List Int) : evS r env S = (match (r env).run S with
  | some (o, S1) => some (liftO S1 o)
  | none => none) := rfl
def Tr.opt {α : Type} : Option α → Tr α
  | some a => .ret a
  | none => .fail
theorem Tr.run_opt {α : Type} (o : Option α) (S : List Int) : (Tr.opt o).run S = o.map fun a => (a, S) := by cases o <;> rfl
section
variable {X : Cx} {pos : Pos}
def xLift {α : Type} (r : Env → Unit → Option (α × Unit)) : Env → Tr α := fun env => match r env () with
  | some (a, _) => .ret a
  | none => .fail
theorem xLift_eq {α : Type} (r : Env → Unit → Option (α × Unit)) : rLift (T := List Int) r = ev (xLift r) := by
  funext env S
  unfold rLift ev xLift
  cases r env () <;> rfl
theorem de_liftx {e : Expr} {r : RE Unit} (h : DE X e r) : DE X e (ev (xLift r)) := by rw [← xLift_eq]; exact de_lift h
theorem db_liftx {e : Expr} {r : RE Unit} (h : DB X e r) : DB X e (ev (xLift r)) := by rw [← xLift_eq]; exact db_lift h
theorem dv_liftx {e : Expr} {r : RC Unit} (h : DV X e r) : DV X e (ev (xLift r)) := by rw [← xLift_eq]; exact dv_lift h
theorem dt_liftx {e : Expr} {r : RB Unit} (h : DT X e r) : DT X e (ev (xLift r)) := by rw [← xLift_eq]; exact dt_lift h
theorem dts_liftx {e : List Expr} {r : RB Unit} (h : DTs X e r) : DTs X e (ev (xLift r)) := by rw [← xLift_eq]; exact dts_lift h
def xLiftS (r : RS Unit) : XS := fun env => match r env () with
  | some o => .ret o
  | none => .fail
theorem xLiftS_eq (r : RS Unit) : rLiftS (T := List Int) r = evS (xLiftS r) := by
  funext env S
  unfold rLiftS evS xLiftS
  cases r env () <;> rfl
theorem ds_liftx {st : Stmt} {r : RS Unit} (h : DS X st r) : DS X st (evS (xLiftS r)) := by rw [← xLiftS_eq]; exact ds_lift h
theorem dss_liftx {st : List Stmt} {r : RS Unit} (h : DSs X st r) : DSs X st (evS (xLiftS r)) := by rw [← xLiftS_eq]; exact dss_lift h
def xSh (r : XE) : XC := fun env => (r env).bind fun d => .ret (.sh d)
theorem xSh_eq (r : XE) : rSh (ev r) = ev (xSh r) := by
  funext env S
  unfold rSh ev xSh
  rw [Tr.run_bind]
  cases (r env).run S <;> rfl
theorem DE.vx {e : Expr} {r : XE} (h : DE X e (ev r)) : DV X e (ev (xSh r)) := by rw [← xSh_eq]; exact h.v
def xDe (r : XC) : XE := fun env => (r env).bind fun
  | .sh d => .ret d
  | .ow d => .ret d
  | .no => .fail
theorem xDe_eq (r : XC) : rDe (ev r) = ev (xDe r) := by
  funext env S
  unfold rDe ev xDe
  rw [Tr.run_bind]
  cases (r env).run S with
  | none => rfl
  | some p => obtain ⟨c, s⟩ := p; cases c <;> rfl
theorem DV.dex {e : Expr} {r : XC} (h : DV X e (ev r)) : DE X e (ev (xDe r)) := by rw [← xDe_eq]; exact h.de
def xBin (g : D → D → Option Cell) (ra rb : XE) : XC := fun env => (ra env).bind fun d => (rb env).bind fun e => .opt (g d e)
theorem xBin_eq (g : D → D → Option Cell) (ra rb : XE) : rBin g (ev ra) (ev rb) = ev (xBin g ra rb) := by
  funext env S
  unfold rBin ev xBin
  rw [Tr.run_bind]
  cases (ra env).run S with
  | none => rfl
  | some p =>
    obtain ⟨d, s⟩ := p
    dsimp only
    rw [Tr.run_bind]
    cases (rb env).run s with
    | none => rfl
    | some p =>
      obtain ⟨e, s'⟩ := p
      dsimp only
      rw [Tr.run_opt]
      cases g d e <;> rfl
theorem dv_binx {op : Operator} {a b : Expr} {g : D → D → Option Cell} {ra rb : XE} (ho : OpD X (binaryOp op) g) (ha : DB X a (ev ra)) (hb : DB X b (ev rb)) : DV X (.BinOp a op b pos) (ev (xBin g ra rb)) := by rw [← xBin_eq]; exact dv_bin ho ha hb
theorem dv_cmpx {op : CmpOp} {a b : Expr} {g : D → D → Option Cell} {ra rb : XE} (ho : OpD X (compareOp op) g) (ha : DB X a (ev ra)) (hb : DB X b (ev rb)) (hm : behindInMarks op b = false) : DV X (.Compare a [op] [b] pos) (ev (xBin g ra rb)) := by rw [← xBin_eq]; exact dv_cmp ho ha hb hm
def xTruth (r : XC) : XB := fun env => (r env).bind fun
  | .sh (.bl b) => .ret b
  | _ => .fail
theorem xTruth_eq (r : XC) : rTruth (ev r) = ev (xTruth r) := by
  funext env S
  unfold rTruth ev xTruth
  rw [Tr.run_bind]
  cases (r env).run S with
  | none => rfl
  | some p =>
    obtain ⟨c, s⟩ := p
    cases c with
    | no => rfl
    | ow d => rfl
    | sh d => cases d <;> rfl
theorem dt_cmpx {op : CmpOp} {a b : Expr} {g : D → D → Option Cell} {ra rb : XE} (ho : OpD X (compareOp op) g) (ha : DB X a (ev ra)) (hb : DB X b (ev rb)) (hm : behindInMarks op b = false) : DT X (.Compare a [op] [b] pos) (ev (xTruth (xBin g ra rb))) := by rw [← xTruth_eq, ← xBin_eq]; exact dt_cmp ho ha hb hm
def xNil : XA := fun _ => .ret []
def xCons (a : XE) (r : XA) : XA := fun env => (a env).bind fun d => (r env).bind fun ds => .ret (d :: ds)
theorem xCons_eq (a : XE) (r : XA) : rCons (ev a) (ev r) = ev (xCons a r) := by
  funext env S
  unfold rCons ev xCons
  rw [Tr.run_bind]
  cases (a env).run S with
  | none => rfl
  | some p =>
    obtain ⟨d, s⟩ := p
    dsimp only
    rw [Tr.run_bind]
    cases (r env).run s <;> rfl
theorem da_nilx : DA X [] (ev xNil) := da_nil (T := List Int)
theorem dab_nilx : DAb X [] (ev xNil) := dab_nil (T := List Int)
theorem da_consx {e : Expr} {es : List Expr} {a : XE} {r : XA} (ha : DE X e (ev a)) (hr : DA X es (ev r)) (hs : starEach (e :: es) X.env = (false, eval e X.env) :: starEach es X.env := by rfl) : DA X (e :: es) (ev (xCons a r)) := by rw [← xCons_eq]; exact da_cons ha hr hs
theorem dab_consx {e : Expr} {es : List Expr} {a : XE} {r : XA} (ha : DB X e (ev a)) (hr : DAb X es (ev r)) (hs : starEach (e :: es) X.env = (false, eval e X.env) :: starEach es X.env := by rfl) : DAb X (e :: es) (ev (xCons a r)) := by rw [← xCons_eq]; exact dab_cons ha hr hs
def xTup (r : XA) : XE := fun env => (r env).bind fun ds => if ds.length ≤ most then .ret (.tup ds) else .fail
theorem xTup_eq (r : XA) : rTup (ev r) = ev (xTup r) := by
  funext env S
  unfold rTup ev xTup
  rw [Tr.run_bind]
  cases (r env).run S with
  | none => rfl
  | some p =>
    obtain ⟨d, s⟩ := p
    dsimp only
    split <;> rfl
theorem de_tupx {es : List Expr} {x1} {r : XA} (h : DA X es (ev r)) : DE X (.Tuple es x1 pos) (ev (xTup r)) := by rw [← xTup_eq]; exact de_tup h
def xLst (r : XA) : XC := fun env => (r env).bind fun ds => if ds.length ≤ most then .ret (.ow (.lst ds)) else .fail
theorem xLst_eq (r : XA) : rLst (ev r) = ev (xLst r) := by
  funext env S
  unfold rLst ev xLst
  rw [Tr.run_bind]
  cases (r env).run S with
  | none => rfl
  | some p =>
    obtain ⟨d, s⟩ := p
    dsimp only
    split <;> rfl
theorem dv_lstx {es : List Expr} {r : XA} (h : DA X es (ev r)) : DV X (.List es pos) (ev (xLst r)) := by rw [← xLst_eq]; exact dv_lst h
def xCall (f : List D → Option D) (r : XA) : XE := fun env => (r env).bind fun ds => .opt (f ds)
theorem xCall_eq (f : List D → Option D) (r : XA) : rCall f (ev r) = ev (xCall f r) := by
  funext env S
  unfold rCall ev xCall
  rw [Tr.run_bind]
  cases (r env).run S with
  | none => rfl
  | some p =>
    obtain ⟨d, s⟩ := p
    dsimp only
    rw [Tr.run_opt]
    cases f d <;> rfl
theorem de_callx {x : Str} {p : Pos} {e : Expr} {es : List Expr} {k : Nat} {f : List D → Option D} {r : XA} (c : Cal X.prog X.w X.K X.mg X.base x k (spD X.K f)) (hr : Room k X.A) (hg : Gl X x) (ha : DA X (e :: es) (ev r))
    (hdb : (x == ("__debug__" : Str)) = false := by decide) (he : starEach (e :: es) X.env = (false, eval e X.env) :: starEach es X.env := by rfl) (hpl : (backTo pos (starEach es X.env)).any (·.1) = false := by rfl) : DE X (.Call (.Name x p) (e :: es) [] pos) (ev (xCall f r)) := by
  rw [← xCall_eq]; exact de_call c hr hg ha hdb he hpl
def runX (f : List D → Tr D) : List D → List Int → Option (D × List Int) := fun ds S => (f ds).run S
def xCallW (f : List D → Tr D) (r : XA) : XE := fun env => (r env).bind f
theorem xCallW_eq (f : List D → Tr D) (r : XA) : rCallW (runX f) (ev r) = ev (xCallW f r) := by
  funext env S
  unfold rCallW ev xCallW runX
  rw [Tr.run_bind]
  cases (r env).run S <;> rfl
theorem de_callWx {x : Str} {p : Pos} {e : Expr} {es : List Expr} {k : Nat} {f : List D → Tr D} {r : XA} (c : Cal X.prog X.w X.K X.mg X.base x k (spW X.K (runX f))) (hr : Room k X.A) (hg : Gl X x) (ha : DA X (e :: es) (ev r))
    (hdb : (x == ("__debug__" : Str)) = false := by decide) (he : starEach (e :: es) X.env = (false, eval e X.env) :: starEach es X.env := by rfl) (hpl : (backTo pos (starEach es X.env)).any (·.1) = false := by rfl) : DE X (.Call (.Name x p) (e :: es) [] pos) (ev (xCallW f r)) := by
  rw [← xCallW_eq]; exact de_callW c hr hg ha hdb he hpl
def xCB (g : List D → Option Cell) (r : XA) : XC := fun env => (r env).bind fun ds => .opt (g ds)
theorem xCB_eq (g : List D → Option Cell) (r : XA) : rCB g (ev r) = ev (xCB g r) := by
  funext env S
  unfold rCB ev xCB
  rw [Tr.run_bind]
  cases (r env).run S with
  | none => rfl
  | some p =>
    obtain ⟨d, s⟩ := p
    dsimp only
    rw [Tr.run_opt]
    cases g d <;> rfl
theorem dv_callTyx {x : Str} {p : Pos} {e : Expr} {es : List Expr} {id : String} {g : List D → Option Cell} {ra : XA} (hc : CallD X (.type id) g) (hg : Gl X x) (hm : X.mg x = none) (hv : bootBuiltins x = some (.type id)) (ha : DAb X (e :: es) (ev ra))
    (hn : x ≠ "__name__" := by decide) (hdb : (x == ("__debug__" : Str)) = false := by decide)
    (he : starEach (e :: es) X.env = (false, eval e X.env) :: starEach es X.env := by rfl) (hpl : (backTo pos (starEach es X.env)).any (·.1) = false := by rfl) : DV X (.Call (.Name x p) (e :: es) [] pos) (ev (xCB g ra)) := by
  rw [← xCB_eq]; exact dv_callTy hc hg hm hv ha hn hdb he hpl
theorem dv_callBx {x : Str} {p : Pos} {e : Expr} {es : List Expr} {id : String} {g : List D → Option Cell} {ra : XA} (hc : CallD X (.builtin id) g) (hg : Gl X x) (hm : X.mg x = none) (hv : bootBuiltins x = some (.builtin id)) (ha : DAb X (e :: es) (ev ra))
    (hn : x ≠ "__name__" := by decide) (hdb : (x == ("__debug__" : Str)) = false := by decide)
    (he : starEach (e :: es) X.env = (false, eval e X.env) :: starEach es X.env := by rfl) (hpl : (backTo pos (starEach es X.env)).any (·.1) = false := by rfl) : DV X (.Call (.Name x p) (e :: es) [] pos) (ev (xCB g ra)) := by
  rw [← xCB_eq]; exact dv_callB hc hg hm hv ha hn hdb he hpl
def xItems (r : XE) : XA := fun env => (r env).bind fun
  | .lst l => .ret l
  | .tup l => .ret l
  | _ => .fail
theorem xItems_eq (r : XE) : rItems (ev r) = ev (xItems r) := by
  funext env S
  unfold rItems ev xItems
  rw [Tr.run_bind]
  cases (r env).run S with
  | none => rfl
  | some p => obtain ⟨d, s⟩ := p; cases d <;> rfl
def xRange1 (r : XA) : XA := fun env => (r env).bind fun
  | [.int j] => if okR j then .ret (rangeI j.toNat 0) else .fail
  | _ => .fail
theorem xRange1_eq (r : XA) : rRange1 (ev r) = ev (xRange1 r) := by
  funext env S
  unfold rRange1 ev xRange1
  rw [Tr.run_bind]
  cases (r env).run S with
  | none => rfl
  | some p =>
    obtain ⟨d, s⟩ := p
    match d with
    | [.int j] =>
      dsimp only
      cases okR j <;> rfl
    | [] => rfl
    | [.non] => rfl
    | [.bl _] => rfl
    | [.str _] => rfl
    | [.tup _] => rfl
    | [.lst _] => rfl
    | [.wd] => rfl
    | a :: _ :: _ => cases a <;> rfl
theorem di_range1x {tg a : Expr} {r : XA} {p : Pos} {bor : Bool} (hg : Gl X "range") (hm : X.mg "range" = none) (ha : DA X [a] (ev r)) (hs : starEach [a] X.env = [(false, eval a X.env)] := by rfl) : DI X bor tg (.Call (.Name "range" p) [a] [] pos) (ev (xRange1 r)) := by
  rw [← xRange1_eq]; exact di_range1 hg hm ha hs
theorem di_seqx {tg e : Expr} {r : XE} (h : DE X e (ev r)) : DI X false tg e (ev (xItems r)) := by rw [← xItems_eq]; exact di_seq h
theorem dib_seqx {tg e : Expr} {r : XE} (h : DB X e (ev r)) : DI X true tg e (ev (xItems r)) := by rw [← xItems_eq]; exact dib_seq h
def xYes : XB := fun _ => .ret true
theorem dts_nilx : DTs X [] (ev xYes) := dts_nil (T := List Int)
theorem dts_onex {c : Expr} {r : XB} (h : DT X c (ev r)) : DTs X [c] (ev r) := dts_one h
def xlcL (g : RG) (tt : XB) (te : XE) (env : Env) : List D → Tr (List D)
  | [] => .ret []
  | d :: ds => (Tr.opt (g d env)).bind fun env1 => (tt env1).bind fun
    | false => xlcL g tt te env ds
    | true => (te env1).bind fun y => (xlcL g tt te env ds).bind fun ys => .ret (y :: ys)
theorem xlcL_eq (g : RG) (tt : XB) (te : XE) (env : Env) : ∀ (ds : List D) (S : List Int), lcL g (ev tt) (ev te) env ds S = (xlcL g tt te env ds).run S
  | [], S => rfl
  | d :: ds, S => by
    unfold lcL xlcL
    rw [Tr.run_bind, Tr.run_opt]
    cases g d env with
    | none => rfl
    | some env1 =>
      dsimp only [Option.map_some]
      rw [Tr.run_bind, ev_at]
      cases (tt env1).run S with
      | none => rfl
      | some p =>
        obtain ⟨b, s⟩ := p
        cases b with
        | false => exact xlcL_eq g tt te env ds s
        | true =>
          dsimp only
          rw [Tr.run_bind, ev_at]
          cases (te env1).run s with
          | none => rfl
          | some p =>
            obtain ⟨y, s2⟩ := p
            dsimp only
            rw [Tr.run_bind, xlcL_eq g tt te env ds s2]
            cases (xlcL g tt te env ds).run s2 <;> rfl
def xLc (ri : XA) (g : RG) (tt : XB) (te : XE) (vs : List Nat) : XC := fun env => (ri env).bind fun ds => if ds.length ≤ most then (xlcL g tt te (wipeE env vs) ds).bind fun ys => .ret (.ow (.lst ys)) else .fail
theorem xLc_eq (ri : XA) (g : RG) (tt : XB) (te : XE) (vs : List Nat) : rLc (ev ri) g (ev tt) (ev te) vs = ev (xLc ri g tt te vs) := by
  funext env S
  unfold rLc xLc
  rw [ev_at, ev_at, Tr.run_bind]
  cases (ri env).run S with
  | none => rfl
  | some p =>
    obtain ⟨ds, s⟩ := p
    dsimp only
    split
    · rw [Tr.run_bind, xlcL_eq]
      cases (xlcL g tt te (wipeE env vs) ds).run s <;> rfl
    · rfl
theorem dv_lcx {elt tg iter : Expr} {ifs : List Expr} {scope : Scope} {own : List (Str × Nat)} {ri : XA} {g : RG} {tt : XB} {te : XE} {is : List Nat} (hc : X.calm = true) (hN : X.N.Nodup) (hi : DI X true tg iter (ev ri)) (ok : BlkOk X.N X.env.scope scope own)
    (hv : ∀ i ∈ is, i ∈ own.map (·.2))
    (hg : ∀ (s : Shared) (H : Hp) (C : Addr) (cl : List (Str × Addr)) (fp : List Addr), DG (X.blk s H scope (compEnvC scope cl C X.env) fp) (List Int) tg g is) (ht : ∀ (s : Shared) (H : Hp) (C : Addr) (cl : List (Str × Addr)) (fp : List Addr), DTs (X.blk s H scope (compEnvC scope cl C X.env) fp) ifs (ev tt))
    (he : ∀ (s : Shared) (H : Hp) (C : Addr) (cl : List (Str × Addr)) (fp : List Addr), DE (X.blk s H scope (compEnvC scope cl C X.env) fp) elt (ev te)) (hs : ∀ x, foldedSetIterable iter X.env x = pure x := by intro _; rfl) :
    DV X (.ListComp elt [⟨tg, iter, ifs, 0⟩] scope pos) (ev (xLc ri g tt te (own.map (·.2)))) := by rw [← xLc_eq]; exact dv_lc hc hN hi ok hv hg ht he hs
/-! statements -/
def xSeq (a b : XS) : XS := fun env => (a env).bind fun
  | .nx env1 _ => b env1
  | o => .ret o
theorem xSeq_eq (a b : XS) : rSeq (evS a) (evS b) = evS (xSeq a b) := by
  funext env S
  unfold rSeq xSeq evS
  rw [Tr.run_bind]
  cases (a env).run S with
  | none => rfl
  | some p => obtain ⟨o, s⟩ := p; cases o <;> rfl
theorem dss_consx {st : Stmt} {rest : List Stmt} {a b : XS} (h1 : DS X st (evS a)) (h2 : DSs X rest (evS b)) : DSs X (st :: rest) (evS (xSeq a b)) := by rw [← xSeq_eq]; exact dss_cons h1 h2
theorem dss_onex {st : Stmt} {a : XS} (h : DS X st (evS a)) : DSs X [st] (evS a) := dss_one h
def xSkip : XS := fun env => .ret (.nx env ())
theorem dss_nilx : DSs X [] (evS xSkip) := dss_nil (T := List Int)
def xSet (i : Nat) (r : XC) : XS := fun env => (r env).bind fun c => .ret (.nx (env.set i c) ())
theorem xSet_eq (i : Nat) (r : XC) : rSet i (ev r) = evS (xSet i r) := by
  funext env S
  unfold rSet xSet evS ev
  rw [Tr.run_bind]
  cases (r env).run S with
  | none => rfl
  | some p => obtain ⟨o, s⟩ := p; rfl
theorem ds_setx {i : Nat} {x : Str} {e : Expr} {r : XC} {pos' : Pos} (hN : X.N.Nodup) (hi : X.N[i]? = some x) (hx : Loc X.env.scope x) (he : DV X e (ev r)) (hs : swapsWith e (some (.Name x pos')) pos.line X.env = pure false := by rfl) (hf : X.fn x = true ∨ X.env.scope.names.lookup x = some .local := by first | exact .inl rfl | exact .inr rfl | assumption) :
    DS X (.Assign [.Name x pos'] e pos) (evS (xSet i r)) := by rw [← xSet_eq]; exact ds_set hN hi hx he hs hf
theorem ds_setLcx {i : Nat} {y : Str} {py : Pos} {elt tg iter : Expr} {ifs : List Expr} {scope : Scope} {own : List (Str × Nat)} {spos : Pos} {ri : XA} {g : RG} {tt : XB} {te : XE} {is : List Nat} (hc : X.calm = true) (hN : X.N.Nodup) (hy : X.N[i]? = some y) (hyl : X.env.scope.names.lookup y = some .local)
    (hsw : swapsWith (.ListComp elt [⟨tg, iter, ifs, 0⟩] scope pos) (some (.Name y py)) spos.line X.env = pure true) (hi : DI X true tg iter (ev ri)) (ok : BlkOk X.N X.env.scope scope own)
    (hv : ∀ i ∈ is, i ∈ own.map (·.2))
    (hg : ∀ (s : Shared) (H : Hp) (C : Addr) (cl : List (Str × Addr)) (fp : List Addr), DG (X.blk s H scope (compEnvC scope cl C X.env) fp) (List Int) tg g is) (ht : ∀ (s : Shared) (H : Hp) (C : Addr) (cl : List (Str × Addr)) (fp : List Addr), DTs (X.blk s H scope (compEnvC scope cl C X.env) fp) ifs (ev tt))
    (he : ∀ (s : Shared) (H : Hp) (C : Addr) (cl : List (Str × Addr)) (fp : List Addr), DE (X.blk s H scope (compEnvC scope cl C X.env) fp) elt (ev te)) (hs : ∀ x, foldedSetIterable iter X.env x = pure x := by intro _; rfl) :
    DS X (.Assign [.Name y py] (.ListComp elt [⟨tg, iter, ifs, 0⟩] scope pos) spos) (evS (xSet i (xLc ri g tt te (own.map (·.2))))) := by rw [← xSet_eq, ← xLc_eq]; exact ds_setLc hc hN hy hyl hsw hi ok hv hg ht he hs
abbrev XCs := Env → Tr (List Cell)
def xCNil : XCs := fun _ => .ret []
def xCCons (a : XC) (r : XCs) : XCs := fun env => (a env).bind fun d => (r env).bind fun ds => .ret (d :: ds)
theorem xCCons_eq (a : XC) (r : XCs) : rCCons (ev a) (ev r) = ev (xCCons a r) := by
  funext env S
  unfold rCCons ev xCCons
  rw [Tr.run_bind]
  cases (a env).run S with
  | none => rfl
  | some p =>
    obtain ⟨d, s⟩ := p
    dsimp only
    rw [Tr.run_bind]
    cases (r env).run s <;> rfl
theorem dc_nilx : DC X [] (ev xCNil) := dc_nil (T := List Int)
theorem dc_consx {e : Expr} {es : List Expr} {a : XC} {r : XCs} (ha : DV X e (ev a)) (hr : DC X es (ev r)) (hs : starEach (e :: es) X.env = (false, eval e X.env) :: starEach es X.env := by rfl) : DC X (e :: es) (ev (xCCons a r)) := by rw [← xCCons_eq]; exact dc_cons ha hr hs
def xPar (is : List Nat) (r : XCs) : XS := fun env => (r env).bind fun cs => if cs.length = is.length then .ret (.nx (setAll env is cs) ()) else .fail
theorem xPar_eq (is : List Nat) (r : XCs) : rPar is (ev r) = evS (xPar is r) := by
  funext env S
  unfold rPar xPar evS ev
  rw [Tr.run_bind]
  cases (r env).run S with
  | none => rfl
  | some p =>
    obtain ⟨o, s⟩ := p
    dsimp only
    split <;> rfl
theorem ds_par2x {i j : Nat} {x y : Str} {a b : Expr} {r : XCs} {px py pt : Pos} {kt k2 pt2} (hc : X.calm = true) (hN : X.N.Nodup) (hi : X.N[i]? = some x) (hj : X.N[j]? = some y) (hij : i ≠ j)
    (hx : X.env.scope.names.lookup x = some .local) (hy : X.env.scope.names.lookup y = some .local) (ha : DC X [a, b] (ev r))
    (hw : swappedStores [.Tuple [.Name x px, .Name y py] kt pt] (.Tuple [a, b] k2 pt2) X.env = pure (some [x, y]))
    (hs : swapsWithSole [.Tuple [.Name x px, .Name y py] kt pt] (.Tuple [a, b] k2 pt2) pos.line X.env = pure false := by rfl) :
    DS X (.Assign [.Tuple [.Name x px, .Name y py] kt pt] (.Tuple [a, b] k2 pt2) pos) (evS (xPar [i, j] r)) := by rw [← xPar_eq]; exact ds_par2 hc hN hi hj hij hx hy ha hw hs
theorem ds_par3x {i j l : Nat} {x y z : Str} {a b c : Expr} {r : XCs} {px py pz pt : Pos} {kt k2 pt2} (hc : X.calm = true) (hN : X.N.Nodup) (hi : X.N[i]? = some x) (hj : X.N[j]? = some y) (hl : X.N[l]? = some z) (hij : i ≠ j) (hil : i ≠ l) (hjl : j ≠ l)
    (hx : X.env.scope.names.lookup x = some .local) (hy : X.env.scope.names.lookup y = some .local) (hz : X.env.scope.names.lookup z = some .local) (ha : DC X [a, b, c] (ev r))
    (hw : swappedStores [.Tuple [.Name x px, .Name y py, .Name z pz] kt pt] (.Tuple [a, b, c] k2 pt2) X.env = pure (some [x, y, z]))
    (hs : swapsWithSole [.Tuple [.Name x px, .Name y py, .Name z pz] kt pt] (.Tuple [a, b, c] k2 pt2) pos.line X.env = pure false := by rfl) :
    DS X (.Assign [.Tuple [.Name x px, .Name y py, .Name z pz] kt pt] (.Tuple [a, b, c] k2 pt2) pos) (evS (xPar [i, j, l] r)) := by rw [← xPar_eq]; exact ds_par3 hc hN hi hj hl hij hil hjl hx hy hz ha hw hs
theorem ds_parNx {tg es : List Expr} {is : List Nat} {r : XCs} {kt k2 pt pt2} (hc : X.calm = true) (hg : DNs X tg is) (he : DC X es (ev r))
    (hsz : is.length ≤ most := by decide) (hn : (assignEach tg X.env).length = is.length := by rfl) (hst : (assignEach tg X.env).findIdx? (·.1) = none := by rfl)
    (hs : swapsWithSole [.Tuple tg kt pt] (.Tuple es k2 pt2) pos.line X.env = pure false := by rfl) (hw : swappedStores [.Tuple tg kt pt] (.Tuple es k2 pt2) X.env = pure none := by rfl)
    (h1 : (assignEach [.Tuple tg kt pt] X.env).map (·.2) = [assign (.Tuple tg kt pt) X.env] := by rfl) : DS X (.Assign [.Tuple tg kt pt] (.Tuple es k2 pt2) pos) (evS (xPar is r)) := by rw [← xPar_eq]; exact ds_parN hc hg he hsz hn hst hs hw h1
def xloopL (g : RG) (b : XS) : List D → Env → Tr (Out Unit)
  | [], env => .ret (.nx env ())
  | d :: ds, env => (Tr.opt (g d env)).bind fun env1 => (b env1).bind fun
    | .nx env2 _ => xloopL g b ds env2
    | .ct env2 _ => xloopL g b ds env2
    | .bk env2 _ => .ret (.nx env2 ())
    | .rt d _ => .ret (.rt d ())
theorem xloopL_eq (g : RG) (b : XS) : ∀ (ds : List D) (env : Env) (S : List Int), loopL g (evS b) ds env S = evS (fun env => xloopL g b ds env) env S
  | [], env, S => rfl
  | d :: ds, env, S => by
    unfold loopL evS xloopL
    rw [Tr.run_bind, Tr.run_opt]
    cases g d env with
    | none => rfl
    | some env1 =>
      dsimp only [Option.map_some]
      rw [Tr.run_bind]
      cases (b env1).run S with
      | none => rfl
      | some p =>
        obtain ⟨o, s⟩ := p
        cases o with
        | nx env2 u => exact xloopL_eq g b ds env2 s
        | ct env2 u => exact xloopL_eq g b ds env2 s
        | bk env2 u => rfl
        | rt d u => rfl
def xFor (ri : XA) (g : RG) (b : XS) : XS := fun env => (ri env).bind fun ds => xloopL g b ds env
theorem xFor_eq (ri : XA) (g : RG) (b : XS) : rFor (ev ri) g (evS b) = evS (xFor ri g b) := by
  funext env S
  unfold rFor xFor
  rw [ev_at, evS_at, Tr.run_bind]
  cases (ri env).run S with
  | none => rfl
  | some p => obtain ⟨ds, s⟩ := p; exact xloopL_eq g b ds env s
theorem ds_forx {tg iter : Expr} {body : List Stmt} {ri : XA} {g : RG} {b : XS} {is : List Nat} (hp : PassesOwn (model X.prog X.w) X.A X.env X.xe) (hc : X.calm = true) (hi : DI X false tg iter (ev ri)) (hg : DG X (List Int) tg g is) (hb : DSs X body (evS b))
    (hs : ∀ x, foldedSetIterable iter X.env x = pure x := by intro _; rfl) : DS X (.For tg iter body [] pos) (evS (xFor ri g b)) := by rw [← xFor_eq]; exact ds_for hp hc hi hg hb hs
def xIfS (c : XB) (a b : XS) : XS := fun env => (c env).bind fun
  | true => a env
  | false => b env
theorem xIfS_eq (c : XB) (a b : XS) : rIfS (ev c) (evS a) (evS b) = evS (xIfS c a b) := by
  funext env S
  unfold rIfS xIfS
  rw [ev_at, evS_at, Tr.run_bind]
  cases (c env).run S with
  | none => rfl
  | some p => obtain ⟨b', s⟩ := p; cases b' <;> rfl
theorem ds_ifx {c : Expr} {sa sb : List Stmt} {rc : XB} {a b : XS} (hc : DT X c (ev rc)) (ha : DSs X sa (evS a)) (hb : DSs X sb (evS b)) : DS X (.If c sa sb pos) (evS (xIfS rc a b)) := by rw [← xIfS_eq]; exact ds_if hc ha hb
def xRet (r : XE) : XS := fun env => (r env).bind fun d => .ret (.rt d ())
theorem xRet_eq (r : XE) : rRet (ev r) = evS (xRet r) := by
  funext env S
  unfold rRet xRet evS ev
  rw [Tr.run_bind]
  cases (r env).run S with
  | none => rfl
  | some p => obtain ⟨o, s⟩ := p; rfl
theorem ds_retx {e : Expr} {r : XE} (h : DE X e (ev r)) : DS X (.Return (some e) pos) (evS (xRet r)) := by rw [← xRet_eq]; exact ds_ret h
def xAppend (i : Nat) (r : XE) : XS := fun env => (r env).bind fun d => match env[i]? with
  | some (.ow (.lst l)) => if l.length < most then .ret (.nx (env.set i (.ow (.lst (l ++ [d])))) ()) else .fail
  | _ => .fail
theorem xAppend_eq (i : Nat) (r : XE) : rAppend' i (ev r) = evS (xAppend i r) := by
  funext env S
  unfold rAppend' xAppend evS ev
  rw [Tr.run_bind]
  cases (r env).run S with
  | none => rfl
  | some p =>
    obtain ⟨o, s⟩ := p
    dsimp only
    cases env[i]? with
    | none => rfl
    | some c =>
      cases c with
      | ow d =>
        cases d with
        | lst l =>
          dsimp only
          by_cases h : l.length < most
          · rw [if_pos h, if_pos h]; rfl
          · rw [if_neg h, if_neg h]; rfl
        | _ => rfl
      | _ => rfl
def xShare (is : List Nat) (r : XS) : XS := fun env => r (shareE env is)
theorem ds_sharex {st : Stmt} {r : XS} (is : List Nat) (h : DS X st (evS r)) : DS X st (evS (xShare is r)) := ds_share is h
/-- n parameters, m names -/
def xFn (n m : Nat) (b : XS) : List D → Tr D := fun ds => if ds.length = n then (b (envOf m ds)).bind fun
    | .rt d _ => .ret d
    | .nx _ _ => .ret .non
    | _ => .fail
  else .fail
theorem xFn_eq (n m : Nat) (b : XS) : runFnW n m (evS b) = runX (xFn n m b) := by
  funext ds S
  unfold runFnW runX xFn evS
  split
  · rw [Tr.run_bind]
    cases (b (envOf m ds)).run S with
    | none => rfl
    | some p => obtain ⟨o, s⟩ := p; cases o <;> rfl
  · rfl
end
theorem fn_okX {P : Program} {w : World} {K : PySem.W.Frag} {mg : Str → Option Value} {base : Heap} {x qual : Str} {st : Stmt} {f : Addr} {fd : FuncData} {N ps : List Str} {k n m : Nat} {b : XS} (F : Fun K x qual st f fd) (S : FnScope N ps (defScope st)) (hn : n = ps.length) (hm : m = N.length)
    (hb : ∀ (cdv : Value) (A : Around) (outer : List PySem.Env) (s : Shared) (H : Hp) (E : XK), Room k (A.deeper (envOfC qual (defScope st) s.heap.objs.size f cdv)) → DSs (cxOf CX0 P w K mg base N qual (defScope st) f cdv A outer s H E).nox (defBody st) (evS b)) :
    FnOk P w K mg base CX0 (k + 1) f fd ps (spW K (runX (xFn n m b))) := by
  rw [← xFn_eq]; exact fn_okW F S hn hm hb
/-- the next draw, below m -/
def x__law_next : List D → Tr D := fun ds => match ds with
  | [.wd, .int m] => if ltI 0 m then .ask m fun c => .ret (.int c) else .fail
  | _ => .fail
end DL
namespace DL
/-! ### the tree in pieces -/
def isT : D → Bool
  | .bl true => true
  | _ => false
theorem isT_eq {d : D} (h : isT d = true) : d = .bl true := by
  unfold isT at h
  split at h
  · rfl
  · cases h
def Tr.sub {α : Type} : Tr α → Int → Tr α
  | .ask _ k, c => k c
  | t, _ => t
def Tr.mod {α : Type} : Tr α → Nat
  | .ask m _ => m.toNat
  | _ => 0
theorem Tr.all_sub {α : Type} {Q : α → Prop} {t : Tr α} (m : Nat) (hm : (t.mod == m && decide (0 < m)) = true) (h : ∀ c : Nat, c < m → (t.sub (Int.ofNat c)).all Q) : t.all Q := by
  rw [Bool.and_eq_true, beq_iff_eq, decide_eq_true_eq] at hm
  obtain ⟨h1, h2⟩ := hm
  cases t with
  | ret a => exfalso; have h3 : (0 : Nat) = m := h1; omega
  | fail => exfalso; have h3 : (0 : Nat) = m := h1; omega
  | ask n k =>
    have e : n.toNat = m := h1
    refine ⟨by omega, fun c h0 hc => ?_⟩
    have hh := h c.toNat (by omega)
    have e2 : Int.ofNat c.toNat = c := by show ((c.toNat : Nat) : Int) = c; omega
    rw [e2] at hh
    exact hh
end DL

end
section
set_option Elab.async false
set_option linter.all false
set_option maxRecDepth 100000
set_option autoImplicit false
namespace DL
/-! ### cutting the tree of a def between its statements -/
theorem Tr.bind_assoc {α β γ : Type} (f : α → Tr β) (g : β → Tr γ) : ∀ t : Tr α, (t.bind f).bind g = t.bind fun a => (f a).bind g
  | .ret a => rfl
  | .fail => rfl
  | .ask m k => congrArg (Tr.ask m) (funext fun c => Tr.bind_assoc f g (k c))
theorem xSeq_assoc (a b c : XS) : xSeq (xSeq a b) c = xSeq a (xSeq b c) := by
  funext env
  unfold xSeq
  rw [Tr.bind_assoc]
  congr 1
  funext o
  cases o <;> rfl
def xSeqL : List XS → XS
  | [] => fun env => .ret (.nx env ())
  | [a] => a
  | a :: r => xSeq a (xSeqL r)
theorem xSeqL_append {r : List XS} (hr : r ≠ []) : ∀ {l : List XS}, l ≠ [] → xSeqL (l ++ r) = xSeq (xSeqL l) (xSeqL r)
  | [], h => absurd rfl h
  | [a], _ => by
    cases r with
    | nil => exact absurd rfl hr
    | cons b r => rfl
  | a :: b :: l, _ => by
    have ih := xSeqL_append hr (l := b :: l) (List.cons_ne_nil _ _)
    show xSeq a (xSeqL ((b :: l) ++ r)) = xSeq (xSeq a (xSeqL (b :: l))) (xSeqL r)
    rw [ih, xSeq_assoc]
/-- what a def gives, of what its statements end in -/
def outD : Out Unit → Tr D
  | .rt d _ => .ret d
  | .nx _ _ => .ret .non
  | _ => .fail
/-- what is true where the next statements begin -/
def goes (p : Env → Bool) : Out Unit → Bool
  | .nx env _ => p env
  | _ => false
theorem cut_all {p : Env → Bool} {Q : D → Prop} {l r : List XS} {env : Env} (hl : l ≠ []) (hr : r ≠ []) (h1 : (xSeqL l env).all fun o => goes p o = true) (h2 : ∀ e, p e = true → ((xSeqL r e).bind outD).all Q) : ((xSeqL (l ++ r) env).bind outD).all Q := by
  rw [xSeqL_append hr hl]
  unfold xSeq
  rw [Tr.bind_assoc]
  refine (Tr.all_bind _ _ _).mpr (Tr.all_mono (fun o ho => ?_) _ h1)
  cases o with
  | nx e u => exact h2 e ho
  | rt d u => cases ho
  | bk e u => cases ho
  | ct e u => cases ho
theorem fn_all {n m : Nat} {b : XS} {ds : List D} {Q : D → Prop} (hl : ds.length = n) (h : ((b (envOf m ds)).bind outD).all Q) : (xFn n m b ds).all Q := by
  unfold xFn
  rw [if_pos hl]
  exact h
theorem int_lt {P : Int → Prop} (n : Nat) (h : ∀ i : Nat, i < n → P (Int.ofNat i)) (m : Int) (h0 : 0 ≤ m) (h1 : m < n) : P m := by
  have := h m.toNat (by omega)
  rwa [show Int.ofNat m.toNat = m by show ((m.toNat : Nat) : Int) = m; omega] at this

/-! ### a def by a table -/
def withTab (tab : List D → Option D) (r : List D → Option D) : List D → Option D := fun ds => match tab ds with
  | some d => some d
  | none => r ds
theorem withTab_eq {tab r : List D → Option D} (h : ∀ ds d, tab ds = some d → r ds = some d) : r = withTab tab r := by
  funext ds
  unfold withTab
  cases e : tab ds with
  | none => rfl
  | some d => exact h ds d e
/-- ints by two ints -/
def tab2 (L : List (List Int)) : List D → Option D
  | [.int (.ofNat i), .int (.ofNat j)] => match L[i]? with
    | some l => match l[j]? with
      | some v => some (.int v)
      | none => none
    | none => none
  | _ => none
def isInt (v : Int) : Option D → Bool
  | some (.int x) => x == v
  | _ => false
theorem isInt_eq {v : Int} {o : Option D} (h : isInt v o = true) : o = some (.int v) := by
  unfold isInt at h
  split at h
  · rw [eq_of_beq h]
  · cases h
def chkRow (f : Nat → Option D) : Nat → List Int → Bool
  | _, [] => true
  | i, v :: l => isInt v (f i) && chkRow f (i + 1) l
theorem chkRow_ok {f : Nat → Option D} : ∀ {l : List Int} {i : Nat}, chkRow f i l = true → ∀ j v, l[j]? = some v → f (i + j) = some (.int v)
  | [], _, _, j, v, e => by simp at e
  | x :: l, i, h, j, v, e => by
    unfold chkRow at h
    rw [Bool.and_eq_true] at h
    cases j with
    | zero => cases e; exact isInt_eq h.1
    | succ j =>
      have := chkRow_ok h.2 j v (by simpa using e)
      rwa [show i + 1 + j = i + (j + 1) by omega] at this
def chk2 (r : List D → Option D) : Nat → List (List Int) → Bool
  | _, [] => true
  | i, l :: L => chkRow (fun j => r [.int (.ofNat i), .int (.ofNat j)]) 0 l && chk2 r (i + 1) L
theorem chk2_ok {r : List D → Option D} : ∀ {L : List (List Int)} {i : Nat}, chk2 r i L = true → ∀ a l j v, L[a]? = some l → l[j]? = some v → r [.int (.ofNat (i + a)), .int (.ofNat j)] = some (.int v)
  | [], _, _, a, l, j, v, e, _ => by simp at e
  | x :: L, i, h, a, l, j, v, e, e2 => by
    unfold chk2 at h
    rw [Bool.and_eq_true] at h
    cases a with
    | zero =>
      cases e
      have := chkRow_ok h.1 j v e2
      rwa [Nat.zero_add] at this
    | succ a =>
      have := chk2_ok h.2 a l j v (by simpa using e) e2
      rwa [show i + 1 + a = i + (a + 1) by omega] at this
theorem tab2_eq {r : List D → Option D} (L : List (List Int)) (h : chk2 r 0 L = true) : r = withTab (tab2 L) r := withTab_eq fun ds d e => by
  unfold tab2 at e
  split at e
  · next i j =>
    split at e
    · next l h1 =>
      split at e
      · next v h2 =>
        cases e
        have := chk2_ok h i l j v h1 h2
        rwa [Nat.zero_add] at this
      · cases e
    · cases e
  · cases e
end DL

end
section
set_option Elab.async false
set_option linter.all false
set_option maxRecDepth 100000
set_option autoImplicit false
namespace DL
open PySem PySem.Spec PyProof.Rows L2

/-! ### the order of data -/
def ltF : D → D → Bool
  | .int a, .int b => ltI a b
  | d, e => PySem.W.dataLt d.py e.py
theorem ltF_eq : ∀ d e : D, ltF d e = PySem.W.dataLt d.py e.py := by
  intro d e
  cases d with
  | int a =>
    cases e with
    | int b => exact (PySem.W.dataLt_int a b).symm
    | _ => rfl
  | _ => rfl
def leF (d e : D) : Bool := !ltF e d
theorem leF_eq (d e : D) : leF d e = PySem.W.dataLe false D.py d e := by
  unfold leF
  rw [ltF_eq]; rfl
def ins (a : D) : List D → List D
  | [] => [a]
  | b :: r => if leF a b then a :: b :: r else b :: ins a r
def isort : List D → List D
  | [] => []
  | a :: r => ins a (isort r)
theorem ins_mid {a : D} : ∀ {l m : List D}, (∀ b ∈ l, leF a b = false) → (∀ b r, m = b :: r → leF a b = true) → ins a (l ++ m) = l ++ a :: m
  | [], [], _, _ => rfl
  | [], b :: r, _, h => by
    show (if leF a b then a :: b :: r else b :: ins a r) = _
    rw [if_pos (h b r rfl)]; rfl
  | c :: l, m, h1, h2 => by
    show (if leF a c then a :: c :: (l ++ m) else c :: ins a (l ++ m)) = _
    rw [h1 c List.mem_cons_self]
    show c :: ins a (l ++ m) = c :: (l ++ a :: m)
    rw [ins_mid (fun b hb => h1 b (List.mem_cons_of_mem _ hb)) h2]
theorem isort_eq : ∀ l : List D, l.mergeSort (PySem.W.dataLe false D.py) = isort l
  | [] => List.mergeSort_nil
  | a :: l => by
    have T : PySem.W.TotalLe (PySem.W.dataLe false D.py) := PySem.W.sortLe_total _ false _
    have tr : ∀ a b c : D, PySem.W.dataLe false D.py a b = true → PySem.W.dataLe false D.py b c = true → PySem.W.dataLe false D.py a c = true := fun a b c => T.trans a b c
    have tot : ∀ a b : D, (PySem.W.dataLe false D.py a b || PySem.W.dataLe false D.py b a) = true := fun a b => by
      rw [Bool.or_eq_true]; exact T.total a b
    obtain ⟨l1, l2, h1, h2, h3⟩ := List.mergeSort_cons tr tot a l
    have pw := List.pairwise_mergeSort tr tot (a :: l)
    rw [h1] at pw ⊢
    show _ = ins a (isort l)
    rw [← isort_eq l, h2]
    refine (ins_mid (fun b hb => ?_) fun b r e => ?_).symm
    · have := h3 b hb
      rw [Bool.not_eq_true'] at this
      rw [leF_eq]; exact this
    · subst e
      have := (List.pairwise_append.mp pw).2.1
      rw [List.pairwise_cons] at this
      rw [leF_eq]; exact this.1 b List.mem_cons_self

/-! ### alike data -/
def isI : D → Bool
  | .int _ => true
  | _ => false
def isS : D → Bool
  | .str _ => true
  | _ => false
def isTupD : D → Bool
  | .tup (_ :: _) => true
  | _ => false
def notTN : D → Bool
  | .tup _ => false
  | .non => false
  | _ => true
def alikeB (ds : List D) : Bool := ds.all isI || ds.all isS || (ds.all fun d => ds.all fun e => PySem.W.alike d.py e.py)
theorem pys_mem : ∀ {ds : List D} {x : PyData}, x ∈ D.pys ds → ∃ d ∈ ds, x = d.py
  | d :: ds, x, h => by
    rcases List.mem_cons.mp (show x ∈ d.py :: D.pys ds from h) with e | h
    · exact ⟨d, List.mem_cons_self, e⟩
    · obtain ⟨d', h1, h2⟩ := pys_mem h
      exact ⟨d', List.mem_cons_of_mem _ h1, h2⟩
theorem pys_map : ∀ ds : List D, D.pys ds = ds.map D.py
  | [] => rfl
  | d :: ds => by show d.py :: D.pys ds = _; rw [pys_map ds]; rfl
theorem alikeB_ok {ds : List D} (h : alikeB ds = true) : PySem.W.AllAlike (ds.map D.py) := by
  intro x hx y hy
  obtain ⟨d, hd, rfl⟩ := List.mem_map.mp hx
  obtain ⟨e, he, rfl⟩ := List.mem_map.mp hy
  unfold alikeB at h
  rw [Bool.or_eq_true, Bool.or_eq_true] at h
  rcases h with (h | h) | h
  · have h1 := List.all_eq_true.mp h d hd
    have h2 := List.all_eq_true.mp h e he
    cases d <;> cases h1
    cases e <;> cases h2
    simp [D.py, PySem.W.alike]
  · have h1 := List.all_eq_true.mp h d hd
    have h2 := List.all_eq_true.mp h e he
    cases d <;> cases h1
    cases e <;> cases h2
    simp [D.py, PySem.W.alike]
  · exact List.all_eq_true.mp (List.all_eq_true.mp h d hd) e he
def srtOk (ds : List D) : Bool := ds.all (D.ok deep) && alikeB ds && (ds.all isTupD || ds.all notTN)
theorem srtOk_sortable {ds : List D} (h : (ds.all isTupD || ds.all notTN) = true) : PySem.W.Sortable (ds.map D.py) := by
  rw [Bool.or_eq_true] at h
  rcases h with h | h
  · refine .inl fun x hx => ?_
    obtain ⟨d, hd, rfl⟩ := List.mem_map.mp hx
    have h1 := List.all_eq_true.mp h d hd
    unfold isTupD at h1
    split at h1
    · exact ⟨_, _, rfl⟩
    · cases h1
  · refine .inr fun x hx => ?_
    obtain ⟨d, hd, rfl⟩ := List.mem_map.mp hx
    have h1 := List.all_eq_true.mp h d hd
    cases d with
    | non => cases h1
    | tup l => cases h1
    | _ => simp [D.py]

/-! ### sorted(xs) -/
theorem vals_each : ∀ {xs : List V} {us : List Value}, Vals xs us → PySem.W.EachIs (fun u x => RelV x u) us xs
  | _, _, .nil => .nil
  | _, _, .cons a b => .cons a (vals_each b)
theorem each_vals : ∀ {xs : List V} {us : List Value}, PySem.W.EachIs (fun u x => RelV x u) us xs → Vals xs us
  | _, _, .nil => .nil
  | _, _, .cons a b => .cons a (each_vals b)
theorem vals_zip : ∀ {xs : List V} {us : List Value} {ds : List D}, Vals xs us → xs.length = ds.length → PySem.W.EachIs (fun u (p : V × D) => RelV p.1 u) us (xs.zip ds)
  | _, _, [], .nil, _ => .nil
  | _, _, _ :: _, .nil, h => by simp at h
  | _, _, [], .cons a b, h => by simp at h
  | _, _, d :: ds, .cons a b, h => .cons a (vals_zip b (by simpa using h))
theorem zip_vals : ∀ {zs : List (V × D)} {us : List Value}, PySem.W.EachIs (fun u (p : V × D) => RelV p.1 u) us zs → Vals (zs.map (·.1)) us
  | _, _, .nil => .nil
  | _, _, .cons a b => .cons a (zip_vals b)
theorem dp_reads {X : Cx} {pins : List (Addr × Obj)} {σ : L2.St} {H : Hp} {s : Shared} (I : Inv X pins σ H s) : ∀ {xs : List V} {ds : List D} {us : List Value}, DpAll X.K H xs (D.pys ds) → Vals xs us → PySem.W.EachIs (fun u (p : V × D) => ∃ as, Reads s.heap u p.2.py as) us (xs.zip ds)
  | _, [], _, h, r => by
    have h' : DpAll X.K H _ [] := h
    cases h'
    cases r
    exact .nil
  | _, d :: ds, _, h, r => by
    have h' : DpAll X.K H _ (d.py :: D.pys ds) := h
    cases h' with
    | cons a b =>
      cases r with
      | cons c e =>
        exact .cons (Dp.reads I _ _ _ a c) (dp_reads I b e)
theorem dp_len {K : PySem.W.Frag} {H : Hp} : ∀ {xs : List V} {ds : List D}, DpAll K H xs (D.pys ds) → xs.length = ds.length
  | _, [], h => by
    have h' : DpAll K H _ [] := h
    cases h'; rfl
  | _, d :: ds, h => by
    have h' : DpAll K H _ (d.py :: D.pys ds) := h
    cases h' with
    | cons a b => simp [dp_len b]
def rSortD (K : PySem.W.Frag) : List V → Hp → VK → Prop := fun vs H Q => ∃ (a : Addr) (xs : List V) (ds : List D), vs = [.ref a] ∧ SqL K H a xs ∧ DpAll K H xs (D.pys ds) ∧ srtOk ds = true ∧
  ∀ (zs : List (V × D)) (p : Addr), zs.Perm (xs.zip ds) → zs.map (·.2) = isort ds → H p = none → Q (.ref p) (upd H p (.lst (zs.map (·.1))))
theorem cr_sortD {X : Cx} (hu : X.A.units + 64 < cLine) : CallR X (.builtin "sorted") (rSortD X.K) := by
  intro pins s σ H vs us Q I r h
  obtain ⟨a, xs, ds, rfl, hs, hd, hk, q⟩ := h
  unfold srtOk at hk
  rw [Bool.and_eq_true, Bool.and_eq_true] at hk
  obtain ⟨⟨k1, k2⟩, k3⟩ := hk
  obtain ⟨its, rv, hl, hz⟩ := I.list hs
  rw [Vals.ref1 r]
  have hlen := dp_len hd
  have hmap : (xs.zip ds).map (fun p => D.py p.2) = ds.map D.py := by
    show (xs.zip ds).map (D.py ∘ Prod.snd) = ds.map D.py
    rw [← List.map_map, List.map_snd_zip (by omega)]
  have e1 := vals_zip (ds := ds) rv hlen
  have hzl : (xs.zip ds).length = xs.length := by rw [List.length_zip]; omega
  refine PySem.W.sorted_data (enc := fun p : V × D => D.py p.2) hl.isList e1 (dp_reads I hd rv) (by rw [hmap]; exact alikeB_ok k2) (by rw [hmap]; exact srtOk_sortable k3) (by rw [hzl]; exact hz) (fun p hp => ?_) fun out ho he => ?_
  · have := (ok_plain deep p.2 (List.all_eq_true.mp k1 _ (List.of_mem_zip hp).2)).2
    have e : deep = 20 := rfl
    omega
  · have hv := zip_vals he
    obtain ⟨ep, he'⟩ := PyProof.Rows.sortedAll_at s.heap its out.toArray
    have hn : (((xs.zip ds).mergeSort (PySem.W.dataLe false fun p : V × D => D.py p.2)).map (·.1)).length ≤ sizeLine := by
      rw [List.length_map, List.length_mergeSort, hzl]; exact hz
    refine ⟨.ref _, upd H (s.heap.objs.size + 1) (.lst (((xs.zip ds).mergeSort (PySem.W.dataLe false fun p : V × D => D.py p.2)).map (·.1))), I.laid (t' := s.toks) (fun _ _ => PyProof.Rows.sortedAll_old) (Nat.le_succ _) ⟨hn, out, ep, hv, he'⟩, rfl, q _ _ (List.mergeSort_perm _ _) ?_ (I.hok.fresh (Nat.le_succ _))⟩
    have hm := List.map_mergeSort (l := xs.zip ds) (r := PySem.W.dataLe false fun p : V × D => D.py p.2) (s := PySem.W.dataLe false D.py) (f := Prod.snd) (fun _ _ _ _ => rfl)
    rw [List.map_snd_zip (by omega), isort_eq] at hm
    exact hm
theorem Reps.zip {K : PySem.W.Frag} {R : Option Addr} {G : Hp} : ∀ {vs : List V} {ds : List D}, Reps K R G vs ds → ∀ p ∈ vs.zip ds, Rep K R G p.1 p.2
  | _, _, .nil, p, h => by cases h
  | _, _, .cons a b, p, h => by
    rcases List.mem_cons.mp h with rfl | h
    · exact a
    · exact Reps.zip b p h
theorem Reps.of_zip {K : PySem.W.Frag} {R : Option Addr} {G : Hp} : ∀ {zs : List (V × D)}, (∀ p ∈ zs, Rep K R G p.1 p.2) → Reps K R G (zs.map (·.1)) (zs.map (·.2))
  | [], _ => .nil
  | p :: zs, h => .cons (h p List.mem_cons_self) (Reps.of_zip fun q hq => h q (List.mem_cons_of_mem _ hq))
section
variable {X : Cx} {T : Type} {pos : Pos}
def gSorted : List D → Option Cell
  | [.lst l] => if srtOk l then some (.ow (.lst (isort l))) else none
  | _ => none
theorem srtOk_all {l : List D} (h : srtOk l = true) : l.all (D.ok deep) = true := by
  unfold srtOk at h
  rw [Bool.and_eq_true, Bool.and_eq_true] at h
  exact h.1.1
theorem cd_sorted (hu : X.A.units + 64 < cLine) : CallD X (.builtin "sorted") gSorted := by
  refine ⟨_, cr_sortD hu, fun F G H s σ env xs ds c I rx hg Q q => ?_⟩
  unfold gSorted at hg
  split at hg
  · next l =>
    split at hg
    · next hk =>
      cases hg
      obtain ⟨v, rfl, rv⟩ := rx.one
      obtain ⟨a, vs, rfl, h1, h2⟩ := rv.lst I
      refine ⟨a, vs, l, rfl, .inl (.inl h1), h2.dp I.sub l deep _ (srtOk_all hk), hk, fun zs p hp hz np => ?_⟩
      have h3 : Reps X.K F.R G (zs.map (·.1)) (isort l) := by
        rw [← hz]
        exact Reps.of_zip fun w hw => h2.zip w (hp.mem_iff.mp hw)
      exact q _ _ _ (new_ow I np) (new_own I np h3)
    · cases hg
  · cases hg
end

/-! ### min(xs), max(xs) -/
def minF : D → List D → D
  | m, [] => m
  | m, d :: r => minF (if ltF d m then d else m) r
def maxF : D → List D → D
  | m, [] => m
  | m, d :: r => maxF (if ltF m d then d else m) r
theorem minF_eq : ∀ (l : List D) (m : D), PySem.W.minD m.py (D.pys l) = (minF m l).py ∧ minF m l ∈ m :: l
  | [], m => ⟨rfl, List.mem_cons_self⟩
  | d :: r, m => by
    have h := minF_eq r (if ltF d m then d else m)
    refine ⟨?_, ?_⟩
    · show PySem.W.minD (if PySem.W.dataLt d.py m.py then d.py else m.py) (D.pys r) = (minF (if ltF d m then d else m) r).py
      rw [← h.1, ltF_eq]
      split <;> rfl
    · have h2 := h.2
      show minF (if ltF d m then d else m) r ∈ _
      rcases List.mem_cons.mp h2 with e | e
      · rw [e]; split
        · exact List.mem_cons_of_mem _ List.mem_cons_self
        · exact List.mem_cons_self
      · exact List.mem_cons_of_mem _ (List.mem_cons_of_mem _ e)
theorem maxF_eq : ∀ (l : List D) (m : D), PySem.W.maxD m.py (D.pys l) = (maxF m l).py ∧ maxF m l ∈ m :: l
  | [], m => ⟨rfl, List.mem_cons_self⟩
  | d :: r, m => by
    have h := maxF_eq r (if ltF m d then d else m)
    refine ⟨?_, ?_⟩
    · show PySem.W.maxD (if PySem.W.dataLt m.py d.py then d.py else m.py) (D.pys r) = (maxF (if ltF m d then d else m) r).py
      rw [← h.1, ltF_eq]
      split <;> rfl
    · have h2 := h.2
      show maxF (if ltF m d then d else m) r ∈ _
      rcases List.mem_cons.mp h2 with e | e
      · rw [e]; split
        · exact List.mem_cons_of_mem _ List.mem_cons_self
        · exact List.mem_cons_self
      · exact List.mem_cons_of_mem _ (List.mem_cons_of_mem _ e)
theorem py_inj {n : Nat} {d e : D} (hd : d.ok n = true) (he : e.ok n = true) (h : d.py = e.py) : d = e := by
  have all : ∀ (k : Nat) (d e : D), d.ok k = true → e.ok k = true → d.py = e.py → d = e := by
    intro k
    induction k with
    | zero =>
      intro d e hd he h
      cases d <;> cases e <;> first | rfl | (injection h with h; subst h; rfl) | cases h | cases hd
    | succ k ih =>
      have pl : ∀ l m : List D, l.all (D.ok k) = true → m.all (D.ok k) = true → D.pys l = D.pys m → l = m := by
        intro l
        induction l with
        | nil => intro m _ _ e; cases m with
          | nil => rfl
          | cons y m => cases e
        | cons x l il =>
          intro m h1 h2 e
          cases m with
          | nil => cases e
          | cons y m =>
            have e' : x.py :: D.pys l = y.py :: D.pys m := e
            injection e' with e1 e2
            rw [List.all_cons, Bool.and_eq_true] at h1 h2
            rw [ih x y h1.1 h2.1 e1, il m h1.2 h2.2 e2]
      intro d e hd he h
      cases d with
      | tup l =>
        cases e with
        | tup m =>
          have h' : PyData.tuple (D.pys l) = PyData.tuple (D.pys m) := h
          injection h' with h'
          rw [pl l m hd he h']
        | _ => cases h
      | lst l =>
        cases e with
        | lst m =>
          have h' : PyData.list (D.pys l) = PyData.list (D.pys m) := h
          injection h' with h'
          rw [pl l m hd he h']
        | _ => cases h
      | wd => cases hd
      | _ => cases e <;> first | rfl | (injection h with h; subst h; rfl) | cases h
  exact all n d e hd he h
def mmOk (ds : List D) : Bool := ds.all (D.ok deep) && alikeB ds && ds.all fun d => match d with
  | .non => false
  | _ => true
theorem mmOk_alike {ds : List D} (h : mmOk ds = true) : PySem.W.AlikeAll (D.pys ds) := by
  unfold mmOk at h
  rw [Bool.and_eq_true, Bool.and_eq_true] at h
  refine ⟨by rw [pys_map]; exact alikeB_ok h.1.2, fun x hx => ?_⟩
  obtain ⟨d, hd, rfl⟩ := pys_mem hx
  have h1 := List.all_eq_true.mp h.2 d hd
  cases d <;> first | (simp [D.py]; done) | cases h1
theorem mmOk_all {ds : List D} (h : mmOk ds = true) : ds.all (D.ok deep) = true := by
  unfold mmOk at h
  rw [Bool.and_eq_true, Bool.and_eq_true] at h
  exact h.1.1
theorem depth_all {n : Nat} : ∀ {ds : List D}, ds.all (D.ok n) = true → PyData.depthAll (D.pys ds) ≤ n
  | [], _ => Nat.zero_le _
  | d :: ds, h => by
    rw [List.all_cons, Bool.and_eq_true] at h
    have h1 := (ok_plain n d h.1).2
    have h2 := depth_all h.2
    show max d.py.depth (PyData.depthAll (D.pys ds)) ≤ n
    omega
def rMmD (K : PySem.W.Frag) (f : D → List D → D) : List V → Hp → VK → Prop := fun vs H Q => ∃ (a : Addr) (xs : List V) (d : D) (ds : List D), vs = [.ref a] ∧ (SqL K H a xs ∨ SqT K H a xs) ∧ DpAll K H xs (D.pys (d :: ds)) ∧ mmOk (d :: ds) = true ∧
  ∀ (i : Nat) (y : V), xs[i]? = some y → (d :: ds)[i]? = some (f d ds) → Q y H
theorem vals_at : ∀ {xs : List V} {us : List Value} {i : Nat} {u : Value}, Vals xs us → us[i]? = some u → ∃ x, xs[i]? = some x ∧ RelV x u
  | _, _, i, _, .nil, h => by simp at h
  | _, _, 0, _, .cons a b, h => by cases h; exact ⟨_, rfl, a⟩
  | _, _, i + 1, _, .cons a b, h => by
    obtain ⟨x, h1, h2⟩ := vals_at b (i := i) (by simpa using h)
    exact ⟨x, by simpa using h1, h2⟩
theorem mm_at {X : Cx} {pins : List (Addr × Obj)} {σ : L2.St} {H : Hp} {s : Shared} (I : Inv X pins σ H s) {xs : List V} {its : List Value} {ds : List D} {e : D} {h' : Heap} {as : List Addr} {i : Nat} {v : Value} {bs : List Addr} (rv : Vals xs its) (hd : DpAll X.K H xs (D.pys ds)) (hr : ReadsAll s.heap its (D.pys ds) as) (ho : ds.all (D.ok deep) = true) (he : e ∈ ds) (hi : its.toArray[i]? = some v)
    (hm : Reads h' v e.py bs) (hk : ∀ b o, s.heap.get? b = some o → h'.get? b = some o) : ∃ y, xs[i]? = some y ∧ RelV y v ∧ ds[i]? = some e := by
  have hi' : its[i]? = some v := by simpa using hi
  obtain ⟨y, h1, h2⟩ := vals_at rv hi'
  obtain ⟨cs, c1, c2, _, _⟩ := PySem.W.readsAll_at hr i v hi'
  have hlen := dp_len hd
  have hlt : i < ds.length := by
    rw [← hlen]; exact (List.getElem?_eq_some_iff.mp h1).1
  have e1 : (D.pys ds).getD i .none = (ds[i]).py := by
    rw [pys_map, List.getD_eq_getElem?_getD, List.getElem?_map, List.getElem?_eq_getElem hlt]; rfl
  rw [e1] at c1
  have o1 : (ds[i]).ok deep = true := List.all_eq_true.mp ho _ (List.getElem_mem hlt)
  have o2 : e.ok deep = true := List.all_eq_true.mp ho _ he
  have := SeqAt.plain_unique _ _ v _ _ (ok_plain deep _ o1).1 (PyProof.Rows.Reads.keeps hk c1) hm
  refine ⟨y, h1, h2, ?_⟩
  rw [List.getElem?_eq_getElem hlt, py_inj o1 o2 this]
theorem cr_minD {X : Cx} (hc : X.calm = true) (hu : X.A.units + 64 < cLine) : CallR X (.builtin "min") (rMmD X.K minF) := by
  intro pins s σ H vs us Q I r h
  obtain ⟨a, xs, d, ds, rfl, hs, hd, hk, q⟩ := h
  have hu2 := depth_all (mmOk_all hk)
  have e20 : deep = 20 := rfl
  rw [Vals.ref1 r]
  rcases hs with hs | hs
  · obtain ⟨its, rv, hl, hz⟩ := I.list hs
    obtain ⟨as, hr⟩ := Dp.readsAll I _ _ _ hd rv
    refine PySem.W.min_list_data (x := d.py) (xs := D.pys ds) (I.ok.hd hc) hl.isList hr (mmOk_alike hk) (by show _ + _ + PyData.depthAll (D.pys (d :: ds)) < _; omega) fun i v h' tk bs hi hm hkp => ?_
    rw [(minF_eq ds d).1] at hm
    obtain ⟨y, y1, y2, y3⟩ := mm_at I rv hd hr (mmOk_all hk) (minF_eq ds d).2 hi hm hkp
    exact ⟨y, H, I.kept hkp, y2, q i y y1 y3⟩
  · obtain ⟨its, rv, hl, hz⟩ := I.tuple hs
    obtain ⟨as, hr⟩ := Dp.readsAll I _ _ _ hd rv
    refine PySem.W.min_tuple_data (x := d.py) (xs := D.pys ds) (I.ok.hd hc) hl hr (mmOk_alike hk) (by show _ + _ + PyData.depthAll (D.pys (d :: ds)) < _; omega) fun i v h' tk bs hi hm hkp => ?_
    rw [(minF_eq ds d).1] at hm
    obtain ⟨y, y1, y2, y3⟩ := mm_at I rv hd hr (mmOk_all hk) (minF_eq ds d).2 hi hm hkp
    exact ⟨y, H, I.kept hkp, y2, q i y y1 y3⟩
theorem cr_maxD {X : Cx} (hc : X.calm = true) (hu : X.A.units + 64 < cLine) : CallR X (.builtin "max") (rMmD X.K maxF) := by
  intro pins s σ H vs us Q I r h
  obtain ⟨a, xs, d, ds, rfl, hs, hd, hk, q⟩ := h
  have hu2 := depth_all (mmOk_all hk)
  have e20 : deep = 20 := rfl
  rw [Vals.ref1 r]
  rcases hs with hs | hs
  · obtain ⟨its, rv, hl, hz⟩ := I.list hs
    obtain ⟨as, hr⟩ := Dp.readsAll I _ _ _ hd rv
    refine PySem.W.max_list_data (x := d.py) (xs := D.pys ds) (I.ok.hd hc) hl.isList hr (mmOk_alike hk) (by show _ + _ + PyData.depthAll (D.pys (d :: ds)) < _; omega) fun i v h' tk bs hi hm hkp => ?_
    rw [(maxF_eq ds d).1] at hm
    obtain ⟨y, y1, y2, y3⟩ := mm_at I rv hd hr (mmOk_all hk) (maxF_eq ds d).2 hi hm hkp
    exact ⟨y, H, I.kept hkp, y2, q i y y1 y3⟩
  · obtain ⟨its, rv, hl, hz⟩ := I.tuple hs
    obtain ⟨as, hr⟩ := Dp.readsAll I _ _ _ hd rv
    refine PySem.W.max_tuple_data (x := d.py) (xs := D.pys ds) (I.ok.hd hc) hl hr (mmOk_alike hk) (by show _ + _ + PyData.depthAll (D.pys (d :: ds)) < _; omega) fun i v h' tk bs hi hm hkp => ?_
    rw [(maxF_eq ds d).1] at hm
    obtain ⟨y, y1, y2, y3⟩ := mm_at I rv hd hr (mmOk_all hk) (maxF_eq ds d).2 hi hm hkp
    exact ⟨y, H, I.kept hkp, y2, q i y y1 y3⟩
theorem Reps.at {K : PySem.W.Frag} {R : Option Addr} {G : Hp} : ∀ {vs : List V} {ds : List D} {i : Nat} {y : V} {d : D}, Reps K R G vs ds → vs[i]? = some y → ds[i]? = some d → Rep K R G y d
  | _, _, _, _, _, .nil, h, _ => by simp at h
  | _, _, 0, _, _, .cons a b, h1, h2 => by cases h1; cases h2; exact a
  | _, _, i + 1, _, _, .cons a b, h1, h2 => Reps.at b (i := i) (by simpa using h1) (by simpa using h2)
section
variable {X : Cx} {T : Type} {pos : Pos}
def gMm (f : D → List D → D) : List D → Option Cell
  | [.lst (d :: l)] => if mmOk (d :: l) then some (.sh (f d l)) else none
  | [.tup (d :: l)] => if mmOk (d :: l) then some (.sh (f d l)) else none
  | _ => none
theorem gMm_ok {b : Value} {f : D → List D → D} (cr : CallR X b (rMmD X.K f)) : CallD X b (gMm f) := by
  refine ⟨_, cr, fun F G H s σ env xs ds c I rx hg Q q => ?_⟩
  unfold gMm at hg
  split at hg
  · next d l =>
    split at hg
    · next hk =>
      cases hg
      obtain ⟨v, rfl, rv⟩ := rx.one
      obtain ⟨a, vs, rfl, h1, h2⟩ := rv.lst I
      exact ⟨a, vs, d, l, rfl, .inl (.inl (.inl h1)), h2.dp I.sub (d :: l) deep _ (mmOk_all hk), hk, fun i y hy he => q _ G H I.refl (h2.at hy he)⟩
    · cases hg
  · next d l =>
    split at hg
    · next hk =>
      cases hg
      obtain ⟨v, rfl, rv⟩ := rx.one
      obtain ⟨a, vs, rfl, h1, h2⟩ := rv.tup I
      exact ⟨a, vs, d, l, rfl, .inr (.inl (.inl (I.sub _ _ h1))), h2.dp I.sub (d :: l) deep _ (mmOk_all hk), hk, fun i y hy he => q _ G H I.refl (h2.at hy he)⟩
    · cases hg
  · cases hg
abbrev gMin' := gMm minF
abbrev gMax' := gMm maxF
theorem cd_min' (hu : X.A.units + 64 < cLine) (hc : X.calm = true) : CallD X (.builtin "min") gMin' := gMm_ok (cr_minD hc hu)
theorem cd_max' (hu : X.A.units + 64 < cLine) (hc : X.calm = true) : CallD X (.builtin "max") gMax' := gMm_ok (cr_maxD hc hu)
end
end DL

end
section
set_option Elab.async false
set_option linter.all false
set_option maxRecDepth 100000
set_option autoImplicit false
namespace DL
open PySem PySem.Spec PyProof.Rows L2

/-! ### t[::-1], tuples -/
theorem adjust_rev (n : Nat) : Builtin.Slice.sliceAdjust none none (-1) (n : Int) = ((n : Int) - 1, -1) := rfl
theorem places_rev (n : Nat) : Builtin.Slice.slicePlaces ((n : Int) - 1) (-1) (-1) = n := by
  unfold Builtin.Slice.slicePlaces
  have h1 : ¬ ((-1 : Int) > 0) := by omega
  simp only [h1, if_false, Int.neg_neg, Int.ediv_one]
  split <;> omega
theorem pick_rev (xs : Array Value) : ((List.range xs.size).filterMap fun (m : Nat) => xs[(((xs.size : Int) - 1) + (m : Int) * (-1)).toNat]?) = xs.toList.reverse := by
  have e : (List.range xs.size).filterMap (fun (m : Nat) => xs[(((xs.size : Int) - 1) + (m : Int) * (-1)).toNat]?) = ((List.range xs.size).map fun k => xs.size - 1 - k).filterMap (xs[·]?) := by
    rw [List.filterMap_map]
    have all : ∀ l : List Nat, (∀ m ∈ l, m < xs.size) → l.filterMap (fun (m : Nat) => xs[(((xs.size : Int) - 1) + (m : Int) * (-1)).toNat]?) = l.filterMap ((xs[·]?) ∘ fun k => xs.size - 1 - k) := by
      intro l
      induction l with
      | nil => intro _; rfl
      | cons m l ih =>
        intro h
        have hm := h m List.mem_cons_self
        have e2 : (((xs.size : Int) - 1) + (m : Int) * (-1)).toNat = xs.size - 1 - m := by omega
        rw [List.filterMap_cons, List.filterMap_cons, ih fun k hk => h k (List.mem_cons_of_mem _ hk), e2]
        rfl
    exact all _ fun m hm => List.mem_range.mp hm
  rw [e, PySem.W.krv_range, List.filterMap_reverse, PySem.W.krv_all]
section
variable {prog : Program} {w : World} {A : Around} {E : Value → Shared → Prop} {s : Shared}
theorem applied_rev {sl : Addr} {vs : Value} {n : Nat} {Q : Int × Int × Nat → Shared → Prop} (hs : s.heap.IsSliceOf sl .none .none vs) (ps : IsPart vs (some (-1)))
    (h : Q ((n : Int) - 1, -1, n) s) : wpAny (model prog w) A (Builtin.Slice.sliceApplied (.ref sl) (pure (n : Int))) Q E s := by
  obtain ⟨ob, hob, hcb, hdb⟩ := id hs
  unfold Builtin.Slice.sliceApplied Builtin.Slice.sliceFields
  refine wpAny_bind (wpAny_bind (wpAny_field hob hdb (x := .none) rfl (wpAny_bind (wpAny_field hob hdb (x := .none) rfl (wpAny_bind (wpAny_field hob hdb (x := vs) rfl (wpAny_pure ?_)))))))
  refine wpAny_bind (HT.slicePart_ ps ?_)
  show wpAny _ _ (if ((-1 : Int) == 0) = true then _ else _) _ _ s
  rw [if_neg (by decide)]
  refine wpAny_bind (slicePart_none (wpAny_bind (slicePart_none (wpAny_bind (wpAny_pure ?_)))))
  show wpAny _ _ (match Builtin.Slice.sliceAdjust none none (-1) (n : Int) with | (lo, hi) => pure (lo, (-1 : Int), Builtin.Slice.slicePlaces lo hi (-1))) _ _ s
  rw [adjust_rev]
  show wpAny _ _ (pure ((n : Int) - 1, (-1 : Int), Builtin.Slice.slicePlaces ((n : Int) - 1) (-1) (-1))) _ _ s
  rw [places_rev]
  exact wpAny_pure h
theorem getItem_tup_rev {t sl : Addr} {its : Array Value} {vs : Value} {Q : Value → Shared → Prop} (ht : IsTup s.heap t its) (hs : s.heap.IsSliceOf sl .none .none vs) (ps : IsPart vs (some (-1)))
    (h : Q (.ref s.heap.objs.size) { s with heap := s.heap.push { cls := .type "tuple", data := .seq its.toList.reverse.toArray } })
    (hsz : its.size ≤ sizeLine) : wpAny (model prog w) A (getItem (.ref t) (.ref sl)) Q E s := by
  have hfit : sizeOk (.seq its.toList.reverse.toArray) := by
    show its.toList.reverse.toArray.size ≤ sizeLine
    rw [List.size_toArray, List.length_reverse, Array.length_toList]
    exact hsz
  obtain ⟨ob, hob, hcb, hdb⟩ := id hs
  have hT : s.TypeIs (.ref sl) "slice" := ⟨ob, hob, hcb⟩
  unfold getItem
  try with_reducible refine wpAny_holding ?_
  first | refine wpAny_bind (wpAny_pure ?_) | skip
  refine wpAny_bind (wpAny_sequenceKey ht.typeIs (by decide) ?_)
  refine wpAny_bind (wpAny_callSpecial?_slot (name := Str.ofString "__getitem__") ht.typeIs PyProof.Rows.slot_tuple_getitem (wpAny_call_entry PyProof.Rows.slot_tuple_getitem ht.typeIs entry_tuple_getitem ?_ (args_tuple_getitem _ _)))
  show wpAny _ _ (Builtin.Tuple.tupleItemsOf (.ref t) >>= _) _ _ s
  refine wpAny_bind (tupleItemsOf_ ht ?_)
  refine wpAny_bind (wpAny_typeOf hT ?_)
  rw [if_pos (by decide)]
  refine wpAny_bind (applied_rev hs ps ?_)
  have hno : ¬ ((((its.size : Int) - 1) == 0 && (-1 : Int) == 1 && its.size == its.size) = true) := by
    rw [show ((-1 : Int) == 1) = false from rfl, Bool.and_false, Bool.false_and]
    exact Bool.false_ne_true
  show wpAny _ _ (if (((its.size : Int) - 1) == 0 && (-1 : Int) == 1 && its.size == its.size) = true then _ else _) _ _ s
  rw [if_neg hno, pick_rev]
  first
    | exact wpAny_bind (m := Builtin.Tuple.tupleExact _) (wpAny_newObj_type (wpAny_pure ⟨_, rfl, wpAny_pure h⟩) hfit)
    | exact wpAny_bind (m := Builtin.Tuple.tupleExact _) (wpAny_newObj_type (wpAny_bind (wpAny_pure (wpAny_pure ⟨_, rfl, wpAny_pure h⟩))) hfit)
    | exact wpAny_bind (wpAny_bind (m := Builtin.Tuple.tupleExact _) (wpAny_newObj_type (wpAny_pure (wpAny_pure ⟨_, rfl, wpAny_pure h⟩)) hfit))
    | exact wpAny_bind (wpAny_bind (m := Builtin.Tuple.tupleExact _) (wpAny_newObj_type (wpAny_pure ⟨_, rfl, wpAny_pure h⟩) hfit))
end
section
variable {X : Cx} {T : Type} {pos : Pos}
def tRevT (K : PySem.W.Frag) (te : TE) : TE := fun σ H Q => te σ H fun x H1 => ∃ a xs, x = .ref a ∧ ((SqL K H1 a xs ∧ ∀ p, H1 p = none → Q (.ref p) (upd H1 p (.lst xs.reverse))) ∨ (SqT K H1 a xs ∧ ∀ p, H1 p = none → Q (.ref p) (upd H1 p (.tup xs.reverse))))
theorem pe_revT {e : Expr} {te : TE} {k : Nat} {p1 p2 p3 : Pos} (he : PE X e te) : PE X (.Subscript e (.Slice none none (some (.UnaryOp .USub (.Constant (.int 1) k p1) p2)) p3) pos) (tRevT X.K te) := by
  refine ⟨fun pins s σ H Q I h => ?_⟩
  refine Subscript_ (thn (he.run pins s σ H _ I h) fun v s1 ⟨x, H1, I1, r1, q1⟩ => ?_)
  obtain ⟨a, xs, ex, hx⟩ := q1
  subst ex
  cases r1
  have hst : PO X (some (.UnaryOp .USub (.Constant (.int 1) k p1) p2)) (tPart (tUn (rU fun i => .int (-i)) (tC (.int 1)))) := po_some (pe_un un_neg pe_int)
  refine wpAny_Slice (thn (po_none.run pins s1 σ H1 (fun o H2 => o = none ∧ H2 = H1) I1 ⟨rfl, rfl⟩) fun vl s2 ⟨l, H2, I2, pl, el, e2⟩ => ?_)
  subst el e2
  refine thn (po_none.run pins s2 σ H2 (fun o H3 => o = none ∧ H3 = H2) I2 ⟨rfl, rfl⟩) fun vu s3 ⟨u, H3, I3, pu, eu, e3⟩ => ?_
  subst eu e3
  refine thn (hst.run pins s3 σ H3 (fun o H4 => o = some (-1) ∧ H4 = H3) I3 ⟨1, rfl, -1, rfl, rfl, rfl⟩) fun vs s4 ⟨o, H4, I4, ps, eo, e4⟩ => ?_
  subst eo e4
  have I5 : Inv X pins σ H4 { s4 with heap := s4.heap.push { cls := .type "slice", data := .fields #[vl, vu, vs] } } := I4.kept (t' := s4.toks) fun b ob q => Heap.get?_push_of_some _ q
  show wpAny (model X.prog X.w) X.A (subscriptTail e (.Slice none none (some (.UnaryOp .USub (.Constant (.int 1) k p1) p2)) p3) (.ref a) (.ref s4.heap.objs.size)) (EP X pins σ Q) X.xe { s4 with heap := s4.heap.push { cls := .type "slice", data := .fields #[vl, vu, vs] } }
  rcases hx with ⟨hx, q⟩ | ⟨hx, q⟩
  · obtain ⟨its, r, ht, hz⟩ := I5.list hx
    have hlen := r.length
    refine tail_any (ops := [.ref a, .ref s4.heap.objs.size]) ht.isList.typeIs (PySem.slot_list_getitem.lookup) ?_ (by with_unfolding_all rfl)
    refine wpAny_getItem_list_slice ht.isList (Heap.IsSliceOf.new _ vl vu vs) pl pu ps (by decide) ?_ (by rw [List.size_toArray]; omega)
    rw [PySem.W.krv_pick]
    refine ⟨.ref _, _, I5.laid (t' := s4.toks) (o := .lst xs.reverse) (fun b ob q => Heap.get?_push_of_some _ q) (Nat.le_refl _) ?_, rfl, q _ (I5.hok.fresh (Nat.le_refl _))⟩
    exact ⟨by rw [List.length_reverse]; exact hz, _, 0, r.reverse, Heap.get?_push_size _ rfl⟩
  · obtain ⟨its, r, ht, hz⟩ := I5.tuple hx
    have hlen := r.length
    cases pl
    cases pu
    refine tail_any (ops := [.ref a, .ref s4.heap.objs.size]) ht.typeIs (PyProof.Rows.slot_tuple_getitem.lookup) ?_ (by with_unfolding_all rfl)
    refine getItem_tup_rev ht (Heap.IsSliceOf.new _ .none .none vs) ps ?_ (by rw [List.size_toArray]; omega)
    refine ⟨.ref _, _, I5.laid (t' := s4.toks) (o := .tup xs.reverse) (fun b ob q => Heap.get?_push_of_some _ q) (Nat.le_refl _) ?_, rfl, q _ (I5.hok.fresh (Nat.le_refl _))⟩
    exact ⟨by rw [List.length_reverse]; exact hz, _, r.reverse, IsTup.new _ _⟩
theorem Reps.reverse {K : PySem.W.Frag} {R : Option Addr} {G : Hp} {vs : List V} {ds : List D} (h : Reps K R G vs ds) : Reps K R G vs.reverse ds.reverse := by
  have hl := h.length
  have := Reps.of_zip (K := K) (R := R) (G := G) (zs := (vs.zip ds).reverse) fun p hp => h.zip p (List.mem_reverse.mp hp)
  rwa [List.map_reverse, List.map_reverse, List.map_fst_zip (by omega), List.map_snd_zip (by omega)] at this
def rRev {T : Type} (r : RE T) : RC T := fun env s => match r env s with
  | some (.lst l, s1) => some (.ow (.lst l.reverse), s1)
  | some (.tup l, s1) => some (.sh (.tup l.reverse), s1)
  | _ => none
theorem dv_rev {e : Expr} {r : RE T} {k : Nat} {p1 p2 p3 : Pos} (he : DB X e r) : DV X (.Subscript e (.Slice none none (some (.UnaryOp .USub (.Constant (.int 1) k p1) p2)) p3) pos) (rRev r) :=
  PE.weak (pe_revT he) fun σ H Q ⟨F, G, s, env, c, s', I, hr, q⟩ => by
    unfold rRev at hr
    split at hr
    · next l s1 e1 =>
      cases hr
      refine ⟨F, G, s, env, _, _, I, e1, fun v G1 H1 A1 rv => ?_⟩
      have I1 := I.after A1
      obtain ⟨a, vs, rfl, h1, h2⟩ := rv.lst I1
      exact ⟨a, vs, rfl, .inl ⟨.inl (.inl h1), fun p np => q _ _ _ (A1.trans (new_ow I1 np)) (CellV.back A1 (new_own I1 np h2.reverse))⟩⟩
    · next l s1 e1 =>
      cases hr
      refine ⟨F, G, s, env, _, _, I, e1, fun v G1 H1 A1 rv => ?_⟩
      have I1 := I.after A1
      obtain ⟨a, vs, rfl, h1, h2⟩ := rv.tup I1
      refine ⟨a, vs, rfl, .inr ⟨.inl (.inl (I1.sub _ _ h1)), fun p np => ?_⟩⟩
      have A2 := new_sh (o := .tup vs.reverse) I1 np
      exact q _ _ _ (A1.trans A2) (Rep.tup upd_same (h2.reverse.mono A2.sub))
    · cases hr

/-! ### tests in a chain -/
theorem dt_chain {op op' : CmpOp} {a b c : Expr} {g g' : D → D → Option Cell} {ra rb rc : RE T} (ho : OpD X (compareOp op) g) (ho' : OpD X (compareOp op') g') (ha : DB X a ra) (hb : DB X b rb) (hc : DB X c rc)
    (hm : lastMarks [op, op'] [b, c] = false := by with_unfolding_all rfl) : DT X (.Compare a [op, op'] [b, c] pos) (rTruth (rChain g g' ra rb rc)) := by
  obtain ⟨r, ho, hg⟩ := ho
  obtain ⟨r', ho', hg'⟩ := ho'
  refine PT.weak (pt_chain ho ho' ha hb hc hm) fun σ H Q ⟨F, G, s, env, k, s', I, hr, q⟩ => ?_
  have hr := rTruth_inv hr
  unfold rChain at hr
  split at hr
  · next d s1 e1 =>
    split at hr
    · next e s2 e2 =>
      refine ⟨F, G, s, env, d, s1, I, e1, fun x G1 H1 A1 x1 => ?_⟩
      have I1 := I.after A1
      refine ⟨F, G1, s1, env, e, s2, I1, e2, fun y G2 H2 A2 y2 => ?_⟩
      have I2 := I1.after A2
      split at hr
      · next e3 =>
        split at hr
        · next f s3 e4 =>
          split at hr
          · next c' e5 =>
            cases hr
            refine hg F G2 H2 s2 σ env x y d e _ I2 (x1.after A2) y2 e3 _ fun v G3 H3 A3 h3 => ?_
            have h3' : Rep X.K F.R G3 v (.bl true) := h3
            cases h3'
            have I3 := I2.after A3
            refine ⟨true, rfl, ?_⟩
            rw [if_pos rfl]
            refine ⟨F, G3, s2, env, f, s', I3, e4, fun z G4 H4 A4 z4 => ?_⟩
            have I4 := I3.after A4
            refine hg' F G4 H4 s' σ env y z e f _ I4 ((y2.after A3).after A4) z4 e5 _ fun v G5 H5 A5 h5 => ?_
            have h5' : Rep X.K F.R G5 v (.bl k) := h5
            cases h5'
            exact ⟨k, rfl, q G5 H5 ((((A1.trans A2).trans A3).trans A4).trans A5)⟩
          · cases hr
        · cases hr
      · next e3 =>
        cases hr
        refine hg F G2 H2 s' σ env x y d e _ I2 (x1.after A2) y2 e3 _ fun v G3 H3 A3 h3 => ?_
        have h3' : Rep X.K F.R G3 v (.bl false) := h3
        cases h3'
        refine ⟨false, rfl, ?_⟩
        rw [if_neg (by decide)]
        exact ⟨false, rfl, q G3 H3 ((A1.trans A2).trans A3)⟩
      · cases hr
    · cases hr
  · cases hr
end

/-! ### sum of a list or a tuple of ints -/
section
variable {prog : Program} {w : World} {A : Around} {E : Value → Shared → Prop} {s : Shared}
theorem sum_tup {l : Addr} {its : List Value} {ns : List Int} {Q : Value → Shared → Prop} (hh : A.handled = none) (hl : s.heap.IsTuple l its.toArray) (hi : IntsAre its ns)
    (h : ∀ h' tk t', (∀ b o, s.heap.get? b = some o → h'.get? b = some o) → Q (.int ns.sum t') { s with heap := h', toks := tk }) : wpAny (model prog w) A (call (.builtin "sum") [.ref l]) Q E s := by
  obtain ⟨xs, e⟩ := hi.allInts.items
  have hn : numsOf (intItems xs).toList = ns := by rw [← e]; exact hi.numsOf
  rw [nums_intItems] at hn
  rw [e] at hl
  have hlt : l < s.heap.objs.size := by obtain ⟨_, e, _⟩ := id hl; exact Heap.lt_size e
  refine call_sum_walkG (wpAny_pyIter_tuple hl ?_)
  refine ⟨_, _, _, _, _, _, numAt xs, rfl, Walks.tuple (A := A.in1) hh _ l (Nat.ne_of_lt hlt) (intItems xs), ⟨⟨_, Heap.get?_push_size _ rfl, rfl, rfl⟩, hl.push _⟩, fun b hb => ?_, (fun _ _ => intItems_at), fun h' tk t' hk => ?_⟩
  · show b < (s.heap.push _).objs.size
    rw [Heap.size_push]
    rcases List.mem_cons.mp hb with rfl | hb
    · exact Nat.lt_succ_self _
    · rcases List.mem_cons.mp hb with rfl | hb
      · exact Nat.lt_succ_of_lt hlt
      · cases hb
  · have := h h' tk t' fun b o e => hk b o (fun hb => by
      rcases List.mem_cons.mp hb with rfl | hb
      · exact absurd (Heap.lt_size e) (Nat.lt_irrefl _)
      · cases hb) (Heap.get?_push_of_some _ e)
    rw [← hn] at this
    rw [preSum_eq, List.take_of_length_le (by simp [intItems])]
    exact this
end
theorem isTup_isTuple {h : Heap} {a : Addr} {its : Array Value} (ht : IsTup h a its) : h.IsTuple a its := ht
def rSumT (K : PySem.W.Frag) : List V → Hp → VK → Prop := fun vs H Q => ∃ (a : Addr) (ns : List Int), vs = [V.ref a] ∧ (SqL K H a (ns.map V.int) ∨ SqT K H a (ns.map V.int)) ∧ Q (.int ns.sum) H
theorem cr_sumT {X : Cx} (hc : X.calm = true) : CallR X (.builtin "sum") (rSumT X.K) := by
  intro pins s σ H vs us Q I r ⟨a, ns, e, hs, q⟩
  subst e
  rw [Vals.ref1 r]
  rcases hs with hs | hs
  · obtain ⟨its, rv, hl, _⟩ := I.list hs
    exact sum_raw (I.ok.hd hc) hl.isList rv.ints fun h' tk t' hk => ⟨.int _, H, I.kept hk, ⟨_, rfl⟩, q⟩
  · obtain ⟨its, rv, hl, _⟩ := I.tuple hs
    exact sum_tup (I.ok.hd hc) hl rv.ints fun h' tk t' hk => ⟨.int _, H, I.kept hk, ⟨_, rfl⟩, q⟩
theorem cd_sum {X : Cx} (hc : X.calm = true) : CallD X (.builtin "sum") gSum := by
  refine ⟨_, cr_sumT hc, fun F G H s σ env xs ds c I rx hg Q q => ?_⟩
  unfold gSum at hg
  split at hg
  · next l =>
    cases hn : intsOf l with
    | none => rw [hn] at hg; cases hg
    | some ns =>
      rw [hn] at hg
      cases hg
      obtain ⟨v, rfl, rv⟩ := rx.one
      obtain ⟨a, vs, rfl, h1, h2⟩ := rv.lst I
      rw [h2.intsOf hn] at h1
      exact ⟨a, ns, rfl, .inl (.inl (.inl h1)), by rw [← sumI_eq]; exact q _ G H I.refl (.int _)⟩
  · next l =>
    cases hn : intsOf l with
    | none => rw [hn] at hg; cases hg
    | some ns =>
      rw [hn] at hg
      cases hg
      obtain ⟨v, rfl, rv⟩ := rx.one
      obtain ⟨a, vs, rfl, h1, h2⟩ := rv.tup I
      rw [h2.intsOf hn] at h1
      exact ⟨a, ns, rfl, .inr (.inl (.inl (I.sub _ _ h1))), by rw [← sumI_eq]; exact q _ G H I.refl (.int _)⟩
  · cases hg
end DL

end
section
set_option Elab.async false
set_option linter.all false
set_option maxRecDepth 100000
set_option autoImplicit false
namespace DL
/-! ### mirrors: readings run on data that are not told in full -/
theorem most_1000 : 1000 ≤ most := by decide +kernel
section
variable {a b : RS Unit} {e e1 : Env} {c : RB Unit} {g : RG}
theorem seq_nx (h : a e () = some (.nx e1 ())) : rSeq a b e () = b e1 () := by
  unfold rSeq
  rw [h]
theorem for_go {ri : RA Unit} {ds : List D} (h : ri e () = some (ds, ())) : rFor ri g b e () = loopL g b ds e () := by
  unfold rFor
  rw [h]
theorem if_t (h : c e () = some (true, ())) : rIfS c a b e () = a e () := by
  unfold rIfS
  rw [h]
theorem if_f (h : c e () = some (false, ())) : rIfS c a b e () = b e () := by
  unfold rIfS
  rw [h]
theorem lift_nx (h : a e () = some (.nx e1 ())) : xLiftS a e = .ret (.nx e1 ()) := by
  unfold xLiftS
  rw [h]
theorem loop_nil : loopL g b [] e () = some (.nx e ()) := rfl
theorem loop_cons {d : D} {ds : List D} {e2 : Env} (h1 : g d e = some e1) (h2 : b e1 () = some (.nx e2 ())) : loopL g b (d :: ds) e () = loopL g b ds e2 () := by
  rw [loopL, h1]
  simp only [h2]
theorem or_ff {c1 c2 : RB Unit} (h1 : c1 e () = some (false, ())) (h2 : c2 e () = some (false, ())) : rOr c1 c2 e () = some (false, ()) := by
  unfold rOr
  rw [h1]
  exact h2
theorem set_sh {i : Nat} {r : RE Unit} {d : D} (h : r e () = some (d, ())) : rSet i (rSh r) e () = some (.nx (e.set i (.sh d)) ()) := by
  unfold rSet rSh
  rw [h]
theorem set_c {i : Nat} {r : RC Unit} {c : Cell} (h : r e () = some (c, ())) : rSet i r e () = some (.nx (e.set i c) ()) := by
  unfold rSet
  rw [h]
theorem call_eq {f : List D → Option D} {r : RA Unit} {ds : List D} {d : D} (h : r e () = some (ds, ())) (hf : f ds = some d) : rCall f r e () = some (d, ()) := by
  unfold rCall
  rw [h]
  simp only [hf]
theorem bin_eq {g : D → D → Option Cell} {ra rb : RE Unit} {d d' : D} {c : Cell} (h : ra e () = some (d, ())) (h' : rb e () = some (d', ())) (hg : g d d' = some c) : rBin g ra rb e () = some (c, ()) := by
  unfold rBin
  rw [h]
  simp only [h', hg]
theorem cb_eq {g : List D → Option Cell} {r : RA Unit} {ds : List D} {c : Cell} (h : r e () = some (ds, ())) (hg : g ds = some c) : rCB g r e () = some (c, ()) := by
  unfold rCB
  rw [h]
  simp only [hg]
theorem de_sh {r : RC Unit} {d : D} (h : r e () = some (.sh d, ())) : rDe r e () = some (d, ()) := by
  unfold rDe
  rw [h]
theorem de_ow {r : RC Unit} {d : D} (h : r e () = some (.ow d, ())) : rDe r e () = some (d, ()) := by
  unfold rDe
  rw [h]
theorem cons_eq {r : RE Unit} {rs : RA Unit} {d : D} {ds : List D} (h : r e () = some (d, ())) (h' : rs e () = some (ds, ())) : rCons r rs e () = some (d :: ds, ()) := by
  unfold rCons
  rw [h]
  simp only [h']
theorem one_eq {r : RE Unit} {d : D} (h : r e () = some (d, ())) : rCons r (rNil Unit) e () = some ([d], ()) := cons_eq h rfl
theorem truth_eq {r : RC Unit} {b : Bool} (h : r e () = some (.sh (.bl b), ())) : rTruth r e () = some (b, ()) := by
  unfold rTruth
  rw [h]
theorem sh_eq {r : RE Unit} {d : D} (h : r e () = some (d, ())) : rSh r e () = some (.sh d, ()) := by
  unfold rSh
  rw [h]
theorem if_te {x y : RE Unit} (h : c e () = some (true, ())) : rIf c x y e () = x e () := by
  unfold rIf
  rw [h]
theorem if_fe {x y : RE Unit} (h : c e () = some (false, ())) : rIf c x y e () = y e () := by
  unfold rIf
  rw [h]
theorem ret_eq {r : RE Unit} {d : D} (h : r e () = some (d, ())) : rRet r e () = some (.rt d ()) := by
  unfold rRet
  rw [h]
theorem run_rt {n m : Nat} {b : RS Unit} {ds : List D} {d : D} (hl : ds.length = n) (h : b (envOf m ds) () = some (.rt d ())) : runFn n m b ds = some d := by
  unfold runFn
  rw [if_pos hl, h]
theorem ix_eq {ra rb : RE Unit} {d d' x : D} (h : ra e () = some (d, ())) (h' : rb e () = some (d', ())) (hg : gIx d d' = some x) : rIx' ra rb e () = some (x, ()) := by
  unfold rIx'
  rw [h]
  simp only [h', hg]
end

/-! ### comprehensions -/
theorem lc_run {α : Type} {g : RG} {tt : RB Unit} {te : RE Unit} {env : Env} {c : α → D} (p : α → Bool) (f : α → D) : ∀ {xs : List α}, (∀ x ∈ xs, ∃ e, g (c x) env = some e ∧ tt e () = some (p x, ()) ∧ (p x = true → te e () = some (f x, ()))) →
    lcL g tt te env (xs.map c) () = some ((xs.filter p).map f, ())
  | [], _ => rfl
  | x :: xs, h => by
    obtain ⟨e, h1, h2, h3⟩ := h x List.mem_cons_self
    have ih := lc_run (c := c) p f (xs := xs) fun y hy => h y (List.mem_cons_of_mem _ hy)
    rw [List.map_cons, lcL, h1]
    simp only [h2]
    cases hp : p x with
    | true => simp only [h3 hp, ih, List.filter_cons, hp, if_true, List.map_cons]
    | false => simp only [ih, List.filter_cons, hp, Bool.false_eq_true, if_false]
theorem rlc_run {α : Type} {ri : RA Unit} {g : RG} {tt : RB Unit} {te : RE Unit} {vs : List Nat} {env : Env} {c : α → D} {xs : List α} (p : α → Bool) (f : α → D) (h1 : ri env () = some (xs.map c, ())) (hl : xs.length ≤ 1000)
    (h : ∀ x ∈ xs, ∃ e, g (c x) (wipeE env vs) = some e ∧ tt e () = some (p x, ()) ∧ (p x = true → te e () = some (f x, ()))) : rLc ri g tt te vs env () = some (.ow (.lst ((xs.filter p).map f)), ()) := by
  unfold rLc
  rw [h1]
  have hm := most_1000
  simp only [List.length_map]
  rw [if_pos (by omega), lc_run p f h]
theorem rlc_map {α : Type} {ri : RA Unit} {g : RG} {te : RE Unit} {vs : List Nat} {env : Env} {c : α → D} {xs : List α} (f : α → D) (h1 : ri env () = some (xs.map c, ())) (hl : xs.length ≤ 1000)
    (h : ∀ x ∈ xs, ∃ e, g (c x) (wipeE env vs) = some e ∧ te e () = some (f x, ())) : rLc ri g (rYes Unit) te vs env () = some (.ow (.lst (xs.map f)), ()) := by
  rw [rlc_run (fun _ => true) f h1 hl fun x hx => ?_]
  · rw [List.filter_eq_self.mpr fun _ _ => rfl]
  · obtain ⟨e, a, b⟩ := h x hx
    exact ⟨e, a, rfl, fun _ => b⟩
theorem rangeI_map : ∀ (n : Nat) (lo : Int), rangeI n lo = (List.range n).map fun (k : Nat) => D.int (lo + k)
  | 0, _ => rfl
  | n + 1, lo => by
    rw [rangeI, List.range_succ_eq_map, List.map_cons, rangeI_map n (lo + 1), List.map_map]
    congr 1
    · simp
    · apply List.map_congr_left
      intro k _
      show D.int (lo + 1 + (k : Int)) = D.int (lo + ((k + 1 : Nat) : Int))
      congr 1; omega
theorem okR_small {i : Int} (h0 : 0 ≤ i) (h1 : i ≤ 100000) : okR i = true := by
  have a : (-(2 ^ 62) : Int) ≤ 0 := by decide +kernel
  have b : (100000 : Int) < 2 ^ 62 := by decide +kernel
  unfold okR
  rw [Bool.and_eq_true, decide_eq_true_eq, decide_eq_true_eq]
  exact ⟨Int.le_trans a h0, Int.lt_of_le_of_lt h1 b⟩
theorem range1_eq {r : RA Unit} {e : Env} {n : Nat} (h : r e () = some ([.int n], ())) (hn : n ≤ 1000) : rRange1 r e () = some ((List.range n).map fun (k : Nat) => D.int k, ()) := by
  unfold rRange1
  rw [h]
  have h2 : okR (n : Int) = true := okR_small (by omega) (by omega)
  simp only [h2, if_true, Int.toNat_natCast]
  rw [rangeI_map]
  simp

/-! ### data that are equal -/
theorem all2_self {f : D → D → Bool} : ∀ {l : List D}, (∀ d ∈ l, f d d = true) → all2 f l l = true
  | [], _ => rfl
  | d :: l, h => by
    rw [all2, h d List.mem_cons_self, all2_self fun x hx => h x (List.mem_cons_of_mem _ hx)]; rfl
theorem eq_self : ∀ (n : Nat) (d : D), d.ok n = true → D.eq n d d = true
  | 0, d, h => by cases d <;> first | (simp [D.eq]; done) | cases h
  | n + 1, d, h => by
    cases d with
    | tup l =>
      show all2 (D.eq n) l l = true
      exact all2_self fun x hx => eq_self n x (List.all_eq_true.mp h x hx)
    | lst l =>
      show all2 (D.eq n) l l = true
      exact all2_self fun x hx => eq_self n x (List.all_eq_true.mp h x hx)
    | wd => cases h
    | _ => simp [D.eq]
theorem gEq_self {d : D} (h : d.ok deep = true) : gEq d d = some (.sh (.bl true)) := by
  unfold gEq
  rw [h, eq_self deep d h]; rfl
theorem gNe_self {d : D} (h : d.ok deep = true) : gNe d d = some (.sh (.bl false)) := by
  unfold gNe
  rw [h, eq_self deep d h]; rfl
theorem gNe_sh {d d' : D} (h : d.ok deep = true) (e : d = d') : gNe d d' = some (.sh (.bl false)) := by subst e; exact gNe_self h
abbrev iL (l : List Int) : List D := l.map D.int
theorem ok_int (n : Nat) (i : Int) : (D.int i).ok n = true := by cases n <;> rfl
theorem ok_bl (n : Nat) (b : Bool) : (D.bl b).ok n = true := by cases n <;> rfl
theorem ok_ints (n : Nat) (l : List Int) : (iL l).all (D.ok n) = true := List.all_eq_true.mpr fun d hd => by
  obtain ⟨i, _, rfl⟩ := List.mem_map.mp hd
  exact ok_int n i
theorem ok_tup_ints (l : List Int) : (D.tup (iL l)).ok deep = true := ok_ints 19 l
theorem ok_lst_ints (l : List Int) : (D.lst (iL l)).ok deep = true := ok_ints 19 l
/-- == and != against the empty list -/
theorem gNe_nil (l : List D) (h : (D.lst l).ok deep = true) : gNe (.lst l) (.lst []) = some (.sh (.bl (!l.isEmpty))) := by
  unfold gNe
  rw [h]
  cases l <;> rfl
theorem gEq_nil (l : List D) (h : (D.lst l).ok deep = true) : gEq (.lst l) (.lst []) = some (.sh (.bl l.isEmpty)) := by
  unfold gEq
  rw [h]
  cases l <;> rfl

/-! ### all, min, max of what a comprehension gives -/
theorem bools_map {α : Type} (p : α → Bool) : ∀ xs : List α, boolsOf (xs.map fun x => D.bl (p x)) = some (xs.map p)
  | [] => rfl
  | x :: xs => by rw [List.map_cons, boolsOf, bools_map p xs]; rfl
theorem all_map {α : Type} (p : α → Bool) : ∀ xs : List α, allB (xs.map p) = xs.all p
  | [] => rfl
  | x :: xs => by rw [List.map_cons, allB, all_map p xs, List.all_cons]
theorem gAll_map {α : Type} (p : α → Bool) (xs : List α) : gAll [.lst (xs.map fun x => D.bl (p x))] = some (.sh (.bl (xs.all p))) := by
  show Option.map (fun ns => Cell.sh (D.bl (allB ns))) (boolsOf (xs.map fun x => D.bl (p x))) = _
  rw [bools_map, ← all_map]; rfl
theorem mm_ints (l : List Int) : mmOk (iL l) = true := by
  unfold mmOk alikeB
  rw [ok_ints, show (iL l).all isI = true from List.all_eq_true.mpr fun d hd => by obtain ⟨i, _, rfl⟩ := List.mem_map.mp hd; rfl]
  rw [Bool.true_or, Bool.true_or, Bool.true_and, Bool.true_and]
  exact List.all_eq_true.mpr fun d hd => by obtain ⟨i, _, rfl⟩ := List.mem_map.mp hd; rfl
theorem minF_ints : ∀ (l : List Int) (m : Int), minF (.int m) (iL l) = .int (minI m l)
  | [], m => rfl
  | i :: l, m => by
    rw [iL, List.map_cons, minF, minI, ← minF_ints l]
    show minF (if ltI i m then D.int i else D.int m) _ = minF (D.int (if ltI i m then i else m)) _
    cases ltI i m <;> rfl
theorem maxF_ints : ∀ (l : List Int) (m : Int), maxF (.int m) (iL l) = .int (maxI m l)
  | [], m => rfl
  | i :: l, m => by
    rw [iL, List.map_cons, maxF, maxI, ← maxF_ints l]
    show maxF (if ltI m i then D.int i else D.int m) _ = maxF (D.int (if ltI m i then i else m)) _
    cases ltI m i <;> rfl
theorem gMin_ints (m : Int) (l : List Int) : gMin' [.lst (iL (m :: l))] = some (.sh (.int (minI m l))) := by
  show (if mmOk (iL (m :: l)) then some (Cell.sh (minF (.int m) (iL l))) else none) = _
  rw [mm_ints, minF_ints]; rfl
theorem gMax_ints (m : Int) (l : List Int) : gMax' [.lst (iL (m :: l))] = some (.sh (.int (maxI m l))) := by
  show (if mmOk (iL (m :: l)) then some (Cell.sh (maxF (.int m) (iL l))) else none) = _
  rw [mm_ints, maxF_ints]; rfl
theorem gMin_intsT (m : Int) (l : List Int) : gMin' [.tup (iL (m :: l))] = some (.sh (.int (minI m l))) := by
  show (if mmOk (iL (m :: l)) then some (Cell.sh (minF (.int m) (iL l))) else none) = _
  rw [mm_ints, minF_ints]; rfl
theorem gMax_intsT (m : Int) (l : List Int) : gMax' [.tup (iL (m :: l))] = some (.sh (.int (maxI m l))) := by
  show (if mmOk (iL (m :: l)) then some (Cell.sh (maxF (.int m) (iL l))) else none) = _
  rw [mm_ints, maxF_ints]; rfl
theorem max_neg : ∀ (l : List Int) (m : Int), maxI (0 - m) (l.map fun x => 0 - x) = 0 - minI m l
  | [], m => rfl
  | i :: l, m => by
    rw [List.map_cons, maxI, minI, ← max_neg l]
    congr 1
    unfold ltI
    by_cases h : i < m
    · rw [if_pos (decide_eq_true (by omega)), if_pos (decide_eq_true h)]
    · rw [if_neg (by rw [decide_eq_true_eq]; omega), if_neg (by rw [decide_eq_true_eq]; exact h)]
theorem intsOf_ints : ∀ l : List Int, intsOf (iL l) = some l
  | [] => rfl
  | i :: l => by rw [iL, List.map_cons, intsOf, intsOf_ints l]; rfl
end DL

end
namespace Lk07
open PySem PySem.Spec PyProof.Rows L2 DL
def topS (i : Nat) : Stmt := PySem.Challenge.pw_bottlesback_k07_whole_known_vans_round_t.main.body.getD i (.Pass ⟨0, 0, 0, 0⟩)
structure Mg (mg : Str → Option Value) : Prop where
  m_len : mg "len" = none
  m_abs : mg "abs" = none
  m_int : mg "int" = none
  m_range : mg "range" = none
  m_tuple : mg "tuple" = none
  m_all : mg "all" = none
  m_max : mg "max" = none
  m_min : mg "min" = none
  m_sum : mg "sum" = none
abbrev s_loads : Stmt := topS 1
abbrev s_can_go : Stmt := topS 2
abbrev s_first_bad : Stmt := topS 3
abbrev s_least_begin : Stmt := topS 4
abbrev s_least_room : Stmt := topS 5
abbrev s_begins_for : Stmt := topS 6
abbrev s_round_from : Stmt := topS 7
abbrev s_good_starts : Stmt := topS 8
abbrev s_best_start : Stmt := topS 9
abbrev s__law_draws : Stmt := topS 11
abbrev s__law_next : Stmt := topS 12
abbrev s__law_holds : Stmt := topS 13
abbrev s_law : Stmt := topS 14
/-! ### the law's own helpers, by hand -/
theorem sc__law_next : FnScope ["w", "many"] ["w", "many"] (defScope s__law_next) := ⟨rfl, rfl, rfl, by decide +kernel, rfl, by decide +kernel, by decide +kernel⟩
/-- the next draw, below m -/
def r__law_next : List D → List Int → Option (D × List Int) := fun ds S => match ds with
  | [.wd, .int m] => if ltI 0 m then (match S with
    | [] => some (.int 0, [])
    | z :: r => some (.int (z % m), r)) else none
  | _ => none
theorem r_next_eq : runX x__law_next = r__law_next := by
  funext ds S
  unfold runX x__law_next r__law_next
  split
  · next m =>
    cases h : ltI 0 m with
    | false => simp [Tr.run, h]
    | true => cases S <;> simp [Tr.run, h]
  · next hn =>
    first
    | rfl
    | (split
       · next m => exact absurd rfl (hn m)
       · rfl)
theorem r__law_next_inv {ds : List D} {S S' : List Int} {d : D} (h : r__law_next ds S = some (d, S')) : ∃ m, ds = [.wd, .int m] ∧ 0 < m ∧ ((S = [] ∧ S' = [] ∧ d = .int 0) ∨ ∃ z r, S = z :: r ∧ S' = r ∧ d = .int (z % m)) := by
  unfold r__law_next at h
  split at h
  · next m =>
    split at h
    · next hm =>
      have hm' : 0 < m := by simpa [ltI] using hm
      split at h
      · cases h; exact ⟨m, rfl, hm', .inl ⟨rfl, rfl, rfl⟩⟩
      · next z r => cases h; exact ⟨m, rfl, hm', .inr ⟨z, _, rfl, rfl, rfl⟩⟩
    · cases h
  · cases h
theorem kat : ¬ ((Sum.inr (Str.ofString "draws") : L2.Key) = Sum.inr (Str.ofString "at")) := by decide +kernel
theorem kat' : ¬ ((Sum.inr (Str.ofString "at") : L2.Key) = Sum.inr (Str.ofString "draws")) := by decide +kernel
theorem kds : ¬ (Str.ofString "draws" = Str.ofString "at") := by decide +kernel
theorem w_at (v u : V) : valV [((Sum.inr (Str.ofString "draws") : L2.Key), v), (Sum.inr (Str.ofString "at"), u)] (Sum.inr (Str.ofString "at")) = some u := by
  rw [valV_neg kat, valV_pos rfl]
theorem w_draws (v u : V) : valV [((Sum.inr (Str.ofString "draws") : L2.Key), v), (Sum.inr (Str.ofString "at"), u)] (Sum.inr (Str.ofString "draws")) = some v := valV_pos rfl
theorem w_put (v u z : V) : putK [((Sum.inr (Str.ofString "draws") : L2.Key), v), (Sum.inr (Str.ofString "at"), u)] (Sum.inr (Str.ofString "at")) z = [(Sum.inr (Str.ofString "draws"), v), (Sum.inr (Str.ofString "at"), z)] := by
  unfold putK
  simp [kds]
theorem ok__law_next {P : Program} {w : World} {K : PySem.W.Frag} {mg : Str → Option Value} {base : Heap} {f : Addr} {fd : FuncData} (F : Fun K "_law_next" "_law_next" s__law_next f fd) (M : Mg mg) : FnOk P w K mg base CX0 1 f fd ["w", "many"] (spW K (runX x__law_next)) := by
  rw [r_next_eq]
  refine F.ok sc__law_next (fun vs H Q E ⟨a, G, ds, S, d, S', _, r, _, h, _⟩ => ?_) (fun cdv A outer s H vs Q E hr ⟨a, G, ds, S, d, S', sub, r, W, h, q⟩ => ?_)
  · obtain ⟨m, rfl, _⟩ := r__law_next_inv h
    rw [r.length]; rfl
  · obtain ⟨m, rfl, hm, hS⟩ := r__law_next_inv h
    have hu := hu_of hr
    obtain ⟨a', l, ns, k, e1, _, ga, ha, gl, eS⟩ := W
    cases e1
    cases r with
    | cons r1 r2 =>
    cases r2 with
    | cons r2 r3 =>
    cases r3
    cases r1 with
    | wd e =>
    cases e
    cases r2
    refine ⟨_, pss_cons (ps_daug hu (pv 0) pe_str pe_int in_add (by intros; rfl))
      (pss_cons (ps_if (pt_cmpR op_gt (pe_dget hu (pv 0) pe_str (fun _ _ => rfl)) (pe_callB call_len_seq (by rfl) M.m_len PySem.boot_len (pa_cons (pe_dget hu (pv 0) pe_str (fun _ _ => rfl)) pa_nil)) (nomark _)) (pss_one (ps_ret pe_int)) pss_nil)
      (pss_one (ps_ret (pe_op op_mod (pe_callTy call_int1 (by rfl) M.m_int boot'_int (pa_cons (pe_ix ix_list (pe_dget hu (pv 0) pe_str (fun _ _ => rfl)) (pe_op op_sub (pe_dget hu (pv 0) pe_str (fun _ _ => rfl)) pe_int) (fun _ _ => rfl)) pa_nil)) (pv 1))))), ?_⟩
    refine ⟨_, rfl, a, .int (k : Int), rfl, ?_, k, 1, rfl, rfl, upd H a (.dK [(Sum.inr (Str.ofString "draws"), .ref l), (Sum.inr (Str.ofString "at"), .int ((k : Int) + 1))]), ?_, ?_⟩
    · have g := DGet.k (k := Sum.inr (Str.ofString "at")) ha
      rw [w_at] at g; exact g
    · have g := DPut.k (k := Sum.inr (Str.ofString "at")) (v := .int ((k : Int) + 1)) ha (by show 2 < sizeLine; rw [sizeLine_eq]; decide)
      rw [w_put] at g; exact g
    have nl : l ≠ a := ne_of_none gl ga
    have ha1 : upd H a (.dK [(Sum.inr (Str.ofString "draws"), .ref l), (Sum.inr (Str.ofString "at"), .int ((k : Int) + 1))]) a = some (.dK [(Sum.inr (Str.ofString "draws"), .ref l), (Sum.inr (Str.ofString "at"), .int ((k : Int) + 1))]) := upd_same
    have hl1 : upd H a (.dK [(Sum.inr (Str.ofString "draws"), .ref l), (Sum.inr (Str.ofString "at"), .int ((k : Int) + 1))]) l = some (.lst (ns.map V.int)) := by rw [upd_ne nl]; exact sub _ _ gl
    generalize hH1 : upd H a (.dK [(Sum.inr (Str.ofString "draws"), .ref l), (Sum.inr (Str.ofString "at"), .int ((k : Int) + 1))]) = H1 at ha1 hl1 ⊢
    have gAt : DGet H1 a (.str (Str.ofString "at")) (some (.int ((k : Int) + 1))) := by
      have g := DGet.k (k := Sum.inr (Str.ofString "at")) ha1
      rw [w_at] at g; exact g
    have gDr : DGet H1 a (.str (Str.ofString "draws")) (some (.ref l)) := by
      have g := DGet.k (k := Sum.inr (Str.ofString "draws")) ha1
      rw [w_draws] at g; exact g
    have done : ∀ (v : V) (d' : D), (∀ G', Rep K (some a) G' v d') → ∀ S2, S2 = ns.drop (k + 1) → d' = d → S2 = S' → Q v H1 := fun v d' rv S2 e2 e3 e4 => by
      subst e3 e4
      refine q v G H1 (Sub.rfl' G) ?_ ?_ (fun b n => .inl n) ⟨a, l, ns, k + 1, rfl, rfl, ga, ?_, gl, e2⟩ (rv G)
      · intro b o e
        rw [← hH1, upd_ne (ne_of_none e ga)]; exact sub b o e
      · intro b o e n
        rw [← hH1, upd_ne (fun z => n (by rw [z]))]; exact e
      · rw [ha1]; rfl
    refine ⟨_, rfl, a, .int ((k : Int) + 1), rfl, gAt, _, rfl, a, .ref l, rfl, gDr, l, _, rfl, .inl (.inl (.inl hl1)), _, _, rfl, rfl, _, rfl, ite2 (fun c => ?_) (fun c => ?_)⟩
    · have hk : ns.length < k + 1 := by
        have c' := of_decide_eq_true c
        rw [List.length_map] at c'; omega
      rcases hS with ⟨rfl, rfl, rfl⟩ | ⟨z, r, eS2, rfl, rfl⟩
      · exact done (.int 0) (.int 0) (fun _ => .int _) [] (by rw [List.drop_eq_nil_of_le (by omega)]) rfl rfl
      · rw [eS2, List.drop_eq_nil_of_le (by omega)] at eS
        cases eS
    · have hk : k < ns.length := by
        have c' := of_decide_eq_false (eq_false_of_ne_true c)
        rw [List.length_map] at c'; omega
      rw [List.drop_eq_getElem_cons hk] at eS
      rcases hS with ⟨rfl, rfl, rfl⟩ | ⟨z, r, eS2, rfl, rfl⟩
      · cases eS
      · rw [eS2] at eS
        cases eS
        refine ⟨_, rfl, a, .ref l, rfl, gDr, _, rfl, a, .int ((k : Int) + 1), rfl, gAt, (k : Int) + 1, 1, rfl, rfl, l, _, _, .int ns[k], rfl, rfl, .inl (.inl hl1), ?_, .inl ⟨ns[k], rfl, _, rfl, ns[k], m, rfl, rfl, hm, ?_⟩⟩
        · rw [show (k : Int) + 1 - 1 = (k : Int) by omega]
          exact atI_nat (by rw [List.getElem?_map, List.getElem?_eq_getElem hk]; rfl)
        · exact done (.int (ns[k] % m)) (.int (ns[k] % m)) (fun _ => .int _) _ rfl rfl rfl
theorem sc__law_draws : FnScope ["script", "many", "draws", "mixed", "k", "cell", "rest", "turn"] ["script", "many"] (defScope s__law_draws) := ⟨rfl, rfl, rfl, by decide +kernel, rfl, by decide +kernel, by decide +kernel⟩
def spDraws (K : PySem.W.Frag) : Sp := fun vs H Q _ => ∃ (a : Addr) (ns : List Int) (m : Int), vs = [.ref a, .int m] ∧ SqL K H a (ns.map V.int) ∧ ns.length ≤ 63 ∧ 0 ≤ m ∧ m ≤ 1000 ∧ ∀ (H' : Hp) (p : Addr) (zs : List Int), Same H H' → H p = none → H' p = some (.lst (zs.map V.int)) → Q (.ref p) H'
theorem cutV_ints (zs : List Int) (lo hi : Option Int) : ∃ ys : List Int, cutV (zs.map V.int) lo hi = ys.map V.int := ⟨((zs.drop (HT.sIx (zs.map V.int).length 0 lo)).take (HT.sIx (zs.map V.int).length (zs.map V.int).length hi - HT.sIx (zs.map V.int).length 0 lo)), by
  unfold cutV
  rw [← List.map_drop, ← List.map_take]⟩
theorem small5000 {n : Nat} (h : n ≤ 10000) : n < sizeLine := Nat.lt_of_le_of_lt h (by rw [sizeLine_eq]; decide)
/-- the state of the draws: the list at o -/
structure DrSt (K : PySem.W.Frag) (H0 : Hp) (a o : Addr) (ns : List Int) (m : Int) (n : Nat) (mx rs : Int) (tail : L2.St → Prop) (σ : L2.St) (H : Hp) : Prop where
  same : Same H0 H
  ex : ∃ (zs : List Int) (y4 y5 y7 : Option V), σ = [some (.ref a), some (.int m), some (.ref o), some (.int mx), y4, y5, some (.int rs), y7] ∧ H o = some (.lst (zs.map V.int)) ∧ zs.length ≤ n
theorem ok__law_draws {P : Program} {w : World} {K : PySem.W.Frag} {mg : Str → Option Value} {base : Heap} {f : Addr} {fd : FuncData} (F : Fun K "_law_draws" "_law_draws" s__law_draws f fd) (M : Mg mg) : FnOk P w K mg base CX0 1 f fd ["script", "many"] (spDraws K) := by
  refine F.ok sc__law_draws (fun vs H Q E h => ?_) (fun cdv A outer s H vs Q E hr h => ?_)
  · obtain ⟨a, ns, m, rfl, _⟩ := h
    rfl
  · obtain ⟨a, ns, m, rfl, hS, hl, hm0, hm, q⟩ := h
    refine ⟨_, pss_cons (ps_set (i := 2) sc__law_draws.nd rfl (.inl rfl) (pe_lst pa_nil))
      (pss_cons (ps_set (i := 3) sc__law_draws.nd rfl (.inl rfl) pe_int)
      (pss_cons (ps_for PassesOwn.never rfl (pi_range1 (by rfl) M.m_range (pa_cons (pe_callB call_len_seq (by rfl) M.m_len PySem.boot_len (pa_cons (pv 0) pa_nil)) pa_nil)) (pg_name (i := 4) sc__law_draws.nd rfl (.inl rfl))
        (pss_cons (ps_set (i := 5) sc__law_draws.nd rfl (.inl rfl) (pe_callB call_abs (by rfl) M.m_abs boot'_abs (pa_cons (pe_callTy call_int1 (by rfl) M.m_int boot'_int (pa_cons (pe_ix ix_list (pv 0) (pv 4) (fun _ _ => rfl)) pa_nil)) pa_nil)))
        (pss_cons (ps_set (i := 3) sc__law_draws.nd rfl (.inl rfl) (pe_op op_mod (pe_callTy call_int1 (by rfl) M.m_int boot'_int (pa_cons (pe_op L2.op_add (pe_op L2.op_add (pe_op op_mul (pv 3) pe_int) (pe_op op_mod (pv 5) pe_int)) (pv 4)) pa_nil)) pe_int))
        (pss_cons (ps_set (i := 6) sc__law_draws.nd rfl (.inl rfl) pe_int)
        (pss_cons (ps_if (pt_cmpR op_ge (pv 5) (pe_op op_pow pe_int pe_int) (nomark _)) (pss_one (ps_set (i := 6) sc__law_draws.nd rfl (.inl rfl) (pv 5)))
          (pss_cons (ps_expr (pe_bm PySem.F.plainAttrs_list PySem.F.slot_list_append PySem.F.type_list_append mt_append (pv 2) (pa_cons (pe_op op_mod (pe_callTy call_int1 (by rfl) M.m_int boot'_int (pa_cons (pv 5) pa_nil)) pe_int) pa_nil)))
          (pss_one (ps_expr (pe_bm PySem.F.plainAttrs_list PySem.F.slot_list_append PySem.F.type_list_append mt_append (pv 2) (pa_cons (pe_op op_mod (pe_op op_mod (pe_callTy call_int1 (by rfl) M.m_int boot'_int (pa_cons (pe_op L2.op_add (pe_op op_mul (pv 3) pe_int) pe_int) pa_nil)) pe_int) pe_int) pa_nil))))))
        (pss_one (ps_for PassesOwn.never rfl (pi_range1 (by rfl) M.m_range (pa_cons pe_int pa_nil)) (pg_name (i := 7) sc__law_draws.nd rfl (.inl rfl))
          (pss_one (ps_if (pt_cmpR op_gt (pv 6) pe_int (nomark _))
            (pss_cons (ps_expr (pe_bm PySem.F.plainAttrs_list PySem.F.slot_list_append PySem.F.type_list_append mt_append (pv 2) (pa_cons (pe_op op_mod (pe_callTy call_int1 (by rfl) M.m_int boot'_int (pa_cons (pv 6) pa_nil)) pe_int) pa_nil)))
            (pss_one (ps_set (i := 6) sc__law_draws.nd rfl (.inl rfl) (pe_op op_fdiv (pv 6) pe_int)))) pss_nil)))))))))
      (pss_cons (ps_for PassesOwn.never rfl (pi_range1 (by rfl) M.m_range (pa_cons (pv 1) pa_nil)) (pg_name (i := 4) sc__law_draws.nd rfl (.inl rfl))
        (pss_cons (ps_set (i := 3) sc__law_draws.nd rfl (.inl rfl) (pe_op op_mod (pe_callTy call_int1 (by rfl) M.m_int boot'_int (pa_cons (pe_op L2.op_add (pe_op L2.op_add (pe_op op_mul (pv 3) pe_int) (pv 4)) pe_int) pa_nil)) pe_int))
        (pss_one (ps_expr (pe_bm PySem.F.plainAttrs_list PySem.F.slot_list_append PySem.F.type_list_append mt_append (pv 2) (pa_cons (pe_op op_mod (pe_callTy call_int1 (by rfl) M.m_int boot'_int (pa_cons (pv 3) pa_nil)) pe_int) pa_nil))))))
      (pss_one (ps_ret (pe_slice sl_list (pv 2) po_none (po_some (pv 1)))))))), ?_⟩
    refine ⟨Nat.zero_le _, fun o no => ?_⟩
    have s1 : Same H (upd H o (.lst [])) := fun b x e => by rw [upd_ne (ne_of_none e no)]; exact e
    have keep : ∀ {H' : Hp} {x : HO}, Same H H' → Same H (upd H' o x) := fun {H' x} sm b y e => by rw [upd_ne (ne_of_none e no)]; exact sm b y e
    -- the first loop
    refine ⟨.ref a, rfl, a, ns.map V.int, rfl, .inl (s1.seq hS), (((ns.map V.int).length : Nat) : Int), rfl, by omega, by rw [List.length_map]; omega, ?_⟩
    rw [Int.toNat_natCast, List.length_map]
    refine for_range (lo := 0) (n := ns.length) (fun i σ H2 => Same H H2 ∧ ∃ (zs : List Int) (mx : Int) (y4 y5 y6 y7 : Option V), σ = [some (.ref a), some (.int m), some (.ref o), some (.int mx), y4, y5, y6, y7] ∧ H2 o = some (.lst (zs.map V.int)) ∧ zs.length ≤ i * 62)
      ⟨s1, [], 7, none, none, none, none, rfl, upd_same, Nat.zero_le _⟩ ?_ ?_
    · rintro i σ H2 hi ⟨sm, zs, mx, y4, y5, y6, y7, rfl, ho, hz⟩
      have hat : atI (ns.map V.int) (0 + (i : Int)) = some (.int ns[i]) := by
        rw [Int.zero_add]
        exact atI_nat (by rw [List.getElem?_map, List.getElem?_eq_getElem hi]; rfl)
      refine ⟨_, rfl, _, rfl, a, _, _, _, rfl, rfl, sm.seq hS, hat, .inl ⟨ns[i], rfl, ns[i], rfl, ?_⟩⟩
      generalize (if ns[i] < 0 then -ns[i] else ns[i]) = cell
      refine ⟨_, rfl, mx, 48271, rfl, rfl, .inr ⟨by decide, by decide⟩, _, rfl, cell, 1000003, rfl, rfl, (by show (0 : Int) < 1000003; decide), _, _, rfl, rfl, _, rfl, _, _, rfl, rfl, .inl ⟨_, rfl, _, 65537, rfl, rfl, (by show (0 : Int) < 65537; decide), ?_⟩⟩
      refine ⟨_, rfl, 10, 18, rfl, rfl, ⟨by decide, by decide, by decide⟩, cell, _, rfl, rfl, _, rfl, ite2 (fun c => ?_) (fun c => ?_)⟩
      · refine ⟨_, rfl, 60, rfl, by omega, by omega, ?_⟩
        refine for_range (lo := 0) (n := (60 : Int).toNat) (fun j σ H2 => Same H H2 ∧ ∃ (zs : List Int) (mx rs : Int) (y4 y5 y7 : Option V), σ = [some (.ref a), some (.int m), some (.ref o), some (.int mx), y4, y5, some (.int rs), y7] ∧ H2 o = some (.lst (zs.map V.int)) ∧ zs.length ≤ i * 62 + 2 + j) ?_ ?_ ?_
        · exact ⟨sm, zs, _, cell, _, _, _, rfl, ho, by omega⟩
        · rintro j σ H4 hj ⟨sm4, zs4, mx4, rs4, z4, z5, z7, rfl, ho4, hz4⟩
          have hj' : j < 60 := hj
          refine ⟨_, rfl, rs4, 0, rfl, rfl, _, rfl, ite2 (fun c => ?_) (fun c => ?_)⟩
          · refine ⟨_, rfl, .inl ⟨rfl, _, .inl (.inl ho4)⟩, _, rfl, .inl ⟨rs4, rfl, _, 997, rfl, rfl, (by show (0 : Int) < 997; decide), o, _, _, rfl, rfl, ho4, by rw [List.length_map]; exact small5000 (by omega), ?_⟩⟩
            refine ⟨_, rfl, _, 997, rfl, rfl, ⟨by decide, by decide⟩, keep sm4, zs4 ++ [rs4 % 997], mx4, rs4 / 997, z4, z5, _, rfl, ?_, ?_⟩
            · rw [upd_same, List.map_append]; rfl
            · rw [List.length_append, List.length_singleton]; omega
          · exact ⟨sm4, zs4, mx4, rs4, z4, z5, _, rfl, ho4, by omega⟩
        · rintro σ H4 ⟨sm4, zs4, mx4, rs4, z4, z5, z7, rfl, ho4, hz4⟩
          exact ⟨sm4, zs4, mx4, z4, z5, _, z7, rfl, ho4, by
            have : (60 : Int).toNat = 60 := rfl
            omega⟩
      · refine ⟨_, rfl, .inl ⟨rfl, _, .inl (.inl ho)⟩, _, rfl, .inl ⟨cell, rfl, _, 997, rfl, rfl, (by show (0 : Int) < 997; decide), o, _, _, rfl, rfl, ho, by rw [List.length_map]; exact small5000 (by omega), ?_⟩⟩
        have ho5 : upd H2 o (.lst (zs.map V.int ++ [.int (cell % 997)])) o = some (.lst ((zs ++ [cell % 997]).map V.int)) := by rw [upd_same, List.map_append]; rfl
        refine ⟨_, rfl, .inl ⟨rfl, _, .inl (.inl ho5)⟩, _, rfl, _, 69621, rfl, rfl, .inr ⟨by decide, by decide⟩, _, 5, rfl, rfl, .inl ⟨_, rfl, _, 65521, rfl, rfl, (by show (0 : Int) < 65521; decide), _, 997, rfl, rfl, (by show (0 : Int) < 997; decide), o, _, _, rfl, rfl, ho5, by rw [List.length_map, List.length_append, List.length_singleton]; exact small5000 (by omega), ?_⟩⟩
        refine ⟨60, rfl, by omega, by omega, ?_⟩
        refine for_range (lo := 0) (n := (60 : Int).toNat) (fun j σ H2 => Same H H2 ∧ ∃ (zs : List Int) (mx rs : Int) (y4 y5 y7 : Option V), σ = [some (.ref a), some (.int m), some (.ref o), some (.int mx), y4, y5, some (.int rs), y7] ∧ H2 o = some (.lst (zs.map V.int)) ∧ zs.length ≤ i * 62 + 2 + j) ?_ ?_ ?_
        · refine ⟨keep (keep sm), zs ++ [cell % 997] ++ [((mx * 48271 + cell % 1000003 + (0 + (i : Int))) % 65537 * 69621 + 5) % 65521 % 997], _, 0, _, _, _, rfl, ?_, ?_⟩
          · rw [upd_same]; simp only [List.map_append, List.map_cons, List.map_nil]
          · rw [List.length_append, List.length_append, List.length_singleton, List.length_singleton]; omega
        · rintro j σ H4 hj ⟨sm4, zs4, mx4, rs4, z4, z5, z7, rfl, ho4, hz4⟩
          have hj' : j < 60 := hj
          refine ⟨_, rfl, rs4, 0, rfl, rfl, _, rfl, ite2 (fun c => ?_) (fun c => ?_)⟩
          · refine ⟨_, rfl, .inl ⟨rfl, _, .inl (.inl ho4)⟩, _, rfl, .inl ⟨rs4, rfl, _, 997, rfl, rfl, (by show (0 : Int) < 997; decide), o, _, _, rfl, rfl, ho4, by rw [List.length_map]; exact small5000 (by omega), ?_⟩⟩
            refine ⟨_, rfl, _, 997, rfl, rfl, ⟨by decide, by decide⟩, keep sm4, zs4 ++ [rs4 % 997], mx4, rs4 / 997, z4, z5, _, rfl, ?_, ?_⟩
            · rw [upd_same, List.map_append]; rfl
            · rw [List.length_append, List.length_singleton]; omega
          · exact ⟨sm4, zs4, mx4, rs4, z4, z5, _, rfl, ho4, by omega⟩
        · rintro σ H4 ⟨sm4, zs4, mx4, rs4, z4, z5, z7, rfl, ho4, hz4⟩
          exact ⟨sm4, zs4, mx4, z4, z5, _, z7, rfl, ho4, by
            have : (60 : Int).toNat = 60 := rfl
            omega⟩
    -- the second loop
    · rintro σ H2 ⟨sm, zs, mx, y4, y5, y6, y7, rfl, ho, hz⟩
      refine ⟨_, rfl, m, rfl, by omega, by omega, ?_⟩
      refine for_range (lo := 0) (n := m.toNat) (fun i σ H2 => Same H H2 ∧ ∃ (zs : List Int) (mx : Int) (y4 y5 y6 y7 : Option V), σ = [some (.ref a), some (.int m), some (.ref o), some (.int mx), y4, y5, y6, y7] ∧ H2 o = some (.lst (zs.map V.int)) ∧ zs.length ≤ ns.length * 62 + i)
        ⟨sm, zs, mx, y4, y5, y6, y7, rfl, ho, hz⟩ ?_ ?_
      · rintro i σ H3 hi ⟨sm, zs, mx, y4, y5, y6, y7, rfl, ho, hz⟩
        refine ⟨_, rfl, mx, 16807, rfl, rfl, .inr ⟨by decide, by decide⟩, _, rfl, _, _, rfl, rfl, _, 1, rfl, rfl, .inl ⟨_, rfl, _, 65537, rfl, rfl, (by show (0 : Int) < 65537; decide), ?_⟩⟩
        refine ⟨_, rfl, .inl ⟨rfl, _, .inl (.inl ho)⟩, _, rfl, .inl ⟨_, rfl, _, 997, rfl, rfl, (by show (0 : Int) < 997; decide), o, _, _, rfl, rfl, ho, by rw [List.length_map]; exact small5000 (by omega), ?_⟩⟩
        refine ⟨keep sm, zs ++ [(mx * 16807 + (0 + (i : Int)) + 1) % 65537 % 997], _, _, _, _, _, rfl, ?_, ?_⟩
        · rw [upd_same, List.map_append]; rfl
        · rw [List.length_append, List.length_singleton]; omega
      · rintro σ H3 ⟨sm, zs, mx, y4, y5, y6, y7, rfl, ho, hz⟩
        obtain ⟨ys, hy⟩ := cutV_ints zs none (some m)
        refine ⟨_, rfl, _, rfl, m, rfl, o, _, rfl, .inl (.inl ho), fun p np => ?_⟩
        have np0 : H p = none := sm.free np
        refine q _ p ys (fun b x e => ?_) np0 ?_
        · rw [upd_ne (ne_of_none (sm b x e) np)]; exact sm b x e
        · rw [upd_same, hy]
/-! ### the law -/
theorem sc_law : FnScope ["script", "w", "turn"] ["script"] (defScope s_law) := ⟨rfl, rfl, rfl, by decide +kernel, rfl, by decide +kernel, by decide +kernel⟩
def spLaw (K : PySem.W.Frag) : Sp := fun vs H Q _ => ∃ (a : Addr) (ns : List Int), vs = [.ref a] ∧ SqL K H a (ns.map V.int) ∧ ns.length ≤ 63 ∧ ∀ H', Q (.bl true) H'
theorem ok_law {P : Program} {w : World} {K : PySem.W.Frag} {mg : Str → Option Value} {base : Heap} {f : Addr} {fd : FuncData} {k : Nat} {rh : List D → List Int → Option (D × List Int)} (hk : 1 ≤ k) (F : Fun K "law" "law" s_law f fd) (M : Mg mg)
    (cd : Cal P w K mg base "_law_draws" 1 (spDraws K)) (ch : Cal P w K mg base "_law_holds" k (spW K rh)) (hh : ∀ S, ∃ S', rh [.wd] S = some (.bl true, S')) : FnOk P w K mg base CX0 (k + 1) f fd ["script"] (spLaw K) := by
  obtain ⟨fd1, fd2, fd3, d1, d2, d3, d4⟩ := cd
  obtain ⟨fh1, fh2, fh3, h1, h2, h3, h4⟩ := ch
  refine F.ok sc_law (fun vs H Q E h => ?_) (fun cdv A outer s H vs Q E hr h => ?_)
  · obtain ⟨a, ns, rfl, _⟩ := h
    rfl
  · obtain ⟨a, ns, rfl, hS, hl, q⟩ := h
    refine ⟨_, pss_cons (ps_set (i := 1) sc_law.nd rfl (.inl rfl) (pe_disp (pps_cons pe_str (pe_call d4 (hr.mono hk) (by rfl) d1 d2 d3 .nil pass0 (pa_cons (pv 0) (pa_cons pe_int pa_nil))) (pps_cons pe_str pe_int pps_nil)) (by rfl) (by rfl) (fun z => by cases z) (by decide)))
      (pss_cons (ps_for PassesOwn.never rfl (pi_range1 (by rfl) M.m_range (pa_cons pe_int pa_nil)) (pg_name (i := 2) sc_law.nd rfl (.inl rfl))
        (pss_one (ps_if (pt_not (pt_val (pe_call h4 hr (by rfl) h1 h2 h3 .nil pass0 (pa_cons (pv 1) pa_nil)))) (pss_one (ps_ret pe_bl)) pss_nil)))
      (pss_one (ps_ret pe_bl))), ?_⟩
    intro p np
    have s1 : Same H (upd H p (.dK [])) := fun b x e => by rw [upd_ne (ne_of_none e np)]; exact e
    refine ⟨_, rfl, a, ns, 200, rfl, s1.seq hS, hl, by omega, by omega, fun H1 l zs sm nl hl1 => ?_⟩
    have hp1 : H1 p = some (.dK []) := sm _ _ upd_same
    have npl : l ≠ p := fun e => by rw [e, upd_same] at nl; cases nl
    refine ⟨hp1, [(Sum.inr (Str.ofString "draws"), .ref l), (Sum.inr (Str.ofString "at"), .int 0)], rfl, (by show 2 ≤ 15; decide), ?_⟩
    have hm : mergeK [] [((Sum.inr (Str.ofString "draws") : L2.Key), V.ref l), (Sum.inr (Str.ofString "at"), .int 0)] = [(Sum.inr (Str.ofString "draws"), .ref l), (Sum.inr (Str.ofString "at"), .int ((0 : Nat) : Int))] := by
      unfold mergeK
      simp [putK, kds]
    refine ⟨4, rfl, by decide, by decide, ?_⟩
    refine for_range (lo := 0) (n := (4 : Int).toNat) (fun i σ H2 => ∃ (y : Option V) (k' : Nat) (l : Addr) (zs : List Int), σ = [some (.ref a), some (.ref p), y] ∧ l ≠ p ∧ H2 l = some (.lst (zs.map V.int)) ∧ H2 p = some (.dK [(Sum.inr (Str.ofString "draws"), .ref l), (Sum.inr (Str.ofString "at"), .int (k' : Int))])) ⟨none, 0, l, zs, rfl, npl, ?_, ?_⟩ ?_ ?_
    · rw [upd_ne npl]; exact hl1
    · rw [upd_same, hm]
    · rintro i σ H2 hi ⟨y, k', l, zs, rfl, npl, e1, e2⟩
      obtain ⟨S', hS'⟩ := hh (zs.drop k')
      refine ⟨.ref p, rfl, p, fun b => if b = l then some (.lst (zs.map V.int)) else none, [.wd], zs.drop k', .bl true, S', ?_, .cons (.wd rfl) .nil, ⟨p, l, zs, k', rfl, rfl, if_neg (Ne.symm npl), e2, if_pos rfl, rfl⟩, hS', fun v G' H' g1 g2 g3 g4 g5 rv => ?_⟩
      · intro b o e
        by_cases hb : b = l
        · subst hb
          have e' : (if b = b then some (HO.lst (zs.map V.int)) else none) = some o := e
          rw [if_pos rfl] at e'
          rw [← e']; exact e1
        · have e' : (if b = l then some (HO.lst (zs.map V.int)) else none) = some o := e
          rw [if_neg hb] at e'; cases e'
      · cases rv
        refine ⟨true, rfl, iteF ?_⟩
        obtain ⟨a', l', ns', k2, q1, _, q3, q4, q5, _⟩ := g5
        cases q1
        exact ⟨_, k2, l', ns', rfl, ne_of_none q5 q3, g2 _ _ q5, q4⟩
    · rintro σ H2 ⟨y, k', l, zs, rfl, _, _, _⟩
      exact q H2

theorem sc_loads : FnScope ["begin", "changes", "found", "own"] ["begin", "changes"] (defScope s_loads) := ⟨rfl, rfl, rfl, by decide +kernel, rfl, by decide +kernel, by decide +kernel⟩
def b_loads : RS Unit := (rSeq (rSet 2 (rLst (rCons (rVar _ 0) (rNil _))))
  (rSeq (rFor (rItems (rVar _ 1)) (gdName 3) (rAppend' 2 (rDe (rBin gAdd (rIx' (rVarB _ 2) (rUn negI (rC _ (.int 1)))) (rVarB _ 3)))))
  (rRet (rDe (rCB gTuple (rCons (rVarB _ 2) (rNil _)))))))
def r_loads : List D → Option D := runFn 2 4 b_loads
theorem ok_loads {P : Program} {w : World} {K : PySem.W.Frag} {mg : Str → Option Value} {base : Heap} {f : Addr} {fd : FuncData} (F : Fun K "loads" "loads" s_loads f fd) (M : Mg mg) : FnOk P w K mg base CX0 1 f fd ["begin", "changes"] (spD K r_loads) :=
  fn_ok F sc_loads rfl rfl fun cdv A outer s H E hr => (dss_cons (ds_set (i := 2) sc_loads.nd rfl (Or.inl rfl) (dv_lst (da_cons (de_var (pv 0)) da_nil)))
    (dss_cons (ds_for PassesOwn.never rfl (di_seq (de_var (pv 1))) (dg_name (pg_name (i := 3) sc_loads.nd rfl (Or.inl rfl))) (dss_one (ds_append (pv 2) (dv_bin od_add (de_ix (db_var (pv 2)) (de_un un_neg' de_int)).b (db_var (pv 3))).de)))
    (dss_one (ds_ret (dv_callTy cd_tuple (by rfl) M.m_tuple boot'_tuple (dab_cons (db_var (pv 2)) dab_nil)).de))))
theorem sc_can_go : FnScope ["room", "begin", "changes", "own"] ["room", "begin", "changes"] (defScope s_can_go) := ⟨rfl, rfl, rfl, by decide +kernel, rfl, by decide +kernel, by decide +kernel⟩
def b_can_go : RS Unit := (rRet (rDe (rCB gAll (rCons (rDe (rLc (rItems (rCall r_loads (rCons (rVar _ 1) (rCons (rVar _ 2) (rNil _))))) (gdName 3) (rYes _) (rDe (rChain gLe gLe (rC _ (.int 0)) (rVarB _ 3) (rVarB _ 0))) [3])) (rNil _)))))
def r_can_go : List D → Option D := runFn 3 4 b_can_go
theorem ok_can_go {P : Program} {w : World} {K : PySem.W.Frag} {mg : Str → Option Value} {base : Heap} {f : Addr} {fd : FuncData} (F : Fun K "can_go" "can_go" s_can_go f fd) (M : Mg mg) (c_loads : Cal P w K mg base "loads" 1 (spD K r_loads)) : FnOk P w K mg base CX0 2 f fd ["room", "begin", "changes"] (spD K r_can_go) :=
  fn_ok F sc_can_go rfl rfl fun cdv A outer s H E hr => (dss_one (ds_ret (dv_callB (cd_all rfl) (by rfl) M.m_all boot'_all (dab_cons (dv_lc (own := [("own", 3)]) rfl sc_can_go.nd (dib_seq (de_call c_loads (hr.mono (by decide)) (by rfl) (da_cons (de_var (pv 1)) (da_cons (de_var (pv 2)) da_nil))).b) (blkOk_by (by kernel_rfl)) (by decide) (fun _ _ _ _ _ => (dg_name (pg_name (i := 3) sc_can_go.nd rfl (Or.inl rfl)))) (fun _ _ _ _ _ => dts_nil) (fun _ _ _ _ _ => (dv_chain (od_le) (od_le) (de_int).b (db_var (pv 3)) (db_var (pv 0))).de)).de.b dab_nil)).de))
theorem sc_first_bad : FnScope ["room", "begin", "changes", "rows", "able", "k"] ["room", "begin", "changes"] (defScope s_first_bad) := ⟨rfl, rfl, rfl, by decide +kernel, rfl, by decide +kernel, by decide +kernel⟩
def b_first_bad : RS Unit := (rSeq (rSet 3 (rSh (rCall r_loads (rCons (rVar _ 1) (rCons (rVar _ 2) (rNil _))))))
  (rSeq (rSet 4 (rLc (rRange1 (rCons (rDe (rCB gLen (rCons (rVarB _ 3) (rNil _)))) (rNil _))) (gdName 5) (rNot (rTruth (rChain gLe gLe (rC _ (.int 0)) (rIx' (rVarB _ 3) (rVar _ 5)) (rVarB _ 0)))) (rVar _ 5) [5]))
  (rRet (rIf (rTruth (rBin gNe (rVarB _ 4) (rDe (rLst (rNil _))))) (rIx' (rVarB _ 4) (rC _ (.int 0))) (rC _ .non)))))
def r_first_bad : List D → Option D := runFn 3 6 b_first_bad
theorem ok_first_bad {P : Program} {w : World} {K : PySem.W.Frag} {mg : Str → Option Value} {base : Heap} {f : Addr} {fd : FuncData} (F : Fun K "first_bad" "first_bad" s_first_bad f fd) (M : Mg mg) (c_loads : Cal P w K mg base "loads" 1 (spD K r_loads)) : FnOk P w K mg base CX0 2 f fd ["room", "begin", "changes"] (spD K r_first_bad) :=
  fn_ok F sc_first_bad rfl rfl fun cdv A outer s H E hr => (dss_cons (ds_set (i := 3) sc_first_bad.nd rfl (Or.inr rfl) (de_call c_loads (hr.mono (by decide)) (by rfl) (da_cons (de_var (pv 1)) (da_cons (de_var (pv 2)) da_nil))).v)
    (dss_cons (ds_setLc (own := [("k", 5)]) (i := 4) rfl sc_first_bad.nd rfl rfl (sw_true rfl rfl rfl (by decide +kernel)) (di_range1 (by rfl) M.m_range (da_cons (dv_callB cd_len (by rfl) M.m_len boot'_len (dab_cons (db_var (pv 3)) dab_nil)).de da_nil)) (blkOk_by (by kernel_rfl)) (by decide) (fun _ _ _ _ _ => (dg_name (pg_name (i := 5) sc_first_bad.nd rfl (Or.inl rfl)))) (fun _ _ _ _ _ => (dts_one (dt_not (dt_chain (od_le) (od_le) (de_int).b (de_ix (db_var (pv 3)) (de_var (pv 5))).b (db_var (pv 0)))))) (fun _ _ _ _ _ => (de_var (pv 5))))
    (dss_one (ds_ret (de_ifExp (dt_cmp (od_ne hr.units) (db_var (pv 4)) (dv_lst da_nil).de.b (nomark _)) (de_ix (db_var (pv 4)) de_int) de_non)))))
theorem sc_least_begin : FnScope ["changes", "own"] ["changes"] (defScope s_least_begin) := ⟨rfl, rfl, rfl, by decide +kernel, rfl, by decide +kernel, by decide +kernel⟩
def b_least_begin : RS Unit := (rRet (rDe (rCB gMax' (rCons (rDe (rLc (rItems (rCall r_loads (rCons (rC _ (.int 0)) (rCons (rVar _ 0) (rNil _))))) (gdName 1) (rYes _) (rDe (rBin (gI pSub) (rC _ (.int 0)) (rVarB _ 1))) [1])) (rNil _)))))
def r_least_begin : List D → Option D := runFn 1 2 b_least_begin
theorem ok_least_begin {P : Program} {w : World} {K : PySem.W.Frag} {mg : Str → Option Value} {base : Heap} {f : Addr} {fd : FuncData} (F : Fun K "least_begin" "least_begin" s_least_begin f fd) (M : Mg mg) (c_loads : Cal P w K mg base "loads" 1 (spD K r_loads)) : FnOk P w K mg base CX0 2 f fd ["changes"] (spD K r_least_begin) :=
  fn_ok F sc_least_begin rfl rfl fun cdv A outer s H E hr => (dss_one (ds_ret (dv_callB (cd_max' hr.units rfl) (by rfl) M.m_max boot'_max (dab_cons (dv_lc (own := [("own", 1)]) rfl sc_least_begin.nd (dib_seq (de_call c_loads (hr.mono (by decide)) (by rfl) (da_cons de_int (da_cons (de_var (pv 0)) da_nil))).b) (blkOk_by (by kernel_rfl)) (by decide) (fun _ _ _ _ _ => (dg_name (pg_name (i := 1) sc_least_begin.nd rfl (Or.inl rfl)))) (fun _ _ _ _ _ => dts_nil) (fun _ _ _ _ _ => (dv_bin od_sub (de_int).b (db_var (pv 1))).de)).de.b dab_nil)).de))
theorem sc_least_room : FnScope ["changes", "rows"] ["changes"] (defScope s_least_room) := ⟨rfl, rfl, rfl, by decide +kernel, rfl, by decide +kernel, by decide +kernel⟩
def b_least_room : RS Unit := (rSeq (rSet 1 (rSh (rCall r_loads (rCons (rC _ (.int 0)) (rCons (rVar _ 0) (rNil _))))))
  (rRet (rDe (rBin (gI pSub) (rDe (rCB gMax' (rCons (rVarB _ 1) (rNil _)))) (rDe (rCB gMin' (rCons (rVarB _ 1) (rNil _))))))))
def r_least_room : List D → Option D := runFn 1 2 b_least_room
theorem ok_least_room {P : Program} {w : World} {K : PySem.W.Frag} {mg : Str → Option Value} {base : Heap} {f : Addr} {fd : FuncData} (F : Fun K "least_room" "least_room" s_least_room f fd) (M : Mg mg) (c_loads : Cal P w K mg base "loads" 1 (spD K r_loads)) : FnOk P w K mg base CX0 2 f fd ["changes"] (spD K r_least_room) :=
  fn_ok F sc_least_room rfl rfl fun cdv A outer s H E hr => (dss_cons (ds_set (i := 1) sc_least_room.nd rfl (Or.inl rfl) (de_call c_loads (hr.mono (by decide)) (by rfl) (da_cons de_int (da_cons (de_var (pv 0)) da_nil))).v)
    (dss_one (ds_ret (dv_bin od_sub (dv_callB (cd_max' hr.units rfl) (by rfl) M.m_max boot'_max (dab_cons (db_var (pv 1)) dab_nil)).de.b (dv_callB (cd_min' hr.units rfl) (by rfl) M.m_min boot'_min (dab_cons (db_var (pv 1)) dab_nil)).de.b).de)))
theorem sc_begins_for : FnScope ["room", "changes", "low", "high"] ["room", "changes"] (defScope s_begins_for) := ⟨rfl, rfl, rfl, by decide +kernel, rfl, by decide +kernel, by decide +kernel⟩
def b_begins_for : RS Unit := (rSeq (rPar [2, 3] (rCCons (rSh (rCall r_least_begin (rCons (rVar _ 1) (rNil _)))) (rCCons (rSh (rDe (rBin (gI pSub) (rVarB _ 0) (rDe (rCB gMax' (rCons (rCall r_loads (rCons (rC _ (.int 0)) (rCons (rVar _ 1) (rNil _)))) (rNil _))))))) (rCNil _))))
  (rRet (rIf (rTruth (rBin gLe (rVarB _ 2) (rVarB _ 3))) (rTup (rCons (rVar _ 2) (rCons (rVar _ 3) (rNil _)))) (rC _ .non))))
def r_begins_for : List D → Option D := runFn 2 4 b_begins_for
theorem ok_begins_for {P : Program} {w : World} {K : PySem.W.Frag} {mg : Str → Option Value} {base : Heap} {f : Addr} {fd : FuncData} (F : Fun K "begins_for" "begins_for" s_begins_for f fd) (M : Mg mg) (c_least_begin : Cal P w K mg base "least_begin" 2 (spD K r_least_begin)) (c_loads : Cal P w K mg base "loads" 1 (spD K r_loads)) : FnOk P w K mg base CX0 3 f fd ["room", "changes"] (spD K r_begins_for) :=
  fn_ok F sc_begins_for rfl rfl fun cdv A outer s H E hr => (dss_cons (ds_par2 (i := 2) (j := 3) rfl sc_begins_for.nd rfl rfl (by decide) rfl rfl (dc_cons (de_call c_least_begin (hr.mono (by decide)) (by rfl) (da_cons (de_var (pv 1)) da_nil)).v (dc_cons (dv_bin od_sub (db_var (pv 0)) (dv_callB (cd_max' hr.units rfl) (by rfl) M.m_max boot'_max (dab_cons (de_call c_loads (hr.mono (by decide)) (by rfl) (da_cons de_int (da_cons (de_var (pv 1)) da_nil))).b dab_nil)).de.b).de.v dc_nil)) (by rfl))
    (dss_one (ds_ret (de_ifExp (dt_cmp (od_le) (db_var (pv 2)) (db_var (pv 3)) (nomark _)) (de_tup (da_cons (de_var (pv 2)) (da_cons (de_var (pv 3)) da_nil))) de_non))))
theorem sc_round_from : FnScope ["changes", "place"] ["changes", "place"] (defScope s_round_from) := ⟨rfl, rfl, rfl, by decide +kernel, rfl, by decide +kernel, by decide +kernel⟩
def b_round_from : RS Unit := (rRet (rDe (rBin gAdd (rDe (rSl (rVarB _ 0) (rOSome (rVar _ 1)) (rONone _))) (rDe (rSl (rVarB _ 0) (rONone _) (rOSome (rVar _ 1)))))))
def r_round_from : List D → Option D := runFn 2 2 b_round_from
theorem ok_round_from {P : Program} {w : World} {K : PySem.W.Frag} {mg : Str → Option Value} {base : Heap} {f : Addr} {fd : FuncData} (F : Fun K "round_from" "round_from" s_round_from f fd) (M : Mg mg) : FnOk P w K mg base CX0 1 f fd ["changes", "place"] (spD K r_round_from) :=
  fn_ok F sc_round_from rfl rfl fun cdv A outer s H E hr => (dss_one (ds_ret (dv_bin od_add (dv_sl (db_var (pv 0)) (do_some (de_var (pv 1))) do_none).de.b (dv_sl (db_var (pv 0)) do_none (do_some (de_var (pv 1)))).de.b).de))
theorem sc_good_starts : FnScope ["room", "begin", "changes", "k"] ["room", "begin", "changes"] (defScope s_good_starts) := ⟨rfl, rfl, rfl, by decide +kernel, rfl, by decide +kernel, by decide +kernel⟩
def b_good_starts : RS Unit := (rRet (rDe (rCB gTuple (rCons (rDe (rLc (rRange1 (rCons (rDe (rCB gLen (rCons (rVarB _ 2) (rNil _)))) (rNil _))) (gdName 3) (rTruth (rSh (rCall r_can_go (rCons (rVar _ 0) (rCons (rVar _ 1) (rCons (rCall r_round_from (rCons (rVar _ 2) (rCons (rVar _ 3) (rNil _)))) (rNil _))))))) (rVar _ 3) [3])) (rNil _)))))
def r_good_starts : List D → Option D := runFn 3 4 b_good_starts
theorem ok_good_starts {P : Program} {w : World} {K : PySem.W.Frag} {mg : Str → Option Value} {base : Heap} {f : Addr} {fd : FuncData} (F : Fun K "good_starts" "good_starts" s_good_starts f fd) (M : Mg mg) (c_can_go : Cal P w K mg base "can_go" 2 (spD K r_can_go)) (c_round_from : Cal P w K mg base "round_from" 1 (spD K r_round_from)) : FnOk P w K mg base CX0 3 f fd ["room", "begin", "changes"] (spD K r_good_starts) :=
  fn_ok F sc_good_starts rfl rfl fun cdv A outer s H E hr => (dss_one (ds_ret (dv_callTy cd_tuple (by rfl) M.m_tuple boot'_tuple (dab_cons (dv_lc (own := [("k", 3)]) rfl sc_good_starts.nd (di_range1 (by rfl) M.m_range (da_cons (dv_callB cd_len (by rfl) M.m_len boot'_len (dab_cons (db_var (pv 2)) dab_nil)).de da_nil)) (blkOk_by (by kernel_rfl)) (by decide) (fun _ _ _ _ _ => (dg_name (pg_name (i := 3) sc_good_starts.nd rfl (Or.inl rfl)))) (fun _ _ _ _ _ => (dts_one (dt_val (de_call c_can_go (hr.mono (by decide)) (by rfl) (da_cons (de_var (pv 0)) (da_cons (de_var (pv 1)) (da_cons (de_call c_round_from (hr.mono (by decide)) (by rfl) (da_cons (de_var (pv 2)) (da_cons (de_var (pv 3)) da_nil))) da_nil))))))) (fun _ _ _ _ _ => (de_var (pv 3)))).de.b dab_nil)).de))
theorem sc_best_start : FnScope ["changes", "k"] ["changes"] (defScope s_best_start) := ⟨rfl, rfl, rfl, by decide +kernel, rfl, by decide +kernel, by decide +kernel⟩
def b_best_start : RS Unit := (rRet (rDe (rRev (rDe (rCB gMin' (rCons (rDe (rLc (rRange1 (rCons (rDe (rCB gLen (rCons (rVarB _ 0) (rNil _)))) (rNil _))) (gdName 1) (rYes _) (rTup (rCons (rCall r_least_begin (rCons (rCall r_round_from (rCons (rVar _ 0) (rCons (rVar _ 1) (rNil _)))) (rNil _))) (rCons (rVar _ 1) (rNil _)))) [1])) (rNil _)))))))
def r_best_start : List D → Option D := runFn 1 2 b_best_start
theorem ok_best_start {P : Program} {w : World} {K : PySem.W.Frag} {mg : Str → Option Value} {base : Heap} {f : Addr} {fd : FuncData} (F : Fun K "best_start" "best_start" s_best_start f fd) (M : Mg mg) (c_least_begin : Cal P w K mg base "least_begin" 2 (spD K r_least_begin)) (c_round_from : Cal P w K mg base "round_from" 1 (spD K r_round_from)) : FnOk P w K mg base CX0 3 f fd ["changes"] (spD K r_best_start) :=
  fn_ok F sc_best_start rfl rfl fun cdv A outer s H E hr => (dss_one (ds_ret (dv_rev (dv_callB (cd_min' hr.units rfl) (by rfl) M.m_min boot'_min (dab_cons (dv_lc (own := [("k", 1)]) rfl sc_best_start.nd (di_range1 (by rfl) M.m_range (da_cons (dv_callB cd_len (by rfl) M.m_len boot'_len (dab_cons (db_var (pv 0)) dab_nil)).de da_nil)) (blkOk_by (by kernel_rfl)) (by decide) (fun _ _ _ _ _ => (dg_name (pg_name (i := 1) sc_best_start.nd rfl (Or.inl rfl)))) (fun _ _ _ _ _ => dts_nil) (fun _ _ _ _ _ => (de_tup (da_cons (de_call c_least_begin (hr.mono (by decide)) (by rfl) (da_cons (de_call c_round_from (hr.mono (by decide)) (by rfl) (da_cons (de_var (pv 0)) (da_cons (de_var (pv 1)) da_nil))) da_nil)) (da_cons (de_var (pv 1)) da_nil))))).de.b dab_nil)).de.b).de))
theorem sc__law_holds : FnScope ["w", "many", "changes", "whole", "room", "starts", "k", "row", "now", "own", "begin", "sums", "tight", "bad", "plain", "span", "place", "load", "so_far"] ["w"] (defScope s__law_holds) := ⟨rfl, rfl, rfl, by decide +kernel, rfl, by decide +kernel, by decide +kernel⟩
def h_0 : XS := (xSet 1 (xSh (xDe (xBin gAdd (xLift (rC _ (.int 1))) (xCallW x__law_next (xCons (xLift (rVar _ 0)) (xCons (xLift (rC _ (.int 8))) xNil)))))))
def h_1 : XS := (xSet 2 (xSh (xDe (xCB gTuple (xCons (xDe (xLc (xRange1 (xCons (xLift (rVar _ 1)) xNil)) (gdName 6) xYes (xDe (xBin (gI pSub) (xCallW x__law_next (xCons (xLift (rVar _ 0)) (xCons (xLift (rC _ (.int 11))) xNil))) (xLift (rC _ (.int 5))))) [6])) xNil)))))
def h_2 : XS := (xLiftS (rSet 3 (rSh (rDe (rCB gSum (rCons (rVarB _ 2) (rNil _)))))))
def h_3 : XS := (xLiftS (rSet 4 (rSh (rC _ (.int 100)))))
def h_4 : XS := (xLiftS (rSet 5 (rLst (rNil _))))
def h_5 : XS := (xLiftS (rFor (rRange1 (rCons (rVar _ 1) (rNil _))) (gdName 6) (rSeq (rPar [7, 8] (rCCons (rSh (rDe (rBin gAdd (rDe (rSl (rVarB _ 2) (rOSome (rVar _ 6)) (rONone _))) (rDe (rSl (rVarB _ 2) (rONone _) (rOSome (rVar _ 6))))))) (rCCons (rLst (rCons (rC _ (.int 0)) (rNil _))) (rCNil _))))
  (rSeq (rFor (rItems (rVar _ 7)) (gdName 9) (rAppend' 8 (rDe (rBin gAdd (rIx' (rVarB _ 8) (rUn negI (rC _ (.int 1)))) (rVarB _ 9)))))
  (rIfS (rTruth (rBin gGe (rDe (rCB gMin' (rCons (rVarB _ 8) (rNil _)))) (rC _ (.int 0)))) (rAppend' 5 (rVar _ 6)) (rSkip _))))))
def h_6 : XS := (xLiftS (rIfS (rOr (rTruth (rBin gNe (rCall r_good_starts (rCons (rVar _ 4) (rCons (rC _ (.int 0)) (rCons (rVar _ 2) (rNil _))))) (rDe (rCB gTuple (rCons (rVarB _ 5) (rNil _)))))) (rTruth (rBin gNe (rDe (rBin gNe (rVarB _ 5) (rDe (rLst (rNil _))))) (rDe (rBin gGe (rVarB _ 3) (rC _ (.int 0))))))) (rRet (rC _ (.bl false))) (rSkip _)))
def h_7 : XS := (xSet 10 (xSh (xCallW x__law_next (xCons (xLift (rVar _ 0)) (xCons (xLift (rC _ (.int 20))) xNil)))))
def h_8 : XS := (xLiftS (rSet 11 (rLst (rCons (rVar _ 10) (rNil _)))))
def h_9 : XS := (xLiftS (rFor (rItems (rVar _ 2)) (gdName 9) (rAppend' 11 (rDe (rBin gAdd (rIx' (rVarB _ 11) (rUn negI (rC _ (.int 1)))) (rVarB _ 9))))))
def h_10 : XS := (xLiftS (rIfS (rTruth (rBin gNe (rCall r_loads (rCons (rVar _ 10) (rCons (rVar _ 2) (rNil _)))) (rDe (rCB gTuple (rCons (rVarB _ 11) (rNil _)))))) (rRet (rC _ (.bl false))) (rSkip _)))
def h_11 : XS := (xSet 12 (xSh (xCallW x__law_next (xCons (xLift (rVar _ 0)) (xCons (xLift (rC _ (.int 25))) xNil)))))
def h_12 : XS := (xLiftS (rSet 13 (rLc (rRange1 (rCons (rDe (rBin gAdd (rVarB _ 1) (rC _ (.int 1)))) (rNil _))) (gdName 6) (rNot (rTruth (rChain gLe gLe (rC _ (.int 0)) (rIx' (rVarB _ 11) (rVar _ 6)) (rVarB _ 12)))) (rVar _ 6) [6])))
def h_13 : XS := (xLiftS (rIfS (rOr (rTruth (rBin gNe (rCall r_can_go (rCons (rVar _ 12) (rCons (rVar _ 10) (rCons (rVar _ 2) (rNil _))))) (rDe (rBin gEq (rVarB _ 13) (rDe (rLst (rNil _))))))) (rTruth (rBin gNe (rCall r_first_bad (rCons (rVar _ 12) (rCons (rVar _ 10) (rCons (rVar _ 2) (rNil _))))) (rIf (rTruth (rBin gNe (rVarB _ 13) (rDe (rLst (rNil _))))) (rIx' (rVarB _ 13) (rC _ (.int 0))) (rC _ .non))))) (rRet (rC _ (.bl false))) (rSkip _)))
def h_14 : XS := (xLiftS (rSet 14 (rLc (rItems (rVarB _ 11)) (gdName 9) (rYes _) (rDe (rBin (gI pSub) (rVarB _ 9) (rVarB _ 10))) [9])))
def h_15 : XS := (xLiftS (rIfS (rOr (rTruth (rBin gNe (rCall r_least_begin (rCons (rVar _ 2) (rNil _))) (rDe (rBin (gI pSub) (rC _ (.int 0)) (rDe (rCB gMin' (rCons (rVarB _ 14) (rNil _)))))))) (rTruth (rBin gNe (rCall r_least_room (rCons (rVar _ 2) (rNil _))) (rDe (rBin (gI pSub) (rDe (rCB gMax' (rCons (rVarB _ 14) (rNil _)))) (rDe (rCB gMin' (rCons (rVarB _ 14) (rNil _))))))))) (rRet (rC _ (.bl false))) (rSkip _)))
def h_16 : XS := (xLiftS (rSet 15 (rSh (rDe (rBin (gI pSub) (rDe (rCB gMax' (rCons (rVarB _ 14) (rNil _)))) (rDe (rCB gMin' (rCons (rVarB _ 14) (rNil _)))))))))
def h_17 : XS := (xLiftS (rIfS (rTruth (rBin gNe (rCall r_begins_for (rCons (rVar _ 12) (rCons (rVar _ 2) (rNil _)))) (rIf (rTruth (rBin gLe (rVarB _ 15) (rVarB _ 12))) (rTup (rCons (rDe (rBin (gI pSub) (rC _ (.int 0)) (rDe (rCB gMin' (rCons (rVarB _ 14) (rNil _)))))) (rCons (rDe (rBin (gI pSub) (rVarB _ 12) (rDe (rCB gMax' (rCons (rVarB _ 14) (rNil _)))))) (rNil _)))) (rC _ .non)))) (rRet (rC _ (.bl false))) (rSkip _)))
def h_18 : XS := (xLiftS (rAsg (rCall r_best_start (rCons (rVar _ 2) (rNil _))) (gdTup 2 (gdCons (gdName 16) (gdCons (gdName 17) gdNil)))))
def h_19 : XS := (xLiftS (rSet 18 (rSh (rAndV (rDe (rBin gEq (rVarB _ 17) (rCall r_least_begin (rCons (rCall r_round_from (rCons (rVar _ 2) (rCons (rVar _ 16) (rNil _)))) (rNil _))))) (rDe (rBin gEq (rVarB _ 17) (rDe (rCB gMin' (rCons (rDe (rLc (rRange1 (rCons (rVar _ 1) (rNil _))) (gdName 6) (rYes _) (rCall r_least_begin (rCons (rCall r_round_from (rCons (rVar _ 2) (rCons (rVar _ 6) (rNil _)))) (rNil _))) [6])) (rNil _))))))))))
def h_20 : XS := (xLiftS (rRet (rAndV (rVar _ 18) (rDe (rBin gEq (rCall r_round_from (rCons (rVar _ 2) (rCons (rVar _ 16) (rNil _)))) (rDe (rBin gAdd (rDe (rSl (rVarB _ 2) (rOSome (rVar _ 16)) (rONone _))) (rDe (rSl (rVarB _ 2) (rONone _) (rOSome (rVar _ 16)))))))))))
def b__law_holds : XS := xSeqL [h_0, h_1, h_2, h_3, h_4, h_5, h_6, h_7, h_8, h_9, h_10, h_11, h_12, h_13, h_14, h_15, h_16, h_17, h_18, h_19, h_20]
def x__law_holds : List D → Tr D := xFn 1 19 b__law_holds
theorem ok__law_holds {P : Program} {w : World} {K : PySem.W.Frag} {mg : Str → Option Value} {base : Heap} {f : Addr} {fd : FuncData} (F : Fun K "_law_holds" "_law_holds" s__law_holds f fd) (M : Mg mg) (c__law_next : Cal P w K mg base "_law_next" 1 (spW K (runX x__law_next))) (c_good_starts : Cal P w K mg base "good_starts" 3 (spD K r_good_starts)) (c_loads : Cal P w K mg base "loads" 1 (spD K r_loads)) (c_can_go : Cal P w K mg base "can_go" 2 (spD K r_can_go)) (c_first_bad : Cal P w K mg base "first_bad" 2 (spD K r_first_bad)) (c_least_begin : Cal P w K mg base "least_begin" 2 (spD K r_least_begin)) (c_least_room : Cal P w K mg base "least_room" 2 (spD K r_least_room)) (c_begins_for : Cal P w K mg base "begins_for" 3 (spD K r_begins_for)) (c_best_start : Cal P w K mg base "best_start" 3 (spD K r_best_start)) (c_round_from : Cal P w K mg base "round_from" 1 (spD K r_round_from)) : FnOk P w K mg base CX0 4 f fd ["w"] (spW K (runX x__law_holds)) :=
  fn_okX F sc__law_holds rfl rfl fun cdv A outer s H E hr => (dss_consx (ds_setx (i := 1) sc__law_holds.nd rfl (Or.inl rfl) (dv_binx od_add (db_liftx (de_int).b) (de_callWx c__law_next (hr.mono (by decide)) (by rfl) (da_consx (de_liftx (de_var (pv 0))) (da_consx (de_liftx de_int) da_nilx))).b).dex.vx)
    (dss_consx (ds_setx (i := 2) sc__law_holds.nd rfl (Or.inr rfl) (dv_callTyx cd_tuple (by rfl) M.m_tuple boot'_tuple (dab_consx (dv_lcx (own := [("k", 6)]) rfl sc__law_holds.nd (di_range1x (by rfl) M.m_range (da_consx (de_liftx (de_var (pv 1))) da_nilx)) (blkOk_by (by kernel_rfl)) (by decide) (fun _ _ _ _ _ => (dg_name (pg_name (i := 6) sc__law_holds.nd rfl (Or.inl rfl)))) (fun _ _ _ _ _ => dts_nilx) (fun _ _ _ _ _ => (dv_binx od_sub (de_callWx c__law_next (hr.mono (by decide)) (by rfl) (da_consx (de_liftx (de_var (pv 0))) (da_consx (de_liftx de_int) da_nilx))).b (db_liftx (de_int).b)).dex)).dex.b dab_nilx)).dex.vx)
    (dss_consx (ds_liftx (ds_set (i := 3) sc__law_holds.nd rfl (Or.inl rfl) (dv_callB (cd_sum rfl) (by rfl) M.m_sum boot'_sum (dab_cons (db_var (pv 2)) dab_nil)).de.v))
    (dss_consx (ds_liftx (ds_set (i := 4) sc__law_holds.nd rfl (Or.inl rfl) (de_int).v))
    (dss_consx (ds_liftx (ds_set (i := 5) sc__law_holds.nd rfl (Or.inl rfl) (dv_lst da_nil)))
    (dss_consx (ds_liftx (ds_for PassesOwn.never rfl (di_range1 (by rfl) M.m_range (da_cons (de_var (pv 1)) da_nil)) (dg_name (pg_name (i := 6) sc__law_holds.nd rfl (Or.inl rfl))) (dss_cons (ds_par2 (i := 7) (j := 8) rfl sc__law_holds.nd rfl rfl (by decide) rfl rfl (dc_cons (dv_bin od_add (dv_sl (db_var (pv 2)) (do_some (de_var (pv 6))) do_none).de.b (dv_sl (db_var (pv 2)) do_none (do_some (de_var (pv 6)))).de.b).de.v (dc_cons (dv_lst (da_cons de_int da_nil)) dc_nil)) (by rfl))
    (dss_cons (ds_for PassesOwn.never rfl (di_seq (de_var (pv 7))) (dg_name (pg_name (i := 9) sc__law_holds.nd rfl (Or.inl rfl))) (dss_one (ds_append (pv 8) (dv_bin od_add (de_ix (db_var (pv 8)) (de_un un_neg' de_int)).b (db_var (pv 9))).de)))
    (dss_one (ds_if (dt_cmp od_ge (dv_callB (cd_min' hr.units rfl) (by rfl) M.m_min boot'_min (dab_cons (db_var (pv 8)) dab_nil)).de.b (de_int).b (nomark _)) (dss_one (ds_append (pv 5) (de_var (pv 6)))) dss_nil))))))
    (dss_consx (ds_liftx (ds_if (dw_or (dt_cmp (od_ne hr.units) (de_call c_good_starts (hr.mono (by decide)) (by rfl) (da_cons (de_var (pv 4)) (da_cons de_int (da_cons (de_var (pv 2)) da_nil)))).b (dv_callTy cd_tuple (by rfl) M.m_tuple boot'_tuple (dab_cons (db_var (pv 5)) dab_nil)).de.b (nomark _)) (dw_or1 (dt_cmp (od_ne hr.units) (dv_cmp (od_ne hr.units) (db_var (pv 5)) (dv_lst da_nil).de.b (nomark _)).de.b (dv_cmp od_ge (db_var (pv 3)) (de_int).b (nomark _)).de.b (nomark _)))).t (dss_one (ds_ret de_bl)) dss_nil))
    (dss_consx (ds_setx (i := 10) sc__law_holds.nd rfl (Or.inr rfl) (de_callWx c__law_next (hr.mono (by decide)) (by rfl) (da_consx (de_liftx (de_var (pv 0))) (da_consx (de_liftx de_int) da_nilx))).vx)
    (dss_consx (ds_liftx (ds_set (i := 11) sc__law_holds.nd rfl (Or.inr rfl) (dv_lst (da_cons (de_var (pv 10)) da_nil))))
    (dss_consx (ds_liftx (ds_for PassesOwn.never rfl (di_seq (de_var (pv 2))) (dg_name (pg_name (i := 9) sc__law_holds.nd rfl (Or.inl rfl))) (dss_one (ds_append (pv 11) (dv_bin od_add (de_ix (db_var (pv 11)) (de_un un_neg' de_int)).b (db_var (pv 9))).de))))
    (dss_consx (ds_liftx (ds_if (dt_cmp (od_ne hr.units) (de_call c_loads (hr.mono (by decide)) (by rfl) (da_cons (de_var (pv 10)) (da_cons (de_var (pv 2)) da_nil))).b (dv_callTy cd_tuple (by rfl) M.m_tuple boot'_tuple (dab_cons (db_var (pv 11)) dab_nil)).de.b (nomark _)) (dss_one (ds_ret de_bl)) dss_nil))
    (dss_consx (ds_setx (i := 12) sc__law_holds.nd rfl (Or.inr rfl) (de_callWx c__law_next (hr.mono (by decide)) (by rfl) (da_consx (de_liftx (de_var (pv 0))) (da_consx (de_liftx de_int) da_nilx))).vx)
    (dss_consx (ds_liftx (ds_setLc (own := [("k", 6)]) (i := 13) rfl sc__law_holds.nd rfl rfl (sw_true rfl rfl rfl (by decide +kernel)) (di_range1 (by rfl) M.m_range (da_cons (dv_bin od_add (db_var (pv 1)) (de_int).b).de da_nil)) (blkOk_by (by kernel_rfl)) (by decide) (fun _ _ _ _ _ => (dg_name (pg_name (i := 6) sc__law_holds.nd rfl (Or.inl rfl)))) (fun _ _ _ _ _ => (dts_one (dt_not (dt_chain (od_le) (od_le) (de_int).b (de_ix (db_var (pv 11)) (de_var (pv 6))).b (db_var (pv 12)))))) (fun _ _ _ _ _ => (de_var (pv 6)))))
    (dss_consx (ds_liftx (ds_if (dw_or (dt_cmp (od_ne hr.units) (de_call c_can_go (hr.mono (by decide)) (by rfl) (da_cons (de_var (pv 12)) (da_cons (de_var (pv 10)) (da_cons (de_var (pv 2)) da_nil)))).b (dv_cmp (od_eq hr.units) (db_var (pv 13)) (dv_lst da_nil).de.b (nomark _)).de.b (nomark _)) (dw_or1 (dt_cmp (od_ne hr.units) (de_call c_first_bad (hr.mono (by decide)) (by rfl) (da_cons (de_var (pv 12)) (da_cons (de_var (pv 10)) (da_cons (de_var (pv 2)) da_nil)))).b (de_ifExp (dt_cmp (od_ne hr.units) (db_var (pv 13)) (dv_lst da_nil).de.b (nomark _)) (de_ix (db_var (pv 13)) de_int) de_non).b (nomark _)))).t (dss_one (ds_ret de_bl)) dss_nil))
    (dss_consx (ds_liftx (ds_setLc (own := [("own", 9)]) (i := 14) rfl sc__law_holds.nd rfl rfl (sw_true rfl rfl rfl (by decide +kernel)) (dib_seq (db_var (pv 11))) (blkOk_by (by kernel_rfl)) (by decide) (fun _ _ _ _ _ => (dg_name (pg_name (i := 9) sc__law_holds.nd rfl (Or.inl rfl)))) (fun _ _ _ _ _ => dts_nil) (fun _ _ _ _ _ => (dv_bin od_sub (db_var (pv 9)) (db_var (pv 10))).de)))
    (dss_consx (ds_liftx (ds_if (dw_or (dt_cmp (od_ne hr.units) (de_call c_least_begin (hr.mono (by decide)) (by rfl) (da_cons (de_var (pv 2)) da_nil)).b (dv_bin od_sub (de_int).b (dv_callB (cd_min' hr.units rfl) (by rfl) M.m_min boot'_min (dab_cons (db_var (pv 14)) dab_nil)).de.b).de.b (nomark _)) (dw_or1 (dt_cmp (od_ne hr.units) (de_call c_least_room (hr.mono (by decide)) (by rfl) (da_cons (de_var (pv 2)) da_nil)).b (dv_bin od_sub (dv_callB (cd_max' hr.units rfl) (by rfl) M.m_max boot'_max (dab_cons (db_var (pv 14)) dab_nil)).de.b (dv_callB (cd_min' hr.units rfl) (by rfl) M.m_min boot'_min (dab_cons (db_var (pv 14)) dab_nil)).de.b).de.b (nomark _)))).t (dss_one (ds_ret de_bl)) dss_nil))
    (dss_consx (ds_liftx (ds_set (i := 15) sc__law_holds.nd rfl (Or.inl rfl) (dv_bin od_sub (dv_callB (cd_max' hr.units rfl) (by rfl) M.m_max boot'_max (dab_cons (db_var (pv 14)) dab_nil)).de.b (dv_callB (cd_min' hr.units rfl) (by rfl) M.m_min boot'_min (dab_cons (db_var (pv 14)) dab_nil)).de.b).de.v))
    (dss_consx (ds_liftx (ds_if (dt_cmp (od_ne hr.units) (de_call c_begins_for (hr.mono (by decide)) (by rfl) (da_cons (de_var (pv 12)) (da_cons (de_var (pv 2)) da_nil))).b (de_ifExp (dt_cmp (od_le) (db_var (pv 15)) (db_var (pv 12)) (nomark _)) (de_tup (da_cons (dv_bin od_sub (de_int).b (dv_callB (cd_min' hr.units rfl) (by rfl) M.m_min boot'_min (dab_cons (db_var (pv 14)) dab_nil)).de.b).de (da_cons (dv_bin od_sub (db_var (pv 12)) (dv_callB (cd_max' hr.units rfl) (by rfl) M.m_max boot'_max (dab_cons (db_var (pv 14)) dab_nil)).de.b).de da_nil))) de_non).b (nomark _)) (dss_one (ds_ret de_bl)) dss_nil))
    (dss_consx (ds_liftx (ds_asg (de_call c_best_start (hr.mono (by decide)) (by rfl) (da_cons (de_var (pv 2)) da_nil)) (dg_tup rfl (dgs_cons (dg_name (pg_name (i := 16) sc__law_holds.nd rfl (Or.inl rfl))) (dgs_cons (dg_name (pg_name (i := 17) sc__law_holds.nd rfl (Or.inl rfl))) dgs_nil)))))
    (dss_consx (ds_liftx (ds_set (i := 18) sc__law_holds.nd rfl (Or.inl rfl) (de_and (dv_cmp (od_eq hr.units) (db_var (pv 17)) (de_call c_least_begin (hr.mono (by decide)) (by rfl) (da_cons (de_call c_round_from (hr.mono (by decide)) (by rfl) (da_cons (de_var (pv 2)) (da_cons (de_var (pv 16)) da_nil))) da_nil)).b (nomark _)).de (de_one (dv_cmp (od_eq hr.units) (db_var (pv 17)) (dv_callB (cd_min' hr.units rfl) (by rfl) M.m_min boot'_min (dab_cons (dv_lc (own := [("k", 6)]) rfl sc__law_holds.nd (di_range1 (by rfl) M.m_range (da_cons (de_var (pv 1)) da_nil)) (blkOk_by (by kernel_rfl)) (by decide) (fun _ _ _ _ _ => (dg_name (pg_name (i := 6) sc__law_holds.nd rfl (Or.inl rfl)))) (fun _ _ _ _ _ => dts_nil) (fun _ _ _ _ _ => (de_call c_least_begin (hr.mono (by decide)) (by rfl) (da_cons (de_call c_round_from (hr.mono (by decide)) (by rfl) (da_cons (de_var (pv 2)) (da_cons (de_var (pv 6)) da_nil))) da_nil)))).de.b dab_nil)).de.b (nomark _)).de)).v))
    (dss_onex (ds_liftx (ds_ret (de_and (de_var (pv 18)) (de_one (dv_cmp (od_eq hr.units) (de_call c_round_from (hr.mono (by decide)) (by rfl) (da_cons (de_var (pv 2)) (da_cons (de_var (pv 16)) da_nil))).b (dv_bin od_add (dv_sl (db_var (pv 2)) (do_some (de_var (pv 16))) do_none).de.b (dv_sl (db_var (pv 2)) do_none (do_some (de_var (pv 16)))).de.b).de.b (nomark _)).de)))))))))))))))))))))))))

set_option maxHeartbeats 4000000
/-! ### sums on the way -/
def run : Int → List Int → List Int
  | z, [] => [z]
  | z, c :: cs => z :: run (z + c) cs
theorem run_len : ∀ (cs : List Int) (z : Int), (run z cs).length = cs.length + 1
  | [], _ => rfl
  | c :: cs, z => by rw [run, List.length_cons, run_len cs, List.length_cons]
theorem run_cons : ∀ (cs : List Int) (z : Int), ∃ t, run z cs = z :: t
  | [], z => ⟨[], rfl⟩
  | c :: cs, z => ⟨_, rfl⟩
abbrev apL (i j : Nat) : RS Unit := rAppend' i (rDe (rBin gAdd (rIx' (rVarB _ i) (rUn negI (rC _ (.int 1)))) (rVarB _ j)))
theorem last_ix (l : List D) (z : D) : gIx (.lst (l ++ [z])) (.int (negI 1)) = some z := by
  show getI (l ++ [z]) (Int.negSucc 0) = some z
  unfold getI
  simp
theorem apL_ok {i j : Nat} {env : DL.Env} {l : List D} {z c : Int} (hi : env[i]? = some (.ow (.lst (l ++ [.int z])))) (hj : env[j]? = some (.sh (.int c))) (hl : l.length + 1 < 1000) :
    apL i j env () = some (.nx (env.set i (.ow (.lst (l ++ [.int z] ++ [.int (z + c)])))) ()) := by
  have e1 : rVarB Unit i env () = some (.lst (l ++ [.int z]), ()) := by unfold rVarB; rw [hi]
  have e2 : rVarB Unit j env () = some (.int c, ()) := by unfold rVarB; rw [hj]
  have e3 : rDe (rBin gAdd (rIx' (rVarB Unit i) (rUn negI (rC Unit (.int 1)))) (rVarB Unit j)) env () = some (.int (z + c), ()) := de_sh (bin_eq (ix_eq e1 rfl (last_ix l (.int z))) e2 rfl)
  have hm := most_1000
  unfold apL rAppend'
  rw [e3]
  simp only [hi]
  rw [if_pos (by rw [List.length_append, List.length_singleton]; omega)]
theorem ap_loop (i j : Nat) (hij : i ≠ j) : ∀ (cs : List Int) (acc : List D) (z : Int) (env : DL.Env), acc.length + cs.length + 1 < 1000 → env[i]? = some (.ow (.lst (acc ++ [.int z]))) → j < env.length →
    ∃ cj, loopL (gdName j) (apL i j) (iL cs) env () = some (.nx ((env.set j cj).set i (.ow (.lst (acc ++ iL (run z cs))))) ())
  | [], acc, z, env, _, hi, hj => by
    obtain ⟨h1, h2⟩ := List.getElem?_eq_some_iff.mp hi
    refine ⟨env[j], ?_⟩
    show some (Out.nx env ()) = some (Out.nx ((env.set j env[j]).set i (.ow (.lst (acc ++ [.int z])))) ())
    rw [List.set_getElem_self, ← h2, List.set_getElem_self]
  | c :: cs, acc, z, env, hl, hi, hj => by
    have hi1 : (env.set j (.sh (.int c)))[i]? = some (.ow (.lst (acc ++ [.int z]))) := by rw [List.getElem?_set_ne (Ne.symm hij)]; exact hi
    have hj1 : (env.set j (.sh (.int c)))[j]? = some (.sh (.int c)) := by rw [List.getElem?_set_self hj]
    have hil := (List.getElem?_eq_some_iff.mp hi).1
    have e1 := apL_ok hi1 hj1 (by simp at hl; omega)
    obtain ⟨cj, e2⟩ := ap_loop i j hij cs (acc ++ [.int z]) (z + c) ((env.set j (.sh (.int c))).set i (.ow (.lst (acc ++ [.int z] ++ [.int (z + c)])))) (by simp at hl ⊢; omega) (by rw [List.getElem?_set_self (by rw [List.length_set]; exact hil)]) (by rw [List.length_set, List.length_set]; exact hj)
    refine ⟨cj, ?_⟩
    show loopL (gdName j) (apL i j) (.int c :: iL cs) env () = _
    rw [loop_cons (e1 := env.set j (.sh (.int c))) rfl e1, e2]
    rw [List.set_comm _ _ hij, List.set_set, List.set_set]
    rw [run, List.append_assoc]
    rfl
theorem loads_ok (b : Int) (cs : List Int) (h : cs.length ≤ 100) : r_loads [.int b, .tup (iL cs)] = some (.tup (iL (run b cs))) := by
  have hm := most_1000
  have h1 : 1 ≤ most := by omega
  have e0 : ((rSet 2 (rLst (rCons (rVar _ 0) (rNil _)))) : RS Unit) (DL.envOf 4 [.int b, .tup (iL cs)]) () = some (.nx [.sh (.int b), .sh (.tup (iL cs)), .ow (.lst [.int b]), .no] ()) := by
    simp [rSet, rLst, rCons, rNil, rVar, DL.envOf, h1]
  obtain ⟨cj, e1⟩ := ap_loop 2 3 (by decide) cs [] b [.sh (.int b), .sh (.tup (iL cs)), .ow (.lst [.int b]), .no] (by simp; omega) rfl (by simp)
  have e2 : ((rFor (rItems (rVar _ 1)) (gdName 3) (rAppend' 2 (rDe (rBin gAdd (rIx' (rVarB _ 2) (rUn negI (rC _ (.int 1)))) (rVarB _ 3))))) : RS Unit) [.sh (.int b), .sh (.tup (iL cs)), .ow (.lst [.int b]), .no] () = _ := (for_go (g := gdName 3) (b := apL 2 3) (ri := rItems (rVar Unit 1)) rfl).trans e1
  refine run_rt rfl ((seq_nx e0).trans ((seq_nx e2).trans ?_))
  exact ret_eq (de_sh (cb_eq (one_eq rfl) rfl))
theorem slice_to (cs : List Int) (k : Nat) (h : k ≤ cs.length) : DL.cutD (iL cs) none (some (k : Int)) = iL (cs.take k) := by
  unfold DL.cutD
  rw [HT.sIx_none, HT.sIx_nat, List.length_map, Nat.min_eq_left h, List.drop_zero, Nat.sub_zero, ← List.map_take]
theorem slice_from (cs : List Int) (k : Nat) (h : k ≤ cs.length) : DL.cutD (iL cs) (some (k : Int)) none = iL (cs.drop k) := by
  unfold DL.cutD
  rw [HT.sIx_none, HT.sIx_nat, List.length_map, Nat.min_eq_left h, ← List.map_drop, List.take_of_length_le (by rw [List.length_map, List.length_drop]; exact Nat.le_refl _)]
def rot (cs : List Int) (k : Nat) : List Int := cs.drop k ++ cs.take k
theorem rot_len (cs : List Int) (k : Nat) (h : k ≤ cs.length) : (rot cs k).length = cs.length := by
  unfold rot
  rw [List.length_append, List.length_drop, List.length_take]; omega
/-- changes[k:] + changes[:k] -/
abbrev cutE (i j : Nat) : RE Unit := rDe (rBin gAdd (rDe (rSl (rVarB _ i) (rOSome (rVar _ j)) (rONone _))) (rDe (rSl (rVarB _ i) (rONone _) (rOSome (rVar _ j)))))
theorem cut_ok {i j : Nat} {env : DL.Env} {cs : List Int} {k : Nat} (hi : env[i]? = some (.sh (.tup (iL cs)))) (hj : env[j]? = some (.sh (.int k))) (hk : k ≤ cs.length) (hl : cs.length ≤ 100) : cutE i j env () = some (.tup (iL (rot cs k)), ()) := by
  have hm := most_1000
  have e1 : rVarB Unit i env () = some (.tup (iL cs), ()) := by unfold rVarB; rw [hi]
  have e2 : rOSome (rVar Unit j) env () = some (some (k : Int), ()) := by unfold rOSome rVar; rw [hj]
  have e3 : rDe (rSl (rVarB Unit i) (rOSome (rVar Unit j)) (rONone Unit)) env () = some (.tup (iL (cs.drop k)), ()) := by
    unfold rDe rSl
    rw [e1]
    simp only [e2, rONone, gSl, slice_from cs k hk]
  have e4 : rDe (rSl (rVarB Unit i) (rONone Unit) (rOSome (rVar Unit j))) env () = some (.tup (iL (cs.take k)), ()) := by
    unfold rDe rSl
    rw [e1]
    simp only [e2, rONone, gSl, slice_to cs k hk]
  refine de_sh (bin_eq e3 e4 ?_)
  show (if (iL (cs.drop k)).length + (iL (cs.take k)).length ≤ most then some (Cell.sh (.tup (iL (cs.drop k) ++ iL (cs.take k)))) else none) = _
  rw [if_pos (by rw [List.length_map, List.length_map, List.length_drop, List.length_take]; omega), ← List.map_append]
  rfl
theorem round_ok (cs : List Int) (k : Nat) (hk : k ≤ cs.length) (hl : cs.length ≤ 100) : r_round_from [.tup (iL cs), .int k] = some (.tup (iL (rot cs k))) :=
  run_rt rfl (ret_eq (cut_ok (i := 0) (j := 1) rfl rfl hk hl))
def within (room x : Int) : Bool := match leI 0 x with
  | true => leI x room
  | false => false
theorem can_ok (room b : Int) (cs : List Int) (hl : cs.length ≤ 100) : r_can_go [.int room, .int b, .tup (iL cs)] = some (.bl ((run b cs).all (within room))) := by
  refine run_rt rfl (ret_eq (de_sh (cb_eq (one_eq (de_ow (rlc_map (c := D.int) (xs := run b cs) (fun x => .bl (within room x)) ?_ ?_ fun x hx => ⟨_, rfl, ?_⟩))) ?_)))
  · unfold rItems
    rw [call_eq (ds := [.int b, .tup (iL cs)]) rfl (loads_ok b cs hl)]
  · rw [run_len]; omega
  · unfold within
    cases h : leI 0 x <;> simp [rDe, rChain, rC, rVarB, gLe, gI, h, wipeE, DL.envOf]
  · exact gAll_map _ _
theorem run_ne (b : Int) (cs : List Int) : ∃ t, run b cs = b :: t := run_cons cs b
def lo (cs : List Int) : Int := minI 0 (run 0 cs).tail
def hi (cs : List Int) : Int := maxI 0 (run 0 cs).tail
theorem run_tail (b : Int) (cs : List Int) : run b cs = b :: (run b cs).tail := by
  obtain ⟨t, e⟩ := run_cons cs b
  rw [e]; rfl
theorem begin_ok (cs : List Int) (hl : cs.length ≤ 100) : r_least_begin [.tup (iL cs)] = some (.int (0 - lo cs)) := by
  refine run_rt rfl (ret_eq (de_sh (cb_eq (one_eq (de_ow (rlc_map (c := D.int) (xs := run 0 cs) (fun x => .int (0 - x)) ?_ ?_ fun x hx => ⟨_, rfl, rfl⟩))) ?_)))
  · unfold rItems
    rw [call_eq (ds := [.int 0, .tup (iL cs)]) rfl (loads_ok 0 cs hl)]
  · rw [run_len]; omega
  · unfold lo
    rw [← max_neg]
    have e : (run 0 cs).map (fun x => D.int (0 - x)) = iL ((0 - 0) :: (run 0 cs).tail.map fun x => 0 - x) := by
      conv => lhs; rw [run_tail 0 cs]
      rw [List.map_cons, iL, List.map_cons, List.map_map]; rfl
    rw [e]
    exact gMax_ints _ _
theorem room_ok (cs : List Int) (hl : cs.length ≤ 100) : r_least_room [.tup (iL cs)] = some (.int (hi cs - lo cs)) := by
  refine run_rt rfl ((seq_nx (set_sh (call_eq (ds := [.int 0, .tup (iL cs)]) rfl (loads_ok 0 cs hl)))).trans (ret_eq (de_sh (bin_eq (d := .int (hi cs)) (d' := .int (lo cs)) (de_sh (cb_eq (one_eq rfl) ?_)) (de_sh (cb_eq (one_eq rfl) ?_)) rfl))))
  · rw [run_tail]; exact gMax_intsT _ _
  · rw [run_tail]; exact gMin_intsT _ _
def begins (tight : Int) (cs : List Int) : D := if leI (0 - lo cs) (tight - hi cs) then .tup [.int (0 - lo cs), .int (tight - hi cs)] else .non
theorem begins_ok (tight : Int) (cs : List Int) (hl : cs.length ≤ 100) : r_begins_for [.int tight, .tup (iL cs)] = some (begins tight cs) := by
  have hm := most_1000
  have h2 : 2 ≤ most := by omega
  have e1 : ((rPar [2, 3] (rCCons (rSh (rCall r_least_begin (rCons (rVar _ 1) (rNil _)))) (rCCons (rSh (rDe (rBin (gI pSub) (rVarB _ 0) (rDe (rCB gMax' (rCons (rCall r_loads (rCons (rC _ (.int 0)) (rCons (rVar _ 1) (rNil _)))) (rNil _))))))) (rCNil _)))) : RS Unit) (DL.envOf 4 [.int tight, .tup (iL cs)]) () = some (.nx [.sh (.int tight), .sh (.tup (iL cs)), .sh (.int (0 - lo cs)), .sh (.int (tight - hi cs))] ()) := by
    have a1 : rCall r_least_begin (rCons (rVar Unit 1) (rNil Unit)) (DL.envOf 4 [.int tight, .tup (iL cs)]) () = some (.int (0 - lo cs), ()) := call_eq (ds := [.tup (iL cs)]) rfl (begin_ok cs hl)
    have a2 : rDe (rBin (gI pSub) (rVarB Unit 0) (rDe (rCB gMax' (rCons (rCall r_loads (rCons (rC Unit (.int 0)) (rCons (rVar Unit 1) (rNil Unit)))) (rNil Unit))))) (DL.envOf 4 [.int tight, .tup (iL cs)]) () = some (.int (tight - hi cs), ()) := by
      refine de_sh (bin_eq (d := .int tight) (d' := .int (hi cs)) rfl (de_sh (cb_eq (one_eq (call_eq (ds := [.int 0, .tup (iL cs)]) rfl (loads_ok 0 cs hl))) ?_)) rfl)
      rw [run_tail]; exact gMax_intsT _ _
    unfold rPar rCCons
    rw [sh_eq a1]
    simp only [rCCons, rCNil, sh_eq a2]
    rfl
  unfold begins
  refine run_rt rfl ((seq_nx e1).trans (ret_eq ?_))
  cases h : leI (0 - lo cs) (tight - hi cs) with
  | true =>
    rw [if_te (by exact truth_eq (by rw [bin_eq rfl rfl (show gLe (.int (0 - lo cs)) (.int (tight - hi cs)) = some (.sh (.bl (leI (0 - lo cs) (tight - hi cs)))) from rfl), h]))]
    simp [rTup, rCons, rNil, rVar, h2]
  | false =>
    rw [if_fe (by exact truth_eq (by rw [bin_eq rfl rfl (show gLe (.int (0 - lo cs)) (.int (tight - hi cs)) = some (.sh (.bl (leI (0 - lo cs) (tight - hi cs)))) from rfl), h]))]
    rfl
theorem starts_ok (room b : Int) (cs : List Int) (hl : cs.length ≤ 100) : r_good_starts [.int room, .int b, .tup (iL cs)] = some (.tup (((List.range cs.length).filter fun k => (run b (rot cs k)).all (within room)).map fun (k : Nat) => D.int k)) := by
  refine run_rt rfl (ret_eq (de_sh (cb_eq (one_eq (de_ow (rlc_run (c := fun (k : Nat) => D.int k) (xs := List.range cs.length) (fun k => (run b (rot cs k)).all (within room)) (fun (k : Nat) => .int k) ?_ ?_ fun k hk => ⟨_, rfl, ?_, fun _ => rfl⟩))) rfl)))
  · refine range1_eq (one_eq (de_sh (cb_eq (one_eq rfl) ?_))) (by omega)
    show some (Cell.sh (.int ((iL cs).length : Int))) = _
    rw [List.length_map]
  · rw [List.length_range]; omega
  · have hk' := List.mem_range.mp hk
    refine truth_eq (sh_eq (call_eq (ds := [.int room, .int b, .tup (iL (rot cs k))]) ?_ (can_ok room b (rot cs k) (by rw [rot_len cs k (by omega)]; exact hl))))
    exact cons_eq rfl (cons_eq rfl (one_eq (call_eq (ds := [.tup (iL cs), .int k]) rfl (round_ok cs k (by omega) hl))))
/-! ### the first that is not within, the best place to begin -/
def bads (room : Int) (l : List Int) : List Nat := (List.range l.length).filter fun k => !within room (l.getD k 0)
def firstD : List Nat → D
  | [] => .non
  | k :: _ => .int k
theorem chain_within {ra rb rc : RE Unit} {env : DL.Env} {x room : Int} (h1 : ra env () = some (.int 0, ())) (h2 : rb env () = some (.int x, ())) (h3 : rc env () = some (.int room, ())) : rChain gLe gLe ra rb rc env () = some (.sh (.bl (within room x)), ()) := by
  unfold rChain within
  rw [h1]
  simp only [h2, gI]
  cases h : leI 0 x with
  | true =>
    simp only [h3, Option.map_some]
    rfl
  | false => rfl
theorem not_eq {c : RB Unit} {env : DL.Env} {b : Bool} (h : c env () = some (b, ())) : rNot c env () = some (!b, ()) := by
  unfold rNot
  rw [h]
theorem at_lst (l : List Int) (k : Nat) (h : k < l.length) : gIx (.lst (iL l)) (.int k) = some (.int (l.getD k 0)) := by
  show (iL l)[k]? = _
  rw [List.getElem?_map, List.getD_eq_getElem?_getD, List.getElem?_eq_getElem h]; rfl
theorem at_tup (l : List Int) (k : Nat) (h : k < l.length) : gIx (.tup (iL l)) (.int k) = some (.int (l.getD k 0)) := at_lst l k h
theorem ok_nats (l : List Nat) : (D.lst (l.map fun (k : Nat) => D.int k)).ok deep = true := by
  show (l.map fun (k : Nat) => D.int k).all (D.ok 19) = true
  exact List.all_eq_true.mpr fun d hd => by
    obtain ⟨i, _, rfl⟩ := List.mem_map.mp hd
    exact ok_int 19 i
theorem empty_map {α β : Type} (f : α → β) (l : List α) : (l.map f).isEmpty = l.isEmpty := by cases l <;> rfl
theorem first_if {i : Nat} {env : DL.Env} (ks : List Nat) (h : rVarB Unit i env () = some (.lst (ks.map fun (k : Nat) => D.int k), ())) :
    rIf (rTruth (rBin gNe (rVarB _ i) (rDe (rLst (rNil _))))) (rIx' (rVarB _ i) (rC _ (.int 0))) (rC _ .non) env () = some (firstD ks, ()) := by
  have e : rTruth (rBin gNe (rVarB _ i) (rDe (rLst (rNil _)))) env () = some (!ks.isEmpty, ()) := truth_eq (by
    rw [bin_eq h (d' := .lst []) rfl (gNe_nil _ (ok_nats ks)), empty_map])
  cases ks with
  | nil => rw [if_fe e]; rfl
  | cons k ks => rw [if_te e]; exact ix_eq h rfl rfl
theorem bad_ok {ri : RA Unit} {r1 r3 : RE Unit} {vs : List Nat} {env : DL.Env} {l : List Int} {room : Int} {j : Nat} (hl : l.length ≤ 1000) (h1 : ri env () = some ((List.range l.length).map fun (k : Nat) => D.int k, ()))
    (hj : j < (wipeE env vs).length)
    (h2 : ∀ k, k < l.length → r1 ((wipeE env vs).set j (.sh (.int k))) () = some (.int (l.getD k 0), ())) (h3 : ∀ k, k < l.length → r3 ((wipeE env vs).set j (.sh (.int k))) () = some (.int room, ())) :
    rLc ri (gdName j) (rNot (rTruth (rChain gLe gLe (rC _ (.int 0)) r1 r3))) (rVar _ j) vs env () = some (.ow (.lst ((bads room l).map fun (k : Nat) => D.int k)), ()) := by
  refine rlc_run (c := fun (k : Nat) => D.int k) (xs := List.range l.length) (fun k => !within room (l.getD k 0)) (fun (k : Nat) => .int k) h1 (by rw [List.length_range]; exact hl) fun k hk => ?_
  have hk' := List.mem_range.mp hk
  refine ⟨_, rfl, not_eq (truth_eq (chain_within rfl (h2 k hk') (h3 k hk'))), fun _ => ?_⟩
  unfold rVar
  rw [List.getElem?_set_self hj]
theorem first_ok (room b : Int) (cs : List Int) (hl : cs.length ≤ 100) : r_first_bad [.int room, .int b, .tup (iL cs)] = some (firstD (bads room (run b cs))) := by
  have e1 : ((rSet 3 (rSh (rCall r_loads (rCons (rVar _ 1) (rCons (rVar _ 2) (rNil _)))))) : RS Unit) (DL.envOf 6 [.int room, .int b, .tup (iL cs)]) () = some (.nx [.sh (.int room), .sh (.int b), .sh (.tup (iL cs)), .sh (.tup (iL (run b cs))), .no, .no] ()) := set_sh (call_eq (ds := [.int b, .tup (iL cs)]) rfl (loads_ok b cs hl))
  have hr := run_len cs b
  have e2 : ((rSet 4 (rLc (rRange1 (rCons (rDe (rCB gLen (rCons (rVarB _ 3) (rNil _)))) (rNil _))) (gdName 5) (rNot (rTruth (rChain gLe gLe (rC _ (.int 0)) (rIx' (rVarB _ 3) (rVar _ 5)) (rVarB _ 0)))) (rVar _ 5) [5])) : RS Unit) [.sh (.int room), .sh (.int b), .sh (.tup (iL cs)), .sh (.tup (iL (run b cs))), .no, .no] () = some (.nx [.sh (.int room), .sh (.int b), .sh (.tup (iL cs)), .sh (.tup (iL (run b cs))), .ow (.lst ((bads room (run b cs)).map fun (k : Nat) => D.int k)), .no] ()) := by
    refine set_c (bad_ok (by omega) ?_ (by simp [wipeE]) (fun k hk => ix_eq rfl rfl (at_tup _ k hk)) fun k hk => rfl)
    refine range1_eq (one_eq (de_sh (cb_eq (one_eq rfl) ?_))) (by omega)
    show some (Cell.sh (.int ((iL (run b cs)).length : Int))) = _
    rw [List.length_map]
  exact run_rt rfl ((seq_nx e1).trans ((seq_nx e2).trans (ret_eq (first_if _ rfl))))
def pr (p : Int × Nat) : D := .tup [.int p.1, .int p.2]
def bestP : Int × Nat → List (Int × Nat) → Int × Nat
  | m, [] => m
  | m, d :: r => bestP (if decide (d.1 < m.1 ∨ (d.1 = m.1 ∧ (d.2 : Int) < m.2)) then d else m) r
theorem minF_pr : ∀ (l : List (Int × Nat)) (m : Int × Nat), minF (pr m) (l.map pr) = pr (bestP m l)
  | [], m => rfl
  | d :: l, m => by
    rw [List.map_cons, minF, bestP, ← minF_pr l]
    have e : ltF (pr d) (pr m) = decide (d.1 < m.1 ∨ (d.1 = m.1 ∧ (d.2 : Int) < m.2)) := by
      rw [ltF_eq]
      exact PySem.W.dataLt_ii d.1 d.2 m.1 m.2
    rw [e]
    congr 1
    split <;> rfl
theorem bestP_least : ∀ (l : List (Int × Nat)) (m : Int × Nat), bestP m l ∈ m :: l ∧ (bestP m l).1 ≤ m.1 ∧ ∀ d ∈ l, (bestP m l).1 ≤ d.1
  | [], m => ⟨List.mem_cons_self, Int.le_refl _, fun d h => by cases h⟩
  | d :: l, m => by
    obtain ⟨h1, h2, h3⟩ := bestP_least l (if decide (d.1 < m.1 ∨ (d.1 = m.1 ∧ (d.2 : Int) < m.2)) then d else m)
    rw [bestP]
    by_cases h : d.1 < m.1 ∨ (d.1 = m.1 ∧ (d.2 : Int) < m.2)
    · rw [if_pos (decide_eq_true h)] at h1 h2 h3 ⊢
      refine ⟨List.mem_cons_of_mem _ h1, by omega, fun x hx => ?_⟩
      rcases List.mem_cons.mp hx with rfl | hx
      · exact h2
      · exact h3 x hx
    · rw [if_neg (by rw [decide_eq_true_eq]; exact h)] at h1 h2 h3 ⊢
      refine ⟨?_, h2, fun x hx => ?_⟩
      · rcases List.mem_cons.mp h1 with e | e
        · rw [e]; exact List.mem_cons_self
        · exact List.mem_cons_of_mem _ (List.mem_cons_of_mem _ e)
      · rcases List.mem_cons.mp hx with rfl | hx
        · omega
        · exact h3 x hx
theorem mm_pr (l : List (Int × Nat)) : mmOk (l.map pr) = true := by
  have h1 : (l.map pr).all (D.ok deep) = true := List.all_eq_true.mpr fun d hd => by obtain ⟨p, _, rfl⟩ := List.mem_map.mp hd; rfl
  have h2 : ((l.map pr).all fun d => (l.map pr).all fun e => PySem.W.alike d.py e.py) = true := List.all_eq_true.mpr fun d hd => List.all_eq_true.mpr fun e he => by
    obtain ⟨p, _, rfl⟩ := List.mem_map.mp hd
    obtain ⟨q, _, rfl⟩ := List.mem_map.mp he
    show PySem.W.alike (.tuple [.int p.1, .int p.2]) (.tuple [.int q.1, .int q.2]) = true
    simp [PySem.W.alike, PySem.W.alikeAll]
  unfold mmOk alikeB
  rw [h1, h2, Bool.or_true, Bool.true_and, Bool.true_and]
  exact List.all_eq_true.mpr fun d hd => by obtain ⟨p, _, rfl⟩ := List.mem_map.mp hd; rfl
def lb (cs : List Int) (k : Nat) : Int := 0 - lo (rot cs k)
theorem gMin_pr (m : Int × Nat) (l : List (Int × Nat)) : gMin' [.lst ((m :: l).map pr)] = some (.sh (pr (bestP m l))) := by
  have h := mm_pr (m :: l)
  rw [List.map_cons] at h ⊢
  unfold gMin' gMm
  simp only [h, if_true]
  rw [minF_pr]
theorem pair_ok {r1 r2 : RE Unit} {env : DL.Env} {d d' : D} (h1 : r1 env () = some (d, ())) (h2 : r2 env () = some (d', ())) : rTup (rCons r1 (rCons r2 (rNil Unit))) env () = some (.tup [d, d'], ()) := by
  have hm := most_1000
  unfold rTup
  rw [cons_eq h1 (one_eq h2)]
  have : [d, d'].length ≤ most := by show 2 ≤ most; omega
  simp only [this, if_true]
theorem best_list (cs : List Int) (hl : cs.length ≤ 100) : rLc (rRange1 (rCons (rDe (rCB gLen (rCons (rVarB _ 0) (rNil _)))) (rNil _))) (gdName 1) (rYes _) (rTup (rCons (rCall r_least_begin (rCons (rCall r_round_from (rCons (rVar _ 0) (rCons (rVar _ 1) (rNil _)))) (rNil _))) (rCons (rVar _ 1) (rNil _)))) [1] (DL.envOf 2 [.tup (iL cs)]) ()
        = some (.ow (.lst ((List.range cs.length).map fun k => pr (lb cs k, k))), ()) := by
  refine rlc_map (c := fun (k : Nat) => D.int k) (xs := List.range cs.length) (fun k => pr (lb cs k, k)) ?_ (by rw [List.length_range]; omega) fun k hk => ⟨_, rfl, ?_⟩
  · refine range1_eq (one_eq (de_sh (cb_eq (one_eq rfl) ?_))) (by omega)
    show some (Cell.sh (.int ((iL cs).length : Int))) = _
    rw [List.length_map]
  · have hk' := List.mem_range.mp hk
    exact pair_ok (call_eq (one_eq (call_eq (ds := [.tup (iL cs), .int k]) rfl (round_ok cs k (by omega) hl))) (begin_ok (rot cs k) (by rw [rot_len cs k (by omega)]; exact hl))) rfl
def bestOf (cs : List Int) : Int × Nat := bestP (lb cs 0, 0) (((List.range (cs.length - 1)).map Nat.succ).map fun k => ((lb cs k, k) : Int × Nat))
theorem rev_pr {r : RE Unit} {env : DL.Env} {p : Int × Nat} (h : r env () = some (pr p, ())) : rRev r env () = some (.sh (.tup [.int p.2, .int p.1]), ()) := by
  unfold rRev
  rw [h]
  rfl
theorem best_pairs (cs : List Int) (f : Nat → Int × Nat) (n : Nat) (hn : cs.length = n + 1) : ((List.range cs.length).map fun k => pr (f k)) = (f 0 :: ((List.range (cs.length - 1)).map Nat.succ).map f).map pr := by
  rw [hn, List.range_succ_eq_map, Nat.add_sub_cancel, List.map_cons, List.map_cons, List.map_map, List.map_map, List.map_map]
  rfl
theorem best_run (cs : List Int) (hl : cs.length ≤ 100) (h1 : 1 ≤ cs.length) : r_best_start [.tup (iL cs)] = some (.tup [.int (bestOf cs).2, .int (bestOf cs).1]) := by
  have e1 := best_list cs hl
  rw [best_pairs cs (fun k => (lb cs k, k)) (cs.length - 1) (by omega)] at e1
  have e4 := gMin_pr (lb cs 0, 0) (((List.range (cs.length - 1)).map Nat.succ).map fun k => ((lb cs k, k) : Int × Nat))
  have e5 := rev_pr (de_sh (cb_eq (one_eq (de_ow e1)) e4))
  exact run_rt rfl (ret_eq (de_sh e5))
theorem best_ok (cs : List Int) (hl : cs.length ≤ 100) (h1 : 1 ≤ cs.length) : ∃ k : Nat, k < cs.length ∧ r_best_start [.tup (iL cs)] = some (.tup [.int k, .int (lb cs k)]) ∧ ∀ j, j < cs.length → lb cs k ≤ lb cs j := by
  obtain ⟨b1, b2, b3⟩ := bestP_least (((List.range (cs.length - 1)).map Nat.succ).map fun k => ((lb cs k, k) : Int × Nat)) (lb cs 0, 0)
  have b1 : bestOf cs ∈ _ := b1
  have b2 : (bestOf cs).1 ≤ _ := b2
  have hk : (bestOf cs).1 = lb cs (bestOf cs).2 ∧ (bestOf cs).2 < cs.length := by
    rcases List.mem_cons.mp b1 with e | e
    · rw [e]; exact ⟨rfl, h1⟩
    · obtain ⟨k, hk, he⟩ := List.mem_map.mp e
      obtain ⟨j, hj, rfl⟩ := List.mem_map.mp hk
      rw [← he]
      have := List.mem_range.mp hj
      exact ⟨rfl, by show j + 1 < _; omega⟩
  refine ⟨(bestOf cs).2, hk.2, ?_, fun j hj => ?_⟩
  · rw [← hk.1]; exact best_run cs hl h1
  · rw [← hk.1]
    cases j with
    | zero => exact b2
    | succ j => exact b3 (lb cs (j + 1), j + 1) (List.mem_map.mpr ⟨j + 1, List.mem_map.mpr ⟨j, List.mem_range.mpr (by omega), rfl⟩, rfl⟩)
/-! ### plain facts of sums on the way -/
theorem mem_run : ∀ {cs : List Int} {z x : Int}, x ∈ run z cs ↔ ∃ j, j ≤ cs.length ∧ x = z + (cs.take j).sum
  | [], z, x => by
    constructor
    · intro h
      rcases List.mem_cons.mp h with rfl | h
      · exact ⟨0, Nat.le_refl _, by simp⟩
      · cases h
    · rintro ⟨j, h1, h2⟩
      rw [h2]; simp [run]
  | c :: cs, z, x => by
    rw [run, List.mem_cons, mem_run (cs := cs)]
    constructor
    · rintro (rfl | ⟨j, h1, h2⟩)
      · exact ⟨0, Nat.zero_le _, by simp⟩
      · exact ⟨j + 1, by simpa using h1, by rw [List.take_succ_cons, List.sum_cons, h2]; omega⟩
    · rintro ⟨j, h1, h2⟩
      cases j with
      | zero => left; simpa using h2
      | succ j =>
        right
        refine ⟨j, by simpa using h1, ?_⟩
        rw [List.take_succ_cons, List.sum_cons] at h2
        omega
theorem lo_le {cs : List Int} {x : Int} (h : x ∈ run 0 cs) : lo cs ≤ x := by
  obtain ⟨h1, h2, h3⟩ := minI_spec (run 0 cs).tail 0
  rw [run_tail] at h
  rcases List.mem_cons.mp h with rfl | h
  · exact h2
  · exact h3 x h
theorem lo_mem (cs : List Int) : lo cs ∈ run 0 cs := by
  obtain ⟨h1, h2, h3⟩ := minI_spec (run 0 cs).tail 0
  rw [run_tail]
  rcases h1 with h1 | h1
  · exact List.mem_cons.mpr (.inl h1)
  · exact List.mem_cons_of_mem _ h1
theorem sum_take_le : ∀ (cs : List Int) (j : Nat), (∀ c ∈ cs, c ≤ 5) → (cs.take j).sum ≤ 5 * j
  | [], j, _ => by simp; omega
  | c :: cs, 0, _ => by simp
  | c :: cs, j + 1, h => by
    rw [List.take_succ_cons, List.sum_cons]
    have := sum_take_le cs j fun x hx => h x (List.mem_cons_of_mem _ hx)
    have := h c List.mem_cons_self
    omega
theorem rot_mem {cs : List Int} {k : Nat} {x : Int} (h : x ∈ rot cs k) : x ∈ cs := by
  unfold rot at h
  rcases List.mem_append.mp h with h | h
  · exact List.mem_of_mem_drop h
  · exact List.mem_of_mem_take h
def good (cs : List Int) (k : Nat) : Bool := leI 0 (lo (rot cs k))
theorem good_iff (cs : List Int) (k : Nat) : good cs k = true ↔ ∀ x ∈ run 0 (rot cs k), 0 ≤ x := by
  unfold good leI
  rw [decide_eq_true_eq]
  exact ⟨fun h x hx => Int.le_trans h (lo_le hx), fun h => h _ (lo_mem _)⟩
theorem good_within (cs : List Int) (k : Nat) (hk : k ≤ cs.length) (hl : cs.length ≤ 8) (h5 : ∀ c ∈ cs, c ≤ 5) : (run 0 (rot cs k)).all (within 100) = good cs k := by
  have hb : ∀ x ∈ run 0 (rot cs k), x ≤ 100 := fun x hx => by
    obtain ⟨j, h1, h2⟩ := mem_run.mp hx
    have := sum_take_le (rot cs k) j fun c hc => h5 c (rot_mem hc)
    rw [rot_len cs k hk] at h1
    omega
  rw [Bool.eq_iff_iff, good_iff, List.all_eq_true]
  constructor
  · intro h x hx
    have := h x hx
    unfold within leI at this
    split at this
    · next e => exact of_decide_eq_true e
    · cases this
  · intro h x hx
    have h1 := h x hx
    have h2 := hb x hx
    unfold within
    rw [show leI 0 x = true from decide_eq_true h1]
    exact decide_eq_true h2
theorem sum_split (cs : List Int) (j : Nat) : cs.sum = (cs.take j).sum + (cs.drop j).sum := by
  rw [← List.sum_append, List.take_append_drop]
theorem rot_sum (cs : List Int) (k : Nat) : (rot cs k).sum = cs.sum := by
  unfold rot
  rw [List.sum_append, sum_split cs k]; omega
/-- a place after which no sum is less than there -/
theorem least_place (f : Nat → Int) : ∀ n, ∃ k, k ≤ n ∧ ∀ j, j ≤ n → f k ≤ f j
  | 0 => ⟨0, Nat.le_refl _, fun j hj => by rw [show j = 0 by omega]; exact Int.le_refl _⟩
  | n + 1 => by
    obtain ⟨k, h1, h2⟩ := least_place f n
    by_cases h : f k ≤ f (n + 1)
    · refine ⟨k, by omega, fun j hj => ?_⟩
      by_cases e : j = n + 1
      · rw [e]; exact h
      · exact h2 j (by omega)
    · refine ⟨n + 1, Nat.le_refl _, fun j hj => ?_⟩
      by_cases e : j = n + 1
      · rw [e]; exact Int.le_refl _
      · have := h2 j (by omega); omega
theorem some_good (cs : List Int) (h1 : 1 ≤ cs.length) (h0 : 0 ≤ cs.sum) : ∃ k, k < cs.length ∧ good cs k = true := by
  obtain ⟨k, hk, hm⟩ := least_place (fun j => (cs.take j).sum) (cs.length - 1)
  refine ⟨k, by omega, (good_iff cs k).mpr fun x hx => ?_⟩
  obtain ⟨j, hj, rfl⟩ := mem_run.mp hx
  rw [rot_len cs k (by omega)] at hj
  have hz := hm 0 (by omega)
  simp only [List.take_zero, List.sum_nil] at hz
  have key : ∀ i, i ≤ cs.length → (cs.take k).sum ≤ (cs.take i).sum := fun i hi => by
    by_cases e : i = cs.length
    · rw [e, List.take_length]; omega
    · exact hm i (by omega)
  unfold rot
  rw [List.take_append, List.sum_append, List.length_drop]
  have e1 : ((cs.drop k).take j).sum = (cs.take (k + j)).sum - (cs.take k).sum := by
    have : cs.take (k + j) = cs.take k ++ (cs.drop k).take j := by rw [List.take_add]
    rw [this, List.sum_append]; omega
  rw [e1]
  by_cases hc : k + j ≤ cs.length
  · rw [show j - (cs.length - k) = 0 by omega]
    have := key (k + j) hc
    simp only [List.take_zero, List.sum_nil]
    omega
  · have e2 : cs.take (k + j) = cs := List.take_of_length_le (by omega)
    have e3 : (cs.take k).take (j - (cs.length - k)) = cs.take (j - (cs.length - k)) := by
      rw [List.take_take, Nat.min_eq_left (by omega)]
    rw [e2, e3]
    have := key (j - (cs.length - k)) (by omega)
    omega
theorem good_sum (cs : List Int) (k : Nat) (hk : k ≤ cs.length) (h : good cs k = true) : 0 ≤ cs.sum := by
  have := (good_iff cs k).mp h (0 + ((rot cs k).take (rot cs k).length).sum) (mem_run.mpr ⟨_, Nat.le_refl _, rfl⟩)
  rw [List.take_length, rot_sum] at this
  omega
theorem goods_whole (cs : List Int) (h1 : 1 ≤ cs.length) : (!((List.range cs.length).filter (good cs)).isEmpty) = leI 0 cs.sum := by
  rw [Bool.eq_iff_iff, Bool.not_eq_true', ← Bool.not_eq_true, List.isEmpty_iff]
  unfold leI
  rw [decide_eq_true_eq]
  constructor
  · intro h
    cases e : (List.range cs.length).filter (good cs) with
    | nil => exact absurd e h
    | cons k ks =>
      have hm : k ∈ (List.range cs.length).filter (good cs) := by rw [e]; exact List.mem_cons_self
      rw [List.mem_filter] at hm
      exact good_sum cs k (Nat.le_of_lt (List.mem_range.mp hm.1)) hm.2
  · intro h e
    obtain ⟨k, h2, h3⟩ := some_good cs h1 h
    have : k ∈ (List.range cs.length).filter (good cs) := List.mem_filter.mpr ⟨List.mem_range.mpr h2, h3⟩
    rw [e] at this
    cases this
theorem run_shift : ∀ (cs : List Int) (z b : Int), (run z cs).map (fun x => x - b) = run (z - b) cs
  | [], z, b => rfl
  | c :: cs, z, b => by
    rw [run, List.map_cons, run_shift cs, run]
    congr 2; omega
theorem all_bads (room : Int) (l : List Int) : l.all (within room) = (bads room l).isEmpty := by
  unfold bads
  rw [Bool.eq_iff_iff, List.all_eq_true, List.isEmpty_iff, List.filter_eq_nil_iff]
  constructor
  · intro h k hk
    have hk' := List.mem_range.mp hk
    rw [List.getD_eq_getElem?_getD, List.getElem?_eq_getElem hk', Option.getD_some, h _ (List.getElem_mem hk')]
    decide
  · intro h x hx
    obtain ⟨k, hk, rfl⟩ := List.mem_iff_getElem.mp hx
    have := h k (List.mem_range.mpr hk)
    rw [List.getD_eq_getElem?_getD, List.getElem?_eq_getElem hk, Option.getD_some] at this
    simpa using this
theorem min_lb (cs : List Int) (k : Nat) (hk : k < cs.length) (h : ∀ j, j < cs.length → lb cs k ≤ lb cs j) : ∃ t, (List.range cs.length).map (lb cs) = lb cs 0 :: t ∧ minI (lb cs 0) t = lb cs k := by
  obtain ⟨n, hn⟩ : ∃ n, cs.length = n + 1 := ⟨cs.length - 1, by omega⟩
  refine ⟨((List.range n).map Nat.succ).map (lb cs), by rw [hn, List.range_succ_eq_map]; rfl, ?_⟩
  obtain ⟨h1, h2, h3⟩ := minI_spec (((List.range n).map Nat.succ).map (lb cs)) (lb cs 0)
  have a : lb cs k ≤ minI (lb cs 0) (((List.range n).map Nat.succ).map (lb cs)) := by
    rcases h1 with e | e
    · rw [e]; exact h 0 (by omega)
    · obtain ⟨j, hj, e⟩ := List.mem_map.mp e
      obtain ⟨i, hi, rfl⟩ := List.mem_map.mp hj
      have := List.mem_range.mp hi
      rw [← e]; exact h (i + 1) (by omega)
  have b : minI (lb cs 0) (((List.range n).map Nat.succ).map (lb cs)) ≤ lb cs k := by
    cases k with
    | zero => exact h2
    | succ k => exact h3 _ (List.mem_map.mpr ⟨k + 1, List.mem_map.mpr ⟨k, List.mem_range.mpr (by omega), rfl⟩, rfl⟩)
  omega
/-! ### the steps of the check -/
theorem step {a b : XS} {r : List XS} {e e1 : DL.Env} (h : a e = .ret (.nx e1 ())) : xSeqL (a :: b :: r) e = xSeqL (b :: r) e1 := by
  show (a e).bind _ = _
  rw [h]
  rfl
theorem skip_ok {c : RB Unit} {a : RS Unit} {e : DL.Env} (h : c e () = some (false, ())) : rIfS c a (rSkip Unit) e () = some (.nx e ()) := (if_f h).trans rfl
theorem par2_ok {i j : Nat} {r1 r2 : RC Unit} {c1 c2 : Cell} {e : DL.Env} (h1 : r1 e () = some (c1, ())) (h2 : r2 e () = some (c2, ())) : rPar [i, j] (rCCons r1 (rCCons r2 (rCNil Unit))) e () = some (.nx ((e.set i c1).set j c2) ()) := by
  unfold rPar rCCons
  rw [h1]
  simp only [rCCons, h2, rCNil]
  rfl
theorem lst1 {r : RE Unit} {d : D} {e : DL.Env} (h : r e () = some (d, ())) : rLst (rCons r (rNil Unit)) e () = some (.ow (.lst [d]), ()) := by
  have hm := most_1000
  unfold rLst
  rw [one_eq h]
  simp only [List.length_singleton]
  rw [if_pos (by omega)]
theorem app_ok {i : Nat} {r : RE Unit} {d : D} {l : List D} {e : DL.Env} (h : r e () = some (d, ())) (hi : e[i]? = some (.ow (.lst l))) (hl : l.length < 1000) : rAppend' i r e () = some (.nx (e.set i (.ow (.lst (l ++ [d])))) ()) := by
  have hm := most_1000
  unfold rAppend'
  rw [h]
  simp only [hi]
  rw [if_pos (by omega)]
def nats (l : List Nat) : List D := l.map fun (k : Nat) => D.int k
theorem ok_tup_nats (l : List Nat) : (D.tup (nats l)).ok deep = true := ok_nats l
def sE (n wh : Int) (cs : List Int) (g : List Nat) (c6 c7 c8 c9 : Cell) : DL.Env := [.sh .wd, .sh (.int n), .sh (.tup (iL cs)), .sh (.int wh), .sh (.int 100), .ow (.lst (nats g)), c6, c7, c8, c9, .no, .no, .no, .no, .no, .no, .no, .no, .no]
def sBody : RS Unit := (rSeq (rPar [7, 8] (rCCons (rSh (rDe (rBin gAdd (rDe (rSl (rVarB _ 2) (rOSome (rVar _ 6)) (rONone _))) (rDe (rSl (rVarB _ 2) (rONone _) (rOSome (rVar _ 6))))))) (rCCons (rLst (rCons (rC _ (.int 0)) (rNil _))) (rCNil _))))
  (rSeq (rFor (rItems (rVar _ 7)) (gdName 9) (rAppend' 8 (rDe (rBin gAdd (rIx' (rVarB _ 8) (rUn negI (rC _ (.int 1)))) (rVarB _ 9)))))
  (rIfS (rTruth (rBin gGe (rDe (rCB gMin' (rCons (rVarB _ 8) (rNil _)))) (rC _ (.int 0)))) (rAppend' 5 (rVar _ 6)) (rSkip _))))
theorem s_body (n wh : Int) (cs : List Int) (g : List Nat) (k : Nat) (hk : k < cs.length) (hl : cs.length ≤ 100) (hg : g.length < 1000) (c7 c8 c9 : Cell) : ∃ c7' c8' c9',
    sBody (sE n wh cs g (.sh (.int k)) c7 c8 c9) () = some (.nx (sE n wh cs (if good cs k then g ++ [k] else g) (.sh (.int k)) c7' c8' c9') ()) := by
  have hr := rot_len cs k (by omega)
  have e1 : ((rPar [7, 8] (rCCons (rSh (rDe (rBin gAdd (rDe (rSl (rVarB _ 2) (rOSome (rVar _ 6)) (rONone _))) (rDe (rSl (rVarB _ 2) (rONone _) (rOSome (rVar _ 6))))))) (rCCons (rLst (rCons (rC _ (.int 0)) (rNil _))) (rCNil _)))) : RS Unit) (sE n wh cs g (.sh (.int k)) c7 c8 c9) () = some (.nx (sE n wh cs g (.sh (.int k)) (.sh (.tup (iL (rot cs k)))) (.ow (.lst [.int 0])) c9) ()) :=
    par2_ok (sh_eq (cut_ok (i := 2) (j := 6) rfl rfl (by omega) hl)) (lst1 rfl)
  obtain ⟨cj, e2⟩ := ap_loop 8 9 (by decide) (rot cs k) [] 0 (sE n wh cs g (.sh (.int k)) (.sh (.tup (iL (rot cs k)))) (.ow (.lst [.int 0])) c9) (by simp; omega) rfl (by simp [sE])
  have e3 : ((rFor (rItems (rVar _ 7)) (gdName 9) (rAppend' 8 (rDe (rBin gAdd (rIx' (rVarB _ 8) (rUn negI (rC _ (.int 1)))) (rVarB _ 9))))) : RS Unit) (sE n wh cs g (.sh (.int k)) (.sh (.tup (iL (rot cs k)))) (.ow (.lst [.int 0])) c9) () = some (.nx (sE n wh cs g (.sh (.int k)) (.sh (.tup (iL (rot cs k)))) (.ow (.lst (iL (run 0 (rot cs k))))) cj) ()) :=
    (for_go (g := gdName 9) (b := apL 8 9) (ri := rItems (rVar Unit 7)) rfl).trans e2
  refine ⟨.sh (.tup (iL (rot cs k))), .ow (.lst (iL (run 0 (rot cs k)))), cj, ?_⟩
  have e4 : ((rTruth (rBin gGe (rDe (rCB gMin' (rCons (rVarB _ 8) (rNil _)))) (rC _ (.int 0)))) : RB Unit) (sE n wh cs g (.sh (.int k)) (.sh (.tup (iL (rot cs k)))) (.ow (.lst (iL (run 0 (rot cs k))))) cj) () = some (good cs k, ()) := by
    refine truth_eq (bin_eq (d := .int (lo (rot cs k))) (d' := .int 0) (de_sh (cb_eq (one_eq rfl) ?_)) rfl rfl)
    rw [run_tail]; exact gMin_ints _ _
  show rSeq _ (rSeq _ (rIfS _ _ _)) _ () = _
  rw [seq_nx e1, seq_nx e3]
  cases hgd : good cs k with
  | true =>
    rw [hgd] at e4
    rw [if_t e4]
    refine (app_ok (d := .int k) (l := nats g) rfl rfl (by unfold nats; rw [List.length_map]; exact hg)).trans ?_
    unfold nats
    rw [if_pos rfl]
    unfold sE nats
    rw [List.map_append]
    rfl
  | false =>
    rw [hgd] at e4
    rw [if_f e4]
    rfl
theorem s_loop (n wh : Int) (cs : List Int) (hl : cs.length ≤ 100) : ∀ (ks g : List Nat) (c6 c7 c8 c9 : Cell), (∀ k ∈ ks, k < cs.length) → g.length + ks.length < 1000 →
    ∃ c6' c7' c8' c9', loopL (gdName 6) sBody (nats ks) (sE n wh cs g c6 c7 c8 c9) () = some (.nx (sE n wh cs (g ++ ks.filter (good cs)) c6' c7' c8' c9') ())
  | [], g, c6, c7, c8, c9, _, _ => ⟨c6, c7, c8, c9, by rw [List.filter_nil, List.append_nil]; rfl⟩
  | k :: ks, g, c6, c7, c8, c9, hk, hg => by
    simp only [List.length_cons] at hg
    obtain ⟨a7, a8, a9, e1⟩ := s_body n wh cs g k (hk k List.mem_cons_self) hl (by omega) c7 c8 c9
    obtain ⟨b6, b7, b8, b9, e2⟩ := s_loop n wh cs hl ks (if good cs k then g ++ [k] else g) (.sh (.int k)) a7 a8 a9 (fun j hj => hk j (List.mem_cons_of_mem _ hj)) (by split <;> (try rw [List.length_append, List.length_singleton]) <;> omega)
    refine ⟨b6, b7, b8, b9, ?_⟩
    show loopL (gdName 6) sBody (.int k :: nats ks) _ () = _
    rw [loop_cons (e1 := sE n wh cs g (.sh (.int k)) c7 c8 c9) rfl e1, e2, List.filter_cons]
    cases good cs k <;> simp
/-- the env from the first sums on -/
def tE (n wh : Int) (cs : List Int) (g : List Nat) (c6 c7 c8 c9 c10 c11 c12 c13 c14 c15 c16 c17 c18 : Cell) : DL.Env := [.sh .wd, .sh (.int n), .sh (.tup (iL cs)), .sh (.int wh), .sh (.int 100), .ow (.lst (nats g)), c6, c7, c8, c9, c10, c11, c12, c13, c14, c15, c16, c17, c18]
theorem nats_range (n : Nat) : (List.range n).map (fun (k : Nat) => D.int k) = nats (List.range n) := rfl
theorem ask_set {i : Nat} {m : Int} {e : DL.Env} {b : XS} {r : List XS} (hm : 0 < m) (h0 : e[0]? = some (.sh .wd)) : xSeqL (xSet i (xSh (xCallW x__law_next (xCons (xLift (rVar _ 0)) (xCons (xLift (rC _ (.int m))) xNil)))) :: b :: r) e = .ask m fun c => xSeqL (b :: r) (e.set i (.sh (.int c))) := by
  have h1 : ltI 0 m = true := decide_eq_true hm
  show (xSet i _ e).bind _ = _
  have e2 : xSet i (xSh (xCallW x__law_next (xCons (xLift (rVar _ 0)) (xCons (xLift (rC _ (.int m))) xNil)))) e = .ask m fun c => .ret (.nx (e.set i (.sh (.int c))) ()) := by
    simp [xSet, xSh, xCallW, xCons, xNil, xLift, rVar, rC, h0, x__law_next, h1, Tr.bind]
  rw [e2]
  rfl
theorem ne_bl (x y : Bool) (h : x = y) : gNe (.bl x) (.bl y) = some (.sh (.bl false)) := gNe_sh rfl (by rw [h])
theorem ok_firstD (l : List Nat) : (firstD l).ok deep = true := by cases l <;> rfl
theorem ok_begins (t : Int) (cs : List Int) : (begins t cs).ok deep = true := by unfold begins; split <;> rfl
theorem head_ok (cs : List Int) (h1 : 1 ≤ cs.length) (h8 : cs.length ≤ 8) (h5 : ∀ c ∈ cs, c ≤ 5) : ∃ c6 c7 c8 c9, ∀ b r, xSeqL (h_2 :: h_3 :: h_4 :: h_5 :: h_6 :: b :: r) [.sh .wd, .sh (.int cs.length), .sh (.tup (iL cs)), .no, .no, .no, .no, .no, .no, .no, .no, .no, .no, .no, .no, .no, .no, .no, .no]
    = xSeqL (b :: r) (sE cs.length cs.sum cs ((List.range cs.length).filter (good cs)) c6 c7 c8 c9) := by
  obtain ⟨c6, c7, c8, c9, e5⟩ := s_loop cs.length cs.sum cs (by omega) (List.range cs.length) [] .no .no .no .no (fun k hk => List.mem_range.mp hk) (by simp; omega)
  refine ⟨c6, c7, c8, c9, fun b r => ?_⟩
  have s2 : h_2 [.sh .wd, .sh (.int cs.length), .sh (.tup (iL cs)), .no, .no, .no, .no, .no, .no, .no, .no, .no, .no, .no, .no, .no, .no, .no, .no] = .ret (.nx [.sh .wd, .sh (.int cs.length), .sh (.tup (iL cs)), .sh (.int cs.sum), .no, .no, .no, .no, .no, .no, .no, .no, .no, .no, .no, .no, .no, .no, .no] ()) := by
    refine lift_nx (set_sh (de_sh (cb_eq (one_eq rfl) ?_)))
    show Option.map (fun ns => Cell.sh (.int (sumI ns))) (intsOf (iL cs)) = _
    rw [intsOf_ints, ← sumI_eq]; rfl
  have s3 : h_3 [.sh .wd, .sh (.int cs.length), .sh (.tup (iL cs)), .sh (.int cs.sum), .no, .no, .no, .no, .no, .no, .no, .no, .no, .no, .no, .no, .no, .no, .no] = .ret (.nx [.sh .wd, .sh (.int cs.length), .sh (.tup (iL cs)), .sh (.int cs.sum), .sh (.int 100), .no, .no, .no, .no, .no, .no, .no, .no, .no, .no, .no, .no, .no, .no] ()) := lift_nx (set_sh rfl)
  have s4 : h_4 [.sh .wd, .sh (.int cs.length), .sh (.tup (iL cs)), .sh (.int cs.sum), .sh (.int 100), .no, .no, .no, .no, .no, .no, .no, .no, .no, .no, .no, .no, .no, .no] = .ret (.nx (sE cs.length cs.sum cs [] .no .no .no .no) ()) := lift_nx (set_c (c := .ow (.lst [])) rfl)
  have s5 : h_5 (sE cs.length cs.sum cs [] .no .no .no .no) = .ret (.nx (sE cs.length cs.sum cs ((List.range cs.length).filter (good cs)) c6 c7 c8 c9) ()) :=
    lift_nx ((for_go (range1_eq (n := cs.length) (one_eq rfl) (by omega))).trans e5)
  have s6 : h_6 (sE cs.length cs.sum cs ((List.range cs.length).filter (good cs)) c6 c7 c8 c9) = .ret (.nx (sE cs.length cs.sum cs ((List.range cs.length).filter (good cs)) c6 c7 c8 c9) ()) := by
    refine lift_nx (skip_ok (or_ff (truth_eq (bin_eq (call_eq (ds := [.int 100, .int 0, .tup (iL cs)]) rfl (starts_ok 100 0 cs (by omega))) (d' := .tup (nats ((List.range cs.length).filter (good cs)))) (de_sh (cb_eq (one_eq rfl) rfl)) (gNe_sh (ok_nats _) ?_))) (truth_eq (bin_eq (d := .bl (!((List.range cs.length).filter (good cs)).isEmpty)) (d' := .bl (leI 0 cs.sum)) (de_sh (bin_eq (d := .lst (nats ((List.range cs.length).filter (good cs)))) (d' := .lst []) rfl rfl ?_)) rfl (ne_bl _ _ (goods_whole cs h1))))))
    · have e : ((List.range cs.length).filter fun k => (run 0 (rot cs k)).all (within 100)) = (List.range cs.length).filter (good cs) := List.filter_congr fun k hk => good_within cs k (Nat.le_of_lt (List.mem_range.mp hk)) h8 h5
      rw [e]; rfl
    · unfold nats
      rw [gNe_nil _ (ok_nats _), empty_map]
  rw [step s2, step s3, step s4, step s5, step s6]
structure Goes (l : List XS) (e : DL.Env) : Prop where
  ok : ((xSeqL l e).bind outD).all fun d => isT d = true
theorem asg2 {r : RE Unit} {e : DL.Env} {i j : Nat} {d1 d2 : D} (h : r e () = some (.tup [d1, d2], ())) : rAsg r (gdTup 2 (gdCons (gdName i) (gdCons (gdName j) gdNil))) e () = some (.nx ((e.set i (.sh d1)).set j (.sh d2)) ()) := by
  unfold rAsg
  rw [h]
  rfl
theorem Goes.step {a b : XS} {r : List XS} {e e1 : DL.Env} (h : a e = .ret (.nx e1 ())) (g : Goes (b :: r) e1) : Goes (a :: b :: r) e := ⟨by rw [Lk07.step h]; exact g.ok⟩
theorem Goes.ask {a b : XS} {r : List XS} {e : DL.Env} {m : Int} {k : Int → DL.Env} (hm : 0 < m) (h : xSeqL (a :: b :: r) e = .ask m fun c => xSeqL (b :: r) (k c)) (g : ∀ c, 0 ≤ c → c < m → Goes (b :: r) (k c)) : Goes (a :: b :: r) e := ⟨by rw [h]; exact ⟨hm, fun c h0 h1 => (g c h0 h1).ok⟩⟩
structure Draws (a : XS) (e : DL.Env) (P : DL.Env → Prop) : Prop where
  ok : (a e).all fun o => ∃ e1, o = .nx e1 () ∧ P e1
theorem Goes.draw {a b : XS} {r : List XS} {e : DL.Env} {P : DL.Env → Prop} (h : Draws a e P) (g : ∀ e1, P e1 → Goes (b :: r) e1) : Goes (a :: b :: r) e := ⟨by
  show (((a e).bind _).bind outD).all _
  rw [Tr.bind_assoc, Tr.all_bind]
  refine Tr.all_mono (fun o ho => ?_) _ h.ok
  obtain ⟨e1, q, p⟩ := ho
  rw [q]
  exact (g e1 p).ok⟩
theorem Goes.ask0 {a b : XS} {r : List XS} {e : DL.Env} {m : Int} {k : Int → DL.Env} (hm : 0 < m) (h : a e = .ask m fun c => .ret (.nx (k c) ())) (g : ∀ c, 0 ≤ c → c < m → Goes (b :: r) (k c)) : Goes (a :: b :: r) e := ⟨by
  show (((a e).bind _).bind outD).all _
  rw [h]
  exact ⟨hm, fun c h0 h1 => (g c h0 h1).ok⟩⟩
theorem Goes.rt {a : XS} {e : DL.Env} (h : a e = .ret (.rt (.bl true) ())) : Goes [a] e := ⟨by
  show ((a e).bind outD).all _
  rw [h]
  exact (rfl : isT (.bl true) = true)⟩
theorem mid_ok (cs : List Int) (h1 : 1 ≤ cs.length) (h8 : cs.length ≤ 8) (b : Int) (g : List Nat) (c6 c7 c8 c9 : Cell) : ∃ d9, ∀ x r, xSeqL (h_8 :: h_9 :: h_10 :: x :: r) (tE cs.length cs.sum cs g c6 c7 c8 c9 (.sh (.int b)) .no .no .no .no .no .no .no .no)
    = xSeqL (x :: r) (tE cs.length cs.sum cs g c6 c7 c8 d9 (.sh (.int b)) (.ow (.lst (iL (run b cs)))) .no .no .no .no .no .no .no) := by
  obtain ⟨cj, e9⟩ := ap_loop 11 9 (by decide) cs [] b (tE cs.length cs.sum cs g c6 c7 c8 c9 (.sh (.int b)) (.ow (.lst [.int b])) .no .no .no .no .no .no .no) (by simp; omega) rfl (by simp [tE])
  refine ⟨cj, fun x r => ?_⟩
  have s8 : h_8 (tE cs.length cs.sum cs g c6 c7 c8 c9 (.sh (.int b)) .no .no .no .no .no .no .no .no) = .ret (.nx (tE cs.length cs.sum cs g c6 c7 c8 c9 (.sh (.int b)) (.ow (.lst [.int b])) .no .no .no .no .no .no .no) ()) := lift_nx (set_c (lst1 rfl))
  have s9 : h_9 (tE cs.length cs.sum cs g c6 c7 c8 c9 (.sh (.int b)) (.ow (.lst [.int b])) .no .no .no .no .no .no .no) = .ret (.nx (tE cs.length cs.sum cs g c6 c7 c8 cj (.sh (.int b)) (.ow (.lst (iL (run b cs)))) .no .no .no .no .no .no .no) ()) :=
    lift_nx ((for_go (g := gdName 9) (b := apL 11 9) (ri := rItems (rVar Unit 2)) rfl).trans e9)
  have s10 : h_10 (tE cs.length cs.sum cs g c6 c7 c8 cj (.sh (.int b)) (.ow (.lst (iL (run b cs)))) .no .no .no .no .no .no .no) = .ret (.nx (tE cs.length cs.sum cs g c6 c7 c8 cj (.sh (.int b)) (.ow (.lst (iL (run b cs)))) .no .no .no .no .no .no .no) ()) :=
    lift_nx (skip_ok (truth_eq (bin_eq (call_eq (ds := [.int b, .tup (iL cs)]) rfl (loads_ok b cs (by omega))) (d' := .tup (iL (run b cs))) (de_sh (cb_eq (one_eq rfl) rfl)) (gNe_self (ok_tup_ints _)))))
  rw [step s8, step s9, step s10]
theorem mn_ok (cs : List Int) : gMin' [.lst (iL (run 0 cs))] = some (.sh (.int (lo cs))) := by rw [run_tail]; exact gMin_ints _ _
theorem mx_ok (cs : List Int) : gMax' [.lst (iL (run 0 cs))] = some (.sh (.int (hi cs))) := by rw [run_tail]; exact gMax_ints _ _
theorem z12 (cs : List Int) (h1 : 1 ≤ cs.length) (h8 : cs.length ≤ 8) (b t : Int) (g : List Nat) (c6 c7 c8 c9 : Cell) : h_12 (tE cs.length cs.sum cs g c6 c7 c8 c9 (.sh (.int b)) (.ow (.lst (iL (run b cs)))) (.sh (.int t)) .no .no .no .no .no .no) = .ret (.nx (tE cs.length cs.sum cs g c6 c7 c8 c9 (.sh (.int b)) (.ow (.lst (iL (run b cs)))) (.sh (.int t)) (.ow (.lst (nats (bads t (run b cs))))) .no .no .no .no .no) ()) := by
  have hr := run_len cs b
  have mn := mn_ok cs
  have mx := mx_ok cs
  refine lift_nx (set_c (bad_ok (by omega) ?_ (by simp [wipeE, tE]) (fun k hk => ix_eq rfl rfl (at_lst _ k hk)) fun k hk => rfl))
  rw [hr]
  exact range1_eq (one_eq (de_sh (bin_eq (d := .int cs.length) (d' := .int 1) rfl rfl rfl))) (by omega)
theorem z13 (cs : List Int) (h1 : 1 ≤ cs.length) (h8 : cs.length ≤ 8) (b t : Int) (g : List Nat) (c6 c7 c8 c9 : Cell) : h_13 (tE cs.length cs.sum cs g c6 c7 c8 c9 (.sh (.int b)) (.ow (.lst (iL (run b cs)))) (.sh (.int t)) (.ow (.lst (nats (bads t (run b cs))))) .no .no .no .no .no) = .ret (.nx (tE cs.length cs.sum cs g c6 c7 c8 c9 (.sh (.int b)) (.ow (.lst (iL (run b cs)))) (.sh (.int t)) (.ow (.lst (nats (bads t (run b cs))))) .no .no .no .no .no) ()) := by
  have hr := run_len cs b
  have mn := mn_ok cs
  have mx := mx_ok cs
  refine lift_nx (skip_ok (or_ff (truth_eq (bin_eq (call_eq (ds := [.int t, .int b, .tup (iL cs)]) rfl (can_ok t b cs (by omega))) (d' := .bl (bads t (run b cs)).isEmpty) (de_sh (bin_eq (d := .lst (nats (bads t (run b cs)))) (d' := .lst []) rfl rfl ?_)) (ne_bl _ _ (all_bads _ _)))) (truth_eq (bin_eq (call_eq (ds := [.int t, .int b, .tup (iL cs)]) rfl (first_ok t b cs (by omega))) (first_if (bads t (run b cs)) rfl) (gNe_self (ok_firstD _))))))
  unfold nats
  rw [gEq_nil _ (ok_nats _), empty_map]
theorem z14 (cs : List Int) (h1 : 1 ≤ cs.length) (h8 : cs.length ≤ 8) (b t : Int) (g : List Nat) (c6 c7 c8 c9 : Cell) : h_14 (tE cs.length cs.sum cs g c6 c7 c8 c9 (.sh (.int b)) (.ow (.lst (iL (run b cs)))) (.sh (.int t)) (.ow (.lst (nats (bads t (run b cs))))) .no .no .no .no .no) = .ret (.nx (tE cs.length cs.sum cs g c6 c7 c8 c9 (.sh (.int b)) (.ow (.lst (iL (run b cs)))) (.sh (.int t)) (.ow (.lst (nats (bads t (run b cs))))) (.ow (.lst (iL (run 0 cs)))) .no .no .no .no) ()) := by
  have hr := run_len cs b
  have mn := mn_ok cs
  have mx := mx_ok cs
  have e : (run b cs).map (fun x => D.int (x - b)) = iL (run 0 cs) := by
    have := congrArg (List.map D.int) (run_shift cs b b)
    rw [List.map_map, Int.sub_self] at this
    exact this
  refine lift_nx (set_c ?_)
  rw [← e]
  exact rlc_map (c := D.int) (xs := run b cs) (fun x => .int (x - b)) rfl (by omega) fun x hx => ⟨_, rfl, rfl⟩
theorem z15 (cs : List Int) (h1 : 1 ≤ cs.length) (h8 : cs.length ≤ 8) (b t : Int) (g : List Nat) (c6 c7 c8 c9 : Cell) : h_15 (tE cs.length cs.sum cs g c6 c7 c8 c9 (.sh (.int b)) (.ow (.lst (iL (run b cs)))) (.sh (.int t)) (.ow (.lst (nats (bads t (run b cs))))) (.ow (.lst (iL (run 0 cs)))) .no .no .no .no) = .ret (.nx (tE cs.length cs.sum cs g c6 c7 c8 c9 (.sh (.int b)) (.ow (.lst (iL (run b cs)))) (.sh (.int t)) (.ow (.lst (nats (bads t (run b cs))))) (.ow (.lst (iL (run 0 cs)))) .no .no .no .no) ()) := by
  have hr := run_len cs b
  have mn := mn_ok cs
  have mx := mx_ok cs
  exact lift_nx (skip_ok (or_ff (truth_eq (bin_eq (call_eq (ds := [.tup (iL cs)]) rfl (begin_ok cs (by omega))) (de_sh (bin_eq (d := .int 0) (d' := .int (lo cs)) rfl (de_sh (cb_eq (one_eq rfl) mn)) rfl)) (gNe_self (ok_int _ _)))) (truth_eq (bin_eq (call_eq (ds := [.tup (iL cs)]) rfl (room_ok cs (by omega))) (de_sh (bin_eq (d := .int (hi cs)) (d' := .int (lo cs)) (de_sh (cb_eq (one_eq rfl) mx)) (de_sh (cb_eq (one_eq rfl) mn)) rfl)) (gNe_self (ok_int _ _))))))
theorem z16 (cs : List Int) (h1 : 1 ≤ cs.length) (h8 : cs.length ≤ 8) (b t : Int) (g : List Nat) (c6 c7 c8 c9 : Cell) : h_16 (tE cs.length cs.sum cs g c6 c7 c8 c9 (.sh (.int b)) (.ow (.lst (iL (run b cs)))) (.sh (.int t)) (.ow (.lst (nats (bads t (run b cs))))) (.ow (.lst (iL (run 0 cs)))) .no .no .no .no) = .ret (.nx (tE cs.length cs.sum cs g c6 c7 c8 c9 (.sh (.int b)) (.ow (.lst (iL (run b cs)))) (.sh (.int t)) (.ow (.lst (nats (bads t (run b cs))))) (.ow (.lst (iL (run 0 cs)))) (.sh (.int (hi cs - lo cs))) .no .no .no) ()) := by
  have hr := run_len cs b
  have mn := mn_ok cs
  have mx := mx_ok cs
  exact lift_nx (set_sh (de_sh (bin_eq (d := .int (hi cs)) (d' := .int (lo cs)) (de_sh (cb_eq (one_eq rfl) mx)) (de_sh (cb_eq (one_eq rfl) mn)) rfl)))
theorem z17 (cs : List Int) (h1 : 1 ≤ cs.length) (h8 : cs.length ≤ 8) (b t : Int) (g : List Nat) (c6 c7 c8 c9 : Cell) : h_17 (tE cs.length cs.sum cs g c6 c7 c8 c9 (.sh (.int b)) (.ow (.lst (iL (run b cs)))) (.sh (.int t)) (.ow (.lst (nats (bads t (run b cs))))) (.ow (.lst (iL (run 0 cs)))) (.sh (.int (hi cs - lo cs))) .no .no .no) = .ret (.nx (tE cs.length cs.sum cs g c6 c7 c8 c9 (.sh (.int b)) (.ow (.lst (iL (run b cs)))) (.sh (.int t)) (.ow (.lst (nats (bads t (run b cs))))) (.ow (.lst (iL (run 0 cs)))) (.sh (.int (hi cs - lo cs))) .no .no .no) ()) := by
  have hr := run_len cs b
  have mn := mn_ok cs
  have mx := mx_ok cs
  refine lift_nx (skip_ok (truth_eq (bin_eq (call_eq (ds := [.int t, .tup (iL cs)]) rfl (begins_ok t cs (by omega))) (d' := begins t cs) ?_ (gNe_self (ok_begins _ _)))))
  have hc : leI (hi cs - lo cs) t = leI (0 - lo cs) (t - hi cs) := by
    unfold leI
    rw [Bool.eq_iff_iff, decide_eq_true_eq, decide_eq_true_eq]
    omega
  unfold begins
  rw [← hc]
  cases e : leI (hi cs - lo cs) t with
  | true =>
    refine (if_te (truth_eq (bin_eq (d := .int (hi cs - lo cs)) (d' := .int t) rfl rfl (by show some (Cell.sh (.bl (leI (hi cs - lo cs) t))) = _; rw [e])))).trans ?_
    exact pair_ok (de_sh (bin_eq (d := .int 0) (d' := .int (lo cs)) rfl (de_sh (cb_eq (one_eq rfl) mn)) rfl)) (de_sh (bin_eq (d := .int t) (d' := .int (hi cs)) rfl (de_sh (cb_eq (one_eq rfl) mx)) rfl))
  | false =>
    refine (if_fe (truth_eq (bin_eq (d := .int (hi cs - lo cs)) (d' := .int t) rfl rfl (by show some (Cell.sh (.bl (leI (hi cs - lo cs) t))) = _; rw [e])))).trans ?_
    rfl
theorem z18 (cs : List Int) (h1 : 1 ≤ cs.length) (h8 : cs.length ≤ 8) (b t : Int) (g : List Nat) (c6 c7 c8 c9 : Cell) (k : Nat) (hk : k < cs.length) (q1 : r_best_start [.tup (iL cs)] = some (.tup [.int k, .int (lb cs k)])) (q2 : ∀ j, j < cs.length → lb cs k ≤ lb cs j) : h_18 (tE cs.length cs.sum cs g c6 c7 c8 c9 (.sh (.int b)) (.ow (.lst (iL (run b cs)))) (.sh (.int t)) (.ow (.lst (nats (bads t (run b cs))))) (.ow (.lst (iL (run 0 cs)))) (.sh (.int (hi cs - lo cs))) .no .no .no) = .ret (.nx (tE cs.length cs.sum cs g c6 c7 c8 c9 (.sh (.int b)) (.ow (.lst (iL (run b cs)))) (.sh (.int t)) (.ow (.lst (nats (bads t (run b cs))))) (.ow (.lst (iL (run 0 cs)))) (.sh (.int (hi cs - lo cs))) (.sh (.int k)) (.sh (.int (lb cs k))) .no) ()) := by
  have hr := run_len cs b
  have mn := mn_ok cs
  have mx := mx_ok cs
  exact lift_nx (asg2 (call_eq (ds := [.tup (iL cs)]) rfl q1))
theorem z19 (cs : List Int) (h1 : 1 ≤ cs.length) (h8 : cs.length ≤ 8) (b t : Int) (g : List Nat) (c6 c7 c8 c9 : Cell) (k : Nat) (hk : k < cs.length) (q1 : r_best_start [.tup (iL cs)] = some (.tup [.int k, .int (lb cs k)])) (q2 : ∀ j, j < cs.length → lb cs k ≤ lb cs j) : h_19 (tE cs.length cs.sum cs g c6 c7 c8 c9 (.sh (.int b)) (.ow (.lst (iL (run b cs)))) (.sh (.int t)) (.ow (.lst (nats (bads t (run b cs))))) (.ow (.lst (iL (run 0 cs)))) (.sh (.int (hi cs - lo cs))) (.sh (.int k)) (.sh (.int (lb cs k))) .no) = .ret (.nx (tE cs.length cs.sum cs g c6 c7 c8 c9 (.sh (.int b)) (.ow (.lst (iL (run b cs)))) (.sh (.int t)) (.ow (.lst (nats (bads t (run b cs))))) (.ow (.lst (iL (run 0 cs)))) (.sh (.int (hi cs - lo cs))) (.sh (.int k)) (.sh (.int (lb cs k))) (.sh (.bl true))) ()) := by
  have hr := run_len cs b
  have mn := mn_ok cs
  have mx := mx_ok cs
  obtain ⟨tl, t1, t2⟩ := min_lb cs k hk q2
  refine lift_nx (set_sh ?_)
  unfold rAndV
  rw [de_sh (bin_eq (d := .int (lb cs k)) (d' := .int (lb cs k)) rfl (call_eq (ds := [.tup (iL (rot cs k))]) (one_eq (call_eq (ds := [.tup (iL cs), .int k]) rfl (round_ok cs k (by omega) (by omega)))) (begin_ok (rot cs k) (by rw [rot_len cs k (by omega)]; omega))) (gEq_self (ok_int _ _)))]
  refine de_sh (bin_eq (d := .int (lb cs k)) (d' := .int (lb cs k)) rfl (de_sh (cb_eq (one_eq (de_ow (rlc_map (c := fun (j : Nat) => D.int j) (xs := List.range cs.length) (fun j => .int (lb cs j)) ?_ (by rw [List.length_range]; omega) fun j hj => ⟨_, rfl, ?_⟩))) ?_)) (gEq_self (ok_int _ _)))
  · exact range1_eq (n := cs.length) (one_eq rfl) (by omega)
  · have hj' := List.mem_range.mp hj
    exact call_eq (ds := [.tup (iL (rot cs j))]) (one_eq (call_eq (ds := [.tup (iL cs), .int j]) rfl (round_ok cs j (by omega) (by omega)))) (begin_ok (rot cs j) (by rw [rot_len cs j (by omega)]; omega))
  · have e : (List.range cs.length).map (fun j => D.int (lb cs j)) = iL (lb cs 0 :: tl) := by
      rw [← t1, iL, List.map_map]; rfl
    rw [e, gMin_ints, t2]
theorem z20 (cs : List Int) (h1 : 1 ≤ cs.length) (h8 : cs.length ≤ 8) (b t : Int) (g : List Nat) (c6 c7 c8 c9 : Cell) (k : Nat) (hk : k < cs.length) (q1 : r_best_start [.tup (iL cs)] = some (.tup [.int k, .int (lb cs k)])) (q2 : ∀ j, j < cs.length → lb cs k ≤ lb cs j) : h_20 (tE cs.length cs.sum cs g c6 c7 c8 c9 (.sh (.int b)) (.ow (.lst (iL (run b cs)))) (.sh (.int t)) (.ow (.lst (nats (bads t (run b cs))))) (.ow (.lst (iL (run 0 cs)))) (.sh (.int (hi cs - lo cs))) (.sh (.int k)) (.sh (.int (lb cs k))) (.sh (.bl true))) = .ret (.rt (.bl true) ()) := by
  have hr := run_len cs b
  have mn := mn_ok cs
  have mx := mx_ok cs
  have e : (rRet (rAndV (rVar _ 18) (rDe (rBin gEq (rCall r_round_from (rCons (rVar _ 2) (rCons (rVar _ 16) (rNil _)))) (rDe (rBin gAdd (rDe (rSl (rVarB _ 2) (rOSome (rVar _ 16)) (rONone _))) (rDe (rSl (rVarB _ 2) (rONone _) (rOSome (rVar _ 16)))))))))) (tE cs.length cs.sum cs g c6 c7 c8 c9 (.sh (.int b)) (.ow (.lst (iL (run b cs)))) (.sh (.int t)) (.ow (.lst (nats (bads t (run b cs))))) (.ow (.lst (iL (run 0 cs)))) (.sh (.int (hi cs - lo cs))) (.sh (.int k)) (.sh (.int (lb cs k))) (.sh (.bl true))) () = some (.rt (.bl true) ()) :=
    ret_eq (de_sh (bin_eq (call_eq (ds := [.tup (iL cs), .int k]) rfl (round_ok cs k (by omega) (by omega))) (cut_ok (i := 2) (j := 16) rfl rfl (by omega) (by omega)) (gEq_self (ok_tup_ints _))))
  show xLiftS _ _ = _
  unfold xLiftS
  rw [e]
theorem end_ok (cs : List Int) (h1 : 1 ≤ cs.length) (h8 : cs.length ≤ 8) (b t : Int) (g : List Nat) (c6 c7 c8 c9 : Cell) : Goes [h_12, h_13, h_14, h_15, h_16, h_17, h_18, h_19, h_20] (tE cs.length cs.sum cs g c6 c7 c8 c9 (.sh (.int b)) (.ow (.lst (iL (run b cs)))) (.sh (.int t)) .no .no .no .no .no .no) := by
  have e := best_ok cs (by omega) h1
  cases e with
  | intro k hk =>
    refine Goes.step (z12 cs h1 h8 b t g c6 c7 c8 c9) ?_
    refine Goes.step (z13 cs h1 h8 b t g c6 c7 c8 c9) ?_
    refine Goes.step (z14 cs h1 h8 b t g c6 c7 c8 c9) ?_
    refine Goes.step (z15 cs h1 h8 b t g c6 c7 c8 c9) ?_
    refine Goes.step (z16 cs h1 h8 b t g c6 c7 c8 c9) ?_
    refine Goes.step (z17 cs h1 h8 b t g c6 c7 c8 c9) ?_
    refine Goes.step (z18 cs h1 h8 b t g c6 c7 c8 c9 k hk.1 hk.2.1 hk.2.2) ?_
    refine Goes.step (z19 cs h1 h8 b t g c6 c7 c8 c9 k hk.1 hk.2.1 hk.2.2) ?_
    exact Goes.rt (z20 cs h1 h8 b t g c6 c7 c8 c9 k hk.1 hk.2.1 hk.2.2)
/-! ### the numbers drawn -/
def five (l : List D) (n : Nat) : Prop := ∃ cs : List Int, l = iL cs ∧ cs.length = n ∧ ∀ c ∈ cs, c ≤ 5
theorem draws_all {e : DL.Env} (h0 : e[0]? = some (.sh .wd)) (h6 : 6 < e.length) : ∀ ks : List D, (xlcL (gdName 6) xYes (xDe (xBin (gI pSub) (xCallW x__law_next (xCons (xLift (rVar _ 0)) (xCons (xLift (rC _ (.int 11))) xNil))) (xLift (rC _ (.int 5))))) e ks).all fun l => five l ks.length
  | [] => ⟨[], rfl, rfl, fun c hc => by cases hc⟩
  | d :: ks => by
    have h1 : (e.set 6 (.sh d))[0]? = some (.sh .wd) := by rw [List.getElem?_set_ne (by decide)]; exact h0
    have e1 : xDe (xBin (gI pSub) (xCallW x__law_next (xCons (xLift (rVar _ 0)) (xCons (xLift (rC _ (.int 11))) xNil))) (xLift (rC _ (.int 5)))) (e.set 6 (.sh d)) = .ask 11 fun c => .ret (.int (c - 5)) := by
      have h2 : ltI 0 11 = true := rfl
      simp [xDe, xBin, xCallW, xCons, xNil, xLift, rVar, rC, h1, x__law_next, h2, Tr.bind, gI, pSub, Tr.opt]
    rw [xlcL]
    show ((xDe _ (e.set 6 (.sh d))).bind _).all _
    rw [e1]
    refine ⟨by decide, fun c hc0 hc1 => ?_⟩
    show ((xlcL _ _ _ e ks).bind _).all _
    rw [Tr.all_bind]
    refine Tr.all_mono (fun l hl => ?_) _ (draws_all h0 h6 ks)
    obtain ⟨cs, q1, q2, q3⟩ := hl
    refine ⟨(c - 5) :: cs, by rw [q1]; rfl, by rw [List.length_cons, q2]; rfl, fun x hx => ?_⟩
    rcases List.mem_cons.mp hx with rfl | hx
    · omega
    · exact q3 x hx
theorem rest_ok (cs : List Int) (h1 : 1 ≤ cs.length) (h8 : cs.length ≤ 8) (h5 : ∀ c ∈ cs, c ≤ 5) : Goes [h_2, h_3, h_4, h_5, h_6, h_7, h_8, h_9, h_10, h_11, h_12, h_13, h_14, h_15, h_16, h_17, h_18, h_19, h_20] [.sh .wd, .sh (.int cs.length), .sh (.tup (iL cs)), .no, .no, .no, .no, .no, .no, .no, .no, .no, .no, .no, .no, .no, .no, .no, .no] := by
  obtain ⟨c6, c7, c8, c9, e⟩ := head_ok cs h1 h8 h5
  have g7 : Goes [h_7, h_8, h_9, h_10, h_11, h_12, h_13, h_14, h_15, h_16, h_17, h_18, h_19, h_20] (sE cs.length cs.sum cs ((List.range cs.length).filter (good cs)) c6 c7 c8 c9) := by
    refine Goes.ask (m := 20) (by decide) (ask_set (i := 10) (by decide) rfl) fun b hb0 hb1 => ?_
    obtain ⟨d9, e10⟩ := mid_ok cs h1 h8 b ((List.range cs.length).filter (good cs)) c6 c7 c8 c9
    have g11 : Goes [h_11, h_12, h_13, h_14, h_15, h_16, h_17, h_18, h_19, h_20] (tE cs.length cs.sum cs ((List.range cs.length).filter (good cs)) c6 c7 c8 d9 (.sh (.int b)) (.ow (.lst (iL (run b cs)))) .no .no .no .no .no .no .no) := by
      refine Goes.ask (m := 25) (by decide) (ask_set (i := 12) (by decide) rfl) fun t ht0 ht1 => ?_
      exact end_ok cs h1 h8 b t ((List.range cs.length).filter (good cs)) c6 c7 c8 d9
    have g8 : Goes [h_8, h_9, h_10, h_11, h_12, h_13, h_14, h_15, h_16, h_17, h_18, h_19, h_20] (tE cs.length cs.sum cs ((List.range cs.length).filter (good cs)) c6 c7 c8 c9 (.sh (.int b)) .no .no .no .no .no .no .no .no) := ⟨by rw [e10]; exact g11.ok⟩
    exact g8
  exact ⟨by rw [e]; exact g7.ok⟩
theorem tup_set {r : XC} {e : DL.Env} {t : Tr (List D)} (h : r e = t.bind fun ys => .ret (.ow (.lst ys))) : xSet 2 (xSh (xDe (xCB gTuple (xCons (xDe r) xNil)))) e = t.bind fun ys => .ret (.nx (e.set 2 (.sh (.tup ys))) ()) := by
  simp only [xSet, xSh, xDe, xCB, xCons, xNil, h, Tr.bind_assoc]
  rfl
theorem changes_all (n : Nat) (h1 : 1 ≤ n) (h8 : n ≤ 8) : Draws h_1 [.sh .wd, .sh (.int n), .no, .no, .no, .no, .no, .no, .no, .no, .no, .no, .no, .no, .no, .no, .no, .no, .no] fun e1 => ∃ cs : List Int, e1 = [.sh .wd, .sh (.int n), .sh (.tup (iL cs)), .no, .no, .no, .no, .no, .no, .no, .no, .no, .no, .no, .no, .no, .no, .no, .no] ∧ cs.length = n ∧ ∀ c ∈ cs, c ≤ 5 := by
  constructor
  have hm := most_1000
  have d := draws_all (e := wipeE [.sh .wd, .sh (.int n), .no, .no, .no, .no, .no, .no, .no, .no, .no, .no, .no, .no, .no, .no, .no, .no, .no] [6]) rfl (by simp [wipeE]) (rangeI n 0)
  rw [rangeI_length] at d
  have hr : okR (n : Int) = true := okR_small (by omega) (by omega)
  have e1 : ((xLc (xRange1 (xCons (xLift (rVar _ 1)) xNil)) (gdName 6) xYes (xDe (xBin (gI pSub) (xCallW x__law_next (xCons (xLift (rVar _ 0)) (xCons (xLift (rC _ (.int 11))) xNil))) (xLift (rC _ (.int 5))))) [6]) : XC) [.sh .wd, .sh (.int n), .no, .no, .no, .no, .no, .no, .no, .no, .no, .no, .no, .no, .no, .no, .no, .no, .no] = (xlcL (gdName 6) xYes (xDe (xBin (gI pSub) (xCallW x__law_next (xCons (xLift (rVar _ 0)) (xCons (xLift (rC _ (.int 11))) xNil))) (xLift (rC _ (.int 5))))) (wipeE [.sh .wd, .sh (.int n), .no, .no, .no, .no, .no, .no, .no, .no, .no, .no, .no, .no, .no, .no, .no, .no, .no] [6]) (rangeI n 0)).bind fun ys => .ret (.ow (.lst ys)) := by
    unfold xLc
    have e0 : xRange1 (xCons (xLift (rVar Unit 1)) xNil) [.sh .wd, .sh (.int n), .no, .no, .no, .no, .no, .no, .no, .no, .no, .no, .no, .no, .no, .no, .no, .no, .no] = .ret (rangeI n 0) := by
      simp [xRange1, xCons, xNil, xLift, rVar, Tr.bind, hr]
    rw [e0]
    show (if (rangeI n 0).length ≤ most then _ else _) = _
    rw [if_pos (by rw [rangeI_length]; omega)]
  have e2 := tup_set e1
  rw [show h_1 _ = _ from e2, Tr.all_bind]
  refine Tr.all_mono (fun l hl => ?_) _ d
  obtain ⟨cs, q1, q2, q3⟩ := hl
  subst q1
  exact ⟨_, rfl, cs, rfl, q2, q3⟩
theorem holds_all : (x__law_holds [.wd]).all (fun d => isT d = true) := by
  refine fn_all rfl ?_
  have e0 : h_0 (DL.envOf 19 [.wd]) = .ask 8 fun c => .ret (.nx [.sh .wd, .sh (.int (1 + c)), .no, .no, .no, .no, .no, .no, .no, .no, .no, .no, .no, .no, .no, .no, .no, .no, .no] ()) := by
    have h2 : ltI 0 8 = true := rfl
    simp [h_0, xSet, xSh, xDe, xBin, xCallW, xCons, xNil, xLift, rVar, rC, x__law_next, h2, Tr.bind, gAdd, Tr.opt, DL.envOf, List.replicate]
  have g : Goes (h_0 :: h_1 :: [h_2, h_3, h_4, h_5, h_6, h_7, h_8, h_9, h_10, h_11, h_12, h_13, h_14, h_15, h_16, h_17, h_18, h_19, h_20]) (DL.envOf 19 [.wd]) := by
    refine Goes.ask0 (by decide) e0 fun c hc0 hc1 => ?_
    obtain ⟨n, hn⟩ : ∃ n : Nat, 1 + c = (n : Int) := ⟨(1 + c).toNat, by omega⟩
    rw [hn]
    refine Goes.draw (changes_all n (by omega) (by omega)) fun e1 p => ?_
    obtain ⟨cs, q1, q2, q3⟩ := p
    rw [q1, ← q2]
    have h1 : 1 ≤ cs.length := by rw [q2]; clear q1 e1 q3 e0; omega
    have h8 : cs.length ≤ 8 := by rw [q2]; clear q1 e1 q3 e0 h1; omega
    exact rest_ok cs h1 h8 q3
  exact g.ok

theorem all_mk {l : PySem.W.OpenLaw} {w : World} {K : PySem.W.Frag} {h : Heap} {mg : Str → Option Value} {fa f0 f1 f2 f3 f4 f5 f6 f7 f8 f9 f10 f11 f12 : Addr} (X : K.In h) (G : h.Ns mainGlobals mg) (hfa : mg "law" = some (.ref fa))
    {od0 an0 od1 an1 od2 an2 od3 an3 od4 an4 od5 an5 od6 an6 od7 an7 od8 an8 od9 an9 od10 an10 od11 an11 od12 an12 : Option Addr} {sl0 sl1 sl2 sl3 sl4 sl5 sl6 sl7 sl8 sl9 sl10 sl11 sl12 : Array (Option Value)} {oc0 kV0 dc0 pm0 cd0 ct0 oc1 kV1 dc1 pm1 cd1 ct1 oc2 kV2 dc2 pm2 cd2 ct2 oc3 kV3 dc3 pm3 cd3 ct3 oc4 kV4 dc4 pm4 cd4 ct4 oc5 kV5 dc5 pm5 cd5 ct5 oc6 kV6 dc6 pm6 cd6 ct6 oc7 kV7 dc7 pm7 cd7 ct7 oc8 kV8 dc8 pm8 cd8 ct8 oc9 kV9 dc9 pm9 cd9 ct9 oc10 kV10 dc10 pm10 cd10 ct10 oc11 kV11 dc11 pm11 cd11 ct11 oc12 kV12 dc12 pm12 cd12 ct12 : Value}
    (a0 : PySem.W.nsIn K mainGlobals "loads" = some (some (.ref f0))) (l0 : K.lookup f0 = some ⟨oc0, od0, .func (PySem.W.fnOf "loads" "loads" (defArgs s_loads) (defBody s_loads) (defScope s_loads) .none kV0 dc0 pm0 an0 cd0 ct0), sl0⟩) (c0 : PySem.W.codeIn K cd0 "loads" = true) (k0 : PySem.W.keepIn K (.ref f0) = true)
    (a1 : PySem.W.nsIn K mainGlobals "can_go" = some (some (.ref f1))) (l1 : K.lookup f1 = some ⟨oc1, od1, .func (PySem.W.fnOf "can_go" "can_go" (defArgs s_can_go) (defBody s_can_go) (defScope s_can_go) .none kV1 dc1 pm1 an1 cd1 ct1), sl1⟩) (c1 : PySem.W.codeIn K cd1 "can_go" = true) (k1 : PySem.W.keepIn K (.ref f1) = true)
    (a2 : PySem.W.nsIn K mainGlobals "first_bad" = some (some (.ref f2))) (l2 : K.lookup f2 = some ⟨oc2, od2, .func (PySem.W.fnOf "first_bad" "first_bad" (defArgs s_first_bad) (defBody s_first_bad) (defScope s_first_bad) .none kV2 dc2 pm2 an2 cd2 ct2), sl2⟩) (c2 : PySem.W.codeIn K cd2 "first_bad" = true) (k2 : PySem.W.keepIn K (.ref f2) = true)
    (a3 : PySem.W.nsIn K mainGlobals "least_begin" = some (some (.ref f3))) (l3 : K.lookup f3 = some ⟨oc3, od3, .func (PySem.W.fnOf "least_begin" "least_begin" (defArgs s_least_begin) (defBody s_least_begin) (defScope s_least_begin) .none kV3 dc3 pm3 an3 cd3 ct3), sl3⟩) (c3 : PySem.W.codeIn K cd3 "least_begin" = true) (k3 : PySem.W.keepIn K (.ref f3) = true)
    (a4 : PySem.W.nsIn K mainGlobals "least_room" = some (some (.ref f4))) (l4 : K.lookup f4 = some ⟨oc4, od4, .func (PySem.W.fnOf "least_room" "least_room" (defArgs s_least_room) (defBody s_least_room) (defScope s_least_room) .none kV4 dc4 pm4 an4 cd4 ct4), sl4⟩) (c4 : PySem.W.codeIn K cd4 "least_room" = true) (k4 : PySem.W.keepIn K (.ref f4) = true)
    (a5 : PySem.W.nsIn K mainGlobals "begins_for" = some (some (.ref f5))) (l5 : K.lookup f5 = some ⟨oc5, od5, .func (PySem.W.fnOf "begins_for" "begins_for" (defArgs s_begins_for) (defBody s_begins_for) (defScope s_begins_for) .none kV5 dc5 pm5 an5 cd5 ct5), sl5⟩) (c5 : PySem.W.codeIn K cd5 "begins_for" = true) (k5 : PySem.W.keepIn K (.ref f5) = true)
    (a6 : PySem.W.nsIn K mainGlobals "round_from" = some (some (.ref f6))) (l6 : K.lookup f6 = some ⟨oc6, od6, .func (PySem.W.fnOf "round_from" "round_from" (defArgs s_round_from) (defBody s_round_from) (defScope s_round_from) .none kV6 dc6 pm6 an6 cd6 ct6), sl6⟩) (c6 : PySem.W.codeIn K cd6 "round_from" = true) (k6 : PySem.W.keepIn K (.ref f6) = true)
    (a7 : PySem.W.nsIn K mainGlobals "good_starts" = some (some (.ref f7))) (l7 : K.lookup f7 = some ⟨oc7, od7, .func (PySem.W.fnOf "good_starts" "good_starts" (defArgs s_good_starts) (defBody s_good_starts) (defScope s_good_starts) .none kV7 dc7 pm7 an7 cd7 ct7), sl7⟩) (c7 : PySem.W.codeIn K cd7 "good_starts" = true) (k7 : PySem.W.keepIn K (.ref f7) = true)
    (a8 : PySem.W.nsIn K mainGlobals "best_start" = some (some (.ref f8))) (l8 : K.lookup f8 = some ⟨oc8, od8, .func (PySem.W.fnOf "best_start" "best_start" (defArgs s_best_start) (defBody s_best_start) (defScope s_best_start) .none kV8 dc8 pm8 an8 cd8 ct8), sl8⟩) (c8 : PySem.W.codeIn K cd8 "best_start" = true) (k8 : PySem.W.keepIn K (.ref f8) = true)
    (a9 : PySem.W.nsIn K mainGlobals "_law_draws" = some (some (.ref f9))) (l9 : K.lookup f9 = some ⟨oc9, od9, .func (PySem.W.fnOf "_law_draws" "_law_draws" (defArgs s__law_draws) (defBody s__law_draws) (defScope s__law_draws) .none kV9 dc9 pm9 an9 cd9 ct9), sl9⟩) (c9 : PySem.W.codeIn K cd9 "_law_draws" = true) (k9 : PySem.W.keepIn K (.ref f9) = true)
    (a10 : PySem.W.nsIn K mainGlobals "_law_next" = some (some (.ref f10))) (l10 : K.lookup f10 = some ⟨oc10, od10, .func (PySem.W.fnOf "_law_next" "_law_next" (defArgs s__law_next) (defBody s__law_next) (defScope s__law_next) .none kV10 dc10 pm10 an10 cd10 ct10), sl10⟩) (c10 : PySem.W.codeIn K cd10 "_law_next" = true) (k10 : PySem.W.keepIn K (.ref f10) = true)
    (a11 : PySem.W.nsIn K mainGlobals "_law_holds" = some (some (.ref f11))) (l11 : K.lookup f11 = some ⟨oc11, od11, .func (PySem.W.fnOf "_law_holds" "_law_holds" (defArgs s__law_holds) (defBody s__law_holds) (defScope s__law_holds) .none kV11 dc11 pm11 an11 cd11 ct11), sl11⟩) (c11 : PySem.W.codeIn K cd11 "_law_holds" = true) (k11 : PySem.W.keepIn K (.ref f11) = true)
    (a12 : PySem.W.nsIn K mainGlobals "law" = some (some (.ref f12))) (l12 : K.lookup f12 = some ⟨oc12, od12, .func (PySem.W.fnOf "law" "law" (defArgs s_law) (defBody s_law) (defScope s_law) .none kV12 dc12 pm12 an12 cd12 ct12), sl12⟩) (c12 : PySem.W.codeIn K cd12 "law" = true) (k12 : PySem.W.keepIn K (.ref f12) = true)
    (z_len : PySem.W.nsIn K mainGlobals "len" = some none)
    (z_abs : PySem.W.nsIn K mainGlobals "abs" = some none)
    (z_int : PySem.W.nsIn K mainGlobals "int" = some none)
    (z_range : PySem.W.nsIn K mainGlobals "range" = some none)
    (z_tuple : PySem.W.nsIn K mainGlobals "tuple" = some none)
    (z_all : PySem.W.nsIn K mainGlobals "all" = some none)
    (z_max : PySem.W.nsIn K mainGlobals "max" = some none)
    (z_min : PySem.W.nsIn K mainGlobals "min" = some none)
    (z_sum : PySem.W.nsIn K mainGlobals "sum" = some none)
    : ∃ fd : FuncData, (∀ (s : Shared) (v : Value), BindsTo s fd ⟨[v], []⟩ [("script", v)]) ∧ ∀ base : Heap, K.In base → base.Ns mainGlobals mg → FnOk l.prog w K mg base CX0 5 fa fd ["script"] (spLaw K) := by
  have e := hfa.symm.trans (PySem.W.mg_of X G a12)
  cases e
  have M : Mg mg := ⟨PySem.W.mg_none_of X G z_len, PySem.W.mg_none_of X G z_abs, PySem.W.mg_none_of X G z_int, PySem.W.mg_none_of X G z_range, PySem.W.mg_none_of X G z_tuple, PySem.W.mg_none_of X G z_all, PySem.W.mg_none_of X G z_max, PySem.W.mg_none_of X G z_min, PySem.W.mg_none_of X G z_sum⟩
  have F0 := fun_mk (st := s_loads) l0 c0 k0
  have F1 := fun_mk (st := s_can_go) l1 c1 k1
  have F2 := fun_mk (st := s_first_bad) l2 c2 k2
  have F3 := fun_mk (st := s_least_begin) l3 c3 k3
  have F4 := fun_mk (st := s_least_room) l4 c4 k4
  have F5 := fun_mk (st := s_begins_for) l5 c5 k5
  have F6 := fun_mk (st := s_round_from) l6 c6 k6
  have F7 := fun_mk (st := s_good_starts) l7 c7 k7
  have F8 := fun_mk (st := s_best_start) l8 c8 k8
  have F9 := fun_mk (st := s__law_draws) l9 c9 k9
  have F10 := fun_mk (st := s__law_next) l10 c10 k10
  have F11 := fun_mk (st := s__law_holds) l11 c11 k11
  have F12 := fun_mk (st := s_law) l12 c12 k12
  have b0 := F0.binds (ps := ["begin", "changes"]) fun _ _ _ _ _ _ us hl => match us, hl with | [_, _], _ => rfl
  have b1 := F1.binds (ps := ["room", "begin", "changes"]) fun _ _ _ _ _ _ us hl => match us, hl with | [_, _, _], _ => rfl
  have b2 := F2.binds (ps := ["room", "begin", "changes"]) fun _ _ _ _ _ _ us hl => match us, hl with | [_, _, _], _ => rfl
  have b3 := F3.binds (ps := ["changes"]) fun _ _ _ _ _ _ us hl => match us, hl with | [_], _ => rfl
  have b4 := F4.binds (ps := ["changes"]) fun _ _ _ _ _ _ us hl => match us, hl with | [_], _ => rfl
  have b5 := F5.binds (ps := ["room", "changes"]) fun _ _ _ _ _ _ us hl => match us, hl with | [_, _], _ => rfl
  have b6 := F6.binds (ps := ["changes", "place"]) fun _ _ _ _ _ _ us hl => match us, hl with | [_, _], _ => rfl
  have b7 := F7.binds (ps := ["room", "begin", "changes"]) fun _ _ _ _ _ _ us hl => match us, hl with | [_, _, _], _ => rfl
  have b8 := F8.binds (ps := ["changes"]) fun _ _ _ _ _ _ us hl => match us, hl with | [_], _ => rfl
  have b9 := F9.binds (ps := ["script", "many"]) fun _ _ _ _ _ _ us hl => match us, hl with | [_, _], _ => rfl
  have b10 := F10.binds (ps := ["w", "many"]) fun _ _ _ _ _ _ us hl => match us, hl with | [_, _], _ => rfl
  have b11 := F11.binds (ps := ["w"]) fun _ _ _ _ _ _ us hl => match us, hl with | [_], _ => rfl
  refine ⟨PySem.W.fnOf "law" "law" (defArgs s_law) (defBody s_law) (defScope s_law) .none kV12 dc12 pm12 an12 cd12 ct12, fun s v => .of_eq rfl, fun base _ _ => ?_⟩
  have C_loads : Cal l.prog w K mg base "loads" 1 (spD K r_loads) := ⟨f0, _, _, PySem.W.mg_of X G a0, F0.kp, b0, ok_loads F0 M⟩
  have C_can_go : Cal l.prog w K mg base "can_go" 2 (spD K r_can_go) := ⟨f1, _, _, PySem.W.mg_of X G a1, F1.kp, b1, ok_can_go F1 M C_loads⟩
  have C_first_bad : Cal l.prog w K mg base "first_bad" 2 (spD K r_first_bad) := ⟨f2, _, _, PySem.W.mg_of X G a2, F2.kp, b2, ok_first_bad F2 M C_loads⟩
  have C_least_begin : Cal l.prog w K mg base "least_begin" 2 (spD K r_least_begin) := ⟨f3, _, _, PySem.W.mg_of X G a3, F3.kp, b3, ok_least_begin F3 M C_loads⟩
  have C_least_room : Cal l.prog w K mg base "least_room" 2 (spD K r_least_room) := ⟨f4, _, _, PySem.W.mg_of X G a4, F4.kp, b4, ok_least_room F4 M C_loads⟩
  have C_begins_for : Cal l.prog w K mg base "begins_for" 3 (spD K r_begins_for) := ⟨f5, _, _, PySem.W.mg_of X G a5, F5.kp, b5, ok_begins_for F5 M C_least_begin C_loads⟩
  have C_round_from : Cal l.prog w K mg base "round_from" 1 (spD K r_round_from) := ⟨f6, _, _, PySem.W.mg_of X G a6, F6.kp, b6, ok_round_from F6 M⟩
  have C_good_starts : Cal l.prog w K mg base "good_starts" 3 (spD K r_good_starts) := ⟨f7, _, _, PySem.W.mg_of X G a7, F7.kp, b7, ok_good_starts F7 M C_can_go C_round_from⟩
  have C_best_start : Cal l.prog w K mg base "best_start" 3 (spD K r_best_start) := ⟨f8, _, _, PySem.W.mg_of X G a8, F8.kp, b8, ok_best_start F8 M C_least_begin C_round_from⟩
  have C__law_draws : Cal l.prog w K mg base "_law_draws" 1 (spDraws K) := ⟨f9, _, _, PySem.W.mg_of X G a9, F9.kp, b9, ok__law_draws F9 M⟩
  have C__law_next : Cal l.prog w K mg base "_law_next" 1 (spW K (runX x__law_next)) := ⟨f10, _, _, PySem.W.mg_of X G a10, F10.kp, b10, ok__law_next F10 M⟩
  have C__law_holds : Cal l.prog w K mg base "_law_holds" 4 (spW K (runX x__law_holds)) := ⟨f11, _, _, PySem.W.mg_of X G a11, F11.kp, b11, ok__law_holds F11 M C__law_next C_good_starts C_loads C_can_go C_first_bad C_least_begin C_least_room C_begins_for C_best_start C_round_from⟩
  exact ok_law (by decide) F12 M C__law_draws C__law_holds fun S => by
    obtain ⟨d, S1, h1, h2⟩ := Tr.all_run _ holds_all S
    exact ⟨S1, by rw [← isT_eq h2]; exact h1⟩

end Lk07
open PySem PySem.W PyProof.Rows
set_option maxHeartbeats 0 in
theorem PySem.Challenge.cw_bottlesback_k07_whole_known_vans_round_t_holds : PySem.Challenge.rw_bottlesback_k07_whole_known_vans_round_t.Holds := by
  w_on; o_law; k_head; (case hw => w_witness2)
  k_fill
  refine L2.walk_of (l := PySem.Challenge.rw_bottlesback_k07_whole_known_vans_round_t) (n := 63) (k := 5) (x := "script") (CX := fun _ => L2.CX0) (sp := fun w => Lk07.spLaw _) rfl (by decide) rfl ⟨rfl, by decide, by decide⟩ (fun w h Y => PySem.W.kIn_of Y) ?F (fun _ _ a ns hl _ hS => ⟨a, ns, rfl, hS, hl, fun _ => rfl⟩) (fun _ _ _ _ _ h => h)
  case F =>
    intro w mg fa h KX G hmg
    refine' Lk07.all_mk KX G hmg ?a0 ?l0 ?c0 ?k0 ?a1 ?l1 ?c1 ?k1 ?a2 ?l2 ?c2 ?k2 ?a3 ?l3 ?c3 ?k3 ?a4 ?l4 ?c4 ?k4 ?a5 ?l5 ?c5 ?k5 ?a6 ?l6 ?c6 ?k6 ?a7 ?l7 ?c7 ?k7 ?a8 ?l8 ?c8 ?k8 ?a9 ?l9 ?c9 ?k9 ?a10 ?l10 ?c10 ?k10 ?a11 ?l11 ?c11 ?k11 ?a12 ?l12 ?c12 ?k12 ?z_len ?z_abs ?z_int ?z_range ?z_tuple ?z_all ?z_max ?z_min ?z_sum
    (case a0 => k_is)
    (case l0 => k_is)
    (case c0 => k_is)
    (case k0 => k_is)
    (case a1 => k_is)
    (case l1 => k_is)
    (case c1 => k_is)
    (case k1 => k_is)
    (case a2 => k_is)
    (case l2 => k_is)
    (case c2 => k_is)
    (case k2 => k_is)
    (case a3 => k_is)
    (case l3 => k_is)
    (case c3 => k_is)
    (case k3 => k_is)
    (case a4 => k_is)
    (case l4 => k_is)
    (case c4 => k_is)
    (case k4 => k_is)
    (case a5 => k_is)
    (case l5 => k_is)
    (case c5 => k_is)
    (case k5 => k_is)
    (case a6 => k_is)
    (case l6 => k_is)
    (case c6 => k_is)
    (case k6 => k_is)
    (case a7 => k_is)
    (case l7 => k_is)
    (case c7 => k_is)
    (case k7 => k_is)
    (case a8 => k_is)
    (case l8 => k_is)
    (case c8 => k_is)
    (case k8 => k_is)
    (case a9 => k_is)
    (case l9 => k_is)
    (case c9 => k_is)
    (case k9 => k_is)
    (case a10 => k_is)
    (case l10 => k_is)
    (case c10 => k_is)
    (case k10 => k_is)
    (case a11 => k_is)
    (case l11 => k_is)
    (case c11 => k_is)
    (case k11 => k_is)
    (case a12 => k_is)
    (case l12 => k_is)
    (case c12 => k_is)
    (case k12 => k_is)
    (case z_len => k_is)
    (case z_abs => k_is)
    (case z_int => k_is)
    (case z_range => k_is)
    (case z_tuple => k_is)
    (case z_all => k_is)
    (case z_max => k_is)
    (case z_min => k_is)
    (case z_sum => k_is)

